import PyProof.Rows.All
import Wide.All
import OpenK.AllK
import Wide.FinOn
import HandS.ForMost
import HandS.Flow
import HandS.Style
import HandS.StrMore
import KE.KDictKeyed
import HandS.TupAny
import HandS.TupLe
import HandS.IsInst
import HandS.Flt
import HandS.RaiseMore
import HandS.SortInts
import HandS.More
import KE.GoesMore
import PyProof.Draws
import PyProof.EnumMake
import HandS.Zip
import HandS.ExcIs
import HandS.ExcInit
import HandS.ExcField
import HandS.WordsExc
import HandS.HotCalls
import HandS.ExcInitHot
import KE.KExcIs
import PyProof.StrLawsFrom
import KE.SortData
import OpenK.KMeth
import KE.KOpsOwn
import HandS.Property
import HandS.OwnEq
import HandS.Defaults
import PyProof.Rows.StrCountLaw
import PyProof.Rows.StrFoldSign
import KE.KOwnIter
import HandS.IterVal
import HandS.Lambda
import HandS.OwnIter
import HandS.ClsMeth
import KE.KDictCopyH
import HandS.Spec
import HandS.Deep
import HandS.CallLocal
import PySem.Challenge.RW_surespan_k55_machine_accepts
set_option Elab.async false
set_option linter.all false
set_option maxRecDepth 100000
set_option maxHeartbeats 4000000
namespace Sw
open PySem PySem.Spec PyProof.Rows L2
/-- the names of the module, and the world -/
structure Kx where
  fr : PySem.W.Frag
  w : World
instance : Coe Kx PySem.W.Frag := ⟨Kx.fr⟩
noncomputable abbrev _root_.L2.Cx.kx (X : Cx) : Kx := ⟨X.K, X.w⟩
/-- a def as it stands behind the top, whatever its defaults are -/
structure FunG (K : PySem.W.Frag) (x qual : PySem.Str) (st : Stmt) (f : Addr) (fd : FuncData) : Prop where
  ex : ∃ (oc : Value) (od : Option Addr) (dV kV doc pm : Value) (an : Option Addr) (cdv ct : Value) (osl : Array (Option Value)),
    fd = PySem.W.fnOf x qual (defArgs st) (defBody st) (defScope st) dV kV doc pm an cdv ct ∧ K.lookup f = some ⟨oc, od, .func fd, osl⟩ ∧ PySem.W.codeIn K cdv qual = true
theorem fun_g {K : PySem.W.Frag} {x qual : PySem.Str} {st : Stmt} {f : Addr} {fd : FuncData} (F : Fun K x qual st f fd) : FunG K x qual st f fd := by
  obtain ⟨oc, od, kV, doc, pm, an, cdv, ct, osl, e, lk, hcd⟩ := F.ex
  exact ⟨oc, od, .none, kV, doc, pm, an, cdv, ct, osl, e, lk, hcd⟩
theorem FunG.ok {P : Program} {w : World} {K : PySem.W.Frag} {mg : Str → Option Value} {base : Heap} {x qual : Str} {st : Stmt} {f : Addr} {fd : FuncData} {N ps : List Str} {k : Nat} {sp : Sp} (F : FunG K x qual st f fd) (S : FnScope N ps (defScope st)) (len : ∀ vs H Q E, sp vs H Q E → vs.length = ps.length)
    (hbody : ∀ (cdv : Value) (A : Around) (outer : List Env) (s : Shared) (H : Hp) (vs : List V) (Q : VK) (E : XK), Room k (A.deeper (envOfC qual (defScope st) s.heap.objs.size f cdv)) → sp vs H Q E →
      ∃ t, PSs (cxOf CX0 P w K mg base N qual (defScope st) f cdv A outer s H E).nox (defBody st) t ∧ t { nx := fun _ H' => Q .non H', rt := Q } (start N vs) H) : FnOk P w K mg base CX0 (k + 1) f fd ps sp := by
  obtain ⟨oc, od, dV, kV, doc, pm, an, cdv, ct, osl, rfl, lk, hcd⟩ := F.ex
  refine fn_of lk hcd S len fun A outer s H vs Q E hr hsp => ?_
  obtain ⟨t, h, q⟩ := hbody cdv A outer s H vs Q E hr hsp
  exact ⟨t, h.nox, q⟩
inductive D where
  | non | bl (b : Bool) | int (i : Int) | str (s : List Nat) | lst (xs : List D) | tup (xs : List D) | scr (xs : List Int)
  /-- an instance that is not changed any more: its class, its attributes by name -/
  | obj (c : PySem.Str) (ks : List PySem.Str) (xs : List D)
/-- the class of that name stands at C -/
noncomputable def ClsN (K : PySem.W.Frag) (c : PySem.Str) (C : Addr) : Prop := PySem.W.nsIn K mainGlobals c = some (some (.ref C))
theorem ClsN.uniq {K : PySem.W.Frag} {c : PySem.Str} {C C' : Addr} (h : ClsN K c C) (h' : ClsN K c C') : C = C' := by
  unfold ClsN at h h'
  rw [h] at h'
  cases h'
  rfl
mutual
inductive Rep (K : Kx) (F : Hp) : V → D → Prop where
  | non : Rep K F .non .non
  | bl (b : Bool) : Rep K F (.bl b) (.bl b)
  | int (i : Int) : Rep K F (.int i) (.int i)
  | str (s : List Nat) : Rep K F (.str ⟨s.toArray⟩) (.str s)
  | lst {a : Addr} {vs : List V} {ds : List D} : F a = some (.lst vs) → Reps K F vs ds → Rep K F (.ref a) (.lst ds)
  | scr {a : Addr} {xs : List Int} : SqL K F a (xs.map V.int) → Rep K F (.ref a) (.scr xs)
  | tup {a : Addr} {vs : List V} {ds : List D} : SqT K F a vs → Reps K F vs ds → Rep K F (.ref a) (.tup ds)
  | obj {a C dx : Addr} {c : PySem.Str} {ks : List PySem.Str} {vs : List V} {ds : List D} : ClsN K c C → F a = some (.ins C dx (ks.zip vs)) → vs.length = ks.length → Reps K F vs ds → Rep K F (.ref a) (.obj c ks ds)
inductive Reps (K : Kx) (F : Hp) : List V → List D → Prop where
  | nil : Reps K F [] []
  | cons {v : V} {d : D} {vs : List V} {ds : List D} : Rep K F v d → Reps K F vs ds → Reps K F (v :: vs) (d :: ds)
end
theorem same_t {K : Kx} {H H' : Hp} {a : Addr} {xs : List V} (e : Same H H') (h : SqT K H a xs) : SqT K H' a xs := by
  rcases h with (h | ⟨o, h⟩) | h
  · exact .inl (.inl (e _ _ h))
  · exact .inl (.inr ⟨o, e _ _ h⟩)
  · exact .inr h
mutual
theorem Rep.mono {K : Kx} {F F' : Hp} (e : Same F F') : ∀ {v : V} {d : D}, Rep K F v d → Rep K F' v d
  | _, _, .non => .non
  | _, _, .bl b => .bl b
  | _, _, .int i => .int i
  | _, _, .str s => .str s
  | _, _, .lst h r => .lst (e _ _ h) (Reps.mono e r)
  | _, _, .scr h => .scr (e.seq h)
  | _, _, .tup h r => .tup (same_t e h) (Reps.mono e r)
  | _, _, .obj h1 h2 h3 r => .obj h1 (e _ _ h2) h3 (Reps.mono e r)
theorem Reps.mono {K : Kx} {F F' : Hp} (e : Same F F') : ∀ {vs : List V} {ds : List D}, Reps K F vs ds → Reps K F' vs ds
  | _, _, .nil => .nil
  | _, _, .cons h r => .cons (Rep.mono e h) (Reps.mono e r)
end
theorem Reps.len {K : Kx} {F : Hp} : ∀ {vs : List V} {ds : List D}, Reps K F vs ds → vs.length = ds.length
  | _, _, .nil => rfl
  | _, _, .cons _ r => by rw [List.length_cons, List.length_cons, Reps.len r]
theorem Reps.get {K : Kx} {F : Hp} : ∀ {vs : List V} {ds : List D} {i : Nat} {v : V}, Reps K F vs ds → vs[i]? = some v → ∃ d, ds[i]? = some d ∧ Rep K F v d
  | _, _, _, _, .nil, h => by simp at h
  | _, _, 0, _, .cons r _, h => by simp at h; subst h; exact ⟨_, rfl, r⟩
  | _, _, i + 1, v, .cons _ t, h => by
    obtain ⟨d, h1, h2⟩ := Reps.get (i := i) (v := v) t (by simpa using h)
    exact ⟨d, by simpa using h1, h2⟩
theorem Reps.get' {K : Kx} {F : Hp} : ∀ {vs : List V} {ds : List D} {i : Nat} {d : D}, Reps K F vs ds → ds[i]? = some d → ∃ v, vs[i]? = some v ∧ Rep K F v d
  | _, _, _, _, .nil, h => by simp at h
  | _, _, 0, _, .cons r _, h => by simp at h; subst h; exact ⟨_, rfl, r⟩
  | _, _, i + 1, v, .cons _ t, h => by
    obtain ⟨d, h1, h2⟩ := Reps.get' (i := i) (d := v) t (by simpa using h)
    exact ⟨d, by simpa using h1, h2⟩
theorem Reps.append {K : Kx} {F : Hp} : ∀ {vs us : List V} {ds es : List D}, Reps K F vs ds → Reps K F us es → Reps K F (vs ++ us) (ds ++ es)
  | _, _, _, _, .nil, s => s
  | _, _, _, _, .cons r t, s => .cons r (Reps.append t s)
theorem Reps.take {K : Kx} {F : Hp} : ∀ {vs : List V} {ds : List D} (n : Nat), Reps K F vs ds → Reps K F (vs.take n) (ds.take n)
  | _, _, 0, _ => .nil
  | _, _, _ + 1, .nil => .nil
  | _, _, n + 1, .cons r t => .cons r (Reps.take n t)
theorem Reps.drop {K : Kx} {F : Hp} : ∀ {vs : List V} {ds : List D} (n : Nat), Reps K F vs ds → Reps K F (vs.drop n) (ds.drop n)
  | _, _, 0, r => r
  | _, _, _ + 1, .nil => .nil
  | _, _, n + 1, .cons _ t => Reps.drop n t
theorem Reps.set {K : Kx} {F : Hp} {v : V} {d : D} (r : Rep K F v d) : ∀ {vs : List V} {ds : List D} (i : Nat), Reps K F vs ds → Reps K F (vs.set i v) (ds.set i d)
  | _, _, _, .nil => .nil
  | _, _, 0, .cons _ t => .cons r t
  | _, _, i + 1, .cons q t => .cons q (Reps.set r i t)
theorem Reps.reverse {K : Kx} {F : Hp} : ∀ {vs : List V} {ds : List D}, Reps K F vs ds → Reps K F vs.reverse ds.reverse
  | _, _, .nil => .nil
  | _, _, .cons r t => by
    rw [List.reverse_cons, List.reverse_cons]
    exact (Reps.reverse t).append (.cons r .nil)
/-- data; lists and instances that nothing else holds -/
inductive Ot where
  | da (x : D) | li (ts : List Ot) | ins (c : PySem.Str) (ks : List PySem.Str) (ts : List Ot)
mutual
/-- v is the thing t; L: the addresses of its own objects -/
inductive OtR (K : Kx) (H F : Hp) : V → Ot → List Addr → Prop where
  | da {v : V} {x : D} : Rep K F v x → OtR K H F v (.da x) []
  | li {a : Addr} {vs : List V} {ts : List Ot} {L : List Addr} : H a = some (.lst vs) → OtRs K H F vs ts L → OtR K H F (.ref a) (.li ts) (a :: L)
  | ins {a C dx : Addr} {c : PySem.Str} {ks : List PySem.Str} {vs : List V} {ts : List Ot} {L : List Addr} : ClsN K c C → H a = some (.ins C dx (ks.zip vs)) → vs.length = ks.length → OtRs K H F vs ts L → OtR K H F (.ref a) (.ins c ks ts) (a :: L)
inductive OtRs (K : Kx) (H F : Hp) : List V → List Ot → List Addr → Prop where
  | nil : OtRs K H F [] [] []
  | cons {v : V} {t : Ot} {vs : List V} {ts : List Ot} {L M : List Addr} : OtR K H F v t L → OtRs K H F vs ts M → OtRs K H F (v :: vs) (t :: ts) (L ++ M)
end
mutual
theorem OtR.frame {K : Kx} {H H' F F' : Hp} (e : Same F F') : ∀ {v : V} {t : Ot} {L : List Addr}, OtR K H F v t L → (∀ b ∈ L, ∀ o, H b = some o → H' b = some o) → OtR K H' F' v t L
  | _, _, _, .da r, _ => .da (r.mono e)
  | _, _, _, .li h r, q => .li (q _ List.mem_cons_self _ h) (OtRs.frame e r fun b hb => q b (List.mem_cons_of_mem _ hb))
  | _, _, _, .ins h1 h2 h3 r, q => .ins h1 (q _ List.mem_cons_self _ h2) h3 (OtRs.frame e r fun b hb => q b (List.mem_cons_of_mem _ hb))
theorem OtRs.frame {K : Kx} {H H' F F' : Hp} (e : Same F F') : ∀ {vs : List V} {ts : List Ot} {L : List Addr}, OtRs K H F vs ts L → (∀ b ∈ L, ∀ o, H b = some o → H' b = some o) → OtRs K H' F' vs ts L
  | _, _, _, .nil, _ => .nil
  | _, _, _, .cons r r2, q => .cons (OtR.frame e r fun b hb => q b (List.mem_append_left _ hb)) (OtRs.frame e r2 fun b hb => q b (List.mem_append_right _ hb))
end
theorem zip_inj {α β : Type} : ∀ {ks : List α} {vs us : List β}, ks.zip vs = ks.zip us → vs.length = ks.length → us.length = ks.length → vs = us
  | [], [], [], _, _, _ => rfl
  | [], _ :: _, _, _, h, _ => by simp at h
  | [], [], _ :: _, _, _, h => by simp at h
  | _ :: _, [], _, _, h, _ => by simp at h
  | _ :: _, _ :: _, [], _, _, h => by simp at h
  | k :: ks, v :: vs, u :: us, e, h, h' => by
    simp only [List.zip_cons_cons, List.cons.injEq, Prod.mk.injEq, true_and] at e
    rw [e.1, zip_inj e.2 (by simpa using h) (by simpa using h')]
mutual
theorem OtR.uniq {K : Kx} {H F F' : Hp} : ∀ {v : V} {t : Ot} {L L' : List Addr}, OtR K H F v t L → OtR K H F' v t L' → L = L'
  | _, _, _, _, .da _, .da _ => rfl
  | _, _, _, _, .li h r, .li h' r' => by
    rw [h] at h'; cases h'
    rw [OtRs.uniq r r']
  | _, _, _, _, .ins _ h2 h3 r, .ins _ h2' h3' r' => by
    rw [h2] at h2'
    have e := HO.ins.inj (Option.some.inj h2')
    have := zip_inj e.2.2 h3 h3'
    subst this
    rw [OtRs.uniq r r']
theorem OtRs.uniq {K : Kx} {H F F' : Hp} : ∀ {vs : List V} {ts : List Ot} {L L' : List Addr}, OtRs K H F vs ts L → OtRs K H F' vs ts L' → L = L'
  | _, _, _, _, .nil, .nil => rfl
  | _, _, _, _, .cons r s, .cons r' s' => by rw [OtR.uniq r r', OtRs.uniq s s']
end
/-- an object of one's own, as it stands in the heap -/
noncomputable def OwK : HO → Prop
  | .lst _ => True
  | .ins _ _ _ => True
  | _ => False
mutual
theorem OtR.there {K : Kx} {H F : Hp} : ∀ {v : V} {t : Ot} {L : List Addr}, OtR K H F v t L → ∀ b ∈ L, ∃ o, H b = some o ∧ OwK o
  | _, _, _, .da _, b, hb => absurd hb List.not_mem_nil
  | _, _, _, .li h r, b, hb => by
    rcases List.mem_cons.mp hb with rfl | hb
    · exact ⟨_, h, trivial⟩
    · exact OtRs.there r b hb
  | _, _, _, .ins _ h _ r, b, hb => by
    rcases List.mem_cons.mp hb with rfl | hb
    · exact ⟨_, h, trivial⟩
    · exact OtRs.there r b hb
theorem OtRs.there {K : Kx} {H F : Hp} : ∀ {vs : List V} {ts : List Ot} {L : List Addr}, OtRs K H F vs ts L → ∀ b ∈ L, ∃ o, H b = some o ∧ OwK o
  | _, _, _, .nil, b, hb => absurd hb List.not_mem_nil
  | _, _, _, .cons r s, b, hb => by
    rcases List.mem_append.mp hb with hb | hb
    · exact OtR.there r b hb
    · exact OtRs.there s b hb
end
/-- a slot: unset, a datum, a list of one's own, a list handed in to be changed -/
inductive Sl where
  | no | d (x : D) | ow (xs : List D) | io (xs : List D)
  /-- the exception that the suite holds -/
  | xa (a dx : Addr) (f : Option (PySem.Str × D))
  /-- a dict of one's own whose keys are tuples -/
  | dc (kvs : List (D × D))
  /-- a thing of one's own that may be changed; one that was handed in to be changed -/
  | ob (t : Ot) | iob (t : Ot)
noncomputable abbrev Rho := List Sl
/-- what an expression gives: a datum, a new list, the list that stands in a slot -/
inductive Vl where
  | fz (x : D) | fr (xs : List D) | bw (i : Nat)
structure Gd where
  H0 : Hp
  F0 : Hp
  ia : List (Nat × Addr)
  nl : Nat
  /-- the objects of the things that were handed in to be changed, and where these stand -/
  oa : List Addr := []
  oi : List (Nat × Addr) := []
/-- the slot's own list or dict -/
noncomputable def OwS (ρ : Rho) (σ : L2.St) (i : Nat) (a : Addr) : Prop := (∃ xs, ρ[i]? = some (.ow xs) ∨ ρ[i]? = some (.io xs) ∨ ∃ ys, ρ[i]? = some (.dc ys)) ∧ σ[i]? = some (some (.ref a))
/-- the slot holds the thing t -/
noncomputable def obS (ρ : Rho) (i : Nat) (t : Ot) : Prop := ρ[i]? = some (.ob t) ∨ ρ[i]? = some (.iob t)
noncomputable def OwO (K : Kx) (H F : Hp) (ρ : Rho) (σ : L2.St) (i : Nat) (a : Addr) : Prop := ∃ t v L, obS ρ i t ∧ σ[i]? = some (some v) ∧ OtR K H F v t L ∧ a ∈ L
noncomputable def Ow (K : Kx) (H F : Hp) (ρ : Rho) (σ : L2.St) (i : Nat) (a : Addr) : Prop := OwS ρ σ i a ∨ OwO K H F ρ σ i a
/-- a list of one's own -/
noncomputable def OwL (ρ : Rho) (σ : L2.St) (i : Nat) (a : Addr) : Prop := (∃ xs, ρ[i]? = some (.ow xs) ∨ ρ[i]? = some (.io xs)) ∧ σ[i]? = some (some (.ref a))
theorem OwL.to {K : Kx} {H F : Hp} {ρ : Rho} {σ : L2.St} {i : Nat} {a : Addr} (h : OwL ρ σ i a) : Ow K H F ρ σ i a := by
  obtain ⟨⟨xs, h1 | h1⟩, h2⟩ := h
  · exact .inl ⟨⟨xs, .inl h1⟩, h2⟩
  · exact .inl ⟨⟨xs, .inr (.inl h1)⟩, h2⟩
/-- the one field of the exception whose dict stands at dx -/
noncomputable def XaR (K : Kx) (F : Hp) (dx : Addr) : Option (PySem.Str × D) → Prop
  | none => True
  | some (k, y) => ∃ v, F dx = some (.xd [(k, v)]) ∧ Rep K F v y
theorem XaR.mono {K : Kx} {F F' : Hp} {dx : Addr} {f : Option (PySem.Str × D)} (e : Same F F') (h : XaR K F dx f) : XaR K F' dx f := by
  cases f with
  | none => trivial
  | some p =>
    obtain ⟨k, y⟩ := p
    obtain ⟨v, h1, h2⟩ := h
    exact ⟨v, e _ _ h1, h2.mono e⟩
mutual
/-- what may be a key, or within one -/
noncomputable def nkD : D → Option NestedKey
  | .non => some .none
  | .int i => some (.num i)
  | .str s => some (.text ⟨s.toArray⟩)
  | .tup xs => (nkDs xs).map .tup
  | _ => none
noncomputable def nkDs : List D → Option (List NestedKey)
  | [] => some []
  | x :: xs => match nkD x, nkDs xs with
    | some k, some ks => some (k :: ks)
    | _, _ => none
end
/-- the object of a dict with the entries xs -/
noncomputable def dcO (w : World) (a : Addr) (xs : List (NestedKey × Addr × Value)) : HO := .ext fun h => ∃ o es ep, h.get? a = some o ∧ o.ExactDict ∧ o.data = .dict es ep ∧ es.toList = xs.map (fun x => ⟨x.1.hash w, .ref x.2.1, x.2.2⟩) ∧ (xs.map (·.1)).Nodup
/-- the entries of a dict as data -/
noncomputable def DcR (K : Kx) (F : Hp) : List (NestedKey × Addr × Value) → List (D × D) → Prop
  | [], [] => True
  | x :: xs, p :: ps => (nkD p.1 = some x.1 ∧ x.1.depth ≤ 8 ∧ Rep K F (.ref x.2.1) p.1 ∧ ∃ v, RelV v x.2.2 ∧ Rep K F v p.2) ∧ DcR K F xs ps
  | _, _ => False
theorem DcR.mono {K : Kx} {F F' : Hp} (e : Same F F') : ∀ {xs : List (NestedKey × Addr × Value)} {ps : List (D × D)}, DcR K F xs ps → DcR K F' xs ps
  | [], [], _ => trivial
  | x :: xs, p :: ps, h => ⟨⟨h.1.1, h.1.2.1, h.1.2.2.1.mono e, h.1.2.2.2.elim fun v q => ⟨v, q.1, q.2.mono e⟩⟩, DcR.mono e h.2⟩
  | [], _ :: _, h => h.elim
  | _ :: _, [], h => h.elim
noncomputable def SlR (K : Kx) (G : Gd) (σ : L2.St) (H F : Hp) (i : Nat) : Sl → Prop
  | .no => True
  | .d x => ∃ v, σ[i]? = some (some v) ∧ Rep K F v x
  | .ow xs => ∃ a vs, σ[i]? = some (some (.ref a)) ∧ H a = some (.lst vs) ∧ Reps K F vs xs ∧ F a = none ∧ G.H0 a = none
  | .io xs => ∃ a vs, σ[i]? = some (some (.ref a)) ∧ H a = some (.lst vs) ∧ Reps K F vs xs ∧ F a = none ∧ (i, a) ∈ G.ia
  | .xa b dx f => σ[i]? = some (some (.ref b)) ∧ XaR K F dx f
  | .dc ps => ∃ a xs, σ[i]? = some (some (.ref a)) ∧ H a = some (dcO K.w a xs) ∧ DcR K F xs ps ∧ F a = none ∧ G.H0 a = none ∧ (a == sysModules) = false ∧ ps.length ≤ sizeLine
  | .ob t => ∃ v L, σ[i]? = some (some v) ∧ OtR K H F v t L ∧ L.Nodup ∧ ∀ b ∈ L, F b = none ∧ G.H0 b = none
  | .iob t => ∃ v L, σ[i]? = some (some v) ∧ OtR K H F v t L ∧ (L.Nodup ∧ ∃ a, (i, a) ∈ G.oi) ∧ ∀ b ∈ L, F b = none ∧ (G.H0 b = none ∨ b ∈ G.oa)
structure Wd (K : Kx) (G : Gd) (ρ : Rho) (σ : L2.St) (H F : Hp) : Prop where
  len : ρ.length = σ.length
  gl : σ.length = G.nl
  sub : Same F H
  f0 : Same G.F0 F
  kp : ∀ b o, G.H0 b = some o → b ∉ G.ia.map (·.2) → b ∉ G.oa → H b = some o
  nw : ∀ b, F b ≠ none → G.F0 b ≠ none ∨ G.H0 b = none
  it : ∀ b, b ∈ G.ia.map (·.2) ∨ b ∈ G.oa → H b ≠ none
  sl : ∀ i s, ρ[i]? = some s → SlR K G σ H F i s
  ap : ∀ i j a, Ow K H F ρ σ i a → Ow K H F ρ σ j a → i = j
  ai : ∀ i a, (i, a) ∈ G.ia → (∃ xs, ρ[i]? = some (.io xs)) ∧ σ[i]? = some (some (.ref a))
  ao : ∀ i a, (i, a) ∈ G.oi → (∃ t, ρ[i]? = some (.iob t)) ∧ σ[i]? = some (some (.ref a))
noncomputable def VlR (K : Kx) (G : Gd) (P : Hp) (ρ : Rho) (σ : L2.St) (H F : Hp) (v : V) : Vl → Prop
  | .fz x => Rep K F v x
  | .fr xs => ∃ a vs, v = .ref a ∧ H a = some (.lst vs) ∧ Reps K F vs xs ∧ F a = none ∧ P a = none ∧ ∀ i, ¬ Ow K H F ρ σ i a
  | .bw i => σ[i]? = some (some v)
/-- settled values: a datum or a slot's list -/
noncomputable def VlS (K : Kx) (σ : L2.St) (F : Hp) (v : V) : Vl → Prop
  | .fz x => Rep K F v x
  | .fr _ => False
  | .bw i => σ[i]? = some (some v)
noncomputable def stl : Vl → Vl
  | .fr xs => .fz (.lst xs)
  | r => r
structure Ste (K : Kx) (G : Gd) (ρ : Rho) (σ : L2.St) (H F : Hp) (ρ' : Rho) (H' F' : Hp) : Prop where
  wd : Wd K G ρ' σ H' F'
  ff : Same F F'
  kk : ∀ b o, H b = some o → (∀ i, ¬ Ow K H F ρ σ i b) → H' b = some o
  nf : ∀ b, F' b ≠ none → F b ≠ none ∨ H b = none ∨ ∃ i, Ow K H F ρ σ i b
  oo : ∀ i a, Ow K H' F' ρ' σ i a → Ow K H F ρ σ i a ∨ H a = none
  tr : ∀ b, H b ≠ none → H' b ≠ none
section
variable {K : Kx} {G : Gd} {ρ ρ1 ρ2 ρ' : Rho} {σ : L2.St} {H H1 H2 H' F F1 F2 F' : Hp} {v : V} {r : Vl}
theorem Ste.refl (W : Wd K G ρ σ H F) : Ste K G ρ σ H F ρ H F :=
  ⟨W, Same.refl _, fun _ _ h _ => h, fun _ h => .inl h, fun _ _ h => .inl h, fun _ h => h⟩
theorem Ste.trans (a : Ste K G ρ σ H F ρ1 H1 F1) (b : Ste K G ρ1 σ H1 F1 ρ2 H2 F2) : Ste K G ρ σ H F ρ2 H2 F2 := by
  have fresh : ∀ c, H1 c = none → H c = none := fun c h => by
    cases e : H c with
    | none => rfl
    | some o => exact absurd h (a.tr c (by rw [e]; simp))
  refine ⟨b.wd, a.ff.trans b.ff, fun c o h n => b.kk c o (a.kk c o h n) fun i q => (a.oo i c q).elim (n i) fun z => (by rw [h] at z; cases z), fun c h => ?_, fun i c q => (b.oo i c q).elim (a.oo i c) fun z => .inr (fresh c z), fun c h => b.tr c (a.tr c h)⟩
  rcases b.nf c h with h1 | h1 | ⟨i, h1⟩
  · exact a.nf c h1
  · exact .inr (.inl (fresh c h1))
  · rcases a.oo i c h1 with z | z
    · exact .inr (.inr ⟨i, z⟩)
    · exact .inr (.inl z)
theorem Wd.ob_at (W : Wd K G ρ σ H F) {i : Nat} {t : Ot} (h : obS ρ i t) : ∃ v L, σ[i]? = some (some v) ∧ OtR K H F v t L ∧ L.Nodup ∧ ∀ b ∈ L, F b = none ∧ (G.H0 b = none ∨ b ∈ G.oa) := by
  rcases h with h | h
  · obtain ⟨v, L, e, r, nd, q⟩ := W.sl i _ h
    exact ⟨v, L, e, r, nd, fun b hb => ⟨(q b hb).1, .inl (q b hb).2⟩⟩
  · obtain ⟨v, L, e, r, nd, q⟩ := W.sl i _ h
    exact ⟨v, L, e, r, nd.1, q⟩
/-- a thing that is as it was has its old objects -/
theorem Wd.ob_same (W : Wd K G ρ σ H F) {i : Nat} {t : Ot} {v : V} {L : List Addr} (h : obS ρ i t) (hv : σ[i]? = some (some v)) (r : OtR K H' F' v t L) (e : ∀ b o, Ow K H F ρ σ i b → H b = some o → H' b = some o) : OtR K H F v t L ∧ ∀ b ∈ L, Ow K H F ρ σ i b := by
  obtain ⟨v0, L0, e0, r0, _⟩ := W.ob_at h
  rw [hv] at e0
  cases e0
  have own : ∀ b ∈ L0, Ow K H F ρ σ i b := fun b hb => .inr ⟨t, v, L0, h, hv, r0, hb⟩
  have r1 : OtR K H' F v t L0 := r0.frame (Same.refl _) fun b hb o ho => e b o (own b hb) ho
  have := OtR.uniq r r1
  subst this
  exact ⟨r0, own⟩
theorem Wd.ow_there (W : Wd K G ρ σ H F) {i : Nat} {a : Addr} (h : Ow K H F ρ σ i a) : ∃ o, H a = some o ∧ F a = none := by
  rcases h with ⟨⟨xs, h1 | h1 | ⟨ys, h1⟩⟩, h2⟩ | ⟨t, v, L, h1, h2, h3, h4⟩
  · obtain ⟨b, vs, e, h3, _, h5, _⟩ := W.sl i _ h1
    rw [h2] at e; cases e
    exact ⟨_, h3, h5⟩
  · obtain ⟨b, vs, e, h3, _, h5, _⟩ := W.sl i _ h1
    rw [h2] at e; cases e
    exact ⟨_, h3, h5⟩
  · obtain ⟨b, vs, e, h3, _, h5, _⟩ := W.sl i _ h1
    rw [h2] at e; cases e
    exact ⟨_, h3, h5⟩
  · obtain ⟨v0, L0, e0, r0, _, q⟩ := W.ob_at h1
    rw [h2] at e0; cases e0
    have := OtR.uniq h3 r0
    subst this
    obtain ⟨o, ho, _⟩ := OtR.there h3 a h4
    exact ⟨o, ho, (q a h4).1⟩
theorem VlS.ste (h : VlS K σ F1 v r) (s : Ste K G ρ1 σ H1 F1 ρ2 H2 F2) : VlS K σ F2 v r := by
  cases r with
  | fz x => exact Rep.mono s.ff h
  | bw i => exact h
  | fr xs => exact h.elim
/-- what is read of a value now -/
noncomputable def look (ρ : Rho) : Vl → Option D
  | .fz x => some x
  | .fr xs => some (.lst xs)
  | .bw i => match ρ[i]? with
    | some (.ow xs) => some (.lst xs)
    | some (.io xs) => some (.lst xs)
    | _ => none
noncomputable def Vw (K : Kx) (H F : Hp) (v : V) : D → Prop
  | .lst xs => ∃ a vs, v = .ref a ∧ H a = some (.lst vs) ∧ Reps K F vs xs
  | x => Rep K F v x
theorem vw_rep {x : D} (s : Same F H) (h : Rep K F v x) : Vw K H F v x := by
  cases h with
  | lst h r => exact ⟨_, _, rfl, s _ _ h, r⟩
  | scr h => exact .scr h
  | non => exact .non
  | bl b => exact .bl b
  | int i => exact .int i
  | str s => exact .str s
  | tup h r => exact .tup h r
  | obj h1 h2 h3 r => exact .obj h1 h2 h3 r
theorem vw_of {x : D} (W : Wd K G ρ σ H F) (h : VlS K σ F v r) (e : look ρ r = some x) : Vw K H F v x := by
  cases r with
  | fz y => cases e; exact vw_rep W.sub h
  | fr xs => exact h.elim
  | bw i =>
    unfold look at e
    have h : σ[i]? = some (some v) := h
    cases q : ρ[i]? with
    | none => simp [q] at e
    | some s =>
      cases s with
      | no => simp [q] at e
      | xa b dx f => simp [q] at e
      | dc ys => simp [q] at e
      | ob t => simp [q] at e
      | iob t => simp [q] at e
      | d y => simp [q] at e
      | ow xs =>
        simp [q] at e; subst e
        obtain ⟨a, vs, e, h1, h2, _⟩ := W.sl i _ q
        rw [h] at e; cases e
        exact ⟨a, vs, rfl, h1, h2⟩
      | io xs =>
        simp [q] at e; subst e
        obtain ⟨a, vs, e, h1, h2, _⟩ := W.sl i _ q
        rw [h] at e; cases e
        exact ⟨a, vs, rfl, h1, h2⟩
/-- a value becomes a datum -/
noncomputable def frz (ρ : Rho) : Vl → Option (D × Rho)
  | .fz x => some (x, ρ)
  | .fr xs => some (.lst xs, ρ)
  | .bw i => match ρ[i]? with
    | some (.ow xs) => some (.lst xs, ρ.set i (.d (.lst xs)))
    | _ => none
theorem Wd.h0 (W : Wd K G ρ σ H F) {b : Addr} (h : H b = none) : G.H0 b = none := by
  cases e : G.H0 b with
  | none => rfl
  | some o =>
    by_cases q : b ∈ G.ia.map (·.2)
    · exact absurd h (W.it b (.inl q))
    · by_cases q2 : b ∈ G.oa
      · exact absurd h (W.it b (.inr q2))
      · rw [W.kp b o e q q2] at h; cases h
structure Alc (F H F' H' : Hp) : Prop where
  ff : Same F F'
  sub : Same F' H'
  hh : Same H H'
  nf : ∀ b, F' b ≠ none → F b ≠ none ∨ H b = none
theorem Alc.refl (s : Same F H) : Alc F H F H := ⟨Same.refl _, s, Same.refl _, fun _ h => .inl h⟩
theorem Alc.trans {F1 H1 F2 H2 : Hp} (a : Alc F H F1 H1) (b : Alc F1 H1 F2 H2) : Alc F H F2 H2 := by
  refine ⟨a.ff.trans b.ff, b.sub, a.hh.trans b.hh, fun c h => ?_⟩
  rcases b.nf c h with q | q
  · exact a.nf c q
  · exact .inr (a.hh.free q)
theorem same_upd {p : Addr} {o : HO} (h : H p = none) : Same H (upd H p o) := fun b x e => by
  rw [upd_ne (ne_of_none e h)]
  exact e
theorem Alc.new {p : Addr} {o : HO} (s : Same F H) (h : H p = none) : Alc F H (upd F p o) (upd H p o) := by
  refine ⟨same_upd (s.free h), fun b x e => ?_, same_upd h, fun b q => ?_⟩
  · by_cases hb : b = p
    · subst hb; rw [upd_same] at e ⊢; exact e
    · rw [upd_ne hb] at e ⊢; exact s _ _ e
  · by_cases hb : b = p
    · subst hb; exact .inr h
    · rw [upd_ne hb] at q; exact .inl q
theorem SlR.alc {i : Nat} {s : Sl} (A : Alc F H F' H') (h : SlR K G σ H F i s) : SlR K G σ H' F' i s := by
  have fn : ∀ {a : Addr} {ob : HO}, H a = some ob → F a = none → F' a = none := fun {a vs} h1 h2 => by
    cases e : F' a with
    | none => rfl
    | some o =>
      rcases A.nf a (by rw [e]; simp) with q | q
      · exact absurd h2 q
      · rw [h1] at q; cases q
  cases s with
  | no => trivial
  | xa b dx f => exact ⟨h.1, h.2.mono A.ff⟩
  | dc ys => obtain ⟨a, xs, e, h1, h2, h3, h4, h5⟩ := h; exact ⟨a, xs, e, A.hh _ _ h1, h2.mono A.ff, fn h1 h3, h4, h5⟩
  | d x => obtain ⟨v, e, r⟩ := h; exact ⟨v, e, r.mono A.ff⟩
  | ow xs => obtain ⟨a, vs, e, h1, h2, h3, h4⟩ := h; exact ⟨a, vs, e, A.hh _ _ h1, h2.mono A.ff, fn h1 h3, h4⟩
  | io xs => obtain ⟨a, vs, e, h1, h2, h3, h4⟩ := h; exact ⟨a, vs, e, A.hh _ _ h1, h2.mono A.ff, fn h1 h3, h4⟩
  | ob t => obtain ⟨v, L, e, r, nd, q⟩ := h; exact ⟨v, L, e, r.frame A.ff fun b _ o ho => A.hh _ _ ho, nd, fun b hb => ⟨fn (OtR.there r b hb).choose_spec.1 (q b hb).1, (q b hb).2⟩⟩
  | iob t => obtain ⟨v, L, e, r, nd, q⟩ := h; exact ⟨v, L, e, r.frame A.ff fun b _ o ho => A.hh _ _ ho, nd, fun b hb => ⟨fn (OtR.there r b hb).choose_spec.1 (q b hb).1, (q b hb).2⟩⟩
/-- what a slot owns, in a heap that keeps it -/
theorem Wd.ow_back (W : Wd K G ρ σ H F) {i : Nat} {a : Addr} (e : ∀ b o, Ow K H F ρ σ i b → H b = some o → H' b = some o) (h : Ow K H' F' ρ σ i a) : Ow K H F ρ σ i a := by
  rcases h with h | ⟨t, v, L, h1, h2, h3, h4⟩
  · exact .inl h
  · exact (W.ob_same h1 h2 h3 e).2 a h4
theorem Wd.not_ow (W : Wd K G ρ σ H F) {p : Addr} (hp : H p = none) (e : Same H H') (i : Nat) : ¬ Ow K H' F' ρ σ i p := fun o => by
  obtain ⟨_, z, _⟩ := W.ow_there (W.ow_back (fun b o _ ho => e _ _ ho) o)
  rw [hp] at z; cases z
theorem Wd.alc (W : Wd K G ρ σ H F) (A : Alc F H F' H') : Ste K G ρ σ H F ρ H' F' := by
  have bk : ∀ {i a}, Ow K H' F' ρ σ i a → Ow K H F ρ σ i a := fun h => W.ow_back (fun b o _ ho => A.hh _ _ ho) h
  refine ⟨⟨W.len, W.gl, A.sub, W.f0.trans A.ff, fun b o h q q2 => A.hh _ _ (W.kp b o h q q2), fun b h => ?_, fun b h e => W.it b h (A.hh.free e), fun i s h => (W.sl i s h).alc A, fun i j a o1 o2 => W.ap i j a (bk o1) (bk o2), W.ai, W.ao⟩, A.ff, fun b o h _ => A.hh _ _ h, fun b h => (A.nf b h).elim .inl fun q => .inr (.inl q), fun _ _ h => .inl (bk h), fun b h e => h (A.hh.free e)⟩
  rcases A.nf b h with q | q
  · exact W.nw b q
  · exact .inr (W.h0 q)
/-- an untracked-by-F list that no slot owns is frozen -/
theorem Wd.freeze_new {a : Addr} {vs : List V} (W : Wd K G ρ σ H F) (h1 : H a = some (.lst vs)) (h2 : F a = none) (h3 : G.H0 a = none) (h4 : ∀ i, ¬ Ow K H F ρ σ i a) : Wd K G ρ σ H (upd F a (.lst vs)) ∧ Same F (upd F a (.lst vs)) := by
  have ss := same_upd (o := HO.lst vs) h2
  have bk : ∀ {i b}, Ow K H (upd F a (.lst vs)) ρ σ i b → Ow K H F ρ σ i b := fun h => W.ow_back (fun b o _ ho => ho) h
  refine ⟨⟨W.len, W.gl, fun b x e => ?_, W.f0.trans ss, W.kp, fun b h => ?_, W.it, fun i s h => ?_, fun i j b o1 o2 => W.ap i j b (bk o1) (bk o2), W.ai, W.ao⟩, ss⟩
  · by_cases hb : b = a
    · subst hb; rw [upd_same] at e; cases e; exact h1
    · rw [upd_ne hb] at e; exact W.sub _ _ e
  · by_cases hb : b = a
    · subst hb; exact .inr h3
    · rw [upd_ne hb] at h; exact W.nw b h
  · have q := W.sl i s h
    cases s with
    | no => trivial
    | xa b dx f => exact ⟨q.1, q.2.mono ss⟩
    | dc ys =>
      obtain ⟨c, us, e, p1, p2, p3, p4⟩ := q
      have nc : c ≠ a := fun z => h4 i (.inl ⟨⟨[], .inr (.inr ⟨ys, h⟩)⟩, by rw [← z]; exact e⟩)
      exact ⟨c, us, e, p1, p2.mono ss, by rw [upd_ne nc]; exact p3, p4⟩
    | ob t =>
      obtain ⟨v, L, e, r, nd, q⟩ := q
      exact ⟨v, L, e, r.frame ss fun _ _ _ ho => ho, nd, fun b hb => ⟨by rw [upd_ne (show b ≠ a from fun z => h4 i (.inr ⟨t, v, L, .inl h, e, r, by rw [← z]; exact hb⟩))]; exact (q b hb).1, (q b hb).2⟩⟩
    | iob t =>
      obtain ⟨v, L, e, r, nd, q⟩ := q
      exact ⟨v, L, e, r.frame ss fun _ _ _ ho => ho, nd, fun b hb => ⟨by rw [upd_ne (show b ≠ a from fun z => h4 i (.inr ⟨t, v, L, .inr h, e, r, by rw [← z]; exact hb⟩))]; exact (q b hb).1, (q b hb).2⟩⟩
    | d x => obtain ⟨v, e, r⟩ := q; exact ⟨v, e, r.mono ss⟩
    | ow xs =>
      obtain ⟨c, us, e, p1, p2, p3, p4⟩ := q
      have nc : c ≠ a := fun z => h4 i (.inl ⟨⟨xs, .inl h⟩, by rw [← z]; exact e⟩)
      exact ⟨c, us, e, p1, p2.mono ss, by rw [upd_ne nc]; exact p3, p4⟩
    | io xs =>
      obtain ⟨c, us, e, p1, p2, p3, p4⟩ := q
      have nc : c ≠ a := fun z => h4 i (.inl ⟨⟨xs, .inr (.inl h)⟩, by rw [← z]; exact e⟩)
      exact ⟨c, us, e, p1, p2.mono ss, by rw [upd_ne nc]; exact p3, p4⟩
/-- a new list is settled -/
theorem settle (W : Wd K G ρ σ H F) (s : Ste K G ρ σ H F ρ1 H1 F1) (h : VlR K G H ρ1 σ H1 F1 v r) : ∃ F2, Ste K G ρ σ H F ρ1 H1 F2 ∧ VlS K σ F2 v (stl r) ∧ Same F1 F2 := by
  cases r with
  | fz y => exact ⟨F1, s, h, Same.refl _⟩
  | bw i => exact ⟨F1, s, h, Same.refl _⟩
  | fr xs =>
    obtain ⟨a, vs, rfl, h1, h2, h3, h4, h5⟩ := h
    have h0 : G.H0 a = none := W.h0 h4
    obtain ⟨W', ss⟩ := s.wd.freeze_new h1 h3 h0 h5
    refine ⟨upd F1 a (.lst vs), ⟨W', s.ff.trans ss, s.kk, fun b q => ?_, fun i b o => s.oo i b (s.wd.ow_back (fun _ _ _ ho => ho) o), s.tr⟩, .lst upd_same (h2.mono ss), ss⟩
    by_cases hb : b = a
    · subst hb; exact .inr (.inl h4)
    · rw [upd_ne hb] at q; exact s.nf b q
/-- a settled value becomes a datum -/
theorem frz_ok {x : D} (W : Wd K G ρ σ H F) (h : VlS K σ F v r) (e : frz ρ r = some (x, ρ')) : ∃ F', Ste K G ρ σ H F ρ' H F' ∧ Rep K F' v x := by
  cases r with
  | fz y =>
    cases e
    exact ⟨F, Ste.refl W, h⟩
  | fr xs => exact h.elim
  | bw i =>
    have h : σ[i]? = some (some v) := h
    unfold frz at e
    cases q : ρ[i]? with
    | none => simp [q] at e
    | some s =>
      cases s with
      | no => simp [q] at e
      | xa b dx f => simp [q] at e
      | dc ys => simp [q] at e
      | ob t => simp [q] at e
      | iob t => simp [q] at e
      | d y => simp [q] at e
      | io xs => simp [q] at e
      | ow xs =>
        simp [q] at e
        obtain ⟨rfl, rfl⟩ := e
        obtain ⟨a, vs, e, h1, h2, h3, h4⟩ := W.sl i _ q
        rw [h] at e; cases e
        have ss := same_upd (o := HO.lst vs) h3
        have hi : i < ρ.length := (List.getElem?_eq_some_iff.mp q).1
        have old : ∀ j b, Ow K H (upd F a (.lst vs)) (ρ.set i (.d (.lst xs))) σ j b → j ≠ i ∧ Ow K H F ρ σ j b := fun j b o => by
          rcases o with ⟨⟨ys, o1⟩, o2⟩ | ⟨t, v, L, o1, o2, o3, o4⟩
          · have ne : j ≠ i := fun z => by
              subst z
              rw [List.getElem?_set_self hi] at o1
              rcases o1 with o1 | o1 | ⟨zs, o1⟩ <;> cases o1
            rw [List.getElem?_set_ne (Ne.symm ne)] at o1
            exact ⟨ne, .inl ⟨⟨ys, o1⟩, o2⟩⟩
          · have ne : j ≠ i := fun z => by
              subst z
              unfold obS at o1
              rw [List.getElem?_set_self hi] at o1
              rcases o1 with o1 | o1 <;> cases o1
            unfold obS at o1
            rw [List.getElem?_set_ne (Ne.symm ne)] at o1
            exact ⟨ne, (W.ob_same o1 o2 o3 fun _ _ _ ho => ho).2 b o4⟩
        have own : Ow K H F ρ σ i a := .inl ⟨⟨xs, .inl q⟩, h⟩
        refine ⟨upd F a (.lst vs), ⟨⟨by rw [List.length_set]; exact W.len, W.gl, fun b x e => ?_, W.f0.trans ss, W.kp, fun b z => ?_, W.it, fun j s z => ?_, fun j k b o1 o2 => W.ap j k b (old j b o1).2 (old k b o2).2, fun j b z => ?_, fun j b z => ?_⟩, ss, fun _ _ z _ => z, fun b z => ?_, fun j b o => .inl (old j b o).2, fun _ z => z⟩, .lst upd_same (h2.mono ss)⟩
        · by_cases hb : b = a
          · subst hb; rw [upd_same] at e; cases e; exact h1
          · rw [upd_ne hb] at e; exact W.sub _ _ e
        · by_cases hb : b = a
          · subst hb; exact .inr h4
          · rw [upd_ne hb] at z; exact W.nw b z
        · by_cases ne : j = i
          · subst ne
            rw [List.getElem?_set_self hi] at z
            cases z
            exact ⟨.ref a, h, .lst upd_same (h2.mono ss)⟩
          · rw [List.getElem?_set_ne (Ne.symm ne)] at z
            have q2 := W.sl j s z
            cases s with
            | no => trivial
            | xa b dx f => exact ⟨q2.1, q2.2.mono ss⟩
            | dc ys =>
              obtain ⟨c, us, e, p1, p2, p3, p4⟩ := q2
              have nc : c ≠ a := fun zz => ne (W.ap j i a (.inl ⟨⟨[], .inr (.inr ⟨ys, z⟩)⟩, by rw [← zz]; exact e⟩) own)
              exact ⟨c, us, e, p1, p2.mono ss, by rw [upd_ne nc]; exact p3, p4⟩
            | ob t =>
              obtain ⟨v, L, e, r, nd, q⟩ := q2
              exact ⟨v, L, e, r.frame ss fun _ _ _ ho => ho, nd, fun b hb => ⟨by rw [upd_ne (show b ≠ a from fun zz => ne (W.ap j i a (.inr ⟨t, v, L, .inl z, e, r, by rw [← zz]; exact hb⟩) own))]; exact (q b hb).1, (q b hb).2⟩⟩
            | iob t =>
              obtain ⟨v, L, e, r, nd, q⟩ := q2
              exact ⟨v, L, e, r.frame ss fun _ _ _ ho => ho, nd, fun b hb => ⟨by rw [upd_ne (show b ≠ a from fun zz => ne (W.ap j i a (.inr ⟨t, v, L, .inr z, e, r, by rw [← zz]; exact hb⟩) own))]; exact (q b hb).1, (q b hb).2⟩⟩
            | d x => obtain ⟨v, e, r⟩ := q2; exact ⟨v, e, r.mono ss⟩
            | ow ys =>
              obtain ⟨c, us, e, p1, p2, p3, p4⟩ := q2
              have nc : c ≠ a := fun zz => ne (W.ap j i a (.inl ⟨⟨ys, .inl z⟩, by rw [← zz]; exact e⟩) own)
              exact ⟨c, us, e, p1, p2.mono ss, by rw [upd_ne nc]; exact p3, p4⟩
            | io ys =>
              obtain ⟨c, us, e, p1, p2, p3, p4⟩ := q2
              have nc : c ≠ a := fun zz => ne (W.ap j i a (.inl ⟨⟨ys, .inr (.inl z)⟩, by rw [← zz]; exact e⟩) own)
              exact ⟨c, us, e, p1, p2.mono ss, by rw [upd_ne nc]; exact p3, p4⟩
        · obtain ⟨⟨ys, z1⟩, z2⟩ := W.ai j b z
          have ne : j ≠ i := fun e => by rw [e, q] at z1; cases z1
          exact ⟨⟨ys, by rw [List.getElem?_set_ne (Ne.symm ne)]; exact z1⟩, z2⟩
        · obtain ⟨⟨ys, z1⟩, z2⟩ := W.ao j b z
          have ne : j ≠ i := fun e => by rw [e, q] at z1; cases z1
          exact ⟨⟨ys, by rw [List.getElem?_set_ne (Ne.symm ne)]; exact z1⟩, z2⟩
        · by_cases hb : b = a
          · subst hb; exact .inr (.inr ⟨i, own⟩)
          · rw [upd_ne hb] at z; exact .inl z
end
end Sw
namespace Sw
open PySem PySem.Spec PyProof.Rows L2
noncomputable abbrev M (α : Type) := Rho → Option (α × Rho)
noncomputable def tM (K : Kx) (m : M Vl) : TE := fun σ H Q => ∃ G ρ F r ρ', Wd K G ρ σ H F ∧ m ρ = some (r, ρ') ∧ ∀ v H' F', Ste K G ρ σ H F ρ' H' F' → VlR K G H ρ' σ H' F' v r → Q v H'
noncomputable def tMT (K : Kx) (m : M Bool) : TT := fun σ H Q => ∃ G ρ F r ρ', Wd K G ρ σ H F ∧ m ρ = some (r, ρ') ∧ ∀ H' F', Ste K G ρ σ H F ρ' H' F' → Q r H'
noncomputable def VlSs (K : Kx) (σ : L2.St) (F : Hp) : List V → List Vl → Prop
  | [], [] => True
  | v :: vs, r :: rs => VlS K σ F v r ∧ VlSs K σ F vs rs
  | _, _ => False
noncomputable def tMA (K : Kx) (m : M (List Vl)) : TA := fun σ H Q => ∃ G ρ F r ρ', Wd K G ρ σ H F ∧ m ρ = some (r, ρ') ∧ ∀ vs H' F', Ste K G ρ σ H F ρ' H' F' → VlSs K σ F' vs r → Q vs H'
noncomputable abbrev SE (X : Cx) (e : Expr) (m : M Vl) : Prop := PE X e (tM X.kx m)
noncomputable abbrev ST (X : Cx) (e : Expr) (m : M Bool) : Prop := PT X e (tMT X.kx m)
noncomputable abbrev SA (X : Cx) (es : List Expr) (m : M (List Vl)) : Prop := PA X es (tMA X.kx m)
theorem VlSs.ste {K : Kx} {G : Gd} {ρ1 ρ2 : Rho} {σ : L2.St} {H1 H2 F1 F2 : Hp} (s : Ste K G ρ1 σ H1 F1 ρ2 H2 F2) : ∀ {vs : List V} {rs : List Vl}, VlSs K σ F1 vs rs → VlSs K σ F2 vs rs
  | [], [], _ => trivial
  | _ :: _, _ :: _, h => ⟨h.1.ste s, VlSs.ste s h.2⟩
  | [], _ :: _, h => h.elim
  | _ :: _, [], h => h.elim
theorem pe_weak {X : Cx} {e : Expr} {t t' : TE} (h : PE X e t) (w : ∀ σ H Q, t' σ H Q → t σ H Q) : PE X e t' := ⟨fun pins s σ H Q I q => h.run pins s σ H Q I (w _ _ _ q)⟩
theorem pt_weak {X : Cx} {e : Expr} {t t' : TT} (h : PT X e t) (w : ∀ σ H Q, t' σ H Q → t σ H Q) : PT X e t' := ⟨fun pins s σ H Q I q => h.run pins s σ H Q I (w _ _ _ q)⟩
theorem pw_weak {X : Cx} {e : Expr} {t t' : TT} (h : PW X e t) (w : ∀ σ H Q, t' σ H Q → t σ H Q) : PW X e t' := ⟨fun wh pins s σ H Q I q => h.run wh pins s σ H Q I (w _ _ _ q)⟩
theorem pa_weak {X : Cx} {es : List Expr} {t t' : TA} (h : PA X es t) (w : ∀ σ H Q, t' σ H Q → t σ H Q) : PA X es t' := ⟨fun pos pins s σ H Q I q => h.run pos pins s σ H Q I (w _ _ _ q)⟩
section
variable {K : Kx} {G : Gd} {ρ ρ1 : Rho} {σ : L2.St} {H F : Hp} {r : Vl}
theorem tm_use {m : M Vl} {Q : VK} (W : Wd K G ρ σ H F) (h : m ρ = some (r, ρ1)) (q : ∀ v H1 F1, Ste K G ρ σ H F ρ1 H1 F1 → VlS K σ F1 v (stl r) → Q v H1) : tM K m σ H Q :=
  ⟨G, ρ, F, r, ρ1, W, h, fun v H1 F1 s R => let ⟨F2, s2, R2, _⟩ := settle W s R; q v H1 F2 s2 R2⟩
theorem tmt_use {m : M Bool} {b : Bool} {Q : Bool → Hp → Prop} (W : Wd K G ρ σ H F) (h : m ρ = some (b, ρ1)) (q : ∀ H1 F1, Ste K G ρ σ H F ρ1 H1 F1 → Q b H1) : tMT K m σ H Q :=
  ⟨G, ρ, F, b, ρ1, W, h, q⟩
end
noncomputable def eVar (i : Nat) : M Vl := fun ρ => match ρ[i]? with
  | some (.d x) => some (.fz x, ρ)
  | some (.ow _) => some (.bw i, ρ)
  | some (.io _) => some (.bw i, ρ)
  | _ => none
noncomputable def eC (x : D) : M Vl := fun ρ => some (.fz x, ρ)
section
variable {X : Cx}
theorem se_var {i : Nat} {e : Expr} (h : PE X e (tVar i)) : SE X e (eVar i) := by
  refine pe_weak h fun σ H Q ⟨G, ρ, F, r, ρ', W, hm, q⟩ => ?_
  unfold eVar at hm
  cases e : ρ[i]? with
  | none => simp [e] at hm
  | some s =>
    have sl := W.sl i s e
    cases s with
    | no => simp [e] at hm
    | xa b dx f => simp [e] at hm
    | dc ys => simp [e] at hm
    | ob t => simp [e] at hm
    | iob t => simp [e] at hm
    | d x =>
      simp [e] at hm
      obtain ⟨rfl, rfl⟩ := hm
      obtain ⟨v, h1, h2⟩ := sl
      exact ⟨v, h1, q v H F (Ste.refl W) h2⟩
    | ow xs =>
      simp [e] at hm
      obtain ⟨rfl, rfl⟩ := hm
      obtain ⟨a, vs, h1, _⟩ := sl
      exact ⟨.ref a, h1, q _ H F (Ste.refl W) h1⟩
    | io xs =>
      simp [e] at hm
      obtain ⟨rfl, rfl⟩ := hm
      obtain ⟨a, vs, h1, _⟩ := sl
      exact ⟨.ref a, h1, q _ H F (Ste.refl W) h1⟩
theorem se_con {e : Expr} {v : V} {x : D} (h : PE X e (tC v)) (r : ∀ F, Rep X.kx F v x) : SE X e (eC x) := by
  refine pe_weak h fun σ H Q ⟨G, ρ, F, r', ρ', W, hm, q⟩ => ?_
  cases hm
  exact q v H F (Ste.refl W) (r F)
theorem se_int {i : Int} {j pos} : SE X (.Constant (.int i) j pos) (eC (.int i)) := se_con pe_int fun _ => .int i
theorem se_bl {b : Bool} {j pos} : SE X (.Constant (.bool b) j pos) (eC (.bl b)) := se_con pe_bl fun _ => .bl b
theorem se_non {j pos} : SE X (.Constant .none j pos) (eC .non) := se_con pe_non fun _ => .non
theorem str_cps (x : Str) : (⟨x.cps.toList.toArray⟩ : Str) = x := by cases x; simp
theorem rep_str {K : Kx} {F : Hp} (x : Str) : Rep K F (.str x) (.str x.cps.toList) := by
  have h := Rep.str (K := K) (F := F) x.cps.toList
  rw [str_cps] at h
  exact h
/-- a written text: cs its codes -/
theorem se_str {x : Str} {cs : List Nat} {j pos} (h : x.cps.toList = cs) : SE X (.Constant (.str x) j pos) (eC (.str cs)) := se_con pe_str fun _ => h ▸ rep_str x
end
noncomputable def eBin (f : D → D → Option D) (a b : M Vl) : M Vl := fun ρ => (a ρ).bind fun p => (b p.2).bind fun q => (look q.2 (stl p.1)).bind fun x => (look q.2 (stl q.1)).bind fun y => (f x y).bind fun z => some (.fz z, q.2)
noncomputable def OpS (K : Kx) (r : R2) (f : D → D → Option D) : Prop :=
  ∀ (H F : Hp) (v u : V) (x y z : D), Same F H → Vw K H F v x → Vw K H F u y → f x y = some z → ∀ Q : VK, (∀ w H' F', Alc F H F' H' → Rep K F' w z → Q w H') → r v u H Q
noncomputable def orF (f g : D → D → Option D) : D → D → Option D := fun x y => match f x y with
  | some z => some z
  | none => g x y
theorem OpS.or {K : Kx} {r r' : R2} {f g : D → D → Option D} (h : OpS K r f) (h' : OpS K r' g) : OpS K (fun x y H Q => r x y H Q ∨ r' x y H Q) (orF f g) := by
  intro H F v u x y z s hx hy e Q q
  unfold orF at e
  cases e1 : f x y with
  | some w =>
    simp [e1] at e; subst e
    exact .inl (h H F v u x y w s hx hy e1 Q q)
  | none =>
    simp [e1] at e
    exact .inr (h' H F v u x y z s hx hy e Q q)
theorem top_of {K : Kx} {r : R2} {f : D → D → Option D} {a b : M Vl} (hf : OpS K r f) {σ : L2.St} {H : Hp} {Q : VK} (h : tM K (eBin f a b) σ H Q) : tOp r (tM K a) (tM K b) σ H Q := by
  obtain ⟨G, ρ, F, r0, ρ', W, hm, q⟩ := h
  unfold eBin at hm
  obtain ⟨⟨x, ρ1⟩, e1, hm⟩ := Option.bind_eq_some_iff.mp hm
  obtain ⟨⟨y, ρ2⟩, e2, hm⟩ := Option.bind_eq_some_iff.mp hm
  obtain ⟨dx, e3, hm⟩ := Option.bind_eq_some_iff.mp hm
  obtain ⟨dy, e4, hm⟩ := Option.bind_eq_some_iff.mp hm
  obtain ⟨dz, e5, hm⟩ := Option.bind_eq_some_iff.mp hm
  cases hm
  refine tm_use W e1 fun v H1 F1 s1 R1 => ?_
  refine tm_use s1.wd e2 fun u H2 F2 s2 R2 => ?_
  have V1 := vw_of s2.wd (R1.ste s2) e3
  have V2 := vw_of s2.wd R2 e4
  refine hf H2 F2 v u dx dy dz s2.wd.sub V1 V2 e5 Q fun w H' F' A R => ?_
  exact q w H' F' ((s1.trans s2).trans (s2.wd.alc A)) R
section
variable {X : Cx} {a b : Expr} {ma mb : M Vl} {pos : Pos}
theorem se_bin {op : Operator} {r : R2} {f : D → D → Option D} (ho : OpR X (binaryOp op) r) (hf : OpS X.kx r f) (ha : SE X a ma) (hb : SE X b mb) : SE X (.BinOp a op b pos) (eBin f ma mb) :=
  pe_weak (pe_op ho ha hb) fun _ _ _ h => top_of hf h
theorem se_cmp {op : CmpOp} {r : R2} {f : D → D → Option D} (ho : OpR X (compareOp op) r) (hf : OpS X.kx r f) (ha : SE X a ma) (hb : SE X b mb) (hm : behindInMarks op b = false) : SE X (.Compare a [op] [b] pos) (eBin f ma mb) :=
  pe_weak (pe_cmpR ho ha hb hm) fun _ _ _ h => top_of hf h
theorem se_ixr {r : R2} {f : D → D → Option D} (ho : IxR X r) (hf : OpS X.kx r f) (ha : SE X a ma) (hb : SE X b mb) (hs : PlainIx b) : SE X (.Subscript a b pos) (eBin f ma mb) :=
  pe_weak (pe_ix ho ha hb hs) fun _ _ _ h => top_of hf h
end
noncomputable def eUn (f : D → Option D) (a : M Vl) : M Vl := fun ρ => (a ρ).bind fun p => (look p.2 (stl p.1)).bind fun x => (f x).bind fun z => some (.fz z, p.2)
/-- an expression that gives a bool -/
noncomputable def tE (a : M Vl) : M Bool := fun ρ => (a ρ).bind fun p => match p.1 with
  | .fz (.bl b) => some (b, p.2)
  | _ => none
theorem tb_of {K : Kx} {a : M Vl} {σ : L2.St} {H : Hp} {Q : Bool → Hp → Prop} (h : tMT K (tE a) σ H Q) : tM K a σ H (fun x H1 => ∃ c, x = .bl c ∧ Q c H1) := by
  obtain ⟨G, ρ, F, b, ρ', W, hm, q⟩ := h
  unfold tE at hm
  obtain ⟨⟨x, ρ1⟩, e1, hm⟩ := Option.bind_eq_some_iff.mp hm
  refine tm_use W e1 fun v H1 F1 s1 R1 => ?_
  split at hm
  · rename_i c hc
    cases hm
    dsimp only at hc
    subst hc
    cases (show Rep K F1 v (.bl b) from R1)
    exact ⟨b, rfl, q H1 F1 s1⟩
  · cases hm
section
variable {X : Cx} {a b c : Expr} {ma mb : M Vl} {m1 m2 : M Bool} {pos : Pos} {rest : List Expr}
theorem st_val (ha : SE X a ma) (he : ∀ whole, isTrue a X.env whole = (do let v ← whole; standAt a.pos; holding [v] (truthy v))) : ST X a (tE ma) :=
  pt_weak (pt_val ha he) fun _ _ _ h => tb_of h
theorem st_cmp {op : CmpOp} {r : R2} {f : D → D → Option D} (ho : OpR X (compareOp op) r) (hf : OpS X.kx r f) (ha : SE X a ma) (hb : SE X b mb) (hm : behindInMarks op b = false) : ST X (.Compare a [op] [b] pos) (tE (eBin f ma mb)) :=
  pt_weak (pt_cmpR ho ha hb hm) fun _ _ _ h => top_of hf (tb_of h)
noncomputable def tAnd (a b : M Bool) : M Bool := fun ρ => (a ρ).bind fun p => if p.1 = true then b p.2 else some (false, p.2)
noncomputable def tOr (a b : M Bool) : M Bool := fun ρ => (a ρ).bind fun p => if p.1 = true then some (true, p.2) else b p.2
noncomputable def tNot (a : M Bool) : M Bool := fun ρ => (a ρ).bind fun p => some (!p.1, p.2)
noncomputable abbrev SW (X : Cx) (e : Expr) (m : M Bool) : Prop := PW X e (tMT X.kx m)
theorem sw_and1 (h : ST X a m1) : SW X (.BoolOp .And [a] pos) m1 := pw_and1 h
theorem sw_or1 (h : ST X a m1) : SW X (.BoolOp .Or [a] pos) m1 := pw_or1 h
theorem tand_of {K : Kx} {σ : L2.St} {H : Hp} {Q : Bool → Hp → Prop} (h : tMT K (tAnd m1 m2) σ H Q) : L2.tAnd (tMT K m1) (tMT K m2) σ H Q := by
  obtain ⟨G, ρ, F, b, ρ', W, hm, q⟩ := h
  unfold tAnd at hm
  obtain ⟨⟨x, ρ1⟩, e1, hm⟩ := Option.bind_eq_some_iff.mp hm
  refine tmt_use W e1 fun H1 F1 s1 => ?_
  cases x with
  | true =>
    simp only [if_true] at hm ⊢
    exact ⟨G, ρ1, F1, b, ρ', s1.wd, hm, fun H2 F2 s2 => q H2 F2 (s1.trans s2)⟩
  | false =>
    simp at hm ⊢
    obtain ⟨rfl, rfl⟩ := hm
    exact q H1 F1 s1
theorem tor_of {K : Kx} {σ : L2.St} {H : Hp} {Q : Bool → Hp → Prop} (h : tMT K (tOr m1 m2) σ H Q) : L2.tOr (tMT K m1) (tMT K m2) σ H Q := by
  obtain ⟨G, ρ, F, b, ρ', W, hm, q⟩ := h
  unfold tOr at hm
  obtain ⟨⟨x, ρ1⟩, e1, hm⟩ := Option.bind_eq_some_iff.mp hm
  refine tmt_use W e1 fun H1 F1 s1 => ?_
  cases x with
  | true =>
    simp at hm ⊢
    obtain ⟨rfl, rfl⟩ := hm
    exact q H1 F1 s1
  | false =>
    simp at hm ⊢
    exact ⟨G, ρ1, F1, b, ρ', s1.wd, hm, fun H2 F2 s2 => q H2 F2 (s1.trans s2)⟩
theorem sw_and (ha : ST X a m1) (hb : SW X (.BoolOp .And (b :: rest) pos) m2) : SW X (.BoolOp .And (a :: b :: rest) pos) (tAnd m1 m2) := pw_weak (pw_and ha hb) fun _ _ _ h => tand_of h
theorem sw_or (ha : ST X a m1) (hb : SW X (.BoolOp .Or (b :: rest) pos) m2) : SW X (.BoolOp .Or (a :: b :: rest) pos) (tOr m1 m2) := pw_weak (pw_or ha hb) fun _ _ _ h => tor_of h
theorem st_bool {e : Expr} (h : SW X e m1) : ST X e m1 := h.pt
theorem st_not (ha : ST X a m1) : ST X (.UnaryOp .Not a pos) (tNot m1) := pt_weak (pt_not ha) fun σ H Q ⟨G, ρ, F, b, ρ', W, hm, q⟩ => by
  unfold tNot at hm
  obtain ⟨⟨x, ρ1⟩, e1, hm⟩ := Option.bind_eq_some_iff.mp hm
  cases hm
  exact tmt_use W e1 fun H1 F1 s1 => q H1 F1 s1
/-- and, or, not of bools as values -/
noncomputable def eAnd (a b : M Vl) : M Vl := fun ρ => (a ρ).bind fun p => match p.1 with
  | .fz (.bl true) => b p.2
  | .fz (.bl false) => some (.fz (.bl false), p.2)
  | _ => none
noncomputable def eOr (a b : M Vl) : M Vl := fun ρ => (a ρ).bind fun p => match p.1 with
  | .fz (.bl false) => b p.2
  | .fz (.bl true) => some (.fz (.bl true), p.2)
  | _ => none
noncomputable def eNot (a : M Vl) : M Vl := fun ρ => (a ρ).bind fun p => match p.1 with
  | .fz (.bl b) => some (.fz (.bl (!b)), p.2)
  | _ => none
noncomputable def eIf (t : M Bool) (a b : M Vl) : M Vl := fun ρ => (t ρ).bind fun p => if p.1 = true then a p.2 else b p.2
theorem VlR.pre {K : Kx} {G : Gd} {P P' : Hp} {ρ : Rho} {σ : L2.St} {H F : Hp} {v : V} {r : Vl} (h : VlR K G P ρ σ H F v r) (e : ∀ a, P a = none → P' a = none) : VlR K G P' ρ σ H F v r := by
  cases r with
  | fz x => exact h
  | bw i => exact h
  | fr xs =>
    obtain ⟨a, vs, e1, h1, h2, h3, h4, h5⟩ := h
    exact ⟨a, vs, e1, h1, h2, h3, e a h4, h5⟩
theorem Ste.back {K : Kx} {G : Gd} {ρ ρ1 : Rho} {σ : L2.St} {H H1 F F1 : Hp} (s : Ste K G ρ σ H F ρ1 H1 F1) : ∀ a, H1 a = none → H a = none := fun a h => by
  cases e : H a with
  | none => rfl
  | some o => exact absurd h (s.tr a (by rw [e]; simp))
/-- the last part's own result -/
theorem tm_last {K : Kx} {G : Gd} {ρ ρ1 ρ2 : Rho} {σ : L2.St} {H H1 F F1 : Hp} {r : Vl} {m : M Vl} {Q : VK} (s : Ste K G ρ σ H F ρ1 H1 F1) (h : m ρ1 = some (r, ρ2)) (q : ∀ v H' F', Ste K G ρ σ H F ρ2 H' F' → VlR K G H ρ2 σ H' F' v r → Q v H') : tM K m σ H1 Q :=
  ⟨G, ρ1, F1, r, ρ2, s.wd, h, fun v H2 F2 s2 R => q v H2 F2 (s.trans s2) (R.pre s.back)⟩
theorem se_one {op} (h : SE X a ma) : SE X (.BoolOp op [a] pos) ma := pe_one h
theorem se_and (ha : SE X a ma) (hb : SE X (.BoolOp .And (b :: rest) pos) mb) : SE X (.BoolOp .And (a :: b :: rest) pos) (eAnd ma mb) := by
  refine pe_weak (pe_and ha hb) fun σ H Q ⟨G, ρ, F, r, ρ', W, hm, q⟩ => ?_
  unfold eAnd at hm
  obtain ⟨⟨x, ρ1⟩, e1, hm⟩ := Option.bind_eq_some_iff.mp hm
  refine tm_use W e1 fun v H1 F1 s1 R1 => ?_
  split at hm
  · rename_i hc; dsimp only at hc; subst hc
    cases (show Rep X.kx F1 v (.bl true) from R1)
    exact ⟨true, rfl, tm_last s1 hm q⟩
  · rename_i hc; dsimp only at hc; subst hc
    cases (show Rep X.kx F1 v (.bl false) from R1)
    cases hm
    exact ⟨false, rfl, q _ _ F1 s1 (.bl false)⟩
  · cases hm
theorem se_not (ha : SE X a ma) : SE X (.UnaryOp .Not a pos) (eNot ma) := by
  refine pe_weak (pe_not ha) fun σ H Q ⟨G, ρ, F, r, ρ', W, hm, q⟩ => ?_
  unfold eNot at hm
  obtain ⟨⟨x, ρ1⟩, e1, hm⟩ := Option.bind_eq_some_iff.mp hm
  refine tm_use W e1 fun v H1 F1 s1 R1 => ?_
  split at hm
  · rename_i c hc; dsimp only at hc; subst hc
    cases (show Rep X.kx F1 v (.bl c) from R1)
    cases hm
    exact ⟨c, rfl, q _ _ F1 s1 (.bl _)⟩
  · cases hm
/-- a < b < c -/
noncomputable def eChain (f g : D → D → Option D) (a b c : M Vl) : M Vl := fun ρ => (a ρ).bind fun p => (b p.2).bind fun q => (look q.2 (stl p.1)).bind fun x => (look q.2 (stl q.1)).bind fun y => (f x y).bind fun z => match z with
  | .bl true => (c q.2).bind fun p3 => (look p3.2 (stl q.1)).bind fun y2 => (look p3.2 (stl p3.1)).bind fun w => (g y2 w).bind fun z2 => some (.fz z2, p3.2)
  | .bl false => some (.fz (.bl false), q.2)
  | _ => none
end
noncomputable def aNil : M (List Vl) := fun ρ => some ([], ρ)
noncomputable def aCons (a : M Vl) (r : M (List Vl)) : M (List Vl) := fun ρ => (a ρ).bind fun p => (r p.2).bind fun q => some (stl p.1 :: q.1, q.2)
theorem sa_nil {X : Cx} : SA X [] aNil := pa_weak pa_nil fun σ H Q ⟨G, ρ, F, r, ρ', W, hm, q⟩ => by
  cases hm
  exact q [] H F (Ste.refl W) trivial
theorem sa_cons {X : Cx} {e : Expr} {es : List Expr} {me : M Vl} {mr : M (List Vl)} (he : SE X e me) (hr : SA X es mr) (hs : starEach (e :: es) X.env = (false, eval e X.env) :: starEach es X.env := by rfl) : SA X (e :: es) (aCons me mr) := by
  refine pa_weak (pa_cons he hr hs) fun σ H Q ⟨G, ρ, F, r, ρ', W, hm, q⟩ => ?_
  unfold aCons at hm
  obtain ⟨⟨x, ρ1⟩, e1, hm⟩ := Option.bind_eq_some_iff.mp hm
  obtain ⟨⟨y, ρ2⟩, e2, hm⟩ := Option.bind_eq_some_iff.mp hm
  cases hm
  refine tm_use W e1 fun v H1 F1 s1 R1 => ?_
  exact ⟨G, ρ1, F1, y, ρ2, s1.wd, e2, fun vs H2 F2 s2 R2 => q (v :: vs) H2 F2 (s1.trans s2) ⟨R1.ste s2, R2⟩⟩
/-- all become data -/
noncomputable def frzs (ρ : Rho) : List Vl → Option (List D × Rho)
  | [] => some ([], ρ)
  | r :: rs => (frz ρ r).bind fun p => (frzs p.2 rs).bind fun q => some (p.1 :: q.1, q.2)
theorem frzs_ok {K : Kx} {G : Gd} {σ : L2.St} {H : Hp} : ∀ {rs : List Vl} {vs : List V} {xs : List D} {ρ ρ' : Rho} {F : Hp}, Wd K G ρ σ H F → VlSs K σ F vs rs → frzs ρ rs = some (xs, ρ') → ∃ F', Ste K G ρ σ H F ρ' H F' ∧ Reps K F' vs xs
  | [], [], xs, ρ, ρ', F, W, _, e => by
    cases e
    exact ⟨F, Ste.refl W, .nil⟩
  | [], _ :: _, _, _, _, _, _, h, _ => h.elim
  | _ :: _, [], _, _, _, _, _, h, _ => h.elim
  | r :: rs, v :: vs, xs, ρ, ρ', F, W, h, e => by
    unfold frzs at e
    obtain ⟨⟨x, ρ1⟩, e1, e⟩ := Option.bind_eq_some_iff.mp e
    obtain ⟨⟨ys, ρ2⟩, e2, e⟩ := Option.bind_eq_some_iff.mp e
    cases e
    obtain ⟨F1, s1, R1⟩ := frz_ok W h.1 e1
    obtain ⟨F2, s2, R2⟩ := frzs_ok s1.wd (h.2.ste s1) e2
    exact ⟨F2, s1.trans s2, .cons (R1.mono s2.ff) R2⟩
noncomputable abbrev lim : Nat := 16777216
theorem lim_of {n : Nat} (h : n ≤ lim) : n ≤ sizeLine := by rw [sizeLine_eq]; exact h
theorem lim_lt {n : Nat} (h : n < lim) : n < sizeLine := by rw [sizeLine_eq]; exact h
/-- (a, b, ..) -/
noncomputable def eTup (a : M (List Vl)) : M Vl := fun ρ => (a ρ).bind fun p => (frzs p.2 p.1).bind fun q => if q.1.length ≤ lim then some (.fz (.tup q.1), q.2) else none
noncomputable def eLst (a : M (List Vl)) : M Vl := fun ρ => (a ρ).bind fun p => (frzs p.2 p.1).bind fun q => if q.1.length ≤ lim then some (.fr q.1, q.2) else none
section
variable {X : Cx} {es : List Expr} {ma : M (List Vl)} {pos : Pos}
theorem se_tup {x1} (h : SA X es ma) : SE X (.Tuple es x1 pos) (eTup ma) := by
  refine pe_weak (pe_tup h) fun σ H Q ⟨G, ρ, F, r, ρ', W, hm, q⟩ => ?_
  unfold eTup at hm
  obtain ⟨⟨x, ρ1⟩, e1, hm⟩ := Option.bind_eq_some_iff.mp hm
  obtain ⟨⟨ys, ρ2⟩, e2, hm⟩ := Option.bind_eq_some_iff.mp hm
  split at hm
  · rename_i hl
    cases hm
    refine ⟨G, ρ, F, x, ρ1, W, e1, fun vs H1 F1 s1 R1 => ?_⟩
    obtain ⟨F2, s2, R2⟩ := frzs_ok s1.wd R1 e2
    refine ⟨lim_of (by rw [R2.len]; exact hl), fun p hp => ?_⟩
    have A := Alc.new (o := HO.tup vs) s2.wd.sub hp
    exact q _ _ _ ((s1.trans s2).trans (s2.wd.alc A)) (Rep.tup (SqT.of upd_same) (R2.mono A.ff))
  · cases hm
theorem se_lst (h : SA X es ma) : SE X (.List es pos) (eLst ma) := by
  refine pe_weak (pe_lst h) fun σ H Q ⟨G, ρ, F, r, ρ', W, hm, q⟩ => ?_
  unfold eLst at hm
  obtain ⟨⟨x, ρ1⟩, e1, hm⟩ := Option.bind_eq_some_iff.mp hm
  obtain ⟨⟨ys, ρ2⟩, e2, hm⟩ := Option.bind_eq_some_iff.mp hm
  split at hm
  · rename_i hl
    cases hm
    refine ⟨G, ρ, F, x, ρ1, W, e1, fun vs H1 F1 s1 R1 => ?_⟩
    obtain ⟨F2, s2, R2⟩ := frzs_ok s1.wd R1 e2
    refine ⟨lim_of (by rw [R2.len]; exact hl), fun p hp => ?_⟩
    have s3 := s1.trans s2
    have A : Alc F2 H1 F2 (upd H1 p (.lst vs)) := ⟨Same.refl _, s2.wd.sub.trans (same_upd hp), same_upd hp, fun _ h => .inl h⟩
    refine q _ _ _ (s3.trans (s2.wd.alc A)) ⟨p, vs, rfl, upd_same, R2, s2.wd.sub.free hp, s3.back p hp, s3.wd.not_ow hp (same_upd hp)⟩
  · cases hm
end
noncomputable def looks (ρ : Rho) : List Vl → Option (List D)
  | [] => some []
  | r :: rs => (look ρ r).bind fun x => (looks ρ rs).bind fun xs => some (x :: xs)
noncomputable def Vws (K : Kx) (H F : Hp) : List V → List D → Prop
  | [], [] => True
  | v :: vs, x :: xs => Vw K H F v x ∧ Vws K H F vs xs
  | _, _ => False
theorem vws_of {K : Kx} {G : Gd} {ρ : Rho} {σ : L2.St} {H F : Hp} (W : Wd K G ρ σ H F) : ∀ {vs : List V} {rs : List Vl} {xs : List D}, VlSs K σ F vs rs → looks ρ rs = some xs → Vws K H F vs xs
  | [], [], xs, _, e => by cases e; trivial
  | [], _ :: _, _, h, _ => h.elim
  | _ :: _, [], _, h, _ => h.elim
  | v :: vs, r :: rs, xs, h, e => by
    unfold looks at e
    obtain ⟨x, e1, e⟩ := Option.bind_eq_some_iff.mp e
    obtain ⟨ys, e2, e⟩ := Option.bind_eq_some_iff.mp e
    cases e
    exact ⟨vw_of W h.1 e1, vws_of W h.2 e2⟩
/-- f(a, ..) of a built-in f -/
noncomputable def eBlt (f : List D → Option D) (a : M (List Vl)) : M Vl := fun ρ => (a ρ).bind fun p => (looks p.2 p.1).bind fun xs => (f xs).bind fun z => some (.fz z, p.2)
noncomputable def CallS (K : Kx) (r : List V → Hp → VK → Prop) (f : List D → Option D) : Prop :=
  ∀ (H F : Hp) (vs : List V) (xs : List D) (z : D), Same F H → Vws K H F vs xs → f xs = some z → ∀ Q : VK, (∀ w H' F', Alc F H F' H' → Rep K F' w z → Q w H') → r vs H Q
theorem tcb_of {K : Kx} {r : List V → Hp → VK → Prop} {f : List D → Option D} {a : M (List Vl)} (hf : CallS K r f) {σ : L2.St} {H : Hp} {Q : VK} (h : tM K (eBlt f a) σ H Q) : tMA K a σ H fun vs H1 => r vs H1 Q := by
  obtain ⟨G, ρ, F, r0, ρ', W, hm, q⟩ := h
  unfold eBlt at hm
  obtain ⟨⟨x, ρ1⟩, e1, hm⟩ := Option.bind_eq_some_iff.mp hm
  obtain ⟨xs, e2, hm⟩ := Option.bind_eq_some_iff.mp hm
  obtain ⟨z, e3, hm⟩ := Option.bind_eq_some_iff.mp hm
  cases hm
  refine ⟨G, ρ, F, x, ρ1, W, e1, fun vs H1 F1 s1 R1 => ?_⟩
  refine hf H1 F1 vs xs z s1.wd.sub (vws_of s1.wd R1 e2) e3 Q fun w H' F' A R => ?_
  exact q w H' F' (s1.trans (s1.wd.alc A)) R
end Sw
namespace Sw
open PySem PySem.Spec PyProof.Rows L2
section
variable {X : Cx} {a b c e : Expr} {ma mb mc me : M Vl} {pos : Pos}
noncomputable def tMO (K : Kx) (m : M (Option Int)) : TO := fun σ H Q => ∃ G ρ F r ρ', Wd K G ρ σ H F ∧ m ρ = some (r, ρ') ∧ ∀ H' F', Ste K G ρ σ H F ρ' H' F' → Q r H'
noncomputable abbrev SO (X : Cx) (e : Option Expr) (m : M (Option Int)) : Prop := PO X e (tMO X.kx m)
theorem po_weak {o : Option Expr} {t t' : TO} (h : PO X o t) (w : ∀ σ H Q, t' σ H Q → t σ H Q) : PO X o t' := ⟨fun pins s σ H Q I q => h.run pins s σ H Q I (w _ _ _ q)⟩
noncomputable def oNo : M (Option Int) := fun ρ => some (none, ρ)
noncomputable def oSome (a : M Vl) : M (Option Int) := fun ρ => (a ρ).bind fun p => match p.1 with
  | .fz (.int i) => some (some i, p.2)
  | _ => none
theorem so_none : SO X none oNo := po_weak po_none fun σ H Q ⟨G, ρ, F, r, ρ', W, hm, q⟩ => by
  cases hm
  exact q H F (Ste.refl W)
theorem so_some (h : SE X e me) : SO X (some e) (oSome me) := po_weak (po_some h) fun σ H Q ⟨G, ρ, F, r, ρ', W, hm, q⟩ => by
  unfold oSome at hm
  obtain ⟨⟨x, ρ1⟩, e1, hm⟩ := Option.bind_eq_some_iff.mp hm
  refine tm_use W e1 fun v H1 F1 s1 R1 => ?_
  split at hm
  · rename_i i hc; dsimp only at hc; subst hc
    cases (show Rep X.kx F1 v (.int i) from R1)
    cases hm
    exact ⟨i, rfl, q H1 F1 s1⟩
  · cases hm
noncomputable def eSl (f : D → Option Int → Option Int → Option D) (a : M Vl) (l u : M (Option Int)) : M Vl := fun ρ => (a ρ).bind fun p => (l p.2).bind fun p1 => (u p1.2).bind fun p2 => (look p2.2 (stl p.1)).bind fun x => (f x p1.1 p2.1).bind fun z => some (.fz z, p2.2)
noncomputable def SlS (K : Kx) (r : V → Option Int → Option Int → Hp → VK → Prop) (f : D → Option Int → Option Int → Option D) : Prop :=
  ∀ (H F : Hp) (v : V) (x z : D) (lo hi : Option Int), Same F H → Vw K H F v x → f x lo hi = some z → ∀ Q : VK, (∀ w H' F', Alc F H F' H' → Rep K F' w z → Q w H') → r v lo hi H Q
theorem se_sl {r : V → Option Int → Option Int → Hp → VK → Prop} {f : D → Option Int → Option Int → Option D} {lo hi : Option Expr} {ml mu : M (Option Int)} {p2 : Pos} (hr : L2.SlR X r) (hf : SlS X.kx r f) (he : SE X e me) (hl : SO X lo ml) (hu : SO X hi mu) : SE X (.Subscript e (.Slice lo hi none p2) pos) (eSl f me ml mu) := by
  refine pe_weak (pe_slice hr he hl hu) fun σ H Q ⟨G, ρ, F, r0, ρ', W, hm, q⟩ => ?_
  unfold eSl at hm
  obtain ⟨⟨x, ρ1⟩, e1, hm⟩ := Option.bind_eq_some_iff.mp hm
  obtain ⟨⟨l, ρ2⟩, e2, hm⟩ := Option.bind_eq_some_iff.mp hm
  obtain ⟨⟨u, ρ3⟩, e3, hm⟩ := Option.bind_eq_some_iff.mp hm
  obtain ⟨dx, e4, hm⟩ := Option.bind_eq_some_iff.mp hm
  obtain ⟨dz, e5, hm⟩ := Option.bind_eq_some_iff.mp hm
  cases hm
  refine tm_use W e1 fun v H1 F1 s1 R1 => ?_
  refine ⟨G, ρ1, F1, l, ρ2, s1.wd, e2, fun H2 F2 s2 => ⟨G, ρ2, F2, u, ρ3, s2.wd, e3, fun H3 F3 s3 => ?_⟩⟩
  refine hf H3 F3 v dx dz l u s3.wd.sub (vw_of s3.wd ((R1.ste s2).ste s3) e4) e5 _ fun w H' F' A R => ?_
  exact q w H' F' (((s1.trans s2).trans s3).trans (s3.wd.alc A)) R
variable {x : Str} {id T : String} {es : List Expr} {ms : M (List Vl)} {p : Pos} {r : List V → Hp → VK → Prop} {f : List D → Option D}
theorem se_blt (hc : CallR X (.builtin id) r) (hf : CallS X.kx r f) (hg : Gl X x) (hm : X.mg x = none) (hv : bootBuiltins x = some (.builtin id)) (ha : SA X (e :: es) ms) (hn : x ≠ "__name__" := by decide) (hdb : (x == ("__debug__" : Str)) = false := by decide)
    (he : starEach (e :: es) X.env = (false, eval e X.env) :: starEach es X.env := by rfl) (hpl : (backTo pos (starEach es X.env)).any (·.1) = false := by rfl) : SE X (.Call (.Name x p) (e :: es) [] pos) (eBlt f ms) :=
  pe_weak (pe_callB hc hg hm hv ha hn hdb he hpl) fun _ _ _ h => tcb_of hf h
theorem se_ty (hc : CallR X (.type T) r) (hf : CallS X.kx r f) (hg : Gl X x) (hm : X.mg x = none) (hv : bootBuiltins x = some (.type T)) (ha : SA X (e :: es) ms) (hn : x ≠ "__name__" := by decide) (hdb : (x == ("__debug__" : Str)) = false := by decide)
    (he : starEach (e :: es) X.env = (false, eval e X.env) :: starEach es X.env := by rfl) (hpl : (backTo pos (starEach es X.env)).any (·.1) = false := by rfl) : SE X (.Call (.Name x p) (e :: es) [] pos) (eBlt f ms) :=
  pe_weak (pe_callTy hc hg hm hv ha hn hdb he hpl) fun _ _ _ h => tcb_of hf h
/-- o.m(a, ..), m a method of a built-in type; the object a text -/
noncomputable def eMet (f : D → List D → Option D) (o : M Vl) (a : M (List Vl)) : M Vl := fun ρ => (o ρ).bind fun p => (a p.2).bind fun q => (look q.2 (stl p.1)).bind fun x => (looks q.2 q.1).bind fun xs => (f x xs).bind fun z => some (.fz z, q.2)
noncomputable def MetS (K : Kx) (r : V → List V → Hp → VK → Prop) (f : D → List D → Option D) : Prop :=
  ∀ (H F : Hp) (v : V) (vs : List V) (x : D) (xs : List D) (z : D), Same F H → Vw K H F v x → Vws K H F vs xs → f x xs = some z → ∀ Q : VK, (∀ w H' F', Alc F H F' H' → Rep K F' w z → Q w H') → r v vs H Q
theorem look_str {ρ : Rho} {r : Vl} {s : List Nat} (h : look ρ (stl r) = some (.str s)) : stl r = .fz (.str s) := by
  cases r with
  | fz x => cases h; rfl
  | fr xs => cases h
  | bw i =>
    simp only [stl, look] at h
    split at h <;> cases h
theorem tmet_of {K : Kx} {mo : M Vl} {r : V → List V → Hp → VK → Prop} {f : D → List D → Option D} (hT : ∀ x xs z, f x xs = some z → ∃ s, x = .str s) (hf : MetS K r f) {σ : L2.St} {H : Hp} {Q : VK} (h : tM K (eMet f mo ms) σ H Q) :
    tM K mo σ H fun x H1 => tyV K "str" x H1 ∧ tMA K ms σ H1 fun xs H2 => r x xs H2 Q := by
  obtain ⟨G, ρ, F, r0, ρ', W, hm, q⟩ := h
  unfold eMet at hm
  obtain ⟨⟨x, ρ1⟩, e1, hm⟩ := Option.bind_eq_some_iff.mp hm
  obtain ⟨⟨y, ρ2⟩, e2, hm⟩ := Option.bind_eq_some_iff.mp hm
  obtain ⟨dx, e3, hm⟩ := Option.bind_eq_some_iff.mp hm
  obtain ⟨dxs, e4, hm⟩ := Option.bind_eq_some_iff.mp hm
  obtain ⟨dz, e5, hm⟩ := Option.bind_eq_some_iff.mp hm
  cases hm
  refine tm_use W e1 fun v H1 F1 s1 R1 => ?_
  obtain ⟨s, rfl⟩ := hT _ _ _ e5
  have ex := look_str e3
  have Rv : Rep K F1 v (.str s) := by rw [ex] at R1; exact R1
  have ty : tyV K "str" v H1 := by
    cases Rv
    rfl
  refine ⟨ty, ⟨G, ρ1, F1, y, ρ2, s1.wd, e2, fun vs H2 F2 s2 R2 => ?_⟩⟩
  refine hf H2 F2 v vs (.str s) dxs dz s2.wd.sub (vw_rep s2.wd.sub (Rv.mono s2.ff)) (vws_of s2.wd R2 e4) e5 Q fun w H' F' A R => ?_
  exact q w H' F' ((s1.trans s2).trans (s2.wd.alc A)) R
theorem se_met {o : Expr} {mo : M Vl} {name : Str} {apos cpos : Pos} {r : V → List V → Hp → VK → Prop} {f : D → List D → Option D} (slot : Slot "str" name id) (hty : typeOf (.builtin id) = pure (.type "method_descriptor")) (hm : MtR X id r) (hT : ∀ x xs z, f x xs = some z → ∃ s, x = .str s) (hf : MetS X.kx r f) (ho : SE X o mo) (ha : SA X (e :: es) ms)
    (hbase : attributeBase o name X.env (eval o X.env) = eval o X.env := by rfl)
    (hfew : ((backTo cpos (starEach (e :: es) X.env)).all (fun x => !x.1) && (backToKw cpos (keywordEach [] X.env)).all (fun x => x.1.isSome)
      && decide ((e :: es).length + ([] : List Keyword).length + (if ([] : List Keyword).isEmpty then 0 else 1) < 30)) = true := by rfl)
    (hline : (apos.endLine == cpos.line) = true := by rfl) (hs : starEach (e :: es) X.env = (false, eval e X.env) :: starEach es X.env := by rfl) (hplain : (backTo cpos (starEach es X.env)).any (·.1) = false := by rfl) :
    SE X (.Call (.Attribute o name apos) (e :: es) [] cpos) (eMet f mo ms) :=
  pe_weak (pe_bm PySem.F.plainAttrs_str slot hty hm ho ha hbase hfew hline hs hplain) fun _ _ _ h => tmet_of hT hf h
end
/-- an argument: a datum, or a list that the def may change -/
inductive Ag where
  | da (x : D) | li (xs : List D)
noncomputable abbrev Fn := List Ag → Option (Vl × List (List D))
noncomputable def liA : List V → List Ag → List Addr
  | .ref a :: vs, .li _ :: gs => a :: liA vs gs
  | _ :: vs, _ :: gs => liA vs gs
  | _, _ => []
noncomputable def AgsR (K : Kx) (F H : Hp) : List V → List Ag → Prop
  | [], [] => True
  | v :: vs, .da x :: gs => Rep K F v x ∧ AgsR K F H vs gs
  | v :: vs, .li xs :: gs => (∃ a us, v = .ref a ∧ H a = some (.lst us) ∧ Reps K F us xs ∧ F a = none) ∧ AgsR K F H vs gs
  | _, _ => False
noncomputable def OutsR (K : Kx) (F H : Hp) : List Addr → List (List D) → Prop
  | [], [] => True
  | a :: as, xs :: os => (∃ us, H a = some (.lst us) ∧ Reps K F us xs ∧ F a = none) ∧ OutsR K F H as os
  | _, _ => False
noncomputable def ResR (K : Kx) (P F H : Hp) (v : V) : Vl → Prop
  | .fz x => Rep K F v x
  | .fr xs => ∃ a us, v = .ref a ∧ H a = some (.lst us) ∧ Reps K F us xs ∧ F a = none ∧ P a = none
  | .bw _ => True
noncomputable def spF (K : Kx) (n : Nat) (f : Fn) : Sp := fun vs H Q _ => vs.length = n ∧ ∃ (F : Hp) (gs : List Ag) (r : Vl) (os : List (List D)), Same F H ∧ AgsR K F H vs gs ∧ (liA vs gs).Nodup ∧ f gs = some (r, os) ∧ ∀ v H' F',
  Same F F' → Same F' H' → (∀ b o, H b = some o → b ∉ liA vs gs → H' b = some o) → (∀ b, F' b ≠ none → F b ≠ none ∨ H b = none) → OutsR K F' H' (liA vs gs) os → ResR K H F' H' v r → Q v H'
/-- the arguments of a call: data, or the number of the slot whose list is handed in -/
noncomputable def ag1 : List Bool → List Vl → Rho → Option (List (D ⊕ Nat) × Rho)
  | _, [], ρ => some ([], ρ)
  | fs, r :: rs, ρ => if fs.headD false = true then (match r with
    | .bw i => (ag1 fs.tail rs ρ).bind fun p => some (.inr i :: p.1, p.2)
    | _ => none) else (frz ρ r).bind fun p => (ag1 fs.tail rs p.2).bind fun q => some (.inl p.1 :: q.1, q.2)
noncomputable def own? (ρ : Rho) (i : Nat) : Option (List D) := match ρ[i]? with
  | some (.ow xs) => some xs
  | some (.io xs) => some xs
  | _ => none
noncomputable def ag2 (ρ : Rho) : List (D ⊕ Nat) → Option (List Ag)
  | [] => some []
  | .inl x :: r => (ag2 ρ r).bind fun gs => some (.da x :: gs)
  | .inr i :: r => (own? ρ i).bind fun xs => (ag2 ρ r).bind fun gs => some (.li xs :: gs)
noncomputable def agI : List (D ⊕ Nat) → List Nat
  | [] => []
  | .inl _ :: r => agI r
  | .inr i :: r => i :: agI r
noncomputable def put (ρ : Rho) (i : Nat) (xs : List D) : Rho := match ρ[i]? with
  | some (.ow _) => ρ.set i (.ow xs)
  | some (.io _) => ρ.set i (.io xs)
  | _ => ρ
noncomputable def puts : Rho → List Nat → List (List D) → Rho
  | ρ, i :: is, xs :: os => puts (put ρ i xs) is os
  | ρ, _, _ => ρ
noncomputable def eCall (f : Fn) (fs : List Bool) (a : M (List Vl)) : M Vl := fun ρ => (a ρ).bind fun p => (ag1 fs p.1 p.2).bind fun q => (ag2 q.2 q.1).bind fun gs => if (agI q.1).Nodup then (f gs).bind fun z => match z.1 with
  | .bw _ => none
  | w => some (w, puts q.2 (agI q.1) z.2) else none
noncomputable def TsR (K : Kx) (σ : L2.St) (F : Hp) : List V → List (D ⊕ Nat) → Prop
  | [], [] => True
  | v :: vs, .inl x :: r => Rep K F v x ∧ TsR K σ F vs r
  | v :: vs, .inr i :: r => σ[i]? = some (some v) ∧ TsR K σ F vs r
  | _, _ => False
section
variable {K : Kx} {G : Gd} {σ : L2.St} {H : Hp}
theorem ag1_frz {fs : List Bool} {r : Vl} {rs : List Vl} {v : V} {vs : List V} {ts : List (D ⊕ Nat)} {ρ ρ' : Rho} {F : Hp}
    (ih : ∀ {vs : List V} {ts : List (D ⊕ Nat)} {ρ ρ' : Rho} {F : Hp}, Wd K G ρ σ H F → VlSs K σ F vs rs → ag1 fs rs ρ = some (ts, ρ') → ∃ F', Ste K G ρ σ H F ρ' H F' ∧ TsR K σ F' vs ts)
    (W : Wd K G ρ σ H F) (h : VlSs K σ F (v :: vs) (r :: rs)) (e : ((frz ρ r).bind fun p => (ag1 fs rs p.2).bind fun q => some (.inl p.1 :: q.1, q.2)) = some (ts, ρ')) : ∃ F', Ste K G ρ σ H F ρ' H F' ∧ TsR K σ F' (v :: vs) ts := by
  obtain ⟨⟨x, ρ1⟩, e1, e⟩ := Option.bind_eq_some_iff.mp e
  obtain ⟨⟨ys, ρ2⟩, e2, e⟩ := Option.bind_eq_some_iff.mp e
  cases e
  obtain ⟨F1, s1, R1⟩ := frz_ok W h.1 e1
  obtain ⟨F2, s2, R2⟩ := ih s1.wd (h.2.ste s1) e2
  exact ⟨F2, s1.trans s2, R1.mono s2.ff, R2⟩
theorem ag1_ok : ∀ {rs : List Vl} {fs : List Bool} {vs : List V} {ts : List (D ⊕ Nat)} {ρ ρ' : Rho} {F : Hp}, Wd K G ρ σ H F → VlSs K σ F vs rs → ag1 fs rs ρ = some (ts, ρ') → ∃ F', Ste K G ρ σ H F ρ' H F' ∧ TsR K σ F' vs ts
  | [], fs, [], ts, ρ, ρ', F, W, _, e => by
    unfold ag1 at e
    cases e
    exact ⟨F, Ste.refl W, trivial⟩
  | [], _, _ :: _, _, _, _, _, _, h, _ => h.elim
  | _ :: _, _, [], _, _, _, _, _, h, _ => h.elim
  | r :: rs, fs, v :: vs, ts, ρ, ρ', F, W, h, e => by
    unfold ag1 at e
    split at e
    · cases r with
      | bw i =>
        obtain ⟨⟨ys, ρ2⟩, e2, e⟩ := Option.bind_eq_some_iff.mp e
        cases e
        obtain ⟨F2, s2, R2⟩ := ag1_ok W h.2 e2
        exact ⟨F2, s2, h.1, R2⟩
      | fz x => cases e
      | fr x => exact h.1.elim
    · exact ag1_frz (fs := fs.tail) ag1_ok W h e
theorem own_sl {ρ : Rho} {i : Nat} {xs : List D} (h : own? ρ i = some xs) : ρ[i]? = some (.ow xs) ∨ ρ[i]? = some (.io xs) := by
  unfold own? at h
  split at h
  · cases h; rename_i e; exact .inl e
  · cases h; rename_i e; exact .inr e
  · cases h
theorem ag2_ok {ρ : Rho} {F : Hp} (W : Wd K G ρ σ H F) : ∀ {ts : List (D ⊕ Nat)} {vs : List V} {gs : List Ag}, TsR K σ F vs ts → ag2 ρ ts = some gs →
    AgsR K F H vs gs ∧ (liA vs gs).length = (agI ts).length ∧ ∀ (k i : Nat) (a : Addr), (agI ts)[k]? = some i → (liA vs gs)[k]? = some a → OwL ρ σ i a
  | [], [], gs, _, e => by
    cases e
    exact ⟨trivial, rfl, fun k i a h _ => by simp [agI] at h⟩
  | [], _ :: _, _, h, _ => h.elim
  | .inl _ :: _, [], _, h, _ => h.elim
  | .inr _ :: _, [], _, h, _ => h.elim
  | .inl x :: ts, v :: vs, gs, h, e => by
    unfold ag2 at e
    obtain ⟨g2, e2, e⟩ := Option.bind_eq_some_iff.mp e
    cases e
    obtain ⟨h1, h2, h3⟩ := ag2_ok W h.2 e2
    have q : liA (v :: vs) (.da x :: g2) = liA vs g2 := by cases v <;> rfl
    exact ⟨⟨h.1, h1⟩, by rw [q]; exact h2, by rw [q]; exact h3⟩
  | .inr i :: ts, v :: vs, gs, h, e => by
    unfold ag2 at e
    obtain ⟨xs, e1, e⟩ := Option.bind_eq_some_iff.mp e
    obtain ⟨g2, e2, e⟩ := Option.bind_eq_some_iff.mp e
    cases e
    obtain ⟨h1, h2, h3⟩ := ag2_ok W h.2 e2
    have hv := h.1
    have sl := own_sl e1
    have key : ∃ a us, v = .ref a ∧ H a = some (.lst us) ∧ Reps K F us xs ∧ F a = none := by
      rcases sl with q | q
      · obtain ⟨a, us, z, p1, p2, p3, _⟩ := W.sl i _ q
        rw [hv] at z; cases z
        exact ⟨a, us, rfl, p1, p2, p3⟩
      · obtain ⟨a, us, z, p1, p2, p3, _⟩ := W.sl i _ q
        rw [hv] at z; cases z
        exact ⟨a, us, rfl, p1, p2, p3⟩
    obtain ⟨a, us, rfl, p1, p2, p3⟩ := key
    refine ⟨⟨⟨a, us, rfl, p1, p2, p3⟩, h1⟩, ?_, fun k j b q1 q2 => ?_⟩
    · show (a :: liA vs g2).length = (i :: agI ts).length
      rw [List.length_cons, List.length_cons, h2]
    · cases k with
      | zero =>
        have q1 : some i = some j := q1
        have q2 : some a = some b := q2
        cases q1; cases q2
        exact ⟨⟨xs, sl⟩, hv⟩
      | succ k => exact h3 k j b q1 q2
theorem put_len (ρ : Rho) (i : Nat) (xs : List D) : (put ρ i xs).length = ρ.length := by
  unfold put
  split <;> simp
theorem puts_len : ∀ (is : List Nat) (os : List (List D)) (ρ : Rho), (puts ρ is os).length = ρ.length
  | [], _, ρ => by unfold puts; rfl
  | _ :: _, [], ρ => by unfold puts; rfl
  | i :: is, xs :: os, ρ => by
    show (puts (put ρ i xs) is os).length = ρ.length
    rw [puts_len is os, put_len]
theorem put_ne {ρ : Rho} {i j : Nat} {xs : List D} (h : j ≠ i) : (put ρ i xs)[j]? = ρ[j]? := by
  unfold put
  split
  · rw [List.getElem?_set_ne (Ne.symm h)]
  · rw [List.getElem?_set_ne (Ne.symm h)]
  · rfl
theorem put_self {ρ : Rho} {i : Nat} {xs ys : List D} : (ρ[i]? = some (.ow ys) → (put ρ i xs)[i]? = some (.ow xs)) ∧ (ρ[i]? = some (.io ys) → (put ρ i xs)[i]? = some (.io xs)) := by
  constructor
  · intro h
    have hi := (List.getElem?_eq_some_iff.mp h).1
    unfold put
    rw [h]
    exact List.getElem?_set_self hi
  · intro h
    have hi := (List.getElem?_eq_some_iff.mp h).1
    unfold put
    rw [h]
    exact List.getElem?_set_self hi
theorem puts_ne : ∀ {is : List Nat} {os : List (List D)} {ρ : Rho} {j : Nat}, j ∉ is → (puts ρ is os)[j]? = ρ[j]?
  | [], _, ρ, j, _ => by unfold puts; rfl
  | _ :: _, [], ρ, j, _ => by unfold puts; rfl
  | i :: is, xs :: os, ρ, j, h => by
    show (puts (put ρ i xs) is os)[j]? = ρ[j]?
    rw [puts_ne fun z => h (List.mem_cons_of_mem _ z), put_ne fun z => h (by rw [z]; exact List.mem_cons_self)]
theorem puts_at : ∀ {is : List Nat} {os : List (List D)} {ρ : Rho} {k j : Nat} {xs : List D}, is.Nodup → is[k]? = some j → os[k]? = some xs → ∀ ys, (ρ[j]? = some (.ow ys) → (puts ρ is os)[j]? = some (.ow xs)) ∧ (ρ[j]? = some (.io ys) → (puts ρ is os)[j]? = some (.io xs))
  | [], _, _, _, _, _, _, h, _, _ => by simp at h
  | _ :: _, [], _, _, _, _, _, _, h, _ => by simp at h
  | i :: is, zs :: os, ρ, 0, j, xs, nd, h1, h2, ys => by
    simp at h1 h2
    subst h1; subst h2
    have nj := (List.nodup_cons.mp nd).1
    show (_ → (puts (put ρ i zs) is os)[i]? = _) ∧ (_ → (puts (put ρ i zs) is os)[i]? = _)
    rw [puts_ne nj]
    exact put_self
  | i :: is, zs :: os, ρ, k + 1, j, xs, nd, h1, h2, ys => by
    have ni := (List.nodup_cons.mp nd).1
    have h1 : is[k]? = some j := by simpa using h1
    have h2 : os[k]? = some xs := by simpa using h2
    have ne : j ≠ i := fun z => ni (by rw [← z]; exact List.mem_of_getElem? h1)
    have q := puts_at (ρ := put ρ i zs) (List.nodup_cons.mp nd).2 h1 h2 ys
    rw [put_ne ne] at q
    exact q
theorem OutsR.get {F : Hp} : ∀ {as : List Addr} {os : List (List D)} {k : Nat} {a : Addr}, OutsR K F H as os → as[k]? = some a → ∃ xs, os[k]? = some xs ∧ ∃ us, H a = some (.lst us) ∧ Reps K F us xs ∧ F a = none
  | [], _, _, _, _, h => by simp at h
  | _ :: _, [], _, _, h, _ => h.elim
  | b :: as, xs :: os, 0, a, h, e => by
    simp at e; subst e
    exact ⟨xs, rfl, h.1⟩
  | b :: as, xs :: os, k + 1, a, h, e => by
    obtain ⟨ys, e1, e2⟩ := OutsR.get (k := k) h.2 (by simpa using e)
    exact ⟨ys, by simpa using e1, e2⟩
/-- behind a call -/
theorem after_call2 {ρ : Rho} {F F' H' : Hp} {is : List Nat} {as : List Addr} {os : List (List D)} (W : Wd K G ρ σ H F) (nd : is.Nodup) (hl : as.length = is.length) (ow : ∀ (k i : Nat) (a : Addr), is[k]? = some i → as[k]? = some a → OwL ρ σ i a)
    (ff : Same F F') (sub : Same F' H') (kp : ∀ b o, H b = some o → b ∉ as → H' b = some o) (nf : ∀ b, F' b ≠ none → F b ≠ none ∨ H b = none) (outs : OutsR K F' H' as os) : Ste K G ρ σ H F (puts ρ is os) H' F' ∧ ∀ i a, Ow K H' F' (puts ρ is os) σ i a → Ow K H F ρ σ i a := by
  have memO : ∀ b, b ∈ as → ∃ i, OwL ρ σ i b := fun b hb => by
    obtain ⟨k, hk, e⟩ := List.mem_iff_getElem.mp hb
    have hk2 : k < is.length := by omega
    exact ⟨is[k], ow k is[k] b (List.getElem?_eq_getElem hk2) (by rw [List.getElem?_eq_getElem hk, e])⟩
  have tr : ∀ b, H b ≠ none → H' b ≠ none := fun b h => by
    by_cases hb : b ∈ as
    · obtain ⟨k, hk, e⟩ := List.mem_iff_getElem.mp hb
      obtain ⟨xs, _, us, z, _⟩ := outs.get (k := k) (a := b) (by rw [List.getElem?_eq_getElem hk, e])
      rw [z]; simp
    · cases e : H b with
      | none => exact absurd e h
      | some o => rw [kp b o e hb]; simp
  have fn : ∀ {a : Addr} {ob : HO}, H a = some ob → F a = none → F' a = none := fun {a vs} h1 h2 => by
    cases e : F' a with
    | none => rfl
    | some o =>
      rcases nf a (by rw [e]; simp) with q | q
      · exact absurd h2 q
      · rw [h1] at q; cases q
  -- a slot behind the call
  have slot : ∀ j s, (puts ρ is os)[j]? = some s → SlR K G σ H' F' j s ∧ ∀ a, Ow K H' F' (puts ρ is os) σ j a → Ow K H F ρ σ j a := fun j s hs => by
    by_cases hj : j ∈ is
    · obtain ⟨k, hk, e⟩ := List.mem_iff_getElem.mp hj
      have hk2 : k < as.length := by omega
      have ik : is[k]? = some j := by rw [List.getElem?_eq_getElem hk, e]
      have o := ow k j as[k] ik (List.getElem?_eq_getElem hk2)
      obtain ⟨xs, ox, us, u1, u2, u3⟩ := outs.get (List.getElem?_eq_getElem hk2)
      obtain ⟨⟨ys, q⟩, q2⟩ := id o
      have pa := puts_at (ρ := ρ) nd ik ox ys
      rcases q with q | q
      · have z := pa.1 q
        rw [hs] at z; cases z
        obtain ⟨a, vs, e1, e2, _, e4, e5⟩ := W.sl j _ q
        rw [q2] at e1
        cases e1
        exact ⟨⟨_, us, q2, u1, u2, u3, e5⟩, fun b ob => by
          rcases ob with ob | ⟨t, v, L, o1, _⟩
          · exact .inl ⟨⟨ys, .inl q⟩, ob.2⟩
          · unfold obS at o1
            rw [hs] at o1
            rcases o1 with o1 | o1 <;> cases o1⟩
      · have z := pa.2 q
        rw [hs] at z; cases z
        obtain ⟨a, vs, e1, e2, _, e4, e5⟩ := W.sl j _ q
        rw [q2] at e1
        cases e1
        exact ⟨⟨_, us, q2, u1, u2, u3, e5⟩, fun b ob => by
          rcases ob with ob | ⟨t, v, L, o1, _⟩
          · exact .inl ⟨⟨ys, .inr (.inl q)⟩, ob.2⟩
          · unfold obS at o1
            rw [hs] at o1
            rcases o1 with o1 | o1 <;> cases o1⟩
    · have eq : (puts ρ is os)[j]? = ρ[j]? := puts_ne hj
      rw [eq] at hs
      have na : ∀ {a : Addr}, Ow K H F ρ σ j a → a ∉ as := fun {a} h1 hm => by
        obtain ⟨k, hk, e⟩ := List.mem_iff_getElem.mp hm
        have hk2 : k < is.length := by omega
        have o := ow k is[k] a (List.getElem?_eq_getElem hk2) (by rw [List.getElem?_eq_getElem hk, e])
        have z := W.ap j is[k] a h1 o.to
        exact hj (by rw [z]; exact List.getElem_mem hk2)
      refine ⟨?_, fun a ob => by
        rcases ob with ⟨⟨ys, o1⟩, o2⟩ | ⟨t, v, L, o1, o2, o3, o4⟩
        · rw [eq] at o1
          exact .inl ⟨⟨ys, o1⟩, o2⟩
        · unfold obS at o1
          rw [eq] at o1
          exact (W.ob_same o1 o2 o3 fun b o hb ho => kp b o ho (na hb)).2 a o4⟩
      have q := W.sl j s hs
      cases s with
      | no => trivial
      | xa b dx f => exact ⟨q.1, q.2.mono ff⟩
      | d x => obtain ⟨v, e, r⟩ := q; exact ⟨v, e, r.mono ff⟩
      | ow ys => obtain ⟨a, vs, e, p1, p2, p3, p4⟩ := q; exact ⟨a, vs, e, kp a _ p1 (na (.inl ⟨⟨_, .inl hs⟩, e⟩)), p2.mono ff, fn p1 p3, p4⟩
      | io ys => obtain ⟨a, vs, e, p1, p2, p3, p4⟩ := q; exact ⟨a, vs, e, kp a _ p1 (na (.inl ⟨⟨_, .inr (.inl hs)⟩, e⟩)), p2.mono ff, fn p1 p3, p4⟩
      | dc ys => obtain ⟨a, vs, e, p1, p2, p3, p4⟩ := q; exact ⟨a, vs, e, kp a _ p1 (na (.inl ⟨⟨[], .inr (.inr ⟨ys, hs⟩)⟩, e⟩)), p2.mono ff, fn p1 p3, p4⟩
      | ob t => obtain ⟨v, L, e, r, nd, q⟩ := q; exact ⟨v, L, e, r.frame ff fun b hb o ho => kp b o ho (na (.inr ⟨t, v, L, .inl hs, e, r, hb⟩)), nd, fun b hb => ⟨fn (OtR.there r b hb).choose_spec.1 (q b hb).1, (q b hb).2⟩⟩
      | iob t => obtain ⟨v, L, e, r, nd, q⟩ := q; exact ⟨v, L, e, r.frame ff fun b hb o ho => kp b o ho (na (.inr ⟨t, v, L, .inr hs, e, r, hb⟩)), nd, fun b hb => ⟨fn (OtR.there r b hb).choose_spec.1 (q b hb).1, (q b hb).2⟩⟩
  have oo : ∀ i a, Ow K H' F' (puts ρ is os) σ i a → Ow K H F ρ σ i a := fun i a o => by
    rcases id o with ⟨⟨ys, o1⟩, o2⟩ | ⟨t, v, L, o1, o2, o3, o4⟩
    · rcases o1 with o1 | o1 | ⟨zs, o1⟩
      · exact (slot i _ o1).2 a o
      · exact (slot i _ o1).2 a o
      · exact (slot i _ o1).2 a o
    · rcases o1 with o1 | o1
      · exact (slot i _ o1).2 a o
      · exact (slot i _ o1).2 a o
  refine ⟨⟨⟨by rw [puts_len]; exact W.len, W.gl, sub, W.f0.trans ff, fun b o h q q2 => ?_, fun b h => ?_, fun b h => tr b (W.it b h), fun j s h => (slot j s h).1, fun i j a o1 o2 => W.ap i j a (oo i a o1) (oo j a o2), fun i a z => ?_, fun i a z => ?_⟩, ff, fun b o h n => kp b o h fun hm => ?_, fun b h => (nf b h).elim .inl fun q => .inr (.inl q), fun i a o => .inl (oo i a o), tr⟩, oo⟩
  · refine kp b o (W.kp b o h q q2) fun hm => ?_
    obtain ⟨i, ob⟩ := memO b hm
    obtain ⟨⟨ys, o1⟩, o2⟩ := ob
    rcases o1 with o1 | o1
    · obtain ⟨a, vs, e1, _, _, _, e5⟩ := W.sl i _ o1
      rw [o2] at e1; cases e1
      rw [h] at e5; cases e5
    · obtain ⟨a, vs, e1, _, _, _, e5⟩ := W.sl i _ o1
      rw [o2] at e1; cases e1
      exact q (List.mem_map_of_mem (f := (·.2)) e5)
  · rcases nf b h with q | q
    · exact W.nw b q
    · exact .inr (W.h0 q)
  · obtain ⟨⟨ys, z1⟩, z2⟩ := W.ai i a z
    refine ⟨?_, z2⟩
    by_cases hj : i ∈ is
    · obtain ⟨k, hk, e⟩ := List.mem_iff_getElem.mp hj
      have hk2 : k < as.length := by omega
      obtain ⟨xs, ox, _⟩ := outs.get (List.getElem?_eq_getElem hk2)
      exact ⟨xs, (puts_at nd (by rw [List.getElem?_eq_getElem hk, e]) ox ys).2 z1⟩
    · exact ⟨ys, by rw [puts_ne hj]; exact z1⟩
  · obtain ⟨⟨t, z1⟩, z2⟩ := W.ao i a z
    refine ⟨⟨t, ?_⟩, z2⟩
    rw [puts_ne fun hj => ?_]
    · exact z1
    · obtain ⟨k, hk, e⟩ := List.mem_iff_getElem.mp hj
      have hk2 : k < as.length := by omega
      obtain ⟨⟨ys, o1 | o1⟩, _⟩ := ow k i as[k] (by rw [List.getElem?_eq_getElem hk, e]) (List.getElem?_eq_getElem hk2)
      · rw [z1] at o1; cases o1
      · rw [z1] at o1; cases o1
  · obtain ⟨i, ob⟩ := memO b hm
    exact n i ob.to
theorem after_call {ρ : Rho} {F F' H' : Hp} {is : List Nat} {as : List Addr} {os : List (List D)} (W : Wd K G ρ σ H F) (nd : is.Nodup) (hl : as.length = is.length) (ow : ∀ (k i : Nat) (a : Addr), is[k]? = some i → as[k]? = some a → OwL ρ σ i a)
    (ff : Same F F') (sub : Same F' H') (kp : ∀ b o, H b = some o → b ∉ as → H' b = some o) (nf : ∀ b, F' b ≠ none → F b ≠ none ∨ H b = none) (outs : OutsR K F' H' as os) : Ste K G ρ σ H F (puts ρ is os) H' F' := (after_call2 W nd hl ow ff sub kp nf outs).1
end
section
variable {X : Cx} {e : Expr} {es : List Expr} {ms : M (List Vl)} {f : Fn} {fs : List Bool} {x : Str} {p pos : Pos} {fa : Addr} {fd : FuncData} {ps : List Str} {k n : Nat}
theorem VlSs.len {K : Kx} {σ : L2.St} {F : Hp} : ∀ {vs : List V} {rs : List Vl}, VlSs K σ F vs rs → vs.length = rs.length
  | [], [], _ => rfl
  | [], _ :: _, h => h.elim
  | _ :: _, [], h => h.elim
  | _ :: _, _ :: _, h => by rw [List.length_cons, List.length_cons, VlSs.len h.2]
theorem AgsR.len {K : Kx} {F H : Hp} : ∀ {vs : List V} {gs : List Ag}, AgsR K F H vs gs → vs.length = gs.length
  | [], [], _ => rfl
  | [], .da _ :: _, h => h.elim
  | [], .li _ :: _, h => h.elim
  | _ :: _, [], h => h.elim
  | _ :: _, .da _ :: _, h => by rw [List.length_cons, List.length_cons, AgsR.len h.2]
  | _ :: _, .li _ :: _, h => by rw [List.length_cons, List.length_cons, AgsR.len h.2]
theorem tcall_core {K : Kx} {G : Gd} {ρ ρ' : Rho} {F : Hp} {r0 : Vl} {E : XK} (hn : ∀ gs z, f gs = some z → gs.length = n) {σ : L2.St} {H : Hp} {Q : VK} (W : Wd K G ρ σ H F) (hm : eCall f fs ms ρ = some (r0, ρ'))
    (q : ∀ v H' F', Ste K G ρ σ H F ρ' H' F' → VlR K G H ρ' σ H' F' v r0 → Q v H') : ∃ rs ρ1, ms ρ = some (rs, ρ1) ∧ ∀ vs H1 F1, Ste K G ρ σ H F ρ1 H1 F1 → VlSs K σ F1 vs rs → spF K n f vs H1 Q E := by
  unfold eCall at hm
  obtain ⟨⟨rs, ρ1⟩, e1, hm⟩ := Option.bind_eq_some_iff.mp hm
  obtain ⟨⟨ts, ρ2⟩, e2, hm⟩ := Option.bind_eq_some_iff.mp hm
  obtain ⟨gs, e3, hm⟩ := Option.bind_eq_some_iff.mp hm
  split at hm
  · rename_i nd
    obtain ⟨⟨z, os⟩, e4, hm⟩ := Option.bind_eq_some_iff.mp hm
    refine ⟨rs, ρ1, e1, fun vs H1 F1 s1 R1 => ?_⟩
    obtain ⟨F2, s2, R2⟩ := ag1_ok s1.wd R1 e2
    obtain ⟨A1, A2, A3⟩ := ag2_ok s2.wd R2 e3
    have s12 := s1.trans s2
    refine ⟨by rw [A1.len]; exact hn _ _ e4, F2, gs, z, os, s2.wd.sub, A1, ?_, e4, fun v H' F' ff sub kp nf outs res => ?_⟩
    · rw [List.nodup_iff_pairwise_ne, List.pairwise_iff_getElem]
      intro i j hi hj hij e
      have o1 := A3 i (agI ts)[i] (liA vs gs)[i] (List.getElem?_eq_getElem (by omega)) (List.getElem?_eq_getElem hi)
      have o2 := A3 j (agI ts)[j] (liA vs gs)[j] (List.getElem?_eq_getElem (by omega)) (List.getElem?_eq_getElem hj)
      rw [← e] at o2
      have eq := s2.wd.ap _ _ _ o1.to o2.to
      have := (List.getElem_inj nd).mp eq
      omega
    · obtain ⟨s3, o3⟩ := after_call2 s2.wd nd A2 A3 ff sub kp nf outs
      have s13 := s12.trans s3
      cases z with
      | fz x => cases hm; exact q v H' F' s13 res
      | bw i => cases hm
      | fr xs =>
        cases hm
        obtain ⟨a, us, e5, u1, u2, u3, u4⟩ := res
        refine q v H' F' s13 ⟨a, us, e5, u1, u2, u3, s12.back a u4, fun i o => ?_⟩
        obtain ⟨_, z, _⟩ := s12.wd.ow_there (o3 i a o)
        rw [u4] at z; cases z
  · cases hm
theorem tcall_of {K : Kx} {dvs : List V} {E : XK} (hn : ∀ gs z, f gs = some z → gs.length = n) {σ : L2.St} {H : Hp} {Q : VK} (h : tM K (eCall f fs ms) σ H Q) : tCall (spF K n f) [] E (tMA K ms) σ H Q := by
  obtain ⟨G, ρ, F, r0, ρ', W, hm, q⟩ := h
  obtain ⟨rs, ρ1, e1, w⟩ := tcall_core (E := E) hn W hm q
  exact ⟨G, ρ, F, rs, ρ1, W, e1, fun vs H1 F1 s1 R1 => by show spF K n f (vs ++ []) H1 Q E; rw [List.append_nil]; exact w vs H1 F1 s1 R1⟩
theorem se_call (F : FnOk X.prog X.w X.kx X.mg X.base CX0 k fa fd ps (spF X.kx n f)) (hn : ∀ gs z, f gs = some z → gs.length = n) (hr : Room k X.A) (hm : X.mg x = some (.ref fa)) (hk : PySem.W.keepIn X.kx (.ref fa) = true) (hb : Binds X.kx fd ps []) (hg : Gl X x)
    (ha : SA X (e :: es) ms) (hdb : (x == ("__debug__" : Str)) = false := by decide) (he : starEach (e :: es) X.env = (false, eval e X.env) :: starEach es X.env := by rfl) (hpl : (backTo pos (starEach es X.env)).any (·.1) = false := by rfl) :
    SE X (.Call (.Name x p) (e :: es) [] pos) (eCall f fs ms) := pe_weak (pe_call F hr hg hm hk hb .nil pass0 ha hdb he hpl) fun _ _ _ h => tcall_of (dvs := []) hn h
theorem se_call0 (F : FnOk X.prog X.w X.kx X.mg X.base CX0 k fa fd ps (spF X.kx n f)) (hn : ∀ gs z, f gs = some z → gs.length = n) (hr : Room k X.A) (hm : X.mg x = some (.ref fa)) (hk : PySem.W.keepIn X.kx (.ref fa) = true) (hb : Binds X.kx fd ps []) (hg : Gl X x)
    (hdb : (x == ("__debug__" : Str)) = false := by decide) : SE X (.Call (.Name x p) [] [] pos) (eCall f fs aNil) := pe_weak (pe_call0 F hr hg hm hk hb .nil pass0 hdb) fun σ H Q h => by
  obtain ⟨G, ρ, F, r, ρ', W, hm, q⟩ := tcall_of (dvs := []) (E := E0) hn h
  cases hm
  exact q [] H F (Ste.refl W) trivial
end
end Sw
namespace Sw
open PySem PySem.Spec PyProof.Rows L2
/-- an exception of a class of the program: its class by name, its one field (none: without a dict of its own) -/
structure Exn where
  c : PySem.Str
  f : Option (PySem.Str × D)
noncomputable def ExR (K : Kx) (F : Hp) (cls : Value) (d : Option Addr) (x : Exn) : Prop := ∃ C, ClsN K x.c C ∧ cls = .ref C ∧ (x.f = none → d = none) ∧ (x.f ≠ none → ∃ dx, d = some dx ∧ XaR K F dx x.f)
inductive Fl where
  | nx | rt (v : Vl) | bk | ct
  /-- an exception goes out -/
  | ex (x : Exn)
noncomputable abbrev S := Rho → Option (Fl × Rho)
/-- what is wanted of an exception that goes out: nothing is promised -/
noncomputable def WF : WX := fun _ _ _ _ => False
noncomputable def EdR (K : Kx) (Wx : WX) (G : Gd) (D : Ends) (fl : Fl) (ρ' : Rho) (F : Hp) : Prop := ∀ (σ' : L2.St) (H' F' : Hp), Wd K G ρ' σ' H' F' → Same F F' → match fl with
  | .nx => D.nx σ' H'
  | .bk => D.bk σ' H'
  | .ct => D.ct σ' H'
  | .rt r => ∀ v, ResR K G.H0 F' H' v r → D.rt v H'
  | .ex x => ∀ cls d, ExR K F' cls d x → Wx cls d σ' H'
noncomputable def tSW (K : Kx) (Wx : WX) (m : S) : TS := fun D σ H => ∃ G ρ F fl ρ', Wd K G ρ σ H F ∧ m ρ = some (fl, ρ') ∧ EdR K Wx G D fl ρ' F
noncomputable abbrev SSW (X : Cx) (Wx : WX) (st : Stmt) (m : S) : Prop := PS X st (tSW X.kx Wx m)
noncomputable abbrev SBW (X : Cx) (Wx : WX) (st : List Stmt) (m : S) : Prop := PSs X st (tSW X.kx Wx m)
noncomputable abbrev SB (X : Cx) (st : List Stmt) (m : S) : Prop := SBW X WF st m
theorem ps_weak {X : Cx} {st : Stmt} {t t' : TS} (h : PS X st t) (w : ∀ D σ H, t' D σ H → t D σ H) : PS X st t' := ⟨fun pins s σ H D I q => h.run pins s σ H D I (w _ _ _ q)⟩
theorem pss_weak {X : Cx} {st : List Stmt} {t t' : TS} (h : PSs X st t) (w : ∀ D σ H, t' D σ H → t D σ H) : PSs X st t' := ⟨fun pins s σ H D I q => h.run pins s σ H D I (w _ _ _ q)⟩
noncomputable def sNx : S := fun ρ => some (.nx, ρ)
noncomputable def sBk : S := fun ρ => some (.bk, ρ)
noncomputable def sSeq (a b : S) : S := fun ρ => (a ρ).bind fun p => match p.1 with
  | .nx => b p.2
  | fl => some (fl, p.2)
noncomputable def sIf (t : M Bool) (a b : S) : S := fun ρ => (t ρ).bind fun p => if p.1 = true then a p.2 else b p.2
noncomputable def sRet (m : M Vl) : S := fun ρ => (m ρ).bind fun p => match p.1 with
  | .bw i => match p.2[i]? with
    | some (.ow xs) => some (.rt (.fr xs), p.2)
    | _ => none
  | r => some (.rt r, p.2)
noncomputable def sDrop (m : M Vl) : S := fun ρ => (m ρ).bind fun p => some (.nx, p.2)
/-- a name's slot takes a value -/
noncomputable def asg (i : Nat) (r : Vl) (ρ : Rho) : Option Rho := match ρ[i]? with
  | some (.io _) => none
  | some (.iob _) => none
  | none => none
  | some _ => match r with
    | .fz x => some (ρ.set i (.d x))
    | .fr xs => some (ρ.set i (.ow xs))
    | .bw j => (frz ρ (.bw j)).bind fun p => some (p.2.set i (.d p.1))
noncomputable def sAsg (i : Nat) (m : M Vl) : S := fun ρ => (m ρ).bind fun p => (asg i p.1 p.2).bind fun ρ2 => some (.nx, ρ2)
section
variable {K : Kx} {G : Gd} {ρ : Rho} {σ : L2.St} {H F : Hp} {v : V}
theorem Wd.set {i : Nat} {s s0 : Sl} (W : Wd K G ρ σ H F) (h0 : ρ[i]? = some s0) (nio : ∀ xs, s0 ≠ .io xs) (nio2 : ∀ xs, s ≠ .io xs) (hs : SlR K G (σ.set i (some v)) H F i s) (ap : ∀ xs a, s = .ow xs → v = .ref a → ∀ j, ¬ Ow K H F ρ σ j a) (ndc : ∀ xs a, s = .dc xs → v = .ref a → ∀ j, ¬ Ow K H F ρ σ j a := by intro _ _ z; cases z)
    (nob : ∀ t L b, s = .ob t → OtR K H F v t L → b ∈ L → ∀ j, j ≠ i → ¬ Ow K H F ρ σ j b := by intro _ _ _ z; cases z) (nob2 : ∀ t, s ≠ .iob t := by intro _ z; cases z) (nob0 : ∀ t, s0 ≠ .iob t := by intro _ z; cases z) : Wd K G (ρ.set i s) (σ.set i (some v)) H F := by
  have hi : i < ρ.length := (List.getElem?_eq_some_iff.mp h0).1
  have hiσ : i < σ.length := by rw [← W.len]; exact hi
  have old : ∀ {j : Nat} {a : Addr}, j ≠ i → Ow K H F (ρ.set i s) (σ.set i (some v)) j a → Ow K H F ρ σ j a := fun {j a} ne o => by
    rcases o with ⟨⟨ys, o1⟩, o2⟩ | ⟨t, u, L, o1, o2, o3, o4⟩
    · rw [List.getElem?_set_ne (Ne.symm ne)] at o1 o2
      exact .inl ⟨⟨ys, o1⟩, o2⟩
    · unfold obS at o1
      rw [List.getElem?_set_ne (Ne.symm ne)] at o1 o2
      exact .inr ⟨t, u, L, o1, o2, o3, o4⟩
  have new : ∀ {a : Addr}, Ow K H F (ρ.set i s) (σ.set i (some v)) i a → ∀ j, j ≠ i → ¬ Ow K H F ρ σ j a := fun {a} o => by
    rcases o with ⟨⟨ys, o1⟩, o2⟩ | ⟨t, u, L, o1, o2, o3, o4⟩
    · rw [List.getElem?_set_self hi] at o1
      rw [List.getElem?_set_self hiσ] at o2
      cases o2
      rcases o1 with o1 | o1 | ⟨zs, o1⟩
      · cases o1; exact fun j _ => ap ys a rfl rfl j
      · cases o1; exact absurd rfl (nio2 ys)
      · cases o1; exact fun j _ => ndc zs a rfl rfl j
    · unfold obS at o1
      rw [List.getElem?_set_self hi] at o1
      rw [List.getElem?_set_self hiσ] at o2
      cases o2
      rcases o1 with o1 | o1
      · cases o1; exact nob t L a rfl o3 o4
      · cases o1; exact absurd rfl (nob2 t)
  refine ⟨by rw [List.length_set, List.length_set]; exact W.len, by rw [List.length_set]; exact W.gl, W.sub, W.f0, W.kp, W.nw, W.it, fun j s' h => ?_, fun j k a o1 o2 => ?_, fun j a z => ?_, fun j a z => ?_⟩
  · by_cases ne : j = i
    · subst ne
      rw [List.getElem?_set_self hi] at h
      cases h
      exact hs
    · rw [List.getElem?_set_ne (Ne.symm ne)] at h
      have q := W.sl j s' h
      have eσ : (σ.set i (some v))[j]? = σ[j]? := List.getElem?_set_ne (Ne.symm ne)
      cases s' with
      | no => trivial
      | xa b dx f => exact ⟨eσ.trans q.1, q.2⟩
      | d x => obtain ⟨u, e, r⟩ := q; exact ⟨u, eσ.trans e, r⟩
      | ow ys => obtain ⟨a, us, e, p⟩ := q; exact ⟨a, us, eσ.trans e, p⟩
      | io ys => obtain ⟨a, us, e, p⟩ := q; exact ⟨a, us, eσ.trans e, p⟩
      | dc ys => obtain ⟨a, us, e, p⟩ := q; exact ⟨a, us, eσ.trans e, p⟩
      | ob t => obtain ⟨u, L, e, p⟩ := q; exact ⟨u, L, eσ.trans e, p⟩
      | iob t => obtain ⟨u, L, e, p⟩ := q; exact ⟨u, L, eσ.trans e, p⟩
  · by_cases nj : j = i
    · by_cases nk : k = i
      · rw [nj, nk]
      · rw [nj] at o1
        exact absurd (old nk o2) (new o1 k nk)
    · by_cases nk : k = i
      · rw [nk] at o2
        exact absurd (old nj o1) (new o2 j nj)
      · exact W.ap j k a (old nj o1) (old nk o2)
  · obtain ⟨⟨ys, z1⟩, z2⟩ := W.ai j a z
    have ne : j ≠ i := fun e => by
      rw [e, h0] at z1
      cases z1
      exact nio ys rfl
    exact ⟨⟨ys, by rw [List.getElem?_set_ne (Ne.symm ne)]; exact z1⟩, by rw [List.getElem?_set_ne (Ne.symm ne)]; exact z2⟩
  · obtain ⟨⟨ys, z1⟩, z2⟩ := W.ao j a z
    have ne : j ≠ i := fun e => by
      rw [e, h0] at z1
      cases z1
      exact nob0 ys rfl
    exact ⟨⟨ys, by rw [List.getElem?_set_ne (Ne.symm ne)]; exact z1⟩, by rw [List.getElem?_set_ne (Ne.symm ne)]; exact z2⟩
theorem asg_ok {i : Nat} {r : Vl} {ρ' : Rho} {P : Hp} (W : Wd K G ρ σ H F) (hP : ∀ a, P a = none → G.H0 a = none) (R : VlR K G P ρ σ H F v r) (e : asg i r ρ = some ρ') : ∃ F', Wd K G ρ' (σ.set i (some v)) H F' ∧ Same F F' := by
  unfold asg at e
  split at e
  · cases e
  · cases e
  · cases e
  · rename_i s0 nio niob h0
    have hi : i < ρ.length := (List.getElem?_eq_some_iff.mp h0).1
    have hiσ : i < σ.length := by rw [← W.len]; exact hi
    have self : (σ.set i (some v))[i]? = some (some v) := List.getElem?_set_self hiσ
    have nio : ∀ xs, s0 ≠ .io xs := fun xs z => nio xs z
    have niob : ∀ t, s0 ≠ .iob t := fun xs z => niob xs z
    cases r with
    | fz x =>
      cases e
      exact ⟨F, W.set h0 nio (fun _ z => nomatch z) ⟨v, self, R⟩ (fun _ _ z => nomatch z) (nob0 := niob), Same.refl _⟩
    | fr xs =>
      cases e
      obtain ⟨a, vs, rfl, h1, h2, h3, h4, h5⟩ := R
      exact ⟨F, W.set h0 nio (fun _ z => nomatch z) ⟨a, vs, self, h1, h2, h3, hP a h4⟩ (fun ys b _ z => by cases z; exact h5) (nob0 := niob), Same.refl _⟩
    | bw j =>
      obtain ⟨⟨x, ρ1⟩, e1, e⟩ := Option.bind_eq_some_iff.mp e
      cases e
      obtain ⟨F1, s1, R1⟩ := frz_ok W (v := v) (r := .bw j) R e1
      have h0' : ∃ s1, ρ1[i]? = some s1 ∧ (∀ xs, s1 ≠ .io xs) ∧ ∀ t, s1 ≠ .iob t := by
        simp only [frz] at e1
        split at e1
        · simp at e1
          obtain ⟨rfl, rfl⟩ := e1
          by_cases q : i = j
          · subst q
            exact ⟨_, List.getElem?_set_self hi, (fun _ z => nomatch z), (fun _ z => nomatch z)⟩
          · exact ⟨s0, by rw [List.getElem?_set_ne (Ne.symm q)]; exact h0, nio, niob⟩
        · cases e1
      obtain ⟨s', hs', nio', niob'⟩ := h0'
      exact ⟨F1, s1.wd.set hs' nio' (fun _ z => nomatch z) ⟨v, self, R1⟩ (fun _ _ z => nomatch z) (nob0 := niob'), s1.ff⟩
theorem asg_fz {i : Nat} {x : D} {ρ' : Rho} (W : Wd K G ρ σ H F) (R : Rep K F v x) (e : asg i (.fz x) ρ = some ρ') : Wd K G ρ' (σ.set i (some v)) H F := by
  unfold asg at e
  split at e
  · cases e
  · cases e
  · cases e
  · rename_i s0 nio niob h0
    have hi : i < ρ.length := (List.getElem?_eq_some_iff.mp h0).1
    have hiσ : i < σ.length := by rw [← W.len]; exact hi
    cases e
    exact W.set h0 (fun xs z => nio xs z) (fun _ z => nomatch z) ⟨v, List.getElem?_set_self hiσ, R⟩ (fun _ _ z => nomatch z) (nob0 := fun xs z => niob xs z)
end
section
variable {X : Cx} {Wx : WX} {st : Stmt} {rest : List Stmt} {m m1 m2 : S} {e c : Expr} {me : M Vl} {mt : M Bool} {pos : Pos}
theorem sb_nil : SBW X Wx [] sNx := pss_weak pss_nil fun D σ H ⟨G, ρ, F, fl, ρ', W, hm, q⟩ => by
  cases hm
  exact q σ H F W (Same.refl _)
theorem sb_one (h : SSW X Wx st m) : SBW X Wx [st] m := pss_one h
theorem sb_cons (h1 : SSW X Wx st m1) (h2 : SBW X Wx rest m2) : SBW X Wx (st :: rest) (sSeq m1 m2) := by
  refine pss_weak (pss_cons h1 h2) fun D σ H ⟨G, ρ, F, fl, ρ', W, hm, q⟩ => ?_
  unfold sSeq at hm
  obtain ⟨⟨f1, ρ1⟩, e1, hm⟩ := Option.bind_eq_some_iff.mp hm
  refine ⟨G, ρ, F, f1, ρ1, W, e1, fun σ' H' F' W' ff => ?_⟩
  cases f1 with
  | nx => exact ⟨G, ρ1, F', fl, ρ', W', hm, fun σ2 H2 F2 W2 f2 => q σ2 H2 F2 W2 (ff.trans f2)⟩
  | bk => cases hm; exact q σ' H' F' W' ff
  | ct => cases hm; exact q σ' H' F' W' ff
  | rt r => cases hm; exact q σ' H' F' W' ff
  | ex x => cases hm; exact q σ' H' F' W' ff
theorem ss_if {a b : List Stmt} (hc : ST X c mt) (ha : SBW X Wx a m1) (hb : SBW X Wx b m2) : SSW X Wx (.If c a b pos) (sIf mt m1 m2) := by
  refine ps_weak (ps_if hc ha hb) fun D σ H ⟨G, ρ, F, fl, ρ', W, hm, q⟩ => ?_
  unfold sIf at hm
  obtain ⟨⟨x, ρ1⟩, e1, hm⟩ := Option.bind_eq_some_iff.mp hm
  refine tmt_use W e1 fun H1 F1 s1 => ?_
  cases x with
  | true => simp only [if_true] at hm ⊢; exact ⟨G, ρ1, F1, fl, ρ', s1.wd, hm, fun σ2 H2 F2 W2 f2 => q σ2 H2 F2 W2 (s1.ff.trans f2)⟩
  | false => simp at hm ⊢; exact ⟨G, ρ1, F1, fl, ρ', s1.wd, hm, fun σ2 H2 F2 W2 f2 => q σ2 H2 F2 W2 (s1.ff.trans f2)⟩
theorem ss_ret (h : SE X e me) : SSW X Wx (.Return (some e) pos) (sRet me) := by
  refine ps_weak (ps_ret h) fun D σ H ⟨G, ρ, F, fl, ρ', W, hm, q⟩ => ?_
  unfold sRet at hm
  obtain ⟨⟨r, ρ1⟩, e1, hm⟩ := Option.bind_eq_some_iff.mp hm
  refine ⟨G, ρ, F, r, ρ1, W, e1, fun v H1 F1 s1 R => ?_⟩
  cases r with
  | fz x => cases hm; exact q σ H1 F1 s1.wd s1.ff v R
  | fr xs =>
    cases hm
    obtain ⟨a, vs, e, h1, h2, h3, h4, _⟩ := R
    exact q σ H1 F1 s1.wd s1.ff v ⟨a, vs, e, h1, h2, h3, W.h0 h4⟩
  | bw i =>
    have R : σ[i]? = some (some v) := R
    dsimp only at hm
    split at hm
    · rename_i xs hx
      cases hm
      obtain ⟨a, vs, e2, h1, h2, h3, h4⟩ := s1.wd.sl i _ hx
      rw [R] at e2; cases e2
      exact q σ H1 F1 s1.wd s1.ff _ ⟨a, vs, rfl, h1, h2, h3, h4⟩
    · cases hm
/-- what stores into a slot, as it was made -/
theorem sasg_of {K : Kx} {i : Nat} {D : Ends} {σ : L2.St} {H : Hp} (h : tSW K Wx (sAsg i me) D σ H) : tAsg (tM K me) (gName i) D σ H := by
  obtain ⟨G, ρ, F, fl, ρ', W, hm, q⟩ := h
  unfold sAsg at hm
  obtain ⟨⟨r, ρ1⟩, e1, hm⟩ := Option.bind_eq_some_iff.mp hm
  obtain ⟨ρ2, e2, hm⟩ := Option.bind_eq_some_iff.mp hm
  cases hm
  refine ⟨G, ρ, F, r, ρ1, W, e1, fun v H1 F1 s1 R => ?_⟩
  obtain ⟨F2, W2, f2⟩ := asg_ok s1.wd (fun a h => W.h0 h) R e2
  exact q (σ.set i (some v)) H1 F2 W2 (s1.ff.trans f2)
theorem ss_set {i : Nat} {x : Str} {pos' : Pos} (hN : X.N.Nodup) (hi : X.N[i]? = some x) (hx : Loc X.env.scope x) (he : SE X e me) (hs : swapsWith e (some (.Name x pos')) pos.line X.env = pure false := by rfl) (hf : X.fn x = true ∨ X.env.scope.names.lookup x = some .local := by first | exact .inl rfl | exact .inr rfl | assumption) :
    SSW X Wx (.Assign [.Name x pos'] e pos) (sAsg i me) := ps_weak (ps_set hN hi hx he hs hf) fun _ _ _ h => sasg_of h
noncomputable def sApp (i : Nat) (m : M Vl) : S := fun ρ => (own? ρ i).bind fun _ => (m ρ).bind fun p => (frz p.2 (stl p.1)).bind fun q => (own? q.2 i).bind fun xs => if xs.length < lim then some (.nx, put q.2 i (xs ++ [q.1])) else none
theorem Wd.own_at' {K : Kx} {G : Gd} {ρ : Rho} {σ : L2.St} {H F : Hp} {i : Nat} {xs : List D} (W : Wd K G ρ σ H F) (h : own? ρ i = some xs) : ∃ a, σ[i]? = some (some (.ref a)) ∧ ∃ vs, H a = some (.lst vs) ∧ Reps K F vs xs := by
  rcases own_sl h with q | q
  · obtain ⟨b, vs, e, p1, p2, _⟩ := W.sl i _ q
    exact ⟨b, e, vs, p1, p2⟩
  · obtain ⟨b, vs, e, p1, p2, _⟩ := W.sl i _ q
    exact ⟨b, e, vs, p1, p2⟩
theorem Wd.own_at {K : Kx} {G : Gd} {ρ : Rho} {σ : L2.St} {H F : Hp} {i : Nat} {xs : List D} (W : Wd K G ρ σ H F) (h : own? ρ i = some xs) : ∃ a, σ[i]? = some (some (.ref a)) ∧ ∃ vs, H a = some (.lst vs) :=
  let ⟨a, h1, vs, h2, _⟩ := W.own_at' h
  ⟨a, h1, vs, h2⟩
theorem Wd.put {K : Kx} {G : Gd} {ρ : Rho} {σ : L2.St} {H F : Hp} {i : Nat} {a : Addr} {us : List V} {xs ys : List D} (W : Wd K G ρ σ H F) (h : own? ρ i = some xs) (ha : σ[i]? = some (some (.ref a))) (r : Reps K F us ys) : Wd K G (put ρ i ys) σ (upd H a (.lst us)) F ∧ ∃ vs, H a = some (.lst vs) ∧ Reps K F vs xs := by
  have sl := own_sl h
  have o : OwL ρ σ i a := ⟨⟨xs, sl⟩, ha⟩
  obtain ⟨vs0, h1, h2⟩ := W.ow_there o.to
  have hv : ∃ vs, H a = some (.lst vs) ∧ Reps K F vs xs := by
    rcases sl with q | q
    · obtain ⟨b, vs, e, p1, p2, _⟩ := W.sl i _ q
      rw [ha] at e; cases e
      exact ⟨vs, p1, p2⟩
    · obtain ⟨b, vs, e, p1, p2, _⟩ := W.sl i _ q
      rw [ha] at e; cases e
      exact ⟨vs, p1, p2⟩
  have s := after_call (K := K) (G := G) (σ := σ) (H := H) (ρ := ρ) (F := F) (F' := F) (H' := upd H a (.lst us)) (is := [i]) (as := [a]) (os := [ys]) W (by simp) rfl (fun k j b e1 e2 => by
    cases k with
    | zero => simp at e1 e2; subst e1; subst e2; exact o
    | succ k => simp at e1) (Same.refl _) (fun b x e => by
      have nb : b ≠ a := fun z => by rw [z, h2] at e; cases e
      rw [upd_ne nb]; exact W.sub _ _ e) (fun b x e n => by
      have nb : b ≠ a := fun z => n (by rw [z]; exact List.mem_cons_self)
      rw [upd_ne nb]; exact e) (fun _ h => .inl h) ⟨⟨us, upd_same, r, h2⟩, trivial⟩
  exact ⟨s.wd, hv⟩
theorem ss_app {i : Nat} {o : Expr} {apos cpos : Pos} (ho : PE X o (tVar i)) (he : SE X e me)
    (hbase : attributeBase o "append" X.env (eval o X.env) = eval o X.env := by rfl)
    (hfew : ((backTo cpos (starEach [e] X.env)).all (fun x => !x.1) && (backToKw cpos (keywordEach [] X.env)).all (fun x => x.1.isSome)
      && decide ([e].length + ([] : List Keyword).length + (if ([] : List Keyword).isEmpty then 0 else 1) < 30)) = true := by rfl)
    (hline : (apos.endLine == cpos.line) = true := by rfl) (hst : starEach [e] X.env = (false, eval e X.env) :: starEach [] X.env := by rfl) (hplain : (backTo cpos (starEach [] X.env)).any (·.1) = false := by rfl)
    (hs : swapsWith (.Call (.Attribute o "append" apos) [e] [] cpos) none pos.line X.env = pure false := by rfl) :
    SSW X Wx (.Expr (.Call (.Attribute o "append" apos) [e] [] cpos) pos) (sApp i me) := by
  refine ps_weak (ps_expr (pe_bm PySem.F.plainAttrs_list PySem.F.slot_list_append PySem.F.type_list_append mt_append ho (pa_cons he pa_nil hst) hbase hfew hline hst hplain) hs) fun D σ H ⟨G, ρ, F, fl, ρ', W, hm, q⟩ => ?_
  unfold sApp at hm
  obtain ⟨xs0, e0, hm⟩ := Option.bind_eq_some_iff.mp hm
  obtain ⟨⟨r, ρ1⟩, e1, hm⟩ := Option.bind_eq_some_iff.mp hm
  obtain ⟨⟨x, ρ2⟩, e2, hm⟩ := Option.bind_eq_some_iff.mp hm
  obtain ⟨xs, e3, hm⟩ := Option.bind_eq_some_iff.mp hm
  obtain ⟨a, ha, vs0, hv0⟩ := W.own_at e0
  split at hm
  · rename_i hl
    cases hm
    refine ⟨.ref a, ha, .inl ⟨rfl, _, SqL.of hv0⟩, ?_⟩
    refine tm_use W e1 fun v H1 F1 s1 R1 => ?_
    obtain ⟨F2, s2, R2⟩ := frz_ok s1.wd R1 e2
    obtain ⟨b, hb, us, hu, ru⟩ := s2.wd.own_at' e3
    rw [ha] at hb; cases hb
    obtain ⟨W3, _⟩ := s2.wd.put (a := a) e3 ha (ru.append (.cons R2 .nil))
    exact ⟨a, us, v, rfl, rfl, hu, lim_lt (by rw [ru.len]; exact hl), q σ _ F2 W3 (s1.ff.trans s2.ff)⟩
  · cases hm
noncomputable def sSetI (i : Nat) (mi mv : M Vl) : S := fun ρ => (mv ρ).bind fun p => (frz p.2 (stl p.1)).bind fun p1 => (own? p1.2 i).bind fun _ => (mi p1.2).bind fun p2 => match p2.1 with
  | .fz (.int k) => (own? p2.2 i).bind fun xs => (ixN xs.length k).bind fun j => some (.nx, put p2.2 i (xs.set j p1.1))
  | _ => none
theorem ss_seti {i : Nat} {o ei : Expr} {mi mv : M Vl} {spos : Pos} (ho : PE X o (tVar i)) (hi : SE X ei mi) (hv : SE X e mv)
    (ha : ∀ v, assign (.Subscript o ei spos) X.env v = (do
      let ov ← holding [v] (eval o X.env)
      let iv ← holding [v, ov] (eval ei X.env)
      standAt spos
      holding [v, ov, iv] (setItem ov iv v)
      release [v, ov, iv] []) := by intro _; rfl)
    (hs : swapsWithSole [.Subscript o ei spos] e pos.line X.env = pure false := by rfl) (hw : swappedStores [.Subscript o ei spos] e X.env = pure none := by rfl)
    (h1 : (assignEach [.Subscript o ei spos] X.env).map (·.2) = [assign (.Subscript o ei spos) X.env] := by rfl) :
    SSW X Wx (.Assign [.Subscript o ei spos] e pos) (sSetI i mi mv) := by
  refine ps_weak (ps_asg hv (pg_sub ho hi set_list ha) hs hw h1) fun D σ H ⟨G, ρ, F, fl, ρ', W, hm, q⟩ => ?_
  unfold sSetI at hm
  obtain ⟨⟨r, ρ1⟩, e1, hm⟩ := Option.bind_eq_some_iff.mp hm
  obtain ⟨⟨x, ρ2⟩, e2, hm⟩ := Option.bind_eq_some_iff.mp hm
  obtain ⟨xs0, e0, hm⟩ := Option.bind_eq_some_iff.mp hm
  obtain ⟨⟨y, ρ3⟩, e3, hm⟩ := Option.bind_eq_some_iff.mp hm
  refine tm_use W e1 fun v H1 F1 s1 R1 => ?_
  obtain ⟨F2, s2, R2⟩ := frz_ok s1.wd R1 e2
  obtain ⟨a, ha, _⟩ := s2.wd.own_at e0
  refine ⟨.ref a, ha, ?_⟩
  refine tm_use s2.wd e3 fun u H3 F3 s3 R3 => ?_
  split at hm
  · rename_i k hk
    dsimp only at hk
    subst hk
    obtain ⟨xs, e4, hm⟩ := Option.bind_eq_some_iff.mp hm
    obtain ⟨j, e5, hm⟩ := Option.bind_eq_some_iff.mp hm
    cases hm
    cases (show Rep X.kx F3 u (.int k) from R3)
    obtain ⟨b, hb, us, hu, ru⟩ := s3.wd.own_at' e4
    rw [ha] at hb; cases hb
    obtain ⟨W4, _⟩ := s3.wd.put (a := a) e4 ha (Reps.set (R2.mono s3.ff) j ru)
    exact ⟨a, us, k, j, rfl, rfl, hu, by rw [ru.len]; exact e5, q σ _ F3 W4 ((s1.ff.trans s2.ff).trans s3.ff)⟩
  · cases hm
end
end Sw
namespace Sw
open PySem PySem.Spec PyProof.Rows L2
noncomputable def Mod' (is : List Nat) (σ σ' : L2.St) : Prop := σ'.length = σ.length ∧ ∀ j : Nat, j ∉ is → σ'[j]? = σ[j]?
noncomputable def tG (K : Kx) (is : List Nat) (g : D → Rho → Option Rho) : TG := fun v σ H Q => ∃ G ρ F x ρ', Wd K G ρ σ H F ∧ Rep K F v x ∧ g x ρ = some ρ' ∧ ∀ σ', Wd K G ρ' σ' H F → Mod' is σ σ' → Q σ' H
noncomputable def tGs (K : Kx) (is : List Nat) (g : List D → Rho → Option Rho) : TGs := fun vs σ H Q => ∃ G ρ F xs ρ', Wd K G ρ σ H F ∧ Reps K F vs xs ∧ g xs ρ = some ρ' ∧ ∀ σ', Wd K G ρ' σ' H F → Mod' is σ σ' → Q σ' H
noncomputable abbrev SG (X : Cx) (tg : Expr) (is : List Nat) (g : D → Rho → Option Rho) : Prop := PG X tg (tG X.kx is g)
noncomputable abbrev SGs (X : Cx) (tg : List Expr) (is : List Nat) (g : List D → Rho → Option Rho) : Prop := PGs X tg (tGs X.kx is g)
theorem pg_weak {X : Cx} {e : Expr} {t t' : TG} (h : PG X e t) (w : ∀ v σ H Q, t' v σ H Q → t v σ H Q) : PG X e t' := ⟨fun pins s σ H v u Q I r q => h.run pins s σ H v u Q I r (w _ _ _ _ q)⟩
theorem pgs_weak {X : Cx} {e : List Expr} {t t' : TGs} (h : PGs X e t) (w : ∀ v σ H Q, t' v σ H Q → t v σ H Q) : PGs X e t' := ⟨fun pins s σ H v u Q I r q => h.run pins s σ H v u Q I r (w _ _ _ _ q)⟩
noncomputable def gN (i : Nat) : D → Rho → Option Rho := fun x ρ => asg i (.fz x) ρ
noncomputable def gsN : List D → Rho → Option Rho := fun xs ρ => match xs with
  | [] => some ρ
  | _ => none
noncomputable def gsC (g : D → Rho → Option Rho) (r : List D → Rho → Option Rho) : List D → Rho → Option Rho := fun xs ρ => match xs with
  | x :: ys => (g x ρ).bind fun ρ1 => r ys ρ1
  | [] => none
noncomputable def gT (n : Nat) (r : List D → Rho → Option Rho) : D → Rho → Option Rho := fun x ρ => match x with
  | .tup xs => if xs.length = n then r xs ρ else none
  | _ => none
theorem Mod'.set {σ : L2.St} (i : Nat) (v : Option V) : Mod' [i] σ (σ.set i v) := ⟨by rw [List.length_set], fun j h => List.getElem?_set_ne (fun z => h (by rw [z]; exact List.mem_cons_self))⟩
theorem Mod'.trans {is js : List Nat} {σ σ1 σ2 : L2.St} (a : Mod' is σ σ1) (b : Mod' js σ1 σ2) : Mod' (is ++ js) σ σ2 := ⟨b.1.trans a.1, fun j h => (b.2 j fun z => h (List.mem_append_right _ z)).trans (a.2 j fun z => h (List.mem_append_left _ z))⟩
section
variable {X : Cx} {pos : Pos}
theorem sg_name {i : Nat} {x : Str} (hN : X.N.Nodup) (hi : X.N[i]? = some x) (hx : Loc X.env.scope x) (hf : X.fn x = true ∨ X.env.scope.names.lookup x = some .local := by first | exact .inl rfl | exact .inr rfl | assumption) : SG X (.Name x pos) [i] (gN i) := by
  refine pg_weak (pg_name hN hi hx hf) fun v σ H Q ⟨G, ρ, F, y, ρ', W, R, e, q⟩ => ?_
  exact q _ (asg_fz W R e) (Mod'.set i _)
theorem sgs_nil : SGs X [] [] gsN := pgs_weak pgs_nil fun vs σ H Q ⟨G, ρ, F, xs, ρ', W, R, e, q⟩ => by
  cases R with
  | nil => cases e; exact ⟨rfl, q σ W ⟨rfl, fun _ _ => rfl⟩⟩
  | cons _ _ => cases e
theorem sgs_cons {e : Expr} {es : List Expr} {is js : List Nat} {g : D → Rho → Option Rho} {r : List D → Rho → Option Rho} (h1 : SG X e is g) (h2 : SGs X es js r)
    (hs : (assignEach (e :: es) X.env).map (·.2) = assign e X.env :: (assignEach es X.env).map (·.2) := by rfl) : SGs X (e :: es) (is ++ js) (gsC g r) := by
  refine pgs_weak (pgs_cons h1 h2 hs) fun vs σ H Q ⟨G, ρ, F, xs, ρ', W, R, e, q⟩ => ?_
  cases R with
  | nil => cases e
  | cons r1 r2 =>
    unfold gsC at e
    obtain ⟨ρ1, e1, e⟩ := Option.bind_eq_some_iff.mp e
    refine ⟨_, _, rfl, G, ρ, F, _, ρ1, W, r1, e1, fun σ1 W1 m1 => ?_⟩
    exact ⟨G, ρ1, F, _, ρ', W1, r2, e, fun σ2 W2 m2 => q σ2 W2 (m1.trans m2)⟩
theorem sg_tup {es : List Expr} {k n : Nat} {is : List Nat} {r : List D → Rho → Option Rho} (hc : X.calm = true) (h : SGs X es is r) (hn : (assignEach es X.env).length = n := by rfl) (hst : (assignEach es X.env).findIdx? (·.1) = none := by rfl) : SG X (.Tuple es k pos) is (gT n r) := by
  refine pg_weak (pg_tup hc h hn hst) fun v σ H Q ⟨G, ρ, F, x, ρ', W, R, e, q⟩ => ?_
  unfold gT at e
  split at e
  · split at e
    · rename_i hl
      cases R with
      | tup sq rs => exact ⟨_, _, rfl, same_t W.sub sq, by rw [rs.len]; exact hl, G, ρ, F, _, ρ', W, rs, e, q⟩
    · cases e
  · cases e
/-- a, b = e -/
noncomputable def sAsgT (m : M Vl) (g : D → Rho → Option Rho) : S := fun ρ => (m ρ).bind fun p => match p.1 with
  | .fz x => (g x p.2).bind fun ρ2 => some (.nx, ρ2)
  | _ => none
end
structure JR (K : Kx) (J : It) (F : Hp) (xs : List D) : Prop where
  go : ∀ i H, Same F H → i < xs.length → J.go i H
  yl : ∀ i H F1 x H', i < xs.length → Same F F1 → Same F1 H → J.yld i H x H' → ∃ F2 d, Alc F1 H F2 H' ∧ xs[i]? = some d ∧ Rep K F2 x d
  st : ∀ i H, Same F H → xs.length ≤ i → J.stop i H
noncomputable def tI (K : Kx) (m : M (List D)) : TI := fun σ H R => ∃ G ρ F xs ρ', Wd K G ρ σ H F ∧ m ρ = some (xs, ρ') ∧ ∀ J H' F', Ste K G ρ σ H F ρ' H' F' → JR K J F' xs → R J H'
noncomputable abbrev SI (X : Cx) (tg iter : Expr) (m : M (List D)) : Prop := PI X tg iter (tI X.kx m)
theorem pi_weak {X : Cx} {tg e : Expr} {t t' : TI} (h : PI X tg e t) (w : ∀ σ H R, t' σ H R → t σ H R) : PI X tg e t' := ⟨fun pins s σ H R I q => h.run pins s σ H R I (w _ _ _ q)⟩
theorem pi_or {X : Cx} {tg e : Expr} {t t' : TI} (h : PI X tg e t) (h' : PI X tg e t') : PI X tg e (fun σ H R => t σ H R ∨ t' σ H R) := ⟨fun pins s σ H R I q => q.elim (h.run pins s σ H R I) (h'.run pins s σ H R I)⟩
noncomputable def itemsOf : D → Option (List D)
  | .lst xs => some xs
  | .tup xs => some xs
  | .str s => some (s.map fun c => .str [c])
  | .scr ns => some (ns.map .int)
  | _ => none
noncomputable def iSq (m : M Vl) : M (List D) := fun ρ => (m ρ).bind fun p => (frz p.2 (stl p.1)).bind fun q => (itemsOf q.1).bind fun xs => some (xs, q.2)
theorem Reps.ints {K : Kx} {F : Hp} : ∀ ns : List Int, Reps K F (ns.map V.int) (ns.map D.int)
  | [] => .nil
  | n :: ns => .cons (.int n) (Reps.ints ns)
theorem jr_list {K : Kx} {F : Hp} {a : Addr} {vs : List V} {xs : List D} (h : SqL K F a vs) (r : Reps K F vs xs) : JR K (Itl K a) F xs where
  go := fun i H s hi => ⟨vs, vs[i]'(by rw [r.len]; exact hi), s.seq h, List.getElem?_eq_getElem _⟩
  yl := fun i H F1 x H' hi s1 s2 y => by
    obtain ⟨rfl, y⟩ := y
    have e := y vs (s2.seq (s1.seq h))
    obtain ⟨d, h1, h2⟩ := r.get e
    exact ⟨F1, d, Alc.refl s2, h1, h2.mono s1⟩
  st := fun i H s hi => ⟨vs, s.seq h, by rw [r.len]; exact hi⟩
theorem jr_tup {K : Kx} {F : Hp} {a : Addr} {vs : List V} {xs : List D} (h : SqT K F a vs) (r : Reps K F vs xs) : JR K (Itt K a) F xs where
  go := fun i H s hi => ⟨vs, vs[i]'(by rw [r.len]; exact hi), same_t s h, List.getElem?_eq_getElem _⟩
  yl := fun i H F1 x H' hi s1 s2 y => by
    obtain ⟨rfl, y⟩ := y
    have e := y vs (same_t s2 (same_t s1 h))
    obtain ⟨d, h1, h2⟩ := r.get e
    exact ⟨F1, d, Alc.refl s2, h1, h2.mono s1⟩
  st := fun i H s hi => ⟨vs, same_t s h, by rw [r.len]; exact hi⟩
theorem jr_str {K : Kx} {F : Hp} (s : List Nat) : JR K (Its ⟨s.toArray⟩) F (s.map fun c => .str [c]) where
  go := fun i H _ hi => by
    show i < (⟨s.toArray⟩ : Str).cps.size
    simpa using hi
  yl := fun i H F1 x H' hi s1 s2 y => by
    obtain ⟨rfl, c, e, rfl⟩ := y
    refine ⟨F1, .str [c], Alc.refl s2, ?_, .str [c]⟩
    have e : s[i]? = some c := by simpa using e
    rw [List.getElem?_map, e]
    rfl
  st := fun i H _ hi => by
    show (⟨s.toArray⟩ : Str).cps.size ≤ i
    simpa using hi
theorem jr_rng {K : Kx} {F : Hp} (lo : Int) (n : Nat) : JR K (Itr lo n) F ((List.range n).map fun (i : Nat) => .int (lo + (i : Int))) where
  go := fun i H _ hi => by
    show i < n
    simpa using hi
  yl := fun i H F1 x H' hi s1 s2 y => by
    obtain ⟨rfl, rfl⟩ := y
    have hi : i < n := by simpa using hi
    exact ⟨F1, .int (lo + (i : Int)), Alc.refl s2, by rw [List.getElem?_map, List.getElem?_range hi]; rfl, .int _⟩
  st := fun i H _ hi => by
    show n ≤ i
    simpa using hi
section
variable {X : Cx} {tg e : Expr} {me : M Vl} {pos p : Pos}
theorem si_seq (h : SE X e me) : SI X tg e (iSq me) := by
  refine pi_weak (pi_or (pi_list h) (pi_or (pi_tup h) (pi_str h))) fun σ H R ⟨G, ρ, F, xs, ρ', W, hm, q⟩ => ?_
  unfold iSq at hm
  obtain ⟨⟨r, ρ1⟩, e1, hm⟩ := Option.bind_eq_some_iff.mp hm
  obtain ⟨⟨x, ρ2⟩, e2, hm⟩ := Option.bind_eq_some_iff.mp hm
  obtain ⟨ys, e3, hm⟩ := Option.bind_eq_some_iff.mp hm
  cases hm
  cases x with
  | lst zs =>
    cases e3
    refine .inl (tm_use W e1 fun v H1 F1 s1 R1 => ?_)
    obtain ⟨F2, s2, R2⟩ := frz_ok s1.wd R1 e2
    cases R2 with
    | lst h1 h2 => exact ⟨_, rfl, ⟨_, SqL.of (s2.wd.sub _ _ h1)⟩, q _ _ F2 (s1.trans s2) (jr_list (SqL.of h1) h2)⟩
  | scr zs =>
    cases e3
    refine .inl (tm_use W e1 fun v H1 F1 s1 R1 => ?_)
    obtain ⟨F2, s2, R2⟩ := frz_ok s1.wd R1 e2
    cases R2 with
    | scr h1 => exact ⟨_, rfl, ⟨_, s2.wd.sub.seq h1⟩, q _ _ F2 (s1.trans s2) (jr_list h1 (Reps.ints _))⟩
  | tup zs =>
    cases e3
    refine .inr (.inl (tm_use W e1 fun v H1 F1 s1 R1 => ?_))
    obtain ⟨F2, s2, R2⟩ := frz_ok s1.wd R1 e2
    cases R2 with
    | tup h1 h2 => exact ⟨_, rfl, ⟨_, same_t s2.wd.sub h1⟩, q _ _ F2 (s1.trans s2) (jr_tup h1 h2)⟩
  | str zs =>
    cases e3
    refine .inr (.inr (tm_use W e1 fun v H1 F1 s1 R1 => ?_))
    obtain ⟨F2, s2, R2⟩ := frz_ok s1.wd R1 e2
    cases R2
    exact ⟨_, rfl, q _ _ F2 (s1.trans s2) (jr_str _)⟩
  | non => cases e3
  | bl b => cases e3
  | int i => cases e3
  | obj c ks xs => cases e3
/-- range(n), range(a, b) -/
noncomputable def rngL (lo : Int) (n : Nat) : List D := (List.range n).map fun (i : Nat) => .int (lo + (i : Int))
noncomputable def iR1 (a : M (List Vl)) : M (List D) := fun ρ => (a ρ).bind fun p => match p.1 with
  | [.fz (.int j)] => if -(2 ^ 62) ≤ j ∧ j < 2 ^ 62 then some (rngL 0 j.toNat, p.2) else none
  | _ => none
noncomputable def iR2 (a : M (List Vl)) : M (List D) := fun ρ => (a ρ).bind fun p => match p.1 with
  | [.fz (.int i), .fz (.int j)] => if -(2 ^ 62) ≤ i ∧ i < 2 ^ 62 ∧ -(2 ^ 62) ≤ j ∧ j < 2 ^ 62 then some (rngL i (j - i).toNat, p.2) else none
  | _ => none
theorem vls1 {K : Kx} {σ : L2.St} {F : Hp} {vs : List V} {x : D} (h : VlSs K σ F vs [.fz x]) : ∃ v, vs = [v] ∧ Rep K F v x := by
  match vs, h with
  | [v], h => exact ⟨v, rfl, h.1⟩
theorem vls2 {K : Kx} {σ : L2.St} {F : Hp} {vs : List V} {x y : D} (h : VlSs K σ F vs [.fz x, .fz y]) : ∃ v u, vs = [v, u] ∧ Rep K F v x ∧ Rep K F u y := by
  match vs, h with
  | [v, u], h => exact ⟨v, u, rfl, h.1, h.2.1⟩
theorem si_range1 {a : Expr} {ma : M (List Vl)} (hm : X.mg "range" = none) (hg : Gl X "range") (ha : SA X [a] ma) (hs : starEach [a] X.env = [(false, eval a X.env)] := by rfl) : SI X tg (.Call (.Name "range" p) [a] [] pos) (iR1 ma) := by
  refine pi_weak (pi_range1 hg hm ha hs) fun σ H R ⟨G, ρ, F, xs, ρ', W, hm, q⟩ => ?_
  unfold iR1 at hm
  obtain ⟨⟨r, ρ1⟩, e1, hm⟩ := Option.bind_eq_some_iff.mp hm
  refine ⟨G, ρ, F, r, ρ1, W, e1, fun vs H1 F1 s1 R1 => ?_⟩
  split at hm
  · rename_i j hj
    dsimp only at hj
    subst hj
    split at hm
    · rename_i hb
      cases hm
      obtain ⟨v, rfl, Rv⟩ := vls1 R1
      cases Rv
      exact ⟨j, rfl, hb.1, hb.2, q _ _ F1 s1 (jr_rng 0 j.toNat)⟩
    · cases hm
  · cases hm
theorem si_range2 {a b : Expr} {ma : M (List Vl)} (hm : X.mg "range" = none) (hg : Gl X "range") (ha : SA X [a, b] ma) (hs : starEach [a, b] X.env = [(false, eval a X.env), (false, eval b X.env)] := by rfl) (hs2 : starEach [b] X.env = [(false, eval b X.env)] := by rfl) : SI X tg (.Call (.Name "range" p) [a, b] [] pos) (iR2 ma) := by
  refine pi_weak (pi_range2 hg hm ha hs hs2) fun σ H R ⟨G, ρ, F, xs, ρ', W, hm, q⟩ => ?_
  unfold iR2 at hm
  obtain ⟨⟨r, ρ1⟩, e1, hm⟩ := Option.bind_eq_some_iff.mp hm
  refine ⟨G, ρ, F, r, ρ1, W, e1, fun vs H1 F1 s1 R1 => ?_⟩
  split at hm
  · rename_i i j hj
    dsimp only at hj
    subst hj
    split at hm
    · rename_i hb
      cases hm
      obtain ⟨v, u, rfl, Rv, Ru⟩ := vls2 R1
      cases Rv
      cases Ru
      exact ⟨i, j, rfl, hb, q _ _ F1 s1 (jr_rng i (j - i).toNat)⟩
    · cases hm
  · cases hm
end
noncomputable def forM (g : D → Rho → Option Rho) (b : S) : List D → S
  | [], ρ => some (.nx, ρ)
  | x :: xs, ρ => (g x ρ).bind fun ρ1 => (b ρ1).bind fun p => match p.1 with
    | .nx => forM g b xs p.2
    | .ct => forM g b xs p.2
    | .bk => some (.nx, p.2)
    | .rt v => some (.rt v, p.2)
    | .ex x => some (.ex x, p.2)
noncomputable def sFor (src : M (List D)) (g : D → Rho → Option Rho) (b : S) : S := fun ρ => (src ρ).bind fun p => forM g b p.1 p.2
section
variable {X : Cx} {tg iter c : Expr} {src : M (List D)} {is : List Nat} {g : D → Rho → Option Rho} {body : List Stmt} {b : S} {pos : Pos} {mt : M Bool}
theorem ss_for (hp : PassesOwn (model X.prog X.w) X.A X.env X.xe) (hc : X.calm = true) (hi : SI X tg iter src) (hg : SG X tg is g) (hb : SBW X Wx body b)
    (hs : ∀ x, foldedSetIterable iter X.env x = pure x := by intro _; rfl) : SSW X Wx (.For tg iter body [] pos) (sFor src g b) := by
  refine ps_weak (ps_for hp hc hi hg hb hs) fun D σ H ⟨G, ρ, F, fl, ρ', W, hm, q⟩ => ?_
  unfold sFor at hm
  obtain ⟨⟨xs, ρ1⟩, e1, hm⟩ := Option.bind_eq_some_iff.mp hm
  refine ⟨G, ρ, F, xs, ρ1, W, e1, fun J H1 F1 s1 jr => ?_⟩
  refine ⟨fun i m σ H => m = xs.length - i ∧ i ≤ xs.length ∧ ∃ ρi Fi, Wd X.kx G ρi σ H Fi ∧ Same F1 Fi ∧ forM g b (xs.drop i) ρi = some (fl, ρ'), ⟨xs.length, by simp, Nat.zero_le _, ρ1, F1, s1.wd, Same.refl _, hm⟩, ?_⟩
  rintro i m σ2 H2 ⟨rfl, hi, ρi, Fi, Wi, ff, hf⟩
  by_cases hlt : i < xs.length
  · refine .inr ⟨jr.go i H2 (ff.trans Wi.sub) hlt, fun σ' H' => ∃ ρi Fi, Wd X.kx G ρi σ' H' Fi ∧ Same F1 Fi ∧ forM g b (xs.drop (i + 1)) ρi = some (fl, ρ'), fun σ' H' ⟨ρj, Fj, a, b, c⟩ => ⟨xs.length - (i + 1), by omega, rfl, hlt, ρj, Fj, a, b, c⟩, fun x H' y => ?_⟩
    obtain ⟨F2, d, A, hd, Rd⟩ := jr.yl i H2 Fi x H' hlt ff Wi.sub y
    have s2 := Wi.alc A
    have ed : xs[i] = d := by
      rw [List.getElem?_eq_getElem hlt] at hd
      exact Option.some.inj hd
    rw [List.drop_eq_getElem_cons hlt, ed] at hf
    unfold forM at hf
    obtain ⟨ρ3, e3, hf⟩ := Option.bind_eq_some_iff.mp hf
    obtain ⟨⟨f4, ρ4⟩, e4, hf⟩ := Option.bind_eq_some_iff.mp hf
    refine ⟨G, ρi, F2, d, ρ3, s2.wd, Rd, e3, fun σ3 W3 _ => ?_⟩
    refine ⟨G, ρ3, F2, f4, ρ4, W3, e4, fun σ4 H4 F4 W4 f34 => ?_⟩
    have fall : Same F1 F4 := (ff.trans A.ff).trans f34
    cases f4 with
    | nx => exact ⟨ρ4, F4, W4, fall, hf⟩
    | ct => exact ⟨ρ4, F4, W4, fall, hf⟩
    | bk => cases hf; exact q σ4 H4 F4 W4 (s1.ff.trans fall)
    | rt v => cases hf; exact q σ4 H4 F4 W4 (s1.ff.trans fall)
    | ex x => cases hf; exact q σ4 H4 F4 W4 (s1.ff.trans fall)
  · have e : i = xs.length := by omega
    subst e
    rw [List.drop_length] at hf
    cases hf
    exact .inl ⟨jr.st _ H2 (ff.trans Wi.sub) (Nat.le_refl _), q σ2 H2 Fi Wi (s1.ff.trans ff)⟩
/-- while: as many turns as there are -/
noncomputable def wh (t : M Bool) (b : S) : Nat → S
  | 0, _ => none
  | n + 1, ρ => (t ρ).bind fun p => if p.1 = true then (b p.2).bind fun q => (match q.1 with
    | .nx => wh t b n q.2
    | .ct => wh t b n q.2
    | .bk => some (.nx, q.2)
    | .rt v => some (.rt v, q.2)
    | .ex x => some (.ex x, q.2)) else some (.nx, p.2)
end
noncomputable def slOf : Ag → Sl
  | .da x => .d x
  | .li xs => .io xs
noncomputable def outsOf : List Ag → Rho → List (List D)
  | .li _ :: gs, .io xs :: ρ => xs :: outsOf gs ρ
  | _ :: gs, _ :: ρ => outsOf gs ρ
  | _, _ => []
noncomputable def fnS (n nl : Nat) (b : S) : Fn := fun gs => if gs.length = n then (b (gs.map slOf ++ List.replicate (nl - n) .no)).bind fun p => (match p.1 with
  | .nx => some (.fz .non, outsOf gs p.2)
  | .rt (.fz x) => some (.fz x, outsOf gs p.2)
  | .rt (.fr x) => some (.fr x, outsOf gs p.2)
  | _ => none) else none
theorem fnS_len {n nl : Nat} {b : S} : ∀ gs z, fnS n nl b gs = some z → gs.length = n := fun gs z h => by
  unfold fnS at h
  split at h
  · assumption
  · cases h
/-- the slots whose lists are handed in -/
noncomputable def iaOf : Nat → List V → List Ag → List (Nat × Addr)
  | i, .ref a :: vs, .li _ :: gs => (i, a) :: iaOf (i + 1) vs gs
  | i, _ :: vs, _ :: gs => iaOf (i + 1) vs gs
  | _, _, _ => []
section
variable {K : Kx} {F H : Hp}
theorem AgsR.at : ∀ {vs : List V} {gs : List Ag} {i : Nat} {g : Ag}, AgsR K F H vs gs → gs[i]? = some g → ∃ v, vs[i]? = some v ∧ (match g with
    | .da x => Rep K F v x
    | .li xs => ∃ a us, v = .ref a ∧ H a = some (.lst us) ∧ Reps K F us xs ∧ F a = none)
  | [], [], _, _, _, h => by simp at h
  | [], .da _ :: _, _, _, h, _ => h.elim
  | [], .li _ :: _, _, _, h, _ => h.elim
  | _ :: _, [], _, _, _, h => by simp at h
  | v :: vs, .da x :: gs, 0, g, h, e => by simp at e; subst e; exact ⟨v, rfl, h.1⟩
  | v :: vs, .li x :: gs, 0, g, h, e => by simp at e; subst e; exact ⟨v, rfl, h.1⟩
  | v :: vs, .da x :: gs, i + 1, g, h, e => AgsR.at (i := i) h.2 (by simpa using e)
  | v :: vs, .li x :: gs, i + 1, g, h, e => AgsR.at (i := i) h.2 (by simpa using e)
theorem iaOf_snd : ∀ {vs : List V} {gs : List Ag} (k : Nat), AgsR K F H vs gs → (iaOf k vs gs).map (·.2) = liA vs gs
  | [], [], _, _ => rfl
  | [], .da _ :: _, _, h => h.elim
  | [], .li _ :: _, _, h => h.elim
  | _ :: _, [], _, h => h.elim
  | v :: vs, .da x :: gs, k, h => by
    have e1 : iaOf k (v :: vs) (.da x :: gs) = iaOf (k + 1) vs gs := by cases v <;> rfl
    have e2 : liA (v :: vs) (.da x :: gs) = liA vs gs := by cases v <;> rfl
    rw [e1, e2]
    exact iaOf_snd (k + 1) h.2
  | v :: vs, .li x :: gs, k, h => by
    obtain ⟨⟨a, us, rfl, _⟩, h2⟩ := h
    show a :: (iaOf (k + 1) vs gs).map (·.2) = a :: liA vs gs
    rw [iaOf_snd (k + 1) h2]
theorem iaOf_mem : ∀ {vs : List V} {gs : List Ag} {k j : Nat} {a : Addr}, AgsR K F H vs gs → (j, a) ∈ iaOf k vs gs → ∃ i xs, j = k + i ∧ gs[i]? = some (.li xs) ∧ vs[i]? = some (.ref a)
  | [], [], _, _, _, _, h => by simp [iaOf] at h
  | [], .da _ :: _, _, _, _, h, _ => h.elim
  | [], .li _ :: _, _, _, _, h, _ => h.elim
  | _ :: _, [], _, _, _, h, _ => h.elim
  | v :: vs, .da x :: gs, k, j, a, h, e => by
    have e1 : iaOf k (v :: vs) (.da x :: gs) = iaOf (k + 1) vs gs := by cases v <;> rfl
    rw [e1] at e
    obtain ⟨i, xs, h1, h2, h3⟩ := iaOf_mem h.2 e
    exact ⟨i + 1, xs, by omega, by simpa using h2, by simpa using h3⟩
  | v :: vs, .li x :: gs, k, j, a, h, e => by
    obtain ⟨⟨b, us, rfl, _⟩, h2⟩ := h
    rcases List.mem_cons.mp (show (j, a) ∈ (k, b) :: iaOf (k + 1) vs gs from e) with q | q
    · cases q
      exact ⟨0, x, rfl, rfl, rfl⟩
    · obtain ⟨i, xs, h1, h3, h4⟩ := iaOf_mem h2 q
      exact ⟨i + 1, xs, by omega, by simpa using h3, by simpa using h4⟩
theorem mem_iaOf : ∀ {vs : List V} {gs : List Ag} {i : Nat} {a : Addr} {xs : List D} (k : Nat), AgsR K F H vs gs → gs[i]? = some (.li xs) → vs[i]? = some (.ref a) → (k + i, a) ∈ iaOf k vs gs
  | [], _, _, _, _, _, _, _, h => by simp at h
  | _ :: _, [], _, _, _, _, h, _, _ => h.elim
  | v :: vs, .da x :: gs, 0, a, xs, k, h, e, _ => by simp at e
  | v :: vs, .li x :: gs, 0, a, xs, k, h, e, e2 => by
    simp at e2; subst e2
    show (k + 0, a) ∈ (k, a) :: iaOf (k + 1) vs gs
    exact List.mem_cons_self
  | v :: vs, .da x :: gs, i + 1, a, xs, k, h, e, e2 => by
    have e1 : iaOf k (v :: vs) (.da x :: gs) = iaOf (k + 1) vs gs := by cases v <;> rfl
    rw [e1]
    have := mem_iaOf (k + 1) h.2 (i := i) (a := a) (xs := xs) (by simpa using e) (by simpa using e2)
    rw [show k + (i + 1) = k + 1 + i by omega]
    exact this
  | v :: vs, .li x :: gs, i + 1, a, xs, k, h, e, e2 => by
    obtain ⟨⟨b, us, rfl, _⟩, h2⟩ := h
    have := mem_iaOf (k + 1) h2 (i := i) (a := a) (xs := xs) (by simpa using e) (by simpa using e2)
    rw [show k + (i + 1) = k + 1 + i by omega]
    exact List.mem_cons_of_mem _ this
/-- the world at a def's entry -/
theorem wd_start {vs : List V} {gs : List Ag} {N : List Str} {n nl : Nat} (A : AgsR K F H vs gs) (nd : (liA vs gs).Nodup) (sub : Same F H) (hn : gs.length = n) (hl : N.length = nl) (hle : n ≤ nl) : Wd K ⟨H, F, iaOf 0 vs gs, nl, [], []⟩ (gs.map slOf ++ List.replicate (nl - n) .no) (start N vs) H F := by
  have lv : vs.length = n := A.len.trans hn
  have get : ∀ (i : Nat) (s : Sl), (gs.map slOf ++ List.replicate (nl - n) .no)[i]? = some s → (∃ g, gs[i]? = some g ∧ s = slOf g) ∨ s = .no := fun i s h => by
    by_cases hi : i < n
    · rw [List.getElem?_append_left (by rw [List.length_map, hn]; exact hi), List.getElem?_map] at h
      cases e : gs[i]? with
      | none => rw [e] at h; cases h
      | some g => rw [e] at h; cases h; exact .inl ⟨g, rfl, rfl⟩
    · rw [List.getElem?_append_right (by rw [List.length_map, hn]; omega), List.getElem?_replicate] at h
      split at h
      · cases h; exact .inr rfl
      · cases h
  have getv : ∀ (i : Nat) (v : V), vs[i]? = some v → (start N vs)[i]? = some (some v) := fun i v h => by
    have hi := (List.getElem?_eq_some_iff.mp h).1
    unfold L2.start
    rw [List.getElem?_append_left (by rw [List.length_map]; exact hi), List.getElem?_map, h]
    rfl
  have ow : ∀ i a, Ow K H F (gs.map slOf ++ List.replicate (nl - n) .no) (start N vs) i a → (i, a) ∈ iaOf 0 vs gs ∧ i < vs.length := fun i a o => by
    rcases o with ⟨⟨xs, o1⟩, o2⟩ | ⟨t, u, L, o1, _⟩
    rotate_left
    · rcases o1 with o1 | o1
      · rcases get i _ o1 with ⟨g, _, e⟩ | e
        · cases g <;> cases e
        · cases e
      · rcases get i _ o1 with ⟨g, _, e⟩ | e
        · cases g <;> cases e
        · cases e
    rcases o1 with o1 | o1 | ⟨zs, o1⟩
    · rcases get i _ o1 with ⟨g, _, e⟩ | e
      · cases g <;> cases e
      · cases e
    · rcases get i _ o1 with ⟨g, e1, e⟩ | e
      · cases g with
        | da x => cases e
        | li ys =>
          cases e
          obtain ⟨v, e2, b, us, rfl, _⟩ := A.at e1
          rw [getv i _ e2] at o2
          cases o2
          have := mem_iaOf 0 A e1 e2
          rw [Nat.zero_add] at this
          exact ⟨this, (List.getElem?_eq_some_iff.mp e2).1⟩
      · cases e
    · rcases get i _ o1 with ⟨g, _, e⟩ | e
      · cases g <;> cases e
      · cases e
  have snd := iaOf_snd 0 A
  have lst : (start N vs).length = nl := by
    unfold L2.start
    rw [List.length_append, List.length_map, List.length_replicate, lv, hl]
    omega
  refine ⟨?_, lst, sub, Same.refl _, fun b o h _ _ => h, fun b h => .inl h, fun b h => ?_, fun i s h => ?_, fun i j a o1 o2 => ?_, fun i a h => ?_, fun i a h => absurd h List.not_mem_nil⟩
  · unfold L2.start
    rw [List.length_append, List.length_map, List.length_replicate, List.length_append, List.length_map, List.length_replicate, hn, lv, hl]
  · rcases h with h | h
    rotate_left
    · exact absurd h List.not_mem_nil
    obtain ⟨⟨j, c⟩, h1, rfl⟩ := List.mem_map.mp h
    obtain ⟨i, xs, _, h2, h3⟩ := iaOf_mem A h1
    obtain ⟨v, e, b, us, rfl, hb, _⟩ := A.at h2
    rw [h3] at e; cases e
    show H c ≠ none
    rw [hb]; simp
  · rcases get i s h with ⟨g, e, rfl⟩ | rfl
    · obtain ⟨v, e2, q⟩ := A.at e
      cases g with
      | da x => exact ⟨v, getv i v e2, q⟩
      | li xs =>
        obtain ⟨a, us, rfl, h1, h2, h3⟩ := q
        have := mem_iaOf 0 A e e2
        rw [Nat.zero_add] at this
        exact ⟨a, us, getv i _ e2, h1, h2, h3, this⟩
    · trivial
  · have h1 := (ow i a o1).1
    have h2 := (ow j a o2).1
    have ndp : ((iaOf 0 vs gs).map (·.2)).Nodup := by rw [snd]; exact nd
    obtain ⟨p, hp, e1⟩ := List.mem_iff_getElem.mp h1
    obtain ⟨q, hq, e2⟩ := List.mem_iff_getElem.mp h2
    have e3 : ((iaOf 0 vs gs).map (·.2))[p]'(by rw [List.length_map]; exact hp) = ((iaOf 0 vs gs).map (·.2))[q]'(by rw [List.length_map]; exact hq) := by
      rw [List.getElem_map, List.getElem_map, e1, e2]
    have e4 := (List.getElem_inj ndp).mp e3
    subst e4
    rw [e1] at e2
    cases e2
    rfl
  · obtain ⟨j, xs, e, h2, h3⟩ := iaOf_mem A h
    rw [Nat.zero_add] at e
    subst e
    refine ⟨⟨xs, ?_⟩, getv i _ h3⟩
    have hi := (List.getElem?_eq_some_iff.mp h2).1
    rw [List.getElem?_append_left (by rw [List.length_map]; exact hi), List.getElem?_map, h2]
    rfl
theorem outs_ok {G : Gd} {σ : L2.St} {H' F' : Hp} : ∀ {vs : List V} {gs : List Ag} {ρ : Rho} (k : Nat), AgsR K F H vs gs → (∀ i s, ρ[i]? = some s → SlR K G σ H' F' (k + i) s) → (∀ i a xs, gs[i]? = some (.li xs) → vs[i]? = some (.ref a) → (∃ ys, ρ[i]? = some (.io ys)) ∧ σ[k + i]? = some (some (.ref a))) → gs.length ≤ ρ.length → OutsR K F' H' (liA vs gs) (outsOf gs ρ)
  | [], [], ρ, k, _, _, _, _ => by cases ρ <;> trivial
  | [], .da _ :: _, _, _, h, _, _, _ => h.elim
  | [], .li _ :: _, _, _, h, _, _, _ => h.elim
  | _ :: _, [], _, _, h, _, _, _ => h.elim
  | v :: vs, g :: gs, [], k, _, _, _, hl => by simp at hl
  | v :: vs, .da x :: gs, s :: ρ, k, h, h1, h2, hl => by
    have e2 : liA (v :: vs) (.da x :: gs) = liA vs gs := by cases v <;> rfl
    have e3 : outsOf (.da x :: gs) (s :: ρ) = outsOf gs ρ := by cases s <;> rfl
    rw [e2, e3]
    refine outs_ok (G := G) (σ := σ) (k + 1) h.2 (fun i s' e => ?_) (fun i a xs e e' => ?_) (by simpa using hl)
    · have := h1 (i + 1) s' (by simpa using e)
      rw [show k + 1 + i = k + (i + 1) by omega]
      exact this
    · have := h2 (i + 1) a xs (by simpa using e) (by simpa using e')
      rw [show k + 1 + i = k + (i + 1) by omega]
      simpa using this
  | v :: vs, .li x :: gs, s :: ρ, k, h, h1, h2, hl => by
    obtain ⟨⟨b, us, rfl, _⟩, hr⟩ := h
    obtain ⟨⟨ys, e0⟩, e1⟩ := h2 0 b x rfl rfl
    have e0 : s = .io ys := by simpa using e0
    subst e0
    obtain ⟨c, ws, f1, f2, f3, f4, _⟩ := h1 0 (.io ys) rfl
    rw [Nat.add_zero] at e1 f1
    rw [e1] at f1
    cases f1
    refine ⟨⟨ws, f2, f3, f4⟩, outs_ok (G := G) (σ := σ) (k + 1) hr (fun i s' e => ?_) (fun i a xs e e' => ?_) (by simpa using hl)⟩
    · have := h1 (i + 1) s' (by simpa using e)
      rw [show k + 1 + i = k + (i + 1) by omega]
      exact this
    · have := h2 (i + 1) a xs (by simpa using e) (by simpa using e')
      rw [show k + 1 + i = k + (i + 1) by omega]
      simpa using this
end
theorem fn_ok {P : Program} {w : World} {K : PySem.W.Frag} {mg : Str → Option Value} {base : Heap} {x qual : Str} {st : Stmt} {f : Addr} {fd : FuncData} {N ps : List Str} {k n nl : Nat} {m : S} (Fu : FunG K x qual st f fd) (Sc : FnScope N ps (defScope st)) (hn : ps.length = n) (hl : N.length = nl) (hle : n ≤ nl)
    (hb : ∀ (cdv : Value) (A : Around) (outer : List Env) (s : Shared) (H : Hp) (E : XK), Room k (A.deeper (envOfC qual (defScope st) s.heap.objs.size f cdv)) → SB (cxOf CX0 P w K mg base N qual (defScope st) f cdv A outer s H E).nox (defBody st) m) :
    FnOk P w K mg base CX0 (k + 1) f fd ps (spF ⟨K, w⟩ n (fnS n nl m)) := by
  refine Fu.ok Sc (fun vs H Q E h => by rw [h.1, hn]) (fun cdv A outer s H vs Q E hr h => ?_)
  obtain ⟨hv, F, gs, r, os, sub, AR, nd, hf, q⟩ := h
  refine ⟨_, hb cdv A outer s H E hr, ?_⟩
  unfold fnS at hf
  split at hf
  · rename_i hgs
    obtain ⟨⟨fl, ρ'⟩, e1, hf⟩ := Option.bind_eq_some_iff.mp hf
    have W := wd_start AR nd sub hgs hl hle
    have snd := iaOf_snd 0 AR
    have le : gs.length ≤ (gs.map slOf ++ List.replicate (nl - n) Sl.no).length := by rw [List.length_append, List.length_map]; omega
    have outs : ∀ {σ' : L2.St} {H' F' : Hp}, Wd ⟨K, w⟩ ⟨H, F, iaOf 0 vs gs, nl, [], []⟩ ρ' σ' H' F' → σ'.length = nl → OutsR ⟨K, w⟩ F' H' (liA vs gs) (outsOf gs ρ') := fun {σ' H' F'} W' hσ => by
      refine outs_ok (G := ⟨H, F, iaOf 0 vs gs, nl, [], []⟩) (σ := σ') 0 AR (fun i s' e => by rw [Nat.zero_add]; exact W'.sl i s' e) (fun i a xs h1 h2 => ?_) ?_
      · have := mem_iaOf 0 AR h1 h2
        have z := W'.ai _ _ this
        rw [Nat.zero_add] at z
        exact ⟨z.1, by rw [Nat.zero_add]; exact z.2⟩
      · have := W'.len
        omega
    refine ⟨⟨H, F, iaOf 0 vs gs, nl, [], []⟩, _, F, fl, ρ', W, e1, fun σ' H' F' W' ff => ?_⟩
    have kp : ∀ b o, H b = some o → b ∉ liA vs gs → H' b = some o := fun b o h h2 => W'.kp b o h (by rw [snd]; exact h2) List.not_mem_nil
    have hσ : σ'.length = nl := W'.gl
    cases fl with
    | nx => cases hf; exact q _ H' F' ff W'.sub kp W'.nw (outs W' hσ) .non
    | bk => cases hf
    | ct => cases hf
    | ex x => cases hf
    | rt z =>
      cases z with
      | fz y => cases hf; exact fun v R => q v H' F' ff W'.sub kp W'.nw (outs W' hσ) R
      | fr y => cases hf; exact fun v R => q v H' F' ff W'.sub kp W'.nw (outs W' hσ) R
      | bw y => cases hf
  · cases hf
end Sw
namespace Sw
open PySem PySem.Spec PyProof.Rows L2
noncomputable def wipeR (ρ : Rho) : List Nat → Rho
  | [] => ρ
  | v :: vs => (wipeR ρ vs).set v .no
noncomputable def backR (ρ0 ρ : Rho) : List Nat → Rho
  | [] => ρ
  | v :: vs => (backR ρ0 ρ vs).set v ((ρ0[v]?).getD .no)
noncomputable def plainSl : Option Sl → Bool
  | some .no => true
  | some (.d _) => true
  | _ => false
noncomputable def lcM (vs : List Nat) (g : D → Rho → Option Rho) (t : M Bool) (e : M Vl) : List D → List D → M (List D)
  | [], acc, ρ => some (acc, ρ)
  | x :: xs, acc, ρ => (g x ρ).bind fun ρ1 => (t ρ1).bind fun p => if p.1 = true then (e p.2).bind fun q => (frz q.2 (stl q.1)).bind fun z => if acc.length < lim then lcM vs g t e xs (acc ++ [z.1]) (wipeR z.2 vs) else none else lcM vs g t e xs acc (wipeR p.2 vs)
noncomputable def eLc (vs : List Nat) (src : M (List D)) (g : D → Rho → Option Rho) (t : M Bool) (e : M Vl) : M Vl := fun ρ => (src ρ).bind fun p => if (vs.all fun v => plainSl p.2[v]?) = true then (lcM vs g t e p.1 [] (wipeR p.2 vs)).bind fun q => some (.fr q.1, backR p.2 q.2 vs) else none
theorem wipeR_len (ρ : Rho) : ∀ vs : List Nat, (wipeR ρ vs).length = ρ.length
  | [] => rfl
  | v :: vs => by unfold wipeR; rw [List.length_set, wipeR_len ρ vs]
theorem backR_len (ρ0 ρ : Rho) : ∀ vs : List Nat, (backR ρ0 ρ vs).length = ρ.length
  | [] => rfl
  | v :: vs => by unfold backR; rw [List.length_set, backR_len ρ0 ρ vs]
theorem wipeR_ne {ρ : Rho} {j : Nat} : ∀ {vs : List Nat}, j ∉ vs → (wipeR ρ vs)[j]? = ρ[j]?
  | [], _ => rfl
  | v :: vs, h => by
    unfold wipeR
    rw [List.getElem?_set_ne (fun z => h (by rw [z]; exact List.mem_cons_self)), wipeR_ne fun z => h (List.mem_cons_of_mem _ z)]
theorem wipeR_mem {ρ : Rho} {j : Nat} {s : Sl} : ∀ {vs : List Nat}, j ∈ vs → (wipeR ρ vs)[j]? = some s → s = .no
  | [], h, _ => nomatch h
  | v :: vs, h, e => by
    unfold wipeR at e
    by_cases q : v = j
    · subst q
      by_cases hl : v < (wipeR ρ vs).length
      · rw [List.getElem?_set_self hl] at e
        exact (Option.some.inj e).symm
      · rw [List.getElem?_eq_none (by rw [List.length_set]; omega)] at e
        cases e
    · rw [List.getElem?_set_ne q] at e
      rcases List.mem_cons.mp h with z | z
      · exact absurd z.symm q
      · exact wipeR_mem z e
theorem wipe_ne {σ : L2.St} {j : Nat} : ∀ {vs : List Nat}, j ∉ vs → (wipe σ vs)[j]? = σ[j]?
  | [], _ => rfl
  | v :: vs, h => by
    unfold wipe
    rw [List.getElem?_set_ne (fun z => h (by rw [z]; exact List.mem_cons_self)), wipe_ne fun z => h (List.mem_cons_of_mem _ z)]
theorem backR_ne {ρ0 ρ : Rho} {j : Nat} : ∀ {vs : List Nat}, j ∉ vs → (backR ρ0 ρ vs)[j]? = ρ[j]?
  | [], _ => rfl
  | v :: vs, h => by
    unfold backR
    rw [List.getElem?_set_ne (fun z => h (by rw [z]; exact List.mem_cons_self)), backR_ne fun z => h (List.mem_cons_of_mem _ z)]
theorem backR_mem {ρ0 ρ : Rho} {j : Nat} {s : Sl} : ∀ {vs : List Nat}, j ∈ vs → (backR ρ0 ρ vs)[j]? = some s → s = (ρ0[j]?).getD .no
  | [], h, _ => nomatch h
  | v :: vs, h, e => by
    unfold backR at e
    by_cases q : v = j
    · subst q
      by_cases hl : v < (backR ρ0 ρ vs).length
      · rw [List.getElem?_set_self hl] at e
        exact (Option.some.inj e).symm
      · rw [List.getElem?_eq_none (by rw [List.length_set]; omega)] at e
        cases e
    · rw [List.getElem?_set_ne q] at e
      rcases List.mem_cons.mp h with z | z
      · exact absurd z.symm q
      · exact backR_mem z e
section
variable {K : Kx} {G : Gd} {ρ ρ1 ρ2 : Rho} {σ : L2.St} {H H1 H2 F F1 F2 : Hp} {vs : List Nat}
/-- own slots forgotten (they hold no list of one's own) -/
theorem wd_wipe {σ' : L2.St} (W : Wd K G ρ σ H F) (hσ : ∀ j, j ∉ vs → σ'[j]? = σ[j]?) (hl : σ'.length = σ.length) (pl : ∀ v ∈ vs, ∀ s, ρ[v]? = some s → (∀ xs, s ≠ .io xs) ∧ ∀ t, s ≠ .iob t) : Wd K G (wipeR ρ vs) σ' H F := by
  have get : ∀ (j : Nat) (s : Sl), (wipeR ρ vs)[j]? = some s → s = .no ∨ (j ∉ vs ∧ ρ[j]? = some s) := fun j s h => by
    by_cases hj : j ∈ vs
    · exact .inl (wipeR_mem hj h)
    · rw [wipeR_ne hj] at h
      exact .inr ⟨hj, h⟩
  have ow : ∀ {j : Nat} {a : Addr}, Ow K H F (wipeR ρ vs) σ' j a → Ow K H F ρ σ j a := fun {j a} o => by
    rcases o with ⟨⟨ys, o1⟩, o2⟩ | ⟨t, u, L, o1, o2, o3, o4⟩
    rotate_left
    · have nj : j ∉ vs := fun z => by
        rcases o1 with o1 | o1
        · cases wipeR_mem z o1
        · cases wipeR_mem z o1
      unfold obS at o1
      rw [wipeR_ne nj] at o1
      exact .inr ⟨t, u, L, o1, by rw [← hσ j nj]; exact o2, o3, o4⟩
    have nj : j ∉ vs := fun z => by
      rcases o1 with o1 | o1 | ⟨zs, o1⟩
      · cases wipeR_mem z o1
      · cases wipeR_mem z o1
      · cases wipeR_mem z o1
    rw [wipeR_ne nj] at o1
    exact .inl ⟨⟨ys, o1⟩, by rw [← hσ j nj]; exact o2⟩
  refine ⟨by rw [wipeR_len, hl]; exact W.len, by rw [hl]; exact W.gl, W.sub, W.f0, W.kp, W.nw, W.it, fun j s h => ?_, fun i j a o1 o2 => W.ap i j a (ow o1) (ow o2), fun j a h => ?_, fun j a h => ?_⟩
  · rcases get j s h with rfl | ⟨nj, h⟩
    · trivial
    · have q := W.sl j s h
      cases s with
      | no => trivial
      | xa b dx f => exact ⟨(hσ j nj).trans q.1, q.2⟩
      | d x => obtain ⟨u, e, r⟩ := q; exact ⟨u, (hσ j nj).trans e, r⟩
      | ow ys => obtain ⟨a, us, e, p⟩ := q; exact ⟨a, us, (hσ j nj).trans e, p⟩
      | io ys => obtain ⟨a, us, e, p⟩ := q; exact ⟨a, us, (hσ j nj).trans e, p⟩
      | dc ys => obtain ⟨a, us, e, p⟩ := q; exact ⟨a, us, (hσ j nj).trans e, p⟩
      | ob ys => obtain ⟨a, us, e, p⟩ := q; exact ⟨a, us, (hσ j nj).trans e, p⟩
      | iob ys => obtain ⟨a, us, e, p⟩ := q; exact ⟨a, us, (hσ j nj).trans e, p⟩
  · obtain ⟨⟨ys, z1⟩, z2⟩ := W.ai j a h
    have nj : j ∉ vs := fun z => (pl j z _ z1).1 ys rfl
    exact ⟨⟨ys, by rw [wipeR_ne nj]; exact z1⟩, by rw [hσ j nj]; exact z2⟩
  · obtain ⟨⟨ys, z1⟩, z2⟩ := W.ao j a h
    have nj : j ∉ vs := fun z => (pl j z _ z1).2 ys rfl
    exact ⟨⟨ys, by rw [wipeR_ne nj]; exact z1⟩, by rw [hσ j nj]; exact z2⟩
theorem plain_of {v : Nat} (h : plainSl ρ[v]? = true) : ∀ s, ρ[v]? = some s → (∀ xs, s ≠ .io xs) ∧ (∀ xs, s ≠ .ow xs) ∧ ∀ xs, s ≠ .dc xs := fun s e => by
  rw [e] at h
  cases s with
  | no => exact ⟨fun _ z => (nomatch z), fun _ z => (nomatch z), fun _ z => (nomatch z)⟩
  | xa b dx f => cases h
  | d x => exact ⟨fun _ z => (nomatch z), fun _ z => (nomatch z), fun _ z => (nomatch z)⟩
  | ow xs => cases h
  | io xs => cases h
  | dc xs => cases h
  | ob xs => cases h
  | iob xs => cases h
theorem plain_of2 {v : Nat} (h : plainSl ρ[v]? = true) : ∀ s, ρ[v]? = some s → (∀ t, s ≠ .ob t) ∧ ∀ t, s ≠ .iob t := fun s e => by
  rw [e] at h
  cases s with
  | no => exact ⟨fun _ z => (nomatch z), fun _ z => (nomatch z)⟩
  | d x => exact ⟨fun _ z => (nomatch z), fun _ z => (nomatch z)⟩
  | _ => cases h
theorem unwipe_ow (pl : ∀ v ∈ vs, plainSl ρ[v]? = true) : ∀ {j : Nat} {a : Addr}, Ow K H2 F2 (backR ρ ρ2 vs) σ j a → Ow K H2 F2 ρ2 (wipe σ vs) j a := fun {j a} o => by
  rcases o with ⟨⟨ys, o1⟩, o2⟩ | ⟨t, u, L, o1, o2, o3, o4⟩
  rotate_left
  · have nj : j ∉ vs := fun z => by
      have pp := pl j z
      rcases o1 with o1 | o1
      · have e := backR_mem z o1
        cases q : ρ[j]? with
        | none => rw [q] at e; cases e
        | some s => rw [q] at e; exact (plain_of2 pp s q).1 t e.symm
      · have e := backR_mem z o1
        cases q : ρ[j]? with
        | none => rw [q] at e; cases e
        | some s => rw [q] at e; exact (plain_of2 pp s q).2 t e.symm
    unfold obS at o1
    rw [backR_ne nj] at o1
    exact .inr ⟨t, u, L, o1, by rw [wipe_ne nj]; exact o2, o3, o4⟩
  have nj : j ∉ vs := fun z => by
    have pp := pl j z
    rcases o1 with o1 | o1 | ⟨zs, o1⟩
    · have e := backR_mem z o1
      cases q : ρ[j]? with
      | none => rw [q] at e; cases e
      | some s => rw [q] at e; exact (plain_of pp s q).2.1 ys e.symm
    · have e := backR_mem z o1
      cases q : ρ[j]? with
      | none => rw [q] at e; cases e
      | some s => rw [q] at e; exact (plain_of pp s q).1 ys e.symm
    · have e := backR_mem z o1
      cases q : ρ[j]? with
      | none => rw [q] at e; cases e
      | some s => rw [q] at e; exact (plain_of pp s q).2.2 zs e.symm
  rw [backR_ne nj] at o1
  exact .inl ⟨⟨ys, o1⟩, by rw [wipe_ne nj]; exact o2⟩
/-- back to the def's own slots -/
theorem unwipe (W : Wd K G ρ σ H F) (pl : ∀ v ∈ vs, plainSl ρ[v]? = true) (s : Ste K G (wipeR ρ vs) (wipe σ vs) H F ρ2 H2 F2) : Ste K G ρ σ H F (backR ρ ρ2 vs) H2 F2 := by
  have ow1 : ∀ {j : Nat} {a : Addr}, Ow K H F ρ σ j a → Ow K H F (wipeR ρ vs) (wipe σ vs) j a := fun {j a} o => by
    rcases o with ⟨⟨ys, o1⟩, o2⟩ | ⟨t, u, L, o1, o2, o3, o4⟩
    rotate_left
    · have nj : j ∉ vs := fun z => by
        rcases o1 with o1 | o1
        · exact (plain_of2 (pl j z) _ o1).1 t rfl
        · exact (plain_of2 (pl j z) _ o1).2 t rfl
      unfold obS at o1
      exact .inr ⟨t, u, L, by unfold obS; rw [wipeR_ne nj]; exact o1, by rw [wipe_ne nj]; exact o2, o3, o4⟩
    have nj : j ∉ vs := fun z => by
      rcases o1 with o1 | o1 | ⟨zs, o1⟩
      · exact (plain_of (pl j z) _ o1).2.1 ys rfl
      · exact (plain_of (pl j z) _ o1).1 ys rfl
      · exact (plain_of (pl j z) _ o1).2.2 zs rfl
    exact .inl ⟨⟨ys, by rw [wipeR_ne nj]; exact o1⟩, by rw [wipe_ne nj]; exact o2⟩
  have ow1' : ∀ {j : Nat} {a : Addr}, Ow K H F (wipeR ρ vs) (wipe σ vs) j a → Ow K H F ρ σ j a := fun {j a} o => by
    rcases o with ⟨⟨ys, o1⟩, o2⟩ | ⟨t, u, L, o1, o2, o3, o4⟩
    rotate_left
    · have nj : j ∉ vs := fun z => by
        rcases o1 with o1 | o1
        · cases wipeR_mem z o1
        · cases wipeR_mem z o1
      unfold obS at o1
      rw [wipeR_ne nj] at o1
      rw [wipe_ne nj] at o2
      exact .inr ⟨t, u, L, o1, o2, o3, o4⟩
    have nj : j ∉ vs := fun z => by
      rcases o1 with o1 | o1 | ⟨zs, o1⟩
      · cases wipeR_mem z o1
      · cases wipeR_mem z o1
      · cases wipeR_mem z o1
    rw [wipeR_ne nj] at o1
    rw [wipe_ne nj] at o2
    exact .inl ⟨⟨ys, o1⟩, o2⟩
  have ow2 : ∀ {j : Nat} {a : Addr}, Ow K H2 F2 (backR ρ ρ2 vs) σ j a → Ow K H2 F2 ρ2 (wipe σ vs) j a := fun o => unwipe_ow pl o
  have W2 := s.wd
  refine ⟨⟨by rw [backR_len, W2.len, wipe_length], W.gl, W2.sub, W2.f0, W2.kp, W2.nw, W2.it, fun j s' h => ?_, fun i j a o1 o2 => W2.ap i j a (ow2 o1) (ow2 o2), fun j a h => ?_, fun j a h => ?_⟩, s.ff, fun b o h n => s.kk b o h fun i z => n i (ow1' z), fun b h => ?_, fun i a o => (s.oo i a (ow2 o)).imp_left ow1', s.tr⟩
  · by_cases hj : j ∈ vs
    · have e := backR_mem hj h
      have pp := pl j hj
      cases q : ρ[j]? with
      | none => rw [q] at e; rw [e]; trivial
      | some s0 =>
        rw [q] at e
        have e : s' = s0 := e
        subst e
        have old := W.sl j s' q
        cases s' with
        | no => trivial
        | xa b dx f => exact ⟨old.1, old.2.mono s.ff⟩
        | d x => obtain ⟨u, e, r⟩ := old; exact ⟨u, e, r.mono s.ff⟩
        | ow xs => exact absurd rfl ((plain_of pp _ q).2.1 xs)
        | io xs => exact absurd rfl ((plain_of pp _ q).1 xs)
        | dc xs => exact absurd rfl ((plain_of pp _ q).2.2 xs)
        | ob xs => exact absurd rfl ((plain_of2 pp _ q).1 xs)
        | iob xs => exact absurd rfl ((plain_of2 pp _ q).2 xs)
    · rw [backR_ne hj] at h
      have q := W2.sl j s' h
      have eσ : (wipe σ vs)[j]? = σ[j]? := wipe_ne hj
      cases s' with
      | no => trivial
      | xa b dx f => exact ⟨eσ.symm.trans q.1, q.2⟩
      | d x => obtain ⟨u, e, r⟩ := q; exact ⟨u, eσ.symm.trans e, r⟩
      | ow ys => obtain ⟨a, us, e, p⟩ := q; exact ⟨a, us, eσ.symm.trans e, p⟩
      | io ys => obtain ⟨a, us, e, p⟩ := q; exact ⟨a, us, eσ.symm.trans e, p⟩
      | dc ys => obtain ⟨a, us, e, p⟩ := q; exact ⟨a, us, eσ.symm.trans e, p⟩
      | ob ys => obtain ⟨a, us, e, p⟩ := q; exact ⟨a, us, eσ.symm.trans e, p⟩
      | iob ys => obtain ⟨a, us, e, p⟩ := q; exact ⟨a, us, eσ.symm.trans e, p⟩
  · obtain ⟨⟨ys, z1⟩, z2⟩ := W.ai j a h
    have nj : j ∉ vs := fun z => (plain_of (pl j z) _ z1).1 ys rfl
    obtain ⟨⟨ws, y1⟩, _⟩ := W2.ai j a h
    exact ⟨⟨ws, by rw [backR_ne nj]; exact y1⟩, z2⟩
  · obtain ⟨⟨ys, z1⟩, z2⟩ := W.ao j a h
    have nj : j ∉ vs := fun z => (plain_of2 (pl j z) _ z1).2 ys rfl
    obtain ⟨⟨ws, y1⟩, _⟩ := W2.ao j a h
    exact ⟨⟨ws, by rw [backR_ne nj]; exact y1⟩, z2⟩
  · rcases s.nf b h with q | q | ⟨i, q⟩
    · exact .inl q
    · exact .inr (.inl q)
    · exact .inr (.inr ⟨i, ow1' q⟩)
theorem Wd.upd_ow {a : Addr} {o : HO} (W2 : Wd K G ρ2 σ H2 F2) (h3 : ∀ i, ¬ Ow K H2 F2 ρ2 σ i a) {i : Nat} {b : Addr} (h : Ow K (upd H2 a o) F2 ρ2 σ i b) : Ow K H2 F2 ρ2 σ i b := W2.ow_back (fun c x oc hc => by
  have nc : c ≠ a := fun z => h3 i (z ▸ oc)
  rw [upd_ne nc]; exact hc) h
/-- a new thing that no slot owns is changed -/
theorem ste_upd {a : Addr} {o : HO} (W : Wd K G ρ σ H F) (s : Ste K G ρ σ H F ρ2 H2 F2) (h1 : H a = none) (h2 : F2 a = none) (h3 : ∀ i, ¬ Ow K H2 F2 ρ2 σ i a) : Ste K G ρ σ H F ρ2 (upd H2 a o) F2 := by
  have W2 := s.wd
  have nm : ¬ (a ∈ G.ia.map (·.2) ∨ a ∈ G.oa) := fun z => W.it a z h1
  have bk : ∀ {i b}, Ow K (upd H2 a o) F2 ρ2 σ i b → Ow K H2 F2 ρ2 σ i b := fun h => W2.upd_ow h3 h
  refine ⟨⟨W2.len, W2.gl, fun b x e => ?_, W2.f0, fun b x e q q2 => ?_, W2.nw, fun b z => ?_, fun j s' h => ?_, fun i j b o1 o2 => W2.ap i j b (bk o1) (bk o2), W2.ai, W2.ao⟩, s.ff, fun b x e n => ?_, s.nf, fun i b z => s.oo i b (bk z), fun b z => ?_⟩
  · have nb : b ≠ a := fun z => by rw [z, h2] at e; cases e
    rw [upd_ne nb]; exact W2.sub _ _ e
  · have nb : b ≠ a := fun z => by
      have := W.h0 h1
      rw [← z, e] at this; cases this
    rw [upd_ne nb]; exact W2.kp b x e q q2
  · have nb : b ≠ a := fun y => nm (by rw [← y]; exact z)
    rw [upd_ne nb]; exact W2.it b z
  · have q := W2.sl j s' h
    cases s' with
    | no => trivial
    | xa b dx f => exact q
    | d x => exact q
    | ow ys =>
      obtain ⟨c, us, e, p1, p2⟩ := q
      have nc : c ≠ a := fun z => h3 j (.inl ⟨⟨ys, .inl h⟩, by rw [← z]; exact e⟩)
      exact ⟨c, us, e, by rw [upd_ne nc]; exact p1, p2⟩
    | io ys =>
      obtain ⟨c, us, e, p1, p2⟩ := q
      have nc : c ≠ a := fun z => h3 j (.inl ⟨⟨ys, .inr (.inl h)⟩, by rw [← z]; exact e⟩)
      exact ⟨c, us, e, by rw [upd_ne nc]; exact p1, p2⟩
    | dc ys =>
      obtain ⟨c, us, e, p1, p2⟩ := q
      have nc : c ≠ a := fun z => h3 j (.inl ⟨⟨[], .inr (.inr ⟨ys, h⟩)⟩, by rw [← z]; exact e⟩)
      exact ⟨c, us, e, by rw [upd_ne nc]; exact p1, p2⟩
    | ob t =>
      obtain ⟨u, L, e, r, p⟩ := q
      exact ⟨u, L, e, r.frame (Same.refl _) fun b hb x hx => by
        have nb : b ≠ a := fun z => h3 j (.inr ⟨t, u, L, .inl h, e, r, by rw [← z]; exact hb⟩)
        rw [upd_ne nb]; exact hx, p⟩
    | iob t =>
      obtain ⟨u, L, e, r, p⟩ := q
      exact ⟨u, L, e, r.frame (Same.refl _) fun b hb x hx => by
        have nb : b ≠ a := fun z => h3 j (.inr ⟨t, u, L, .inr h, e, r, by rw [← z]; exact hb⟩)
        rw [upd_ne nb]; exact hx, p⟩
  · have nb : b ≠ a := fun z => by rw [z, h1] at e; cases e
    rw [upd_ne nb]; exact s.kk b x e n
  · by_cases nb : b = a
    · rw [nb, upd_same]; simp
    · rw [upd_ne nb]; exact s.tr b z
end
noncomputable abbrev STs (X : Cx) (es : List Expr) (m : M Bool) : Prop := PTs X es (tMT X.kx m)
noncomputable def tYesM : M Bool := fun ρ => some (true, ρ)
theorem sts_nil {X : Cx} : STs X [] tYesM := ⟨fun pins s σ H Q I h => (pts_nil (X := X)).run pins s σ H Q I (by
  obtain ⟨G, ρ, F, b, ρ', W, hm, q⟩ := h
  cases hm
  exact q H F (Ste.refl W))⟩
theorem sts_one {X : Cx} {c : Expr} {m : M Bool} (h : ST X c m) : STs X [c] m := pts_one h
/-- a target changes its own slots alone, and lays data there -/
noncomputable def GOk (is : List Nat) (g : D → Rho → Option Rho) : Prop := ∀ x ρ ρ', g x ρ = some ρ' → (∀ j : Nat, j ∉ is → ρ'[j]? = ρ[j]?) ∧ ∀ (j : Nat) s, ρ'[j]? = some s → ρ[j]? = some s ∨ ∃ d, s = .d d
theorem gok_name (i : Nat) : GOk [i] (gN i) := fun x ρ ρ' h => by
  unfold gN asg at h
  split at h
  · cases h
  · cases h
  · cases h
  · rename_i s0 nio niob h0
    have hi : i < ρ.length := (List.getElem?_eq_some_iff.mp h0).1
    cases h
    refine ⟨fun j hj => List.getElem?_set_ne (fun z => hj (by rw [z]; exact List.mem_cons_self)), fun j s e => ?_⟩
    by_cases q : i = j
    · subst q
      rw [List.getElem?_set_self hi] at e
      cases e
      exact .inr ⟨x, rfl⟩
    · rw [List.getElem?_set_ne q] at e
      exact .inl e
section
variable {K : Kx} {src : M (List D)} {is vs : List Nat} {g : D → Rho → Option Rho} {t : M Bool} {e : M Vl}
theorem wipe_of_mod {σ σ2 : L2.St} (sub : ∀ i ∈ is, i ∈ vs) (m : Mod' is (wipe σ vs) σ2) : wipe σ2 vs = wipe σ vs := by
  apply List.ext_getElem?
  intro j
  by_cases hj : j ∈ vs
  · have f : ∀ (τ : L2.St), j < τ.length → (wipe τ vs)[j]? = some none := fun τ hl => by
      have hl2 : j < (wipe τ vs).length := by rw [wipe_length]; exact hl
      rw [List.getElem?_eq_getElem hl2]
      congr 1
      cases q : (wipe τ vs)[j] with
      | none => rfl
      | some v =>
        have z : (wipe τ vs)[j]? = some (some v) := by rw [List.getElem?_eq_getElem hl2, q]
        exact absurd hj (wipe_some z).2
    have hlen : σ2.length = σ.length := by rw [m.1, wipe_length]
    by_cases hl : j < σ.length
    · rw [f σ hl, f σ2 (by rw [hlen]; exact hl)]
    · rw [List.getElem?_eq_none (by rw [wipe_length, hlen]; omega), List.getElem?_eq_none (by rw [wipe_length]; omega)]
  · rw [wipe_ne hj, m.2 j fun z => hj (sub j z)]
theorem tlc_of (sub : ∀ i ∈ is, i ∈ vs) (gok : GOk is g) {σ : L2.St} {H : Hp} {Q : VK} (h : tM K (eLc vs src g t e) σ H Q) : tLc (tI K src) (tG K is g) (tMT K t) (tM K e) vs σ H Q := by
  obtain ⟨G, ρ, F, r, ρ', W, hm, q⟩ := h
  unfold eLc at hm
  obtain ⟨⟨xs, ρ1⟩, e1, hm⟩ := Option.bind_eq_some_iff.mp hm
  split at hm
  · rename_i hpl
    have pl : ∀ v ∈ vs, plainSl ρ1[v]? = true := fun v hv => List.all_eq_true.mp hpl v hv
    obtain ⟨⟨accE, ρE⟩, e2, hm⟩ := Option.bind_eq_some_iff.mp hm
    cases hm
    refine ⟨G, ρ, F, xs, ρ1, W, e1, fun J H1 F1 s1 jr D hD => ?_⟩
    have W1 := s1.wd
    have Ww : Wd K G (wipeR ρ1 vs) (wipe σ vs) H1 F1 := wd_wipe W1 (fun j hj => wipe_ne hj) (wipe_length σ vs) fun v hv s es => ⟨(plain_of (pl v hv) s es).1, (plain_of2 (pl v hv) s es).2⟩
    have fD : F1 D = none := W1.sub.free hD
    have A : Alc F1 H1 F1 (upd H1 D (.lst [])) := ⟨Same.refl _, W1.sub.trans (same_upd hD), same_upd hD, fun _ h => .inl h⟩
    have s0 := Ww.alc A
    have now0 : ∀ i, ¬ Ow K (upd H1 D (.lst [])) F1 (wipeR ρ1 vs) (wipe σ vs) i D := Ww.not_ow hD (same_upd hD)
    refine ⟨fun i m H2 => m = xs.length - i ∧ i ≤ xs.length ∧ ∃ ρi Fi acc us, Ste K G (wipeR ρ1 vs) (wipe σ vs) H1 F1 ρi H2 Fi ∧ H2 D = some (.lst us) ∧ Reps K Fi us acc ∧ Fi D = none ∧ (∀ i, ¬ Ow K H2 Fi ρi (wipe σ vs) i D) ∧ (∀ v ∈ vs, ∀ s, ρi[v]? = some s → s = .no) ∧ lcM vs g t e (xs.drop i) acc ρi = some (accE, ρE),
      ⟨xs.length, by simp, Nat.zero_le _, wipeR ρ1 vs, F1, [], [], s0, upd_same, .nil, fD, now0, fun v hv s es => wipeR_mem hv es, e2⟩, ?_⟩
    rintro i m H2 ⟨rfl, hi, ρi, Fi, acc, us, si, hDi, ri, fi, oi, pi, hf⟩
    have Wi := si.wd
    by_cases hlt : i < xs.length
    · refine .inr ⟨jr.go i H2 (si.ff.trans Wi.sub) hlt, fun H' => ∃ ρi Fi acc us, Ste K G (wipeR ρ1 vs) (wipe σ vs) H1 F1 ρi H' Fi ∧ H' D = some (.lst us) ∧ Reps K Fi us acc ∧ Fi D = none ∧ (∀ i, ¬ Ow K H' Fi ρi (wipe σ vs) i D) ∧ (∀ v ∈ vs, ∀ s, ρi[v]? = some s → s = .no) ∧ lcM vs g t e (xs.drop (i + 1)) acc ρi = some (accE, ρE),
        fun H' ⟨ρj, Fj, acj, uj, a1, a2, a3, a4, a5, a6, a7⟩ => ⟨xs.length - (i + 1), by omega, rfl, hlt, ρj, Fj, acj, uj, a1, a2, a3, a4, a5, a6, a7⟩, fun x H' y => ?_⟩
      obtain ⟨F3, d, A3, hd, Rd⟩ := jr.yl i H2 Fi x H' hlt si.ff Wi.sub y
      have s3 := Wi.alc A3
      have ed : xs[i] = d := by
        rw [List.getElem?_eq_getElem hlt] at hd
        exact Option.some.inj hd
      rw [List.drop_eq_getElem_cons hlt, ed] at hf
      unfold lcM at hf
      obtain ⟨ρ4, e4, hf⟩ := Option.bind_eq_some_iff.mp hf
      obtain ⟨⟨b5, ρ5⟩, e5, hf⟩ := Option.bind_eq_some_iff.mp hf
      have h3D : H' D = some (.lst us) := s3.kk D _ hDi oi
      have f3D : F3 D = none := by
        cases z : F3 D with
        | none => rfl
        | some o =>
          rcases s3.nf D (by rw [z]; simp) with q | q | ⟨k, q⟩
          · exact absurd fi q
          · rw [hDi] at q; cases q
          · exact absurd q (oi k)
      refine ⟨G, ρi, F3, d, ρ4, s3.wd, Rd, e4, fun σ4 W4 m4 => ⟨wipe_of_mod sub m4, ?_⟩⟩
      obtain ⟨g1, g2⟩ := gok _ _ _ e4
      -- slots of one's own before and behind the target
      have ow4' : ∀ {j : Nat} {a : Addr}, Ow K H' F3 ρ4 σ4 j a → Ow K H' F3 ρi (wipe σ vs) j a := fun {j a} o => by
        rcases o with ⟨⟨ys, o1⟩, o2⟩ | ⟨t, u, L, o1, o2, o3, o4⟩
        rotate_left
        · have nj : j ∉ vs := fun z => by
            rcases o1 with o1 | o1
            · rcases g2 j _ o1 with q | ⟨_, q⟩
              · cases pi j z _ q
              · cases q
            · rcases g2 j _ o1 with q | ⟨_, q⟩
              · cases pi j z _ q
              · cases q
          unfold obS at o1
          rw [g1 j fun z => nj (sub j z)] at o1
          exact .inr ⟨t, u, L, o1, by rw [← m4.2 j fun z => nj (sub j z)]; exact o2, o3, o4⟩
        have nj : j ∉ vs := fun z => by
          rcases o1 with o1 | o1 | ⟨zs, o1⟩
          · rcases g2 j _ o1 with q | ⟨_, q⟩
            · cases pi j z _ q
            · cases q
          · rcases g2 j _ o1 with q | ⟨_, q⟩
            · cases pi j z _ q
            · cases q
          · rcases g2 j _ o1 with q | ⟨_, q⟩
            · cases pi j z _ q
            · cases q
        rw [g1 j fun z => nj (sub j z)] at o1
        exact .inl ⟨⟨ys, o1⟩, by rw [← m4.2 j fun z => nj (sub j z)]; exact o2⟩
      have ow4 : ∀ {j : Nat} {a : Addr}, Ow K H' F3 ρ4 σ4 j a → Ow K H2 Fi ρi (wipe σ vs) j a ∨ H2 a = none := fun o => s3.oo _ _ (ow4' o)
      have turn : ∀ {ρ6 : Rho} {H6 F6 : Hp}, Ste K G ρ4 σ4 H' F3 ρ6 H6 F6 → Ste K G (wipeR ρ1 vs) (wipe σ vs) H1 F1 (wipeR ρ6 vs) H6 F6 ∧ H6 D = some (.lst us) ∧ F6 D = none ∧ (∀ i, ¬ Ow K H6 F6 (wipeR ρ6 vs) (wipe σ vs) i D) := fun {ρ6 H6 F6} s6 => by
        have ow6 : ∀ {j : Nat} {a : Addr}, Ow K H6 F6 (wipeR ρ6 vs) (wipe σ vs) j a → Ow K H2 Fi ρi (wipe σ vs) j a ∨ H2 a = none := fun {j a} o => by
          have back2 : H' a = none → H2 a = none := fun z => s3.back a z
          rcases o with ⟨⟨ys, o1⟩, o2⟩ | ⟨t, u, L, o1, o2, o3, o4⟩
          rotate_left
          · have nj : j ∉ vs := fun z => by
              rcases o1 with o1 | o1
              · cases wipeR_mem z o1
              · cases wipeR_mem z o1
            unfold obS at o1
            rw [wipeR_ne nj] at o1
            exact (s6.oo j a (.inr ⟨t, u, L, o1, by rw [m4.2 j fun z => nj (sub j z)]; exact o2, o3, o4⟩)).elim ow4 fun z => .inr (back2 z)
          have nj : j ∉ vs := fun z => by
            rcases o1 with o1 | o1 | ⟨zs, o1⟩
            · cases wipeR_mem z o1
            · cases wipeR_mem z o1
            · cases wipeR_mem z o1
          rw [wipeR_ne nj] at o1
          exact (s6.oo j a (.inl ⟨⟨ys, o1⟩, by rw [m4.2 j fun z => nj (sub j z)]; exact o2⟩)).elim ow4 fun z => .inr (back2 z)
        have W6 : Wd K G (wipeR ρ6 vs) (wipe σ vs) H6 F6 := wd_wipe s6.wd (fun j hj => (m4.2 j fun z => hj (sub j z)).symm) m4.1.symm fun v hv s es => ⟨(fun xs z => by
          subst z
          obtain ⟨a, _, _, _, _, _, e5⟩ := s6.wd.sl v _ es
          obtain ⟨⟨ys, y1⟩, _⟩ := Wi.ai v a e5
          cases pi v hv _ y1), (fun t z => by
          subst z
          obtain ⟨_, _, _, _, ⟨_, a, e5⟩, _⟩ := s6.wd.sl v _ es
          obtain ⟨⟨ys, y1⟩, _⟩ := Wi.ao v a e5
          cases pi v hv _ y1)⟩
        have d4 : ∀ i, ¬ Ow K H' F3 ρ4 σ4 i D := fun k o => (ow4 o).elim (oi k) fun z => (by rw [hDi] at z; cases z)
        refine ⟨⟨W6, (si.ff.trans A3.ff).trans s6.ff, fun b o hb n => ?_, fun b hb => ?_, fun k a o => (ow6 o).elim (si.oo k a) fun z => .inr (si.back a z), fun b hb => s6.tr b (s3.tr b (si.tr b hb))⟩, s6.kk D _ h3D d4, ?_, fun k o => (ow6 o).elim (oi k) fun z => (by rw [hDi] at z; cases z)⟩
        · have n2 : ∀ k, ¬ Ow K H2 Fi ρi (wipe σ vs) k b := fun k z => (si.oo k b z).elim (n k) fun y => (by rw [hb] at y; cases y)
          exact s6.kk b o (s3.kk b o (si.kk b o hb n) n2) fun k z => (ow4 z).elim (n2 k) fun y => (by rw [si.back b y] at hb; cases hb)
        · have fromF3 : F3 b ≠ none → F1 b ≠ none ∨ H1 b = none ∨ ∃ i, Ow K H1 F1 (wipeR ρ1 vs) (wipe σ vs) i b := fun z => by
            rcases s3.nf b z with q | q | ⟨k, q⟩
            · exact si.nf b q
            · exact .inr (.inl (si.back b q))
            · exact (si.oo k b q).elim (fun y => .inr (.inr ⟨k, y⟩)) fun y => .inr (.inl y)
          rcases s6.nf b hb with q | q | ⟨k, q⟩
          · exact fromF3 q
          · exact .inr (.inl (si.back b (s3.back b q)))
          · exact (ow4 q).elim (fun z => (si.oo k b z).elim (fun y => .inr (.inr ⟨k, y⟩)) fun y => .inr (.inl y)) fun z => .inr (.inl (si.back b z))
        · cases z : F6 D with
          | none => rfl
          | some o =>
            rcases s6.nf D (by rw [z]; simp) with q | q | ⟨k, q⟩
            · exact absurd f3D q
            · rw [h3D] at q; cases q
            · exact absurd q (d4 k)
      refine ⟨G, ρ4, F3, b5, ρ5, W4, e5, fun H5 F5 s5 => ?_⟩
      cases b5 with
      | false =>
        simp only [Bool.false_eq_true, if_false] at hf ⊢
        obtain ⟨t1, t2, t3, t4⟩ := turn s5
        exact ⟨wipeR ρ5 vs, F5, acc, us, t1, t2, ri.mono (A3.ff.trans s5.ff), t3, t4, fun v hv s es => wipeR_mem hv es, hf⟩
      | true =>
        simp only [if_true] at hf ⊢
        obtain ⟨⟨r6, ρ6⟩, e6, hf⟩ := Option.bind_eq_some_iff.mp hf
        obtain ⟨⟨x7, ρ7⟩, e7, hf⟩ := Option.bind_eq_some_iff.mp hf
        split at hf
        · rename_i hlen
          refine tm_use s5.wd e6 fun v6 H6 F6 s6 R6 => ?_
          obtain ⟨F7, s7, R7⟩ := frz_ok s6.wd R6 e7
          have s57 := (s5.trans s6).trans s7
          obtain ⟨t1, t2, t3, t4⟩ := turn s57
          have ra : Reps K F7 us acc := ri.mono (A3.ff.trans s57.ff)
          refine ⟨us, t2, lim_lt (by rw [ra.len]; exact hlen), wipeR ρ7 vs, F7, acc ++ [x7], us ++ [v6], ste_upd Ww t1 hD t3 t4, upd_same, ra.append (.cons R7 .nil), t3, (fun i o => t4 i (t1.wd.upd_ow t4 o)), fun v hv s es => wipeR_mem hv es, hf⟩
        · cases hf
    · have e : i = xs.length := by omega
      subst e
      rw [List.drop_length] at hf
      cases hf
      refine .inl ⟨jr.st _ H2 (si.ff.trans Wi.sub) (Nat.le_refl _), ?_⟩
      have sU := unwipe W1 pl si
      exact q _ H2 Fi (s1.trans sU) ⟨D, us, rfl, hDi, ri, fi, s1.back D hD, fun k o => oi k (unwipe_ow pl o)⟩
  · cases hm
end
section
variable {X : Cx} {elt tg iter : Expr} {ifs : List Expr} {scope : Scope} {own : List (Str × Nat)} {pos : Pos} {src : M (List D)} {is : List Nat} {g : D → Rho → Option Rho} {t : M Bool} {e : M Vl}
theorem se_lc (hc : X.calm = true) (hN : X.N.Nodup) (hi : SI X tg iter src) (ok : BlkOk X.N X.env.scope scope own) (sub : ∀ i ∈ is, i ∈ own.map (·.2)) (gok : GOk is g)
    (hg : ∀ (s : Shared) (H : Hp) (C : Addr) (cl : List (Str × Addr)) (fp : List Addr), SG (X.blk s H scope (compEnvC scope cl C X.env) fp) tg is g) (ht : ∀ (s : Shared) (H : Hp) (C : Addr) (cl : List (Str × Addr)) (fp : List Addr), STs (X.blk s H scope (compEnvC scope cl C X.env) fp) ifs t)
    (he : ∀ (s : Shared) (H : Hp) (C : Addr) (cl : List (Str × Addr)) (fp : List Addr), SE (X.blk s H scope (compEnvC scope cl C X.env) fp) elt e) (hs : ∀ x, foldedSetIterable iter X.env x = pure x := by intro _; rfl) :
    SE X (.ListComp elt [⟨tg, iter, ifs, 0⟩] scope pos) (eLc (own.map (·.2)) src g t e) :=
  pe_weak (pe_lc hc hN hi ok hg ht he hs) fun _ _ _ h => tlc_of sub gok h
theorem ss_setlc {i : Nat} {y : Str} {py : Pos} {spos : Pos} (hc : X.calm = true) (hN : X.N.Nodup) (hy : X.N[i]? = some y) (hyl : X.env.scope.names.lookup y = some .local)
    (hsw : swapsWith (.ListComp elt [⟨tg, iter, ifs, 0⟩] scope pos) (some (.Name y py)) spos.line X.env = pure true) (hi : SI X tg iter src) (ok : BlkOk X.N X.env.scope scope own) (sub : ∀ i ∈ is, i ∈ own.map (·.2)) (gok : GOk is g)
    (hg : ∀ (s : Shared) (H : Hp) (C : Addr) (cl : List (Str × Addr)) (fp : List Addr), SG (X.blk s H scope (compEnvC scope cl C X.env) fp) tg is g) (ht : ∀ (s : Shared) (H : Hp) (C : Addr) (cl : List (Str × Addr)) (fp : List Addr), STs (X.blk s H scope (compEnvC scope cl C X.env) fp) ifs t)
    (he : ∀ (s : Shared) (H : Hp) (C : Addr) (cl : List (Str × Addr)) (fp : List Addr), SE (X.blk s H scope (compEnvC scope cl C X.env) fp) elt e) (hs : ∀ x, foldedSetIterable iter X.env x = pure x := by intro _; rfl) :
    SSW X Wx (.Assign [.Name y py] (.ListComp elt [⟨tg, iter, ifs, 0⟩] scope pos) spos) (sAsg i (eLc (own.map (·.2)) src g t e)) :=
  ps_weak (ps_setLc hc hN hy hyl hsw hi ok hg ht he hs) fun D σ H h => by
    obtain ⟨G, ρ, F, r, ρ', W, hm, q⟩ := sasg_of h
    exact tlc_of sub gok ⟨G, ρ, F, r, ρ', W, hm, q⟩
end
end Sw
namespace Sw
open PySem PySem.Spec PyProof.Rows L2
theorem vw_int {K : Kx} {H F : Hp} {v : V} {i : Int} (h : Vw K H F v (.int i)) : v = .int i := by
  cases (show Rep K F v (.int i) from h); rfl
theorem vw_bl {K : Kx} {H F : Hp} {v : V} {i : Bool} (h : Vw K H F v (.bl i)) : v = .bl i := by
  cases (show Rep K F v (.bl i) from h); rfl
theorem vw_str {K : Kx} {H F : Hp} {v : V} {s : List Nat} (h : Vw K H F v (.str s)) : v = .str ⟨s.toArray⟩ := by
  cases (show Rep K F v (.str s) from h); rfl
theorem vw_non {K : Kx} {H F : Hp} {v : V} (h : Vw K H F v .non) : v = .non := by
  cases (show Rep K F v .non from h); rfl
section
variable {K : Kx}
noncomputable def fInt (g : Int → Int → D) : D → D → Option D
  | .int i, .int j => some (g i j)
  | _, _ => none
noncomputable def fIntC (C : Int → Int → Bool) (g : Int → Int → D) : D → D → Option D
  | .int i, .int j => if C i j = true then some (g i j) else none
  | _, _ => none
theorem os_int {g : Int → Int → D} {h : Int → Int → V} (r : ∀ i j F, Rep K F (h i j) (g i j)) : OpS K (rI0 h) (fInt g) := by
  intro H F v u x y z s hx hy e Q q
  unfold fInt at e
  split at e
  · cases e
    rw [vw_int hx, vw_int hy]
    exact ⟨_, _, rfl, rfl, q _ H F (Alc.refl s) (r _ _ F)⟩
  · cases e
theorem os_intC {C : Int → Int → Prop} {c : Int → Int → Bool} {g : Int → Int → D} {h : Int → Int → V} (hc : ∀ i j, c i j = true → C i j) (r : ∀ i j F, Rep K F (h i j) (g i j)) : OpS K (rI C h) (fIntC c g) := by
  intro H F v u x y z s hx hy e Q q
  unfold fIntC at e
  split at e
  · split at e
    · rename_i hC
      cases e
      rw [vw_int hx, vw_int hy]
      exact ⟨_, _, rfl, rfl, hc _ _ hC, q _ H F (Alc.refl s) (r _ _ F)⟩
    · cases e
  · cases e
noncomputable def fCatS : D → D → Option D
  | .str a, .str b => if a.length + b.length ≤ lim then some (.str (a ++ b)) else none
  | _, _ => none
theorem os_catS : OpS K (fun x y H Q => ∃ i j : Str, x = .str i ∧ y = .str j ∧ i.length + j.length ≤ sizeLine ∧ Q (.str (i ++ j)) H) fCatS := by
  intro H F v u x y z s hx hy e Q q
  unfold fCatS at e
  split at e
  · split at e
    · rename_i hl
      cases e
      rw [vw_str hx, vw_str hy]
      refine ⟨_, _, rfl, rfl, lim_of (by simpa [Str.length] using hl), q _ H F (Alc.refl s) ?_⟩
      have e : ∀ a b : List Nat, ((⟨a.toArray⟩ : Str) ++ ⟨b.toArray⟩) = ⟨(a ++ b).toArray⟩ := fun a b => by
        show (⟨a.toArray ++ b.toArray⟩ : Str) = _
        simp
      rw [e]
      exact .str _
    · cases e
  · cases e
noncomputable def fCatL : D → D → Option D
  | .lst a, .lst b => if a.length + b.length ≤ lim then some (.lst (a ++ b)) else none
  | _, _ => none
theorem os_catL : OpS K rCat fCatL := by
  intro H F v u x y z s hx hy e Q q
  unfold fCatL at e
  split at e
  · split at e
    · rename_i hl
      cases e
      obtain ⟨a, vs, rfl, h1, h2⟩ := hx
      obtain ⟨b, us, rfl, h3, h4⟩ := hy
      refine ⟨a, b, vs, us, rfl, rfl, h1, h3, lim_of (by rw [h2.len, h4.len]; exact hl), fun p hp => ?_⟩
      have A := Alc.new (o := HO.lst (vs ++ us)) s hp
      exact q _ _ _ A (.lst upd_same ((h2.append h4).mono A.ff))
    · cases e
  · cases e
noncomputable def fCatT : D → D → Option D
  | .tup a, .tup b => if a.length + b.length ≤ lim then some (.tup (a ++ b)) else none
  | _, _ => none
theorem os_catT : OpS K (rCatA K) fCatT := by
  intro H F v u x y z s hx hy e Q q
  unfold fCatT at e
  split at e
  · split at e
    · rename_i hl
      cases e
      cases (show Rep K F v (.tup _) from hx) with
      | @tup a vs _ h1 h2 =>
        cases (show Rep K F u (.tup _) from hy) with
        | @tup b us _ h3 h4 =>
          refine ⟨a, b, vs, us, rfl, rfl, same_t s h1, same_t s h3, lim_of (by rw [h2.len, h4.len]; exact hl), fun z => ?_, fun _ z => ?_, fun _ _ p hp => ?_⟩
          · subst z
            cases h2
            exact q _ H F (Alc.refl s) (.tup h3 h4)
          · subst z
            cases h4
            rw [List.append_nil] at q
            exact q _ H F (Alc.refl s) (.tup h1 h2)
          · have A := Alc.new (o := HO.tup (vs ++ us)) s hp
            exact q _ _ _ A (.tup (SqT.of upd_same) ((h2.append h4).mono A.ff))
    · cases e
  · cases e
noncomputable def eqS : D → D → Option Bool
  | .int i, .int j => some (decide (i = j))
  | .str i, .str j => some (decide (i = j))
  | .bl i, .bl j => some (decide (i = j))
  | .non, .non => some true
  | .non, .int _ => some false
  | .non, .str _ => some false
  | .non, .bl _ => some false
  | .int _, .non => some false
  | .str _, .non => some false
  | .bl _, .non => some false
  | .int _, .str _ => some false
  | .str _, .int _ => some false
  | .bl _, .str _ => some false
  | .str _, .bl _ => some false
  | _, _ => none
noncomputable def fEqS : D → D → Option D := fun x y => (eqS x y).bind fun b => some (.bl b)
noncomputable def fNeS : D → D → Option D := fun x y => (eqS x y).bind fun b => some (.bl (!b))
theorem eqS_ok {H F : Hp} {v u : V} {x y : D} {b : Bool} (hx : Vw K H F v x) (hy : Vw K H F u y) (e : eqS x y = some b) : scal v u = true ∧ decide (v = u) = b := by
  unfold eqS at e
  split at e <;> (first | cases e | skip)
  · rw [vw_int hx, vw_int hy]; exact ⟨rfl, by simp⟩
  · rw [vw_str hx, vw_str hy]; exact ⟨rfl, by simp⟩
  · rw [vw_bl hx, vw_bl hy]; exact ⟨rfl, by simp⟩
  · rw [vw_non hx, vw_non hy]; exact ⟨rfl, by simp⟩
  · rw [vw_non hx, vw_int hy]; exact ⟨rfl, by simp⟩
  · rw [vw_non hx, vw_str hy]; exact ⟨rfl, by simp⟩
  · rw [vw_non hx, vw_bl hy]; exact ⟨rfl, by simp⟩
  · rw [vw_int hx, vw_non hy]; exact ⟨rfl, by simp⟩
  · rw [vw_str hx, vw_non hy]; exact ⟨rfl, by simp⟩
  · rw [vw_bl hx, vw_non hy]; exact ⟨rfl, by simp⟩
  · rw [vw_int hx, vw_str hy]; exact ⟨rfl, by simp⟩
  · rw [vw_str hx, vw_int hy]; exact ⟨rfl, by simp⟩
  · rw [vw_bl hx, vw_str hy]; exact ⟨rfl, by simp⟩
  · rw [vw_str hx, vw_bl hy]; exact ⟨rfl, by simp⟩
theorem os_eq : OpS K rEq fEqS := by
  intro H F v u x y z s hx hy e Q q
  obtain ⟨b, e1, e⟩ := Option.bind_eq_some_iff.mp e
  cases e
  obtain ⟨h1, h2⟩ := eqS_ok hx hy e1
  exact ⟨h1, by rw [h2]; exact q _ H F (Alc.refl s) (.bl b)⟩
theorem os_ne : OpS K rNe fNeS := by
  intro H F v u x y z s hx hy e Q q
  obtain ⟨b, e1, e⟩ := Option.bind_eq_some_iff.mp e
  cases e
  obtain ⟨h1, h2⟩ := eqS_ok hx hy e1
  exact ⟨h1, by rw [h2]; exact q _ H F (Alc.refl s) (.bl _)⟩
noncomputable def fIsN : D → D → Option D
  | .non, .non => some (.bl true)
  | _, .non => some (.bl false)
  | _, _ => none
noncomputable def fNotN : D → D → Option D
  | .non, .non => some (.bl false)
  | _, .non => some (.bl true)
  | _, _ => none
theorem vw_ne_non {H F : Hp} {v : V} {x : D} (h : Vw K H F v x) (n : x ≠ .non) : v ≠ .non := by
  cases x with
  | non => exact absurd rfl n
  | bl b => rw [vw_bl h]; simp
  | int b => rw [vw_int h]; simp
  | str b => rw [vw_str h]; simp
  | lst b => obtain ⟨a, _, rfl, _⟩ := h; simp
  | tup b => cases (show Rep K F v (.tup b) from h); simp
  | scr b => cases (show Rep K F v (.scr b) from h); simp
  | obj c ks xs => cases (show Rep K F v (.obj c ks xs) from h); simp
theorem os_notN : OpS K (fun x y H Q => y = .non ∧ Q (.bl (!decide (x = .non))) H) fNotN := by
  intro H F v u x y z s hx hy e Q q
  unfold fNotN at e
  split at e
  · cases e
    rw [vw_non hx, vw_non hy]
    exact ⟨rfl, by simpa using q _ H F (Alc.refl s) (.bl false)⟩
  · rename_i n
    cases e
    rw [vw_non hy]
    have : decide (v = V.non) = false := decide_eq_false (vw_ne_non hx n)
    exact ⟨rfl, by rw [this]; exact q _ H F (Alc.refl s) (.bl true)⟩
  · cases e
noncomputable def fIsB : D → D → Option D
  | .bl a, .bl b => some (.bl (decide (a = b)))
  | _, _ => none
noncomputable def fNotB : D → D → Option D
  | .bl a, .bl b => some (.bl (!decide (a = b)))
  | _, _ => none
theorem os_notB : OpS K (fun x y H Q => ∃ a b, x = .bl a ∧ y = .bl b ∧ Q (.bl (!decide (a = b))) H) fNotB := by
  intro H F v u x y z s hx hy e Q q
  unfold fNotB at e
  split at e
  · cases e
    rw [vw_bl hx, vw_bl hy]
    exact ⟨_, _, rfl, rfl, q _ H F (Alc.refl s) (.bl _)⟩
  · cases e
noncomputable def fInS : D → D → Option D
  | .str [c], .str s => some (.bl (decide (c ∈ s)))
  | _, _ => none
noncomputable def fNiS : D → D → Option D
  | .str [c], .str s => some (.bl (!decide (c ∈ s)))
  | _, _ => none
theorem os_inS : OpS K (fun x y H Q => ∃ (c : Nat) (z : Str), x = .str ⟨#[c]⟩ ∧ y = .str z ∧ Q (.bl (decide (c ∈ z.cps.toList))) H) fInS := by
  intro H F v u x y z s hx hy e Q q
  unfold fInS at e
  split at e
  · cases e
    rw [vw_str hx, vw_str hy]
    exact ⟨_, _, rfl, rfl, by simpa using q _ H F (Alc.refl s) (.bl _)⟩
  · cases e
theorem os_niS : OpS K (fun x y H Q => ∃ (c : Nat) (z : Str), x = .str ⟨#[c]⟩ ∧ y = .str z ∧ Q (.bl (!decide (c ∈ z.cps.toList))) H) fNiS := by
  intro H F v u x y z s hx hy e Q q
  unfold fNiS at e
  split at e
  · cases e
    rw [vw_str hx, vw_str hy]
    exact ⟨_, _, rfl, rfl, by simpa using q _ H F (Alc.refl s) (.bl _)⟩
  · cases e
noncomputable def fIxS : D → D → Option D
  | .str s, .int i => if s.length ≤ lim then (atI s i).bind fun c => some (.str [c]) else none
  | _, _ => none
noncomputable def fIxT : D → D → Option D
  | .tup xs, .int i => atI xs i
  | _, _ => none
noncomputable def fIxL : D → D → Option D
  | .lst xs, .int i => atI xs i
  | _, _ => none
theorem atI_reps {F : Hp} {vs : List V} {xs : List D} {i : Int} {x : D} (r : Reps K F vs xs) (h : atI xs i = some x) : ∃ v, atI vs i = some v ∧ Rep K F v x := by
  unfold atI at h ⊢
  obtain ⟨j, e1, e2⟩ := Option.bind_eq_some_iff.mp h
  obtain ⟨v, h1, h2⟩ := r.get' e2
  rw [r.len, e1]
  exact ⟨v, h1, h2⟩
theorem os_ixS : OpS K rIxS fIxS := by
  intro H F v u x y z s hx hy e Q q
  unfold fIxS at e
  split at e
  · split at e
    · rename_i hl
      obtain ⟨c, e1, e⟩ := Option.bind_eq_some_iff.mp e
      cases e
      rw [vw_str hx, vw_int hy]
      exact ⟨_, _, c, rfl, rfl, lim_of (by simpa [Str.length] using hl), by simpa using e1, q _ H F (Alc.refl s) (.str [c])⟩
    · cases e
  · cases e
theorem os_ixT : OpS K (rIxT K) fIxT := by
  intro H F v u x y z s hx hy e Q q
  unfold fIxT at e
  split at e
  · cases (show Rep K F v (.tup _) from hx) with
    | tup h1 h2 =>
      rw [vw_int hy]
      obtain ⟨w, e1, r⟩ := atI_reps h2 e
      exact ⟨_, _, _, w, rfl, rfl, same_t s h1, e1, q _ H F (Alc.refl s) r⟩
  · cases e
theorem os_ixL : OpS K (rIxL K) fIxL := by
  intro H F v u x y z s hx hy e Q q
  unfold fIxL at e
  split at e
  · obtain ⟨a, vs, rfl, h1, h2⟩ := hx
    rw [vw_int hy]
    obtain ⟨w, e1, r⟩ := atI_reps h2 e
    exact ⟨_, _, _, w, rfl, rfl, SqL.of h1, e1, q _ H F (Alc.refl s) r⟩
  · cases e
noncomputable def cutL {α : Type} (xs : List α) (lo hi : Option Int) : List α := (xs.drop (HT.sIx xs.length 0 lo)).take (HT.sIx xs.length xs.length hi - HT.sIx xs.length 0 lo)
noncomputable def fSlS : D → Option Int → Option Int → Option D
  | .str s, lo, hi => if s.length ≤ lim then some (.str (cutL s lo hi)) else none
  | _, _, _ => none
noncomputable def fSlL : D → Option Int → Option Int → Option D
  | .lst s, lo, hi => some (.lst (cutL s lo hi))
  | _, _, _ => none
noncomputable def orSl (f g : D → Option Int → Option Int → Option D) : D → Option Int → Option Int → Option D := fun x lo hi => match f x lo hi with
  | some z => some z
  | none => g x lo hi
theorem SlS.or {r r' : V → Option Int → Option Int → Hp → VK → Prop} {f g : D → Option Int → Option Int → Option D} (h : SlS K r f) (h' : SlS K r' g) : SlS K (fun x lo hi H Q => r x lo hi H Q ∨ r' x lo hi H Q) (orSl f g) := by
  intro H F v x z lo hi s hx e Q q
  unfold orSl at e
  cases e1 : f x lo hi with
  | some w =>
    simp [e1] at e; subst e
    exact .inl (h H F v x w lo hi s hx e1 Q q)
  | none =>
    simp [e1] at e
    exact .inr (h' H F v x z lo hi s hx e Q q)
theorem sls_str : SlS K rSlS fSlS := by
  intro H F v x z lo hi s hx e Q q
  unfold fSlS at e
  split at e
  · split at e
    · rename_i hl
      cases e
      rw [vw_str hx]
      refine ⟨_, rfl, lim_of (by simpa [Str.length] using hl), ?_⟩
      have e : ∀ s : List Nat, cutS ⟨s.toArray⟩ lo hi = ⟨(cutL s lo hi).toArray⟩ := fun s => by simp [cutS, cutL, Str.length]
      rw [e]
      exact q _ H F (Alc.refl s) (.str _)
    · cases e
  · cases e
theorem cutV_reps {F : Hp} {vs : List V} {xs : List D} {lo hi : Option Int} (r : Reps K F vs xs) : Reps K F (cutV vs lo hi) (cutL xs lo hi) := by
  unfold cutV cutL
  rw [r.len]
  exact (r.drop _).take _
theorem sls_list : SlS K (rSlL K) fSlL := by
  intro H F v x z lo hi s hx e Q q
  unfold fSlL at e
  split at e
  · cases e
    obtain ⟨a, vs, rfl, h1, h2⟩ := hx
    refine ⟨a, vs, rfl, SqL.of h1, fun p hp => ?_⟩
    have A := Alc.new (o := HO.lst (cutV vs lo hi)) s hp
    exact q _ _ _ A (.lst upd_same ((cutV_reps h2).mono A.ff))
  · cases e
theorem vws1 {H F : Hp} {vs : List V} {x : D} (h : Vws K H F vs [x]) : ∃ v, vs = [v] ∧ Vw K H F v x := by
  match vs, h with
  | [v], h => exact ⟨v, rfl, h.1⟩
theorem vws2 {H F : Hp} {vs : List V} {x y : D} (h : Vws K H F vs [x, y]) : ∃ v u, vs = [v, u] ∧ Vw K H F v x ∧ Vw K H F u y := by
  match vs, h with
  | [v, u], h => exact ⟨v, u, rfl, h.1, h.2.1⟩
noncomputable def cLen : List D → Option D
  | [.str s] => if s.length ≤ lim then some (.int s.length) else none
  | [.lst xs] => some (.int xs.length)
  | [.tup xs] => some (.int xs.length)
  | [.scr xs] => some (.int xs.length)
  | _ => none
theorem cs_len : CallS K (fun xs H Q => ∃ x n, xs = [x] ∧ LenV K x H n ∧ Q (.int n) H) cLen := by
  intro H F vs xs z s hx e Q q
  unfold cLen at e
  split at e
  · split at e
    · rename_i hl
      cases e
      obtain ⟨v, rfl, hv⟩ := vws1 hx
      rw [vw_str hv]
      refine ⟨_, _, rfl, ⟨lim_of (by simpa [Str.length] using hl), rfl⟩, ?_⟩
      have := q _ H F (Alc.refl s) (.int _)
      simpa [Str.length] using this
    · cases e
  · cases e
    obtain ⟨v, rfl, a, us, rfl, h1, h2⟩ := vws1 hx
    exact ⟨_, _, rfl, .inl ⟨us, SqL.of h1, rfl⟩, by rw [h2.len]; exact q _ H F (Alc.refl s) (.int _)⟩
  · cases e
    obtain ⟨v, rfl, hv⟩ := vws1 hx
    cases (show Rep K F v (.tup _) from hv) with
    | tup h1 h2 => exact ⟨_, _, rfl, .inr ⟨_, same_t s h1, rfl⟩, by rw [h2.len]; exact q _ H F (Alc.refl s) (.int _)⟩
  · cases e
    obtain ⟨v, rfl, hv⟩ := vws1 hx
    cases (show Rep K F v (.scr _) from hv) with
    | scr h1 => exact ⟨_, _, rfl, .inl ⟨_, s.seq h1, rfl⟩, by rw [List.length_map]; exact q _ H F (Alc.refl s) (.int _)⟩
  · cases e
noncomputable def cInt : List D → Option D
  | [.int i] => some (.int i)
  | [.bl b] => some (.int (if b then 1 else 0))
  | _ => none
theorem cs_int : CallS K (fun xs H Q => (∃ i, xs = [.int i] ∧ Q (.int i) H) ∨ ∃ k, xs = [.bl k] ∧ Q (.int (if k then 1 else 0)) H) cInt := by
  intro H F vs xs z s hx e Q q
  unfold cInt at e
  split at e
  · cases e
    obtain ⟨v, rfl, hv⟩ := vws1 hx
    rw [vw_int hv]
    exact .inl ⟨_, rfl, q _ H F (Alc.refl s) (.int _)⟩
  · cases e
    obtain ⟨v, rfl, hv⟩ := vws1 hx
    rw [vw_bl hv]
    exact .inr ⟨_, rfl, q _ H F (Alc.refl s) (.int _)⟩
  · cases e
end
section
variable {X : Cx}
noncomputable def rMulS : R2 := fun x y H Q => ∃ (z : Str) (n : Int), x = .str z ∧ y = .int n ∧ MulOk z n ∧ Q (.str (Txt.mul z n)) H
theorem op_mulS : OpR X (binaryOp .Mult) rMulS := by
  intro pins s σ H x y v u Q I rx ry h
  obtain ⟨z, n, rfl, rfl, ok, q⟩ := h
  obtain ⟨t, rfl⟩ := rx
  obtain ⟨t', rfl⟩ := ry
  exact SB.mul ok fun t2 k => ⟨.str _, H, I.tok k, ⟨_, rfl⟩, q⟩
/-- one sign, times n -/
noncomputable def fMulS : D → D → Option D
  | .str [c], .int n => if -1000000 ≤ n ∧ n ≤ 1000000 then some (.str (List.replicate n.toNat c)) else none
  | _, _ => none
theorem fold_rep (c : Nat) : ∀ (n : Nat) (acc : Array Nat), (List.replicate n #[c]).foldl (· ++ ·) acc = acc ++ (List.replicate n c).toArray
  | 0, acc => by simp
  | n + 1, acc => by
    rw [List.replicate_succ, List.foldl_cons, fold_rep c n, List.replicate_succ]
    apply Array.ext'
    simp
theorem mul_txt (c : Nat) (n : Int) : Txt.mul ⟨#[c]⟩ n = ⟨(List.replicate n.toNat c).toArray⟩ := by
  unfold Txt.mul
  by_cases h : n < 1
  · rw [if_pos h, show n.toNat = 0 by omega]
    rfl
  · rw [if_neg h]
    by_cases h1 : n = 1
    · subst h1; rfl
    · rw [if_neg (by simp [h1]; show ¬ (1 = 0); decide)]
      show (⟨(List.replicate n.toNat #[c]).foldl (· ++ ·) #[]⟩ : Str) = _
      rw [fold_rep]
      simp
theorem os_mulS {K : Kx} : OpS K rMulS fMulS := by
  intro H F v u x y z s hx hy e Q q
  unfold fMulS at e
  split at e
  · split at e
    · rename_i hc
      cases e
      rw [vw_str hx, vw_int hy]
      refine ⟨_, _, rfl, rfl, mulOk_of 1 1000000 (Nat.le_refl 1) hc.2 (Int.le_trans (by decide) hc.1) (by decide) (by decide), ?_⟩
      rw [mul_txt]
      exact q _ H F (Alc.refl s) (.str _)
    · cases e
  · cases e
noncomputable def fLtS : D → D → Option D
  | .str a, .str b => some (.bl (decide (a < b)))
  | _, _ => none
theorem os_ltS {K : Kx} : OpS K (fun x y H Q => ∃ i j, x = .str i ∧ y = .str j ∧ Q (.bl (decide (i.cps.toList < j.cps.toList))) H) fLtS := by
  intro H F v u x y z s hx hy e Q q
  unfold fLtS at e
  split at e
  · cases e
    rw [vw_str hx, vw_str hy]
    exact ⟨_, _, rfl, rfl, q _ H F (Alc.refl s) (.bl _)⟩
  · cases e
end
mutual
noncomputable def toP : D → PyData
  | .non => .none
  | .bl b => .bool b
  | .int i => .int i
  | .str s => .str ⟨s.toArray⟩
  | .lst xs => .list (toPs xs)
  | .tup xs => .tuple (toPs xs)
  | .scr xs => .list (xs.map .int)
  | .obj _ _ _ => .none
noncomputable def toPs : List D → List PyData
  | [] => []
  | x :: xs => toP x :: toPs xs
end
mutual
/-- no instance within -/
noncomputable def plnD : D → Bool
  | .lst xs => plnDs xs
  | .tup xs => plnDs xs
  | .obj _ _ _ => false
  | _ => true
noncomputable def plnDs : List D → Bool
  | [] => true
  | x :: xs => plnD x && plnDs xs
end
theorem dp_ints {K : Kx} {H : Hp} : ∀ xs : List Int, DpAll K H (xs.map V.int) (xs.map PyData.int)
  | [] => .nil
  | i :: xs => .cons (.int i) (dp_ints xs)
mutual
theorem Rep.dp {K : Kx} {F H : Hp} (s : Same F H) : ∀ {v : V} {d : D}, plnD d = true → Rep K F v d → Dp K H v (toP d)
  | _, _, _, .non => by unfold toP; exact .non
  | _, _, _, .bl b => by unfold toP; exact .bl b
  | _, _, _, .int i => by unfold toP; exact .int i
  | _, _, _, .str x => by unfold toP; exact .str _
  | _, _, p, .lst h r => by unfold toP; unfold plnD at p; exact .lst (SqL.of (s _ _ h)) (Reps.dp s p r)
  | _, _, _, .scr h => by unfold toP; exact .lst (s.seq h) (dp_ints _)
  | _, _, p, .tup h r => by unfold toP; unfold plnD at p; exact .tup (same_t s h) (Reps.dp s p r)
  | _, _, p, .obj _ _ _ _ => by unfold plnD at p; cases p
theorem Reps.dp {K : Kx} {F H : Hp} (s : Same F H) : ∀ {vs : List V} {ds : List D}, plnDs ds = true → Reps K F vs ds → DpAll K H vs (toPs ds)
  | _, _, _, .nil => by unfold toPs; exact .nil
  | _, _, p, .cons h r => by unfold toPs; unfold plnDs at p; rw [Bool.and_eq_true] at p; exact .cons (Rep.dp s p.1 h) (Reps.dp s p.2 r)
end
theorem vw_dp {K : Kx} {F H : Hp} {v : V} {x : D} (s : Same F H) (p : plnD x = true) (h : Vw K H F v x) : Dp K H v (toP x) := by
  cases x with
  | lst xs => obtain ⟨a, vs, rfl, h1, h2⟩ := h; unfold toP; unfold plnD at p; exact .lst (SqL.of h1) (h2.dp s p)
  | non => exact Rep.dp s p h
  | bl b => exact Rep.dp s p h
  | int i => exact Rep.dp s p h
  | str t => exact Rep.dp s p h
  | tup xs => exact Rep.dp s p h
  | scr xs => exact Rep.dp s p h
  | obj c ks xs => exact Rep.dp s p h
/-- may be compared: at most 180 deep -/
noncomputable def shap (d : PyData) : Bool := d.canLay0 && decide (d.depth ≤ 180)
theorem can_shap {d : PyData} (h : shap d = true) : d.canLay0 = true := (Bool.and_eq_true_iff.mp h).1
theorem depth_shap {d : PyData} (h : shap d = true) : d.depth ≤ 180 := of_decide_eq_true (Bool.and_eq_true_iff.mp h).2
noncomputable def rEqD (K : PySem.W.Frag) : R2 := fun x y H Q => ∃ d e, Dp K H x d ∧ Dp K H y e ∧ shap d = true ∧ shap e = true ∧ Q (.bl (PyData.eqv d e)) H
noncomputable def rNeD (K : PySem.W.Frag) : R2 := fun x y H Q => ∃ d e, Dp K H x d ∧ Dp K H y e ∧ shap d = true ∧ shap e = true ∧ Q (.bl (!PyData.eqv d e)) H
theorem room_shap {A : Around} {da db : PyData} (h : shap da = true) (hu : A.units + 181 < cLine) : A.units + min da.depth db.depth < cLine := by
  have h1 := depth_shap h
  have h2 : min da.depth db.depth ≤ da.depth := Nat.min_le_left _ _
  omega
theorem op_eqD {X : Cx} (hu : X.A.units + 181 < cLine) : OpR X (compareOp .Eq) (Sw.rEqD X.K) := by
  intro pins s σ H x y v u Q I rx ry h
  obtain ⟨d, e, hd, he, sd, se, q⟩ := h
  obtain ⟨as, r1⟩ := Dp.reads I d x v hd rx
  obtain ⟨bs, r2⟩ := Dp.reads I e y u he ry
  exact SeqAt.compareEq_reads r1 r2 (can_shap sd) (can_shap se) (room_shap sd hu) ⟨.bl _, H, I, rfl, q⟩
theorem op_neD {X : Cx} (hu : X.A.units + 181 < cLine) : OpR X (compareOp .NotEq) (Sw.rNeD X.K) := by
  intro pins s σ H x y v u Q I rx ry h
  obtain ⟨d, e, hd, he, sd, se, q⟩ := h
  obtain ⟨as, r1⟩ := Dp.reads I d x v hd rx
  obtain ⟨bs, r2⟩ := Dp.reads I e y u he ry
  exact SeqAt.compareNe_reads r1 r2 (can_shap sd) (can_shap se) (room_shap sd hu) ⟨.bl _, H, I, rfl, q⟩
theorem hu181 {k : Nat} {A : Around} (r : Room k A) : A.units + 181 < cLine := by have := r.un; omega
noncomputable def shD (x : D) : Bool := plnD x && shap (toP x)
theorem shD_pln {x : D} (h : shD x = true) : plnD x = true := by unfold shD at h; rw [Bool.and_eq_true] at h; exact h.1
theorem shD_sh {x : D} (h : shD x = true) : shap (toP x) = true := by unfold shD at h; rw [Bool.and_eq_true] at h; exact h.2
noncomputable def fEqD : D → D → Option D := fun x y => if (shD x && shD y) = true then some (.bl (PyData.eqv (toP x) (toP y))) else none
noncomputable def fNeD : D → D → Option D := fun x y => if (shD x && shD y) = true then some (.bl (!PyData.eqv (toP x) (toP y))) else none
theorem os_eqD {K : Kx} : OpS K (Sw.rEqD K) fEqD := by
  intro H F v u x y z s hx hy e Q q
  unfold fEqD at e
  split at e
  · rename_i hc
    cases e
    rw [Bool.and_eq_true] at hc
    exact ⟨_, _, vw_dp s (shD_pln hc.1) hx, vw_dp s (shD_pln hc.2) hy, shD_sh hc.1, shD_sh hc.2, q _ H F (Alc.refl s) (.bl _)⟩
  · cases e
theorem os_neD {K : Kx} : OpS K (Sw.rNeD K) fNeD := by
  intro H F v u x y z s hx hy e Q q
  unfold fNeD at e
  split at e
  · rename_i hc
    cases e
    rw [Bool.and_eq_true] at hc
    exact ⟨_, _, vw_dp s (shD_pln hc.1) hx, vw_dp s (shD_pln hc.2) hy, shD_sh hc.1, shD_sh hc.2, q _ H F (Alc.refl s) (.bl _)⟩
  · cases e
end Sw
namespace Sw
open PySem PySem.Spec PyProof.Rows L2
noncomputable def Op2 (X : Cx) (fn : Value → Value → Sem Value) (f : D → D → Option D) : Prop := ∃ r, OpR X fn r ∧ OpS X.kx r f
theorem Op2.or {X : Cx} {fn : Value → Value → Sem Value} {f g : D → D → Option D} (h : Op2 X fn f) (h' : Op2 X fn g) : Op2 X fn (orF f g) :=
  let ⟨_, a, b⟩ := h
  let ⟨_, a', b'⟩ := h'
  ⟨_, a.or a', b.or b'⟩
section
variable {X : Cx}
noncomputable def fAdd : D → D → Option D := orF (fInt fun i j => .int (i + j)) (orF fCatS (orF fCatL fCatT))
theorem oAdd : Op2 X (binaryOp .Add) fAdd := Op2.or ⟨_, op_add, os_int fun _ _ _ => .int _⟩ (Op2.or ⟨_, op_add_str, os_catS⟩ (Op2.or ⟨_, op_cat, os_catL⟩ ⟨_, op_catA, os_catT⟩))
noncomputable def fSub : D → D → Option D := fInt fun i j => .int (i - j)
theorem oSub : Op2 X (binaryOp .Sub) fSub := ⟨_, op_sub, os_int fun _ _ _ => .int _⟩
noncomputable def cMul (i j : Int) : Bool := decide (-18446744073709551616 < i ∧ i < 18446744073709551616) || decide (-18446744073709551616 < j ∧ j < 18446744073709551616)
noncomputable def fMul : D → D → Option D := orF (fIntC cMul fun i j => .int (i * j)) fMulS
theorem oMul : Op2 X (binaryOp .Mult) fMul := Op2.or ⟨_, op_mul, os_intC (fun i j h => by
  unfold cMul at h
  rcases (Bool.or_eq_true _ _).mp h with h | h
  · exact .inl (of_decide_eq_true h)
  · exact .inr (of_decide_eq_true h)) fun _ _ _ => .int _⟩ ⟨_, op_mulS, os_mulS⟩
noncomputable def fDiv : D → D → Option D := fIntC (fun _ j => decide (0 < j ∧ j < 1073741824)) fun i j => .int (i / j)
theorem oDiv : Op2 X (binaryOp .FloorDiv) fDiv := ⟨_, op_fdiv, os_intC (fun i j h => (show CDiv i j from of_decide_eq_true (p := 0 < j ∧ j < 1073741824) h)) fun _ _ _ => .int _⟩
noncomputable def fMod : D → D → Option D := fIntC (fun _ j => decide (0 < j)) fun i j => .int (i % j)
theorem oMod : Op2 X (binaryOp .Mod) fMod := ⟨_, op_mod, os_intC (fun _ _ h => of_decide_eq_true h) fun _ _ _ => .int _⟩
noncomputable def fPow : D → D → Option D := fIntC (fun i j => decide (0 ≤ j ∧ j ≤ 1000000 ∧ i.natAbs < 18446744073709551616)) fun i j => .int (i ^ j.toNat)
theorem oPow : Op2 X (binaryOp .Pow) fPow := ⟨_, op_pow, os_intC (fun i j h => (show CPow i j from of_decide_eq_true (p := 0 ≤ j ∧ j ≤ 1000000 ∧ i.natAbs < 18446744073709551616) h)) fun _ _ _ => .int _⟩
noncomputable def fLt : D → D → Option D := orF (fInt fun i j => .bl (decide (i < j))) fLtS
noncomputable def fLe : D → D → Option D := fInt fun i j => .bl (decide (i ≤ j))
noncomputable def fGt : D → D → Option D := fInt fun i j => .bl (decide (j < i))
noncomputable def fGe : D → D → Option D := fInt fun i j => .bl (decide (j ≤ i))
theorem oLt : Op2 X (compareOp .Lt) fLt := Op2.or ⟨_, op_lt, os_int fun _ _ _ => .bl _⟩ ⟨_, op_lt_str, os_ltS⟩
theorem oLe : Op2 X (compareOp .LtE) fLe := ⟨_, op_le, os_int fun _ _ _ => .bl _⟩
theorem oGt : Op2 X (compareOp .Gt) fGt := ⟨_, op_gt, os_int fun _ _ _ => .bl _⟩
noncomputable def fEq : D → D → Option D := orF fEqS fEqD
noncomputable def fNe : D → D → Option D := orF fNeS fNeD
theorem oEq (hu : X.A.units + 181 < cLine) : Op2 X (compareOp .Eq) fEq := Op2.or ⟨_, op_eq, os_eq⟩ ⟨_, Sw.op_eqD hu, os_eqD⟩
theorem oNe (hu : X.A.units + 181 < cLine) : Op2 X (compareOp .NotEq) fNe := Op2.or ⟨_, op_ne, os_ne⟩ ⟨_, Sw.op_neD hu, os_neD⟩
noncomputable def fIs : D → D → Option D := orF fIsN fIsB
noncomputable def fNt : D → D → Option D := orF fNotN fNotB
theorem oNt : Op2 X (compareOp .IsNot) fNt := Op2.or ⟨_, op_notN, os_notN⟩ ⟨_, op_isnot_bl, os_notB⟩
noncomputable def flatD : D → Bool
  | .non => true
  | .bl _ => true
  | .int _ => true
  | .str _ => true
  | _ => false
noncomputable def eqF : D → D → Bool
  | .non, .non => true
  | .bl a, .bl b => a == b
  | .bl a, .int b => (if a then 1 else 0) == b
  | .int a, .bl b => a == (if b then 1 else 0)
  | .int a, .int b => a == b
  | .str a, .str b => decide (a = b)
  | _, _ => false
theorem flat_rep {K : Kx} {F : Hp} {v : V} {x : D} (r : Rep K F v x) (h : flatD x = true) : flatV v = true := by
  cases r <;> first | rfl | cases h
theorem eqF_rep {K : Kx} {F : Hp} {v u : V} {x y : D} (r : Rep K F v x) (r' : Rep K F u y) (h : flatD x = true) (h' : flatD y = true) : eqV v u = eqF x y := by
  have key : ∀ a b : List Nat, ((⟨a.toArray⟩ : Str) == ⟨b.toArray⟩) = decide (a = b) := fun a b => by
    by_cases e : a = b
    · subst e; simp
    · rw [decide_eq_false e]
      have ne : (⟨a.toArray⟩ : Str) ≠ ⟨b.toArray⟩ := fun z => e (by simpa using congrArg (fun s : Str => s.cps.toList) z)
      exact beq_eq_false_iff_ne.mpr ne
  cases r <;> cases r' <;> first | rfl | exact absurd h Bool.false_ne_true | exact absurd h' Bool.false_ne_true | exact key _ _
noncomputable def inD (x : D) (xs : List D) : Bool := xs.any fun y => eqF y x
theorem inV_reps {K : Kx} {F : Hp} {v : V} {x : D} (r : Rep K F v x) (h : flatD x = true) : ∀ {vs : List V} {xs : List D}, Reps K F vs xs → xs.all flatD = true → inV v vs = inD x xs ∧ vs.all flatV = true
  | _, _, .nil, _ => ⟨rfl, rfl⟩
  | _, _, .cons r1 t, e => by
    rw [List.all_cons, Bool.and_eq_true] at e
    obtain ⟨i1, i2⟩ := inV_reps r h t e.2
    unfold inV inD at i1 ⊢
    rw [List.any_cons, List.any_cons, List.all_cons, i1, i2, eqF_rep r1 r e.1 h, flat_rep r1 e.1]
    exact ⟨rfl, rfl⟩
noncomputable def fInQ (neg : Bool) : D → D → Option D := fun x y => match y with
  | .lst xs => if (flatD x && xs.all flatD) = true then some (.bl (if neg then !inD x xs else inD x xs)) else none
  | .tup xs => if (flatD x && xs.all flatD) = true then some (.bl (if neg then !inD x xs else inD x xs)) else none
  | _ => none
theorem vw_flat {K : Kx} {H F : Hp} {v : V} {x : D} (h : Vw K H F v x) (f : flatD x = true) : Rep K F v x := by
  cases x <;> first | exact h | cases f
theorem os_inQ {K : Kx} {neg : Bool} : OpS K (rIn K neg) (fInQ neg) := by
  intro H F v u x y z s hx hy e Q q
  unfold fInQ at e
  split at e
  · split at e
    · rename_i hc
      cases e
      rw [Bool.and_eq_true] at hc
      obtain ⟨a, us, rfl, h1, h2⟩ := hy
      have rx := vw_flat hx hc.1
      obtain ⟨i1, i2⟩ := inV_reps rx hc.1 h2 hc.2
      refine ⟨a, us, rfl, .inl (SqL.of h1), flat_rep rx hc.1, i2, ?_⟩
      rw [i1]
      exact q _ H F (Alc.refl s) (.bl _)
    · cases e
  · split at e
    · rename_i hc
      cases e
      rw [Bool.and_eq_true] at hc
      cases (show Rep K F u (.tup _) from hy) with
      | @tup a us _ h1 h2 =>
      have rx := vw_flat hx hc.1
      obtain ⟨i1, i2⟩ := inV_reps rx hc.1 h2 hc.2
      refine ⟨a, us, rfl, .inr (same_t s h1), flat_rep rx hc.1, i2, ?_⟩
      rw [i1]
      exact q _ H F (Alc.refl s) (.bl _)
    · cases e
  · cases e
noncomputable def fIn : D → D → Option D := orF fInS (fInQ false)
noncomputable def fNi : D → D → Option D := orF fNiS (fInQ true)
theorem oIn : Op2 X (compareOp .In) fIn := Op2.or ⟨_, op_in_sign, os_inS⟩ ⟨_, op_in_seq, os_inQ⟩
theorem oNi : Op2 X (compareOp .NotIn) fNi := Op2.or ⟨_, op_notIn_sign, os_niS⟩ ⟨_, op_notIn_seq, os_inQ⟩
noncomputable def fIx : D → D → Option D := orF fIxL (orF fIxT fIxS)
theorem oIx : ∃ r, IxR X r ∧ OpS X.kx r fIx := ⟨_, ix_list.or (ix_tup.or ix_str), os_ixL.or (os_ixT.or os_ixS)⟩
noncomputable def fSl : D → Option Int → Option Int → Option D := orSl fSlL fSlS
noncomputable def fNeg : D → Option D
  | .int i => some (.int (-i))
  | _ => none
end
section
variable {X : Cx} {a b c e : Expr} {ma mb mc me : M Vl} {pos p : Pos} {es : List Expr} {ms : M (List Vl)}
theorem se_b {op : Operator} {f : D → D → Option D} (h : Op2 X (binaryOp op) f) (ha : SE X a ma) (hb : SE X b mb) : SE X (.BinOp a op b pos) (eBin f ma mb) :=
  let ⟨_, h1, h2⟩ := h
  se_bin h1 h2 ha hb
theorem se_c {op : CmpOp} {f : D → D → Option D} (h : Op2 X (compareOp op) f) (ha : SE X a ma) (hb : SE X b mb) (hm : behindInMarks op b = false) : SE X (.Compare a [op] [b] pos) (eBin f ma mb) :=
  let ⟨_, h1, h2⟩ := h
  se_cmp h1 h2 ha hb hm
theorem st_c {op : CmpOp} {f : D → D → Option D} (h : Op2 X (compareOp op) f) (ha : SE X a ma) (hb : SE X b mb) (hm : behindInMarks op b = false) : ST X (.Compare a [op] [b] pos) (tE (eBin f ma mb)) :=
  let ⟨_, h1, h2⟩ := h
  st_cmp h1 h2 ha hb hm
theorem se_ix (ha : SE X a ma) (hb : SE X b mb) (hs : PlainIx b) : SE X (.Subscript a b pos) (eBin fIx ma mb) :=
  let ⟨_, h1, h2⟩ := oIx (X := X)
  se_ixr h1 h2 ha hb hs
theorem se_len (hm : X.mg "len" = none) (hg : Gl X "len") (ha : SA X [e] ms) (he : starEach [e] X.env = (false, eval e X.env) :: starEach [] X.env := by rfl) (hpl : (backTo pos (starEach [] X.env)).any (·.1) = false := by rfl) : SE X (.Call (.Name "len" p) [e] [] pos) (eBlt cLen ms) :=
  se_blt call_len cs_len hg hm PySem.boot_len ha (by decide) (by decide) he hpl
theorem se_toint (hm : X.mg "int" = none) (hg : Gl X "int") (ha : SA X [e] ms) (he : starEach [e] X.env = (false, eval e X.env) :: starEach [] X.env := by rfl) (hpl : (backTo pos (starEach [] X.env)).any (·.1) = false := by rfl) : SE X (.Call (.Name "int" p) [e] [] pos) (eBlt cInt ms) :=
  se_ty call_int1 cs_int hg hm (by decide +kernel) ha (by decide) (by decide) he hpl
noncomputable def strsOf : List D → Option (List (List Nat))
  | [] => some []
  | .str s :: xs => (strsOf xs).bind fun r => some (s :: r)
  | _ => none
noncomputable def fJoin : D → List D → Option D
  | .str a, [.lst xs] => (strsOf xs).bind fun ys => if (ys.map (·.length)).sum + ys.length * a.length ≤ lim then some (.str (TL.joinL a ys)) else none
  | .str a, [.tup xs] => (strsOf xs).bind fun ys => if (ys.map (·.length)).sum + ys.length * a.length ≤ lim then some (.str (TL.joinL a ys)) else none
  | _, _ => none
theorem strsOf_ok {K : Kx} {F : Hp} : ∀ {vs : List V} {xs : List D} {ys : List (List Nat)}, Reps K F vs xs → strsOf xs = some ys → vs = (ys.map fun y => (⟨y.toArray⟩ : Str)).map V.str
  | _, _, _, .nil, e => by cases e; rfl
  | _, _, ys, .cons r t, e => by
    cases r with
    | str s =>
      unfold strsOf at e
      obtain ⟨zs, e1, e⟩ := Option.bind_eq_some_iff.mp e
      cases e
      rw [strsOf_ok t e1]
      rfl
    | non => cases e
    | bl _ => cases e
    | int _ => cases e
    | lst _ _ => cases e
    | scr _ => cases e
    | tup _ _ => cases e
    | obj _ _ _ _ => cases e
theorem join_txt (a : List Nat) (ys : List (List Nat)) : Txt.join ⟨a.toArray⟩ (ys.map fun y => (⟨y.toArray⟩ : Str)) = (⟨(TL.joinL a ys).toArray⟩ : Str) := by
  have h := TL.tl_join ⟨a.toArray⟩ (ys.map fun y => (⟨y.toArray⟩ : Str))
  rw [TL.join_eq]
  have e : (ys.map fun y => (⟨y.toArray⟩ : Str)).map TL.tl = ys := by
    rw [List.map_map]
    have : (TL.tl ∘ fun y : List Nat => (⟨y.toArray⟩ : Str)) = id := by
      funext y
      simp [TL.tl]
    rw [this, List.map_id]
  rw [e] at h
  have h2 : TL.tl (⟨a.toArray⟩ : Str) = a := by simp [TL.tl]
  rw [h2] at h
  rw [← h]
theorem ms_join {K : Kx} : MetS K (fun x xs H Q => ∃ a p, ∃ ys : List Str, x = .str a ∧ xs = [.ref p] ∧ (SqL K H p (ys.map V.str) ∨ SqT K H p (ys.map V.str)) ∧
    (ys.map (·.length)).sum + ys.length * a.length ≤ 16777216 ∧ Q (.str (Txt.join a ys)) H) fJoin := by
  have len : ∀ ys : List (List Nat), ((ys.map fun y => (⟨y.toArray⟩ : Str)).map (·.length)).sum = (ys.map (·.length)).sum := fun ys => by
    rw [List.map_map]
    congr 1
  intro H F v vs x xs z s hx hxs e Q q
  unfold fJoin at e
  split at e
  · obtain ⟨ys, e1, e⟩ := Option.bind_eq_some_iff.mp e
    split at e
    · rename_i hl
      cases e
      obtain ⟨u, rfl, p, us, rfl, h1, h2⟩ := vws1 hxs
      rw [vw_str hx]
      rw [strsOf_ok h2 e1] at h1
      refine ⟨_, p, _, rfl, rfl, .inl (SqL.of h1), ?_, ?_⟩
      · rw [len, List.length_map]; simpa [Str.length] using hl
      · rw [join_txt]; exact q _ H F (Alc.refl s) (.str _)
    · cases e
  · obtain ⟨ys, e1, e⟩ := Option.bind_eq_some_iff.mp e
    split at e
    · rename_i hl
      cases e
      obtain ⟨u, rfl, hu⟩ := vws1 hxs
      cases (show Rep K F u (.tup _) from hu) with
      | @tup p us _ h1 h2 =>
      rw [vw_str hx]
      rw [strsOf_ok h2 e1] at h1
      refine ⟨_, p, _, rfl, rfl, .inr (same_t s h1), ?_, ?_⟩
      · rw [len, List.length_map]; simpa [Str.length] using hl
      · rw [join_txt]; exact q _ H F (Alc.refl s) (.str _)
    · cases e
  · cases e
theorem se_join {o : Expr} {mo : M Vl} {apos cpos : Pos} (ho : SE X o mo) (ha : SA X [e] ms)
    (hbase : attributeBase o "join" X.env (eval o X.env) = eval o X.env := by rfl)
    (hfew : ((backTo cpos (starEach [e] X.env)).all (fun x => !x.1) && (backToKw cpos (keywordEach [] X.env)).all (fun x => x.1.isSome)
      && decide ([e].length + ([] : List Keyword).length + (if ([] : List Keyword).isEmpty then 0 else 1) < 30)) = true := by rfl)
    (hline : (apos.endLine == cpos.line) = true := by rfl) (hs : starEach [e] X.env = (false, eval e X.env) :: starEach [] X.env := by rfl) (hplain : (backTo cpos (starEach [] X.env)).any (·.1) = false := by rfl) :
    SE X (.Call (.Attribute o "join" apos) [e] [] cpos) (eMet fJoin mo ms) := se_met PySem.F.slot_str_join PySem.F.type_str_join mt_join (fun x xs z h => by
  unfold fJoin at h
  split at h
  · exact ⟨_, rfl⟩
  · exact ⟨_, rfl⟩
  · cases h) ms_join ho ha hbase hfew hline hs hplain
end
/-- the law's own promise at the script -/
theorem law_sp {K : Kx} {H : Hp} {a : Addr} {ns : List Int} {f : Fn} {E : XK} (hS : SqL K H a (ns.map V.int)) (h : f [.da (.scr ns)] = some (.fz (.bl true), [])) : spF K 1 f [.ref a] H (fun v _ => v = .bl true) E :=
  ⟨rfl, H, [.da (.scr ns)], .fz (.bl true), [], Same.refl _, ⟨.scr hS, trivial⟩, List.nodup_nil, h, fun v H' F' _ _ _ _ _ R => by
    cases (show Rep K F' v (.bl true) from R)
    rfl⟩
end Sw
namespace Sw
open L2
noncomputable def Ev {α : Type} (m : M α) (ρ : Rho) (Q : α → Rho → Prop) : Prop := ∃ a ρ', m ρ = some (a, ρ') ∧ Q a ρ'
noncomputable abbrev Sv (s : S) (ρ : Rho) (Q : Fl → Rho → Prop) : Prop := ∃ fl ρ', s ρ = some (fl, ρ') ∧ Q fl ρ'
theorem sv_seq {a b : S} {ρ : Rho} {Q : Fl → Rho → Prop} (h : Sv a ρ fun fl ρ' => match fl with
    | .nx => Sv b ρ' Q
    | fl => Q fl ρ') : Sv (sSeq a b) ρ Q := by
  obtain ⟨fl, ρ1, e, h⟩ := h
  have un : sSeq a b ρ = (a ρ).bind fun p => match p.1 with
    | .nx => b p.2
    | fl => some (fl, p.2) := rfl
  cases fl with
  | nx =>
    obtain ⟨f2, ρ2, e2, h⟩ := h
    exact ⟨f2, ρ2, by rw [un, e]; exact e2, h⟩
  | bk => exact ⟨.bk, ρ1, by rw [un, e]; rfl, h⟩
  | ct => exact ⟨.ct, ρ1, by rw [un, e]; rfl, h⟩
  | rt v => exact ⟨.rt v, ρ1, by rw [un, e]; rfl, h⟩
  | ex x => exact ⟨.ex x, ρ1, by rw [un, e]; rfl, h⟩
theorem sv_seq_eq {a b : S} {ρ ρ1 : Rho} {Q : Fl → Rho → Prop} (e : a ρ = some (.nx, ρ1)) (h : Sv b ρ1 Q) : Sv (sSeq a b) ρ Q := sv_seq ⟨.nx, ρ1, e, h⟩
theorem sv_nx {ρ : Rho} {Q : Fl → Rho → Prop} (h : Q .nx ρ) : Sv sNx ρ Q := ⟨_, _, rfl, h⟩
theorem sv_if {t : M Bool} {a b : S} {ρ ρ1 : Rho} {c : Bool} {Q : Fl → Rho → Prop} (e : t ρ = some (c, ρ1)) (h1 : c = true → Sv a ρ1 Q) (h2 : c = false → Sv b ρ1 Q) : Sv (sIf t a b) ρ Q := by
  have un : sIf t a b ρ = (t ρ).bind fun p => if p.1 = true then a p.2 else b p.2 := rfl
  cases c with
  | true => obtain ⟨f, r, e2, h⟩ := h1 rfl; exact ⟨f, r, by rw [un, e]; exact e2, h⟩
  | false => obtain ⟨f, r, e2, h⟩ := h2 rfl; exact ⟨f, r, by rw [un, e]; exact e2, h⟩
theorem forM_inv {g : D → Rho → Option Rho} {b : S} (I : Nat → Rho → Prop) : ∀ (xs : List D) (k : Nat) (ρ : Rho), I k ρ →
    (∀ (i : Nat) (x : D), xs[i]? = some x → ∀ ρ, I (k + i) ρ → ∃ ρ1, g x ρ = some ρ1 ∧ ∃ fl ρ2, b ρ1 = some (fl, ρ2) ∧ (fl = .nx ∨ fl = .ct) ∧ I (k + i + 1) ρ2) → ∃ ρ', forM g b xs ρ = some (.nx, ρ') ∧ I (k + xs.length) ρ'
  | [], k, ρ, h, _ => ⟨ρ, rfl, h⟩
  | x :: xs, k, ρ, h, step => by
    obtain ⟨ρ1, e1, fl, ρ2, e2, hf, h2⟩ := step 0 x rfl ρ h
    obtain ⟨ρ', e3, h3⟩ := forM_inv I xs (k + 1) ρ2 h2 fun i y hy ρ h => by
      have := step (i + 1) y (by simpa using hy) ρ (by rw [show k + (i + 1) = k + 1 + i by omega]; exact h)
      rw [show k + (i + 1) + 1 = k + 1 + i + 1 by omega] at this
      exact this
    refine ⟨ρ', ?_, by rw [List.length_cons, show k + (xs.length + 1) = k + 1 + xs.length by omega]; exact h3⟩
    unfold forM
    rw [e1]
    show (b ρ1).bind _ = _
    rw [e2]
    rcases hf with rfl | rfl <;> exact e3
/-- a for that runs through: an invariant by the turn -/
theorem sFor_inv {src : M (List D)} {g : D → Rho → Option Rho} {b : S} {ρ ρ1 : Rho} {xs : List D} (I : Nat → Rho → Prop) (e : src ρ = some (xs, ρ1)) (h0 : I 0 ρ1)
    (step : ∀ (i : Nat) (x : D), xs[i]? = some x → ∀ ρ, I i ρ → ∃ ρ1, g x ρ = some ρ1 ∧ ∃ fl ρ2, b ρ1 = some (fl, ρ2) ∧ (fl = .nx ∨ fl = .ct) ∧ I (i + 1) ρ2) : ∃ ρ', sFor src g b ρ = some (.nx, ρ') ∧ I xs.length ρ' := by
  obtain ⟨ρ', h1, h2⟩ := forM_inv (g := g) (b := b) I xs 0 ρ1 h0 fun i x hx ρ h => by
    rw [Nat.zero_add] at h ⊢
    exact step i x hx ρ h
  rw [Nat.zero_add] at h2
  exact ⟨ρ', by unfold sFor; rw [e]; exact h1, h2⟩
/-- no slot, or one that may not be stored to -/
noncomputable def ioQ : Option Sl → Bool
  | none => true
  | some (.io _) => true
  | some (.iob _) => true
  | _ => false
@[simp] theorem ioQ_no : ioQ (some .no) = false := rfl
@[simp] theorem ioQ_d {x : D} : ioQ (some (.d x)) = false := rfl
@[simp] theorem ioQ_ow {x : List D} : ioQ (some (.ow x)) = false := rfl
section
variable {ρ : Rho} {a b c : M Vl} {ms : M (List Vl)} {t u : M Bool} {s s' : S} {f g : D → D → Option D}
@[simp] theorem r_eC {x : D} : eC x ρ = some (.fz x, ρ) := rfl
@[simp] theorem r_eVar {i : Nat} : eVar i ρ = match ρ[i]? with
  | some (.d x) => some (.fz x, ρ)
  | some (.ow _) => some (.bw i, ρ)
  | some (.io _) => some (.bw i, ρ)
  | _ => none := rfl
@[simp] theorem r_eBin : eBin f a b ρ = (a ρ).bind fun p => (b p.2).bind fun q => (look q.2 (stl p.1)).bind fun x => (look q.2 (stl q.1)).bind fun y => (f x y).bind fun z => some (.fz z, q.2) := rfl
@[simp] theorem r_eUn {h : D → Option D} : eUn h a ρ = (a ρ).bind fun p => (look p.2 (stl p.1)).bind fun x => (h x).bind fun z => some (.fz z, p.2) := rfl
@[simp] theorem r_tE : tE a ρ = (a ρ).bind fun p => match p.1 with
  | .fz (.bl b) => some (b, p.2)
  | _ => none := rfl
@[simp] theorem r_tAnd : tAnd t u ρ = (t ρ).bind fun p => if p.1 = true then u p.2 else some (false, p.2) := rfl
@[simp] theorem r_tOr : tOr t u ρ = (t ρ).bind fun p => if p.1 = true then some (true, p.2) else u p.2 := rfl
@[simp] theorem r_tNot : tNot t ρ = (t ρ).bind fun p => some (!p.1, p.2) := rfl
@[simp] theorem r_eAnd : eAnd a b ρ = (a ρ).bind fun p => match p.1 with
  | .fz (.bl true) => b p.2
  | .fz (.bl false) => some (.fz (.bl false), p.2)
  | _ => none := rfl
@[simp] theorem r_eOr : eOr a b ρ = (a ρ).bind fun p => match p.1 with
  | .fz (.bl false) => b p.2
  | .fz (.bl true) => some (.fz (.bl true), p.2)
  | _ => none := rfl
@[simp] theorem r_eNot : eNot a ρ = (a ρ).bind fun p => match p.1 with
  | .fz (.bl b) => some (.fz (.bl (!b)), p.2)
  | _ => none := rfl
@[simp] theorem r_eIf : eIf t a b ρ = (t ρ).bind fun p => if p.1 = true then a p.2 else b p.2 := rfl
@[simp] theorem r_eChain : eChain f g a b c ρ = (a ρ).bind fun p => (b p.2).bind fun q => (look q.2 (stl p.1)).bind fun x => (look q.2 (stl q.1)).bind fun y => (f x y).bind fun z => match z with
  | .bl true => (c q.2).bind fun p3 => (look p3.2 (stl q.1)).bind fun y2 => (look p3.2 (stl p3.1)).bind fun w => (g y2 w).bind fun z2 => some (.fz z2, p3.2)
  | .bl false => some (.fz (.bl false), q.2)
  | _ => none := rfl
@[simp] theorem r_aNil : aNil ρ = some ([], ρ) := rfl
@[simp] theorem r_aCons : aCons a ms ρ = (a ρ).bind fun p => (ms p.2).bind fun q => some (stl p.1 :: q.1, q.2) := rfl
@[simp] theorem r_eTup : eTup ms ρ = (ms ρ).bind fun p => (frzs p.2 p.1).bind fun q => if q.1.length ≤ lim then some (.fz (.tup q.1), q.2) else none := rfl
@[simp] theorem r_eLst : eLst ms ρ = (ms ρ).bind fun p => (frzs p.2 p.1).bind fun q => if q.1.length ≤ lim then some (.fr q.1, q.2) else none := rfl
@[simp] theorem r_eBlt {h : List D → Option D} : eBlt h ms ρ = (ms ρ).bind fun p => (looks p.2 p.1).bind fun xs => (h xs).bind fun z => some (.fz z, p.2) := rfl
@[simp] theorem r_eMet {h : D → List D → Option D} : eMet h a ms ρ = (a ρ).bind fun p => (ms p.2).bind fun q => (look q.2 (stl p.1)).bind fun x => (looks q.2 q.1).bind fun xs => (h x xs).bind fun z => some (.fz z, q.2) := rfl
@[simp] theorem r_oNo : oNo ρ = some (none, ρ) := rfl
@[simp] theorem r_oSome : oSome a ρ = (a ρ).bind fun p => match p.1 with
  | .fz (.int i) => some (some i, p.2)
  | _ => none := rfl
@[simp] theorem r_eSl {h : D → Option Int → Option Int → Option D} {l o : M (Option Int)} : eSl h a l o ρ = (a ρ).bind fun p => (l p.2).bind fun p1 => (o p1.2).bind fun p2 => (look p2.2 (stl p.1)).bind fun x => (h x p1.1 p2.1).bind fun z => some (.fz z, p2.2) := rfl
@[simp] theorem r_eCall {h : Fn} {fs : List Bool} : eCall h fs ms ρ = (ms ρ).bind fun p => (ag1 fs p.1 p.2).bind fun q => (ag2 q.2 q.1).bind fun gs => if (agI q.1).Nodup then (h gs).bind fun z => match z.1 with
  | .bw _ => none
  | w => some (w, puts q.2 (agI q.1) z.2) else none := rfl
@[simp] theorem r_look1 {x : D} : look ρ (.fz x) = some x := rfl
@[simp] theorem r_look2 {x : List D} : look ρ (.fr x) = some (.lst x) := rfl
@[simp] theorem r_look3 {i : Nat} : look ρ (.bw i) = match ρ[i]? with
  | some (.ow xs) => some (.lst xs)
  | some (.io xs) => some (.lst xs)
  | _ => none := rfl
@[simp] theorem r_frz1 {x : D} : frz ρ (.fz x) = some (x, ρ) := rfl
@[simp] theorem r_frz2 {x : List D} : frz ρ (.fr x) = some (.lst x, ρ) := rfl
@[simp] theorem r_frz3 {i : Nat} : frz ρ (.bw i) = match ρ[i]? with
    | some (.ow xs) => some (.lst xs, ρ.set i (.d (.lst xs)))
    | _ => none := rfl
@[simp] theorem r_stl1 {x : D} : stl (.fz x) = .fz x := rfl
@[simp] theorem r_stl2 {x : List D} : stl (.fr x) = .fz (.lst x) := rfl
@[simp] theorem r_stl3 {x : Nat} : stl (.bw x) = .bw x := rfl
@[simp] theorem r_looks0 : looks ρ [] = some [] := rfl
@[simp] theorem r_looks1 {r : Vl} {rs : List Vl} : looks ρ (r :: rs) = (look ρ r).bind fun x => (looks ρ rs).bind fun xs => some (x :: xs) := rfl
@[simp] theorem r_frzs0 : frzs ρ [] = some ([], ρ) := rfl
@[simp] theorem r_frzs1 {r : Vl} {rs : List Vl} : frzs ρ (r :: rs) = (frz ρ r).bind fun p => (frzs p.2 rs).bind fun q => some (p.1 :: q.1, q.2) := rfl
@[simp] theorem r_sNx : sNx ρ = some (.nx, ρ) := rfl
@[simp] theorem r_sBk : sBk ρ = some (.bk, ρ) := rfl
@[simp] theorem r_sSeq : sSeq s s' ρ = (s ρ).bind fun p => match p.1 with
  | .nx => s' p.2
  | fl => some (fl, p.2) := rfl
@[simp] theorem r_sIf : sIf t s s' ρ = (t ρ).bind fun p => if p.1 = true then s p.2 else s' p.2 := rfl
@[simp] theorem r_sRet : sRet a ρ = (a ρ).bind fun p => match p.1 with
  | .bw i => match p.2[i]? with
    | some (.ow xs) => some (.rt (.fr xs), p.2)
    | _ => none
  | r => some (.rt r, p.2) := rfl
@[simp] theorem r_sDrop : sDrop a ρ = (a ρ).bind fun p => some (.nx, p.2) := rfl
@[simp] theorem r_asg {i : Nat} {r : Vl} : asg i r ρ = if ioQ ρ[i]? = true then none else match r with
    | .fz x => some (ρ.set i (.d x))
    | .fr xs => some (ρ.set i (.ow xs))
    | .bw j => (frz ρ (.bw j)).bind fun p => some (p.2.set i (.d p.1)) := by
  unfold asg
  cases h : ρ[i]? with
  | none => rfl
  | some s => cases s <;> rfl
@[simp] theorem r_sAsg {i : Nat} : sAsg i a ρ = (a ρ).bind fun p => (asg i p.1 p.2).bind fun ρ2 => some (.nx, ρ2) := rfl
@[simp] theorem r_own {i : Nat} : own? ρ i = match ρ[i]? with
  | some (.ow xs) => some xs
  | some (.io xs) => some xs
  | _ => none := rfl
@[simp] theorem r_put {i : Nat} {xs : List D} : put ρ i xs = match ρ[i]? with
  | some (.ow _) => ρ.set i (.ow xs)
  | some (.io _) => ρ.set i (.io xs)
  | _ => ρ := rfl
@[simp] theorem r_puts0 {xs : List (List D)} : puts ρ [] xs = ρ := by unfold puts; rfl
@[simp] theorem r_puts1 {i : Nat} {is : List Nat} {x : List D} {xs : List (List D)} : puts ρ (i :: is) (x :: xs) = puts (put ρ i x) is xs := rfl
@[simp] theorem r_sApp {i : Nat} : sApp i a ρ = (own? ρ i).bind fun _ => (a ρ).bind fun p => (frz p.2 (stl p.1)).bind fun q => (own? q.2 i).bind fun xs => if xs.length < lim then some (.nx, put q.2 i (xs ++ [q.1])) else none := rfl
@[simp] theorem r_sSetI {i : Nat} : sSetI i a b ρ = (b ρ).bind fun p => (frz p.2 (stl p.1)).bind fun p1 => (own? p1.2 i).bind fun _ => (a p1.2).bind fun p2 => match p2.1 with
  | .fz (.int k) => (own? p2.2 i).bind fun xs => (ixN xs.length k).bind fun j => some (.nx, put p2.2 i (xs.set j p1.1))
  | _ => none := rfl
@[simp] theorem r_gN {i : Nat} {x : D} : gN i x ρ = asg i (.fz x) ρ := rfl
@[simp] theorem r_ag0 {fs : List Bool} : ag1 fs [] ρ = some ([], ρ) := by unfold ag1; rfl
@[simp] theorem r_ag1 {fs : List Bool} {r : Vl} {rs : List Vl} : ag1 fs (r :: rs) ρ = if fs.headD false = true then (match r with
    | .bw i => (ag1 fs.tail rs ρ).bind fun p => some (.inr i :: p.1, p.2)
    | _ => none) else (frz ρ r).bind fun p => (ag1 fs.tail rs p.2).bind fun q => some (.inl p.1 :: q.1, q.2) := by
  conv => lhs; unfold ag1
  all_goals rfl
@[simp] theorem r_ag20 : ag2 ρ [] = some [] := rfl
@[simp] theorem r_ag21 {x : D} {r : List (D ⊕ Nat)} : ag2 ρ (.inl x :: r) = (ag2 ρ r).bind fun gs => some (.da x :: gs) := rfl
@[simp] theorem r_ag22 {i : Nat} {r : List (D ⊕ Nat)} : ag2 ρ (.inr i :: r) = (own? ρ i).bind fun xs => (ag2 ρ r).bind fun gs => some (.li xs :: gs) := rfl
@[simp] theorem r_agI0 : agI [] = [] := rfl
@[simp] theorem r_agI1 {x : D} {r : List (D ⊕ Nat)} : agI (.inl x :: r) = agI r := rfl
@[simp] theorem r_agI2 {i : Nat} {r : List (D ⊕ Nat)} : agI (.inr i :: r) = i :: agI r := rfl
@[simp] theorem r_iSq : iSq a ρ = (a ρ).bind fun p => (frz p.2 (stl p.1)).bind fun q => (itemsOf q.1).bind fun xs => some (xs, q.2) := rfl
@[simp] theorem r_iR1 : iR1 ms ρ = (ms ρ).bind fun p => match p.1 with
  | [.fz (.int j)] => if -(2 ^ 62) ≤ j ∧ j < 2 ^ 62 then some (rngL 0 j.toNat, p.2) else none
  | _ => none := rfl
@[simp] theorem r_itm1 {xs : List D} : itemsOf (.lst xs) = some xs := rfl
@[simp] theorem r_itm2 {xs : List D} : itemsOf (.tup xs) = some xs := rfl
@[simp] theorem r_itm3 {xs : List Nat} : itemsOf (.str xs) = some (xs.map fun c => .str [c]) := rfl
@[simp] theorem r_itm4 {xs : List Int} : itemsOf (.scr xs) = some (xs.map .int) := rfl
@[simp] theorem r_slOf1 {x : D} : slOf (.da x) = .d x := rfl
@[simp] theorem r_slOf2 {x : List D} : slOf (.li x) = .io x := rfl
@[simp] theorem r_outs0 {r : Rho} : outsOf [] r = [] := by cases r <;> rfl
@[simp] theorem r_outs1 {x : D} {gs : List Ag} {sl : Sl} {r : Rho} : outsOf (.da x :: gs) (sl :: r) = outsOf gs r := by cases sl <;> rfl
@[simp] theorem r_outs2 {x ys : List D} {gs : List Ag} {r : Rho} : outsOf (.li x :: gs) (.io ys :: r) = ys :: outsOf gs r := rfl
theorem r_fnS {n nl : Nat} {gs : List Ag} (h : gs.length = n) : fnS n nl s gs = (s (gs.map slOf ++ List.replicate (nl - n) .no)).bind fun p => (match p.1 with
  | .nx => some (.fz .non, outsOf gs p.2)
  | .rt (.fz x) => some (.fz x, outsOf gs p.2)
  | .rt (.fr x) => some (.fr x, outsOf gs p.2)
  | _ => none) := by
  unfold fnS
  rw [if_pos h]
  all_goals rfl
@[simp] theorem lim_val : lim = 16777216 := rfl
@[simp] theorem r_add1 {i j : Int} : fAdd (.int i) (.int j) = some (.int (i + j)) := rfl
@[simp] theorem r_add2 {i j : List Nat} : fAdd (.str i) (.str j) = if i.length + j.length ≤ lim then some (.str (i ++ j)) else none := by
  show orF _ _ _ _ = _
  unfold orF fInt fCatS
  dsimp only
  split
  · rename_i h; exact h.symm
  · rename_i h; rw [h]; rfl
@[simp] theorem r_add3 {i j : List D} : fAdd (.lst i) (.lst j) = if i.length + j.length ≤ lim then some (.lst (i ++ j)) else none := by
  show orF _ _ _ _ = _
  unfold orF fInt fCatS fCatL fCatT
  dsimp only
  split
  · rename_i h; exact h.symm
  · rename_i h; rw [h]
@[simp] theorem r_sub {i j : Int} : fSub (.int i) (.int j) = some (.int (i - j)) := rfl
@[simp] theorem r_mul {i j : Int} : fMul (.int i) (.int j) = if cMul i j = true then some (.int (i * j)) else none := by
  show orF _ _ _ _ = _
  unfold orF fMulS fIntC
  by_cases h : cMul i j = true
  · simp [h]
  · simp [h]
@[simp] theorem r_muls {c : Nat} {n : Int} : fMul (.str [c]) (.int n) = if -1000000 ≤ n ∧ n ≤ 1000000 then some (.str (List.replicate n.toNat c)) else none := rfl
@[simp] theorem r_lts {i j : List Nat} : fLt (.str i) (.str j) = some (.bl (decide (i < j))) := rfl
@[simp] theorem r_div {i j : Int} : fDiv (.int i) (.int j) = if 0 < j ∧ j < 1073741824 then some (.int (i / j)) else none := by
  show (if decide _ = true then _ else _) = _
  simp only [decide_eq_true_eq]
@[simp] theorem r_mod {i j : Int} : fMod (.int i) (.int j) = if 0 < j then some (.int (i % j)) else none := by
  show (if decide _ = true then _ else _) = _
  simp only [decide_eq_true_eq]
@[simp] theorem r_pow {i j : Int} : fPow (.int i) (.int j) = if 0 ≤ j ∧ j ≤ 1000000 ∧ i.natAbs < 18446744073709551616 then some (.int (i ^ j.toNat)) else none := by
  show (if decide _ = true then _ else _) = _
  simp only [decide_eq_true_eq]
@[simp] theorem r_lt {i j : Int} : fLt (.int i) (.int j) = some (.bl (decide (i < j))) := rfl
@[simp] theorem r_le {i j : Int} : fLe (.int i) (.int j) = some (.bl (decide (i ≤ j))) := rfl
@[simp] theorem r_gt {i j : Int} : fGt (.int i) (.int j) = some (.bl (decide (j < i))) := rfl
@[simp] theorem r_ge {i j : Int} : fGe (.int i) (.int j) = some (.bl (decide (j ≤ i))) := rfl
@[simp] theorem r_eqi {i j : Int} : fEq (.int i) (.int j) = some (.bl (decide (i = j))) := rfl
@[simp] theorem r_eqs {i j : List Nat} : fEq (.str i) (.str j) = some (.bl (decide (i = j))) := rfl
@[simp] theorem r_eqb {i j : Bool} : fEq (.bl i) (.bl j) = some (.bl (decide (i = j))) := rfl
@[simp] theorem r_nei {i j : Int} : fNe (.int i) (.int j) = some (.bl (!decide (i = j))) := rfl
@[simp] theorem r_nes {i j : List Nat} : fNe (.str i) (.str j) = some (.bl (!decide (i = j))) := rfl
@[simp] theorem r_neb {i j : Bool} : fNe (.bl i) (.bl j) = some (.bl (!decide (i = j))) := rfl
@[simp] theorem r_isb {i j : Bool} : fIs (.bl i) (.bl j) = some (.bl (decide (i = j))) := rfl
@[simp] theorem r_ntb {i j : Bool} : fNt (.bl i) (.bl j) = some (.bl (!decide (i = j))) := rfl
@[simp] theorem r_ins {c : Nat} {z : List Nat} : fIn (.str [c]) (.str z) = some (.bl (decide (c ∈ z))) := rfl
@[simp] theorem r_nis {c : Nat} {z : List Nat} : fNi (.str [c]) (.str z) = some (.bl (!decide (c ∈ z))) := rfl
@[simp] theorem r_ixl {xs : List D} {i : Int} : fIx (.lst xs) (.int i) = atI xs i := by
  show orF _ _ _ _ = _
  unfold orF fIxL fIxT fIxS
  dsimp only
  split
  · rename_i h; exact h.symm
  · rename_i h; rw [h]
@[simp] theorem r_ixt {xs : List D} {i : Int} : fIx (.tup xs) (.int i) = atI xs i := by
  show orF _ _ _ _ = _
  unfold orF fIxL fIxT fIxS
  dsimp only
  split
  · rename_i h; exact h.symm
  · rename_i h; rw [h]
@[simp] theorem r_ixs {xs : List Nat} {i : Int} : fIx (.str xs) (.int i) = if xs.length ≤ lim then (atI xs i).bind fun c => some (.str [c]) else none := by
  show orF _ _ _ _ = _
  unfold orF fIxL fIxT fIxS
  rfl
@[simp] theorem r_sll {xs : List D} {l u : Option Int} : fSl (.lst xs) l u = some (.lst (cutL xs l u)) := rfl
@[simp] theorem r_sls {xs : List Nat} {l u : Option Int} : fSl (.str xs) l u = if xs.length ≤ lim then some (.str (cutL xs l u)) else none := rfl
@[simp] theorem r_neg {i : Int} : fNeg (.int i) = some (.int (-i)) := rfl
@[simp] theorem r_len1 {xs : List Nat} : cLen [.str xs] = if xs.length ≤ lim then some (.int xs.length) else none := rfl
@[simp] theorem r_len2 {xs : List D} : cLen [.lst xs] = some (.int xs.length) := rfl
@[simp] theorem r_len3 {xs : List D} : cLen [.tup xs] = some (.int xs.length) := rfl
@[simp] theorem r_int1 {i : Int} : cInt [.int i] = some (.int i) := rfl
@[simp] theorem atI_zero {α : Type} {x : α} {xs : List α} : atI (x :: xs) 0 = some x := by
  unfold atI ixN
  simp
@[simp] theorem ixN_lit {n k : Nat} : ixN n (no_index (OfNat.ofNat k : Int)) = if k < n then some k else none := by
  unfold ixN
  show (if (0 : Int) ≤ ((k : Nat) : Int) then (if ((k : Nat) : Int) < n then some ((k : Nat) : Int).toNat else none) else _) = _
  rw [if_pos (by omega)]
  by_cases h : k < n
  · rw [if_pos h, if_pos (by omega)]; simp
  · rw [if_neg h, if_neg (by omega)]
@[simp] theorem ixN_zero {n : Nat} : ixN n 0 = if 0 < n then some 0 else none := ixN_lit (k := 0)
@[simp] theorem ixN_one {n : Nat} : ixN n 1 = if 1 < n then some 1 else none := ixN_lit (k := 1)
theorem atI_lit' {α : Type} {xs : List α} {k : Nat} : atI xs ((k : Nat) : Int) = xs[k]? := by
  unfold atI
  have := ixN_lit (n := xs.length) (k := k)
  rw [show ixN xs.length ((k : Nat) : Int) = if k < xs.length then some k else none from this]
  by_cases h : k < xs.length
  · rw [if_pos h]; rfl
  · rw [if_neg h, List.getElem?_eq_none (by omega)]; rfl
@[simp] theorem atI_lit {α : Type} {xs : List α} {k : Nat} : atI xs (no_index (OfNat.ofNat k : Int)) = xs[k]? := atI_lit' (k := k)
@[simp] theorem atI_one {α : Type} {xs : List α} : atI xs (1 : Int) = xs[1]? := atI_lit' (k := 1)
end
noncomputable def lawNextB : S := (sSeq (sAsg 2 (eBin fIx (eVar 0) (eC (.int 0))))
  (sSeq (sIf (tE (eBin fLt (eVar 2) (eBlt cLen (aCons (eBin fIx (eVar 0) (eC (.int 3))) aNil)))) (sSeq (sSetI 0 (eC (.int 0)) (eBin fAdd (eVar 2) (eC (.int 1))))
  (sRet (eBin fMod (eBlt cInt (aCons (eBin fIx (eBin fIx (eVar 0) (eC (.int 3))) (eVar 2)) aNil)) (eVar 1)))) sNx)
  (sSeq (sSetI 0 (eC (.int 1)) (eBin fMod (eBlt cInt (aCons (eBin fAdd (eBin fMul (eBin fIx (eVar 0) (eC (.int 1))) (eC (.int 48271))) (eC (.int 12345))) aNil)) (eC (.int 2147483647))))
  (sSeq (sSetI 0 (eC (.int 2)) (eBin fMod (eBlt cInt (aCons (eBin fAdd (eBin fMul (eBin fIx (eVar 0) (eC (.int 2))) (eC (.int 69621))) (eC (.int 777))) aNil)) (eC (.int 2147483629))))
  (sRet (eBin fMod (eBlt cInt (aCons (eBin fAdd (eBin fDiv (eBin fIx (eVar 0) (eC (.int 1))) (eC (.int 64))) (eBin fDiv (eBin fIx (eVar 0) (eC (.int 2))) (eC (.int 128)))) aNil)) (eVar 1)))))))
noncomputable def lawNext : Fn := fnS 2 3 lawNextB
structure DrE (e : Int) (xs : List D) : Prop where
  ex : ∃ (k a b : Int) (ds : List Int), xs = [.int k, .int a, .int b, .lst (ds.map .int), .int e] ∧ 0 ≤ k
theorem cMul_r {i j : Int} (h : -18446744073709551616 < j ∧ j < 18446744073709551616) : cMul i j = true := by
  unfold cMul
  rw [decide_eq_true h, Bool.or_true]
theorem ixN_nat {n k : Nat} (h : k < n) : ixN n (k : Int) = some k := by
  unfold ixN
  rw [if_pos (by omega), if_pos (by omega)]
  simp
theorem atI_int {α : Type} {xs : List α} {i : Int} (h0 : 0 ≤ i) (h1 : i < xs.length) : atI xs i = some (xs[i.toNat]'(by omega)) := by
  unfold atI
  have : ixN xs.length i = some i.toNat := by
    unfold ixN
    rw [if_pos h0, if_pos h1]
  rw [this]
  simp
theorem next_okE {xs : List D} {m e : Int} (h : DrE e xs) (hm : 0 < m) : ∃ r ys, lawNext [.li xs, .da (.int m)] = some (.fz (.int r), [ys]) ∧ 0 ≤ r ∧ r < m ∧ DrE e ys := by
  obtain ⟨k, a, b, ds, rfl, hk⟩ := h.ex
  by_cases hlt : k < (ds.length : Int)
  · refine ⟨(ds[k.toNat]'(by omega)) % m, [.int (k + 1), .int a, .int b, .lst (ds.map .int), .int e], ?_, Int.emod_nonneg _ (by omega), Int.emod_lt_of_pos _ hm, ⟨_, _, _, _, rfl, by omega⟩⟩
    have e1 : atI (ds.map D.int) k = some (.int (ds[k.toNat]'(by omega))) := by
      rw [atI_int hk (by simpa using hlt)]
      simp
    rw [lawNext, r_fnS (by rfl)]
    simp [lawNextB, hlt, hm, e1]
  · refine ⟨((a * 48271 + 12345) % 2147483647 / 64 + (b * 69621 + 777) % 2147483629 / 128) % m, [.int k, .int ((a * 48271 + 12345) % 2147483647), .int ((b * 69621 + 777) % 2147483629), .lst (ds.map .int), .int e], ?_, Int.emod_nonneg _ (by omega), Int.emod_lt_of_pos _ hm, ⟨_, _, _, _, rfl, hk⟩⟩
    have c1 : cMul a 48271 = true := cMul_r (by decide)
    have c2 : cMul b 69621 = true := cMul_r (by decide)
    rw [lawNext, r_fnS (by rfl)]
    simp [lawNextB, hlt, hm, c1, c2]
noncomputable def lawDrawI : S := (sIf (tE (eBin fGt (eVar 5) (eC (.int 0)))) (sSeq (sApp 1 (eBin fMod (eBlt cInt (aCons (eVar 5) aNil)) (eC (.int 5040))))
  (sAsg 5 (eBin fDiv (eVar 5) (eC (.int 5040))))) sNx)
noncomputable def lawDrawL : S := (sSeq (sAsg 2 (eBin fMod (eBlt cInt (aCons (eBin fAdd (eBin fMul (eVar 2) (eC (.int 48271))) (eVar 4)) aNil)) (eC (.int 2147483647))))
  (sSeq (sAsg 3 (eBin fMod (eBlt cInt (aCons (eBin fAdd (eBin fMul (eVar 3) (eC (.int 69621))) (eBin fDiv (eVar 4) (eC (.int 1009)))) aNil)) (eC (.int 2147483629))))
  (sSeq (sAsg 5 (eVar 4))
  (sSeq (sIf (tE (eBin fLt (eVar 4) (eBin fPow (eC (.int 10)) (eC (.int 18))))) (sAsg 5 (eC (.int 0))) sNx)
  (sFor (iR1 (aCons (eC (.int 60)) aNil)) (gN 6) lawDrawI)))))
noncomputable def lawDrawB : S := (sSeq (sAsg 1 (eLst aNil))
  (sSeq (sAsg 2 (eC (.int 7)))
  (sSeq (sAsg 3 (eC (.int 11)))
  (sSeq (sFor (iSq (eVar 0)) (gN 4) lawDrawL)
  (sRet (eLst (aCons (eC (.int 0)) (aCons (eVar 2) (aCons (eVar 3) (aCons (eVar 1) (aCons (eC (.int 3)) aNil)))))))))))
noncomputable def lawDraw : Fn := fnS 1 7 lawDrawB
theorem rngL_get {lo : Int} {n i : Nat} {x : D} (h : (rngL lo n)[i]? = some x) : i < n ∧ x = .int (lo + i) := by
  unfold rngL at h
  rw [List.getElem?_map] at h
  cases e : (List.range n)[i]? with
  | none => rw [e] at h; cases h
  | some j =>
    rw [e] at h
    obtain ⟨h1, h2⟩ := List.getElem?_eq_some_iff.mp e
    rw [List.length_range] at h1
    rw [List.getElem_range] at h2
    cases h
    exact ⟨h1, by rw [h2]⟩
theorem rngL_len {lo : Int} {n : Nat} : (rngL lo n).length = n := by unfold rngL; simp
theorem draw_okE {ns : List Int} (h : ns.length ≤ 63) : ∃ xs, lawDraw [.da (.scr ns)] = some (.fr xs, []) ∧ DrE 3 xs := by
  have key : Sv lawDrawB [.d (.scr ns), .no, .no, .no, .no, .no, .no] fun fl ρ' => ∃ xs, fl = .rt (.fr xs) ∧ DrE 3 xs := by
    refine sv_seq_eq (ρ1 := [.d (.scr ns), .ow [], .no, .no, .no, .no, .no]) (by simp) ?_
    refine sv_seq_eq (ρ1 := [.d (.scr ns), .ow [], .d (.int 7), .no, .no, .no, .no]) (by simp) ?_
    refine sv_seq_eq (ρ1 := [.d (.scr ns), .ow [], .d (.int 7), .d (.int 11), .no, .no, .no]) (by simp) ?_
    have hl : ∃ ρ', sFor (iSq (eVar 0)) (gN 4) lawDrawL [.d (.scr ns), .ow [], .d (.int 7), .d (.int 11), .no, .no, .no] = some (.nx, ρ') ∧ ∃ (ds : List Int) (a b : Int) (s4 s5 s6 : Sl), ρ' = [.d (.scr ns), .ow (ds.map .int), .d (.int a), .d (.int b), s4, s5, s6] ∧ ds.length ≤ 60 * (ns.map D.int).length ∧ ioQ (some s4) = false ∧ ioQ (some s5) = false ∧ ioQ (some s6) = false := by
      refine sFor_inv (fun i ρ => ∃ (ds : List Int) (a b : Int) (s4 s5 s6 : Sl), ρ = [.d (.scr ns), .ow (ds.map .int), .d (.int a), .d (.int b), s4, s5, s6] ∧ ds.length ≤ 60 * i ∧ ioQ (some s4) = false ∧ ioQ (some s5) = false ∧ ioQ (some s6) = false) (by simp) ⟨[], 7, 11, .no, .no, .no, rfl, by simp, rfl, rfl, rfl⟩ ?_
      rintro i x hx ρ ⟨ds, a, b, s4, s5, s6, rfl, hd, h4, h5, h6⟩
      rw [List.getElem?_map] at hx
      obtain ⟨n, hn, rfl⟩ : ∃ n, ns[i]? = some n ∧ x = .int n := by
        cases e : ns[i]? with
        | none => rw [e] at hx; cases hx
        | some n => rw [e] at hx; cases hx; exact ⟨n, rfl, rfl⟩
      have hi : i < 63 := by
        have := (List.getElem?_eq_some_iff.mp hn).1
        omega
      refine ⟨[.d (.scr ns), .ow (ds.map .int), .d (.int a), .d (.int b), .d (.int n), s5, s6], by simp [h4], ?_⟩
      have c1 : cMul a 48271 = true := cMul_r (by decide)
      have c2 : cMul b 69621 = true := cMul_r (by decide)
      show Sv _ _ fun fl ρ2 => (fl = .nx ∨ fl = .ct) ∧ _
      refine sv_seq_eq (ρ1 := [.d (.scr ns), .ow (ds.map .int), .d (.int ((a * 48271 + n) % 2147483647)), .d (.int b), .d (.int n), s5, s6]) (by simp [c1]) ?_
      refine sv_seq_eq (ρ1 := [.d (.scr ns), .ow (ds.map .int), .d (.int ((a * 48271 + n) % 2147483647)), .d (.int ((b * 69621 + n / 1009) % 2147483629)), .d (.int n), s5, s6]) (by simp [c2]) ?_
      refine sv_seq_eq (ρ1 := [.d (.scr ns), .ow (ds.map .int), .d (.int ((a * 48271 + n) % 2147483647)), .d (.int ((b * 69621 + n / 1009) % 2147483629)), .d (.int n), .d (.int n), s6]) (by simp [h5]) ?_
      refine sv_seq_eq (ρ1 := [.d (.scr ns), .ow (ds.map .int), .d (.int ((a * 48271 + n) % 2147483647)), .d (.int ((b * 69621 + n / 1009) % 2147483629)), .d (.int n), .d (.int (if n < 10 ^ 18 then 0 else n)), s6]) ?_ ?_
      · by_cases q : n < 1000000000000000000
        · simp [q]
        · simp [q]
      generalize (if n < (10 ^ 18 : Int) then 0 else n) = r0
      generalize (a * 48271 + n) % 2147483647 = a1
      generalize (b * 69621 + n / 1009) % 2147483629 = b1
      have hl2 : ∃ ρ', sFor (iR1 (aCons (eC (.int 60)) aNil)) (gN 6) lawDrawI [.d (.scr ns), .ow (ds.map .int), .d (.int a1), .d (.int b1), .d (.int n), .d (.int r0), s6] = some (.nx, ρ') ∧ ∃ (ds' : List Int) (r : Int) (s6 : Sl), ρ' = [.d (.scr ns), .ow (ds'.map .int), .d (.int a1), .d (.int b1), .d (.int n), .d (.int r), s6] ∧ ds'.length ≤ 60 * i + (rngL 0 60).length ∧ ioQ (some s6) = false := by
        refine sFor_inv (fun j ρ => ∃ (ds' : List Int) (r : Int) (s6 : Sl), ρ = [.d (.scr ns), .ow (ds'.map .int), .d (.int a1), .d (.int b1), .d (.int n), .d (.int r), s6] ∧ ds'.length ≤ 60 * i + j ∧ ioQ (some s6) = false) (by simp) ⟨ds, r0, s6, rfl, by omega, h6⟩ ?_
        rintro j x hx ρ ⟨ds', r, s6, rfl, hd', h6⟩
        obtain ⟨hj, rfl⟩ := rngL_get hx
        have hj : j < 60 := hj
        refine ⟨[.d (.scr ns), .ow (ds'.map .int), .d (.int a1), .d (.int b1), .d (.int n), .d (.int r), .d (.int (0 + j))], by simp [h6], ?_⟩
        have hl : (ds'.map D.int).length < lim := by
          rw [List.length_map]
          show _ < 16777216
          omega
        by_cases q : 0 < r
        · refine ⟨.nx, [.d (.scr ns), .ow ((ds' ++ [r % 5040]).map .int), .d (.int a1), .d (.int b1), .d (.int n), .d (.int (r / 5040)), .d (.int (0 + j))], ?_, .inl rfl, ds' ++ [r % 5040], r / 5040, .d (.int (0 + j)), rfl, by rw [List.length_append]; simp; omega, rfl⟩
          rw [List.length_map] at hl
          simp [lawDrawI, q, hl]
        · refine ⟨.nx, [.d (.scr ns), .ow (ds'.map .int), .d (.int a1), .d (.int b1), .d (.int n), .d (.int r), .d (.int (0 + j))], ?_, .inl rfl, ds', r, .d (.int (0 + j)), rfl, by omega, rfl⟩
          simp [lawDrawI, q]
      obtain ⟨ρ', e, ds', r', s6', rfl, hd', h6'⟩ := hl2
      rw [rngL_len] at hd'
      exact ⟨.nx, _, e, .inl rfl, ds', a1, b1, .d (.int n), .d (.int r'), s6', rfl, by omega, rfl, rfl, h6'⟩
    obtain ⟨ρ', e, ds, a, b, s4, s5, s6, rfl, hd, _⟩ := hl
    refine sv_seq_eq e ?_
    exact ⟨_, _, by simp; rfl, _, rfl, ⟨0, a, b, ds, rfl, by decide⟩⟩
  obtain ⟨fl, ρ', e, xs, rfl, hx⟩ := key
  refine ⟨xs, ?_, hx⟩
  rw [lawDraw, r_fnS (by rfl)]
  show (lawDrawB [.d (.scr ns), .no, .no, .no, .no, .no, .no]).bind _ = _
  rw [e]
  cases ρ' <;> rfl
end Sw
namespace Sw
open L2
theorem iR1_ok {ms : M (List Vl)} {ρ ρ' : Rho} {j : Int} (h : ms ρ = some ([.fz (.int j)], ρ')) (h0 : -1000000 ≤ j) (h1 : j ≤ 1000000) : iR1 ms ρ = some (rngL 0 j.toNat, ρ') := by
  have q : -(2 ^ 62) ≤ j ∧ j < 2 ^ 62 := ⟨Int.le_trans (by decide) h0, Int.lt_of_le_of_lt h1 (by decide)⟩
  unfold iR1
  rw [h]
  show (if _ then _ else _) = _
  rw [if_pos q]
theorem outs_dn {x : D} {gs : List Ag} (h : ∀ r, outsOf gs r = []) : ∀ r, outsOf (.da x :: gs) r = []
  | [] => rfl
  | s :: r => by rw [r_outs1]; exact h r
@[simp] theorem outs_d1 {x : D} {r : Rho} : outsOf [.da x] r = [] := outs_dn (fun _ => r_outs0) r
@[simp] theorem outs_d2 {x y : D} {r : Rho} : outsOf [.da x, .da y] r = [] := outs_dn (fun _ => outs_d1) r
@[simp] theorem outs_d3 {x y z : D} {r : Rho} : outsOf [.da x, .da y, .da z] r = [] := outs_dn (fun _ => outs_d2) r
@[simp] theorem outs_d4 {x y z w : D} {r : Rho} : outsOf [.da x, .da y, .da z, .da w] r = [] := outs_dn (fun _ => outs_d3) r
/-- a comprehension whose turns change nothing else -/
theorem lcM_pure {vs : List Nat} {g : D → Rho → Option Rho} {t : M Bool} {e : M Vl} {ρ : Rho} (p : D → Bool) (h : D → D) : ∀ (xs acc : List D),
    (∀ x ∈ xs, ∃ ρ1, g x ρ = some ρ1 ∧ t ρ1 = some (p x, ρ1) ∧ (p x = true → e ρ1 = some (.fz (h x), ρ1)) ∧ wipeR ρ1 vs = ρ) → acc.length + xs.length ≤ lim → lcM vs g t e xs acc ρ = some (acc ++ (xs.filter p).map h, ρ)
  | [], acc, _, _ => by simp [lcM]
  | x :: xs, acc, hx, hl => by
    obtain ⟨ρ1, e1, e2, e3, e4⟩ := hx x List.mem_cons_self
    rw [List.length_cons] at hl
    unfold lcM
    rw [e1]
    show (t ρ1).bind _ = _
    rw [e2]
    show (if p x = true then _ else _) = _
    by_cases q : p x = true
    · rw [if_pos q, e3 q]
      show (if acc.length < lim then _ else _) = _
      rw [if_pos (by omega)]
      show lcM vs g t e xs (acc ++ [h x]) (wipeR ρ1 vs) = _
      rw [e4, lcM_pure p h xs _ (fun y hy => hx y (List.mem_cons_of_mem _ hy)) (by rw [List.length_append, List.length_singleton]; omega), List.filter_cons, if_pos q]
      simp
    · rw [if_neg q]
      show lcM vs g t e xs acc (wipeR ρ1 vs) = _
      rw [e4, lcM_pure p h xs _ (fun y hy => hx y (List.mem_cons_of_mem _ hy)) (by omega), List.filter_cons, if_neg q]
/-- .. and one with an invariant of the slots and of the list so far -/
theorem lcM_inv {vs : List Nat} {g : D → Rho → Option Rho} {t : M Bool} {e : M Vl} (I : Nat → List D → Rho → Prop) : ∀ (xs acc : List D) (k : Nat) (ρ : Rho), I k acc ρ →
    (∀ (i : Nat) (x : D), xs[i]? = some x → ∀ acc ρ, I (k + i) acc ρ → ∃ ρ1, g x ρ = some ρ1 ∧ ∃ b ρ2, t ρ1 = some (b, ρ2) ∧ (if b = true then ∃ r ρ3 z ρ4, e ρ2 = some (r, ρ3) ∧ frz ρ3 (stl r) = some (z, ρ4) ∧ acc.length < lim ∧ I (k + i + 1) (acc ++ [z]) (wipeR ρ4 vs) else I (k + i + 1) acc (wipeR ρ2 vs))) →
    ∃ acc' ρ', lcM vs g t e xs acc ρ = some (acc', ρ') ∧ I (k + xs.length) acc' ρ'
  | [], acc, k, ρ, h, _ => ⟨acc, ρ, rfl, h⟩
  | x :: xs, acc, k, ρ, h, step => by
    obtain ⟨ρ1, e1, b, ρ2, e2, h2⟩ := step 0 x rfl acc ρ h
    have next : ∀ (acc : List D) (ρ : Rho), I (k + 1) acc ρ → ∃ acc' ρ', lcM vs g t e xs acc ρ = some (acc', ρ') ∧ I (k + (x :: xs).length) acc' ρ' := fun acc ρ hI => by
      obtain ⟨acc', ρ', h3, h4⟩ := lcM_inv I xs acc (k + 1) ρ hI fun i y hy acc ρ h => by
        have := step (i + 1) y (by simpa using hy) acc ρ (by rw [show k + (i + 1) = k + 1 + i by omega]; exact h)
        rw [show k + (i + 1) + 1 = k + 1 + i + 1 by omega] at this
        exact this
      exact ⟨acc', ρ', h3, by rw [List.length_cons, show k + (xs.length + 1) = k + 1 + xs.length by omega]; exact h4⟩
    have un : lcM vs g t e (x :: xs) acc ρ = (g x ρ).bind fun ρ1 => (t ρ1).bind fun p => if p.1 = true then (e p.2).bind fun q => (frz q.2 (stl q.1)).bind fun z => if acc.length < lim then lcM vs g t e xs (acc ++ [z.1]) (wipeR z.2 vs) else none else lcM vs g t e xs acc (wipeR p.2 vs) := by
      conv => lhs; unfold lcM
    cases b with
    | true =>
      simp only [if_true] at h2
      obtain ⟨r, ρ3, z, ρ4, e3, e4, hl, h5⟩ := h2
      obtain ⟨acc', ρ', h6, h7⟩ := next _ _ h5
      refine ⟨acc', ρ', ?_, h7⟩
      rw [un, e1]
      show (t ρ1).bind _ = _
      rw [e2]
      show (e ρ2).bind _ = _
      rw [e3]
      show (frz ρ3 (stl r)).bind _ = _
      rw [e4]
      show (if acc.length < lim then _ else _) = _
      rw [if_pos hl]
      exact h6
    | false =>
      simp only [Bool.false_eq_true, if_false] at h2
      obtain ⟨acc', ρ', h6, h7⟩ := next _ _ h2
      refine ⟨acc', ρ', ?_, h7⟩
      rw [un, e1]
      show (t ρ1).bind _ = _
      rw [e2]
      exact h6
@[simp] theorem r_wipeR0 {ρ : Rho} : wipeR ρ [] = ρ := rfl
@[simp] theorem r_wipeR1 {ρ : Rho} {v : Nat} {vs : List Nat} : wipeR ρ (v :: vs) = (wipeR ρ vs).set v .no := rfl
@[simp] theorem r_backR0 {ρ0 ρ : Rho} : backR ρ0 ρ [] = ρ := rfl
@[simp] theorem r_backR1 {ρ0 ρ : Rho} {v : Nat} {vs : List Nat} : backR ρ0 ρ (v :: vs) = (backR ρ0 ρ vs).set v ((ρ0[v]?).getD .no) := rfl
@[simp] theorem r_plain1 : plainSl (some .no) = true := rfl
@[simp] theorem r_plain2 {x : D} : plainSl (some (.d x)) = true := rfl
theorem eLc_of {vs : List Nat} {src : M (List D)} {g : D → Rho → Option Rho} {t : M Bool} {e : M Vl} {ρ ρ1 ρ2 : Rho} {xs acc : List D} (h1 : src ρ = some (xs, ρ1)) (h2 : (vs.all fun v => plainSl ρ1[v]?) = true) (h3 : lcM vs g t e xs [] (wipeR ρ1 vs) = some (acc, ρ2)) : eLc vs src g t e ρ = some (.fr acc, backR ρ1 ρ2 vs) := by
  unfold eLc
  rw [h1]
  show (if _ then _ else _) = _
  rw [if_pos h2, h3]
  rfl
/-- join of a list of one-sign texts -/
theorem strsOf_map (cs : List (List Nat)) : strsOf (cs.map D.str) = some cs := by
  induction cs with
  | nil => rfl
  | cons c cs ih =>
    show (strsOf (cs.map D.str)).bind _ = _
    rw [ih]
    rfl
theorem join_nil : ∀ ys : List (List Nat), TL.joinL [] ys = ys.flatten
  | [] => rfl
  | [y] => by simp [TL.joinL]
  | y :: z :: r => by
    show y ++ ([] ++ TL.joinL [] (z :: r)) = _
    rw [join_nil (z :: r)]
    simp
theorem join_empty {cs : List (List Nat)} (h : (cs.map (·.length)).sum ≤ lim) : fJoin (.str []) [.lst (cs.map D.str)] = some (.str cs.flatten) := by
  unfold fJoin
  dsimp only
  rw [strsOf_map]
  show (if _ then _ else _) = _
  rw [if_pos (by simpa using h), join_nil]
/-- the texts of single signs -/
theorem flat1 : ∀ cs : List Nat, (cs.map fun c => [c]).flatten = cs
  | [] => rfl
  | c :: cs => by rw [List.map_cons, List.flatten_cons, flat1 cs]; rfl
theorem sum1 : ∀ cs : List Nat, ((cs.map fun c => [c]).map (·.length)).sum = cs.length
  | [] => rfl
  | c :: cs => by
    rw [List.map_cons, List.map_cons, List.sum_cons, sum1 cs, List.length_cons]
    show 1 + cs.length = cs.length + 1
    omega
theorem join_signs {cs : List Nat} (h : cs.length ≤ lim) : fJoin (.str []) [.lst (cs.map fun c => D.str [c])] = some (.str cs) := by
  have e : (cs.map fun c => D.str [c]) = (cs.map fun c => [c]).map D.str := by rw [List.map_map]; rfl
  rw [e, join_empty (by rw [sum1]; exact h), flat1]
theorem cnt3 {a b c : Nat} (hab : a ≠ b) (hac : a ≠ c) (hbc : b ≠ c) : ∀ n : Nat, ((List.range n).filter fun k => decide (k = a) || (decide (k = b) || decide (k = c))).length = (if a < n then 1 else 0) + (if b < n then 1 else 0) + (if c < n then 1 else 0)
  | 0 => by simp
  | n + 1 => by
    rw [List.range_succ, List.filter_append, List.length_append, cnt3 hab hac hbc n]
    by_cases q1 : n = a
    · subst q1; simp; (repeat' split) <;> omega
    · by_cases q2 : n = b
      · subst q2; simp [q1]; (repeat' split) <;> omega
      · by_cases q3 : n = c
        · subst q3; simp [q1, q2]; (repeat' split) <;> omega
        · simp [q1, q2, q3]
          (repeat' split) <;> omega
noncomputable def lawT1 : List Nat := [9, 10, 32, 33, 34, 35, 36, 38, 39, 40, 41, 42, 43, 44, 45, 46, 47, 48, 49, 50, 51, 52, 53, 54, 55, 56, 57, 58, 59, 60, 61, 62, 63, 64, 65, 66, 67, 68, 69, 70, 71, 72, 73, 74, 75, 76, 77, 78, 79, 80, 81, 82, 83, 84, 85, 86, 87, 88, 89, 90, 91, 92, 93, 94, 95, 96]
noncomputable def lawT2 : List Nat := [97, 98, 99, 100, 101, 102, 103, 104, 105, 106, 107, 108, 109, 110, 111, 112, 113, 114, 115, 116, 117, 118, 119, 120, 121, 122, 123, 124, 125, 126]
/-- the 96 signs -/
noncomputable def SGN : List Nat := lawT1 ++ lawT2
theorem SGN_len : SGN.length = 96 := by decide
noncomputable def lawSignsB : S := (sSeq (sAsg 0 (eC (.str lawT1)))
  (sRet (eBin fAdd (eVar 0) (eC (.str lawT2)))))
noncomputable def lawSigns : Fn := fnS 0 1 lawSignsB
theorem signs_ok : lawSigns [] = some (.fz (.str SGN), []) := by
  rw [lawSigns, r_fnS (by rfl)]
  simp [lawSignsB, SGN, show lawT1.length + lawT2.length ≤ lim by decide]
noncomputable def lawLetC : M Vl := (eLc [6] (iR1 (aCons (eC (.int 96)) aNil)) (gN 6) (tOr (tE (eBin fEq (eVar 6) (eVar 3))) (tOr (tE (eBin fEq (eVar 6) (eVar 4))) (tE (eBin fEq (eVar 6) (eVar 5))))) (eBin fIx (eVar 2) (eVar 6)))
noncomputable def lawLettersB : S := (sSeq (sAsg 1 (eCall lawNext [true, false] (aCons (eVar 0) (aCons (eC (.int 6)) aNil))))
  (sSeq (sIf (tE (eBin fEq (eVar 1) (eC (.int 0)))) (sRet (eC (.str [10, 97, 98]))) sNx)
  (sSeq (sIf (tE (eBin fEq (eVar 1) (eC (.int 1)))) (sRet (eC (.str [32, 97, 98]))) sNx)
  (sSeq (sIf (tE (eBin fEq (eVar 1) (eC (.int 2)))) (sRet (eC (.str [97, 98, 99]))) sNx)
  (sSeq (sAsg 2 (eCall lawSigns [] aNil))
  (sSeq (sAsg 3 (eCall lawNext [true, false] (aCons (eVar 0) (aCons (eC (.int 96)) aNil))))
  (sSeq (sAsg 4 (eBin fMod (eBlt cInt (aCons (eBin fAdd (eBin fAdd (eVar 3) (eC (.int 1))) (eCall lawNext [true, false] (aCons (eVar 0) (aCons (eC (.int 95)) aNil)))) aNil)) (eC (.int 96))))
  (sSeq (sAsg 5 (eBin fMod (eBlt cInt (aCons (eBin fAdd (eBin fAdd (eVar 3) (eC (.int 1))) (eCall lawNext [true, false] (aCons (eVar 0) (aCons (eC (.int 95)) aNil)))) aNil)) (eC (.int 96))))
  (sSeq (sIf (tE (eBin fEq (eVar 5) (eVar 4))) (sAsg 5 (eBin fMod (eBlt cInt (aCons (eBin fAdd (eVar 5) (eC (.int 1))) aNil)) (eC (.int 96)))) sNx)
  (sSeq (sIf (tE (eBin fEq (eVar 5) (eVar 3))) (sAsg 5 (eBin fMod (eBlt cInt (aCons (eBin fAdd (eVar 5) (eC (.int 1))) aNil)) (eC (.int 96)))) sNx)
  (sRet (eMet fJoin (eC (.str [])) (aCons lawLetC aNil)))))))))))))
noncomputable def lawLetters : Fn := fnS 1 7 lawLettersB
theorem SGN_at {r : Int} (h0 : 0 ≤ r) (h1 : r < 96) : atI SGN r = some (SGN[r.toNat]'(by rw [SGN_len]; omega)) := atI_int h0 (by rw [SGN_len]; omega)
theorem let_comp {f s t : Nat} {io : List D} {c : D} (hf : f < 96) (hs : s < 96) (ht : t < 96) (n1 : f ≠ s) (n2 : f ≠ t) (n3 : s ≠ t) :
    ∃ cs : List Nat, cs.length = 3 ∧ lawLetC [.io io, .d c, .d (.str SGN), .d (.int f), .d (.int s), .d (.int t), .no] = some (.fr (cs.map fun c => .str [c]), [.io io, .d c, .d (.str SGN), .d (.int f), .d (.int s), .d (.int t), .no]) ∧ cs.Sublist SGN := by
  refine ⟨((List.range 96).filter fun k => decide (k = f) || (decide (k = s) || decide (k = t))).map fun k => SGN.getD k 0, ?_, ?_, ?_⟩
  · rw [List.length_map, cnt3 n1 n2 n3]
    simp [hf, hs, ht]
  · have hl := lcM_pure (vs := [6]) (g := gN 6) (t := (tOr (tE (eBin fEq (eVar 6) (eVar 3))) (tOr (tE (eBin fEq (eVar 6) (eVar 4))) (tE (eBin fEq (eVar 6) (eVar 5)))))) (e := (eBin fIx (eVar 2) (eVar 6))) (ρ := [.io io, .d c, .d (.str SGN), .d (.int f), .d (.int s), .d (.int t), .no])
      (fun x => match x with
        | .int k => decide (k = f) || (decide (k = s) || decide (k = t))
        | _ => false) (fun x => match x with
        | .int k => .str [SGN.getD k.toNat 0]
        | _ => .non) (rngL 0 96) [] (fun x hx => ?_) (by rw [rngL_len]; decide)
    · rw [List.nil_append] at hl
      have e := eLc_of (vs := [6]) (src := iR1 (aCons (eC (.int 96)) aNil)) (ρ := [.io io, .d c, .d (.str SGN), .d (.int f), .d (.int s), .d (.int t), .no]) (ρ1 := [.io io, .d c, .d (.str SGN), .d (.int f), .d (.int s), .d (.int t), .no]) (xs := rngL 0 96) (by simp) (by simp) hl
      unfold lawLetC
      rw [e]
      refine congrArg some (Prod.ext (congrArg Vl.fr ?_) rfl)
      unfold rngL
      rw [List.filter_map, List.map_map, List.map_map]
      have e2 : ((fun x : D => match x with
        | .int k => decide (k = f) || (decide (k = s) || decide (k = t))
        | _ => false) ∘ fun i : Nat => D.int (0 + (i : Int))) = fun k => decide (k = f) || (decide (k = s) || decide (k = t)) := by
        funext k
        show (decide ((0 : Int) + k = f) || (decide ((0 : Int) + k = s) || decide ((0 : Int) + k = t))) = _
        congr 1
        · exact decide_eq_decide.mpr (by omega)
        · congr 1
          · exact decide_eq_decide.mpr (by omega)
          · exact decide_eq_decide.mpr (by omega)
      rw [e2]
      apply List.map_congr_left
      intro k _
      show D.str [SGN.getD ((0 : Int) + k).toNat 0] = _
      rw [show ((0 : Int) + k).toNat = k by omega]
      rfl
    · obtain ⟨i, hi⟩ := List.mem_iff_getElem?.mp hx
      obtain ⟨hi96, rfl⟩ := rngL_get hi
      refine ⟨[.io io, .d c, .d (.str SGN), .d (.int f), .d (.int s), .d (.int t), .d (.int (0 + i))], by simp, ?_, fun _ => ?_, by simp⟩
      · generalize (0 : Int) + i = z
        by_cases q1 : z = f
        · simp [q1]
        · by_cases q2 : z = s
          · simp [q1, q2]
          · simp [q1, q2]
      · have e := SGN_at (r := (0 : Int) + i) (by omega) (by omega)
        have hl : SGN.length ≤ lim := by rw [SGN_len]; decide
        simp only [r_eBin, r_eVar, List.getElem?_cons_succ, List.getElem?_cons_zero, Option.bind_some, r_stl1, r_look1, r_ixs, hl, if_true, e]
        rw [List.getD_eq_getElem?_getD, List.getElem?_eq_getElem (by rw [SGN_len]; omega)]
        rfl
  · have e : (List.range 96).map (fun k => SGN.getD k 0) = SGN := by decide
    have := (List.filter_sublist (p := fun k => decide (k = f) || (decide (k = s) || decide (k = t))) (l := List.range 96)).map (fun k => SGN.getD k 0)
    rw [e] at this
    exact this
end Sw
namespace Sw
open PySem PySem.Spec PyProof.Rows L2
noncomputable def tyN : D → String
  | .non => "NoneType"
  | .bl _ => "bool"
  | .int _ => "int"
  | .str _ => "str"
  | .lst _ => "list"
  | .tup _ => "tuple"
  | .scr _ => "list"
  | .obj _ _ _ => "object"
theorem tyx {K : Kx} {H F : Hp} {v : V} {x : D} (no : ∀ c ks xs, x ≠ .obj c ks xs) (s : Same F H) (h : Vw K H F v x) : TyX K H v (.type (tyN x)) := by
  cases x with
  | non => rw [vw_non h]; exact .base .non
  | bl b => rw [vw_bl h]; exact .base (.bl b)
  | int i => rw [vw_int h]; exact .base (.int i)
  | str t => rw [vw_str h]; exact .base (.str _)
  | lst xs => obtain ⟨a, vs, rfl, h1, _⟩ := h; exact .base (.lst h1)
  | tup xs =>
    cases (show Rep K F v (.tup xs) from h) with
    | tup h1 _ =>
      rcases same_t s h1 with (q | ⟨o, q⟩) | ⟨o, its, n, q, c, _⟩
      · exact .base (.tup q)
      · exact .fTuple q
      · exact .kTuple q c
  | scr xs =>
    cases (show Rep K F v (.scr xs) from h) with
    | scr h1 =>
      rcases s.seq h1 with (q | ⟨o, q⟩) | ⟨o, its, n, q, c, _⟩
      · exact .base (.lst q)
      · exact .base (.frz q)
      · exact .kList q c
  | obj c ks xs => exact absurd rfl (no c ks xs)
noncomputable def isO : D → Bool
  | .obj _ _ _ => true
  | _ => false
noncomputable def fIsi (T : String) : D → Option D := fun x => if isO x = true then none else (kitB (tyN x) T).bind fun b => some (.bl b)
theorem fIsi_no {T : String} {x z : D} (h : fIsi T x = some z) : (∀ c ks xs, x ≠ .obj c ks xs) ∧ ((kitB (tyN x) T).bind fun b => some (D.bl b)) = some z := by
  unfold fIsi at h
  split at h
  · cases h
  · rename_i n
    exact ⟨fun c ks xs z => n (by rw [z]; rfl), h⟩
section
variable {X : Cx} {a b c e : Expr} {ma mb mc me : M Vl} {pos p : Pos} {es : List Expr} {ms : M (List Vl)}
theorem se_isi {T : String} {y : Str} {p2 : Pos} (hm : X.mg "isinstance" = none) (hg : Gl X "isinstance") (hm2 : X.mg y = none) (hg2 : Gl X y) (hv : bootBuiltins y = some (.type T)) (ha : SE X a ma) (hn : y ≠ "__name__" := by decide) (hdb : (y == ("__debug__" : Str)) = false := by decide)
    (he : starEach [a, .Name y p2] X.env = (false, eval a X.env) :: starEach [.Name y p2] X.env := by rfl) (he2 : starEach [.Name y p2] X.env = (false, eval (.Name y p2) X.env) :: starEach [] X.env := by rfl) (hpl : (backTo pos (starEach [.Name y p2] X.env)).any (·.1) = false := by rfl) :
    SE X (.Call (.Name "isinstance" p) [a, .Name y p2] [] pos) (eUn (fIsi T) ma) := by
  have pT : PE X (.Name y p2) (tC (.ty T)) := pe_bltn hg2 hm2 hv rfl hn hdb
  refine pe_weak (pe_callB call_isi hg hm (by decide +kernel) (pa_cons ha (pa_cons pT pa_nil he2) he) (by decide) (by decide) he hpl) fun σ H Q ⟨G, ρ, F, r0, ρ', W, hm, q⟩ => ?_
  unfold eUn at hm
  obtain ⟨⟨x, ρ1⟩, e1, hm⟩ := Option.bind_eq_some_iff.mp hm
  obtain ⟨dx, e3, hm⟩ := Option.bind_eq_some_iff.mp hm
  obtain ⟨dz, e5, hm⟩ := Option.bind_eq_some_iff.mp hm
  cases hm
  refine tm_use W e1 fun v H1 F1 s1 R1 => ?_
  obtain ⟨no, e5⟩ := fIsi_no e5
  obtain ⟨bb, e6, e7⟩ := Option.bind_eq_some_iff.mp e5
  cases e7
  exact ⟨v, .ty T, _, _, bb, rfl, .ty T, tyx no s1.wd.sub (vw_of s1.wd R1 e3), kit_ty e6, q _ H1 F1 s1 (.bl bb)⟩
noncomputable def findC (s : List Nat) (c : Nat) : Int := if c ∈ s then (s.idxOf c : Int) else -1
noncomputable def fFind : D → List D → Option D
  | .str s, [.str [c]] => some (.int (findC s c))
  | _, _ => none
theorem find_txt (s : List Nat) (c : Nat) : Txt.find ⟨s.toArray⟩ ⟨#[c]⟩ = findC s c := by
  unfold Txt.find findC
  rcases PySem.StrLaws.occ_head ⟨s.toArray⟩ ⟨#[c]⟩ 1 (Nat.le_refl 1) with ⟨h1, h2⟩ | ⟨i, r, h1, h2, h3⟩
  · rw [h1, if_neg]
    intro hc
    obtain ⟨i, hi⟩ := List.mem_iff_getElem?.mp hc
    exact h2 i ((PySem.StrLaws.subAt_one _ c i).mpr (by simpa using hi))
  · rw [h1]
    have hi := (PySem.StrLaws.subAt_one _ c i).mp h2
    have hi : s[i]? = some c := by simpa using hi
    obtain ⟨hlt, hge⟩ := List.getElem?_eq_some_iff.mp hi
    have hm : c ∈ s := by rw [← hge]; exact List.getElem_mem hlt
    rw [if_pos hm]
    show ((i : Nat) : Int) = _
    have : s.idxOf c = i := by
      have hl : s.idxOf c < s.length := List.idxOf_lt_length_of_mem hm
      have hg : s[s.idxOf c] = c := List.getElem_idxOf hl
      by_cases q : s.idxOf c < i
      · exact absurd ((PySem.StrLaws.subAt_one ⟨s.toArray⟩ c (s.idxOf c)).mpr (by simpa [List.getElem?_eq_getElem hl] using hg)) (h3 _ q)
      · by_cases q2 : i < s.idxOf c
        · have := List.not_of_lt_findIdx (p := fun x => x == c) (xs := s) (i := i) (by simpa [List.idxOf] using q2)
          simp [hge] at this
        · omega
    rw [this]
theorem ms_find {K : Kx} : MetS K (fun x xs H Q => ∃ a b, x = .str a ∧ xs = [.str b] ∧ Q (.int (Txt.find a b)) H) fFind := by
  intro H F v vs x xs z s hx hxs e Q q
  unfold fFind at e
  split at e
  · cases e
    obtain ⟨u, rfl, hu⟩ := vws1 hxs
    rw [vw_str hx, vw_str hu]
    refine ⟨_, _, rfl, rfl, ?_⟩
    rw [find_txt]
    exact q _ H F (Alc.refl s) (.int _)
  · cases e
theorem se_find {o : Expr} {mo : M Vl} {apos cpos : Pos} (ho : SE X o mo) (ha : SA X [e] ms)
    (hbase : attributeBase o "find" X.env (eval o X.env) = eval o X.env := by rfl)
    (hfew : ((backTo cpos (starEach [e] X.env)).all (fun x => !x.1) && (backToKw cpos (keywordEach [] X.env)).all (fun x => x.1.isSome)
      && decide ([e].length + ([] : List Keyword).length + (if ([] : List Keyword).isEmpty then 0 else 1) < 30)) = true := by rfl)
    (hline : (apos.endLine == cpos.line) = true := by rfl) (hs : starEach [e] X.env = (false, eval e X.env) :: starEach [] X.env := by rfl) (hplain : (backTo cpos (starEach [] X.env)).any (·.1) = false := by rfl) :
    SE X (.Call (.Attribute o "find" apos) [e] [] cpos) (eMet fFind mo ms) := se_met PySem.F.slot_str_find PySem.F.type_str_find mt_find (fun x xs z h => by
  unfold fFind at h
  split at h
  · exact ⟨_, rfl⟩
  · cases h) ms_find ho ha hbase hfew hline hs hplain
noncomputable def fRev : D → Option D
  | .lst xs => some (.lst xs.reverse)
  | .str s => if s.length ≤ lim then some (.str s.reverse) else none
  | _ => none
end
section
@[simp] theorem r_fIsi1 {b : Bool} : fIsi "bool" (.bl b) = some (.bl true) := by unfold fIsi; rw [show kitB (tyN (.bl b)) "bool" = some true by show kitB "bool" "bool" = _; decide +kernel]; rfl
@[simp] theorem r_fIsi2 {i : Int} : fIsi "int" (.int i) = some (.bl true) := by unfold fIsi; rw [show kitB (tyN (.int i)) "int" = some true by show kitB "int" "int" = _; decide +kernel]; rfl
@[simp] theorem r_fIsi3 {i : Int} : fIsi "bool" (.int i) = some (.bl false) := by unfold fIsi; rw [show kitB (tyN (.int i)) "bool" = some false by show kitB "int" "bool" = _; decide +kernel]; rfl
@[simp] theorem r_fIsi4 {s : List Nat} : fIsi "str" (.str s) = some (.bl true) := by unfold fIsi; rw [show kitB (tyN (.str s)) "str" = some true by show kitB "str" "str" = _; decide +kernel]; rfl
@[simp] theorem r_fIsi5 {s : List D} : fIsi "list" (.lst s) = some (.bl true) := by unfold fIsi; rw [show kitB (tyN (.lst s)) "list" = some true by show kitB "list" "list" = _; decide +kernel]; rfl
@[simp] theorem r_fIsi6 {s : List D} : fIsi "tuple" (.tup s) = some (.bl true) := by unfold fIsi; rw [show kitB (tyN (.tup s)) "tuple" = some true by show kitB "tuple" "tuple" = _; decide +kernel]; rfl
@[simp] theorem r_fFind {s : List Nat} {c : Nat} : fFind (.str s) [.str [c]] = some (.int (findC s c)) := rfl
@[simp] theorem r_rev1 {xs : List D} : fRev (.lst xs) = some (.lst xs.reverse) := rfl
@[simp] theorem r_rev2 {xs : List Nat} : fRev (.str xs) = if xs.length ≤ lim then some (.str xs.reverse) else none := rfl
end
end Sw
namespace Sw
open L2
noncomputable def Fv (f : Fn) (gs : List Ag) (Q : Vl → List (List D) → Prop) : Prop := ∃ r os, f gs = some (r, os) ∧ Q r os
theorem Fv.mono {f : Fn} {gs : List Ag} {Q Q' : Vl → List (List D) → Prop} (h : Fv f gs Q) (w : ∀ r os, Q r os → Q' r os) : Fv f gs Q' :=
  let ⟨r, os, e, q⟩ := h
  ⟨r, os, e, w r os q⟩
theorem Ev.mono {α : Type} {m : M α} {ρ : Rho} {Q Q' : α → Rho → Prop} (h : Ev m ρ Q) (w : ∀ r ρ', Q r ρ' → Q' r ρ') : Ev m ρ Q' :=
  let ⟨r, os, e, q⟩ := h
  ⟨r, os, e, w r os q⟩
theorem Sv.mono {s : S} {ρ : Rho} {Q Q' : Fl → Rho → Prop} (h : Sv s ρ Q) (w : ∀ r ρ', Q r ρ' → Q' r ρ') : Sv s ρ Q' :=
  let ⟨r, os, e, q⟩ := h
  ⟨r, os, e, w r os q⟩
theorem ev_eq {α : Type} {m : M α} {ρ ρ' : Rho} {r : α} {Q : α → Rho → Prop} (h : m ρ = some (r, ρ')) (q : Q r ρ') : Ev m ρ Q := ⟨r, ρ', h, q⟩
/-- a bool that parts -/
noncomputable def Brn (c : Bool) (A B : Prop) : Prop := (c = true → A) ∧ (c = false → B)
theorem brn_t {A B : Prop} (h : A) : Brn true A B := ⟨fun _ => h, fun z => Bool.noConfusion z⟩
theorem brn_f {A B : Prop} (h : B) : Brn false A B := ⟨fun z => Bool.noConfusion z, fun _ => h⟩
theorem brn_nT {A B : Prop} (h : B) : Brn (!true) A B := brn_f h
theorem brn_nF {A B : Prop} (h : A) : Brn (!false) A B := brn_t h
theorem brn_nn {c : Bool} {A B : Prop} (h : Brn c A B) : Brn (!!c) A B := by rw [Bool.not_not]; exact h
theorem brn_dt {p : Prop} [Decidable p] {A B : Prop} (hp : p) (h : A) : Brn (decide p) A B := ⟨fun _ => h, fun z => absurd hp (of_decide_eq_false z)⟩
theorem brn_df {p : Prop} [Decidable p] {A B : Prop} (hp : ¬ p) (h : B) : Brn (decide p) A B := ⟨fun z => absurd (of_decide_eq_true z) hp, fun _ => h⟩
theorem brn_nt {p : Prop} [Decidable p] {A B : Prop} (hp : ¬ p) (h : A) : Brn (!decide p) A B := by rw [decide_eq_false hp]; exact brn_t h
theorem brn_nf {p : Prop} [Decidable p] {A B : Prop} (hp : p) (h : B) : Brn (!decide p) A B := by rw [decide_eq_true hp]; exact brn_f h
theorem brn_d {p : Prop} [Decidable p] {A B : Prop} (h1 : p → A) (h2 : ¬ p → B) : Brn (decide p) A B := ⟨fun z => h1 (of_decide_eq_true z), fun z => h2 (of_decide_eq_false z)⟩
theorem brn_nd {p : Prop} [Decidable p] {A B : Prop} (h1 : ¬ p → A) (h2 : p → B) : Brn (!decide p) A B := by
  by_cases q : p
  · exact brn_nf q (h2 q)
  · exact brn_nt q (h1 q)
/-- an operation that gives z -/
noncomputable def Giv (o : Option D) (Q : D → Prop) : Prop := ∃ z, o = some z ∧ Q z
theorem giv {o : Option D} {z : D} {Q : D → Prop} (h : o = some z) (q : Q z) : Giv o Q := ⟨z, h, q⟩
section
variable {ρ : Rho} {a b c : M Vl} {ms : M (List Vl)} {t u : M Bool} {s s' s'' : S} {f g : D → D → Option D} {Q : Vl → Rho → Prop} {QB : Bool → Rho → Prop} {QS : Fl → Rho → Prop} {QL : List Vl → Rho → Prop} {i : Nat}
theorem ev_c {x : D} (q : Q (.fz x) ρ) : Ev (eC x) ρ Q := ⟨_, _, rfl, q⟩
theorem ev_vd {x : D} (h : ρ[i]? = some (.d x)) (q : Q (.fz x) ρ) : Ev (eVar i) ρ Q := ⟨_, _, by rw [r_eVar, h], q⟩
theorem ev_vo {x : List D} (h : ρ[i]? = some (.ow x)) (q : Q (.bw i) ρ) : Ev (eVar i) ρ Q := ⟨_, _, by rw [r_eVar, h], q⟩
theorem ev_vi {x : List D} (h : ρ[i]? = some (.io x)) (q : Q (.bw i) ρ) : Ev (eVar i) ρ Q := ⟨_, _, by rw [r_eVar, h], q⟩
/-- two values seen -/
noncomputable def See2 (ρ : Rho) (r r2 : Vl) (P : D → D → Prop) : Prop := ∃ x y, look ρ (stl r) = some x ∧ look ρ (stl r2) = some y ∧ P x y
noncomputable def See1 (ρ : Rho) (r : Vl) (P : D → Prop) : Prop := ∃ x, look ρ (stl r) = some x ∧ P x
noncomputable def Sees (ρ : Rho) (rs : List Vl) (P : List D → Prop) : Prop := ∃ xs, looks ρ rs = some xs ∧ P xs
theorem see2 {r r2 : Vl} {P : D → D → Prop} {x y : D} (h1 : look ρ (stl r) = some x) (h2 : look ρ (stl r2) = some y) (h : P x y) : See2 ρ r r2 P := ⟨x, y, h1, h2, h⟩
theorem see1 {r : Vl} {P : D → Prop} {x : D} (h1 : look ρ (stl r) = some x) (h : P x) : See1 ρ r P := ⟨x, h1, h⟩
theorem sees {rs : List Vl} {P : List D → Prop} {xs : List D} (h1 : looks ρ rs = some xs) (h : P xs) : Sees ρ rs P := ⟨xs, h1, h⟩
theorem ev_bin (h : Ev a ρ fun r ρ1 => Ev b ρ1 fun r2 ρ2 => See2 ρ2 r r2 fun x y => Giv (f x y) fun z => Q (.fz z) ρ2) : Ev (eBin f a b) ρ Q := by
  obtain ⟨r, ρ1, e1, r2, ρ2, e2, x, y, e3, e4, z, e5, q⟩ := h
  exact ⟨_, ρ2, by rw [r_eBin, e1]; simp only [Option.bind_some, e2, e3, e4, e5], q⟩
theorem ev_un {h' : D → Option D} (h : Ev a ρ fun r ρ1 => See1 ρ1 r fun x => Giv (h' x) fun z => Q (.fz z) ρ1) : Ev (eUn h' a) ρ Q := by
  obtain ⟨r, ρ1, e1, x, e3, z, e5, q⟩ := h
  exact ⟨_, ρ1, by rw [r_eUn, e1]; simp only [Option.bind_some, e3, e5], q⟩
theorem ev_anil (q : QL [] ρ) : Ev aNil ρ QL := ⟨_, _, rfl, q⟩
theorem ev_acons (h : Ev a ρ fun r ρ1 => Ev ms ρ1 fun rs ρ2 => QL (stl r :: rs) ρ2) : Ev (aCons a ms) ρ QL := by
  obtain ⟨r, ρ1, e1, r2, ρ2, e2, q⟩ := h
  exact ⟨_, ρ2, by rw [r_aCons, e1]; simp only [Option.bind_some, e2], q⟩
theorem ev_blt {h' : List D → Option D} (h : Ev ms ρ fun rs ρ1 => Sees ρ1 rs fun xs => Giv (h' xs) fun z => Q (.fz z) ρ1) : Ev (eBlt h' ms) ρ Q := by
  obtain ⟨r, ρ1, e1, x, e3, z, e5, q⟩ := h
  exact ⟨_, ρ1, by rw [r_eBlt, e1]; simp only [Option.bind_some, e3, e5], q⟩
theorem ev_met {h' : D → List D → Option D} (h : Ev a ρ fun r ρ1 => Ev ms ρ1 fun rs ρ2 => See1 ρ2 r fun x => Sees ρ2 rs fun xs => Giv (h' x xs) fun z => Q (.fz z) ρ2) : Ev (eMet h' a ms) ρ Q := by
  obtain ⟨r, ρ1, e1, rs, ρ2, e2, x, e3, xs, e4, z, e5, q⟩ := h
  exact ⟨_, ρ2, by rw [r_eMet, e1]; simp only [Option.bind_some, e2, e3, e4, e5], q⟩
theorem ev_ono {Q : Option Int → Rho → Prop} (q : Q none ρ) : Ev oNo ρ Q := ⟨_, _, rfl, q⟩
noncomputable def IsI (r : Vl) (P : Int → Prop) : Prop := ∃ i, r = .fz (.int i) ∧ P i
theorem isI {i : Int} {P : Int → Prop} (h : P i) : IsI (.fz (.int i)) P := ⟨i, rfl, h⟩
theorem ev_osome {Q : Option Int → Rho → Prop} (h : Ev a ρ fun r ρ1 => IsI r fun i => Q (some i) ρ1) : Ev (oSome a) ρ Q := by
  obtain ⟨r, ρ1, e1, i, rfl, q⟩ := h
  exact ⟨_, ρ1, by rw [r_oSome, e1]; rfl, q⟩
theorem ev_sl {h' : D → Option Int → Option Int → Option D} {l o : M (Option Int)} (h : Ev a ρ fun r ρ1 => Ev l ρ1 fun lo ρ2 => Ev o ρ2 fun hi ρ3 => See1 ρ3 r fun x => Giv (h' x lo hi) fun z => Q (.fz z) ρ3) : Ev (eSl h' a l o) ρ Q := by
  obtain ⟨r, ρ1, e1, lo, ρ2, e2, hi, ρ3, e3, x, e4, z, e5, q⟩ := h
  exact ⟨_, ρ3, by rw [r_eSl, e1]; simp only [Option.bind_some, e2, e3, e4, e5], q⟩
noncomputable def Frzs (ρ : Rho) (rs : List Vl) (P : List D → Rho → Prop) : Prop := ∃ xs ρ1, frzs ρ rs = some (xs, ρ1) ∧ P xs ρ1
theorem frzs' {rs : List Vl} {P : List D → Rho → Prop} {xs : List D} {ρ1 : Rho} (h1 : frzs ρ rs = some (xs, ρ1)) (h : P xs ρ1) : Frzs ρ rs P := ⟨xs, ρ1, h1, h⟩
theorem ev_tup (h : Ev ms ρ fun rs ρ1 => Frzs ρ1 rs fun xs ρ2 => xs.length ≤ lim ∧ Q (.fz (.tup xs)) ρ2) : Ev (eTup ms) ρ Q := by
  obtain ⟨rs, ρ1, e1, xs, ρ2, e2, hl, q⟩ := h
  exact ⟨_, ρ2, by rw [r_eTup, e1]; simp only [Option.bind_some, e2, hl, if_true], q⟩
theorem ev_lst (h : Ev ms ρ fun rs ρ1 => Frzs ρ1 rs fun xs ρ2 => xs.length ≤ lim ∧ Q (.fr xs) ρ2) : Ev (eLst ms) ρ Q := by
  obtain ⟨rs, ρ1, e1, xs, ρ2, e2, hl, q⟩ := h
  exact ⟨_, ρ2, by rw [r_eLst, e1]; simp only [Option.bind_some, e2, hl, if_true], q⟩
noncomputable def IsB (r : Vl) (P : Bool → Prop) : Prop := ∃ b, r = .fz (.bl b) ∧ P b
theorem isB {i : Bool} {P : Bool → Prop} (h : P i) : IsB (.fz (.bl i)) P := ⟨i, rfl, h⟩
theorem ev_tE (h : Ev a ρ fun r ρ1 => IsB r fun b => QB b ρ1) : Ev (tE a) ρ QB := by
  obtain ⟨r, ρ1, e1, i, rfl, q⟩ := h
  exact ⟨_, ρ1, by rw [r_tE, e1]; rfl, q⟩
theorem ev_tyes (q : QB true ρ) : Ev tYesM ρ QB := ⟨_, _, rfl, q⟩
theorem ev_tAnd (h : Ev t ρ fun v ρ1 => Brn v (Ev u ρ1 QB) (QB false ρ1)) : Ev (tAnd t u) ρ QB := by
  obtain ⟨v, ρ1, e1, h1, h2⟩ := h
  cases v with
  | true => obtain ⟨r, ρ2, e2, q⟩ := h1 rfl; exact ⟨r, ρ2, by rw [r_tAnd, e1]; exact e2, q⟩
  | false => exact ⟨false, ρ1, by rw [r_tAnd, e1]; rfl, h2 rfl⟩
theorem ev_tOr (h : Ev t ρ fun v ρ1 => Brn v (QB true ρ1) (Ev u ρ1 QB)) : Ev (tOr t u) ρ QB := by
  obtain ⟨v, ρ1, e1, h1, h2⟩ := h
  cases v with
  | false => obtain ⟨r, ρ2, e2, q⟩ := h2 rfl; exact ⟨r, ρ2, by rw [r_tOr, e1]; exact e2, q⟩
  | true => exact ⟨true, ρ1, by rw [r_tOr, e1]; rfl, h1 rfl⟩
theorem ev_tNot (h : Ev t ρ fun v ρ1 => QB (!v) ρ1) : Ev (tNot t) ρ QB := by
  obtain ⟨v, ρ1, e1, q⟩ := h
  exact ⟨!v, ρ1, by rw [r_tNot, e1]; rfl, q⟩
theorem ev_eAnd (h : Ev a ρ fun r ρ1 => IsB r fun v => Brn v (Ev b ρ1 Q) (Q (.fz (.bl false)) ρ1)) : Ev (eAnd a b) ρ Q := by
  obtain ⟨r, ρ1, e1, v, rfl, h1, h2⟩ := h
  cases v with
  | true => obtain ⟨r, ρ2, e2, q⟩ := h1 rfl; exact ⟨r, ρ2, by rw [r_eAnd, e1]; exact e2, q⟩
  | false => exact ⟨_, ρ1, by rw [r_eAnd, e1]; rfl, h2 rfl⟩
theorem ev_eOr (h : Ev a ρ fun r ρ1 => IsB r fun v => Brn v (Q (.fz (.bl true)) ρ1) (Ev b ρ1 Q)) : Ev (eOr a b) ρ Q := by
  obtain ⟨r, ρ1, e1, v, rfl, h1, h2⟩ := h
  cases v with
  | false => obtain ⟨r, ρ2, e2, q⟩ := h2 rfl; exact ⟨r, ρ2, by rw [r_eOr, e1]; exact e2, q⟩
  | true => exact ⟨_, ρ1, by rw [r_eOr, e1]; rfl, h1 rfl⟩
theorem ev_eNot (h : Ev a ρ fun r ρ1 => IsB r fun v => Q (.fz (.bl (!v))) ρ1) : Ev (eNot a) ρ Q := by
  obtain ⟨r, ρ1, e1, v, rfl, q⟩ := h
  exact ⟨_, ρ1, by rw [r_eNot, e1]; rfl, q⟩
theorem ev_eIf (h : Ev t ρ fun v ρ1 => Brn v (Ev a ρ1 Q) (Ev b ρ1 Q)) : Ev (eIf t a b) ρ Q := by
  obtain ⟨v, ρ1, e1, h1, h2⟩ := h
  cases v with
  | true => obtain ⟨r, ρ2, e2, q⟩ := h1 rfl; exact ⟨r, ρ2, by rw [r_eIf, e1]; exact e2, q⟩
  | false => obtain ⟨r, ρ2, e2, q⟩ := h2 rfl; exact ⟨r, ρ2, by rw [r_eIf, e1]; exact e2, q⟩
noncomputable def IsBD (z : D) (P : Bool → Prop) : Prop := ∃ b, z = .bl b ∧ P b
theorem isBD {i : Bool} {P : Bool → Prop} (h : P i) : IsBD (.bl i) P := ⟨i, rfl, h⟩
theorem ev_chain (h : Ev a ρ fun r ρ1 => Ev b ρ1 fun r2 ρ2 => See2 ρ2 r r2 fun x y => Giv (f x y) fun z => IsBD z fun v => Brn v (Ev c ρ2 fun r3 ρ3 => See2 ρ3 r2 r3 fun y2 w => Giv (g y2 w) fun z2 => Q (.fz z2) ρ3) (Q (.fz (.bl false)) ρ2)) : Ev (eChain f g a b c) ρ Q := by
  obtain ⟨r, ρ1, e1, r2, ρ2, e2, x, y, e3, e4, z, e5, v, rfl, h1, h2⟩ := h
  cases v with
  | true =>
    obtain ⟨r3, ρ3, e6, y2, w, e7, e8, z2, e9, q⟩ := h1 rfl
    exact ⟨_, ρ3, by rw [r_eChain, e1]; simp only [Option.bind_some, e2, e3, e4, e5, e6, e7, e8, e9], q⟩
  | false => exact ⟨_, ρ2, by rw [r_eChain, e1]; simp only [Option.bind_some, e2, e3, e4, e5], h2 rfl⟩
noncomputable def Arg (fs : List Bool) (rs : List Vl) (ρ : Rho) (P : List (D ⊕ Nat) → List Ag → Rho → Prop) : Prop := ∃ ts ρ2 gs, ag1 fs rs ρ = some (ts, ρ2) ∧ ag2 ρ2 ts = some gs ∧ (agI ts).Nodup ∧ P ts gs ρ2
theorem arg {fs : List Bool} {rs : List Vl} {P : List (D ⊕ Nat) → List Ag → Rho → Prop} {ts : List (D ⊕ Nat)} {ρ2 : Rho} {gs : List Ag} (h1 : ag1 fs rs ρ = some (ts, ρ2)) (h2 : ag2 ρ2 ts = some gs) (h3 : (agI ts).Nodup) (h : P ts gs ρ2) : Arg fs rs ρ P := ⟨ts, ρ2, gs, h1, h2, h3, h⟩
noncomputable def noBw : Vl → Prop
  | .bw _ => False
  | _ => True
theorem ev_call {h' : Fn} {fs : List Bool} (h : Ev ms ρ fun rs ρ1 => Arg fs rs ρ1 fun ts gs ρ2 => Fv h' gs fun r os => noBw r ∧ Q r (puts ρ2 (agI ts) os)) : Ev (eCall h' fs ms) ρ Q := by
  obtain ⟨rs, ρ1, e1, ts, ρ2, gs, e2, e3, hn, r, os, e4, nb, q⟩ := h
  refine ⟨r, _, ?_, q⟩
  rw [r_eCall, e1]
  simp only [Option.bind_some, e2, e3, if_pos hn, e4]
  cases r with
  | bw j => exact nb.elim
  | fz x => rfl
  | fr x => rfl
theorem sv_asg_s {i : Nat} (h : Ev a ρ fun r ρ1 => ∃ ρ2, asg i r ρ1 = some ρ2 ∧ Sv s ρ2 QS) : Sv (sSeq (sAsg i a) s) ρ QS := by
  obtain ⟨r, ρ1, e1, ρ2, e2, h⟩ := h
  exact sv_seq_eq (ρ1 := ρ2) (by rw [r_sAsg, e1]; simp only [Option.bind_some, e2]) h
theorem sv_asg_l {i : Nat} (h : Ev a ρ fun r ρ1 => ∃ ρ2, asg i r ρ1 = some ρ2 ∧ QS .nx ρ2) : Sv (sAsg i a) ρ QS := by
  obtain ⟨r, ρ1, e1, ρ2, e2, h⟩ := h
  exact ⟨.nx, ρ2, by rw [r_sAsg, e1]; simp only [Option.bind_some, e2], h⟩
theorem asg_z {i : Nat} {x : D} (h : ioQ ρ[i]? = false) : asg i (.fz x) ρ = some (ρ.set i (.d x)) := by
  unfold asg
  cases e : ρ[i]? with
  | none => rw [e] at h; cases h
  | some s => cases s with
    | io xs => rw [e] at h; cases h
    | iob xs => rw [e] at h; cases h
    | _ => rfl
theorem asg_r {i : Nat} {x : List D} (h : ioQ ρ[i]? = false) : asg i (.fr x) ρ = some (ρ.set i (.ow x)) := by
  unfold asg
  cases e : ρ[i]? with
  | none => rw [e] at h; cases h
  | some s => cases s with
    | io xs => rw [e] at h; cases h
    | iob xs => rw [e] at h; cases h
    | _ => rfl
theorem ex_asg {i : Nat} {x : D} {P : Rho → Prop} (h : ioQ ρ[i]? = false) (q : P (ρ.set i (.d x))) : ∃ ρ2, asg i (.fz x) ρ = some ρ2 ∧ P ρ2 := ⟨_, asg_z h, q⟩
theorem ex_asg' {i : Nat} {x : List D} {P : Rho → Prop} (h : ioQ ρ[i]? = false) (q : P (ρ.set i (.ow x))) : ∃ ρ2, asg i (.fr x) ρ = some ρ2 ∧ P ρ2 := ⟨_, asg_r h, q⟩
theorem ex_asg'' {i j : Nat} {P : Rho → Prop} {ρ2 : Rho} (h : asg i (.bw j) ρ = some ρ2) (q : P ρ2) : ∃ ρ2, asg i (.bw j) ρ = some ρ2 ∧ P ρ2 := ⟨_, h, q⟩
theorem sv_if_s (h : Ev t ρ fun v ρ1 => Brn v (Sv (sSeq s s'') ρ1 QS) (Sv (sSeq s' s'') ρ1 QS)) : Sv (sSeq (sIf t s s') s'') ρ QS := by
  obtain ⟨v, ρ1, e1, h1, h2⟩ := h
  have e : ∀ x, sSeq (sIf t s s') s'' ρ = x ↔ (sSeq (if v = true then s else s') s'') ρ1 = x := fun x => by
    rw [r_sSeq, r_sSeq, r_sIf, e1]
    cases v <;> rfl
  cases v with
  | true => obtain ⟨fl, ρ2, e2, q⟩ := h1 rfl; exact ⟨fl, ρ2, (e _).mpr e2, q⟩
  | false => obtain ⟨fl, ρ2, e2, q⟩ := h2 rfl; exact ⟨fl, ρ2, (e _).mpr e2, q⟩
theorem sv_if_l (h : Ev t ρ fun v ρ1 => Brn v (Sv s ρ1 QS) (Sv s' ρ1 QS)) : Sv (sIf t s s') ρ QS := by
  obtain ⟨v, ρ1, e1, h1, h2⟩ := h
  exact sv_if e1 h1 h2
theorem sv_nx_s (h : Sv s ρ QS) : Sv (sSeq sNx s) ρ QS := sv_seq_eq rfl h
theorem sv_seq_s (h : Sv (sSeq s (sSeq s' s'')) ρ QS) : Sv (sSeq (sSeq s s') s'') ρ QS := by
  obtain ⟨fl, ρ2, e2, q⟩ := h
  refine ⟨fl, ρ2, ?_, q⟩
  rw [r_sSeq] at e2
  rw [r_sSeq, r_sSeq]
  cases e : s ρ with
  | none => rw [e] at e2; cases e2
  | some p =>
    rw [e] at e2
    obtain ⟨f1, ρ1⟩ := p
    cases f1 with
    | nx => exact e2
    | bk => exact e2
    | ct => exact e2
    | rt v => exact e2
    | ex x => exact e2
noncomputable def Ret (r : Vl) (ρ : Rho) (P : Vl → Prop) : Prop := match r with
  | .fz x => P (.fz x)
  | .fr x => P (.fr x)
  | .bw i => ∃ xs, ρ[i]? = some (.ow xs) ∧ P (.fr xs)
theorem sv_ret_l (h : Ev a ρ fun r ρ1 => Ret r ρ1 fun v => QS (.rt v) ρ1) : Sv (sRet a) ρ QS := by
  obtain ⟨r, ρ1, e1, q⟩ := h
  cases r with
  | fz x => exact ⟨_, ρ1, by rw [r_sRet, e1]; rfl, q⟩
  | fr x => exact ⟨_, ρ1, by rw [r_sRet, e1]; rfl, q⟩
  | bw i => obtain ⟨xs, e2, q⟩ := q; exact ⟨_, ρ1, by rw [r_sRet, e1]; simp only [Option.bind_some, e2], q⟩
theorem sv_ret_s (h : Ev a ρ fun r ρ1 => Ret r ρ1 fun v => QS (.rt v) ρ1) : Sv (sSeq (sRet a) s) ρ QS := sv_seq (sv_ret_l h)
theorem sv_drop_s (h : Ev a ρ fun r ρ1 => Sv s ρ1 QS) : Sv (sSeq (sDrop a) s) ρ QS := by
  obtain ⟨r, ρ1, e1, q⟩ := h
  exact sv_seq_eq (ρ1 := ρ1) (by show (a ρ).bind _ = _; rw [e1]; rfl) q
noncomputable def App (ρ : Rho) (i : Nat) (r : Vl) (P : Rho → Prop) : Prop := ∃ z ρ1 xs, frz ρ (stl r) = some (z, ρ1) ∧ own? ρ1 i = some xs ∧ xs.length < lim ∧ P (put ρ1 i (xs ++ [z]))
theorem app {r : Vl} {P : Rho → Prop} {z : D} {ρ1 : Rho} {xs : List D} (h1 : frz ρ (stl r) = some (z, ρ1)) (h2 : own? ρ1 i = some xs) (h3 : xs.length < lim) (h : P (put ρ1 i (xs ++ [z]))) : App ρ i r P := ⟨z, ρ1, xs, h1, h2, h3, h⟩
theorem sv_app_l (h0 : (own? ρ i).isSome = true) (h : Ev a ρ fun r ρ1 => App ρ1 i r fun ρ2 => QS .nx ρ2) : Sv (sApp i a) ρ QS := by
  obtain ⟨r, ρ1, e1, z, ρ2, xs, e2, e3, hl, q⟩ := h
  obtain ⟨y, ey⟩ := Option.isSome_iff_exists.mp h0
  refine ⟨.nx, _, ?_, q⟩
  show (own? ρ i).bind _ = _
  rw [ey]
  simp only [Option.bind_some, e1, e2, e3, hl, if_true]
theorem sv_app_s (h0 : (own? ρ i).isSome = true) (h : Ev a ρ fun r ρ1 => App ρ1 i r fun ρ2 => Sv s ρ2 QS) : Sv (sSeq (sApp i a) s) ρ QS := sv_seq (sv_app_l h0 h)
/-- a function's body -/
noncomputable def FEnd (Q : Vl → List (List D) → Prop) (gs : List Ag) : Fl → Rho → Prop
  | .nx, ρ => Q (.fz .non) (outsOf gs ρ)
  | .rt (.fz x), ρ => Q (.fz x) (outsOf gs ρ)
  | .rt (.fr x), ρ => Q (.fr x) (outsOf gs ρ)
  | _, _ => False
theorem fv_fn {n nl : Nat} {gs : List Ag} {Q : Vl → List (List D) → Prop} (hn : gs.length = n) (h : Sv s (gs.map slOf ++ List.replicate (nl - n) .no) (FEnd Q gs)) : Fv (fnS n nl s) gs Q := by
  obtain ⟨fl, ρ', e, q⟩ := h
  have un : fnS n nl s gs = if gs.length = n then (s (gs.map slOf ++ List.replicate (nl - n) .no)).bind fun p => (match p.1 with
  | .nx => some (.fz .non, outsOf gs p.2)
  | .rt (.fz x) => some (.fz x, outsOf gs p.2)
  | .rt (.fr x) => some (.fr x, outsOf gs p.2)
  | _ => none) else none := rfl
  unfold Fv
  rw [un, if_pos hn, e]
  cases fl with
  | nx => exact ⟨_, _, rfl, q⟩
  | bk => exact q.elim
  | ct => exact q.elim
  | ex x => exact q.elim
  | rt v => cases v with
    | fz x => exact ⟨_, _, rfl, q⟩
    | fr x => exact ⟨_, _, rfl, q⟩
    | bw j => exact q.elim
theorem ev_isq {QD : List D → Rho → Prop} (h : Ev a ρ fun r ρ1 => ∃ z ρ2 xs, frz ρ1 (stl r) = some (z, ρ2) ∧ itemsOf z = some xs ∧ QD xs ρ2) : Ev (iSq a) ρ QD := by
  obtain ⟨r, ρ1, e1, z, ρ2, xs, e2, e3, q⟩ := h
  exact ⟨xs, ρ2, by show (a ρ).bind _ = _; rw [e1]; simp only [Option.bind_some, e2, e3], q⟩
theorem ev_ir1 {QD : List D → Rho → Prop} (h : Ev ms ρ fun rs ρ1 => ∃ j, rs = [.fz (.int j)] ∧ -1000000 ≤ j ∧ j ≤ 1000000 ∧ QD (rngL 0 j.toNat) ρ1) : Ev (iR1 ms) ρ QD := by
  obtain ⟨r, ρ1, e1, j, rfl, h0, h1, q⟩ := h
  exact ⟨_, ρ1, iR1_ok e1 h0 h1, q⟩
/-- a for whose turns may return early: I by the turn, else E -/
theorem forM_sv {g : D → Rho → Option Rho} {b : S} (I : Nat → Rho → Prop) : ∀ (xs : List D) (k : Nat) (ρ : Rho), I k ρ →
    (∀ (i : Nat) (x : D), xs[i]? = some x → ∀ ρ, I (k + i) ρ → ∃ ρ1, g x ρ = some ρ1 ∧ Sv b ρ1 fun fl ρ2 => match fl with
      | .nx => I (k + i + 1) ρ2
      | .ct => I (k + i + 1) ρ2
      | .bk => QS .nx ρ2
      | .rt v => QS (.rt v) ρ2
      | .ex x => QS (.ex x) ρ2) → (∀ ρ', I (k + xs.length) ρ' → QS .nx ρ') → Sv (forM g b xs) ρ QS
  | [], k, ρ, h, _, q => ⟨.nx, ρ, rfl, q ρ h⟩
  | x :: xs, k, ρ, h, step, q => by
    obtain ⟨ρ1, e1, fl, ρ2, e2, hf⟩ := step 0 x rfl ρ h
    have go : I (k + 1) ρ2 → Sv (forM g b xs) ρ2 QS := fun hI => forM_sv I xs (k + 1) ρ2 hI (fun i y hy ρ h => by
      have := step (i + 1) y (by simpa using hy) ρ (by rw [show k + (i + 1) = k + 1 + i by omega]; exact h)
      rw [show k + (i + 1) + 1 = k + 1 + i + 1 by omega] at this
      exact this) fun ρ' h => q ρ' (by rw [List.length_cons, show k + (xs.length + 1) = k + 1 + xs.length by omega]; exact h)
    have un : forM g b (x :: xs) ρ = (g x ρ).bind fun ρ1 => (b ρ1).bind fun p => match p.1 with
      | .nx => forM g b xs p.2
      | .ct => forM g b xs p.2
      | .bk => some (.nx, p.2)
      | .rt v => some (.rt v, p.2)
      | .ex x => some (.ex x, p.2) := rfl
    unfold Sv at go ⊢
    rw [un, e1]
    simp only [Option.bind_some, e2]
    cases fl with
    | nx => exact go hf
    | ct => exact go hf
    | bk => exact ⟨_, _, rfl, hf⟩
    | rt v => exact ⟨_, _, rfl, hf⟩
    | ex x => exact ⟨_, _, rfl, hf⟩
theorem sv_for {src : M (List D)} {g : D → Rho → Option Rho} {b : S} (I : Nat → Rho → Prop) (h : Ev src ρ fun xs ρ1 => I 0 ρ1 ∧
    (∀ (i : Nat) (x : D), xs[i]? = some x → ∀ ρ, I i ρ → ∃ ρ1, g x ρ = some ρ1 ∧ Sv b ρ1 fun fl ρ2 => match fl with
      | .nx => I (i + 1) ρ2
      | .ct => I (i + 1) ρ2
      | .bk => QS .nx ρ2
      | .rt v => QS (.rt v) ρ2
      | .ex x => QS (.ex x) ρ2) ∧ ∀ ρ', I xs.length ρ' → QS .nx ρ') : Sv (sFor src g b) ρ QS := by
  obtain ⟨xs, ρ1, e, h0, step, q⟩ := h
  obtain ⟨fl, ρ2, e2, h2⟩ := forM_sv (QS := QS) I xs 0 ρ1 h0 (fun i x hx ρ h => by
    rw [Nat.zero_add] at h ⊢
    exact step i x hx ρ h) fun ρ' h => q ρ' (by rw [Nat.zero_add] at h; exact h)
  exact ⟨fl, ρ2, by show (src ρ).bind _ = _; rw [e]; exact e2, h2⟩
end
/-- a list comprehension by an invariant -/
theorem ev_lc {ρ : Rho} {vs : List Nat} {src : M (List D)} {g : D → Rho → Option Rho} {t : M Bool} {e : M Vl} {Q : Vl → Rho → Prop} (I : Nat → List D → Rho → Prop) (h : Ev src ρ fun xs ρ1 => (vs.all fun v => plainSl ρ1[v]?) = true ∧ I 0 [] (wipeR ρ1 vs) ∧
    (∀ (i : Nat) (x : D), xs[i]? = some x → ∀ acc ρ, I i acc ρ → ∃ ρ1, g x ρ = some ρ1 ∧ Ev t ρ1 fun b ρ2 => Brn b (Ev e ρ2 fun r ρ3 => ∃ z ρ4, frz ρ3 (stl r) = some (z, ρ4) ∧ acc.length < lim ∧ I (i + 1) (acc ++ [z]) (wipeR ρ4 vs)) (I (i + 1) acc (wipeR ρ2 vs))) ∧
    ∀ acc ρ', I xs.length acc ρ' → Q (.fr acc) (backR ρ1 ρ' vs)) : Ev (eLc vs src g t e) ρ Q := by
  obtain ⟨xs, ρ1, e1, hp, h0, step, q⟩ := h
  obtain ⟨acc, ρ', e2, h2⟩ := lcM_inv (vs := vs) (g := g) (t := t) (e := e) I xs [] 0 (wipeR ρ1 vs) h0 fun i x hx acc ρ hI => by
    rw [Nat.zero_add] at hI ⊢
    obtain ⟨ρ2, e3, b, ρ3, e4, h1, h2⟩ := step i x hx acc ρ hI
    refine ⟨ρ2, e3, b, ρ3, e4, ?_⟩
    cases b with
    | true =>
      rw [if_pos rfl]
      obtain ⟨r, ρ4, e5, z, ρ5, e6, hl, hI⟩ := h1 rfl
      exact ⟨r, ρ4, z, ρ5, e5, e6, hl, hI⟩
    | false =>
      rw [if_neg (by decide)]
      exact h2 rfl
  rw [Nat.zero_add] at h2
  exact ⟨_, _, eLc_of e1 hp e2, q acc ρ' h2⟩
/-- a statement ahead of others: what it leaves, by itself -/
theorem sv_then {ρ : Rho} {s s' : S} {QS : Fl → Rho → Prop} (R : Rho → Prop) (h : Sv s ρ fun fl ρ1 => match fl with
      | .nx => R ρ1
      | fl => QS fl ρ1) (q : ∀ ρ1, R ρ1 → Sv s' ρ1 QS) : Sv (sSeq s s') ρ QS := by
  obtain ⟨fl, ρ1, e, h⟩ := h
  refine sv_seq ⟨fl, ρ1, e, ?_⟩
  cases fl with
  | nx => exact q ρ1 h
  | bk => exact h
  | ct => exact h
  | rt v => exact h
  | ex x => exact h
theorem fv_signs {Q : Vl → List (List D) → Prop} (q : Q (.fz (.str SGN)) []) : Fv lawSigns [] Q := ⟨_, _, signs_ok, q⟩
theorem giv_mod {i j : Int} {Q : D → Prop} (h : 0 < j) (q : Q (.int (i % j))) : Giv (fMod (.int i) (.int j)) Q := ⟨_, by rw [r_mod, if_pos h], q⟩
theorem giv_div {i j : Int} {Q : D → Prop} (h : 0 < j ∧ j < 1073741824) (q : Q (.int (i / j))) : Giv (fDiv (.int i) (.int j)) Q := ⟨_, by rw [r_div, if_pos h], q⟩
theorem giv_mul {i j : Int} {Q : D → Prop} (h : cMul i j = true) (q : Q (.int (i * j))) : Giv (fMul (.int i) (.int j)) Q := ⟨_, by rw [r_mul, if_pos h], q⟩
theorem giv_muls {c : Nat} {n : Int} {Q : D → Prop} (h : -1000000 ≤ n ∧ n ≤ 1000000) (q : Q (.str (List.replicate n.toNat c))) : Giv (fMul (.str [c]) (.int n)) Q := ⟨_, by rw [r_muls, if_pos h], q⟩
theorem giv_adds {i j : List Nat} {Q : D → Prop} (h : i.length + j.length ≤ lim) (q : Q (.str (i ++ j))) : Giv (fAdd (.str i) (.str j)) Q := ⟨_, by rw [r_add2, if_pos h], q⟩
theorem giv_addl {i j : List D} {Q : D → Prop} (h : i.length + j.length ≤ lim) (q : Q (.lst (i ++ j))) : Giv (fAdd (.lst i) (.lst j)) Q := ⟨_, by rw [r_add3, if_pos h], q⟩
theorem giv_ixl {xs : List D} {i : Int} {z : D} {Q : D → Prop} (h : atI xs i = some z) (q : Q z) : Giv (fIx (.lst xs) (.int i)) Q := ⟨_, by rw [r_ixl, h], q⟩
theorem giv_ixt {xs : List D} {i : Int} {z : D} {Q : D → Prop} (h : atI xs i = some z) (q : Q z) : Giv (fIx (.tup xs) (.int i)) Q := ⟨_, by rw [r_ixt, h], q⟩
theorem giv_ixs {xs : List Nat} {i : Int} {c : Nat} {Q : D → Prop} (hl : xs.length ≤ lim) (h : atI xs i = some c) (q : Q (.str [c])) : Giv (fIx (.str xs) (.int i)) Q := ⟨_, by rw [r_ixs, if_pos hl, h]; rfl, q⟩
theorem giv_sls {xs : List Nat} {l u : Option Int} {Q : D → Prop} (hl : xs.length ≤ lim) (q : Q (.str (cutL xs l u))) : Giv (fSl (.str xs) l u) Q := ⟨_, by rw [r_sls, if_pos hl], q⟩
theorem giv_sll {xs : List D} {l u : Option Int} {Q : D → Prop} (q : Q (.lst (cutL xs l u))) : Giv (fSl (.lst xs) l u) Q := ⟨_, rfl, q⟩
theorem giv_lens {xs : List Nat} {Q : D → Prop} (hl : xs.length ≤ lim) (q : Q (.int xs.length)) : Giv (cLen [.str xs]) Q := ⟨_, by rw [r_len1, if_pos hl], q⟩
theorem giv_revs {xs : List Nat} {Q : D → Prop} (hl : xs.length ≤ lim) (q : Q (.str xs.reverse)) : Giv (fRev (.str xs)) Q := ⟨_, by rw [r_rev2, if_pos hl], q⟩
theorem ret_z {x : D} {ρ : Rho} {P : Vl → Prop} (h : P (.fz x)) : Ret (.fz x) ρ P := h
theorem ret_r {x : List D} {ρ : Rho} {P : Vl → Prop} (h : P (.fr x)) : Ret (.fr x) ρ P := h
theorem ret_b {i : Nat} {xs : List D} {ρ : Rho} {P : Vl → Prop} (e : ρ[i]? = some (.ow xs)) (h : P (.fr xs)) : Ret (.bw i) ρ P := ⟨xs, e, h⟩
theorem sv_asgT_l {m : M Vl} {g : D → Rho → Option Rho} {ρ : Rho} {QS : Fl → Rho → Prop} (h : Ev m ρ fun r ρ1 => ∃ ρ2, (match r with
    | .fz x => g x ρ1
    | _ => none) = some ρ2 ∧ QS .nx ρ2) : Sv (sAsgT m g) ρ QS := by
  obtain ⟨r, ρ1, e1, ρ2, e2, q⟩ := h
  refine ⟨.nx, ρ2, ?_, q⟩
  show (m ρ).bind _ = _
  rw [e1]
  cases r with
  | fz x => simp only [Option.bind_some]; rw [show g x ρ1 = some ρ2 from e2]; rfl
  | fr x => cases e2
  | bw i => cases e2
theorem sv_asgT_s {m : M Vl} {g : D → Rho → Option Rho} {s : S} {ρ : Rho} {QS : Fl → Rho → Prop} (h : Ev m ρ fun r ρ1 => ∃ ρ2, (match r with
    | .fz x => g x ρ1
    | _ => none) = some ρ2 ∧ Sv s ρ2 QS) : Sv (sSeq (sAsgT m g) s) ρ QS := sv_seq (sv_asgT_l h)
theorem ex_asgT {g : Rho → Option Rho} {P : Rho → Prop} {ρ ρ2 : Rho} (h : g ρ = some ρ2) (q : P ρ2) : ∃ ρ2, g ρ = some ρ2 ∧ P ρ2 := ⟨_, h, q⟩
theorem nodup1 {α : Type} {a : α} : [a].Nodup := by simp
theorem nbw_z {x : D} {P : Prop} (h : P) : noBw (.fz x) ∧ P := ⟨trivial, h⟩
theorem nbw_r {x : List D} {P : Prop} (h : P) : noBw (.fr x) ∧ P := ⟨trivial, h⟩
structure Wr (R : Prop) : Prop where
  out : R
/-- steps at the head as far as they go -/
theorem go {R P : Prop} (q : R) (h : Wr R → P := by
    intro k
    repeat (first
    | with_reducible refine ev_c ?_
    | ((with_reducible refine' ev_vd ?s0 ?_); (case s0 => (rfl)))
    | ((with_reducible refine' ev_vo ?s0 ?_); (case s0 => (rfl)))
    | ((with_reducible refine' ev_vi ?s0 ?_); (case s0 => (rfl)))
    | with_reducible refine ev_bin ?_
    | with_reducible refine ev_un ?_
    | with_reducible refine ev_anil ?_
    | with_reducible refine ev_acons ?_
    | with_reducible refine ev_blt ?_
    | with_reducible refine ev_met ?_
    | with_reducible refine ev_ono ?_
    | with_reducible refine ev_osome ?_
    | with_reducible refine ev_sl ?_
    | with_reducible refine ev_tup ?_
    | with_reducible refine ev_lst ?_
    | with_reducible refine ev_tE ?_
    | with_reducible refine ev_tyes ?_
    | with_reducible refine ev_tAnd ?_
    | with_reducible refine ev_tOr ?_
    | with_reducible refine ev_tNot ?_
    | with_reducible refine ev_eAnd ?_
    | with_reducible refine ev_eOr ?_
    | with_reducible refine ev_eNot ?_
    | with_reducible refine ev_eIf ?_
    | with_reducible refine ev_chain ?_
    | with_reducible refine ev_call ?_
    | with_reducible refine sv_asg_s ?_
    | with_reducible refine sv_nx_s ?_
    | with_reducible refine sv_if_s ?_
    | with_reducible refine sv_ret_s ?_
    | with_reducible refine sv_seq_s ?_
    | with_reducible refine sv_drop_s ?_
    | ((with_reducible refine' sv_app_s ?s0 ?_); (case s0 => (rfl)))
    | ((with_reducible refine' sv_app_l ?s0 ?_); (case s0 => (rfl)))
    | with_reducible refine sv_asg_l ?_
    | with_reducible refine sv_if_l ?_
    | with_reducible refine sv_ret_l ?_
    | with_reducible refine sv_nx ?_
    | with_reducible refine sv_asgT_s ?_
    | with_reducible refine sv_asgT_l ?_
    | with_reducible refine ret_z ?_
    | with_reducible refine ret_r ?_
    | ((with_reducible refine' ret_b ?s0 ?_); (case s0 => (rfl)))
    | ((with_reducible refine' see2 ?s0 ?s1 ?_); (case s0 => (rfl)); (case s1 => (rfl)))
    | ((with_reducible refine' see1 ?s0 ?_); (case s0 => (rfl)))
    | ((with_reducible refine' sees ?s0 ?_); (case s0 => (rfl)))
    | with_reducible refine isI ?_
    | with_reducible refine isB ?_
    | with_reducible refine isBD ?_
    | with_reducible refine brn_t ?_
    | with_reducible refine brn_f ?_
    | with_reducible refine brn_nT ?_
    | with_reducible refine brn_nF ?_
    | with_reducible refine brn_nn ?_
    | ((with_reducible refine' frzs' ?s0 (And.intro ?s1 ?_)); (case s0 => rfl); (case s1 => (first | decide | simp)); (try dsimp only [puts, put, agI, outsOf, slOf, List.set_cons_zero, List.set_cons_succ, List.getElem?_cons_zero, List.getElem?_cons_succ, wipeR, backR, Option.getD_some, stl]))
    | ((with_reducible refine' arg ?s0 ?s1 ?s2 ?_); (case s0 => (rfl)); (case s1 => (rfl)); (case s2 => (first | exact List.nodup_nil | exact nodup1 | simp [agI])); (try dsimp only [puts, put, agI, outsOf, slOf, List.set_cons_zero, List.set_cons_succ, List.getElem?_cons_zero, List.getElem?_cons_succ, wipeR, backR, Option.getD_some, stl]))
    | ((with_reducible refine' ex_asg ?s0 ?_); (case s0 => (first | rfl | assumption)); (try dsimp only [puts, put, agI, outsOf, slOf, List.set_cons_zero, List.set_cons_succ, List.getElem?_cons_zero, List.getElem?_cons_succ, wipeR, backR, Option.getD_some, stl]))
    | ((with_reducible refine' ex_asg' ?s0 ?_); (case s0 => (first | rfl | assumption)); (try dsimp only [puts, put, agI, outsOf, slOf, List.set_cons_zero, List.set_cons_succ, List.getElem?_cons_zero, List.getElem?_cons_succ, wipeR, backR, Option.getD_some, stl]))
    | ((with_reducible refine' ex_asg'' ?s0 ?_); (case s0 => (rfl)); (try dsimp only [puts, put, agI, outsOf, slOf, List.set_cons_zero, List.set_cons_succ, List.getElem?_cons_zero, List.getElem?_cons_succ, wipeR, backR, Option.getD_some, stl]))
    | ((with_reducible refine' ex_asgT ?s0 ?_); (case s0 => (rfl)); (try dsimp only [puts, put, agI, outsOf, slOf, List.set_cons_zero, List.set_cons_succ, List.getElem?_cons_zero, List.getElem?_cons_succ, wipeR, backR, Option.getD_some, stl]))
    | ((with_reducible refine' nbw_z ?_); (try dsimp only [puts, put, agI, outsOf, slOf, List.set_cons_zero, List.set_cons_succ, List.getElem?_cons_zero, List.getElem?_cons_succ, wipeR, backR, Option.getD_some, stl]))
    | ((with_reducible refine' nbw_r ?_); (try dsimp only [puts, put, agI, outsOf, slOf, List.set_cons_zero, List.set_cons_succ, List.getElem?_cons_zero, List.getElem?_cons_succ, wipeR, backR, Option.getD_some, stl]))
    | ((with_reducible refine' giv_mod ?s0 ?_); (case s0 => (first | assumption | decide | omega | (show _ ≤ 16777216; omega) | (show _ < 16777216; omega) | (simp only [List.length_append, List.length_cons, List.length_nil, List.length_replicate]; show _ ≤ 16777216; omega))))
    | ((with_reducible refine' giv_div ?s0 ?_); (case s0 => (first | assumption | decide | omega | (show _ ≤ 16777216; omega) | (show _ < 16777216; omega) | (simp only [List.length_append, List.length_cons, List.length_nil, List.length_replicate]; show _ ≤ 16777216; omega))))
    | ((with_reducible refine' giv_mul ?s0 ?_); (case s0 => (first | assumption | exact cMul_r (by decide) | exact cMul_r (by omega))))
    | ((with_reducible refine' giv_muls ?s0 ?_); (case s0 => (first | assumption | decide | omega | (show _ ≤ 16777216; omega) | (show _ < 16777216; omega) | (simp only [List.length_append, List.length_cons, List.length_nil, List.length_replicate]; show _ ≤ 16777216; omega))))
    | ((with_reducible refine' giv_adds ?s0 ?_); (case s0 => (first | assumption | decide | omega | (show _ ≤ 16777216; omega) | (show _ < 16777216; omega) | (simp only [List.length_append, List.length_cons, List.length_nil, List.length_replicate]; show _ ≤ 16777216; omega))))
    | ((with_reducible refine' giv_addl ?s0 ?_); (case s0 => (first | assumption | decide | omega | (show _ ≤ 16777216; omega) | (show _ < 16777216; omega) | (simp only [List.length_append, List.length_cons, List.length_nil, List.length_replicate]; show _ ≤ 16777216; omega))))
    | ((with_reducible refine' giv_ixl ?s0 ?_); (case s0 => (first | assumption | rfl)))
    | ((with_reducible refine' giv_ixt ?s0 ?_); (case s0 => (first | assumption | rfl)))
    | ((with_reducible refine' giv_ixs ?s0 ?s1 ?_); (case s0 => (first | assumption | decide | omega | (show _ ≤ 16777216; omega) | (show _ < 16777216; omega) | (simp only [List.length_append, List.length_cons, List.length_nil, List.length_replicate]; show _ ≤ 16777216; omega))); (case s1 => (first | assumption | rfl)))
    | ((with_reducible refine' giv_sls ?s0 ?_); (case s0 => (first | assumption | decide | omega | (show _ ≤ 16777216; omega) | (show _ < 16777216; omega) | (simp only [List.length_append, List.length_cons, List.length_nil, List.length_replicate]; show _ ≤ 16777216; omega))))
    | with_reducible refine giv_sll ?_
    | ((with_reducible refine' giv_lens ?s0 ?_); (case s0 => (first | assumption | decide | omega | (show _ ≤ 16777216; omega) | (show _ < 16777216; omega) | (simp only [List.length_append, List.length_cons, List.length_nil, List.length_replicate]; show _ ≤ 16777216; omega))))
    | ((with_reducible refine' giv_revs ?s0 ?_); (case s0 => (first | assumption | decide | omega | (show _ ≤ 16777216; omega) | (show _ < 16777216; omega) | (simp only [List.length_append, List.length_cons, List.length_nil, List.length_replicate]; show _ ≤ 16777216; omega))))
    | with_reducible refine giv r_add1 ?_
    | with_reducible refine giv r_sub ?_
    | with_reducible refine giv r_lt ?_
    | with_reducible refine giv r_lts ?_
    | with_reducible refine giv r_le ?_
    | with_reducible refine giv r_gt ?_
    | with_reducible refine giv r_ge ?_
    | with_reducible refine giv r_eqi ?_
    | with_reducible refine giv r_eqs ?_
    | with_reducible refine giv r_eqb ?_
    | with_reducible refine giv r_nei ?_
    | with_reducible refine giv r_nes ?_
    | with_reducible refine giv r_neb ?_
    | with_reducible refine giv r_isb ?_
    | with_reducible refine giv r_ntb ?_
    | with_reducible refine giv r_ins ?_
    | with_reducible refine giv r_nis ?_
    | with_reducible refine giv r_neg ?_
    | with_reducible refine giv r_len2 ?_
    | with_reducible refine giv r_len3 ?_
    | with_reducible refine giv r_int1 ?_
    | with_reducible refine giv r_fFind ?_
    | with_reducible refine giv r_rev1 ?_
    | with_reducible refine giv r_fIsi1 ?_
    | with_reducible refine giv r_fIsi2 ?_
    | with_reducible refine giv r_fIsi3 ?_
    | with_reducible refine giv r_fIsi4 ?_
    | with_reducible refine giv r_fIsi5 ?_
    | with_reducible refine giv r_fIsi6 ?_)
    exact k.out) : P := h ⟨q⟩
end Sw
namespace Sw
open PySem PySem.Spec PyProof.Rows L2
section
variable {X : Cx} {a b c e : Expr} {ma mb mc me : M Vl} {pos p : Pos} {es : List Expr} {ms : M (List Vl)} {K : Kx}
/-- the decimals of an int -/
noncomputable def decS (i : Int) : List Nat := (Str.ofString (toString i)).cps.toList
noncomputable def cMin : List D → Option D
  | [.int i, .int j] => some (.int (if j < i then j else i))
  | _ => none
noncomputable def cMax : List D → Option D
  | [.int i, .int j] => some (.int (if j > i then j else i))
  | _ => none
theorem cs_min : CallS K (fun xs H Q => ∃ i j, xs = [.int i, .int j] ∧ Q (.int (if j < i then j else i)) H) cMin := by
  intro H F vs xs z s hx e Q q
  unfold cMin at e
  split at e
  · cases e
    obtain ⟨v, u, rfl, hv, hu⟩ := vws2 hx
    rw [vw_int hv, vw_int hu]
    exact ⟨_, _, rfl, q _ H F (Alc.refl s) (.int _)⟩
  · cases e
theorem se_min2 (hm : X.mg "min" = none) (hg : Gl X "min") (hc : X.calm = true) (ha : SA X [a, b] ms) (he : starEach [a, b] X.env = (false, eval a X.env) :: starEach [b] X.env := by rfl) (hpl : (backTo pos (starEach [b] X.env)).any (·.1) = false := by rfl) : SE X (.Call (.Name "min" p) [a, b] [] pos) (eBlt cMin ms) :=
  se_blt (call_min2 hc) cs_min hg hm (by decide +kernel) ha (by decide) (by decide) he hpl
noncomputable def cTup : List D → Option D
  | [.lst xs] => some (.tup xs)
  | [.tup xs] => some (.tup xs)
  | _ => none
theorem cs_tup : CallS K (fun xs H Q => ∃ p ys, xs = [.ref p] ∧ ((SqL K H p ys ∧ ∀ l, H l = none → Q (.ref l) (upd H l (.tup ys))) ∨ (SqT K H p ys ∧ Q (.ref p) H))) cTup := by
  intro H F vs xs z s hx e Q q
  unfold cTup at e
  split at e
  · cases e
    obtain ⟨v, rfl, a, us, rfl, h1, h2⟩ := vws1 hx
    refine ⟨a, us, rfl, .inl ⟨SqL.of h1, fun l hl => ?_⟩⟩
    have A := Alc.new (o := HO.tup us) s hl
    exact q _ _ _ A (.tup (SqT.of upd_same) (h2.mono A.ff))
  · cases e
    obtain ⟨v, rfl, hv⟩ := vws1 hx
    cases (show Rep K F v (.tup _) from hv) with
    | @tup a us _ h1 h2 => exact ⟨a, us, rfl, .inr ⟨same_t s h1, q _ H F (Alc.refl s) (.tup h1 h2)⟩⟩
  · cases e
theorem se_totup (hm : X.mg "tuple" = none) (hg : Gl X "tuple") (ha : SA X [e] ms) (he : starEach [e] X.env = (false, eval e X.env) :: starEach [] X.env := by rfl) (hpl : (backTo pos (starEach [] X.env)).any (·.1) = false := by rfl) : SE X (.Call (.Name "tuple" p) [e] [] pos) (eBlt cTup ms) :=
  se_ty call_tuple_of cs_tup hg hm (by decide +kernel) ha (by decide) (by decide) he hpl
noncomputable def itemsQ : D → Option (List D)
  | .lst xs => some xs
  | .tup xs => some xs
  | _ => none
noncomputable def eNew (m : M Vl) : M Vl := fun ρ => (m ρ).bind fun p => (look p.2 (stl p.1)).bind fun x => (itemsQ x).bind fun xs => some (.fr xs, p.2)
theorem se_tolist (hm : X.mg "list" = none) (hg : Gl X "list") (ha : SE X e me) (he : starEach [e] X.env = (false, eval e X.env) :: starEach [] X.env := by rfl) (hpl : (backTo pos (starEach [] X.env)).any (·.1) = false := by rfl) : SE X (.Call (.Name "list" p) [e] [] pos) (eNew me) := by
  refine pe_weak (pe_callTy call_list_of hg hm (by decide +kernel) (pa_cons ha pa_nil he) (by decide) (by decide) he hpl) fun σ H Q ⟨G, ρ, F, r0, ρ', W, hm, q⟩ => ?_
  unfold eNew at hm
  obtain ⟨⟨x, ρ1⟩, e1, hm⟩ := Option.bind_eq_some_iff.mp hm
  obtain ⟨dx, e3, hm⟩ := Option.bind_eq_some_iff.mp hm
  obtain ⟨xs, e5, hm⟩ := Option.bind_eq_some_iff.mp hm
  cases hm
  refine tm_use W e1 fun v H1 F1 s1 R1 => ?_
  have hv := vw_of s1.wd R1 e3
  have fin : ∀ (us : List V), Reps X.kx F1 us xs → ∀ l, H1 l = none → Q (.ref l) (upd H1 l (.lst us)) := fun us r l hl => by
    have A : Alc F1 H1 F1 (upd H1 l (.lst us)) := ⟨Same.refl _, s1.wd.sub.trans (same_upd hl), same_upd hl, fun _ h => .inl h⟩
    refine q _ _ _ (s1.trans (s1.wd.alc A)) ⟨l, us, rfl, upd_same, r, s1.wd.sub.free hl, s1.back l hl, s1.wd.not_ow hl (same_upd hl)⟩
  unfold itemsQ at e5
  split at e5
  · cases e5
    obtain ⟨a, us, rfl, h1, h2⟩ := hv
    exact ⟨a, us, rfl, .inl (SqL.of h1), fin us h2⟩
  · cases e5
    cases (show Rep X.kx F1 v (.tup _) from hv) with
    | @tup a us _ h1 h2 => exact ⟨a, us, rfl, .inr (same_t s1.wd.sub h1), fin us h2⟩
  · cases e5
end
end Sw
namespace Sw
open L2
noncomputable abbrev AscL (cs : List Nat) : Prop := cs.Pairwise (· < ·)
theorem sgn_asc : AscL SGN := by decide
theorem ascl_nodup {cs : List Nat} (h : AscL cs) : cs.Nodup := List.Pairwise.imp (fun h => Nat.ne_of_lt h) h
theorem map_get {t : List Nat} {i : Nat} {x : D} (h : (t.map fun c => D.str [c])[i]? = some x) : ∃ c, t[i]? = some c ∧ x = .str [c] := by
  rw [List.getElem?_map] at h
  cases e : t[i]? with
  | none => rw [e] at h; cases h
  | some c => rw [e] at h; cases h; exact ⟨c, rfl, rfl⟩
theorem mapS_get {t : List (List Nat)} {i : Nat} {x : D} (h : (t.map D.str)[i]? = some x) : ∃ c, t[i]? = some c ∧ x = .str c := by
  rw [List.getElem?_map] at h
  cases e : t[i]? with
  | none => rw [e] at h; cases h
  | some c => rw [e] at h; cases h; exact ⟨c, rfl, rfl⟩
theorem take_s {α : Type} {t : List α} {i : Nat} {c : α} (h : t[i]? = some c) : t.take (i + 1) = t.take i ++ [c] := by rw [List.take_add_one, h]; rfl
theorem findC_in {s : List Nat} {c : Nat} (h : c ∈ s) : findC s c = (s.idxOf c : Int) := if_pos h
section
variable {ρ : Rho} {a b : M Vl} {s : S} {QS : Fl → Rho → Prop} {i : Nat}
theorem sv_seti_l (h : Ev b ρ fun r ρ1 => ∃ z ρ2, frz ρ1 (stl r) = some (z, ρ2) ∧ (own? ρ2 i).isSome = true ∧ Ev a ρ2 fun r2 ρ3 => IsI r2 fun k => ∃ xs j, own? ρ3 i = some xs ∧ ixN xs.length k = some j ∧ QS .nx (put ρ3 i (xs.set j z))) : Sv (sSetI i a b) ρ QS := by
  obtain ⟨r, ρ1, e1, z, ρ2, e2, e3, r2, ρ3, e4, k, rfl, xs, j, e5, e6, q⟩ := h
  obtain ⟨y, ey⟩ := Option.isSome_iff_exists.mp e3
  refine ⟨.nx, _, ?_, q⟩
  show (b ρ).bind _ = _
  rw [e1]
  simp only [Option.bind_some, e2, ey, e4, e5, e6]
theorem sv_seti_s (h : Ev b ρ fun r ρ1 => ∃ z ρ2, frz ρ1 (stl r) = some (z, ρ2) ∧ (own? ρ2 i).isSome = true ∧ Ev a ρ2 fun r2 ρ3 => IsI r2 fun k => ∃ xs j, own? ρ3 i = some xs ∧ ixN xs.length k = some j ∧ Sv s (put ρ3 i (xs.set j z)) QS) : Sv (sSeq (sSetI i a b) s) ρ QS := sv_seq (sv_seti_l h)
end
end Sw
namespace Sw
open L2 PySem
mutual
theorem eqv_refl : ∀ d : PyData, d.canLay0 = true → PyData.eqv d d = true
  | .none, _ => by simp [PyData.eqv]
  | .bool b, _ => by simp [PyData.eqv]
  | .int i, _ => by simp [PyData.eqv]
  | .str x, _ => by simp [PyData.eqv]
  | .list xs, h => by simp only [PyData.eqv]; exact eqvAll_refl xs (by simpa [PyData.canLay0] using h)
  | .tuple xs, h => by simp only [PyData.eqv]; exact eqvAll_refl xs (by simpa [PyData.canLay0] using h)
  | .dict _, h => by simp [PyData.canLay0] at h
theorem eqvAll_refl : ∀ ds : List PyData, PyData.canLayAll0 ds = true → PyData.eqvAll ds ds = true
  | [], _ => by simp [PyData.eqvAll]
  | d :: ds, h => by
    simp only [PyData.canLayAll0, Bool.and_eq_true] at h
    simp only [PyData.eqvAll, Bool.and_eq_true]
    exact ⟨eqv_refl d h.1, eqvAll_refl ds h.2⟩
end
theorem eqD_same {x : D} (h : shD x = true) : fEqD x x = some (.bl true) := by
  unfold fEqD
  rw [h]
  show (if true = true then _ else _) = _
  rw [if_pos rfl, eqv_refl _ (can_shap (shD_sh h))]
theorem eq_tup {xs : List D} (h : shD (.tup xs) = true) : fEq (.tup xs) (.tup xs) = some (.bl true) := by
  show orF fEqS fEqD _ _ = _
  unfold orF
  rw [show fEqS (.tup xs) (.tup xs) = none from rfl]
  exact eqD_same h
mutual
noncomputable def okD : D → Bool
  | .str s => s.all fun c => decide (c < 55296)
  | .lst xs => okDs xs
  | .tup xs => okDs xs
  | .obj _ _ _ => false
  | _ => true
noncomputable def okDs : List D → Bool
  | [] => true
  | x :: xs => okD x && okDs xs
end
mutual
noncomputable def dpD : D → Nat
  | .lst xs => dpDs xs + 1
  | .tup xs => dpDs xs + 1
  | .scr _ => 1
  | _ => 0
noncomputable def dpDs : List D → Nat
  | [] => 0
  | x :: xs => max (dpD x) (dpDs xs)
end
theorem ints_can : ∀ xs : List Int, PyData.canLayAll0 (xs.map PyData.int) = true
  | [] => by simp [PyData.canLayAll0]
  | i :: xs => by simp only [List.map_cons, PyData.canLayAll0, PyData.canLay0, Bool.true_and]; exact ints_can xs
theorem ints_dp : ∀ xs : List Int, PyData.depthAll (xs.map PyData.int) = 0
  | [] => by simp [PyData.depthAll]
  | i :: xs => by simp only [List.map_cons, PyData.depthAll, PyData.depth, ints_dp xs]; rfl
mutual
theorem can_of : ∀ x : D, okD x = true → (toP x).canLay0 = true
  | .non, _ => by simp [toP, PyData.canLay0]
  | .bl b, _ => by simp [toP, PyData.canLay0]
  | .int i, _ => by simp [toP, PyData.canLay0]
  | .str t, h => by
    simp only [okD, List.all_eq_true, decide_eq_true_eq] at h
    simp only [toP, PyData.canLay0, PyData.strOk, List.all_toArray, List.all_eq_true, decide_eq_true_eq]
    intro c hc
    have := h c hc
    omega
  | .lst xs, h => by simp only [toP, PyData.canLay0]; exact cans_of xs (by simpa [okD] using h)
  | .tup xs, h => by simp only [toP, PyData.canLay0]; exact cans_of xs (by simpa [okD] using h)
  | .scr xs, _ => by simp only [toP, PyData.canLay0]; exact ints_can xs
  | .obj _ _ _, h => by simp [okD] at h
theorem cans_of : ∀ xs : List D, okDs xs = true → PyData.canLayAll0 (toPs xs) = true
  | [], _ => by simp [toPs, PyData.canLayAll0]
  | x :: xs, h => by
    simp only [okDs, Bool.and_eq_true] at h
    simp only [toPs, PyData.canLayAll0, Bool.and_eq_true]
    exact ⟨can_of x h.1, cans_of xs h.2⟩
end
mutual
theorem dep_of : ∀ x : D, (toP x).depth = dpD x
  | .non => by simp [toP, PyData.depth, dpD]
  | .bl b => by simp [toP, PyData.depth, dpD]
  | .int i => by simp [toP, PyData.depth, dpD]
  | .str t => by simp [toP, PyData.depth, dpD]
  | .lst xs => by simp only [toP, PyData.depth, dpD, deps_of xs]
  | .tup xs => by simp only [toP, PyData.depth, dpD, deps_of xs]
  | .scr xs => by simp only [toP, PyData.depth, dpD, ints_dp xs]
  | .obj _ _ _ => by simp [toP, PyData.depth, dpD]
theorem deps_of : ∀ xs : List D, PyData.depthAll (toPs xs) = dpDs xs
  | [] => by simp [toPs, PyData.depthAll, dpDs]
  | x :: xs => by simp only [toPs, PyData.depthAll, dpDs, dep_of x, deps_of xs]
end
mutual
theorem pln_of : ∀ x : D, okD x = true → plnD x = true
  | .non, _ => rfl
  | .bl b, _ => rfl
  | .int i, _ => rfl
  | .str t, _ => rfl
  | .lst xs, h => by unfold okD at h; unfold plnD; exact plns_of xs h
  | .tup xs, h => by unfold okD at h; unfold plnD; exact plns_of xs h
  | .scr xs, _ => rfl
  | .obj _ _ _, h => by simp [okD] at h
theorem plns_of : ∀ xs : List D, okDs xs = true → plnDs xs = true
  | [], _ => rfl
  | x :: xs, h => by
    unfold okDs at h
    rw [Bool.and_eq_true] at h
    unfold plnDs
    rw [pln_of x h.1, plns_of xs h.2]; rfl
end
theorem shD_of2 {x : D} (h : okD x = true) (hd : dpD x ≤ 180) : shD x = true := by
  unfold shD shap
  rw [pln_of x h, can_of x h, dep_of x, decide_eq_true hd]
  rfl
theorem shD_of {x : D} (h : okD x = true) (hd : dpD x ≤ 64) : shD x = true := shD_of2 h (Nat.le_trans hd (by decide))
end Sw
namespace Sw
open PySem PySem.Spec PyProof.Rows L2
section
variable {X : Cx} {a b c e : Expr} {pos p : Pos} {es : List Expr} {ms : M (List Vl)} {K : Kx}
noncomputable def cMin3 : List D → Option D
  | [.int i, .int j, .int k] => some (.int (min (min i j) k))
  | _ => none
theorem min_if (i j : Int) : (if j < i then j else i) = min i j := by
  split <;> omega
@[simp] theorem r_min2 {i j : Int} : cMin [.int i, .int j] = some (.int (min i j)) := by show some (D.int _) = _; rw [min_if]
theorem max_if (i j : Int) : (if j > i then j else i) = max i j := by
  split <;> omega
@[simp] theorem r_max2 {i j : Int} : cMax [.int i, .int j] = some (.int (max i j)) := by show some (D.int _) = _; rw [max_if]
@[simp] theorem r_min3 {i j k : Int} : cMin3 [.int i, .int j, .int k] = some (.int (min (min i j) k)) := rfl
noncomputable def cStrA : List D → Option D
  | [.int i] => if -1000000000 < i ∧ i < 1000000000 then some (.str (decS i)) else none
  | [.str s] => some (.str s)
  | [.bl b] => some (.str (if b then [84, 114, 117, 101] else [70, 97, 108, 115, 101]))
  | [.non] => some (.str [78, 111, 110, 101])
  | _ => none
end
end Sw
namespace Sw
open L2
theorem fv_nextE {xs : List D} {m e : Int} {Q : Vl → List (List D) → Prop} (h : DrE e xs) (hm : 0 < m) (q : ∀ r ys, 0 ≤ r → r < m → DrE e ys → Q (.fz (.int r)) [ys]) : Fv lawNext [.li xs, .da (.int m)] Q := by
  obtain ⟨r, ys, e, h1, h2, h3⟩ := next_okE h hm
  exact ⟨_, _, e, q r ys h1 h2 h3⟩
theorem fv_drawE {ns : List Int} {Q : Vl → List (List D) → Prop} (h : ns.length ≤ 63) (q : ∀ xs, DrE 3 xs → Q (.fr xs) []) : Fv lawDraw [.da (.scr ns)] Q := by
  obtain ⟨xs, e, h⟩ := draw_okE h
  exact ⟨_, _, e, q xs h⟩
theorem atI_mem {α : Type} {xs : List α} {r : Int} (h0 : 0 ≤ r) (h1 : r < xs.length) : ∃ x, x ∈ xs ∧ atI xs r = some x := ⟨_, List.getElem_mem _, atI_int h0 h1⟩
theorem giv_ixl_all {xs : List D} {r : Int} {Q : D → Prop} (h0 : 0 ≤ r) (h1 : r < xs.length) (q : ∀ x ∈ xs, Q x) : Giv (fIx (.lst xs) (.int r)) Q := by
  obtain ⟨x, hx, e⟩ := atI_mem h0 h1
  exact giv_ixl e (q x hx)
theorem giv_ixs_all {xs : List Nat} {r : Int} {Q : D → Prop} (hl : xs.length ≤ lim) (h0 : 0 ≤ r) (h1 : r < xs.length) (q : ∀ c ∈ xs, Q (.str [c])) : Giv (fIx (.str xs) (.int r)) Q := by
  obtain ⟨x, hx, e⟩ := atI_mem h0 h1
  exact giv_ixs hl e (q x hx)
theorem all_nil {α : Type} {Q : α → Prop} : ∀ x ∈ ([] : List α), Q x := fun _ h => by cases h
theorem all_cons {α : Type} {Q : α → Prop} {a : α} {xs : List α} (h : Q a) (t : ∀ x ∈ xs, Q x) : ∀ x ∈ a :: xs, Q x := fun x hx => by
  rcases List.mem_cons.mp hx with rfl | hx
  · exact h
  · exact t x hx
theorem giv_dr4 {xs : List D} {e : Int} {Q : D → Prop} (h : DrE e xs) (q : Q (.int e)) : Giv (fIx (.lst xs) (.int 4)) Q := by
  obtain ⟨k, a, b, ds, rfl, hk⟩ := h.ex
  exact giv_ixl rfl q
theorem DrE.set4 {xs : List D} {e : Int} (h : DrE e xs) (e' : Int) : xs.length = 5 ∧ DrE e' (xs.set 4 (.int e')) := by
  obtain ⟨k, a, b, ds, rfl, hk⟩ := h.ex
  exact ⟨rfl, ⟨k, a, b, ds, rfl, hk⟩⟩
section
variable {ρ : Rho} {b : M Vl} {s : S} {QS : Fl → Rho → Prop} {i : Nat}
/-- the fifth cell is stored -/
theorem sv_set4_s (h : Ev b ρ fun r ρ1 => IsI r fun e' => ∃ xs, own? ρ1 i = some xs ∧ (∃ e, DrE e xs) ∧ ∀ ys, DrE e' ys → Sv s (put ρ1 i ys) QS) : Sv (sSeq (sSetI i (eC (.int 4)) b) s) ρ QS := by
  obtain ⟨r, ρ1, e1, e', rfl, xs, e5, ⟨e, hd⟩, q⟩ := h
  refine sv_seti_s ⟨_, ρ1, e1, .int e', ρ1, rfl, by rw [e5]; rfl, ?_⟩
  exact ev_c (isI ⟨xs, 4, e5, by rw [(hd.set4 e').1]; rfl, q _ (hd.set4 e').2⟩)
end
theorem own_at {ρ : Rho} {i : Nat} {xs : List D} {P : List D → Prop} (h : own? ρ i = some xs) (q : P xs) : ∃ xs, own? ρ i = some xs ∧ P xs := ⟨xs, h, q⟩
theorem giv_tup {xs : List D} {Q : D → Prop} (q : Q (.tup xs)) : Giv (cTup [.lst xs]) Q := ⟨_, rfl, q⟩
theorem giv_tupt {xs : List D} {Q : D → Prop} (q : Q (.tup xs)) : Giv (cTup [.tup xs]) Q := ⟨_, rfl, q⟩
theorem giv_str {i : Int} {Q : D → Prop} (h : -1000000000 < i ∧ i < 1000000000) (q : Q (.str (decS i))) : Giv (cStrA [.int i]) Q := ⟨_, by show (if _ then _ else _) = _; rw [if_pos h], q⟩
theorem giv_strN {Q : D → Prop} (q : Q (.str [78, 111, 110, 101])) : Giv (cStrA [.non]) Q := ⟨_, rfl, q⟩
theorem giv_strS {s : List Nat} {Q : D → Prop} (q : Q (.str s)) : Giv (cStrA [.str s]) Q := ⟨_, rfl, q⟩
@[simp] theorem r_isn1 {i : Int} : fIs (.int i) .non = some (.bl false) := rfl
@[simp] theorem r_isn2 : fIs .non .non = some (.bl true) := rfl
@[simp] theorem r_isn3 {s : List Nat} : fIs (.str s) .non = some (.bl false) := rfl
@[simp] theorem r_isn4 {s : List D} : fIs (.tup s) .non = some (.bl false) := rfl
@[simp] theorem r_isn5 {s : List D} : fIs (.lst s) .non = some (.bl false) := rfl
@[simp] theorem r_ntn1 {i : Int} : fNt (.int i) .non = some (.bl true) := rfl
@[simp] theorem r_ntn2 : fNt .non .non = some (.bl false) := rfl
@[simp] theorem r_ntn3 {s : List Nat} : fNt (.str s) .non = some (.bl true) := rfl
@[simp] theorem r_ntn4 {s : List D} : fNt (.tup s) .non = some (.bl true) := rfl
@[simp] theorem r_ntn5 {s : List D} : fNt (.lst s) .non = some (.bl true) := rfl
@[simp] theorem r_eqn1 {i : Int} : fEq (.int i) .non = some (.bl false) := rfl
@[simp] theorem r_eqn2 {i : Int} : fEq .non (.int i) = some (.bl false) := rfl
theorem gEv {α : Type} {m : M α} {ρ : Rho} {Q : α → Rho → Prop} (h : Ev m ρ Q) : Ev m ρ Q := h
theorem gSv {s : S} {ρ : Rho} {Q : Fl → Rho → Prop} (h : Sv s ρ Q) : Sv s ρ Q := h
theorem gGiv {o : Option D} {Q : D → Prop} (h : Giv o Q) : Giv o Q := h
theorem gFv {f : Fn} {gs : List Ag} {Q : Vl → List (List D) → Prop} (h : Fv f gs Q) : Fv f gs Q := h
theorem gBrn {c : Bool} {A B : Prop} (h : Brn c A B) : Brn c A B := h
theorem brn_c {c : Bool} {A B : Prop} (h1 : c = true → A) (h2 : c = false → B) : Brn c A B := ⟨h1, h2⟩
theorem set_back {ρ : Rho} {v : Nat} (hv : plainSl ρ[v]? = true) : (ρ.set v .no).set v ((ρ[v]?).getD .no) = ρ := by
  rw [List.set_set]
  cases e : ρ[v]? with
  | none => rw [e] at hv; cases hv
  | some s =>
    obtain ⟨h, rfl⟩ := List.getElem?_eq_some_iff.mp e
    exact List.set_getElem_self h
theorem plain_io {ρ : Rho} {v : Nat} (hv : plainSl ρ[v]? = true) : v < ρ.length := by
  cases e : ρ[v]? with
  | none => rw [e] at hv; cases hv
  | some s => exact (List.getElem?_eq_some_iff.mp e).1
theorem ev_lcf {α : Type} {ρ : Rho} {v : Nat} {src : M (List D)} {t : M Bool} {e : M Vl} {Q : Vl → Rho → Prop} (xs : List α) (d : α → D) (p : α → Bool) (h : α → D)
    (hv : plainSl ρ[v]? = true) (hl : xs.length ≤ lim) (hs : ∀ {Q' : List D → Rho → Prop}, Q' (xs.map d) ρ → Ev src ρ Q')
    (ht : ∀ x ∈ xs, ∀ {Q' : Bool → Rho → Prop}, Q' (p x) (ρ.set v (.d (d x))) → Ev t (ρ.set v (.d (d x))) Q')
    (he : ∀ x ∈ xs, p x = true → ∀ {Q' : Vl → Rho → Prop}, Q' (.fz (h x)) (ρ.set v (.d (d x))) → Ev e (ρ.set v (.d (d x))) Q')
    (q : Q (.fr ((xs.filter p).map h)) ρ) : Ev (eLc [v] src (gN v) t e) ρ Q := by
  have hvl := plain_io hv
  refine ev_lc (fun i acc ρ' => acc = ((xs.take i).filter p).map h ∧ ρ' = ρ.set v .no) (hs ?_)
  refine ⟨by simp only [List.all_cons, hv, List.all_nil]; rfl, ⟨by simp, rfl⟩, ?_, ?_⟩
  · rintro i y hy acc ρ' ⟨rfl, rfl⟩
    rw [List.getElem?_map] at hy
    cases hi : xs[i]? with
    | none => rw [hi] at hy; cases hy
    | some x =>
      rw [hi] at hy
      cases hy
      have hx := List.mem_of_getElem? hi
      have hi' : i < xs.length := (List.getElem?_eq_some_iff.mp hi).1
      refine ⟨ρ.set v (.d (d x)), ?_, ht x hx ?_⟩
      · show asg v (.fz (d x)) _ = _
        rw [asg_z (by rw [List.getElem?_set_self hvl]; rfl), List.set_set]
      · refine ⟨fun hp => he x hx hp ⟨h x, _, rfl, ?_, ?_, ?_⟩, fun hp => ⟨?_, ?_⟩⟩
        · rw [List.length_map]
          have := List.length_filter_le p (xs.take i)
          rw [List.length_take] at this
          omega
        · rw [take_s hi, List.filter_append, List.map_append]; simp [hp]
        · show (ρ.set v (.d (d x))).set v .no = _
          rw [List.set_set]
        · rw [take_s hi, List.filter_append, List.map_append]; simp [hp]
        · show (ρ.set v (.d (d x))).set v .no = _
          rw [List.set_set]
  · rintro acc ρ' ⟨rfl, rfl⟩
    rw [List.length_map, List.take_length]
    show Q _ ((ρ.set v .no).set v ((ρ[v]?).getD .no))
    rw [set_back hv]
    exact q
theorem ev_lcm {α : Type} {ρ : Rho} {v : Nat} {src : M (List D)} {e : M Vl} {Q : Vl → Rho → Prop} (xs : List α) (d : α → D) (h : α → D)
    (hv : plainSl ρ[v]? = true) (hl : xs.length ≤ lim) (hs : ∀ {Q' : List D → Rho → Prop}, Q' (xs.map d) ρ → Ev src ρ Q')
    (he : ∀ x ∈ xs, ∀ {Q' : Vl → Rho → Prop}, Q' (.fz (h x)) (ρ.set v (.d (d x))) → Ev e (ρ.set v (.d (d x))) Q')
    (q : Q (.fr (xs.map h)) ρ) : Ev (eLc [v] src (gN v) tYesM e) ρ Q :=
  ev_lcf xs d (fun _ => true) h hv hl hs (fun x _ Q' q => ev_tyes q) (fun x hx _ => he x hx) (by rw [List.filter_eq_self.mpr (fun _ _ => rfl)]; exact q)
theorem sIx_ge {n d : Nat} {r : Int} (h : 0 ≤ r) : HT.sIx n d (some r) = min r.toNat n := by
  obtain ⟨k, rfl⟩ := Int.eq_ofNat_of_zero_le h
  rw [HT.sIx_nat]; rfl
theorem cut_take {α : Type} {xs : List α} {r : Int} (h : 0 ≤ r) : cutL xs none (some r) = xs.take r.toNat := by
  unfold cutL
  rw [sIx_ge h]
  show (xs.drop 0).take (min r.toNat xs.length - 0) = _
  rw [List.drop_zero, Nat.sub_zero, Nat.min_comm, ← List.take_take]
  rw [List.take_take, Nat.min_comm]
  by_cases hl : r.toNat ≤ xs.length
  · rw [Nat.min_eq_left hl]
  · rw [Nat.min_eq_right (by omega), List.take_length, List.take_of_length_le (by omega)]
theorem cut_drop {α : Type} {xs : List α} {r : Int} (h : 0 ≤ r) : cutL xs (some r) none = xs.drop r.toNat := by
  unfold cutL
  rw [sIx_ge h]
  show (xs.drop (min r.toNat xs.length)).take (xs.length - min r.toNat xs.length) = _
  by_cases hl : r.toNat ≤ xs.length
  · rw [Nat.min_eq_left hl, List.take_of_length_le (by rw [List.length_drop]; omega)]
  · rw [Nat.min_eq_right (by omega), List.drop_length, List.drop_of_length_le (by omega), List.take_nil]
theorem cut_mid {α : Type} {xs : List α} {r u : Int} (h : 0 ≤ r) (h2 : 0 ≤ u) : cutL xs (some r) (some u) = (xs.drop r.toNat).take (u.toNat - r.toNat) := by
  unfold cutL
  rw [sIx_ge h, sIx_ge h2]
  by_cases hl : r.toNat ≤ xs.length
  · rw [Nat.min_eq_left hl]
    by_cases hu : u.toNat ≤ xs.length
    · rw [Nat.min_eq_left hu]
    · rw [Nat.min_eq_right (by omega), List.take_of_length_le (by rw [List.length_drop]; omega), List.take_of_length_le (by rw [List.length_drop]; omega)]
  · rw [show min r.toNat xs.length = xs.length by omega, List.drop_length, List.drop_of_length_le (by omega), List.take_nil, List.take_nil]
theorem cut_m1 {α : Type} {xs : List α} : cutL xs none (some (-1)) = xs.dropLast := by
  unfold cutL
  have e : HT.sIx xs.length xs.length (some (-1)) = xs.length - 1 := by
    unfold HT.sIx
    simp
    omega
  rw [e]
  show (xs.drop 0).take (xs.length - 1 - 0) = _
  rw [List.drop_zero, Nat.sub_zero, List.dropLast_eq_take]
theorem giv_slt {xs : List Nat} {r : Int} {Q : D → Prop} (hl : xs.length ≤ lim) (h : 0 ≤ r) (q : Q (.str (xs.take r.toNat))) : Giv (fSl (.str xs) none (some r)) Q := giv_sls hl (by rw [cut_take h]; exact q)
theorem giv_sld {xs : List Nat} {r : Int} {Q : D → Prop} (hl : xs.length ≤ lim) (h : 0 ≤ r) (q : Q (.str (xs.drop r.toNat))) : Giv (fSl (.str xs) (some r) none) Q := giv_sls hl (by rw [cut_drop h]; exact q)
theorem giv_slm {xs : List Nat} {r u : Int} {Q : D → Prop} (hl : xs.length ≤ lim) (h : 0 ≤ r) (h2 : 0 ≤ u) (q : Q (.str ((xs.drop r.toNat).take (u.toNat - r.toNat)))) : Giv (fSl (.str xs) (some r) (some u)) Q := giv_sls hl (by rw [cut_mid h h2]; exact q)
theorem giv_slm1 {xs : List Nat} {Q : D → Prop} (hl : xs.length ≤ lim) (q : Q (.str xs.dropLast)) : Giv (fSl (.str xs) none (some (-1))) Q := giv_sls hl (by rw [cut_m1]; exact q)
theorem giv_sltl {xs : List D} {r : Int} {Q : D → Prop} (h : 0 ≤ r) (q : Q (.lst (xs.take r.toNat))) : Giv (fSl (.lst xs) none (some r)) Q := giv_sll (by rw [cut_take h]; exact q)
theorem giv_sldl {xs : List D} {r : Int} {Q : D → Prop} (h : 0 ≤ r) (q : Q (.lst (xs.drop r.toNat))) : Giv (fSl (.lst xs) (some r) none) Q := giv_sll (by rw [cut_drop h]; exact q)
theorem ev_tAnd_d {t u : M Bool} {ρ : Rho} {QB : Bool → Rho → Prop} {p q : Prop} {ip : Decidable p} {iq : Decidable q} (ht : ∀ Q : Bool → Rho → Prop, Q (@decide p ip) ρ → Ev t ρ Q) (hu : p → ∀ Q : Bool → Rho → Prop, Q (@decide q iq) ρ → Ev u ρ Q) (h : QB (decide (p ∧ q)) ρ) : Ev (tAnd t u) ρ QB := by
  refine ev_tAnd (ht _ ?_)
  refine brn_d (fun hp => hu hp _ ?_) (fun hp => ?_)
  · rw [show decide q = decide (p ∧ q) by simp [hp]]; exact h
  · rw [show false = decide (p ∧ q) by simp [hp]]; exact h
theorem ev_tOr_d {t u : M Bool} {ρ : Rho} {QB : Bool → Rho → Prop} {p q : Prop} {ip : Decidable p} {iq : Decidable q} (ht : ∀ Q : Bool → Rho → Prop, Q (@decide p ip) ρ → Ev t ρ Q) (hu : ¬ p → ∀ Q : Bool → Rho → Prop, Q (@decide q iq) ρ → Ev u ρ Q) (h : QB (decide (p ∨ q)) ρ) : Ev (tOr t u) ρ QB := by
  refine ev_tOr (ht _ ?_)
  refine brn_d (fun hp => ?_) (fun hp => hu hp _ ?_)
  · rw [show true = decide (p ∨ q) by simp [hp]]; exact h
  · rw [show decide q = decide (p ∨ q) by simp [hp]]; exact h
theorem toD_t {Q : Bool → Rho → Prop} {ρ : Rho} (q : Q (decide ((0 : Int) = 0)) ρ) : Q true ρ := q
theorem toD_f {Q : Bool → Rho → Prop} {ρ : Rho} (q : Q (decide ((0 : Int) = 1)) ρ) : Q false ρ := q
theorem toD_b {Q : Bool → Rho → Prop} {ρ : Rho} {o : Bool} (q : Q (decide (o = true)) ρ) : Q o ρ := by rw [Bool.decide_eq_true] at q; exact q
theorem toD_n {Q : Bool → Rho → Prop} {ρ : Rho} {p : Prop} {ip : Decidable p} (q : Q (decide (¬ p)) ρ) : Q (!@decide p ip) ρ := by rw [decide_not] at q; exact q
end Sw
namespace Sw
open PySem PySem.Spec PyProof.Rows L2
section
variable {X : Cx} {a b c e : Expr} {pos p : Pos} {es : List Expr} {ms : M (List Vl)} {me : M Vl} {K : Kx}
noncomputable def intsD : List D → Option (List Int)
  | [] => some []
  | .int i :: xs => (intsD xs).bind fun r => some (i :: r)
  | _ => none
theorem intsD_ok {F : Hp} : ∀ {vs : List V} {xs : List D} {bs : List Int}, Reps K F vs xs → intsD xs = some bs → vs = bs.map V.int
  | _, _, _, .nil, e => by cases e; rfl
  | _, _, _, .cons r t, e => by
    cases r with
    | int b =>
      unfold intsD at e
      obtain ⟨zs, e1, e⟩ := Option.bind_eq_some_iff.mp e
      cases e
      rw [intsD_ok t e1]; rfl
    | _ => cases e
end
end Sw
namespace Sw
open PySem PySem.Spec PyProof.Rows L2
set_option maxHeartbeats 8000000 in
/-- enumerate of anything whose iterator is one new object -/
theorem meetsEnum1 {v : Value} {ob : Obj} {P : Heap → Prop} (B : Begins v ob P) : Meets (Builtin.«enumerate.__new__» ⟨[.type "enumerate", v], []⟩) (fun _ R s => P s.heap ∧ R (.ok (.ret (.ref (s.heap.push ob).objs.size)))
    { s with heap := (s.heap.push ob).push { cls := .type "enumerate", data := .fields #[.none, .bool false, .ref s.heap.objs.size, rawInt 0, .none, .none] } }) := by
  refine .of_wp fun prog w A R s h => ?_
  obtain ⟨hp, gs, dr, tk, os⟩ := s
  obtain ⟨hP, hR⟩ := h
  have su := sub_enumerate
  have it1 : ∀ {A' : Around} {E' : Value → Shared → Prop} {Q' : Value → Shared → Prop}, Q' (.ref hp.objs.size) ⟨hp.push ob, gs, dr, tk, os⟩ → wpAny (model prog w) A' (pyIter v) Q' E' ⟨hp, gs, dr, tk, os⟩ := fun q' => B.iter prog w _ _ ⟨hp, gs, dr, tk, os⟩ _ hP q'
  wp_walk using it1
  refine wpAny_stack_any fun stk => wpAny_pure ?_
  split
  · rename_i cc _ _ _ _ _
    cases (cc == Value.type "enumerate") <;> (wp_walk using it1; exact ⟨_, rfl, hR⟩)
  · wp_walk using it1; exact ⟨_, rfl, hR⟩
theorem callEnum1 {prog : Program} {w : World} {A : Around} {E : Value → Shared → Prop} {s : Shared} {v : Value} {ob : Obj} {P : Heap → Prop} {Q : Value → Shared → Prop} (B : Begins v ob P) (hP : P s.heap)
    (q : ∀ h', IsEnum h' (s.heap.objs.size + 1) s.heap.objs.size 0 .none → h'.get? s.heap.objs.size = some ob → h'.objs.size = s.heap.objs.size + 2 → (∀ b o, s.heap.get? b = some o → h'.get? b = some o) → Q (.ref (s.heap.objs.size + 1)) { s with heap := h' }) :
    wpAny (model prog w) A (call (.type "enumerate") [v]) Q E s := by
  refine callType_new F.called_enumerate (by decide) (F.typeCall_enumerate_1 _) (F.newCall_enumerate_1 _) (fun _ => F.args_object_init_2 _ _) F.entry_enumerate_new (meetsEnum1 B) ⟨hP, ?_⟩
  have sz : (s.heap.push ob).objs.size = s.heap.objs.size + 1 := Heap.size_push ..
  show _ ∧ _
  rw [sz]
  have en : IsEnum ((s.heap.push ob).push { cls := .type "enumerate", data := .fields #[.none, .bool false, .ref s.heap.objs.size, rawInt 0, .none, .none] }) (s.heap.objs.size + 1) s.heap.objs.size 0 .none := by
    have z := Heap.get?_push_size (s.heap.push ob) (o := { cls := .type "enumerate", data := .fields #[.none, .bool false, .ref s.heap.objs.size, rawInt 0, .none, .none] }) rfl
    rwa [sz] at z
  exact ⟨⟨_, en, rfl⟩, q _ en (Heap.get?_push_of_some _ (Heap.get?_push_size _ B.free)) (by rw [Heap.size_push, sz]) fun b o z => Heap.get?_push_of_some _ (Heap.get?_push_of_some _ z)⟩
/-- the tuple at a as it stands, each item in a new pair -/
noncomputable def IteT (K : PySem.W.Frag) (a : Addr) : It :=
  ⟨fun i H => ∃ (xs : List V) (x : V), SqT K H a xs ∧ xs[i]? = some x, fun i H v H' => ∃ t x, v = .ref t ∧ H t = none ∧ H' = upd H t (.tup [.int (i : Nat), x]) ∧ ∀ xs, SqT K H a xs → xs[i]? = some x, fun i H => ∃ xs : List V, SqT K H a xs ∧ xs.length ≤ i⟩
theorem turnEnumT {P : Program} {w : World} {K : PySem.W.Frag} {elts : List Expr} {kk : Nat} {tpos : Pos} (a e it : Addr) :
    Turn P w K (.Tuple elts kk tpos) (IteT K a) [e, it] e (fun i h => (∃ old, IsEnum h e it ((i : Nat) : Int) old) ∧ h.IsTupleIter it a i ∧ e ≠ it ∧ a ≠ it ∧ a ≠ e) where
  mem := List.mem_cons_self
  obj := fun i h st b hb => by
    obtain ⟨⟨old, he⟩, ⟨o, ho, _, hd⟩, _⟩ := st
    rcases List.mem_cons.mp hb with rfl | hb
    · exact ⟨_, he, fun v z => nomatch z⟩
    · rw [List.mem_singleton.mp hb]
      exact ⟨o, ho, fun v z => by rw [hd] at z; cases z⟩
  keep := fun i h h' st k => by
    obtain ⟨⟨old, he⟩, hi, n1⟩ := st
    exact ⟨⟨old, k e List.mem_cons_self _ he⟩, hi.at fun o z => k it (by simp) o z, n1⟩
  item := by
    intro X hP hw hK hc i pins s σ H E I hf st hg
    subst hP hw hK
    obtain ⟨⟨old, he⟩, hit, n1, n2, n3⟩ := st
    obtain ⟨xs, x, hq, hx⟩ := hg
    obtain ⟨its, rv, tp, hz⟩ := I.tuple hq
    obtain ⟨u, hu, ru⟩ := rv.get hx
    have le : e < s.heap.objs.size := Heap.lt_size he
    have li : it < s.heap.objs.size := by obtain ⟨_, z, _⟩ := hit; exact Heap.lt_size z
    have il : i < its.toArray.size := by
      have := (List.getElem?_eq_some_iff.mp hu).1
      simpa using this
    refine wpAny_pyNext_enum_itemD (Draws.tuple (A := X.A.in1) (show X.A.in1.handled = none from I.ok.hd hc) it a n2 its.toArray) he ⟨hit, tp⟩ il n1 (by simp [n1, Ne.symm n3]) fun y h' tk hy ho st' hT hsz hk => ?_
    have ey : y = u := by
      have hy' : its[i]? = some y := by simpa using hy
      rw [hu] at hy'; exact (Option.some.inj hy').symm
    subst ey
    refine ⟨_, rfl, wpAny_letOwnedTupleGo_enum (s := { s with heap := h', toks := tk + 1 }) ho fun h2 he2 sb => ?_⟩
    have hT2 : h2.get? s.heap.objs.size = some { cls := .type "tuple", data := .seq #[.int i tk, y] } := (sb.2 _ (Nat.ne_of_gt le)).trans hT
    have new : ObjOk X.prog X.w (upd H s.heap.objs.size (.tup [.int (i : Nat), x])) h2 s.heap.objs.size (.tup [.int (i : Nat), x]) := ⟨by show 2 ≤ sizeLine; decide, [.int i tk, y], .cons ⟨_, rfl⟩ (.cons ru .nil), ⟨_, hT2, rfl, _, rfl⟩⟩
    have I1 : Inv X pins σ (upd H s.heap.objs.size (.tup [.int (i : Nat), x])) { s with heap := h2, toks := tk + 1 } :=
      I.turnedNew (ch := [e, it]) (fun b ob hb z => (sb.2 b (fun w => hb (by simp [w]))).trans (hk b ob (fun w => hb (by simp [w])) (fun w => hb (by simp [w])) z)) hf (Nat.le_refl _) new
    refine ⟨.ref s.heap.objs.size, _, I1, rfl, ⟨_, x, rfl, I.hok.fresh (Nat.le_refl _), rfl, fun ys hy => by rw [I.tuple_inj hy hq]; exact hx⟩, ⟨⟨y, ?_⟩, st'.1.at fun o z => (sb.2 it (Ne.symm n1)).trans z, n1, n2, n3⟩, fun b hb => ?_⟩
    · rw [show ((i + 1 : Nat) : Int) = (i : Int) + 1 by omega]; exact he2
    · have lb : b < s.heap.objs.size := by
        rcases List.mem_cons.mp hb with rfl | hb
        · exact le
        · rw [List.mem_singleton.mp hb]; exact li
      rw [upd_ne (Nat.ne_of_lt lb)]
      exact (hf b hb).1
  done := by
    intro X hP hw hK hc i pins s σ H E I hf st hg
    subst hP hw hK
    obtain ⟨⟨old, he⟩, hit, n1, n2, n3⟩ := st
    obtain ⟨xs, hq, hx⟩ := hg
    obtain ⟨its, rv, tp, hz⟩ := I.tuple hq
    obtain ⟨f0, f1, f2, f3, f4, f5⟩ := hf it (by simp)
    have hl := rv.length
    have dr : Draws X.prog X.w X.A.in1 it [it, a] i (fun _ _ => True) (fun j h => j = i ∧ h.IsTupleIter it a i ∧ h.IsTuple a its.toArray) :=
      { live := fun _ _ z => let ⟨o, ho, _⟩ := z.2.1; ⟨o, ho⟩
        frame := fun _ _ _ z k => ⟨z.1, z.2.1.at fun o w => k it (by simp) o w, z.2.2.at fun o w => k a (by simp) o w⟩
        item := fun j _ _ _ hj z _ => absurd z.1 (Nat.ne_of_lt hj)
        done := fun s2 Q2 E2 z hE => wpAny_nextOf_tuple_end (show X.A.in1.handled = none from I.ok.hd hc) z.2.1 z.2.2 (by simp; omega) hE }
    exact wpAny_pyNext_enum_endD dr he ⟨rfl, hit, tp⟩ fun h' eb => ⟨rfl, I.turned (t' := s.toks) (fun b o hb z => eb b o hb z) f0 f1 f3 f4 f5⟩
  self := fun A i s Q E st h => let ⟨⟨_, he⟩, _⟩ := st; wpAny_pyIter_enum he h
noncomputable def iEnumT (K : PySem.W.Frag) (ta : TA) : TI := fun σ H R => ta σ H fun vs H1 => ∃ a xs, vs = [.ref a] ∧ SqT K H1 a xs ∧ R (IteT K a) H1
theorem pi_enumT {X : Cx} {e : Expr} {ta : TA} {p pos tpos : Pos} {elts : List Expr} {kk : Nat} (hg : Gl X "enumerate") (hm : X.mg "enumerate" = none) (ha : PA X [e] ta) (hs : starEach [e] X.env = [(false, eval e X.env)] := by rfl) :
    PI X (.Tuple elts kk tpos) (.Call (.Name "enumerate" p) [e] [] pos) (iEnumT X.K ta) := by
  refine ⟨fun pins s σ H R I h => ?_⟩
  refine Call_ (ld_blt I hg hm boot_enumerate (PyProof.Rows.callWith_type1 (thn (ha.run pos pins s σ H _ I h) fun us s1 z => ?_) hs rfl))
  obtain ⟨vs, H1, I1, r1, a, xs, ex, hq, q⟩ := z
  subst ex
  cases r1 with
  | cons r rr =>
    cases rr
    cases r
    obtain ⟨its, rv, tp, hz⟩ := I1.tuple hq
    refine callEnum1 (begins_tuple a its.toArray) tp fun h' he hit hsz hk => wpAny_pyIter_enum he ?_
    have I2 : Inv X pins σ H1 { s1 with heap := h' } := I1.kept (t' := s1.toks) hk
    have la : a < s1.heap.objs.size := by obtain ⟨_, z, _⟩ := tp; exact Heap.lt_size z
    refine ⟨s1.heap.objs.size + 1, [s1.heap.objs.size + 1, s1.heap.objs.size], _, _, H1, rfl, I2, turnEnumT a (s1.heap.objs.size + 1) s1.heap.objs.size, ⟨⟨.none, he⟩, ⟨_, hit, rfl, rfl⟩, Nat.succ_ne_self _, Nat.ne_of_lt la, Nat.ne_of_lt (Nat.lt_succ_of_lt la)⟩, fun b hb => ?_, q⟩
    have hle : s1.heap.objs.size ≤ b := by
      rcases List.mem_cons.mp hb with rfl | hb
      · omega
      · rw [List.mem_singleton.mp hb]; exact Nat.le_refl _
    exact I1.fpOk hle (I1.hok.fresh hle)
noncomputable def enumL (xs : List D) : List D := xs.zipIdx.map fun p => .tup [.int (p.2 : Nat), p.1]
theorem enumL_get {xs : List D} {i : Nat} : (enumL xs)[i]? = (xs[i]?).map fun x => .tup [.int (i : Nat), x] := by
  unfold enumL
  rw [List.getElem?_map, List.getElem?_zipIdx]
  cases xs[i]? with
  | none => rfl
  | some x => simp
theorem enumL_len {xs : List D} : (enumL xs).length = xs.length := by unfold enumL; simp
noncomputable def iEn (m : M (List Vl)) : M (List D) := fun ρ => (m ρ).bind fun p => match p.1 with
  | [r] => (frz p.2 r).bind fun q => match q.1 with
    | .lst xs => some (enumL xs, q.2)
    | .tup xs => some (enumL xs, q.2)
    | _ => none
  | _ => none
theorem jr_enT {K : Kx} {F : Hp} {a : Addr} {vs : List V} {xs : List D} (h : SqT K F a vs) (r : Reps K F vs xs) : JR K (IteT K a) F (enumL xs) where
  go := fun i H s hi => ⟨vs, vs[i]'(by rw [r.len]; rw [enumL_len] at hi; exact hi), same_t s h, List.getElem?_eq_getElem _⟩
  yl := fun i H F1 x H' hi s1 s2 y => by
    obtain ⟨t, z, rfl, hn, rfl, y⟩ := y
    have e := y vs (same_t s2 (same_t s1 h))
    obtain ⟨d, h1, h2⟩ := r.get e
    have A := Alc.new (o := HO.tup [.int (i : Nat), z]) s2 hn
    exact ⟨_, _, A, by rw [enumL_get, h1]; rfl, .tup (SqT.of upd_same) (.cons (.int _) (.cons (h2.mono (s1.trans A.ff)) .nil))⟩
  st := fun i H s hi => ⟨vs, same_t s h, by rw [r.len]; rw [enumL_len] at hi; exact hi⟩
theorem jr_enL {K : Kx} {F : Hp} {a : Addr} {vs : List V} {xs : List D} (h : SqL K F a vs) (r : Reps K F vs xs) : JR K (Ite K a) F (enumL xs) where
  go := fun i H s hi => ⟨vs, vs[i]'(by rw [r.len]; rw [enumL_len] at hi; exact hi), s.seq h, List.getElem?_eq_getElem _⟩
  yl := fun i H F1 x H' hi s1 s2 y => by
    obtain ⟨t, z, rfl, hn, rfl, y⟩ := y
    have e := y vs (s2.seq (s1.seq h))
    obtain ⟨d, h1, h2⟩ := r.get e
    have A := Alc.new (o := HO.tup [.int (i : Nat), z]) s2 hn
    exact ⟨_, _, A, by rw [enumL_get, h1]; rfl, .tup (SqT.of upd_same) (.cons (.int _) (.cons (h2.mono (s1.trans A.ff)) .nil))⟩
  st := fun i H s hi => ⟨vs, s.seq h, by rw [r.len]; rw [enumL_len] at hi; exact hi⟩
theorem si_enum {X : Cx} {e : Expr} {ms : M (List Vl)} {p pos tpos : Pos} {elts : List Expr} {kk : Nat} (hm : X.mg "enumerate" = none) (hg : Gl X "enumerate") (ha : SA X [e] ms) (hs : starEach [e] X.env = [(false, eval e X.env)] := by rfl) :
    SI X (.Tuple elts kk tpos) (.Call (.Name "enumerate" p) [e] [] pos) (iEn ms) := by
  refine pi_weak (pi_or (pi_enum hg hm ha hs) (pi_enumT hg hm ha hs)) fun σ H R ⟨G, ρ, F, xs, ρ', W, hm, q⟩ => ?_
  unfold iEn at hm
  obtain ⟨⟨rs, ρ1⟩, e1, hm⟩ := Option.bind_eq_some_iff.mp hm
  split at hm
  · rename_i r hr
    dsimp only at hr
    subst hr
    obtain ⟨⟨x, ρ2⟩, e2, hm⟩ := Option.bind_eq_some_iff.mp hm
    split at hm
    · rename_i zs hz
      dsimp only at hz
      subst hz
      cases hm
      refine .inl ⟨G, ρ, F, [r], ρ1, W, e1, fun vs H1 F1 s1 R1 => ?_⟩
      obtain ⟨v, rfl, Rv⟩ : ∃ v, vs = [v] ∧ VlS X.kx σ F1 v r := by
        match vs, R1 with
        | [v], z => exact ⟨v, rfl, z.1⟩
      obtain ⟨F2, s2, R2⟩ := frz_ok s1.wd Rv e2
      cases R2 with
      | lst h1 h2 => exact ⟨_, _, rfl, SqL.of (s2.wd.sub _ _ h1), q _ _ F2 (s1.trans s2) (jr_enL (SqL.of h1) h2)⟩
    · rename_i zs hz
      dsimp only at hz
      subst hz
      cases hm
      refine .inr ⟨G, ρ, F, [r], ρ1, W, e1, fun vs H1 F1 s1 R1 => ?_⟩
      obtain ⟨v, rfl, Rv⟩ : ∃ v, vs = [v] ∧ VlS X.kx σ F1 v r := by
        match vs, R1 with
        | [v], z => exact ⟨v, rfl, z.1⟩
      obtain ⟨F2, s2, R2⟩ := frz_ok s1.wd Rv e2
      cases R2 with
      | tup h1 h2 => exact ⟨_, _, rfl, same_t s2.wd.sub h1, q _ _ F2 (s1.trans s2) (jr_enT h1 h2)⟩
    · cases hm
  · cases hm
end Sw
namespace Sw
open PySem PySem.Spec PyProof.Rows L2
end Sw
namespace Sw
open PySem PySem.Spec PyProof.Rows L2
section
variable {X : Cx} {a b e : Expr} {ma mb me : M Vl} {pos : Pos} {K : Kx}
/-- a part of a tuple that is not the whole one -/
noncomputable def fSlT : D → Option Int → Option Int → Option D
  | .tup s, lo, hi => if HT.sIx s.length 0 lo ≠ 0 ∨ HT.sIx s.length s.length hi ≠ s.length then some (.tup (cutL s lo hi)) else none
  | _, _, _ => none
theorem sls_tup : SlS K (rSlT K) fSlT := by
  intro H F v x z lo hi s hx e Q q
  unfold fSlT at e
  split at e
  · split at e
    · rename_i hc
      cases e
      cases (show Rep K F v (.tup _) from hx) with
      | @tup a vs _ h1 h2 =>
        refine ⟨a, vs, rfl, same_t s h1, ?_, fun p hp => ?_⟩
        · rw [h2.len]; rintro ⟨z1, z2⟩; rcases hc with hc | hc
          · exact hc z1
          · exact hc z2
        · have A := Alc.new (o := HO.tup (cutV vs lo hi)) s hp
          exact q _ _ _ A (.tup (SqT.of upd_same) ((cutV_reps h2).mono A.ff))
    · cases e
  · cases e
noncomputable def fSlA : D → Option Int → Option Int → Option D := orSl (orSl fSlL fSlS) fSlT
theorem oSlA : ∃ r, L2.SlR X r ∧ SlS X.kx r fSlA := ⟨_, (sl_list.or sl_str).or sl_tup, (sls_list.or sls_str).or sls_tup⟩
theorem se_slcA {lo hi : Option Expr} {ml mu : M (Option Int)} {p2 : Pos} (he : SE X e me) (hl : SO X lo ml) (hu : SO X hi mu) : SE X (.Subscript e (.Slice lo hi none p2) pos) (eSl fSlA me ml mu) := by
  obtain ⟨r, h1, h2⟩ := oSlA (X := X)
  exact se_sl h1 h2 he hl hu
theorem giv_A {x : D} {l u : Option Int} {Q : D → Prop} (h : Giv (fSl x l u) Q) : Giv (fSlA x l u) Q := by
  obtain ⟨z, h, q⟩ := h
  refine ⟨z, ?_, q⟩
  show (match fSl x l u with | some z => some z | none => fSlT x l u) = _
  rw [h]
theorem giv_tA {xs : List D} {l u : Option Int} {Q : D → Prop} (hc : HT.sIx xs.length 0 l ≠ 0 ∨ HT.sIx xs.length xs.length u ≠ xs.length) (q : Q (.tup (cutL xs l u))) : Giv (fSlA (.tup xs) l u) Q := by
  refine ⟨_, ?_, q⟩
  show (if HT.sIx xs.length 0 l ≠ 0 ∨ HT.sIx xs.length xs.length u ≠ xs.length then some (D.tup (cutL xs l u)) else none) = _
  rw [if_pos hc]
theorem giv_sldT {xs : List D} {r : Int} {Q : D → Prop} (h : 0 < r) (h2 : 0 < xs.length) (q : Q (.tup (xs.drop r.toNat))) : Giv (fSlA (.tup xs) (some r) none) Q := by
  refine giv_tA (.inl ?_) (by rw [cut_drop (by omega)]; exact q)
  rw [sIx_ge (by omega)]; omega
theorem giv_sltT {xs : List D} {r : Int} {Q : D → Prop} (h : 0 ≤ r) (h2 : r < xs.length) (q : Q (.tup (xs.take r.toNat))) : Giv (fSlA (.tup xs) none (some r)) Q := by
  refine giv_tA (.inr ?_) (by rw [cut_take h]; exact q)
  rw [sIx_ge h]; omega
noncomputable def addV (x y : D) : Option Vl := match x, y with
  | .lst xs, .lst ys => if xs.length + ys.length ≤ lim then some (.fr (xs ++ ys)) else none
  | x, y => (fAdd x y).bind fun z => some (.fz z)
noncomputable def eAdd (a b : M Vl) : M Vl := fun ρ => (a ρ).bind fun p => (b p.2).bind fun q => (look q.2 (stl p.1)).bind fun x => (look q.2 (stl q.1)).bind fun y => (addV x y).bind fun z => some (z, q.2)
theorem addV_cases {x y : D} {z : Vl} (h : addV x y = some z) : (∃ xs ys, x = .lst xs ∧ y = .lst ys ∧ xs.length + ys.length ≤ lim ∧ z = .fr (xs ++ ys)) ∨ ∃ w, fAdd x y = some w ∧ z = .fz w := by
  unfold addV at h
  split at h
  · split at h
    · rename_i hl; cases h; exact .inl ⟨_, _, rfl, rfl, hl, rfl⟩
    · cases h
  · obtain ⟨w, e1, e2⟩ := Option.bind_eq_some_iff.mp h
    cases e2
    exact .inr ⟨w, e1, rfl⟩
theorem se_add (ha : SE X a ma) (hb : SE X b mb) : SE X (.BinOp a .Add b pos) (eAdd ma mb) := by
  obtain ⟨r, h1, h2⟩ := oAdd (X := X)
  refine pe_weak (pe_op (op_cat.or h1) ha hb) fun σ H Q ⟨G, ρ, F, r0, ρ', W, hm, q⟩ => ?_
  unfold eAdd at hm
  obtain ⟨⟨x, ρ1⟩, e1, hm⟩ := Option.bind_eq_some_iff.mp hm
  obtain ⟨⟨y, ρ2⟩, e2, hm⟩ := Option.bind_eq_some_iff.mp hm
  obtain ⟨dx, e3, hm⟩ := Option.bind_eq_some_iff.mp hm
  obtain ⟨dy, e4, hm⟩ := Option.bind_eq_some_iff.mp hm
  obtain ⟨dz, e5, hm⟩ := Option.bind_eq_some_iff.mp hm
  cases hm
  refine tm_use W e1 fun v H1 F1 s1 R1 => ?_
  refine tm_use s1.wd e2 fun u H2 F2 s2 R2 => ?_
  have V1 := vw_of s2.wd (R1.ste s2) e3
  have V2 := vw_of s2.wd R2 e4
  have s12 := s1.trans s2
  rcases addV_cases e5 with ⟨xs, ys, rfl, rfl, hl, rfl⟩ | ⟨w, ew, rfl⟩
  · obtain ⟨c, vs, rfl, g1, g2⟩ := V1
    obtain ⟨d, us, rfl, g3, g4⟩ := V2
    refine .inl ⟨c, d, vs, us, rfl, rfl, g1, g3, lim_of (by rw [g2.len, g4.len]; exact hl), fun p hp => ?_⟩
    have A : Alc F2 H2 F2 (upd H2 p (.lst (vs ++ us))) := ⟨Same.refl _, s2.wd.sub.trans (same_upd hp), same_upd hp, fun _ h => .inl h⟩
    refine q _ _ _ (s12.trans (s2.wd.alc A)) ⟨p, vs ++ us, rfl, upd_same, g2.append g4, s2.wd.sub.free hp, s12.back p hp, s12.wd.not_ow hp (same_upd hp)⟩
  · refine .inr (h2 H2 F2 v u dx dy w s2.wd.sub V1 V2 ew Q fun w' H' F' A R => ?_)
    exact q w' H' F' (s12.trans (s2.wd.alc A)) R
noncomputable def Add2 (x y : D) (P : Vl → Prop) : Prop := ∃ z, addV x y = some z ∧ P z
theorem ev_add {ρ : Rho} {m1 m2 : M Vl} {Q : Vl → Rho → Prop} (h : Ev m1 ρ fun r ρ1 => Ev m2 ρ1 fun r2 ρ2 => See2 ρ2 r r2 fun x y => Add2 x y fun v => Q v ρ2) : Ev (eAdd m1 m2) ρ Q := by
  obtain ⟨r, ρ1, e1, r2, ρ2, e2, x, y, e3, e4, z, e5, q⟩ := h
  refine ⟨_, ρ2, ?_, q⟩
  show (m1 ρ).bind _ = _
  rw [e1]
  simp only [Option.bind_some, e2, e3, e4, e5]
theorem add2_i {i j : Int} {P : Vl → Prop} (q : P (.fz (.int (i + j)))) : Add2 (.int i) (.int j) P := ⟨_, rfl, q⟩
theorem add2_s {s t : List Nat} {P : Vl → Prop} (h : s.length + t.length ≤ lim) (q : P (.fz (.str (s ++ t)))) : Add2 (.str s) (.str t) P := by
  refine ⟨_, ?_, q⟩
  show (fAdd (.str s) (.str t)).bind _ = _
  rw [r_add2, if_pos h]; rfl
theorem add2_l {xs ys : List D} {P : Vl → Prop} (h : xs.length + ys.length ≤ lim) (q : P (.fr (xs ++ ys))) : Add2 (.lst xs) (.lst ys) P := by
  refine ⟨_, ?_, q⟩
  show (if _ then _ else _) = _
  rw [if_pos h]
theorem add2_t {xs ys : List D} {P : Vl → Prop} (h : xs.length + ys.length ≤ lim) (q : P (.fz (.tup (xs ++ ys)))) : Add2 (.tup xs) (.tup ys) P := by
  refine ⟨_, ?_, q⟩
  have e : fAdd (.tup xs) (.tup ys) = some (.tup (xs ++ ys)) := by
    show (if xs.length + ys.length ≤ lim then some (D.tup (xs ++ ys)) else none) = _
    rw [if_pos h]
  show (fAdd (.tup xs) (.tup ys)).bind _ = _
  rw [e]; rfl
end
end Sw
namespace Sw
open L2
theorem q_isi_tuple_non : fIsi "tuple" .non = some (.bl false) := by unfold fIsi; rw [show kitB (tyN .non) "tuple" = some false by show kitB "NoneType" "tuple" = _; decide +kernel]; rfl
theorem q_isi_tuple_bl {b : Bool} : fIsi "tuple" (.bl b) = some (.bl false) := by unfold fIsi; rw [show kitB (tyN (.bl b)) "tuple" = some false by show kitB "bool" "tuple" = _; decide +kernel]; rfl
theorem q_isi_tuple_int {i : Int} : fIsi "tuple" (.int i) = some (.bl false) := by unfold fIsi; rw [show kitB (tyN (.int i)) "tuple" = some false by show kitB "int" "tuple" = _; decide +kernel]; rfl
theorem q_isi_tuple_str {s : List Nat} : fIsi "tuple" (.str s) = some (.bl false) := by unfold fIsi; rw [show kitB (tyN (.str s)) "tuple" = some false by show kitB "str" "tuple" = _; decide +kernel]; rfl
theorem q_isi_tuple_lst {l : List D} : fIsi "tuple" (.lst l) = some (.bl false) := by unfold fIsi; rw [show kitB (tyN (.lst l)) "tuple" = some false by show kitB "list" "tuple" = _; decide +kernel]; rfl
theorem q_isi_tuple_tup {l : List D} : fIsi "tuple" (.tup l) = some (.bl true) := by unfold fIsi; rw [show kitB (tyN (.tup l)) "tuple" = some true by show kitB "tuple" "tuple" = _; decide +kernel]; rfl
theorem q_isi_list_non : fIsi "list" .non = some (.bl false) := by unfold fIsi; rw [show kitB (tyN .non) "list" = some false by show kitB "NoneType" "list" = _; decide +kernel]; rfl
theorem q_isi_list_bl {b : Bool} : fIsi "list" (.bl b) = some (.bl false) := by unfold fIsi; rw [show kitB (tyN (.bl b)) "list" = some false by show kitB "bool" "list" = _; decide +kernel]; rfl
theorem q_isi_list_int {i : Int} : fIsi "list" (.int i) = some (.bl false) := by unfold fIsi; rw [show kitB (tyN (.int i)) "list" = some false by show kitB "int" "list" = _; decide +kernel]; rfl
theorem q_isi_list_str {s : List Nat} : fIsi "list" (.str s) = some (.bl false) := by unfold fIsi; rw [show kitB (tyN (.str s)) "list" = some false by show kitB "str" "list" = _; decide +kernel]; rfl
theorem q_isi_list_lst {l : List D} : fIsi "list" (.lst l) = some (.bl true) := by unfold fIsi; rw [show kitB (tyN (.lst l)) "list" = some true by show kitB "list" "list" = _; decide +kernel]; rfl
theorem q_isi_list_tup {l : List D} : fIsi "list" (.tup l) = some (.bl false) := by unfold fIsi; rw [show kitB (tyN (.tup l)) "list" = some false by show kitB "tuple" "list" = _; decide +kernel]; rfl
theorem q_isi_str_non : fIsi "str" .non = some (.bl false) := by unfold fIsi; rw [show kitB (tyN .non) "str" = some false by show kitB "NoneType" "str" = _; decide +kernel]; rfl
theorem q_isi_str_bl {b : Bool} : fIsi "str" (.bl b) = some (.bl false) := by unfold fIsi; rw [show kitB (tyN (.bl b)) "str" = some false by show kitB "bool" "str" = _; decide +kernel]; rfl
theorem q_isi_str_int {i : Int} : fIsi "str" (.int i) = some (.bl false) := by unfold fIsi; rw [show kitB (tyN (.int i)) "str" = some false by show kitB "int" "str" = _; decide +kernel]; rfl
theorem q_isi_str_str {s : List Nat} : fIsi "str" (.str s) = some (.bl true) := by unfold fIsi; rw [show kitB (tyN (.str s)) "str" = some true by show kitB "str" "str" = _; decide +kernel]; rfl
theorem q_isi_str_lst {l : List D} : fIsi "str" (.lst l) = some (.bl false) := by unfold fIsi; rw [show kitB (tyN (.lst l)) "str" = some false by show kitB "list" "str" = _; decide +kernel]; rfl
theorem q_isi_str_tup {l : List D} : fIsi "str" (.tup l) = some (.bl false) := by unfold fIsi; rw [show kitB (tyN (.tup l)) "str" = some false by show kitB "tuple" "str" = _; decide +kernel]; rfl
theorem q_isi_int_non : fIsi "int" .non = some (.bl false) := by unfold fIsi; rw [show kitB (tyN .non) "int" = some false by show kitB "NoneType" "int" = _; decide +kernel]; rfl
theorem q_isi_int_bl {b : Bool} : fIsi "int" (.bl b) = some (.bl true) := by unfold fIsi; rw [show kitB (tyN (.bl b)) "int" = some true by show kitB "bool" "int" = _; decide +kernel]; rfl
theorem q_isi_int_int {i : Int} : fIsi "int" (.int i) = some (.bl true) := by unfold fIsi; rw [show kitB (tyN (.int i)) "int" = some true by show kitB "int" "int" = _; decide +kernel]; rfl
theorem q_isi_int_str {s : List Nat} : fIsi "int" (.str s) = some (.bl false) := by unfold fIsi; rw [show kitB (tyN (.str s)) "int" = some false by show kitB "str" "int" = _; decide +kernel]; rfl
theorem q_isi_int_lst {l : List D} : fIsi "int" (.lst l) = some (.bl false) := by unfold fIsi; rw [show kitB (tyN (.lst l)) "int" = some false by show kitB "list" "int" = _; decide +kernel]; rfl
theorem q_isi_int_tup {l : List D} : fIsi "int" (.tup l) = some (.bl false) := by unfold fIsi; rw [show kitB (tyN (.tup l)) "int" = some false by show kitB "tuple" "int" = _; decide +kernel]; rfl
theorem q_isi_bool_non : fIsi "bool" .non = some (.bl false) := by unfold fIsi; rw [show kitB (tyN .non) "bool" = some false by show kitB "NoneType" "bool" = _; decide +kernel]; rfl
theorem q_isi_bool_bl {b : Bool} : fIsi "bool" (.bl b) = some (.bl true) := by unfold fIsi; rw [show kitB (tyN (.bl b)) "bool" = some true by show kitB "bool" "bool" = _; decide +kernel]; rfl
theorem q_isi_bool_int {i : Int} : fIsi "bool" (.int i) = some (.bl false) := by unfold fIsi; rw [show kitB (tyN (.int i)) "bool" = some false by show kitB "int" "bool" = _; decide +kernel]; rfl
theorem q_isi_bool_str {s : List Nat} : fIsi "bool" (.str s) = some (.bl false) := by unfold fIsi; rw [show kitB (tyN (.str s)) "bool" = some false by show kitB "str" "bool" = _; decide +kernel]; rfl
theorem q_isi_bool_lst {l : List D} : fIsi "bool" (.lst l) = some (.bl false) := by unfold fIsi; rw [show kitB (tyN (.lst l)) "bool" = some false by show kitB "list" "bool" = _; decide +kernel]; rfl
theorem q_isi_bool_tup {l : List D} : fIsi "bool" (.tup l) = some (.bl false) := by unfold fIsi; rw [show kitB (tyN (.tup l)) "bool" = some false by show kitB "tuple" "bool" = _; decide +kernel]; rfl
end Sw
namespace Sw
open PySem PySem.Spec PyProof.Rows L2
noncomputable def fAt (c f : PySem.Str) : D → Option D
  | .obj c' ks xs => if c' = c then (ks.zip xs).lookup f else none
  | _ => none
theorem Reps.lookup {K : Kx} {F : Hp} {f : PySem.Str} : ∀ {ks : List PySem.Str} {vs : List V} {xs : List D} {d : D}, Reps K F vs xs → (ks.zip xs).lookup f = some d → ∃ v, (ks.zip vs).lookup f = some v ∧ Rep K F v d
  | [], _, _, _, _, h => by simp at h
  | k :: ks, _, _, _, .nil, h => by simp at h
  | k :: ks, _, _, d, .cons (v := v) (d := x) (vs := vs) (ds := xs) r t, h => by
    rw [List.zip_cons_cons, List.lookup_cons] at h ⊢
    cases e : f == k with
    | true => rw [e] at h; cases h; exact ⟨v, rfl, r⟩
    | false => rw [e] at h; exact Reps.lookup t h
section
variable {X : Cx} {e : Expr} {me : M Vl} {pos p : Pos} {es : List Expr} {ms : M (List Vl)}
theorem se_fld {c f : PySem.Str} {C : Addr} (hC : ClsN X.kx c C) (cl : Cls X.kx C) (na : NoAttr X.kx C f) (he : SE X e me) (hb : attributeBase e f X.env (eval e X.env) = eval e X.env) : SE X (.Attribute e f pos) (eUn (fAt c f) me) := by
  refine pe_weak (pe_fld he hb) fun σ H Q ⟨G, ρ, F, r0, ρ', W, hm, q⟩ => ?_
  unfold eUn at hm
  obtain ⟨⟨x, ρ1⟩, e1, hm⟩ := Option.bind_eq_some_iff.mp hm
  obtain ⟨dx, e3, hm⟩ := Option.bind_eq_some_iff.mp hm
  obtain ⟨dz, e5, hm⟩ := Option.bind_eq_some_iff.mp hm
  cases hm
  refine tm_use W e1 fun v H1 F1 s1 R1 => ?_
  have hv := vw_of s1.wd R1 e3
  cases dx with
  | obj c' ks xs =>
    cases (show Rep X.kx F1 v (.obj c' ks xs) from hv) with
    | obj h1 h2 h3 h4 =>
      have e6 : (if c' = c then (ks.zip xs).lookup f else none) = some dz := e5
      split at e6
      · rename_i ec
        subst ec
        obtain ⟨w, l1, l2⟩ := h4.lookup e6
        have := hC.uniq h1
        subst this
        exact ⟨_, _, _, _, w, rfl, s1.wd.sub _ _ h2, cl, na, l1, q _ H1 F1 s1 l2⟩
      · cases e6
  | _ => cases e5
end
noncomputable def eMake (c : PySem.Str) (g : List D → Option (List PySem.Str × List D)) (ms : M (List Vl)) : M Vl := fun ρ => (ms ρ).bind fun p => (frzs p.2 p.1).bind fun q => (g q.1).bind fun z => some (.fz (.obj c z.1 z.2), q.2)
/-- the promise of an __init__ that stores the attributes ks with the values xs -/
noncomputable def spI (K : Kx) (C : Addr) (n : Nat) (g : List D → Option (List PySem.Str × List D)) : Sp := fun vs H Q _ => vs.length = n + 1 ∧ ∃ (F : Hp) (x dx : Addr) (us : List V) (ds : List D) (ks : List PySem.Str) (xs : List D),
  vs = .ref x :: us ∧ Same F H ∧ F x = none ∧ H x = some (.ins C dx []) ∧ Reps K F us ds ∧ g ds = some (ks, xs) ∧ ∀ H' F' ws, Same F F' → Same F' H' → (∀ b o, H b = some o → b ≠ x → H' b = some o) → (∀ b, F' b ≠ none → F b ≠ none ∨ H b = none) →
    F' x = none → H' x = some (.ins C dx (ks.zip ws)) → ws.length = ks.length → Reps K F' ws xs → Q .non H'
section
variable {X : Cx} {e : Expr} {pos p : Pos} {es : List Expr} {ms : M (List Vl)} {c x : PySem.Str} {C fi : Addr} {fd : FuncData} {ps : List Str} {n k : Nat} {g : List D → Option (List PySem.Str × List D)}
theorem tmake_of {K : Kx} {E : XK} (hC : ClsN K c C) (hn : ∀ ds z, g ds = some z → ds.length = n) {σ : L2.St} {H : Hp} {Q : VK} (h : tM K (eMake c g ms) σ H Q) : tMake C (spI K C n g) [] E (tMA K ms) σ H Q := by
  obtain ⟨G, ρ, F, r0, ρ', W, hm, q⟩ := h
  unfold eMake at hm
  obtain ⟨⟨rs, ρ1⟩, e1, hm⟩ := Option.bind_eq_some_iff.mp hm
  obtain ⟨⟨ds, ρ2⟩, e2, hm⟩ := Option.bind_eq_some_iff.mp hm
  obtain ⟨⟨ks, xs⟩, e3, hm⟩ := Option.bind_eq_some_iff.mp hm
  cases hm
  refine ⟨G, ρ, F, rs, ρ1, W, e1, fun vs H1 F1 s1 R1 => ?_⟩
  obtain ⟨F2, s2, R2⟩ := frzs_ok s1.wd R1 e2
  intro y dy hy hdy hne
  rw [List.append_nil]
  have sub2 := s2.wd.sub
  have fy : F2 y = none := sub2.free hy
  have k1 : ∀ b o, H1 b = some o → upd (upd H1 dy (.own y)) y (.ins C dy []) b = some o := fun b o hb => by
    have n1 : b ≠ y := fun z => by rw [z, hy] at hb; cases hb
    have n2 : b ≠ dy := fun z => by rw [z, hdy] at hb; cases hb
    rw [upd_ne n1, upd_ne n2]; exact hb
  refine ⟨by rw [List.length_cons, R2.len, hn _ _ e3], F2, y, dy, vs, ds, ks, xs, rfl, fun b o hb => k1 b o (sub2 _ _ hb), fy, upd_same, R2, e3, fun H' F' ws ff sub kp nf fy' hx hl R => ⟨rfl, ?_⟩⟩
  have A : Alc F2 H1 (upd F' y (.ins C dy (ks.zip ws))) H' := by
    refine ⟨fun b o hb => ?_, fun b o hb => ?_, fun b o hb => ?_, fun b hb => ?_⟩
    · have : b ≠ y := fun z => by rw [z, fy] at hb; cases hb
      rw [upd_ne this]; exact ff _ _ hb
    · by_cases z : b = y
      · subst z; rw [upd_same] at hb; cases hb; exact hx
      · rw [upd_ne z] at hb; exact sub _ _ hb
    · exact kp b o (k1 b o hb) fun z => by rw [z, hy] at hb; cases hb
    · by_cases z : b = y
      · subst z; exact .inr hy
      · rw [upd_ne z] at hb
        rcases nf b hb with h | h
        · exact .inl h
        · cases e : H1 b with
          | none => exact .inr rfl
          | some o => rw [k1 b o e] at h; cases h
  have sF : Same F' (upd F' y (.ins C dy (ks.zip ws))) := same_upd fy'
  exact q _ H' _ ((s1.trans s2).trans (s2.wd.alc A)) (Rep.obj hC upd_same hl (R.mono sF))
theorem se_make (M : Mk X.kx C fi) (hC : ClsN X.kx c C) (F : FnOk X.prog X.w X.kx X.mg X.base CX0 k fi fd ps (spI X.kx C n g)) (hn : ∀ ds z, g ds = some z → ds.length = n) (hr : Room (k + 1) X.A) (hg : Gl X x) (hm : X.mg x = some (.ref C)) (hb : Binds X.kx fd ps [])
    (ha : SA X (e :: es) ms) (hdb : (x == ("__debug__" : Str)) = false := by decide) (he : starEach (e :: es) X.env = (false, eval e X.env) :: starEach es X.env := by rfl) (hpl : (backTo pos (starEach es X.env)).any (·.1) = false := by rfl) :
    SE X (.Call (.Name x p) (e :: es) [] pos) (eMake c g ms) := pe_weak (pe_make M F hr hg hm hb .nil pass0 ha hdb he hpl) fun _ _ _ h => tmake_of hC hn h
end
noncomputable abbrev SI0 := Rho × List PySem.Str × List D → Option (Rho × List PySem.Str × List D)
noncomputable def iNx : SI0 := fun r => some r
noncomputable def iSeq (a b : SI0) : SI0 := fun r => (a r).bind b
/-- self.f = e -/
noncomputable def iFld (f : PySem.Str) (m : M Vl) : SI0 := fun r => (m r.1).bind fun p => (frz p.2 (stl p.1)).bind fun q => if r.2.1.contains f = false ∧ r.2.1.length < 100 then some (q.2, r.2.1 ++ [f], r.2.2 ++ [q.1]) else none
structure Mid (K : Kx) (G : Gd) (C y dy : Addr) (r : Rho × List PySem.Str × List D) (σ : L2.St) (H F : Hp) : Prop where
  wd : Wd K G r.1 σ H F
  s0 : σ[0]? = some (some (.ref y))
  h0 : G.H0 y = none
  fy : F y = none
  no : ∀ i, ¬ Ow K H F r.1 σ i y
  at_ : ∃ ws, H y = some (.ins C dy (r.2.1.zip ws)) ∧ ws.length = r.2.1.length ∧ Reps K F ws r.2.2
noncomputable def tIn (K : Kx) (C : Addr) (m : SI0) : TS := fun D σ H => ∃ G y dy r F r', Mid K G C y dy r σ H F ∧ m r = some r' ∧ ∀ σ' H' F', Mid K G C y dy r' σ' H' F' → Same F F' → D.nx σ' H'
theorem putF_new {f : PySem.Str} {v : V} : ∀ {ks : List PySem.Str} {ws : List V}, ws.length = ks.length → ks.contains f = false → putF f v (ks.zip ws) = (ks ++ [f]).zip (ws ++ [v])
  | [], [], _, _ => rfl
  | k :: ks, [], h, _ => by simp at h
  | [], w :: ws, h, _ => by simp at h
  | k :: ks, w :: ws, h, n => by
    rw [List.contains_cons, Bool.or_eq_false_iff] at n
    have nk : k ≠ f := fun e => by have := n.1; rw [e, beq_self_eq_true] at this; cases this
    rw [List.zip_cons_cons, List.cons_append, List.cons_append, List.zip_cons_cons]
    show (if k = f then _ else _) = _
    rw [if_neg nk, putF_new (by simpa using h) n.2]
theorem Wd.updx {K : Kx} {G : Gd} {ρ : Rho} {σ : L2.St} {H F : Hp} {y C dy : Addr} {fs : List (Str × V)} {o : HO} (W : Wd K G ρ σ H F) (hy : H y = some (.ins C dy fs)) (fy : F y = none) (h0 : G.H0 y = none) (no : ∀ i, ¬ Ow K H F ρ σ i y) : Wd K G ρ σ (upd H y o) F := by
  refine ⟨W.len, W.gl, fun b x e => ?_, W.f0, fun b x e h h2 => ?_, W.nw, fun b h => ?_, fun i s h => ?_, fun i j b o1 o2 => W.ap i j b (W.upd_ow no o1) (W.upd_ow no o2), W.ai, W.ao⟩
  · rw [upd_ne (fun z => by rw [z, fy] at e; cases e)]; exact W.sub _ _ e
  · rw [upd_ne (fun z => by rw [z, h0] at e; cases e)]; exact W.kp b x e h h2
  · by_cases z : b = y
    · subst z; rw [upd_same]; exact fun z => by cases z
    · rw [upd_ne z]; exact W.it b h
  · have q := W.sl i s h
    cases s with
    | no => trivial
    | xa b dx f => exact q
    | d x => exact q
    | ow xs => obtain ⟨a, vs, e, h1, h2⟩ := q; exact ⟨a, vs, e, by rw [upd_ne (fun z => by rw [z, hy] at h1; cases h1)]; exact h1, h2⟩
    | io xs => obtain ⟨a, vs, e, h1, h2⟩ := q; exact ⟨a, vs, e, by rw [upd_ne (fun z => by rw [z, hy] at h1; cases h1)]; exact h1, h2⟩
    | dc xs => obtain ⟨a, vs, e, h1, h2⟩ := q; exact ⟨a, vs, e, by rw [upd_ne (fun z => by rw [z, hy] at h1; cases h1)]; exact h1, h2⟩
    | ob t => obtain ⟨u, L, e, r, p⟩ := q; exact ⟨u, L, e, r.frame (Same.refl _) fun b hb x hx => by
        rw [upd_ne (fun z => no i (.inr ⟨t, u, L, .inl h, e, r, by rw [← z]; exact hb⟩))]; exact hx, p⟩
    | iob t => obtain ⟨u, L, e, r, p⟩ := q; exact ⟨u, L, e, r.frame (Same.refl _) fun b hb x hx => by
        rw [upd_ne (fun z => no i (.inr ⟨t, u, L, .inr h, e, r, by rw [← z]; exact hb⟩))]; exact hx, p⟩
section
variable {X : Cx} {e o : Expr} {me : M Vl} {pos p pos' : Pos} {st : Stmt} {rest : List Stmt} {C : Addr} {m1 m2 : SI0} {f : PySem.Str}
theorem si0_nil : PSs X [] (tIn X.kx C iNx) := pss_weak pss_nil fun D σ H ⟨G, y, dy, r, F, r', I, hm, q⟩ => by
  cases hm
  exact q σ H F I (Same.refl _)
theorem si0_cons (h1 : PS X st (tIn X.kx C m1)) (h2 : PSs X rest (tIn X.kx C m2)) : PSs X (st :: rest) (tIn X.kx C (iSeq m1 m2)) := by
  refine pss_weak (pss_cons h1 h2) fun D σ H ⟨G, y, dy, r, F, r', I, hm, q⟩ => ?_
  unfold iSeq at hm
  obtain ⟨r1, e1, hm⟩ := Option.bind_eq_some_iff.mp hm
  exact ⟨G, y, dy, r, F, r1, I, e1, fun σ' H' F' I' ff => ⟨G, y, dy, r1, F', r', I', hm, fun σ2 H2 F2 I2 f2 => q σ2 H2 F2 I2 (ff.trans f2)⟩⟩
theorem si0_fld (cl : Cls X.kx C) (na : NoAttr X.kx C f) (ho : PE X o (tVar 0)) (he : SE X e me) (hs : swapsWith e (some (.Attribute o f pos')) pos.line X.env = pure false) : PS X (.Assign [.Attribute o f pos'] e pos) (tIn X.kx C (iFld f me)) := by
  refine ps_weak (ps_fld ho he hs) fun D σ H ⟨G, y, dy, ⟨ρ, ks, xs⟩, F, r', I, hm, q⟩ => ?_
  unfold iFld at hm
  obtain ⟨⟨r, ρ1⟩, e1, hm⟩ := Option.bind_eq_some_iff.mp hm
  obtain ⟨⟨z, ρ2⟩, e2, hm⟩ := Option.bind_eq_some_iff.mp hm
  split at hm
  · rename_i hc
    cases hm
    refine tm_use I.wd e1 fun v H1 F1 s1 R1 => ?_
    obtain ⟨F2, s2, R2⟩ := frz_ok s1.wd R1 e2
    have s12 := s1.trans s2
    obtain ⟨ws, a1, a2, a3⟩ := I.at_
    have now : ∀ i, ¬ Ow X.kx H F ρ σ i y := I.no
    have hy := s12.kk y _ a1 now
    have fy2 : F2 y = none := by
      cases e : F2 y with
      | none => rfl
      | some o =>
        rcases s12.nf y (by rw [e]; simp) with h | h | ⟨i, h⟩
        · exact absurd I.fy h
        · rw [a1] at h; cases h
        · exact absurd h (now i)
    refine ⟨.ref y, I.s0, y, C, dy, _, rfl, hy, cl, na, ?_, ?_⟩
    · rw [List.length_zip]
      have := hc.2
      dsimp only at this
      omega
    · rw [putF_new a2 hc.1]
      have no2 : ∀ i, ¬ Ow X.kx H1 F2 ρ2 σ i y := fun i o => (s12.oo i y o).elim (now i) fun z => by rw [a1] at z; cases z
      refine q σ _ F2 ⟨s12.wd.updx hy fy2 I.h0 no2, I.s0, I.h0, fy2, fun i o => no2 i (s12.wd.upd_ow no2 o), ⟨ws ++ [v], upd_same, by simp [a2], (a3.mono s12.ff).append (.cons R2 .nil)⟩⟩ s12.ff
  · cases hm
end
theorem fn_init {P : Program} {w : World} {K : PySem.W.Frag} {mg : Str → Option Value} {base : Heap} {x qual : Str} {st : Stmt} {f C : Addr} {fd : FuncData} {N ps : List Str} {k n nl : Nat} {m : SI0} (Fu : FunG K x qual st f fd) (Sc : FnScope N ps (defScope st)) (hn : ps.length = n + 1) (hl : N.length = nl) (hle : n + 1 ≤ nl)
    (hb : ∀ (cdv : Value) (A : Around) (outer : List Env) (s : Shared) (H : Hp) (E : XK), Room k (A.deeper (envOfC qual (defScope st) s.heap.objs.size f cdv)) → PSs (cxOf CX0 P w K mg base N qual (defScope st) f cdv A outer s H E).nox (defBody st) (tIn ⟨K, w⟩ C m)) :
    FnOk P w K mg base CX0 (k + 1) f fd ps (spI ⟨K, w⟩ C n fun ds => if ds.length = n then (m (.no :: (ds.map .d ++ List.replicate (nl - (n + 1)) .no), [], [])).bind fun r => some r.2 else none) := by
  refine Fu.ok Sc (fun vs H Q E h => by rw [h.1, hn]) (fun cdv A outer s H vs Q E hr h => ?_)
  obtain ⟨hv, F, y, dy, us, ds, ks, xs, rfl, sub, fy, hy, R, hg, q⟩ := h
  refine ⟨_, hb cdv A outer s H E hr, ?_⟩
  dsimp only at hg
  split at hg
  · rename_i hd
    obtain ⟨⟨ρ', ks', xs'⟩, e1, hg⟩ := Option.bind_eq_some_iff.mp hg
    cases hg
    have lu : us.length = n := by rw [R.len, hd]
    have get : ∀ (i : Nat) (s : Sl), (Sl.no :: (ds.map Sl.d ++ List.replicate (nl - (n + 1)) Sl.no))[i]? = some s → s = .no ∨ ∃ j d v, i = j + 1 ∧ ds[j]? = some d ∧ us[j]? = some v ∧ s = .d d ∧ Rep ⟨K, w⟩ F v d := fun i s h => by
      cases i with
      | zero => left; simpa using h.symm
      | succ j =>
        rw [List.getElem?_cons_succ] at h
        by_cases hj : j < n
        · rw [List.getElem?_append_left (by rw [List.length_map, hd]; exact hj), List.getElem?_map] at h
          cases e : ds[j]? with
          | none => rw [e] at h; cases h
          | some d =>
            rw [e] at h; cases h
            obtain ⟨v, e2, r⟩ := R.get' e
            exact .inr ⟨j, d, v, rfl, e, e2, rfl, r⟩
        · rw [List.getElem?_append_right (by rw [List.length_map, hd]; omega), List.getElem?_replicate] at h
          split at h
          · cases h; exact .inl rfl
          · cases h
    have no : ∀ i a, ¬ Ow ⟨K, w⟩ H F (Sl.no :: (ds.map Sl.d ++ List.replicate (nl - (n + 1)) Sl.no)) (start N (.ref y :: us)) i a := fun i a o => by
      rcases o with ⟨⟨zs, o1 | o1 | ⟨ws, o1⟩⟩, _⟩ | ⟨t, u, L, o1 | o1, _⟩
      rotate_right 2
      · rcases get i _ o1 with e | ⟨_, _, _, _, _, _, e, _⟩ <;> cases e
      · rcases get i _ o1 with e | ⟨_, _, _, _, _, _, e, _⟩ <;> cases e
      · rcases get i _ o1 with e | ⟨_, _, _, _, _, _, e, _⟩ <;> cases e
      · rcases get i _ o1 with e | ⟨_, _, _, _, _, _, e, _⟩ <;> cases e
      · rcases get i _ o1 with e | ⟨_, _, _, _, _, _, e, _⟩ <;> cases e
    have lst : (start N (.ref y :: us)).length = nl := by
      unfold L2.start
      rw [List.length_append, List.length_map, List.length_replicate, List.length_cons, lu, hl]
      omega
    have W : Wd ⟨K, w⟩ ⟨fun b => if b = y then none else H b, F, [], nl, [], []⟩ (Sl.no :: (ds.map Sl.d ++ List.replicate (nl - (n + 1)) Sl.no)) (start N (.ref y :: us)) H F := by
      refine ⟨?_, lst, sub, Same.refl _, fun b o h _ _ => ?_, fun b h => .inl h, fun b h => h.elim (fun z => absurd z List.not_mem_nil) fun z => absurd z List.not_mem_nil, fun i s h => ?_, fun i j a o1 o2 => absurd o1 (no i a), fun i a h => absurd h List.not_mem_nil, fun i a h => absurd h List.not_mem_nil⟩
      · rw [lst, List.length_cons, List.length_append, List.length_map, List.length_replicate, hd]; omega
      · dsimp only at h
        split at h
        · cases h
        · exact h
      · rcases get i s h with rfl | ⟨j, d, v, rfl, _, e2, rfl, r⟩
        · trivial
        · refine ⟨v, ?_, r⟩
          unfold L2.start
          rw [List.map_cons, List.cons_append, List.getElem?_cons_succ, List.getElem?_append_left (by rw [List.length_map]; exact (List.getElem?_eq_some_iff.mp e2).1), List.getElem?_map, e2]
          rfl
    refine ⟨_, y, dy, (_, [], []), F, _, ⟨W, rfl, by simp, fy, fun i => no i y, ⟨[], hy, rfl, .nil⟩⟩, e1, fun σ' H' F' I ff => ?_⟩
    obtain ⟨ws, a1, a2, a3⟩ := I.at_
    refine q H' F' ws ff I.wd.sub (fun b o h hb => I.wd.kp b o ?_ (fun z => absurd z List.not_mem_nil) (fun z => absurd z List.not_mem_nil)) (fun b h => ?_) I.fy a1 a2 a3
    · dsimp only
      rw [if_neg hb]; exact h
    · rcases I.wd.nw b h with h1 | h1
      · exact .inl h1
      · dsimp only at h1
        split at h1
        · rename_i hb
          subst hb
          exact absurd I.fy h
        · exact .inr h1
  · cases hg
end Sw
namespace Sw
open PySem PySem.Spec PyProof.Rows L2
theorem ltc_asymm : ∀ a b : List Nat, ltCps b a = false → ltCps a b = false → a = b
  | [], [], _, _ => rfl
  | [], _ :: _, _, h => by cases h
  | _ :: _, [], h, _ => by cases h
  | a :: r, b :: t, h, h' => by
    simp only [ltCps, Bool.or_eq_false_iff, decide_eq_false_iff_not, Bool.and_eq_false_iff, beq_eq_false_iff_ne] at h h'
    have e : a = b := by omega
    subst e
    rw [ltc_asymm r t (h.2.resolve_left (by simp)) (h'.2.resolve_left (by simp))]
theorem ltc_total : ∀ a b : List Nat, ltCps b a = true → ltCps a b = false
  | [], [], h => by cases h
  | [], _ :: _, h => by cases h
  | _ :: _, [], h => rfl
  | a :: r, b :: t, h => by
    simp only [ltCps, Bool.or_eq_true, decide_eq_true_eq, Bool.and_eq_true, beq_iff_eq] at h
    simp only [ltCps, Bool.or_eq_false_iff, decide_eq_false_iff_not, Bool.and_eq_false_iff, beq_eq_false_iff_ne]
    rcases h with h | ⟨h1, h2⟩
    · exact ⟨by omega, .inl (by omega)⟩
    · exact ⟨by omega, .inr (ltc_total r t h2)⟩
theorem ltc_trans : ∀ a b c : List Nat, ltCps b a = false → ltCps c b = false → ltCps c a = false
  | [], _, [], _, _ => rfl
  | [], _, _ :: _, _, _ => rfl
  | _ :: _, [], _, h, _ => by cases h
  | _ :: _, _ :: _, [], _, h => by cases h
  | a :: r, b :: t, c :: u, h, h' => by
    simp only [ltCps, Bool.or_eq_false_iff, decide_eq_false_iff_not, Bool.and_eq_false_iff, beq_eq_false_iff_ne] at h h' ⊢
    refine ⟨by omega, ?_⟩
    by_cases e : c = a
    · right
      have e1 : b = a := by omega
      have e2 : c = b := by omega
      exact ltc_trans r t u (h.2.resolve_left (fun z => z e1)) (h'.2.resolve_left (fun z => z e2))
    · exact .inl e
noncomputable def leT (a b : List Nat) : Bool := !ltCps b a
noncomputable def sortT (xs : List (List Nat)) : List (List Nat) := xs.mergeSort leT
theorem leT_trans (a b c : List Nat) (h : leT a b = true) (h' : leT b c = true) : leT a c = true := by
  unfold leT at *
  rw [Bool.not_eq_true'] at *
  exact ltc_trans a b c h h'
theorem leT_total (a b : List Nat) : (leT a b || leT b a) = true := by
  unfold leT
  cases h : ltCps b a with
  | false => rfl
  | true => rw [ltc_total a b h]; rfl
theorem sortT_perm (xs : List (List Nat)) : (sortT xs).Perm xs := List.mergeSort_perm _ _
theorem sortT_pair (xs : List (List Nat)) : (sortT xs).Pairwise fun a b => leT a b = true := List.pairwise_mergeSort leT_trans leT_total xs
theorem rising_pair : ∀ (p : Str) (l : List Str), risingS p l = true → (∀ x ∈ l, leT p.cps.toList x.cps.toList = true) ∧ (l.map fun s : Str => s.cps.toList).Pairwise fun a b => leT a b = true
  | p, [], _ => ⟨fun _ h => absurd h List.not_mem_nil, List.Pairwise.nil⟩
  | p, x :: r, h => by
    unfold risingS at h
    rw [Bool.and_eq_true, Bool.not_eq_true'] at h
    obtain ⟨h1, h2⟩ := rising_pair x r h.2
    have px : leT p.cps.toList x.cps.toList = true := by unfold leT; rw [h.1]; rfl
    refine ⟨fun y hy => ?_, ?_⟩
    · rcases List.mem_cons.mp hy with rfl | hy
      · exact px
      · exact leT_trans _ _ _ px (h1 y hy)
    · rw [List.map_cons, List.pairwise_cons]
      refine ⟨fun y hy => ?_, h2⟩
      obtain ⟨z, hz, rfl⟩ := List.mem_map.mp hy
      exact h1 z hz
theorem sorted_pair : ∀ (l : List Str), sortedS l = true → (l.map fun s : Str => s.cps.toList).Pairwise fun a b => leT a b = true
  | [], _ => List.Pairwise.nil
  | x :: r, h => by
    obtain ⟨h1, h2⟩ := rising_pair x r h
    rw [List.map_cons, List.pairwise_cons]
    refine ⟨fun y hy => ?_, h2⟩
    obtain ⟨z, hz, rfl⟩ := List.mem_map.mp hy
    exact h1 z hz
theorem sortT_uniq {xs ys : List (List Nat)} (hp : ys.Perm xs) (hs : ys.Pairwise fun a b => leT a b = true) : ys = sortT xs := by
  refine List.Perm.eq_of_pairwise (le := fun a b => leT a b = true) (fun a b _ _ h h' => ?_) hs (sortT_pair xs) (hp.trans (sortT_perm xs).symm)
  unfold leT at h h'
  rw [Bool.not_eq_true'] at h h'
  exact ltc_asymm a b h h'
noncomputable def sortI (xs : List Int) : List Int := xs.mergeSort fun a b => decide (a ≤ b)
theorem sortI_perm (xs : List Int) : (sortI xs).Perm xs := List.mergeSort_perm _ _
theorem sortI_pair (xs : List Int) : (sortI xs).Pairwise fun a b => a ≤ b := by
  have := List.pairwise_mergeSort (le := fun a b : Int => decide (a ≤ b)) (fun a b c h h' => by simp only [decide_eq_true_eq] at *; omega) (fun a b => by simp only [Bool.or_eq_true, decide_eq_true_eq]; omega) xs
  exact this.imp fun h => of_decide_eq_true h
theorem sortI_uniq {xs ys : List Int} (hp : ys.Perm xs) (hs : ys.Pairwise fun a b => a ≤ b) : ys = sortI xs :=
  List.Perm.eq_of_pairwise (le := fun a b : Int => a ≤ b) (fun a b _ _ h h' => by omega) hs (sortI_pair xs) (hp.trans (sortI_perm xs).symm)
noncomputable def sortD (xs : List D) : Option (List D) := match intsD xs with
  | some ns => some ((sortI ns).map .int)
  | none => (strsOf xs).bind fun ts => if ts.length < 64 then some ((sortT ts).map .str) else none
noncomputable def eSorted (ms : M (List Vl)) : M Vl := fun ρ => (ms ρ).bind fun p => match p.1 with
  | [r] => (look p.2 r).bind fun x => match x with
    | .lst xs => (sortD xs).bind fun ys => some (.fr ys, p.2)
    | _ => none
  | _ => none
section
variable {X : Cx} {e : Expr} {ms : M (List Vl)} {p pos : Pos}
theorem reps_ints {K : Kx} {F : Hp} : ∀ ns : List Int, Reps K F (ns.map V.int) (ns.map D.int)
  | [] => .nil
  | n :: ns => .cons (.int n) (reps_ints ns)
theorem reps_strs {K : Kx} {F : Hp} : ∀ ss : List Str, Reps K F (ss.map V.str) ((ss.map fun s : Str => s.cps.toList).map D.str)
  | [] => .nil
  | s :: ss => .cons (rep_str s) (reps_strs ss)
theorem new_fr {G : Gd} {K : Kx} {ρ ρ1 : Rho} {σ : L2.St} {H H1 F F1 : Hp} {vs : List V} {xs : List D} {Q : VK} {q : Addr} (s1 : Ste K G ρ σ H F ρ1 H1 F1) (R : Reps K F1 vs xs) (hq : H1 q = none) (Qk : ∀ v H' F', Ste K G ρ σ H F ρ1 H' F' → VlR K G H ρ1 σ H' F' v (.fr xs) → Q v H') : Q (.ref q) (upd H1 q (.lst vs)) := by
  have f1 : F1 q = none := s1.wd.sub.free hq
  have A : Alc F1 H1 F1 (upd H1 q (.lst vs)) := ⟨Same.refl _, fun b o e => by rw [upd_ne (ne_of_none (s1.wd.sub _ _ e) hq)]; exact s1.wd.sub _ _ e, same_upd hq, fun _ h => .inl h⟩
  refine Qk _ _ F1 (s1.trans (s1.wd.alc A)) ⟨q, vs, rfl, upd_same, R, f1, ?_, s1.wd.not_ow hq (same_upd hq)⟩
  cases e : H q with
  | none => rfl
  | some o => exact absurd hq (s1.tr q (by rw [e]; simp))
theorem pe_alt {t t' : TE} (h : PE X e t) (h' : PE X e t') : PE X e (fun σ H Q => t σ H Q ∨ t' σ H Q) := ⟨fun pins s σ H Q I q => q.elim (h.run pins s σ H Q I) (h'.run pins s σ H Q I)⟩
theorem se_sorted (hm : X.mg "sorted" = none) (hg : Gl X "sorted") (ha : SA X [e] ms) (he : starEach [e] X.env = (false, eval e X.env) :: starEach [] X.env := by rfl) (hpl : (backTo pos (starEach [] X.env)).any (·.1) = false := by rfl) :
    SE X (.Call (.Name "sorted" p) [e] [] pos) (eSorted ms) := by
  refine pe_weak (pe_alt (pe_callB cr_sortedI hg hm (by decide +kernel) ha (by decide) (by decide) he hpl) (pe_callB cr_sortedS hg hm (by decide +kernel) ha (by decide) (by decide) he hpl)) fun σ H Q ⟨G, ρ, F, r0, ρ', W, hm, q⟩ => ?_
  unfold eSorted at hm
  obtain ⟨⟨rs, ρ1⟩, e1, hm⟩ := Option.bind_eq_some_iff.mp hm
  split at hm
  · rename_i r hr
    dsimp only at hr
    subst hr
    obtain ⟨x, e2, hm⟩ := Option.bind_eq_some_iff.mp hm
    split at hm
    · rename_i xs
      obtain ⟨ys, e3, hm⟩ := Option.bind_eq_some_iff.mp hm
      cases hm
      unfold sortD at e3
      split at e3
      · rename_i ns hn
        cases e3
        refine .inl ⟨G, ρ, F, [r], ρ1, W, e1, fun vs H1 F1 s1 R1 => ?_⟩
        obtain ⟨v, rfl, Rv⟩ : ∃ v, vs = [v] ∧ VlS X.kx σ F1 v r := by
          match vs, R1 with
          | [v], z => exact ⟨v, rfl, z.1⟩
        obtain ⟨a, us, rfl, h1, h2⟩ := vw_of s1.wd Rv e2
        have hu := intsD_ok h2 hn
        subst hu
        refine ⟨a, ns, rfl, SqL.of h1, fun ns' p hp hs hq => ?_⟩
        rw [sortI_uniq hp hs]
        exact new_fr s1 (reps_ints _) hq q
      · obtain ⟨ts, hn, e3⟩ := Option.bind_eq_some_iff.mp e3
        split at e3
        · rename_i hl
          cases e3
          refine .inr ⟨G, ρ, F, [r], ρ1, W, e1, fun vs H1 F1 s1 R1 => ?_⟩
          obtain ⟨v, rfl, Rv⟩ : ∃ v, vs = [v] ∧ VlS X.kx σ F1 v r := by
            match vs, R1 with
            | [v], z => exact ⟨v, rfl, z.1⟩
          obtain ⟨a, us, rfl, h1, h2⟩ := vw_of s1.wd Rv e2
          have hu := strsOf_ok h2 hn
          subst hu
          refine ⟨a, _, rfl, SqL.of h1, by rw [List.length_map]; exact hl, fun ss p hp hs hq => ?_⟩
          have e4 : (ss.map fun s : Str => s.cps.toList) = sortT ts := by
            refine sortT_uniq ?_ (sorted_pair ss hs)
            have := hp.map fun s : Str => s.cps.toList
            rw [List.map_map] at this
            have id' : ((fun s : Str => s.cps.toList) ∘ fun y : List Nat => (⟨y.toArray⟩ : Str)) = id := by funext y; simp
            rw [id', List.map_id] at this
            exact this
          rw [← e4] at q
          exact new_fr s1 (reps_strs ss) hq q
        · cases e3
    · cases hm
  · cases hm
end
end Sw
namespace Sw
open L2
local macro_rules | `(tactic| walk_at "fn") => `(tactic| (fail))
local macro_rules | `(tactic| walk_at "s1") => `(tactic| (first | ((with_reducible refine gEv ?_); (first | ((with_reducible refine' ev_tAnd_d ?s0 ?s1 ?_); (case s0 => (intro Q q; walk_at "g"; (first | exact q | exact toD_n q | exact toD_t q | exact toD_f q | exact toD_b q))); (case s1 => (intro hp Q q; walk_at "g"; (first | exact q | exact toD_n q | exact toD_t q | exact toD_f q | exact toD_b q)))) | ((with_reducible refine' ev_tOr_d ?s0 ?s1 ?_); (case s0 => (intro Q q; walk_at "g"; (first | exact q | exact toD_n q | exact toD_t q | exact toD_f q | exact toD_b q))); (case s1 => (intro hp Q q; walk_at "g"; (first | exact q | exact toD_n q | exact toD_t q | exact toD_f q | exact toD_b q)))) | with_reducible refine ev_c ?_ | ((with_reducible refine' ev_vd ?s0 ?_); (case s0 => (rfl))) | ((with_reducible refine' ev_vo ?s0 ?_); (case s0 => (rfl))) | ((with_reducible refine' ev_vi ?s0 ?_); (case s0 => (rfl))) | with_reducible refine ev_bin ?_ | with_reducible refine ev_add ?_ | with_reducible refine ev_un ?_ | with_reducible refine ev_anil ?_ | with_reducible refine ev_acons ?_ | with_reducible refine ev_blt ?_ | with_reducible refine ev_met ?_ | with_reducible refine ev_ono ?_ | with_reducible refine ev_osome ?_ | with_reducible refine ev_sl ?_ | with_reducible refine ev_tup ?_ | with_reducible refine ev_lst ?_ | with_reducible refine ev_tE ?_ | with_reducible refine ev_tyes ?_ | with_reducible refine ev_tAnd ?_ | with_reducible refine ev_tOr ?_ | with_reducible refine ev_tNot ?_ | with_reducible refine ev_eAnd ?_ | with_reducible refine ev_eOr ?_ | with_reducible refine ev_eNot ?_ | with_reducible refine ev_eIf ?_ | with_reducible refine ev_chain ?_ | with_reducible refine ev_call ?_)) | ((with_reducible refine gGiv ?_); (first | ((with_reducible refine' giv_mod ?s0 ?_); (case s0 => (first | assumption | decide | omega | (show _ ≤ 16777216; omega) | (show _ < 16777216; omega) | (simp only [List.length_append, List.length_cons, List.length_nil, List.length_replicate, List.length_map, List.length_take, List.length_drop, List.length_dropLast]; first | omega | (show _ ≤ 16777216; omega))))) | ((with_reducible refine' giv_div ?s0 ?_); (case s0 => (first | assumption | decide | omega | (show _ ≤ 16777216; omega) | (show _ < 16777216; omega) | (simp only [List.length_append, List.length_cons, List.length_nil, List.length_replicate, List.length_map, List.length_take, List.length_drop, List.length_dropLast]; first | omega | (show _ ≤ 16777216; omega))))) | ((with_reducible refine' giv_mul ?s0 ?_); (case s0 => (first | assumption | exact cMul_r (by decide) | exact cMul_r (by omega)))) | ((with_reducible refine' giv_muls ?s0 ?_); (case s0 => (first | assumption | decide | omega | (show _ ≤ 16777216; omega) | (show _ < 16777216; omega) | (simp only [List.length_append, List.length_cons, List.length_nil, List.length_replicate, List.length_map, List.length_take, List.length_drop, List.length_dropLast]; first | omega | (show _ ≤ 16777216; omega))))) | ((with_reducible refine' giv_adds ?s0 ?_); (case s0 => (first | assumption | decide | omega | (show _ ≤ 16777216; omega) | (show _ < 16777216; omega) | (simp only [List.length_append, List.length_cons, List.length_nil, List.length_replicate, List.length_map, List.length_take, List.length_drop, List.length_dropLast]; first | omega | (show _ ≤ 16777216; omega))))) | ((with_reducible refine' giv_addl ?s0 ?_); (case s0 => (first | assumption | decide | omega | (show _ ≤ 16777216; omega) | (show _ < 16777216; omega) | (simp only [List.length_append, List.length_cons, List.length_nil, List.length_replicate, List.length_map, List.length_take, List.length_drop, List.length_dropLast]; first | omega | (show _ ≤ 16777216; omega))))) | ((with_reducible refine' giv_ixl ?s0 ?_); (case s0 => (first | assumption | rfl | exact atI_zero))) | ((with_reducible refine' giv_ixt ?s0 ?_); (case s0 => (first | assumption | rfl | exact atI_zero))) | ((with_reducible refine' giv_ixs ?s0 ?s1 ?_); (case s0 => (first | assumption | decide | omega | (show _ ≤ 16777216; omega) | (show _ < 16777216; omega) | (simp only [List.length_append, List.length_cons, List.length_nil, List.length_replicate, List.length_map, List.length_take, List.length_drop, List.length_dropLast]; first | omega | (show _ ≤ 16777216; omega)))); (case s1 => (first | assumption | rfl))) | ((with_reducible refine' giv_dr4 ?s0 ?_); (case s0 => (assumption))) | ((with_reducible refine' giv_slm1 ?s0 ?_); (case s0 => (first | assumption | decide | omega | (show _ ≤ 16777216; omega) | (show _ < 16777216; omega) | (simp only [List.length_append, List.length_cons, List.length_nil, List.length_replicate, List.length_map, List.length_take, List.length_drop, List.length_dropLast]; first | omega | (show _ ≤ 16777216; omega))))) | ((with_reducible refine' giv_slt ?s0 ?s1 ?_); (case s0 => (first | assumption | decide | omega | (show _ ≤ 16777216; omega) | (show _ < 16777216; omega) | (simp only [List.length_append, List.length_cons, List.length_nil, List.length_replicate, List.length_map, List.length_take, List.length_drop, List.length_dropLast]; first | omega | (show _ ≤ 16777216; omega)))); (case s1 => (first | assumption | decide | omega))) | ((with_reducible refine' giv_sld ?s0 ?s1 ?_); (case s0 => (first | assumption | decide | omega | (show _ ≤ 16777216; omega) | (show _ < 16777216; omega) | (simp only [List.length_append, List.length_cons, List.length_nil, List.length_replicate, List.length_map, List.length_take, List.length_drop, List.length_dropLast]; first | omega | (show _ ≤ 16777216; omega)))); (case s1 => (first | assumption | decide | omega))) | ((with_reducible refine' giv_slm ?s0 ?s1 ?s2 ?_); (case s0 => (first | assumption | decide | omega | (show _ ≤ 16777216; omega) | (show _ < 16777216; omega) | (simp only [List.length_append, List.length_cons, List.length_nil, List.length_replicate, List.length_map, List.length_take, List.length_drop, List.length_dropLast]; first | omega | (show _ ≤ 16777216; omega)))); (case s1 => (first | assumption | decide | omega)); (case s2 => (first | assumption | decide | omega))) | ((with_reducible refine' giv_sltl ?s0 ?_); (case s0 => (first | assumption | decide | omega))) | ((with_reducible refine' giv_sldl ?s0 ?_); (case s0 => (first | assumption | decide | omega))) | ((with_reducible refine' giv_sls ?s0 ?_); (case s0 => (first | assumption | decide | omega | (show _ ≤ 16777216; omega) | (show _ < 16777216; omega) | (simp only [List.length_append, List.length_cons, List.length_nil, List.length_replicate, List.length_map, List.length_take, List.length_drop, List.length_dropLast]; first | omega | (show _ ≤ 16777216; omega))))) | with_reducible refine giv_sll ?_ | ((with_reducible refine' giv_lens ?s0 ?_); (case s0 => (first | assumption | decide | omega | (show _ ≤ 16777216; omega) | (show _ < 16777216; omega) | (simp only [List.length_append, List.length_cons, List.length_nil, List.length_replicate, List.length_map, List.length_take, List.length_drop, List.length_dropLast]; first | omega | (show _ ≤ 16777216; omega))))) | ((with_reducible refine' giv_revs ?s0 ?_); (case s0 => (first | assumption | decide | omega | (show _ ≤ 16777216; omega) | (show _ < 16777216; omega) | (simp only [List.length_append, List.length_cons, List.length_nil, List.length_replicate, List.length_map, List.length_take, List.length_drop, List.length_dropLast]; first | omega | (show _ ≤ 16777216; omega))))) | ((with_reducible refine' giv_sldT ?s0 ?s1 ?_); (case s0 => (first | assumption | decide | omega)); (case s1 => (first | assumption | decide | omega))) | ((with_reducible refine' giv_sltT ?s0 ?s1 ?_); (case s0 => (first | assumption | decide | omega)); (case s1 => (first | assumption | decide | omega))) | with_reducible refine giv_A ?_ | with_reducible refine giv_tup ?_ | with_reducible refine giv_tupt ?_ | ((with_reducible refine' giv_str ?s0 ?_); (case s0 => (first | assumption | decide | omega))) | with_reducible refine giv_strN ?_ | with_reducible refine giv_strS ?_ | ((with_reducible refine' giv_at ?s0 ?_); (case s0 => (rfl))) | with_reducible refine giv r_add1 ?_ | with_reducible refine giv r_sub ?_ | with_reducible refine giv r_lt ?_ | with_reducible refine giv r_lts ?_ | with_reducible refine giv r_le ?_ | with_reducible refine giv r_gt ?_ | with_reducible refine giv r_ge ?_ | with_reducible refine giv r_eqi ?_ | with_reducible refine giv r_eqs ?_ | with_reducible refine giv r_eqb ?_ | with_reducible refine giv r_nei ?_ | with_reducible refine giv r_nes ?_ | with_reducible refine giv r_neb ?_ | with_reducible refine giv r_isb ?_ | with_reducible refine giv r_ntb ?_ | with_reducible refine giv r_ins ?_ | with_reducible refine giv r_nis ?_ | with_reducible refine giv r_neg ?_ | with_reducible refine giv r_len2 ?_ | with_reducible refine giv r_len3 ?_ | with_reducible refine giv r_int1 ?_ | with_reducible refine giv r_fFind ?_ | with_reducible refine giv r_rev1 ?_ | with_reducible refine giv r_fIsi1 ?_ | with_reducible refine giv r_fIsi2 ?_ | with_reducible refine giv r_fIsi3 ?_ | with_reducible refine giv r_fIsi4 ?_ | with_reducible refine giv r_fIsi5 ?_ | with_reducible refine giv r_fIsi6 ?_ | with_reducible refine giv r_min2 ?_ | with_reducible refine giv r_max2 ?_ | with_reducible refine giv r_min3 ?_ | with_reducible refine giv r_isn1 ?_ | with_reducible refine giv r_isn2 ?_ | with_reducible refine giv r_isn3 ?_ | with_reducible refine giv r_isn4 ?_ | with_reducible refine giv r_isn5 ?_ | with_reducible refine giv r_ntn1 ?_ | with_reducible refine giv r_ntn2 ?_ | with_reducible refine giv r_ntn3 ?_ | with_reducible refine giv r_ntn4 ?_ | with_reducible refine giv r_ntn5 ?_ | with_reducible refine giv r_eqn1 ?_ | with_reducible refine giv r_eqn2 ?_ | with_reducible refine giv q_isi_tuple_non ?_ | with_reducible refine giv q_isi_tuple_bl ?_ | with_reducible refine giv q_isi_tuple_int ?_ | with_reducible refine giv q_isi_tuple_str ?_ | with_reducible refine giv q_isi_tuple_lst ?_ | with_reducible refine giv q_isi_tuple_tup ?_ | with_reducible refine giv q_isi_list_non ?_ | with_reducible refine giv q_isi_list_bl ?_ | with_reducible refine giv q_isi_list_int ?_ | with_reducible refine giv q_isi_list_str ?_ | with_reducible refine giv q_isi_list_lst ?_ | with_reducible refine giv q_isi_list_tup ?_ | with_reducible refine giv q_isi_str_non ?_ | with_reducible refine giv q_isi_str_bl ?_ | with_reducible refine giv q_isi_str_int ?_ | with_reducible refine giv q_isi_str_str ?_ | with_reducible refine giv q_isi_str_lst ?_ | with_reducible refine giv q_isi_str_tup ?_ | with_reducible refine giv q_isi_int_non ?_ | with_reducible refine giv q_isi_int_bl ?_ | with_reducible refine giv q_isi_int_int ?_ | with_reducible refine giv q_isi_int_str ?_ | with_reducible refine giv q_isi_int_lst ?_ | with_reducible refine giv q_isi_int_tup ?_ | with_reducible refine giv q_isi_bool_non ?_ | with_reducible refine giv q_isi_bool_bl ?_ | with_reducible refine giv q_isi_bool_int ?_ | with_reducible refine giv q_isi_bool_str ?_ | with_reducible refine giv q_isi_bool_lst ?_ | with_reducible refine giv q_isi_bool_tup ?_ | ((with_reducible refine' giv ?s0 ?_); (case s0 => (first | exact (rfl : _ = some (D.bl true)) | exact (rfl : _ = some (D.bl false))))) | ((with_reducible refine' giv_ixs_all ?s0 ?s1 ?s2 ?_); (case s0 => (first | assumption | decide | omega | (show _ ≤ 16777216; omega) | (show _ < 16777216; omega) | (simp only [List.length_append, List.length_cons, List.length_nil, List.length_replicate, List.length_map, List.length_take, List.length_drop, List.length_dropLast]; first | omega | (show _ ≤ 16777216; omega)))); (case s1 => (first | assumption | decide | omega)); (case s2 => (first | assumption | (refine Int.lt_of_lt_of_le (by assumption) ?_; decide) | (show _ < (_ : Int); omega) | (simp only [List.length_append, List.length_cons, List.length_nil]; omega))); intro _ _))) | ((with_reducible refine gBrn ?_); (first | with_reducible refine brn_t ?_ | with_reducible refine brn_f ?_ | with_reducible refine brn_nT ?_ | with_reducible refine brn_nF ?_ | with_reducible refine brn_nn ?_ | ((with_reducible refine' brn_dt ?s0 ?_); (case s0 => decide)) | ((with_reducible refine' brn_df ?s0 ?_); (case s0 => decide)) | ((with_reducible refine' brn_nt ?s0 ?_); (case s0 => decide)) | ((with_reducible refine' brn_nf ?s0 ?_); (case s0 => decide)))) | ((with_reducible refine gFv ?_); (first | ((with_reducible refine' fv_nextE ?s0 ?s1 ?_); (case s0 => assumption); (case s1 => (first | assumption | decide | omega)); intro _ _ _ _ _; (try dsimp only [puts, put, agI, outsOf, slOf, List.set_cons_zero, List.set_cons_succ, List.getElem?_cons_zero, List.getElem?_cons_succ, wipeR, backR, Option.getD_some, stl])) | ((with_reducible refine' fv_drawE ?s0 ?_); (case s0 => assumption); intro _ _) | with_reducible refine fv_signs ?_ | (walk_at "fn"))) | with_reducible refine ret_z ?_ | with_reducible refine ret_r ?_ | ((with_reducible refine' ret_b ?s0 ?_); (case s0 => (rfl))) | ((with_reducible refine' see2 ?s0 ?s1 ?_); (case s0 => (rfl)); (case s1 => (rfl))) | ((with_reducible refine' see1 ?s0 ?_); (case s0 => (rfl))) | ((with_reducible refine' sees ?s0 ?_); (case s0 => (rfl))) | with_reducible refine isI ?_ | with_reducible refine isB ?_ | with_reducible refine isBD ?_ | ((with_reducible refine' frzs' ?s0 (And.intro ?s1 ?_)); (case s0 => rfl); (case s1 => (first | decide | simp)); (try dsimp only [puts, put, agI, outsOf, slOf, List.set_cons_zero, List.set_cons_succ, List.getElem?_cons_zero, List.getElem?_cons_succ, wipeR, backR, Option.getD_some, stl])) | ((with_reducible refine' arg ?s0 ?s1 ?s2 ?_); (case s0 => (rfl)); (case s1 => (rfl)); (case s2 => (first | exact List.nodup_nil | exact nodup1 | simp [agI])); (try dsimp only [puts, put, agI, outsOf, slOf, List.set_cons_zero, List.set_cons_succ, List.getElem?_cons_zero, List.getElem?_cons_succ, wipeR, backR, Option.getD_some, stl])) | ((with_reducible refine' ex_asg ?s0 ?_); (case s0 => (first | rfl | assumption)); (try dsimp only [puts, put, agI, outsOf, slOf, List.set_cons_zero, List.set_cons_succ, List.getElem?_cons_zero, List.getElem?_cons_succ, wipeR, backR, Option.getD_some, stl])) | ((with_reducible refine' ex_asg' ?s0 ?_); (case s0 => (first | rfl | assumption)); (try dsimp only [puts, put, agI, outsOf, slOf, List.set_cons_zero, List.set_cons_succ, List.getElem?_cons_zero, List.getElem?_cons_succ, wipeR, backR, Option.getD_some, stl])) | ((with_reducible refine' ex_asg'' ?s0 ?_); (case s0 => (rfl)); (try dsimp only [puts, put, agI, outsOf, slOf, List.set_cons_zero, List.set_cons_succ, List.getElem?_cons_zero, List.getElem?_cons_succ, wipeR, backR, Option.getD_some, stl])) | ((with_reducible refine' ex_asgT ?s0 ?_); (case s0 => (rfl)); (try dsimp only [puts, put, agI, outsOf, slOf, List.set_cons_zero, List.set_cons_succ, List.getElem?_cons_zero, List.getElem?_cons_succ, wipeR, backR, Option.getD_some, stl])) | ((with_reducible refine' nbw_z ?_); (try dsimp only [puts, put, agI, outsOf, slOf, List.set_cons_zero, List.set_cons_succ, List.getElem?_cons_zero, List.getElem?_cons_succ, wipeR, backR, Option.getD_some, stl])) | ((with_reducible refine' nbw_r ?_); (try dsimp only [puts, put, agI, outsOf, slOf, List.set_cons_zero, List.set_cons_succ, List.getElem?_cons_zero, List.getElem?_cons_succ, wipeR, backR, Option.getD_some, stl])) | with_reducible refine add2_i ?_ | ((with_reducible refine' add2_s ?s0 ?_); (case s0 => (first | assumption | decide | omega | (show _ ≤ 16777216; omega) | (show _ < 16777216; omega) | (simp only [List.length_append, List.length_cons, List.length_nil, List.length_replicate, List.length_map, List.length_take, List.length_drop, List.length_dropLast]; first | omega | (show _ ≤ 16777216; omega))))) | ((with_reducible refine' add2_l ?s0 ?_); (case s0 => (first | assumption | decide | omega | (show _ ≤ 16777216; omega) | (show _ < 16777216; omega) | (simp only [List.length_append, List.length_cons, List.length_nil, List.length_replicate, List.length_map, List.length_take, List.length_drop, List.length_dropLast]; first | omega | (show _ ≤ 16777216; omega))))) | ((with_reducible refine' add2_t ?s0 ?_); (case s0 => (first | assumption | decide | omega | (show _ ≤ 16777216; omega) | (show _ < 16777216; omega) | (simp only [List.length_append, List.length_cons, List.length_nil, List.length_replicate, List.length_map, List.length_take, List.length_drop, List.length_dropLast]; first | omega | (show _ ≤ 16777216; omega))))) | ((with_reducible refine' own_at ?s0 (And.intro ?s1 ?_)); (case s0 => rfl); (case s1 => exact ⟨_, by assumption⟩); intro _ _; (try dsimp only [puts, put, agI, outsOf, slOf, List.set_cons_zero, List.set_cons_succ, List.getElem?_cons_zero, List.getElem?_cons_succ, wipeR, backR, Option.getD_some, stl])) | ((with_reducible refine gSv ?_); (first | with_reducible refine sv_asg_s ?_ | with_reducible refine sv_nx_s ?_ | with_reducible refine sv_if_s ?_ | with_reducible refine sv_ret_s ?_ | with_reducible refine sv_seq_s ?_ | with_reducible refine sv_drop_s ?_ | ((with_reducible refine' sv_app_s ?s0 ?_); (case s0 => (rfl))) | ((with_reducible refine' sv_app_l ?s0 ?_); (case s0 => (rfl))) | with_reducible refine sv_asg_l ?_ | with_reducible refine sv_if_l ?_ | with_reducible refine sv_ret_l ?_ | with_reducible refine sv_nx ?_ | with_reducible refine sv_asgT_s ?_ | with_reducible refine sv_asgT_l ?_ | with_reducible refine sv_set4_s ?_))))
local macro_rules | `(tactic| walk_at "s2") => `(tactic| (first | ((with_reducible refine gEv ?_); (first | ((with_reducible refine' ev_tAnd_d ?s0 ?s1 ?_); (case s0 => (intro Q q; walk_at "g"; (first | exact q | exact toD_n q | exact toD_t q | exact toD_f q | exact toD_b q))); (case s1 => (intro hp Q q; walk_at "g"; (first | exact q | exact toD_n q | exact toD_t q | exact toD_f q | exact toD_b q)))) | ((with_reducible refine' ev_tOr_d ?s0 ?s1 ?_); (case s0 => (intro Q q; walk_at "g"; (first | exact q | exact toD_n q | exact toD_t q | exact toD_f q | exact toD_b q))); (case s1 => (intro hp Q q; walk_at "g"; (first | exact q | exact toD_n q | exact toD_t q | exact toD_f q | exact toD_b q)))) | with_reducible refine ev_c ?_ | ((with_reducible refine' ev_vd ?s0 ?_); (case s0 => (rfl))) | ((with_reducible refine' ev_vo ?s0 ?_); (case s0 => (rfl))) | ((with_reducible refine' ev_vi ?s0 ?_); (case s0 => (rfl))) | with_reducible refine ev_bin ?_ | with_reducible refine ev_add ?_ | with_reducible refine ev_un ?_ | with_reducible refine ev_anil ?_ | with_reducible refine ev_acons ?_ | with_reducible refine ev_blt ?_ | with_reducible refine ev_met ?_ | with_reducible refine ev_ono ?_ | with_reducible refine ev_osome ?_ | with_reducible refine ev_sl ?_ | with_reducible refine ev_tup ?_ | with_reducible refine ev_lst ?_ | with_reducible refine ev_tE ?_ | with_reducible refine ev_tyes ?_ | with_reducible refine ev_tAnd ?_ | with_reducible refine ev_tOr ?_ | with_reducible refine ev_tNot ?_ | with_reducible refine ev_eAnd ?_ | with_reducible refine ev_eOr ?_ | with_reducible refine ev_eNot ?_ | with_reducible refine ev_eIf ?_ | with_reducible refine ev_chain ?_ | with_reducible refine ev_call ?_)) | ((with_reducible refine gGiv ?_); (first | ((with_reducible refine' giv_mod ?s0 ?_); (case s0 => (first | assumption | decide | omega | (show _ ≤ 16777216; omega) | (show _ < 16777216; omega) | (simp only [List.length_append, List.length_cons, List.length_nil, List.length_replicate, List.length_map, List.length_take, List.length_drop, List.length_dropLast]; first | omega | (show _ ≤ 16777216; omega))))) | ((with_reducible refine' giv_div ?s0 ?_); (case s0 => (first | assumption | decide | omega | (show _ ≤ 16777216; omega) | (show _ < 16777216; omega) | (simp only [List.length_append, List.length_cons, List.length_nil, List.length_replicate, List.length_map, List.length_take, List.length_drop, List.length_dropLast]; first | omega | (show _ ≤ 16777216; omega))))) | ((with_reducible refine' giv_mul ?s0 ?_); (case s0 => (first | assumption | exact cMul_r (by decide) | exact cMul_r (by omega)))) | ((with_reducible refine' giv_muls ?s0 ?_); (case s0 => (first | assumption | decide | omega | (show _ ≤ 16777216; omega) | (show _ < 16777216; omega) | (simp only [List.length_append, List.length_cons, List.length_nil, List.length_replicate, List.length_map, List.length_take, List.length_drop, List.length_dropLast]; first | omega | (show _ ≤ 16777216; omega))))) | ((with_reducible refine' giv_adds ?s0 ?_); (case s0 => (first | assumption | decide | omega | (show _ ≤ 16777216; omega) | (show _ < 16777216; omega) | (simp only [List.length_append, List.length_cons, List.length_nil, List.length_replicate, List.length_map, List.length_take, List.length_drop, List.length_dropLast]; first | omega | (show _ ≤ 16777216; omega))))) | ((with_reducible refine' giv_addl ?s0 ?_); (case s0 => (first | assumption | decide | omega | (show _ ≤ 16777216; omega) | (show _ < 16777216; omega) | (simp only [List.length_append, List.length_cons, List.length_nil, List.length_replicate, List.length_map, List.length_take, List.length_drop, List.length_dropLast]; first | omega | (show _ ≤ 16777216; omega))))) | ((with_reducible refine' giv_ixl ?s0 ?_); (case s0 => (first | assumption | rfl | exact atI_zero))) | ((with_reducible refine' giv_ixt ?s0 ?_); (case s0 => (first | assumption | rfl | exact atI_zero))) | ((with_reducible refine' giv_ixs ?s0 ?s1 ?_); (case s0 => (first | assumption | decide | omega | (show _ ≤ 16777216; omega) | (show _ < 16777216; omega) | (simp only [List.length_append, List.length_cons, List.length_nil, List.length_replicate, List.length_map, List.length_take, List.length_drop, List.length_dropLast]; first | omega | (show _ ≤ 16777216; omega)))); (case s1 => (first | assumption | rfl))) | ((with_reducible refine' giv_dr4 ?s0 ?_); (case s0 => (assumption))) | ((with_reducible refine' giv_slm1 ?s0 ?_); (case s0 => (first | assumption | decide | omega | (show _ ≤ 16777216; omega) | (show _ < 16777216; omega) | (simp only [List.length_append, List.length_cons, List.length_nil, List.length_replicate, List.length_map, List.length_take, List.length_drop, List.length_dropLast]; first | omega | (show _ ≤ 16777216; omega))))) | ((with_reducible refine' giv_slt ?s0 ?s1 ?_); (case s0 => (first | assumption | decide | omega | (show _ ≤ 16777216; omega) | (show _ < 16777216; omega) | (simp only [List.length_append, List.length_cons, List.length_nil, List.length_replicate, List.length_map, List.length_take, List.length_drop, List.length_dropLast]; first | omega | (show _ ≤ 16777216; omega)))); (case s1 => (first | assumption | decide | omega))) | ((with_reducible refine' giv_sld ?s0 ?s1 ?_); (case s0 => (first | assumption | decide | omega | (show _ ≤ 16777216; omega) | (show _ < 16777216; omega) | (simp only [List.length_append, List.length_cons, List.length_nil, List.length_replicate, List.length_map, List.length_take, List.length_drop, List.length_dropLast]; first | omega | (show _ ≤ 16777216; omega)))); (case s1 => (first | assumption | decide | omega))) | ((with_reducible refine' giv_slm ?s0 ?s1 ?s2 ?_); (case s0 => (first | assumption | decide | omega | (show _ ≤ 16777216; omega) | (show _ < 16777216; omega) | (simp only [List.length_append, List.length_cons, List.length_nil, List.length_replicate, List.length_map, List.length_take, List.length_drop, List.length_dropLast]; first | omega | (show _ ≤ 16777216; omega)))); (case s1 => (first | assumption | decide | omega)); (case s2 => (first | assumption | decide | omega))) | ((with_reducible refine' giv_sltl ?s0 ?_); (case s0 => (first | assumption | decide | omega))) | ((with_reducible refine' giv_sldl ?s0 ?_); (case s0 => (first | assumption | decide | omega))) | ((with_reducible refine' giv_sls ?s0 ?_); (case s0 => (first | assumption | decide | omega | (show _ ≤ 16777216; omega) | (show _ < 16777216; omega) | (simp only [List.length_append, List.length_cons, List.length_nil, List.length_replicate, List.length_map, List.length_take, List.length_drop, List.length_dropLast]; first | omega | (show _ ≤ 16777216; omega))))) | with_reducible refine giv_sll ?_ | ((with_reducible refine' giv_lens ?s0 ?_); (case s0 => (first | assumption | decide | omega | (show _ ≤ 16777216; omega) | (show _ < 16777216; omega) | (simp only [List.length_append, List.length_cons, List.length_nil, List.length_replicate, List.length_map, List.length_take, List.length_drop, List.length_dropLast]; first | omega | (show _ ≤ 16777216; omega))))) | ((with_reducible refine' giv_revs ?s0 ?_); (case s0 => (first | assumption | decide | omega | (show _ ≤ 16777216; omega) | (show _ < 16777216; omega) | (simp only [List.length_append, List.length_cons, List.length_nil, List.length_replicate, List.length_map, List.length_take, List.length_drop, List.length_dropLast]; first | omega | (show _ ≤ 16777216; omega))))) | ((with_reducible refine' giv_sldT ?s0 ?s1 ?_); (case s0 => (first | assumption | decide | omega)); (case s1 => (first | assumption | decide | omega))) | ((with_reducible refine' giv_sltT ?s0 ?s1 ?_); (case s0 => (first | assumption | decide | omega)); (case s1 => (first | assumption | decide | omega))) | with_reducible refine giv_A ?_ | with_reducible refine giv_tup ?_ | with_reducible refine giv_tupt ?_ | ((with_reducible refine' giv_str ?s0 ?_); (case s0 => (first | assumption | decide | omega))) | with_reducible refine giv_strN ?_ | with_reducible refine giv_strS ?_ | ((with_reducible refine' giv_at ?s0 ?_); (case s0 => (rfl))) | with_reducible refine giv r_add1 ?_ | with_reducible refine giv r_sub ?_ | with_reducible refine giv r_lt ?_ | with_reducible refine giv r_lts ?_ | with_reducible refine giv r_le ?_ | with_reducible refine giv r_gt ?_ | with_reducible refine giv r_ge ?_ | with_reducible refine giv r_eqi ?_ | with_reducible refine giv r_eqs ?_ | with_reducible refine giv r_eqb ?_ | with_reducible refine giv r_nei ?_ | with_reducible refine giv r_nes ?_ | with_reducible refine giv r_neb ?_ | with_reducible refine giv r_isb ?_ | with_reducible refine giv r_ntb ?_ | with_reducible refine giv r_ins ?_ | with_reducible refine giv r_nis ?_ | with_reducible refine giv r_neg ?_ | with_reducible refine giv r_len2 ?_ | with_reducible refine giv r_len3 ?_ | with_reducible refine giv r_int1 ?_ | with_reducible refine giv r_fFind ?_ | with_reducible refine giv r_rev1 ?_ | with_reducible refine giv r_fIsi1 ?_ | with_reducible refine giv r_fIsi2 ?_ | with_reducible refine giv r_fIsi3 ?_ | with_reducible refine giv r_fIsi4 ?_ | with_reducible refine giv r_fIsi5 ?_ | with_reducible refine giv r_fIsi6 ?_ | with_reducible refine giv r_min2 ?_ | with_reducible refine giv r_max2 ?_ | with_reducible refine giv r_min3 ?_ | with_reducible refine giv r_isn1 ?_ | with_reducible refine giv r_isn2 ?_ | with_reducible refine giv r_isn3 ?_ | with_reducible refine giv r_isn4 ?_ | with_reducible refine giv r_isn5 ?_ | with_reducible refine giv r_ntn1 ?_ | with_reducible refine giv r_ntn2 ?_ | with_reducible refine giv r_ntn3 ?_ | with_reducible refine giv r_ntn4 ?_ | with_reducible refine giv r_ntn5 ?_ | with_reducible refine giv r_eqn1 ?_ | with_reducible refine giv r_eqn2 ?_ | with_reducible refine giv q_isi_tuple_non ?_ | with_reducible refine giv q_isi_tuple_bl ?_ | with_reducible refine giv q_isi_tuple_int ?_ | with_reducible refine giv q_isi_tuple_str ?_ | with_reducible refine giv q_isi_tuple_lst ?_ | with_reducible refine giv q_isi_tuple_tup ?_ | with_reducible refine giv q_isi_list_non ?_ | with_reducible refine giv q_isi_list_bl ?_ | with_reducible refine giv q_isi_list_int ?_ | with_reducible refine giv q_isi_list_str ?_ | with_reducible refine giv q_isi_list_lst ?_ | with_reducible refine giv q_isi_list_tup ?_ | with_reducible refine giv q_isi_str_non ?_ | with_reducible refine giv q_isi_str_bl ?_ | with_reducible refine giv q_isi_str_int ?_ | with_reducible refine giv q_isi_str_str ?_ | with_reducible refine giv q_isi_str_lst ?_ | with_reducible refine giv q_isi_str_tup ?_ | with_reducible refine giv q_isi_int_non ?_ | with_reducible refine giv q_isi_int_bl ?_ | with_reducible refine giv q_isi_int_int ?_ | with_reducible refine giv q_isi_int_str ?_ | with_reducible refine giv q_isi_int_lst ?_ | with_reducible refine giv q_isi_int_tup ?_ | with_reducible refine giv q_isi_bool_non ?_ | with_reducible refine giv q_isi_bool_bl ?_ | with_reducible refine giv q_isi_bool_int ?_ | with_reducible refine giv q_isi_bool_str ?_ | with_reducible refine giv q_isi_bool_lst ?_ | with_reducible refine giv q_isi_bool_tup ?_ | ((with_reducible refine' giv ?s0 ?_); (case s0 => (first | exact (rfl : _ = some (D.bl true)) | exact (rfl : _ = some (D.bl false))))) | ((with_reducible refine' giv_ixs_all ?s0 ?s1 ?s2 ?_); (case s0 => (first | assumption | decide | omega | (show _ ≤ 16777216; omega) | (show _ < 16777216; omega) | (simp only [List.length_append, List.length_cons, List.length_nil, List.length_replicate, List.length_map, List.length_take, List.length_drop, List.length_dropLast]; first | omega | (show _ ≤ 16777216; omega)))); (case s1 => (first | assumption | decide | omega)); (case s2 => (first | assumption | (refine Int.lt_of_lt_of_le (by assumption) ?_; decide) | (show _ < (_ : Int); omega) | (simp only [List.length_append, List.length_cons, List.length_nil]; omega))); intro _ _))) | ((with_reducible refine gBrn ?_); (first | with_reducible refine brn_t ?_ | with_reducible refine brn_f ?_ | with_reducible refine brn_nT ?_ | with_reducible refine brn_nF ?_ | with_reducible refine brn_nn ?_ | ((with_reducible refine' brn_dt ?s0 ?_); (case s0 => decide)) | ((with_reducible refine' brn_df ?s0 ?_); (case s0 => decide)) | ((with_reducible refine' brn_nt ?s0 ?_); (case s0 => decide)) | ((with_reducible refine' brn_nf ?s0 ?_); (case s0 => decide)))) | ((with_reducible refine gFv ?_); (first | ((with_reducible refine' fv_nextE ?s0 ?s1 ?_); (case s0 => assumption); (case s1 => (first | assumption | decide | omega)); intro _ _ _ _ _; (try dsimp only [puts, put, agI, outsOf, slOf, List.set_cons_zero, List.set_cons_succ, List.getElem?_cons_zero, List.getElem?_cons_succ, wipeR, backR, Option.getD_some, stl])) | ((with_reducible refine' fv_drawE ?s0 ?_); (case s0 => assumption); intro _ _) | with_reducible refine fv_signs ?_ | (walk_at "fn"))) | with_reducible refine ret_z ?_ | with_reducible refine ret_r ?_ | ((with_reducible refine' ret_b ?s0 ?_); (case s0 => (rfl))) | ((with_reducible refine' see2 ?s0 ?s1 ?_); (case s0 => (rfl)); (case s1 => (rfl))) | ((with_reducible refine' see1 ?s0 ?_); (case s0 => (rfl))) | ((with_reducible refine' sees ?s0 ?_); (case s0 => (rfl))) | with_reducible refine isI ?_ | with_reducible refine isB ?_ | with_reducible refine isBD ?_ | ((with_reducible refine' frzs' ?s0 (And.intro ?s1 ?_)); (case s0 => rfl); (case s1 => (first | decide | simp)); (try dsimp only [puts, put, agI, outsOf, slOf, List.set_cons_zero, List.set_cons_succ, List.getElem?_cons_zero, List.getElem?_cons_succ, wipeR, backR, Option.getD_some, stl])) | ((with_reducible refine' arg ?s0 ?s1 ?s2 ?_); (case s0 => (rfl)); (case s1 => (rfl)); (case s2 => (first | exact List.nodup_nil | exact nodup1 | simp [agI])); (try dsimp only [puts, put, agI, outsOf, slOf, List.set_cons_zero, List.set_cons_succ, List.getElem?_cons_zero, List.getElem?_cons_succ, wipeR, backR, Option.getD_some, stl])) | ((with_reducible refine' ex_asg ?s0 ?_); (case s0 => (first | rfl | assumption)); (try dsimp only [puts, put, agI, outsOf, slOf, List.set_cons_zero, List.set_cons_succ, List.getElem?_cons_zero, List.getElem?_cons_succ, wipeR, backR, Option.getD_some, stl])) | ((with_reducible refine' ex_asg' ?s0 ?_); (case s0 => (first | rfl | assumption)); (try dsimp only [puts, put, agI, outsOf, slOf, List.set_cons_zero, List.set_cons_succ, List.getElem?_cons_zero, List.getElem?_cons_succ, wipeR, backR, Option.getD_some, stl])) | ((with_reducible refine' ex_asg'' ?s0 ?_); (case s0 => (rfl)); (try dsimp only [puts, put, agI, outsOf, slOf, List.set_cons_zero, List.set_cons_succ, List.getElem?_cons_zero, List.getElem?_cons_succ, wipeR, backR, Option.getD_some, stl])) | ((with_reducible refine' ex_asgT ?s0 ?_); (case s0 => (rfl)); (try dsimp only [puts, put, agI, outsOf, slOf, List.set_cons_zero, List.set_cons_succ, List.getElem?_cons_zero, List.getElem?_cons_succ, wipeR, backR, Option.getD_some, stl])) | ((with_reducible refine' nbw_z ?_); (try dsimp only [puts, put, agI, outsOf, slOf, List.set_cons_zero, List.set_cons_succ, List.getElem?_cons_zero, List.getElem?_cons_succ, wipeR, backR, Option.getD_some, stl])) | ((with_reducible refine' nbw_r ?_); (try dsimp only [puts, put, agI, outsOf, slOf, List.set_cons_zero, List.set_cons_succ, List.getElem?_cons_zero, List.getElem?_cons_succ, wipeR, backR, Option.getD_some, stl])) | with_reducible refine add2_i ?_ | ((with_reducible refine' add2_s ?s0 ?_); (case s0 => (first | assumption | decide | omega | (show _ ≤ 16777216; omega) | (show _ < 16777216; omega) | (simp only [List.length_append, List.length_cons, List.length_nil, List.length_replicate, List.length_map, List.length_take, List.length_drop, List.length_dropLast]; first | omega | (show _ ≤ 16777216; omega))))) | ((with_reducible refine' add2_l ?s0 ?_); (case s0 => (first | assumption | decide | omega | (show _ ≤ 16777216; omega) | (show _ < 16777216; omega) | (simp only [List.length_append, List.length_cons, List.length_nil, List.length_replicate, List.length_map, List.length_take, List.length_drop, List.length_dropLast]; first | omega | (show _ ≤ 16777216; omega))))) | ((with_reducible refine' add2_t ?s0 ?_); (case s0 => (first | assumption | decide | omega | (show _ ≤ 16777216; omega) | (show _ < 16777216; omega) | (simp only [List.length_append, List.length_cons, List.length_nil, List.length_replicate, List.length_map, List.length_take, List.length_drop, List.length_dropLast]; first | omega | (show _ ≤ 16777216; omega))))) | ((with_reducible refine' own_at ?s0 (And.intro ?s1 ?_)); (case s0 => rfl); (case s1 => exact ⟨_, by assumption⟩); intro _ _; (try dsimp only [puts, put, agI, outsOf, slOf, List.set_cons_zero, List.set_cons_succ, List.getElem?_cons_zero, List.getElem?_cons_succ, wipeR, backR, Option.getD_some, stl])) | ((with_reducible refine gSv ?_); (first | with_reducible refine sv_asg_s ?_ | with_reducible refine sv_nx_s ?_ | with_reducible refine sv_ret_s ?_ | with_reducible refine sv_seq_s ?_ | with_reducible refine sv_drop_s ?_ | ((with_reducible refine' sv_app_s ?s0 ?_); (case s0 => (rfl))) | ((with_reducible refine' sv_app_l ?s0 ?_); (case s0 => (rfl))) | with_reducible refine sv_asg_l ?_ | with_reducible refine sv_if_l ?_ | with_reducible refine sv_ret_l ?_ | with_reducible refine sv_nx ?_ | with_reducible refine sv_asgT_s ?_ | with_reducible refine sv_asgT_l ?_ | with_reducible refine sv_set4_s ?_))))
local macro_rules | `(tactic| walk_at "b") => `(tactic| (first | ((with_reducible refine' giv_ixl_all ?s0 ?s1 ?_); (case s0 => (first | assumption | decide | omega)); (case s1 => (first | assumption | (refine Int.lt_of_lt_of_le (by assumption) ?_; decide) | (show _ < (_ : Int); omega) | (simp only [List.length_append, List.length_cons, List.length_nil]; omega))); repeat' (first | exact all_nil | refine all_cons ?_ ?_)) | ((with_reducible refine brn_d ?_ ?_) <;> intro _ <;> (first | (exfalso; omega) | skip)) | ((with_reducible refine brn_nd ?_ ?_) <;> intro _ <;> (first | (exfalso; omega) | skip)) | ((with_reducible refine brn_c ?_ ?_) <;> intro _ <;> (first | (exfalso; omega) | contradiction | (subst_vars; contradiction) | skip))))
local macro_rules | `(tactic| walk_at "n") => `(tactic| (try dsimp only [puts, put, agI, outsOf, slOf, List.map, List.set_cons_zero, List.set_cons_succ, List.getElem?_cons_zero, List.getElem?_cons_succ, wipeR, backR, Option.getD_some, List.replicate, List.cons_append, List.nil_append, List.append_eq, List.append_nil, Nat.reduceSub, FEnd, Ret, noBw, stl]))
local macro_rules | `(tactic| walk_at "g") => `(tactic| (repeat (walk_at "s1")))
local macro_rules | `(tactic| walk_at "gS") => `(tactic| (repeat (walk_at "s2")))
local macro_rules | `(tactic| walk_at "x") => `(tactic| (repeat' (first | (walk_at "s1") | (walk_at "b"))))
local macro_rules | `(tactic| walk_at "xS") => `(tactic| (repeat' (first | (walk_at "s2") | (walk_at "b"))))
theorem ev_new {m : M Vl} {ρ : Rho} {Q : Vl → Rho → Prop} (h : Ev m ρ fun r ρ1 => ∃ x xs, look ρ1 (stl r) = some x ∧ itemsQ x = some xs ∧ Q (.fr xs) ρ1) : Ev (eNew m) ρ Q := by
  obtain ⟨r, ρ1, e, x, xs, h1, h2, q⟩ := h
  exact ⟨_, _, by unfold eNew; rw [e]; show (look ρ1 (stl r)).bind _ = _; rw [h1]; show (itemsQ x).bind _ = _; rw [h2]; rfl, q⟩
theorem gT2_ok {i j : Nat} {x y : D} {ρ : Rho} (hi : ioQ ρ[i]? = false) (hj : ioQ (ρ.set i (.d x))[j]? = false) : gT 2 (gsC (gN i) (gsC (gN j) gsN)) (.tup [x, y]) ρ = some ((ρ.set i (.d x)).set j (.d y)) := by
  show (if [x, y].length = 2 then (asg i (.fz x) ρ).bind _ else none) = _
  rw [if_pos (show [x, y].length = 2 from rfl), asg_z hi]
  show (asg j (.fz y) (ρ.set i (.d x))).bind _ = _
  rw [asg_z hj]
  rfl
noncomputable def Ltr (L : List Nat) : Prop := L.length = 3 ∧ L.Sublist SGN
theorem fv_lettersE {xs : List D} {e : Int} {Q : Vl → List (List D) → Prop} (h : DrE e xs) (q : ∀ cs ys, Ltr cs → DrE e ys → Q (.fz (.str cs)) [ys]) : Fv lawLetters [.li xs] Q := by
  refine fv_fn rfl ?_
  walk_at "n"
  unfold lawLettersB
  walk_at "gS"
  refine sv_if_s ?_
  walk_at "g"
  refine brn_d (fun z => ?_) (fun z => sv_nx_s ?_)
  · walk_at "g"
    walk_at "n"
    exact q _ _ ⟨rfl, by decide⟩ (by assumption)
  refine sv_if_s ?_
  walk_at "g"
  refine brn_d (fun z => ?_) (fun z => sv_nx_s ?_)
  · walk_at "g"
    walk_at "n"
    exact q _ _ ⟨rfl, by decide⟩ (by assumption)
  refine sv_if_s ?_
  walk_at "g"
  refine brn_d (fun z => ?_) (fun z => sv_nx_s ?_)
  · walk_at "g"
    walk_at "n"
    exact q _ _ ⟨rfl, by decide⟩ (by assumption)
  walk_at "gS"
  rename_i r0 ys0 _ _ _ _ _ f ys1 f0 f1 h1 s ys2 s0 s1 h2 t ys3 t0 t1 h3
  have ns : (f + 1 + s) % 96 ≠ f := by omega
  have nt : (f + 1 + t) % 96 ≠ f := by omega
  have rs : 0 ≤ (f + 1 + s) % 96 ∧ (f + 1 + s) % 96 < 96 := by omega
  have rt : 0 ≤ (f + 1 + t) % 96 ∧ (f + 1 + t) % 96 < 96 := by omega
  generalize (f + 1 + s) % 96 = s' at ns rs ⊢
  generalize (f + 1 + t) % 96 = t' at nt rt ⊢
  refine sv_then (fun ρ => ∃ z : Int, ρ = [.io ys3, .d (.int r0), .d (.str SGN), .d (.int f), .d (.int s'), .d (.int z), .no] ∧ 0 ≤ z ∧ z < 96 ∧ z ≠ s' ∧ (z = f → (s' + 1) % 96 = f)) ?_ ?_
  · walk_at "g"
    refine brn_d (fun z => ?_) (fun z => ?_)
    · walk_at "g"; exact ⟨_, rfl, by omega, by omega, by omega, fun z => by omega⟩
    · walk_at "g"; exact ⟨_, rfl, by omega, by omega, by omega, fun z => by omega⟩
  rintro ρ ⟨z, rfl, z0, z1, z2, z3⟩
  refine sv_then (fun ρ => ∃ z : Int, ρ = [.io ys3, .d (.int r0), .d (.str SGN), .d (.int f), .d (.int s'), .d (.int z), .no] ∧ 0 ≤ z ∧ z < 96 ∧ z ≠ s' ∧ z ≠ f) ?_ ?_
  · walk_at "g"
    refine brn_d (fun y => ?_) (fun y => ?_)
    · walk_at "g"; exact ⟨_, rfl, by omega, by omega, by have := z3 y; omega, by omega⟩
    · walk_at "g"; exact ⟨_, rfl, by omega, by omega, by omega, by omega⟩
  rintro ρ ⟨z, rfl, z0, z1, z2, z3⟩
  obtain ⟨cs, hl, ec, hm⟩ := let_comp (f := f.toNat) (s := s'.toNat) (t := z.toNat) (io := ys3) (c := .int r0) (by omega) (by omega) (by omega) (by omega) (by omega) (by omega)
  rw [show ((f.toNat : Nat) : Int) = f by omega, show ((s'.toNat : Nat) : Int) = s' by omega, show ((z.toNat : Nat) : Int) = z by omega] at ec
  have ej := join_signs (cs := cs) (by rw [hl]; decide)
  walk_at "g"
  refine ev_eq ec ?_
  walk_at "g"
  refine giv ej ?_
  walk_at "g"
  walk_at "n"
  exact q _ _ ⟨hl, hm⟩ h3
theorem ev_make {c : PySem.Str} {g : List D → Option (List PySem.Str × List D)} {ms : M (List Vl)} {ρ : Rho} {Q : Vl → Rho → Prop}
    (h : Ev ms ρ fun rs ρ1 => ∃ xs ρ2 ks ys, frzs ρ1 rs = some (xs, ρ2) ∧ g xs = some (ks, ys) ∧ Q (.fz (.obj c ks ys)) ρ2) : Ev (eMake c g ms) ρ Q := by
  obtain ⟨rs, ρ1, e1, xs, ρ2, ks, ys, e2, e3, q⟩ := h
  refine ⟨_, ρ2, ?_, q⟩
  unfold eMake
  rw [e1]
  show (frzs ρ1 rs).bind _ = _
  rw [e2]
  show (g xs).bind _ = _
  rw [e3]
  rfl
theorem giv_at {c f : PySem.Str} {ks : List PySem.Str} {xs : List D} {z : D} {Q : D → Prop} (h : (ks.zip xs).lookup f = some z) (q : Q z) : Giv (fAt c f (.obj c ks xs)) Q := by
  refine giv ?_ q
  unfold fAt
  dsimp only
  rw [if_pos rfl]
  exact h
theorem intsD_none {ts : List (List Nat)} (h : ts ≠ []) : intsD (ts.map D.str) = none := by
  cases ts with
  | nil => exact absurd rfl h
  | cons t ts => rfl
theorem sortD_strs {ts : List (List Nat)} (h : ts.length < 64) : sortD (ts.map D.str) = some ((sortT ts).map D.str) := by
  by_cases e : ts = []
  · subst e; unfold sortD intsD sortT sortI; simp [intsD]
  · unfold sortD
    rw [intsD_none e]
    dsimp only
    rw [strsOf_map]
    show (if _ then _ else _) = _
    rw [if_pos h]
theorem ev_sorted {ms : M (List Vl)} {ρ : Rho} {Q : Vl → Rho → Prop} (h : Ev ms ρ fun rs ρ1 => ∃ r xs ys, rs = [r] ∧ look ρ1 r = some (.lst xs) ∧ sortD xs = some ys ∧ Q (.fr ys) ρ1) : Ev (eSorted ms) ρ Q := by
  obtain ⟨rs, ρ1, e1, r, xs, ys, rfl, e2, e3, q⟩ := h
  refine ⟨_, ρ1, ?_, q⟩
  unfold eSorted
  rw [e1]
  show (look ρ1 r).bind _ = _
  rw [e2]
  show (sortD xs).bind _ = _
  rw [e3]
  rfl
/-- comprehensions whose source may freeze a list -/
theorem ev_lcfR {α : Type} {ρ ρ1 : Rho} {v : Nat} {src : M (List D)} {t : M Bool} {e : M Vl} {Q : Vl → Rho → Prop} (xs : List α) (d : α → D) (p : α → Bool) (h : α → D)
    (hv : plainSl ρ1[v]? = true) (hl : xs.length ≤ lim) (hs : ∀ {Q' : List D → Rho → Prop}, Q' (xs.map d) ρ1 → Ev src ρ Q')
    (ht : ∀ x ∈ xs, ∀ {Q' : Bool → Rho → Prop}, Q' (p x) (ρ1.set v (.d (d x))) → Ev t (ρ1.set v (.d (d x))) Q')
    (he : ∀ x ∈ xs, p x = true → ∀ {Q' : Vl → Rho → Prop}, Q' (.fz (h x)) (ρ1.set v (.d (d x))) → Ev e (ρ1.set v (.d (d x))) Q')
    (q : Q (.fr ((xs.filter p).map h)) ρ1) : Ev (eLc [v] src (gN v) t e) ρ Q := by
  have hvl := plain_io hv
  refine ev_lc (fun i acc ρ' => acc = ((xs.take i).filter p).map h ∧ ρ' = ρ1.set v .no) (hs ?_)
  refine ⟨by simp only [List.all_cons, hv, List.all_nil]; rfl, ⟨by simp, rfl⟩, ?_, ?_⟩
  · rintro i y hy acc ρ' ⟨rfl, rfl⟩
    rw [List.getElem?_map] at hy
    cases hi : xs[i]? with
    | none => rw [hi] at hy; cases hy
    | some x =>
      rw [hi] at hy
      cases hy
      have hx := List.mem_of_getElem? hi
      have hi' : i < xs.length := (List.getElem?_eq_some_iff.mp hi).1
      refine ⟨ρ1.set v (.d (d x)), ?_, ht x hx ?_⟩
      · show asg v (.fz (d x)) _ = _
        rw [asg_z (by rw [List.getElem?_set_self hvl]; rfl), List.set_set]
      · refine ⟨fun hp => he x hx hp ⟨h x, _, rfl, ?_, ?_, ?_⟩, fun hp => ⟨?_, ?_⟩⟩
        · rw [List.length_map]
          have := List.length_filter_le p (xs.take i)
          rw [List.length_take] at this
          omega
        · rw [take_s hi, List.filter_append, List.map_append]; simp [hp]
        · show (ρ1.set v (.d (d x))).set v .no = _
          rw [List.set_set]
        · rw [take_s hi, List.filter_append, List.map_append]; simp [hp]
        · show (ρ1.set v (.d (d x))).set v .no = _
          rw [List.set_set]
  · rintro acc ρ' ⟨rfl, rfl⟩
    rw [List.length_map, List.take_length]
    show Q _ ((ρ1.set v .no).set v ((ρ1[v]?).getD .no))
    rw [set_back hv]
    exact q
theorem ev_lcmR {α : Type} {ρ ρ1 : Rho} {v : Nat} {src : M (List D)} {e : M Vl} {Q : Vl → Rho → Prop} (xs : List α) (d : α → D) (h : α → D)
    (hv : plainSl ρ1[v]? = true) (hl : xs.length ≤ lim) (hs : ∀ {Q' : List D → Rho → Prop}, Q' (xs.map d) ρ1 → Ev src ρ Q')
    (he : ∀ x ∈ xs, ∀ {Q' : Vl → Rho → Prop}, Q' (.fz (h x)) (ρ1.set v (.d (d x))) → Ev e (ρ1.set v (.d (d x))) Q')
    (q : Q (.fr (xs.map h)) ρ1) : Ev (eLc [v] src (gN v) tYesM e) ρ Q :=
  ev_lcfR xs d (fun _ => true) h hv hl hs (fun x _ Q' q => ev_tyes q) (fun x hx _ => he x hx) (by rw [List.filter_eq_self.mpr (fun _ _ => rfl)]; exact q)
/-- a comprehension whose items are drawn (the draw stands in slot 0) -/
theorem ev_lc_draw {e0 : Int} {ρ1 : Rho} {v : Nat} {src : M (List D)} {e : M Vl} {Q : Vl → Rho → Prop} (xs : List D) (P : D → Prop) {ys0 : List D} (hd : DrE e0 ys0) (hv : plainSl ρ1[v]? = true) (hl : xs.length ≤ lim)
    (hs : ∀ {Q' : List D → Rho → Prop}, Q' xs (.io ys0 :: ρ1) → Ev src (.io ys0 :: ρ1) Q')
    (he : ∀ x ∈ xs, ∀ ys, DrE e0 ys → ∀ {Q' : Vl → Rho → Prop}, (∀ z ys', P z → DrE e0 ys' → Q' (.fz z) (.io ys' :: ρ1.set v (.d x))) → Ev e (.io ys :: ρ1.set v (.d x)) Q')
    (q : ∀ (zs ys : List D), zs.length = xs.length → (∀ z ∈ zs, P z) → DrE e0 ys → Q (.fr zs) (.io ys :: ρ1)) : Ev (eLc [v + 1] src (gN (v + 1)) tYesM e) (.io ys0 :: ρ1) Q := by
  have hvl := plain_io hv
  refine ev_lc (fun i acc ρ' => ∃ ys, acc.length = i ∧ (∀ z ∈ acc, P z) ∧ DrE e0 ys ∧ ρ' = .io ys :: ρ1.set v .no) (hs ?_)
  refine ⟨by simp only [List.all_cons, List.getElem?_cons_succ, hv, List.all_nil]; rfl, ⟨ys0, rfl, fun _ h => absurd h List.not_mem_nil, hd, rfl⟩, ?_, ?_⟩
  · rintro i x hx acc ρ' ⟨ys, hl', hp, hd, rfl⟩
    have hxm := List.mem_of_getElem? hx
    have hi' : i < xs.length := (List.getElem?_eq_some_iff.mp hx).1
    refine ⟨.io ys :: ρ1.set v (.d x), ?_, ev_tyes (brn_t (he x hxm ys hd fun z ys' hz hd' => ⟨z, _, rfl, by omega, ys', by simp [hl'], ?_, hd', ?_⟩))⟩
    · show asg (v + 1) (.fz x) (.io ys :: ρ1.set v .no) = _
      rw [asg_z (by rw [List.getElem?_cons_succ, List.getElem?_set_self hvl]; rfl), List.set_cons_succ, List.set_set]
    · intro y hy
      rcases List.mem_append.mp hy with h | h
      · exact hp y h
      · rw [List.mem_singleton.mp h]; exact hz
    · show (Sl.io ys' :: ρ1.set v (.d x)).set (v + 1) .no = _
      rw [List.set_cons_succ, List.set_set]
  · rintro acc ρ' ⟨ys, hl', hp, hd, rfl⟩
    show Q _ ((Sl.io ys :: ρ1.set v .no).set (v + 1) (((Sl.io ys0 :: ρ1)[v + 1]?).getD .no))
    rw [List.getElem?_cons_succ, List.set_cons_succ, set_back hv]
    exact q acc ys hl' hp hd
end Sw
namespace Sw
open PySem PySem.Spec PyProof.Rows L2
end Sw
namespace Sw
open PySem PySem.Spec PyProof.Rows L2
noncomputable def xAny (f : PySem.Str → Option Bool) : List PySem.Str → Option Bool
  | [] => some false
  | k :: ks => match f k with
    | some true => some true
    | some false => xAny f ks
    | none => none
/-- the tuple's classes, one by one -/
inductive KitL (K : PySem.W.Frag) (D : Addr) (f : PySem.Str → Option Bool) : List PySem.Str → List Value → Prop where
  | nil : KitL K D f [] []
  | cons {k : PySem.Str} {ks : List PySem.Str} {u : Value} {us : List Value} (h : ∀ b, f k = some b → PySem.W.kitOne K (.ref D) u = some b) (r : KitL K D f ks us) : KitL K D f (k :: ks) (u :: us)
theorem KitL.ok {K : Kx} {D : Addr} {f : PySem.Str → Option Bool} : ∀ {ks : List PySem.Str} {us : List Value}, KitL K D f ks us → ∀ b, xAny f ks = some b → PySem.W.kitAny K (.ref D) us = some b
  | _, _, .nil, b, h => by
    unfold xAny at h
    cases h
    rfl
  | _, _, .cons h r, b, e => by
    unfold xAny at e
    split at e
    · rename_i z
      cases e
      exact kitAny_cons (h _ z) (fun q => nomatch q) fun _ => rfl
    · rename_i z
      exact kitAny_cons (h _ z) (fun _ => r.ok b e) fun q => nomatch q
    · cases e
end Sw
namespace Sw
open L2
end Sw
namespace Sw
open PySem PySem.Spec PyProof.Rows L2
end Sw
namespace Sw
open PySem PySem.Spec PyProof.Rows L2 PySem.W
end Sw
namespace Sw
open PySem PySem.Spec PyProof.Rows L2
theorem zip_lookup_none {m : PySem.Str} : ∀ {ks : List PySem.Str} {vs : List V}, ks.contains m = false → (ks.zip vs).lookup m = none
  | [], _, _ => rfl
  | _ :: _, [], _ => rfl
  | k :: ks, v :: vs, h => by
    rw [List.contains_cons, Bool.or_eq_false_iff] at h
    rw [List.zip_cons_cons, List.lookup_cons, h.1]
    exact zip_lookup_none h.2
/-- an instance of c without an attribute m of its own -/
noncomputable def isOb (c m : PySem.Str) : Vl → Bool
  | .fz (.obj c' ks _) => decide (c' = c) && !ks.contains m
  | _ => false
theorem isOb_ok {c m : PySem.Str} {r : Vl} (h : isOb c m r = true) : ∃ ks xs, r = .fz (.obj c ks xs) ∧ ks.contains m = false := by
  unfold isOb at h
  split at h
  · rw [Bool.and_eq_true, decide_eq_true_eq, Bool.not_eq_true'] at h
    obtain ⟨rfl, h2⟩ := h
    exact ⟨_, _, rfl, h2⟩
  · cases h
noncomputable def eMeth (c m : PySem.Str) (f : Fn) (mo : M Vl) (ms : M (List Vl)) : M Vl := fun ρ => (mo ρ).bind fun p => if isOb c m p.1 = true then eCall f [] (aCons (fun _ => some p) ms) ρ else none
section
variable {X : Cx} {e o : Expr} {es : List Expr} {mo : M Vl} {ms : M (List Vl)} {f : Fn} {c m : PySem.Str} {C g : Addr} {pos apos : Pos} {fd : FuncData} {ps : List Str} {k n : Nat}
theorem rep_ob {K : Kx} {F : Hp} {v : V} {ks : List PySem.Str} {xs : List D} (hC : ClsN K c C) (h : Rep K F v (.obj c ks xs)) : ∃ a dx vs, v = .ref a ∧ F a = some (.ins C dx (ks.zip vs)) ∧ vs.length = ks.length ∧ Reps K F vs xs := by
  cases h with
  | obj h1 h2 h3 h4 =>
    have := hC.uniq h1
    subst this
    exact ⟨_, _, _, rfl, h2, h3, h4⟩
theorem tmeth_of {K : Kx} {E : XK} (hC : ClsN K c C) (hn : ∀ gs z, f gs = some z → gs.length = n) {σ : L2.St} {H : Hp} {Q : VK} (h : tM K (eMeth c m f mo ms) σ H Q) : tMeth C m (spF K n f) [] E (tM K mo) (tMA K ms) σ H Q := by
  obtain ⟨G, ρ, F, r0, ρ', W, hm, q⟩ := h
  unfold eMeth at hm
  obtain ⟨⟨r, ρm⟩, e0, hm⟩ := Option.bind_eq_some_iff.mp hm
  dsimp only at hm
  split at hm
  · rename_i hb
    obtain ⟨ks, xs, rfl, hk⟩ := isOb_ok hb
    obtain ⟨rs, ρ1, e1, w⟩ := tcall_core (E := E) hn W hm q
    unfold aCons at e1
    obtain ⟨p, e2, e1⟩ := Option.bind_eq_some_iff.mp e1
    cases e2
    obtain ⟨⟨ys, ρ2⟩, e3, e1⟩ := Option.bind_eq_some_iff.mp e1
    cases e1
    refine tm_use W e0 fun v H1 F1 s1 R1 => ?_
    obtain ⟨a, dx, vs, rfl, ha, hl, _⟩ := rep_ob hC (show Rep K F1 v (.obj c ks xs) from R1)
    refine ⟨a, dx, _, rfl, s1.wd.sub _ _ ha, zip_lookup_none hk, G, ρm, F1, ys, ρ2, s1.wd, e3, fun us H2 F2 s2 R2 => ?_⟩
    show spF K n f (.ref a :: (us ++ [])) H2 Q E
    rw [List.append_nil]
    exact w (.ref a :: us) H2 F2 (s1.trans s2) ⟨R1.ste s2, R2⟩
  · cases hm
theorem se_meth {pl : Sem Bool} (hC : ClsN X.kx c C) (cl : Cls X.kx C) (hm : Meth X.kx C m g) (F : FnOk X.prog X.w X.kx X.mg X.base CX0 k g fd ps (spF X.kx n f)) (hn : ∀ gs z, f gs = some z → gs.length = n) (hr : Room k X.A) (hb : Binds X.kx fd ps [])
    (ho : SE X o mo) (ha : SA X (e :: es) ms)
    (hst : starEach (e :: es) X.env = (false, eval e X.env) :: starEach es X.env := by rfl) (hpl : (backTo pos (starEach es X.env)).any (·.1) = false := by rfl)
    (ht : eval (.Call (.Attribute o m apos) (e :: es) [] pos) X.env = (do
      let ov ← eval o X.env
      standAt apos.atName
      let (f, first) ← holding [ov] (getMethod ov m pl)
      callWith pos f first (backTo pos (starEach (e :: es) X.env)) (backToKw pos (keywordEach [] X.env))) := by rfl) :
    SE X (.Call (.Attribute o m apos) (e :: es) [] pos) (eMeth c m f mo ms) := pe_weak (pe_meth (pl := pl) ho cl hm F hr hb .nil pass0 ha hst hpl ht) fun _ _ _ h => tmeth_of hC hn h
noncomputable def eProp (c : PySem.Str) (f : Fn) (mo : M Vl) : M Vl := eMeth c PySem.Str.empty f mo aNil
end
section
variable {X : Cx} {f : Fn} {c : PySem.Str} {C g : Addr} {fd : FuncData} {ps : List Str} {k n : Nat} {pins : List (Addr × Obj)} {σ : L2.St} {H : Hp} {s : Shared} {Q : VK}
theorem own_run {us : List Value} {vs : List V} (F : FnOk X.prog X.w X.kx X.mg X.base CX0 k g fd ps (spF X.kx n f)) (hr : Room k X.A) (hb : Binds X.kx fd ps []) (I : Inv X pins σ H s) (r : Vals vs us) (h : spF X.kx n f vs H Q E0) :
    wpAny (model X.prog X.w) X.A (call (.ref g) us) (EP X pins σ Q) X.xe s := run_fn F hr hb .nil pass0 I r (by rw [List.append_nil]; exact h)
theorem own_run1 {us : List Value} {vs : List V} {E' : Value → Shared → Prop} (F : FnOk X.prog X.w X.kx X.mg X.base CX0 k g fd ps (spF X.kx n f)) (hr : Room (k + 1) X.A) (hb : Binds X.kx fd ps []) (I : Inv X pins σ H s) (r : Vals vs us) (h : spF X.kx n f vs H Q E0) :
    wpAny (model X.prog X.w) X.A.in1 (call (.ref g) us) (EP X pins σ Q) E' s := by
  have hl : us.length = ps.length := by rw [← F.len _ _ _ _ h, ← r.length]
  have hb' := hb s us I.kIn (by simpa using hl)
  rw [List.append_nil] at hb'
  refine wpAny_call (codeAny_mono (F.run X.A.in1 X.stack s H ⟨us, []⟩ us vs Q E0 hr.in1 I.env0.in1 hb' r h) fun r s' hq => ?_)
  cases r with
  | error e => exact hq.elim
  | ok fl =>
    cases fl with
    | ret u => exact I.after hq
    | next => exact False.elim hq
    | brk => exact False.elim hq
    | cont => exact False.elim hq
/-- a def's promise at data -/
theorem spf_data {K : Kx} {F : Hp} {vs : List V} {gs : List Ag} {z : D} {os : List (List D)} (hlen : vs.length = n) (sF : Same F H) (hA : AgsR K F H vs gs) (hl : liA vs gs = []) (e : f gs = some (.fz z, os)) (q : ∀ v H' F', Alc F H F' H' → Rep K F' v z → Q v H') : spF K n f vs H Q E0 := by
  refine ⟨hlen, F, gs, .fz z, os, sF, hA, by rw [hl]; exact List.nodup_nil, e, fun v H' F' ff sub kp nf _ res => ?_⟩
  refine q v H' F' ⟨ff, sub, fun b o hb => kp b o hb (by rw [hl]; exact List.not_mem_nil), nf⟩ res
theorem ins_look {a dx : Addr} {fs : List (Str × V)} (I : Inv X pins σ H s) (ea : H a = some (.ins C dx fs)) : ∃ ox od, PySem.W.InstAt s.heap a ox C od := by
  obtain ⟨mA, J, _⟩ := ins_get I.hok ea
  obtain ⟨od, J, _⟩ := J.look
  exact ⟨_, _, J⟩
theorem nl_rep {K : Kx} {F : Hp} {v : V} {x : D} (n : ∀ xs, x ≠ .lst xs) (h : Vw K H F v x) : Rep K F v x := by
  cases x with
  | lst xs => exact absurd rfl (n xs)
  | non => exact h
  | bl b => exact h
  | int i => exact h
  | str t => exact h
  | tup xs => exact h
  | scr xs => exact h
  | obj c ks xs => exact h
noncomputable def isOf (c : PySem.Str) : D → Bool
  | .obj c' _ _ => decide (c' = c)
  | _ => false
theorem isOf_ok {x : D} (h : isOf c x = true) : ∃ ks xs, x = .obj c ks xs := by
  unfold isOf at h
  split at h
  · rw [decide_eq_true_eq] at h; subst h; exact ⟨_, _, rfl⟩
  · cases h
noncomputable def fOwn2 (c : PySem.Str) (f : Fn) : D → D → Option D := fun x y => if (isOf c x && isOf c y) = true then (f [.da x, .da y]).bind fun r => match r.1 with
  | .fz z => some z
  | _ => none else none
noncomputable def fOwn1 (c : PySem.Str) (f : Fn) : D → Option D := fun x => if isOf c x = true then (f [.da x]).bind fun r => match r.1 with
  | .fz z => some z
  | _ => none else none
noncomputable def notL : D → Bool
  | .lst _ => false
  | _ => true
noncomputable def fOwnIn (c : PySem.Str) (f : Fn) (neg : Bool) : D → D → Option D := fun x y => if (isOf c y && notL x) = true then (f [.da y, .da x]).bind fun r => match r.1 with
  | .fz (.bl b) => some (.bl (b != neg))
  | _ => none else none
/-- len(x), x an instance -/
noncomputable def rOwnLen (K : Kx) (C : Addr) (f : Fn) : List V → Hp → VK → Prop := fun vs H Q => ∃ a dx fs, vs = [.ref a] ∧ H a = some (.ins C dx fs) ∧ spF K 1 f [.ref a] H (fun v H' => ∃ i, v = .int i ∧ (0 ≤ i ∧ i < 2 ^ 63) ∧ Q (.int i) H') E0
noncomputable def cOwnLen (c : PySem.Str) (f : Fn) : List D → Option D
  | [x] => if isOf c x = true then (f [.da x]).bind fun r => match r.1 with
    | .fz (.int i) => if 0 ≤ i ∧ i < 1000000000 then some (.int i) else none
    | _ => none else none
  | _ => none
theorem cs_ownLen {K : Kx} (hC : ClsN K c C) : CallS K (rOwnLen K C f) (cOwnLen c f) := by
  intro H F vs xs z s hx e Q q
  unfold cOwnLen at e
  split at e
  · rename_i x
    obtain ⟨v, rfl, hv⟩ := vws1 hx
    split at e
    · rename_i hc
      obtain ⟨kx, xs, rfl⟩ := isOf_ok hc
      obtain ⟨⟨r, os⟩, e1, e2⟩ := Option.bind_eq_some_iff.mp e
      have hx : Rep K F v _ := hv
      obtain ⟨a, dx, vs, rfl, ha, _⟩ := rep_ob hC hx
      dsimp only at e2
      split at e2
      · rename_i i
        split at e2
        · rename_i hi
          cases e2
          refine ⟨a, dx, _, rfl, s _ _ ha, spf_data (gs := [.da (.obj c kx xs)]) rfl s ⟨hx, trivial⟩ rfl e1 fun v H' F' A R => ?_⟩
          cases R
          exact ⟨i, rfl, ⟨hi.1, Int.lt_trans hi.2 (by decide)⟩, q _ H' F' A (.int _)⟩
        · cases e2
      · cases e2
    · cases e
  · cases e
theorem cr_ownLen (hs : PySem.W.findIn X.kx (.ref C) "__len__" = some (some (.ref g))) (hf : PySem.W.isFn X.kx (.ref g) = true)
    (F : FnOk X.prog X.w X.kx X.mg X.base CX0 k g fd ps (spF X.kx 1 f)) (hr : Room (k + 1) X.A) (hb : Binds X.kx fd ps []) : CallR X (.builtin "len") (rOwnLen X.kx C f) := by
  intro pins s σ H vs us Q I r h
  obtain ⟨a, dx, fs, rfl, ha, sp⟩ := h
  obtain ⟨u, rfl, ru⟩ := vals1 r
  obtain rfl : u = Value.ref a := ru
  obtain ⟨ox, od, J⟩ := ins_look I ha
  obtain ⟨m, hF⟩ := I.fr
  refine PySem.W.len_K hF I.ok.mod.kin J hs hf (wpAny_mono (own_run1 F hr hb I (show Vals [V.ref a] [Value.ref a] from .cons rfl .nil) sp) (fun w s' z => ?_) fun _ _ z => z)
  obtain ⟨v, H', I', rv, i, rfl, hi, q⟩ := z
  obtain ⟨t, rfl⟩ := rv
  exact ⟨hi, .int i, H', I'.tok _, ⟨_, rfl⟩, q⟩
end
structure IsiC (K : PySem.W.Frag) (C : Addr) : Prop where
  ha : PySem.W.findIn K (.ref C) "__class__" = some (some (.builtin "object.__class__"))
  hn : PySem.W.specialIn K (.builtin "object.__class__") "__get__" = some (some (.builtin "getset_descriptor.__get__"))
  tk : PySem.W.takesIn K (.builtin "object.__class__") = some true
  hm : PySem.W.mroIn K C (.type "object") = some true
  no : PySem.W.kitOne K (.type "NoneType") (.ref C) = some false
  bl : PySem.W.kitOne K (.type "bool") (.ref C) = some false
  it : PySem.W.kitOne K (.type "int") (.ref C) = some false
  st : PySem.W.kitOne K (.type "str") (.ref C) = some false
  ls : PySem.W.kitOne K (.type "list") (.ref C) = some false
  tp : PySem.W.kitOne K (.type "tuple") (.ref C) = some false
noncomputable def fIsC (c : PySem.Str) : D → Option D
  | .obj c' _ _ => if c' = c then some (.bl true) else none
  | _ => some (.bl false)
section
variable {X : Cx} {a : Expr} {ma : M Vl} {pos p p2 : Pos} {c y : PySem.Str} {C : Addr}
theorem se_isC (hm : X.mg "isinstance" = none) (hg : Gl X "isinstance") (hC : ClsN X.kx c C) (cl : Cls X.kx C) (i : IsiC X.kx C) (hm2 : X.mg y = some (.ref C)) (hg2 : Gl X y) (ha : SE X a ma) (hdb : (y == ("__debug__" : Str)) = false := by decide)
    (he : starEach [a, .Name y p2] X.env = (false, eval a X.env) :: starEach [.Name y p2] X.env := by rfl) (he2 : starEach [.Name y p2] X.env = (false, eval (.Name y p2) X.env) :: starEach [] X.env := by rfl) (hpl : (backTo pos (starEach [.Name y p2] X.env)).any (·.1) = false := by rfl) :
    SE X (.Call (.Name "isinstance" p) [a, .Name y p2] [] pos) (eUn (fIsC c) ma) := by
  have pT : PE X (.Name y p2) (tC (.ref C)) := pe_glob hg2 hm2 rfl hdb
  refine pe_weak (pe_callB call_isi hg hm (by decide +kernel) (pa_cons ha (pa_cons pT pa_nil he2) he) (by decide) (by decide) he hpl) fun σ H Q ⟨G, ρ, F, r0, ρ', W, hm, q⟩ => ?_
  unfold eUn at hm
  obtain ⟨⟨x, ρ1⟩, e1, hm⟩ := Option.bind_eq_some_iff.mp hm
  obtain ⟨dx, e3, hm⟩ := Option.bind_eq_some_iff.mp hm
  obtain ⟨dz, e5, hm⟩ := Option.bind_eq_some_iff.mp hm
  cases hm
  refine tm_use W e1 fun v H1 F1 s1 R1 => ?_
  have hv := vw_of s1.wd R1 e3
  by_cases io : ∃ c' ks xs, dx = .obj c' ks xs
  · obtain ⟨c', ks, xs, rfl⟩ := io
    have e6 : (if c' = c then some (D.bl true) else none) = some dz := e5
    split at e6
    · rename_i ec
      subst ec
      obtain rfl : D.bl true = dz := Option.some.inj e6
      obtain ⟨b, dx, vs, rfl, hb, _⟩ := rep_ob hC (show Rep X.kx F1 v (.obj c' ks xs) from hv)
      exact ⟨.ref b, .ref C, .ref C, .ref C, true, rfl, .own C, .base (.ins (s1.wd.sub _ _ hb) cl i.ha i.hn i.tk i.hm), by unfold PySem.W.kitOne; rw [if_pos (beq_self_eq_true _)], q _ H1 F1 s1 (.bl true)⟩
    · cases e6
  · have no : ∀ c ks xs, dx ≠ .obj c ks xs := fun c ks xs e => io ⟨c, ks, xs, e⟩
    have e6 : dz = .bl false := by
      cases dx <;> first | (exact absurd rfl (no _ _ _)) | (cases e5; rfl)
    subst e6
    refine ⟨v, .ref C, _, .ref C, false, rfl, .own C, tyx no s1.wd.sub hv, ?_, q _ H1 F1 s1 (.bl false)⟩
    cases dx with
    | non => exact i.no
    | bl b => exact i.bl
    | int j => exact i.it
    | str t => exact i.st
    | lst xs => exact i.ls
    | tup xs => exact i.tp
    | scr xs => exact i.ls
    | obj c ks xs => exact absurd rfl (no _ _ _)
end
end Sw
namespace Sw
open PySem PySem.Spec PyProof.Rows L2
section
variable {X : Cx} {f : Fn} {c : PySem.Str} {C g : Addr} {fd : FuncData} {ps : List Str} {k n : Nat}
/-- x == y, x an instance whose own __eq__ answers with a bool -/
noncomputable def rOwnEq (K : Kx) (C : Addr) (f : Fn) : R2 := fun x y H Q => ∃ a dx fs t, x = .ref a ∧ H a = some (.ins C dx fs) ∧ TyX K H y t ∧ PySem.W.notFirst K C t = true ∧ spF K 2 f [x, y] H (fun v H' => ∃ b, v = .bl b ∧ Q (.bl b) H') E0
end
end Sw
namespace Sw
open L2
section
variable {ρ : Rho} {c m : PySem.Str} {f : Fn} {mo : M Vl} {ms : M (List Vl)} {Q : Vl → Rho → Prop}
theorem ev_meth (h : Ev mo ρ fun r ρ1 => ∃ x, r = .fz x ∧ isOb c m (.fz x) = true ∧ Ev (eCall f [] (aCons (eC x) ms)) ρ1 Q) : Ev (eMeth c m f mo ms) ρ Q := by
  obtain ⟨r, ρ1, e1, x, rfl, hb, r2, ρ2, e2, q⟩ := h
  refine ⟨r2, ρ2, ?_, q⟩
  unfold eMeth
  rw [e1]
  show (if isOb c m (.fz x) = true then _ else none) = _
  rw [if_pos hb]
  exact e2
theorem ev_prop (h : Ev mo ρ fun r ρ1 => ∃ x, r = .fz x ∧ isOb c PySem.Str.empty (.fz x) = true ∧ Ev (eCall f [] (aCons (eC x) aNil)) ρ1 Q) : Ev (eProp c f mo) ρ Q := ev_meth h
end
section
variable {c : PySem.Str} {f : Fn} {x y : D} {Q : D → Prop} {g h : D → D → Option D}
theorem giv_own2 (hx : isOf c x = true) (hy : isOf c y = true) (q : Fv f [.da x, .da y] fun r _ => ∃ z, r = .fz z ∧ Q z) : Giv (fOwn2 c f x y) Q := by
  obtain ⟨r, os, e, z, rfl, q⟩ := q
  refine ⟨z, ?_, q⟩
  unfold fOwn2
  rw [hx, hy, if_pos (show (true && true) = true from rfl), e]
  rfl
theorem giv_own1 (hx : isOf c x = true) (q : Fv f [.da x] fun r _ => ∃ z, r = .fz z ∧ Q z) : Giv (fOwn1 c f x) Q := by
  obtain ⟨r, os, e, z, rfl, q⟩ := q
  refine ⟨z, ?_, q⟩
  unfold fOwn1
  rw [if_pos hx, e]
  rfl
theorem giv_ownIn {neg : Bool} (hy : isOf c y = true) (hx : notL x = true) (q : Fv f [.da y, .da x] fun r _ => ∃ b, r = .fz (.bl b) ∧ Q (.bl (b != neg))) : Giv (fOwnIn c f neg x y) Q := by
  obtain ⟨r, os, e, b, rfl, q⟩ := q
  refine ⟨_, ?_, q⟩
  unfold fOwnIn
  rw [hx, hy, if_pos (show (true && true) = true from rfl), e]
  rfl
theorem giv_orl (h1 : Giv (g x y) Q) : Giv (orF g h x y) Q := by
  obtain ⟨z, e, q⟩ := h1
  exact ⟨z, by unfold orF; rw [e], q⟩
theorem giv_orr (h0 : g x y = none) (h1 : Giv (h x y) Q) : Giv (orF g h x y) Q := by
  obtain ⟨z, e, q⟩ := h1
  exact ⟨z, by unfold orF; rw [h0]; exact e, q⟩
theorem giv_isC {ks : List PySem.Str} {xs : List D} (q : Q (.bl true)) : Giv (fIsC c (.obj c ks xs)) Q := giv (by show (if c = c then _ else _) = _; rw [if_pos rfl]) q
theorem isOf_obj {ks : List PySem.Str} {xs : List D} : isOf c (.obj c ks xs) = true := by unfold isOf; exact decide_eq_true rfl
end
theorem obp {c m : PySem.Str} {x : D} {P : D → Prop} (h : isOb c m (.fz x) = true) (q : P x) : ∃ x', Vl.fz x = .fz x' ∧ isOb c m (.fz x') = true ∧ P x' := ⟨x, rfl, h, q⟩
theorem isOb_obj {c m : PySem.Str} {ks : List PySem.Str} {xs : List D} (h : ks.contains m = false) : isOb c m (.fz (.obj c ks xs)) = true := by
  show (decide (c = c) && !ks.contains m) = true
  rw [h, decide_eq_true rfl]
  rfl
theorem fzp {x : D} {P : D → Prop} (q : P x) : ∃ z, Vl.fz x = .fz z ∧ P z := ⟨x, rfl, q⟩
theorem fbp {b : Bool} {P : Bool → Prop} (q : P b) : ∃ z, Vl.fz (.bl b) = .fz (.bl z) ∧ P z := ⟨b, rfl, q⟩
theorem giv_pick {cs : List Nat} {Q : D → Prop} (hl : cs.length ≤ lim) (q : Q (.str cs)) : Giv (fJoin (.str []) [.lst (cs.map fun c => .str [c])]) Q := giv (join_signs hl) q
end Sw
namespace Sw
open PySem PySem.Spec PyProof.Rows L2
section
variable {X : Cx} {f : Fn} {c : PySem.Str} {C g : Addr} {fd : FuncData} {ps : List Str} {k n : Nat}
/-- no built-in type is a subclass -/
structure EqC (K : PySem.W.Frag) (C : Addr) : Prop where
  no : PySem.W.notFirst K C (.type "NoneType") = true
  bl : PySem.W.notFirst K C (.type "bool") = true
  it : PySem.W.notFirst K C (.type "int") = true
  st : PySem.W.notFirst K C (.type "str") = true
  tp : PySem.W.notFirst K C (.type "tuple") = true
noncomputable def fOwnEq (c : PySem.Str) (f : Fn) : D → D → Option D := fun x y => if (isOf c x && (isOf c y || (!isO y && notL y && !isScr y))) = true then (f [.da x, .da y]).bind fun r => match r.1 with
  | .fz (.bl b) => some (.bl b)
  | _ => none else none
where isScr : D → Bool
  | .scr _ => true
  | _ => false
theorem os_ownEq {K : Kx} (hC : ClsN K c C) (cl : Cls K C) (i : IsiC K C) (q6 : EqC K C) : OpS K (rOwnEq K C f) (fOwnEq c f) := by
  intro H F v u x y z s hx hy e Q q
  unfold fOwnEq at e
  split at e
  · rename_i hc
    rw [Bool.and_eq_true] at hc
    obtain ⟨kx, xs, rfl⟩ := isOf_ok hc.1
    obtain ⟨⟨r, os⟩, e1, e2⟩ := Option.bind_eq_some_iff.mp e
    have hx : Rep K F v _ := hx
    obtain ⟨a, dx, vs, rfl, ha, _⟩ := rep_ob hC hx
    have nl : ∀ zs, y ≠ .lst zs := fun zs h => by
      subst h
      rcases Bool.or_eq_true_iff.mp hc.2 with h | h
      · cases h
      · rw [Bool.and_eq_true, Bool.and_eq_true] at h; cases h.1.2
    have hy' := nl_rep nl hy
    have ty : ∃ t, TyX K H u t ∧ PySem.W.notFirst K C t = true := by
      cases y with
      | non => exact ⟨_, tyx (fun _ _ _ h => by cases h) s hy, q6.no⟩
      | bl b => exact ⟨_, tyx (fun _ _ _ h => by cases h) s hy, q6.bl⟩
      | int j => exact ⟨_, tyx (fun _ _ _ h => by cases h) s hy, q6.it⟩
      | str t => exact ⟨_, tyx (fun _ _ _ h => by cases h) s hy, q6.st⟩
      | tup ys => exact ⟨_, tyx (fun _ _ _ h => by cases h) s hy, q6.tp⟩
      | lst ys => exact absurd rfl (nl ys)
      | scr ys =>
        rcases Bool.or_eq_true_iff.mp hc.2 with h | h
        · cases h
        · rw [Bool.and_eq_true] at h; cases h.2
      | obj c' ks ys =>
        have hc' : c' = c := by
          rcases Bool.or_eq_true_iff.mp hc.2 with h | h
          · exact of_decide_eq_true h
          · rw [Bool.and_eq_true, Bool.and_eq_true] at h; cases h.1.1
        subst hc'
        obtain ⟨b, dy, us, rfl, hb, _⟩ := rep_ob hC hy'
        exact ⟨.ref C, .base (.ins (s _ _ hb) cl i.ha i.hn i.tk i.hm), by unfold PySem.W.notFirst; rw [beq_self_eq_true]; rfl⟩
    obtain ⟨t, ty, nf⟩ := ty
    dsimp only at e2
    split at e2
    · rename_i b
      cases e2
      refine ⟨a, dx, _, t, rfl, s _ _ ha, ty, nf, spf_data (gs := [.da (.obj c kx xs), .da y]) rfl s ⟨hx, hy', trivial⟩ (by cases u <;> rfl) e1 fun v H' F' A R => ?_⟩
      cases R
      exact ⟨b, rfl, q _ H' F' A (.bl _)⟩
    · cases e2
  · cases e
theorem op_ownEq (hs : PySem.W.findIn X.kx (.ref C) "__eq__" = some (some (.ref g))) (hf : PySem.W.isFn X.kx (.ref g) = true) (hu : X.A.units + 64 < cLine)
    (F : FnOk X.prog X.w X.kx X.mg X.base CX0 k g fd ps (spF X.kx 2 f)) (hr : Room k X.A) (hb : Binds X.kx fd ps []) : OpR X (compareOp .Eq) (rOwnEq X.kx C f) := by
  intro pins s σ H x y v u Q I rx ry h
  obtain ⟨a, dx, fs, t, rfl, ha, ty, nf, sp⟩ := h
  cases rx
  obtain ⟨ox, od, J⟩ := ins_look I ha
  obtain ⟨m, hF⟩ := I.fr
  obtain ⟨P, Z, p, _⟩ := kit_of I ry ty
  show wpAny (model X.prog X.w) X.A (richCompare .Eq (.ref a) u) (EP X pins σ Q) X.xe s
  refine PySem.W.cmp_K (op := .Eq) (tb := t) (by omega) hF I.ok.mod.kin J (Z.ty _ _ I.kIn p) nf hs hf (wpAny_mono (own_run F hr hb I (show Vals [V.ref a, y] [Value.ref a, u] from .cons rfl (.cons ry .nil)) sp) (fun w s' z => ?_) fun _ _ z => z)
  obtain ⟨v, H', I', rv, b, rfl, q⟩ := z
  cases rv
  exact (show EP X pins σ Q (.bool b) s' from ⟨.bl b, H', I', rfl, q⟩)
theorem oOwnEq (hC : ClsN X.kx c C) (cl : Cls X.kx C) (i : IsiC X.kx C) (q6 : EqC X.kx C) (hs : PySem.W.findIn X.kx (.ref C) "__eq__" = some (some (.ref g))) (hf : PySem.W.isFn X.kx (.ref g) = true) (hu : X.A.units + 64 < cLine)
    (F : FnOk X.prog X.w X.kx X.mg X.base CX0 k g fd ps (spF X.kx 2 f)) (hr : Room k X.A) (hb : Binds X.kx fd ps []) : Op2 X (compareOp .Eq) (fOwnEq c f) := ⟨_, op_ownEq hs hf hu F hr hb, os_ownEq hC cl i q6⟩
end
noncomputable def cLenO (c : PySem.Str) (f : Fn) : List D → Option D := fun xs => match cLen xs with
  | some z => some z
  | none => cOwnLen c f xs
section
variable {X : Cx} {e : Expr} {ms : M (List Vl)} {f : Fn} {c : PySem.Str} {C g : Addr} {fd : FuncData} {ps : List Str} {k : Nat} {p pos : Pos}
theorem cr_or {fv : Value} {r r' : List V → Hp → VK → Prop} (h : CallR X fv r) (h' : CallR X fv r') : CallR X fv (fun vs H Q => r vs H Q ∨ r' vs H Q) := fun pins s σ H xs us Q I rx q => q.elim (h pins s σ H xs us Q I rx) (h' pins s σ H xs us Q I rx)
theorem se_lenO (hC : ClsN X.kx c C) (hs : PySem.W.findIn X.kx (.ref C) "__len__" = some (some (.ref g))) (hf : PySem.W.isFn X.kx (.ref g) = true)
    (F : FnOk X.prog X.w X.kx X.mg X.base CX0 k g fd ps (spF X.kx 1 f)) (hr : Room (k + 1) X.A) (hb : Binds X.kx fd ps [])
    (hm : X.mg "len" = none) (hg : Gl X "len") (ha : SA X [e] ms) (he : starEach [e] X.env = (false, eval e X.env) :: starEach [] X.env := by rfl) (hpl : (backTo pos (starEach [] X.env)).any (·.1) = false := by rfl) : SE X (.Call (.Name "len" p) [e] [] pos) (eBlt (cLenO c f) ms) := by
  refine se_blt (cr_or call_len (cr_ownLen hs hf F hr hb)) ?_ hg hm PySem.boot_len ha (by decide) (by decide) he hpl
  intro H F vs xs z s hx e Q q
  unfold cLenO at e
  split at e
  · rename_i z' e1
    cases e
    exact .inl (cs_len H F vs xs _ s hx e1 Q q)
  · exact .inr (cs_ownLen hC H F vs xs z s hx e Q q)
end
end Sw
namespace Sw
open PySem PySem.Spec PyProof.Rows L2
end Sw
namespace Sw
open PySem PySem.Spec PyProof.Rows L2
end Sw
namespace Sw
open PySem PySem.Spec PyProof.Rows L2
end Sw
namespace Sw
open PySem PySem.Spec PyProof.Rows L2
end Sw
namespace Sw
open PySem PySem.Spec PyProof.Rows L2
end Sw
namespace Sw
open PySem PySem.Spec PyProof.Rows L2
theorem FpOk.up {X : Cx} {pins : List (Addr × Obj)} {H : Hp} {c p : Addr} {o : HO} (h : FpOk X pins H c) (n : c ≠ p) : FpOk X pins (upd H p o) c := ⟨by rw [upd_ne n]; exact h.1, h.2⟩
end Sw
namespace Sw
open PySem PySem.Spec PyProof.Rows L2
section
variable {X : Cx} {f : Fn} {c : PySem.Str} {C g : Addr} {fd : FuncData} {ps : List Str} {k n : Nat} {a b : Expr} {ma mb : M Vl} {pos : Pos}
noncomputable def IxO (X : Cx) (b : Expr) (r : R2) : Prop :=
  ∀ (value : Expr) (pins : List (Addr × Obj)) (s : Shared) (σ : L2.St) (H : Hp) (x y : V) (v u : Value) (Q : VK), Inv X pins σ H s → RelV x v → RelV y u → r x y H Q →
    wpAny (model X.prog X.w) X.A (subscriptTail value b v u) (EP X pins σ Q) X.xe s
theorem IxO.of {r : R2} (h : IxR X r) (hs : PlainIx b) : IxO X b r := fun value pins s σ H x y v u Q I rx ry q => h value b pins s σ H x y v u Q I rx ry q (hs _ _)
theorem IxO.or {r r' : R2} (h : IxO X b r) (h' : IxO X b r') : IxO X b (fun x y H Q => r x y H Q ∨ r' x y H Q) := by
  intro value pins s σ H x y v u Q I rx ry q
  rcases q with q | q
  · exact h value pins s σ H x y v u Q I rx ry q
  · exact h' value pins s σ H x y v u Q I rx ry q
end
end Sw
namespace Sw
open PySem PySem.Spec PyProof.Rows L2
end Sw
namespace Sw
open PySem PySem.Spec PyProof.Rows L2
end Sw
namespace Sw
open L2 PySem
mutual
/-- no truth value, no instance, no script within -/
noncomputable def nbD : D → Bool
  | .bl _ => false
  | .obj _ _ _ => false
  | .scr _ => false
  | .lst xs => nbDs xs
  | .tup xs => nbDs xs
  | _ => true
noncomputable def nbDs : List D → Bool
  | [] => true
  | x :: xs => nbD x && nbDs xs
end
theorem str_mk {s t : List Nat} : ((⟨s.toArray⟩ : Str) = ⟨t.toArray⟩) ↔ s = t := by
  constructor
  · intro h
    have h2 : s.toArray = t.toArray := congrArg Str.cps h
    simpa using h2
  · intro h
    rw [h]
mutual
theorem eqv_iff : ∀ x y : D, nbD x = true → nbD y = true → (PyData.eqv (toP x) (toP y) = true ↔ x = y)
  | .non, y, _, hy => by cases y <;> simp_all [toP, PyData.eqv, nbD]
  | .int i, y, _, hy => by cases y <;> simp_all [toP, PyData.eqv, nbD]
  | .str s, y, _, hy => by
    cases y with
    | str t =>
      simp only [toP, PyData.eqv, beq_iff_eq, D.str.injEq]
      exact str_mk
    | _ => simp_all [toP, PyData.eqv, nbD]
  | .lst xs, y, hx, hy => by
    cases y with
    | lst ys =>
      have h := eqvs_iff xs ys (by simpa [nbD] using hx) (by simpa [nbD] using hy)
      simp only [toP, PyData.eqv, D.lst.injEq]
      exact h
    | _ => simp_all [toP, PyData.eqv, nbD]
  | .tup xs, y, hx, hy => by
    cases y with
    | tup ys =>
      have h := eqvs_iff xs ys (by simpa [nbD] using hx) (by simpa [nbD] using hy)
      simp only [toP, PyData.eqv, D.tup.injEq]
      exact h
    | _ => simp_all [toP, PyData.eqv, nbD]
  | .bl _, _, hx, _ => by simp [nbD] at hx
  | .obj _ _ _, _, hx, _ => by simp [nbD] at hx
  | .scr _, _, hx, _ => by simp [nbD] at hx
theorem eqvs_iff : ∀ xs ys : List D, nbDs xs = true → nbDs ys = true → (PyData.eqvAll (toPs xs) (toPs ys) = true ↔ xs = ys)
  | [], [], _, _ => by simp [toPs, PyData.eqvAll]
  | [], y :: ys, _, _ => by simp [toPs, PyData.eqvAll]
  | x :: xs, [], _, _ => by simp [toPs, PyData.eqvAll]
  | x :: xs, y :: ys, hx, hy => by
    simp only [nbDs, Bool.and_eq_true] at hx hy
    simp only [toPs, PyData.eqvAll, Bool.and_eq_true, List.cons.injEq, eqv_iff x y hx.1 hy.1, eqvs_iff xs ys hx.2 hy.2]
end
theorem eqv_dec {x y : D} {p : Prop} [Decidable p] (nx : nbD x = true) (ny : nbD y = true) (h : x = y ↔ p) : PyData.eqv (toP x) (toP y) = decide p := by
  rw [Bool.eq_iff_iff, eqv_iff x y nx ny, h, decide_eq_true_iff]
theorem eq_dec {x y : D} {p : Prop} [Decidable p] (h0 : fEqS x y = none) (hx : shD x = true) (hy : shD y = true) (nx : nbD x = true) (ny : nbD y = true) (h : x = y ↔ p) : fEq x y = some (.bl (decide p)) := by
  show orF fEqS fEqD _ _ = _
  unfold orF
  rw [h0]
  show fEqD x y = _
  unfold fEqD
  rw [if_pos (by rw [hx, hy]; rfl), eqv_dec nx ny h]
theorem nbDs_all : ∀ {xs : List D}, (∀ x ∈ xs, nbD x = true) → nbDs xs = true
  | [], _ => rfl
  | x :: xs, h => by
    show (nbD x && nbDs xs) = true
    rw [h x List.mem_cons_self, nbDs_all fun y hy => h y (List.mem_cons_of_mem _ hy)]
    rfl
theorem giv_ownEq {c : PySem.Str} {f : Fn} {x y : D} {Q : D → Prop} (hx : isOf c x = true) (hy : isOf c y = true) (q : Fv f [.da x, .da y] fun r _ => ∃ b, r = .fz (.bl b) ∧ Q (.bl b)) : Giv (fOwnEq c f x y) Q := by
  obtain ⟨r, os, e, b, rfl, q⟩ := q
  refine ⟨_, ?_, q⟩
  unfold fOwnEq
  rw [hx, hy, if_pos (show (true && (true || _)) = true from rfl), e]
  rfl
/-- own == with something that is no instance, no list and no script on the right -/
theorem giv_ownEqV {c : PySem.Str} {f : Fn} {x y : D} {Q : D → Prop} (hx : isOf c x = true) (hy : (isOf c y || (!isO y && notL y && !fOwnEq.isScr y)) = true) (q : Fv f [.da x, .da y] fun r _ => ∃ b, r = .fz (.bl b) ∧ Q (.bl b)) : Giv (fOwnEq c f x y) Q := by
  obtain ⟨r, os, e, b, rfl, q⟩ := q
  refine ⟨_, ?_, q⟩
  unfold fOwnEq
  rw [if_pos (show (isOf c x && (isOf c y || (!isO y && notL y && !fOwnEq.isScr y))) = true by rw [hx, hy]; rfl), e]
  rfl
end Sw
namespace Sw
open PySem PySem.Spec PyProof.Rows L2
section
variable {K : Kx} {G : Gd} {σ : L2.St} {H P : Hp}
/-- a value stays what it is -/
theorem VlR.ste {ρ1 ρ2 : Rho} {H1 H2 F1 F2 : Hp} {v : V} {r : Vl} (h : VlR K G P ρ1 σ H1 F1 v r) (s : Ste K G ρ1 σ H1 F1 ρ2 H2 F2) : VlR K G P ρ2 σ H2 F2 v r := by
  cases r with
  | fz x => exact (show Rep K F1 v x from h).mono s.ff
  | bw i => exact h
  | fr xs =>
    obtain ⟨a, us, e, h1, h2, h3, h4, h5⟩ := h
    refine ⟨a, us, e, s.kk a _ h1 h5, h2.mono s.ff, ?_, h4, fun i o => (s.oo i a o).elim (h5 i) fun z => by rw [h1] at z; cases z⟩
    cases e2 : F2 a with
    | none => rfl
    | some o =>
      rcases s.nf a (by rw [e2]; simp) with q | q | ⟨i, q⟩
      · exact absurd h3 q
      · rw [h1] at q; cases q
      · exact absurd q (h5 i)
theorem VlR.start {ρ : Rho} {H1 F P' : Hp} {v : V} {r : Vl} (w : ∀ b, P' b ≠ none → P b ≠ none) (h : VlR K G P ρ σ H1 F v r) : VlR K G P' ρ σ H1 F v r := by
  cases r with
  | fz x => exact h
  | bw i => exact h
  | fr xs =>
    obtain ⟨a, us, e, h1, h2, h3, h4, h5⟩ := h
    refine ⟨a, us, e, h1, h2, h3, ?_, h5⟩
    cases e2 : P' a with
    | none => rfl
    | some o => exact absurd h4 (w a (by rw [e2]; simp))
end
section
variable {K : Kx} {G : Gd} {σ : L2.St} {H P : Hp}
theorem ext_lt {α : Type} {xs : List α} {y : α} {i : Nat} (h : i < xs.length) : (xs ++ [y])[i]? = xs[i]? := List.getElem?_append_left h
/-- one more local -/
noncomputable def Gd.up (G : Gd) : Gd := { G with nl := G.nl + 1 }
theorem ow_ext {ρ : Rho} {F : Hp} {a b : Addr} {xs : List D} {i : Nat} (hl : ρ.length = σ.length) (h : Ow K H F (ρ ++ [.ow xs]) (σ ++ [some (.ref a)]) i b) : Ow K H F ρ σ i b ∨ (i = ρ.length ∧ b = a) := by
  rcases h with ⟨⟨ys, h1⟩, h2⟩ | ⟨t, u, L, h1, h2, h3, h4⟩
  rotate_left
  · have hi : i < (σ ++ [some (V.ref a)]).length := (List.getElem?_eq_some_iff.mp h2).1
    rw [List.length_append, List.length_singleton] at hi
    unfold obS at h1
    by_cases h : i < σ.length
    · rw [ext_lt (by omega)] at h1
      rw [ext_lt h] at h2
      exact .inl (.inr ⟨t, u, L, h1, h2, h3, h4⟩)
    · have e : i = ρ.length := by omega
      rw [e, List.getElem?_append_right (Nat.le_refl _), Nat.sub_self] at h1
      rcases h1 with h1 | h1 <;> cases h1
  have hi : i < (σ ++ [some (V.ref a)]).length := (List.getElem?_eq_some_iff.mp h2).1
  rw [List.length_append, List.length_singleton] at hi
  by_cases h : i < σ.length
  · refine .inl (.inl ⟨⟨ys, ?_⟩, ?_⟩)
    · rw [ext_lt (by omega)] at h1; exact h1
    · rw [ext_lt h] at h2; exact h2
  · have e : i = σ.length := by omega
    refine .inr ⟨by omega, ?_⟩
    rw [e, List.getElem?_append_right (Nat.le_refl _), Nat.sub_self] at h2
    cases h2
    rfl
theorem Wd.ext {ρ : Rho} {F : Hp} {a : Addr} {us : List V} {xs : List D} (W : Wd K G ρ σ H F) (h1 : H a = some (.lst us)) (h2 : Reps K F us xs) (h3 : F a = none) (h4 : G.H0 a = none) (h5 : ∀ i, ¬ Ow K H F ρ σ i a) : Wd K G.up (ρ ++ [.ow xs]) (σ ++ [some (.ref a)]) H F where
  len := by rw [List.length_append, List.length_append, W.len]; rfl
  gl := by rw [List.length_append, W.gl]; rfl
  sub := W.sub
  f0 := W.f0
  kp := W.kp
  nw := W.nw
  it := W.it
  sl := fun i s hs => by
    have hi : i < (ρ ++ [Sl.ow xs]).length := (List.getElem?_eq_some_iff.mp hs).1
    rw [List.length_append, List.length_singleton] at hi
    by_cases h : i < ρ.length
    · rw [ext_lt h] at hs
      have es : (σ ++ [some (V.ref a)])[i]? = σ[i]? := ext_lt (by rw [← W.len]; exact h)
      have q := W.sl i s hs
      cases s with
      | no => trivial
      | xa b dx f => exact ⟨by rw [es]; exact q.1, q.2⟩
      | d x => obtain ⟨v, e, r⟩ := q; exact ⟨v, by rw [es]; exact e, r⟩
      | ow ys => obtain ⟨b, vs, e, r⟩ := q; exact ⟨b, vs, by rw [es]; exact e, r⟩
      | io ys => obtain ⟨b, vs, e, r⟩ := q; exact ⟨b, vs, by rw [es]; exact e, r⟩
      | dc ys => obtain ⟨b, vs, e, r⟩ := q; exact ⟨b, vs, by rw [es]; exact e, r⟩
      | ob ys => obtain ⟨b, vs, e, r⟩ := q; exact ⟨b, vs, by rw [es]; exact e, r⟩
      | iob ys => obtain ⟨b, vs, e, r⟩ := q; exact ⟨b, vs, by rw [es]; exact e, r⟩
    · have e : i = ρ.length := by omega
      rw [e, List.getElem?_append_right (Nat.le_refl _), Nat.sub_self] at hs
      cases hs
      refine ⟨a, us, ?_, h1, h2, h3, h4⟩
      rw [e, W.len, List.getElem?_append_right (Nat.le_refl _), Nat.sub_self]
      rfl
  ap := fun i j b o1 o2 => by
    rcases ow_ext W.len o1 with p1 | ⟨e1, q1⟩
    · rcases ow_ext W.len o2 with p2 | ⟨e2, q2⟩
      · exact W.ap i j b p1 p2
      · exact absurd (q2 ▸ p1) (h5 i)
    · rcases ow_ext W.len o2 with p2 | ⟨e2, _⟩
      · exact absurd (q1 ▸ p2) (h5 j)
      · rw [e1, e2]
  ai := fun i b hb => by
    obtain ⟨⟨ys, z1⟩, z2⟩ := W.ai i b hb
    exact ⟨⟨ys, by rw [ext_lt (List.getElem?_eq_some_iff.mp z1).1]; exact z1⟩, by rw [ext_lt (List.getElem?_eq_some_iff.mp z2).1]; exact z2⟩
  ao := fun i b hb => by
    obtain ⟨⟨ys, z1⟩, z2⟩ := W.ao i b hb
    exact ⟨⟨ys, by rw [ext_lt (List.getElem?_eq_some_iff.mp z1).1]; exact z1⟩, by rw [ext_lt (List.getElem?_eq_some_iff.mp z2).1]; exact z2⟩
theorem dl_get {α : Type} {xs : List α} {i : Nat} {x : α} (h : xs.dropLast[i]? = some x) : xs[i]? = some x := by
  rw [List.getElem?_dropLast] at h
  split at h
  · exact h
  · cases h
theorem dl_get' {α : Type} {xs : List α} {i : Nat} (h : i < xs.length - 1) : xs.dropLast[i]? = xs[i]? := by rw [List.getElem?_dropLast, if_pos h]
theorem ow_dl {ρ : Rho} {F : Hp} {a b : Addr} {i : Nat} (h : Ow K H F ρ.dropLast σ i b) : Ow K H F ρ (σ ++ [some (.ref a)]) i b := by
  rcases h with ⟨⟨ys, h1⟩, h2⟩ | ⟨t, u, L, h1, h2, h3, h4⟩
  rotate_left
  · exact .inr ⟨t, u, L, h1.imp dl_get dl_get, by rw [ext_lt (List.getElem?_eq_some_iff.mp h2).1]; exact h2, h3, h4⟩
  refine .inl ⟨⟨ys, h1.imp dl_get (Or.imp dl_get fun ⟨zs, z⟩ => ⟨zs, dl_get z⟩)⟩, ?_⟩
  rw [ext_lt (List.getElem?_eq_some_iff.mp h2).1]
  exact h2
theorem Wd.drop {ρ ρ0 : Rho} {F H0 F0 : Hp} {a : Addr} (W0 : Wd K G ρ0 σ H0 F0) (W : Wd K G.up ρ (σ ++ [some (.ref a)]) H F) : Wd K G ρ.dropLast σ H F where
  len := by have := W.len; rw [List.length_append, List.length_singleton] at this; rw [List.length_dropLast]; omega
  gl := W0.gl
  sub := W.sub
  f0 := W.f0
  kp := W.kp
  nw := W.nw
  it := W.it
  sl := fun i s hs => by
    have q := W.sl i s (dl_get hs)
    have hi : i < ρ.dropLast.length := (List.getElem?_eq_some_iff.mp hs).1
    have hl := W.len
    rw [List.length_append, List.length_singleton] at hl
    rw [List.length_dropLast] at hi
    have es : (σ ++ [some (V.ref a)])[i]? = σ[i]? := ext_lt (by omega)
    cases s with
    | no => trivial
    | xa b dx f => exact ⟨by rw [← es]; exact q.1, q.2⟩
    | d x => obtain ⟨v, e, r⟩ := q; exact ⟨v, by rw [← es]; exact e, r⟩
    | ow ys => obtain ⟨b, vs, e, r⟩ := q; exact ⟨b, vs, by rw [← es]; exact e, r⟩
    | io ys => obtain ⟨b, vs, e, r⟩ := q; exact ⟨b, vs, by rw [← es]; exact e, r⟩
    | dc ys => obtain ⟨b, vs, e, r⟩ := q; exact ⟨b, vs, by rw [← es]; exact e, r⟩
    | ob ys => obtain ⟨b, vs, e, r⟩ := q; exact ⟨b, vs, by rw [← es]; exact e, r⟩
    | iob ys => obtain ⟨b, vs, e, r⟩ := q; exact ⟨b, vs, by rw [← es]; exact e, r⟩
  ap := fun i j b o1 o2 => W.ap i j b (ow_dl o1) (ow_dl o2)
  ai := fun i b hb => by
    obtain ⟨_, z2⟩ := W0.ai i b hb
    obtain ⟨⟨ys, z1⟩, _⟩ := W.ai i b hb
    have hl := W.len
    rw [List.length_append, List.length_singleton] at hl
    have hi := (List.getElem?_eq_some_iff.mp z2).1
    exact ⟨⟨ys, by rw [dl_get' (by omega)]; exact z1⟩, z2⟩
  ao := fun i b hb => by
    obtain ⟨_, z2⟩ := W0.ao i b hb
    obtain ⟨⟨ys, z1⟩, _⟩ := W.ao i b hb
    have hl := W.len
    rw [List.length_append, List.length_singleton] at hl
    have hi := (List.getElem?_eq_some_iff.mp z2).1
    exact ⟨⟨ys, by rw [dl_get' (by omega)]; exact z1⟩, z2⟩
end
end Sw
namespace Sw
open PySem PySem.Spec PyProof.Rows L2
end Sw
namespace Sw
open PySem PySem.Spec PyProof.Rows L2
section
variable {prog : Program} {w : World} {A : Around} {E : Value → Shared → Prop} {s : Shared}
/-- a zip's first field: nothing kept, or the tuple handed out -/
noncomputable def ZF (f0 : Value) : Prop := f0 = .none ∨ ∃ T : Nat, f0 = rawInt (T : Nat)
noncomputable abbrev ZO (h : Heap) (z TI TO : Addr) (f0 : Value) (b : Bool) : Prop := h.get? z = some { cls := .type "zip", dict := none, data := .fields #[f0, .bool b, .bool false, .ref TI, .ref TO], slots := #[] }
/-- the zip of two tuples at turn k, in any of its moods -/
noncomputable def ZS (h : Heap) (z TI TO i1 i2 l1 l2 : Addr) (k : Nat) : Prop :=
  (∃ f0 b, ZF f0 ∧ ZO h z TI TO f0 b) ∧ IsPair h TI (.ref i1) (.ref i2) ∧ (∃ x y, IsPair h TO x y) ∧ h.IsTupleIter i1 l1 k ∧ h.IsTupleIter i2 l2 k
theorem ZS.at {h h' : Heap} {z TI TO i1 i2 l1 l2 : Addr} {k : Nat} (st : ZS h z TI TO i1 i2 l1 l2 k) (kp : ∀ c ∈ [z, TI, TO, i1, i2], ∀ o, h.get? c = some o → h'.get? c = some o) : ZS h' z TI TO i1 i2 l1 l2 k := by
  obtain ⟨⟨f0, b, hf, hz⟩, hTI, ⟨x, y, hTO⟩, h1, h2⟩ := st
  exact ⟨⟨f0, b, hf, kp z (by simp) _ hz⟩, kp TI (by simp) _ hTI, ⟨x, y, kp TO (by simp) _ hTO⟩, h1.at fun o q => kp i1 (by simp) o q, h2.at fun o q => kp i2 (by simp) o q⟩
end
end Sw
namespace Sw
open PySem PySem.Spec PyProof.Rows L2
/-- what stands under a key -/
noncomputable def dGet (ps : List (D × D)) (k : NestedKey) : Option D := (ps.find? fun p => decide (nkD p.1 = some k)).map (·.2)
noncomputable def dPut (ps : List (D × D)) (kd : D) (k : NestedKey) (v : D) : List (D × D) :=
  if (dGet ps k).isSome = true then ps.map (fun p => if nkD p.1 = some k then (p.1, v) else p) else ps ++ [(kd, v)]
section
variable {P : Program} {w : World} {K : Kx} {F H : Hp} {h : Heap}
theorem DcR.len : ∀ {xs : List (NestedKey × Addr × Value)} {ps : List (D × D)}, DcR K F xs ps → xs.length = ps.length
  | [], [], _ => rfl
  | _ :: _, _ :: _, r => by rw [List.length_cons, List.length_cons, DcR.len r.2]
  | [], _ :: _, r => r.elim
  | _ :: _, [], r => r.elim
theorem DcR.get : ∀ {xs : List (NestedKey × Addr × Value)} {ps : List (D × D)} (k : NestedKey), DcR K F xs ps → (atKey xs k).isSome = (dGet ps k).isSome ∧ ∀ d, dGet ps k = some d → ∃ b u v, atKey xs k = some (b, u) ∧ RelV v u ∧ Rep K F v d
  | [], [], k, _ => ⟨rfl, fun d h => by simp [dGet] at h⟩
  | x :: xs, p :: ps, k, r => by
    obtain ⟨⟨r1, r2, r3, v, r4, r5⟩, r⟩ := r
    obtain ⟨h1, h2⟩ := DcR.get k r
    by_cases e : x.1 = k
    · have e1 : atKey (x :: xs) k = some x.2 := by simp [atKey, e]
      have e2 : dGet (p :: ps) k = some p.2 := by simp [dGet, r1, e]
      rw [e1, e2]
      exact ⟨rfl, fun d hd => by cases hd; exact ⟨x.2.1, x.2.2, v, rfl, r4, r5⟩⟩
    · have e1 : atKey (x :: xs) k = atKey xs k := by simp [atKey, e]
      have e2 : dGet (p :: ps) k = dGet ps k := by simp [dGet, r1, e]
      rw [e1, e2]
      exact ⟨h1, h2⟩
  | [], _ :: _, _, r => r.elim
  | _ :: _, [], _, r => r.elim
theorem DcR.snoc {k : NestedKey} {b : Addr} {u : Value} {v : V} {kd d : D} (hk : nkD kd = some k) (hd : k.depth ≤ 8) (rk : Rep K F (.ref b) kd) (rv : RelV v u) (r2 : Rep K F v d) : ∀ {xs : List (NestedKey × Addr × Value)} {ps : List (D × D)}, DcR K F xs ps → DcR K F (xs ++ [(k, b, u)]) (ps ++ [(kd, d)])
  | [], [], _ => ⟨⟨hk, hd, rk, v, rv, r2⟩, trivial⟩
  | _ :: _, _ :: _, r => ⟨r.1, DcR.snoc hk hd rk rv r2 r.2⟩
  | [], _ :: _, r => r.elim
  | _ :: _, [], r => r.elim
theorem DcR.repl {k : NestedKey} {u : Value} {v : V} {d : D} (rv : RelV v u) (r2 : Rep K F v d) : ∀ {xs : List (NestedKey × Addr × Value)} {ps : List (D × D)}, DcR K F xs ps → DcR K F (xs.map (putAt k u)) (ps.map fun p => if nkD p.1 = some k then (p.1, d) else p)
  | [], [], _ => trivial
  | x :: xs, p :: ps, r => by
    refine ⟨?_, DcR.repl rv r2 r.2⟩
    obtain ⟨⟨q1, q2, q3, q4⟩, _⟩ := r
    dsimp only
    by_cases e : x.1 = k
    · rw [putAt, if_pos e, if_pos (by rw [q1, e])]
      exact ⟨q1, q2, q3, v, rv, r2⟩
    · rw [putAt, if_neg e, if_neg (by rw [q1]; simpa using e)]
      exact ⟨q1, q2, q3, q4⟩
  | [], _ :: _, r => r.elim
  | _ :: _, [], r => r.elim
theorem DcR.put {k : NestedKey} {b : Addr} {u : Value} {v : V} {kd d : D} {xs : List (NestedKey × Addr × Value)} {ps : List (D × D)} (r : DcR K F xs ps) (hk : nkD kd = some k) (hd : k.depth ≤ 8) (rk : Rep K F (.ref b) kd) (rv : RelV v u) (r2 : Rep K F v d) : DcR K F (storedH xs k b u) (dPut ps kd k d) := by
  unfold storedH dPut
  rw [(r.get k).1]
  by_cases e : (dGet ps k).isSome = true
  · rw [if_pos e, if_pos e]
    exact r.repl rv r2
  · rw [if_neg e, if_neg e]
    exact r.snoc hk hd rk rv r2
end
end Sw
namespace Sw
open PySem PySem.Spec PyProof.Rows L2
end Sw
namespace Sw
open PySem PySem.Spec PyProof.Rows L2
/-- the law's promise, whatever the world -/
noncomputable def spL (K : PySem.W.Frag) (f : Fn) : Sp := fun vs H Q E => ∀ w : World, spF ⟨K, w⟩ 1 f vs H Q E
end Sw
namespace Sw
open PySem PySem.Spec PyProof.Rows L2
end Sw
namespace Sw
open PySem PySem.Spec PyProof.Rows L2
end Sw
namespace Sw
open PySem PySem.Spec PyProof.Rows L2
end Sw
namespace Sw
open PySem PySem.Spec PyProof.Rows L2
end Sw
namespace Sw
open PySem PySem.Spec PyProof.Rows L2
end Sw
namespace Sw
open PySem PySem.Spec PyProof.Rows L2
noncomputable def EntD (P : Params) : List DictEntry → List (List Nat × List Nat) → Prop
  | [], [] => True
  | e :: es, kv :: kvs => (∃ (x y : PySem.Str) (t u : Tok), e.key = .str x t ∧ x.cps.toList = kv.1 ∧ e.val = .str y u ∧ y.cps.toList = kv.2 ∧ e.hash = PyData.keyHash P x) ∧ EntD P es kvs
  | _, _ => False
theorem cps_inj {x y : PySem.Str} (h : x.cps.toList = y.cps.toList) : x = y := by rw [← str_cps x, ← str_cps y, h]
theorem EntD.find {P : Params} {z : PySem.Str} {cs : List Nat} (hz : z.cps.toList = cs) : ∀ {es : List DictEntry} {kvs : List (List Nat × List Nat)}, EntD P es kvs →
    match kvs.lookup cs with
    | some v => ∃ (y : PySem.Str) (u : Tok), ((es.find? fun e => Value.isStrOf z e.key).map (·.val)) = some (.str y u) ∧ y.cps.toList = v
    | none => ((es.find? fun e => Value.isStrOf z e.key).map (·.val)) = none
  | [], [], _ => rfl
  | e :: es, (k, v) :: kvs, ⟨⟨x, y, t, u, h1, h2, h3, h4, _⟩, r⟩ => by
    have ih := EntD.find hz r
    dsimp only at h2 h4
    have hk : Value.isStrOf z e.key = (x == z) := by rw [h1]; rfl
    rw [List.find?_cons, hk]
    by_cases q : x = z
    · have : (cs == k) = true := by rw [← hz, ← h2, q]; exact beq_self_eq_true _
      rw [List.lookup_cons, this, show (x == z) = true by rw [q]; exact beq_self_eq_true _]
      exact ⟨y, u, by rw [← h3]; rfl, h4⟩
    · have n1 : (cs == k) = false := by
        cases w : cs == k with
        | false => rfl
        | true => exact absurd (cps_inj ((h2.trans (eq_of_beq w).symm).trans hz.symm)) q
      have n2 : (x == z) = false := by
        cases w : x == z with
        | false => rfl
        | true => exact absurd (eq_of_beq w) q
      rw [List.lookup_cons, n1, n2]
      exact ih
  | [], _ :: _, h => h.elim
  | _ :: _, [], h => h.elim
end Sw
namespace Sw
open PySem PySem.Spec PyProof.Rows L2
section
variable {X : Cx} {e : Expr} {me : M Vl} {te : TE} {pos : Pos}
noncomputable def fRevT : D → Option D
  | .tup xs => some (.tup xs.reverse)
  | _ => none
@[simp] theorem r_revT {xs : List D} : fRevT (.tup xs) = some (.tup xs.reverse) := rfl
end
end Sw
namespace Sw
open PySem PySem.Spec PyProof.Rows L2
end Sw
namespace Sw
open PySem PySem.Spec PyProof.Rows L2
end Sw
namespace Sw
open PySem PySem.Spec PyProof.Rows L2
noncomputable def EntR (P : Params) : List DictEntry → List (List Nat × Addr) → Prop
  | [], [] => True
  | e :: es, kv :: kvs => (∃ (x : PySem.Str) (t : Tok), e.key = .str x t ∧ x.cps.toList = kv.1 ∧ e.val = .ref kv.2 ∧ e.hash = PyData.keyHash P x) ∧ EntR P es kvs
  | _, _ => False
theorem EntR.find {P : Params} {z : PySem.Str} {cs : List Nat} (hz : z.cps.toList = cs) : ∀ {es : List DictEntry} {kvs : List (List Nat × Addr)}, EntR P es kvs →
    ((es.find? fun e => Value.isStrOf z e.key).map (·.val)) = (kvs.lookup cs).map Value.ref
  | [], [], _ => rfl
  | e :: es, (k, v) :: kvs, ⟨⟨x, t, h1, h2, h3, _⟩, r⟩ => by
    have ih := EntR.find hz r
    dsimp only at h2 h3
    have hk : Value.isStrOf z e.key = (x == z) := by rw [h1]; rfl
    rw [List.find?_cons, hk]
    by_cases q : x = z
    · have : (cs == k) = true := by rw [← hz, ← h2, q]; exact beq_self_eq_true _
      rw [List.lookup_cons, this, show (x == z) = true by rw [q]; exact beq_self_eq_true _]
      show some e.val = some (Value.ref v)
      rw [h3]
    · have n1 : (cs == k) = false := by
        cases w : cs == k with
        | false => rfl
        | true => exact absurd (cps_inj ((h2.trans (eq_of_beq w).symm).trans hz.symm)) q
      have n2 : (x == z) = false := by
        cases w : x == z with
        | false => rfl
        | true => exact absurd (eq_of_beq w) q
      rw [List.lookup_cons, n1, n2]
      exact ih
  | [], _ :: _, h => h.elim
  | _ :: _, [], h => h.elim
/-- at T: a tuple of the module that holds the defs at the addresses -/
structure KRt (K : Kx) (T : Addr) (fas : List Addr) : Prop where
  ex : ∃ (o : Obj) (its : Array Value) (n : Nat), K.fr.lookup T = some o ∧ o.cls = .type "tuple" ∧ o.data = .seq its n ∧ its.size ≤ sizeLine ∧ its.toList = fas.map Value.ref
/-- a def that a table names -/
structure Rle (P : Program) (w : World) (K : Kx) (mg : PySem.Str → Option Value) (base : Heap) (k n : Nat) (fa : Addr) (f : Fn) : Prop where
  ex : ∃ (fd : FuncData) (ps : List PySem.Str), FnOk P w K mg base CX0 k fa fd ps (spF K n f) ∧ PySem.W.keepIn K (.ref fa) = true ∧ Binds K fd ps []
  hn : ∀ gs z, f gs = some z → gs.length = n
noncomputable def RleL (P : Program) (w : World) (K : Kx) (mg : PySem.Str → Option Value) (base : Heap) (k n : Nat) : List Addr → List Fn → Prop
  | [], [] => True
  | a :: as, f :: fs => Rle P w K mg base k n a f ∧ RleL P w K mg base k n as fs
  | _, _ => False
theorem RleL.len {P : Program} {w : World} {K : Kx} {mg : PySem.Str → Option Value} {base : Heap} {k n : Nat} : ∀ {as : List Addr} {fs : List Fn}, RleL P w K mg base k n as fs → as.length = fs.length
  | [], [], _ => rfl
  | _ :: _, _ :: _, h => by rw [List.length_cons, List.length_cons, h.2.len]
  | [], _ :: _, h => h.elim
  | _ :: _, [], h => h.elim
theorem RleL.get {P : Program} {w : World} {K : Kx} {mg : PySem.Str → Option Value} {base : Heap} {k n : Nat} : ∀ {as : List Addr} {fs : List Fn} {i : Nat} (h1 : i < as.length) (h2 : i < fs.length), RleL P w K mg base k n as fs → Rle P w K mg base k n as[i] fs[i]
  | _ :: _, _ :: _, 0, _, _, h => h.1
  | _ :: as, _ :: fs, i + 1, h1, h2, h => RleL.get (as := as) (fs := fs) (i := i) (by simpa using h1) (by simpa using h2) h.2
/-- the table, key for key -/
noncomputable def RTl (P : Program) (w : World) (K : Kx) (mg : PySem.Str → Option Value) (base : Heap) (k n : Nat) : List (List Nat × Addr) → List (List Nat × List Fn) → Prop
  | [], [] => True
  | (c, T) :: kvs, (c', fs) :: tbl => c = c' ∧ (∃ fas, KRt K T fas ∧ RleL P w K mg base k n fas fs) ∧ RTl P w K mg base k n kvs tbl
  | _, _ => False
theorem RTl.some {P : Program} {w : World} {K : Kx} {mg : PySem.Str → Option Value} {base : Heap} {k n : Nat} {c : List Nat} {T : Addr} : ∀ {kvs : List (List Nat × Addr)} {tbl : List (List Nat × List Fn)}, RTl P w K mg base k n kvs tbl → kvs.lookup c = some T → ∃ fas fs, KRt K T fas ∧ tbl.lookup c = some fs ∧ RleL P w K mg base k n fas fs
  | [], [], _, h => by cases h
  | (a, A) :: kvs, (b, fs) :: tbl, ⟨e, ⟨fas, h1, h2⟩, r⟩, h => by
    subst e
    rw [List.lookup_cons] at h ⊢
    cases q : c == a with
    | true => rw [q] at h; cases h; exact ⟨fas, fs, h1, rfl, h2⟩
    | false => rw [q] at h; exact RTl.some r h
  | [], _ :: _, h, _ => h.elim
  | _ :: _, [], h, _ => h.elim
theorem RTl.none {P : Program} {w : World} {K : Kx} {mg : PySem.Str → Option Value} {base : Heap} {k n : Nat} {c : List Nat} : ∀ {kvs : List (List Nat × Addr)} {tbl : List (List Nat × List Fn)}, RTl P w K mg base k n kvs tbl → kvs.lookup c = none → tbl.lookup c = none
  | [], [], _, _ => rfl
  | (a, A) :: kvs, (b, fs) :: tbl, ⟨e, _, r⟩, h => by
    subst e
    rw [List.lookup_cons] at h ⊢
    cases q : c == a with
    | true => rw [q] at h; cases h
    | false => rw [q] at h; exact RTl.none r h
  | [], _ :: _, h, _ => h.elim
  | _ :: _, [], h, _ => h.elim
end Sw
namespace Sw
open PySem PySem.Spec PyProof.Rows L2
end Sw
namespace PySem
open Builtin Builtin.List
end PySem
namespace Sw
open PySem PySem.Spec PyProof.Rows L2
end Sw
namespace Sw
open PySem PySem.Spec PyProof.Rows L2
end Sw
namespace Sw
open PySem PySem.Spec PyProof.Rows L2
end Sw
namespace Sw
open PySem PySem.Spec PyProof.Rows L2
mutual
/-- a thing as it reads now -/
noncomputable def otD : Ot → D
  | .da x => x
  | .li ts => .lst (otDs ts)
  | .ins c ks ts => .obj c ks (otDs ts)
noncomputable def otDs : List Ot → List D
  | [] => []
  | t :: ts => otD t :: otDs ts
end
mutual
theorem OtR.rep {K : Kx} {H F F' : Hp} (e : Same F F') : ∀ {v : V} {t : Ot} {L : List Addr}, OtR K H F v t L → (∀ b ∈ L, ∀ o, H b = some o → F' b = some o) → Rep K F' v (otD t)
  | _, _, _, .da r, _ => by unfold otD; exact r.mono e
  | _, _, _, .li h r, q => by unfold otD; exact .lst (q _ List.mem_cons_self _ h) (OtRs.rep e r fun b hb => q b (List.mem_cons_of_mem _ hb))
  | _, _, _, .ins h1 h2 h3 r, q => by unfold otD; exact .obj h1 (q _ List.mem_cons_self _ h2) h3 (OtRs.rep e r fun b hb => q b (List.mem_cons_of_mem _ hb))
theorem OtRs.rep {K : Kx} {H F F' : Hp} (e : Same F F') : ∀ {vs : List V} {ts : List Ot} {L : List Addr}, OtRs K H F vs ts L → (∀ b ∈ L, ∀ o, H b = some o → F' b = some o) → Reps K F' vs (otDs ts)
  | _, _, _, .nil, _ => by unfold otDs; exact .nil
  | _, _, _, .cons r r2, q => by unfold otDs; exact .cons (OtR.rep e r fun b hb => q b (List.mem_append_left _ hb)) (OtRs.rep e r2 fun b hb => q b (List.mem_append_right _ hb))
end
section
variable {K : Kx} {G : Gd} {ρ : Rho} {σ : L2.St} {H F : Hp}
/-- F with the objects of L -/
noncomputable def frF (F H : Hp) (L : List Addr) : Hp := fun b => if b ∈ L then H b else F b
/-- what a slot that owns nothing of L says, once L is frozen -/
theorem SlR.frF {L : List Addr} {j : Nat} {s : Sl} (hs : ρ[j]? = some s) (ss : Same F (frF F H L)) (no : ∀ b ∈ L, ¬ Ow K H F ρ σ j b) (q : SlR K G σ H F j s) : SlR K G σ H (Sw.frF F H L) j s := by
  have nb : ∀ {b : Addr}, Ow K H F ρ σ j b → F b = none → Sw.frF F H L b = none := fun {b} o h => by
    unfold Sw.frF
    rw [if_neg fun z => no b z o]
    exact h
  cases s with
  | no => trivial
  | xa b dx f => exact ⟨q.1, q.2.mono ss⟩
  | d x => obtain ⟨v, e, r⟩ := q; exact ⟨v, e, r.mono ss⟩
  | ow ys => obtain ⟨c, us, e, p1, p2, p3, p4⟩ := q; exact ⟨c, us, e, p1, p2.mono ss, nb (.inl ⟨⟨ys, .inl hs⟩, e⟩) p3, p4⟩
  | io ys => obtain ⟨c, us, e, p1, p2, p3, p4⟩ := q; exact ⟨c, us, e, p1, p2.mono ss, nb (.inl ⟨⟨ys, .inr (.inl hs)⟩, e⟩) p3, p4⟩
  | dc ys => obtain ⟨c, us, e, p1, p2, p3, p4⟩ := q; exact ⟨c, us, e, p1, p2.mono ss, nb (.inl ⟨⟨[], .inr (.inr ⟨ys, hs⟩)⟩, e⟩) p3, p4⟩
  | ob t => obtain ⟨v, M, e, r, nd, q⟩ := q; exact ⟨v, M, e, r.frame ss fun _ _ _ ho => ho, nd, fun b hb => ⟨nb (.inr ⟨t, v, M, .inl hs, e, r, hb⟩) (q b hb).1, (q b hb).2⟩⟩
  | iob t => obtain ⟨v, M, e, r, nd, q⟩ := q; exact ⟨v, M, e, r.frame ss fun _ _ _ ho => ho, nd, fun b hb => ⟨nb (.inr ⟨t, v, M, .inr hs, e, r, hb⟩) (q b hb).1, (q b hb).2⟩⟩
/-- a thing of one's own becomes a datum -/
theorem Wd.frzO {i : Nat} {t : Ot} (W : Wd K G ρ σ H F) (h : ρ[i]? = some (.ob t)) : ∃ F', Ste K G ρ σ H F (ρ.set i (.d (otD t))) H F' := by
  obtain ⟨v, L, e, r, nd, q⟩ := W.sl i _ h
  have hi : i < ρ.length := (List.getElem?_eq_some_iff.mp h).1
  have ss : Same F (frF F H L) := fun b x ex => by
    unfold frF
    rw [if_neg fun z => by rw [(q b z).1] at ex; cases ex]
    exact ex
  have own : ∀ b ∈ L, Ow K H F ρ σ i b := fun b hb => .inr ⟨t, v, L, .inl h, e, r, hb⟩
  have old : ∀ j b, Ow K H (frF F H L) (ρ.set i (.d (otD t))) σ j b → j ≠ i ∧ Ow K H F ρ σ j b := fun j b o => by
    rcases o with ⟨⟨ys, o1⟩, o2⟩ | ⟨t', u, M, o1, o2, o3, o4⟩
    · have ne : j ≠ i := fun z => by
        subst z
        rw [List.getElem?_set_self hi] at o1
        rcases o1 with o1 | o1 | ⟨zs, o1⟩ <;> cases o1
      rw [List.getElem?_set_ne (Ne.symm ne)] at o1
      exact ⟨ne, .inl ⟨⟨ys, o1⟩, o2⟩⟩
    · unfold obS at o1
      have ne : j ≠ i := fun z => by
        subst z
        rw [List.getElem?_set_self hi] at o1
        rcases o1 with o1 | o1 <;> cases o1
      rw [List.getElem?_set_ne (Ne.symm ne)] at o1
      exact ⟨ne, (W.ob_same o1 o2 o3 fun _ _ _ ho => ho).2 b o4⟩
  refine ⟨frF F H L, ⟨by rw [List.length_set]; exact W.len, W.gl, fun b x ex => ?_, W.f0.trans ss, W.kp, fun b z => ?_, W.it, fun j s z => ?_, fun j k b o1 o2 => W.ap j k b (old j b o1).2 (old k b o2).2, fun j b z => ?_, fun j b z => ?_⟩, ss, fun _ _ z _ => z, fun b z => ?_, fun j b o => .inl (old j b o).2, fun _ z => z⟩
  · unfold frF at ex
    split at ex
    · exact ex
    · exact W.sub _ _ ex
  · unfold frF at z
    split at z
    · rename_i hb; exact .inr (q b hb).2
    · exact W.nw b z
  · by_cases ne : j = i
    · subst ne
      rw [List.getElem?_set_self hi] at z
      cases z
      exact ⟨v, e, r.rep ss fun b hb o ho => by unfold frF; rw [if_pos hb]; exact ho⟩
    · rw [List.getElem?_set_ne (Ne.symm ne)] at z
      exact (W.sl j s z).frF z ss fun b hb o => ne (W.ap j i b o (own b hb))
  · obtain ⟨⟨ys, z1⟩, z2⟩ := W.ai j b z
    have ne : j ≠ i := fun y => by rw [y, h] at z1; cases z1
    exact ⟨⟨ys, by rw [List.getElem?_set_ne (Ne.symm ne)]; exact z1⟩, z2⟩
  · obtain ⟨⟨ys, z1⟩, z2⟩ := W.ao j b z
    have ne : j ≠ i := fun y => by rw [y, h] at z1; cases z1
    exact ⟨⟨ys, by rw [List.getElem?_set_ne (Ne.symm ne)]; exact z1⟩, z2⟩
  · unfold frF at z
    split at z
    · rename_i hb; exact .inr (.inr ⟨i, own b hb⟩)
    · exact .inl z
end
/-- a statement ahead of which the thing in slot i is frozen -/
noncomputable def sFrz (i : Nat) (m : S) : S := fun ρ => match ρ[i]? with
  | some (.ob t) => m (ρ.set i (.d (otD t)))
  | _ => none
theorem ss_frz {X : Cx} {Wx : WX} {st : Stmt} {i : Nat} {m : S} (h : SSW X Wx st m) : SSW X Wx st (sFrz i m) := by
  refine ps_weak h fun D σ H ⟨G, ρ, F, fl, ρ', W, hm, q⟩ => ?_
  unfold sFrz at hm
  split at hm
  · rename_i t ht
    obtain ⟨F', s⟩ := W.frzO ht
    exact ⟨G, _, F', fl, ρ', s.wd, hm, fun σ' H' F2 W2 ff => q σ' H' F2 W2 (s.ff.trans ff)⟩
  · cases hm
noncomputable def VoR (K : Kx) (P : Hp) (ρ : Rho) (σ : L2.St) (H F : Hp) (v : V) (t : Ot) : Prop := ∃ L, OtR K H F v t L ∧ L.Nodup ∧ ∀ b ∈ L, F b = none ∧ P b = none ∧ ∀ i, ¬ Ow K H F ρ σ i b
noncomputable def tMOb (K : Kx) (m : M Ot) : TE := fun σ H Q => ∃ G ρ F r ρ', Wd K G ρ σ H F ∧ m ρ = some (r, ρ') ∧ ∀ v H' F', Ste K G ρ σ H F ρ' H' F' → VoR K H ρ' σ H' F' v r → Q v H'
noncomputable def asgO (i : Nat) (t : Ot) (ρ : Rho) : Option Rho := match ρ[i]? with
  | some (.io _) => none
  | some (.iob _) => none
  | none => none
  | some _ => some (ρ.set i (.ob t))
noncomputable def sAsgO (i : Nat) (m : M Ot) : S := fun ρ => (m ρ).bind fun p => (asgO i p.1 p.2).bind fun ρ2 => some (.nx, ρ2)
theorem asgO_ok {K : Kx} {G : Gd} {ρ ρ' : Rho} {σ : L2.St} {H F P : Hp} {v : V} {i : Nat} {t : Ot} (W : Wd K G ρ σ H F) (hP : ∀ a, P a = none → G.H0 a = none) (R : VoR K P ρ σ H F v t) (e : asgO i t ρ = some ρ') : Wd K G ρ' (σ.set i (some v)) H F := by
  unfold asgO at e
  split at e
  · cases e
  · cases e
  · cases e
  · rename_i s0 nio niob h0
    cases e
    have hi : i < ρ.length := (List.getElem?_eq_some_iff.mp h0).1
    have hiσ : i < σ.length := by rw [← W.len]; exact hi
    obtain ⟨L, r, nd, q⟩ := R
    exact W.set h0 (fun xs z => nio xs z) (fun _ z => nomatch z) ⟨v, L, List.getElem?_set_self hiσ, r, nd, fun b hb => ⟨(q b hb).1, hP b (q b hb).2.1⟩⟩ (fun _ _ z => nomatch z)
      (nob := fun t' L' b z r' hb j _ => by cases z; have := OtR.uniq r r'; subst this; exact (q b hb).2.2 j) (nob0 := fun xs z => niob xs z)
section
variable {X : Cx} {Wx : WX} {e : Expr} {mo : M Ot} {pos pos' : Pos}
theorem sasgO_of {K : Kx} {i : Nat} {D : Ends} {σ : L2.St} {H : Hp} (h : tSW K Wx (sAsgO i mo) D σ H) : tAsg (tMOb K mo) (gName i) D σ H := by
  obtain ⟨G, ρ, F, fl, ρ', W, hm, q⟩ := h
  unfold sAsgO at hm
  obtain ⟨⟨r, ρ1⟩, e1, hm⟩ := Option.bind_eq_some_iff.mp hm
  obtain ⟨ρ2, e2, hm⟩ := Option.bind_eq_some_iff.mp hm
  cases hm
  refine ⟨G, ρ, F, r, ρ1, W, e1, fun v H1 F1 s1 R => ?_⟩
  exact q (σ.set i (some v)) H1 F1 (asgO_ok s1.wd (fun a h => W.h0 h) R e2) s1.ff
end
noncomputable def lcR (vs : List Nat) (g : D → Rho → Option Rho) (t : M Bool) (e : M Vl) : List D → List (List D) → M (List (List D))
  | [], acc, ρ => some (acc, ρ)
  | x :: xs, acc, ρ => (g x ρ).bind fun ρ1 => (t ρ1).bind fun p => if p.1 = true then (e p.2).bind fun q => match q.1 with
    | .fr ys => if acc.length < lim then lcR vs g t e xs (acc ++ [ys]) (wipeR q.2 vs) else none
    | _ => none else lcR vs g t e xs acc (wipeR p.2 vs)
noncomputable def rowO (ys : List D) : Ot := .li (ys.map .da)
noncomputable def rowsO (rs : List (List D)) : Ot := .li (rs.map rowO)
noncomputable def eRows (vs : List Nat) (src : M (List D)) (g : D → Rho → Option Rho) (t : M Bool) (e : M Vl) : M Ot := fun ρ => (src ρ).bind fun p => if (vs.all fun v => plainSl p.2[v]?) = true then (lcR vs g t e p.1 [] (wipeR p.2 vs)).bind fun q => some (rowsO q.1, backR p.2 q.2 vs) else none
theorem otrs_da {K : Kx} {H F : Hp} : ∀ {vs : List V} {ys : List D}, Reps K F vs ys → OtRs K H F vs (ys.map .da) []
  | _, _, .nil => .nil
  | _, _, .cons r t => by
    have := OtRs.cons (OtR.da r) (otrs_da (H := H) t)
    rwa [List.append_nil] at this
theorem OtRs.snoc {K : Kx} {H F : Hp} {v : V} {t : Ot} {M : List Addr} (r : OtR K H F v t M) : ∀ {vs : List V} {ts : List Ot} {L : List Addr}, OtRs K H F vs ts L → OtRs K H F (vs ++ [v]) (ts ++ [t]) (L ++ M)
  | _, _, _, .nil => by
    have := OtRs.cons r OtRs.nil
    rwa [List.append_nil] at this
  | _, _, _, .cons (L := L1) r1 r2 => by
    have := OtRs.cons r1 (OtRs.snoc r r2)
    rw [← List.append_assoc] at this
    exact this
theorem OtRs.len {K : Kx} {H F : Hp} : ∀ {vs : List V} {ts : List Ot} {L : List Addr}, OtRs K H F vs ts L → vs.length = ts.length
  | _, _, _, .nil => rfl
  | _, _, _, .cons _ r => by rw [List.length_cons, List.length_cons, OtRs.len r]
section
variable {K : Kx} {is vs : List Nat} {src : M (List D)} {g : D → Rho → Option Rho} {t : M Bool} {e : M Vl}
theorem tlcR_of (sub : ∀ i ∈ is, i ∈ vs) (gok : GOk is g) {σ : L2.St} {H : Hp} {Q : VK} (h : tMOb K (eRows vs src g t e) σ H Q) : tLc (tI K src) (tG K is g) (tMT K t) (tM K e) vs σ H Q := by
  obtain ⟨G, ρ, F, r, ρ', W, hm, q⟩ := h
  unfold eRows at hm
  obtain ⟨⟨xs, ρ1⟩, e1, hm⟩ := Option.bind_eq_some_iff.mp hm
  split at hm
  · rename_i hpl
    have pl : ∀ v ∈ vs, plainSl ρ1[v]? = true := fun v hv => List.all_eq_true.mp hpl v hv
    obtain ⟨⟨accE, ρE⟩, e2, hm⟩ := Option.bind_eq_some_iff.mp hm
    cases hm
    refine ⟨G, ρ, F, xs, ρ1, W, e1, fun J H1 F1 s1 jr D hD => ?_⟩
    have W1 := s1.wd
    have Ww : Wd K G (wipeR ρ1 vs) (wipe σ vs) H1 F1 := wd_wipe W1 (fun j hj => wipe_ne hj) (wipe_length σ vs) fun v hv s es => ⟨(plain_of (pl v hv) s es).1, (plain_of2 (pl v hv) s es).2⟩
    have fD : F1 D = none := W1.sub.free hD
    have A : Alc F1 H1 F1 (upd H1 D (.lst [])) := ⟨Same.refl _, W1.sub.trans (same_upd hD), same_upd hD, fun _ h => .inl h⟩
    have s0 := Ww.alc A
    have now0 : ∀ i, ¬ Ow K (upd H1 D (.lst [])) F1 (wipeR ρ1 vs) (wipe σ vs) i D := Ww.not_ow hD (same_upd hD)
    -- the rows that are made stand apart
    refine ⟨fun i m H2 => m = xs.length - i ∧ i ≤ xs.length ∧ ∃ ρi Fi acc us Ls, Ste K G (wipeR ρ1 vs) (wipe σ vs) H1 F1 ρi H2 Fi ∧ H2 D = some (.lst us) ∧ OtRs K H2 Fi us (acc.map rowO) Ls ∧ (D :: Ls).Nodup ∧ (∀ b ∈ D :: Ls, Fi b = none ∧ H1 b = none ∧ ∀ i, ¬ Ow K H2 Fi ρi (wipe σ vs) i b) ∧ (∀ v ∈ vs, ∀ s, ρi[v]? = some s → s = .no) ∧ lcR vs g t e (xs.drop i) acc ρi = some (accE, ρE),
      ⟨xs.length, by simp, Nat.zero_le _, wipeR ρ1 vs, F1, [], [], [], s0, upd_same, .nil, by simp, fun b hb => (by rw [List.mem_singleton.mp hb]; exact ⟨fD, hD, now0⟩), fun v hv s es => wipeR_mem hv es, e2⟩, ?_⟩
    rintro i m H2 ⟨rfl, hi, ρi, Fi, acc, us, Ls, si, hDi, ri, ndi, oi, pi, hf⟩
    have Wi := si.wd
    have some2 : ∀ b ∈ D :: Ls, ∃ o, H2 b = some o := fun b hb => by
      rcases List.mem_cons.mp hb with rfl | hb
      · exact ⟨_, hDi⟩
      · obtain ⟨o, ho, _⟩ := OtRs.there ri b hb
        exact ⟨o, ho⟩
    by_cases hlt : i < xs.length
    · refine .inr ⟨jr.go i H2 (si.ff.trans Wi.sub) hlt, fun H' => ∃ ρi Fi acc us Ls, Ste K G (wipeR ρ1 vs) (wipe σ vs) H1 F1 ρi H' Fi ∧ H' D = some (.lst us) ∧ OtRs K H' Fi us (acc.map rowO) Ls ∧ (D :: Ls).Nodup ∧ (∀ b ∈ D :: Ls, Fi b = none ∧ H1 b = none ∧ ∀ i, ¬ Ow K H' Fi ρi (wipe σ vs) i b) ∧ (∀ v ∈ vs, ∀ s, ρi[v]? = some s → s = .no) ∧ lcR vs g t e (xs.drop (i + 1)) acc ρi = some (accE, ρE),
        fun H' ⟨ρj, Fj, acj, uj, Lj, a1, a2, a3, a4, a5, a6, a7⟩ => ⟨xs.length - (i + 1), by omega, rfl, hlt, ρj, Fj, acj, uj, Lj, a1, a2, a3, a4, a5, a6, a7⟩, fun x H' y => ?_⟩
      obtain ⟨F3, d, A3, hd, Rd⟩ := jr.yl i H2 Fi x H' hlt si.ff Wi.sub y
      have s3 := Wi.alc A3
      have ed : xs[i] = d := by
        rw [List.getElem?_eq_getElem hlt] at hd
        exact Option.some.inj hd
      rw [List.drop_eq_getElem_cons hlt, ed] at hf
      unfold lcR at hf
      obtain ⟨ρ4, e4, hf⟩ := Option.bind_eq_some_iff.mp hf
      obtain ⟨⟨b5, ρ5⟩, e5, hf⟩ := Option.bind_eq_some_iff.mp hf
      refine ⟨G, ρi, F3, d, ρ4, s3.wd, Rd, e4, fun σ4 W4 m4 => ⟨wipe_of_mod sub m4, ?_⟩⟩
      obtain ⟨g1, g2⟩ := gok _ _ _ e4
      have ow4' : ∀ {j : Nat} {a : Addr}, Ow K H' F3 ρ4 σ4 j a → Ow K H' F3 ρi (wipe σ vs) j a := fun {j a} o => by
        rcases o with ⟨⟨ys, o1⟩, o2⟩ | ⟨t, u, L, o1, o2, o3, o4⟩
        rotate_left
        · have nj : j ∉ vs := fun z => by
            rcases o1 with o1 | o1
            · rcases g2 j _ o1 with q | ⟨_, q⟩
              · cases pi j z _ q
              · cases q
            · rcases g2 j _ o1 with q | ⟨_, q⟩
              · cases pi j z _ q
              · cases q
          unfold obS at o1
          rw [g1 j fun z => nj (sub j z)] at o1
          exact .inr ⟨t, u, L, o1, by rw [← m4.2 j fun z => nj (sub j z)]; exact o2, o3, o4⟩
        have nj : j ∉ vs := fun z => by
          rcases o1 with o1 | o1 | ⟨zs, o1⟩
          · rcases g2 j _ o1 with q | ⟨_, q⟩
            · cases pi j z _ q
            · cases q
          · rcases g2 j _ o1 with q | ⟨_, q⟩
            · cases pi j z _ q
            · cases q
          · rcases g2 j _ o1 with q | ⟨_, q⟩
            · cases pi j z _ q
            · cases q
        rw [g1 j fun z => nj (sub j z)] at o1
        exact .inl ⟨⟨ys, o1⟩, by rw [← m4.2 j fun z => nj (sub j z)]; exact o2⟩
      have ow4 : ∀ {j : Nat} {a : Addr}, Ow K H' F3 ρ4 σ4 j a → Ow K H2 Fi ρi (wipe σ vs) j a ∨ H2 a = none := fun o => s3.oo _ _ (ow4' o)
      have turn : ∀ {ρ6 : Rho} {H6 F6 : Hp}, Ste K G ρ4 σ4 H' F3 ρ6 H6 F6 → Ste K G (wipeR ρ1 vs) (wipe σ vs) H1 F1 (wipeR ρ6 vs) H6 F6 ∧ (∀ b ∈ D :: Ls, (∀ o, H2 b = some o → H6 b = some o) ∧ F6 b = none ∧ ∀ i, ¬ Ow K H6 F6 (wipeR ρ6 vs) (wipe σ vs) i b) := fun {ρ6 H6 F6} s6 => by
        have ow6 : ∀ {j : Nat} {a : Addr}, Ow K H6 F6 (wipeR ρ6 vs) (wipe σ vs) j a → Ow K H2 Fi ρi (wipe σ vs) j a ∨ H2 a = none := fun {j a} o => by
          have back2 : H' a = none → H2 a = none := fun z => s3.back a z
          rcases o with ⟨⟨ys, o1⟩, o2⟩ | ⟨t, u, L, o1, o2, o3, o4⟩
          rotate_left
          · have nj : j ∉ vs := fun z => by
              rcases o1 with o1 | o1
              · cases wipeR_mem z o1
              · cases wipeR_mem z o1
            unfold obS at o1
            rw [wipeR_ne nj] at o1
            exact (s6.oo j a (.inr ⟨t, u, L, o1, by rw [m4.2 j fun z => nj (sub j z)]; exact o2, o3, o4⟩)).elim ow4 fun z => .inr (back2 z)
          have nj : j ∉ vs := fun z => by
            rcases o1 with o1 | o1 | ⟨zs, o1⟩
            · cases wipeR_mem z o1
            · cases wipeR_mem z o1
            · cases wipeR_mem z o1
          rw [wipeR_ne nj] at o1
          exact (s6.oo j a (.inl ⟨⟨ys, o1⟩, by rw [m4.2 j fun z => nj (sub j z)]; exact o2⟩)).elim ow4 fun z => .inr (back2 z)
        have W6 : Wd K G (wipeR ρ6 vs) (wipe σ vs) H6 F6 := wd_wipe s6.wd (fun j hj => (m4.2 j fun z => hj (sub j z)).symm) m4.1.symm fun v hv s es => ⟨(fun xs z => by
          subst z
          obtain ⟨a, _, _, _, _, _, e5⟩ := s6.wd.sl v _ es
          obtain ⟨⟨ys, y1⟩, _⟩ := Wi.ai v a e5
          cases pi v hv _ y1), (fun t z => by
          subst z
          obtain ⟨_, _, _, _, ⟨_, a, e5⟩, _⟩ := s6.wd.sl v _ es
          obtain ⟨⟨ys, y1⟩, _⟩ := Wi.ao v a e5
          cases pi v hv _ y1)⟩
        have d4 : ∀ b ∈ D :: Ls, ∀ i, ¬ Ow K H' F3 ρ4 σ4 i b := fun b hb k o => (ow4 o).elim ((oi b hb).2.2 k) fun z => by
          obtain ⟨o, ho⟩ := some2 b hb
          rw [ho] at z; cases z
        have h3 : ∀ b ∈ D :: Ls, ∀ o, H2 b = some o → H' b = some o := fun b hb o ho => s3.kk b o ho (oi b hb).2.2
        refine ⟨⟨W6, (si.ff.trans A3.ff).trans s6.ff, fun b o hb n => ?_, fun b hb => ?_, fun k a o => (ow6 o).elim (si.oo k a) fun z => .inr (si.back a z), fun b hb => s6.tr b (s3.tr b (si.tr b hb))⟩, fun b hb => ⟨fun o ho => s6.kk b o (h3 b hb o ho) (d4 b hb), ?_, fun k o => (ow6 o).elim ((oi b hb).2.2 k) fun z => ?_⟩⟩
        · have n2 : ∀ k, ¬ Ow K H2 Fi ρi (wipe σ vs) k b := fun k z => (si.oo k b z).elim (n k) fun y => (by rw [hb] at y; cases y)
          exact s6.kk b o (s3.kk b o (si.kk b o hb n) n2) fun k z => (ow4 z).elim (n2 k) fun y => (by rw [si.back b y] at hb; cases hb)
        · have fromF3 : F3 b ≠ none → F1 b ≠ none ∨ H1 b = none ∨ ∃ i, Ow K H1 F1 (wipeR ρ1 vs) (wipe σ vs) i b := fun z => by
            rcases s3.nf b z with q | q | ⟨k, q⟩
            · exact si.nf b q
            · exact .inr (.inl (si.back b q))
            · exact (si.oo k b q).elim (fun y => .inr (.inr ⟨k, y⟩)) fun y => .inr (.inl y)
          rcases s6.nf b hb with q | q | ⟨k, q⟩
          · exact fromF3 q
          · exact .inr (.inl (si.back b (s3.back b q)))
          · exact (ow4 q).elim (fun z => (si.oo k b z).elim (fun y => .inr (.inr ⟨k, y⟩)) fun y => .inr (.inl y)) fun z => .inr (.inl (si.back b z))
        · obtain ⟨o2, ho2⟩ := some2 b hb
          cases z : F6 b with
          | none => rfl
          | some o =>
            rcases s6.nf b (by rw [z]; simp) with q | q | ⟨k, q⟩
            · rcases s3.nf b q with q | q | ⟨k, q⟩
              · exact absurd (oi b hb).1 q
              · rw [ho2] at q; cases q
              · exact absurd q ((oi b hb).2.2 k)
            · rw [h3 b hb _ ho2] at q; cases q
            · exact absurd q (d4 b hb k)
        · obtain ⟨o2, ho2⟩ := some2 b hb
          rw [ho2] at z; cases z
      refine ⟨G, ρ4, F3, b5, ρ5, W4, e5, fun H5 F5 s5 => ?_⟩
      cases b5 with
      | false =>
        simp only [Bool.false_eq_true, if_false] at hf ⊢
        obtain ⟨t1, t2⟩ := turn s5
        exact ⟨wipeR ρ5 vs, F5, acc, us, Ls, t1, (t2 D List.mem_cons_self).1 _ hDi, ri.frame (A3.ff.trans s5.ff) fun b hb => (t2 b (List.mem_cons_of_mem _ hb)).1, ndi, fun b hb => ⟨(t2 b hb).2.1, (oi b hb).2.1, (t2 b hb).2.2⟩, fun v hv s es => wipeR_mem hv es, hf⟩
      | true =>
        simp only [if_true] at hf ⊢
        obtain ⟨⟨r6, ρ6⟩, e6, hf⟩ := Option.bind_eq_some_iff.mp hf
        split at hf
        · rename_i ys hys
          dsimp only at hys
          subst hys
          split at hf
          · rename_i hlen
            refine ⟨G, ρ5, F5, _, ρ6, s5.wd, e6, fun v6 H6 F6 s6 R6 => ?_⟩
            obtain ⟨a6, us6, rfl, h61, h62, h63, h64, h65⟩ := R6
            have s57 := s5.trans s6
            obtain ⟨t1, t2⟩ := turn s57
            have tD := t2 D List.mem_cons_self
            have ra : OtRs K H6 F6 us (acc.map rowO) Ls := ri.frame (A3.ff.trans s57.ff) fun b hb => (t2 b (List.mem_cons_of_mem _ hb)).1
            -- the new row stands apart
            have h5 : ∀ b, H5 b = none → H2 b = none := fun b z => s3.back b (s5.back b z)
            have na : a6 ∉ D :: Ls := fun z => by
              obtain ⟨o, ho⟩ := some2 a6 z
              rw [h5 a6 h64] at ho; cases ho
            have neD : a6 ≠ D := fun z => na (by rw [z]; exact List.mem_cons_self)
            have ow6w : ∀ k, ¬ Ow K H6 F6 (wipeR ρ6 vs) (wipe σ vs) k a6 := fun k o => by
              rcases o with ⟨⟨zs, o1⟩, o2⟩ | ⟨t', u, L, o1, o2, o3, o4⟩
              · have nj : k ∉ vs := fun z => by
                  rcases o1 with o1 | o1 | ⟨zs, o1⟩
                  · cases wipeR_mem z o1
                  · cases wipeR_mem z o1
                  · cases wipeR_mem z o1
                rw [wipeR_ne nj] at o1
                exact h65 k (.inl ⟨⟨zs, o1⟩, by rw [m4.2 k fun z => nj (sub k z)]; exact o2⟩)
              · have nj : k ∉ vs := fun z => by
                  rcases o1 with o1 | o1
                  · cases wipeR_mem z o1
                  · cases wipeR_mem z o1
                unfold obS at o1
                rw [wipeR_ne nj] at o1
                exact h65 k (.inr ⟨t', u, L, o1, by rw [m4.2 k fun z => nj (sub k z)]; exact o2, o3, o4⟩)
            have row : OtR K H6 F6 (.ref a6) (rowO ys) [a6] := .li h61 (otrs_da h62)
            have all : OtRs K H6 F6 (us ++ [.ref a6]) ((acc ++ [ys]).map rowO) (Ls ++ [a6]) := by
              rw [List.map_append]
              exact ra.snoc row
            have keepD : ∀ b ∈ Ls ++ [a6], ∀ o, H6 b = some o → upd H6 D (.lst (us ++ [.ref a6])) b = some o := fun b hb o ho => by
              have nb : b ≠ D := fun z => by
                rcases List.mem_append.mp hb with q | q
                · exact (List.nodup_cons.mp ndi).1 (z ▸ q)
                · exact neD ((List.mem_singleton.mp q).symm.trans z)
              rw [upd_ne nb]; exact ho
            refine ⟨us, tD.1 _ hDi, lim_lt (by rw [ra.len, List.length_map]; exact hlen), wipeR ρ6 vs, F6, acc ++ [ys], us ++ [.ref a6], Ls ++ [a6], ste_upd Ww t1 hD tD.2.1 tD.2.2, upd_same, all.frame (Same.refl _) keepD, ?_, fun b hb => ?_, fun v hv s es => wipeR_mem hv es, hf⟩
            · rw [← List.cons_append, List.nodup_append]
              exact ⟨ndi, by simp, fun a ha b hb => by rw [List.mem_singleton.mp hb]; exact fun z => na (z ▸ ha)⟩
            · have hb' : b ∈ D :: Ls ∨ b = a6 := by
                rcases List.mem_cons.mp hb with q | q
                · exact .inl (by rw [q]; exact List.mem_cons_self)
                · rcases List.mem_append.mp q with q | q
                  · exact .inl (List.mem_cons_of_mem _ q)
                  · exact .inr (List.mem_singleton.mp q)
              rcases hb' with q | rfl
              · exact ⟨(t2 b q).2.1, (oi b q).2.1, fun k o => (t2 b q).2.2 k (t1.wd.upd_ow tD.2.2 o)⟩
              · exact ⟨h63, si.back _ (h5 _ h64), fun k o => ow6w k (t1.wd.upd_ow tD.2.2 o)⟩
          · cases hf
        · cases hf
    · have e : i = xs.length := by omega
      subst e
      rw [List.drop_length] at hf
      cases hf
      refine .inl ⟨jr.st _ H2 (si.ff.trans Wi.sub) (Nat.le_refl _), ?_⟩
      have sU := unwipe W1 pl si
      exact q _ H2 Fi (s1.trans sU) ⟨D :: Ls, .li hDi ri, ndi, fun b hb => ⟨(oi b hb).1, s1.back b (oi b hb).2.1, fun k o => (oi b hb).2.2 k (unwipe_ow pl o)⟩⟩
  · cases hm
end
section
variable {X : Cx} {Wx : WX} {elt tg iter : Expr} {ifs : List Expr} {scope : Scope} {own : List (Str × Nat)} {pos : Pos} {src : M (List D)} {is : List Nat} {g : D → Rho → Option Rho} {t : M Bool} {e : M Vl}
theorem ss_setrows {i : Nat} {y : Str} {py : Pos} {spos : Pos} (hc : X.calm = true) (hN : X.N.Nodup) (hy : X.N[i]? = some y) (hyl : X.env.scope.names.lookup y = some .local)
    (hsw : swapsWith (.ListComp elt [⟨tg, iter, ifs, 0⟩] scope pos) (some (.Name y py)) spos.line X.env = pure true) (hi : SI X tg iter src) (ok : BlkOk X.N X.env.scope scope own) (sub : ∀ i ∈ is, i ∈ own.map (·.2)) (gok : GOk is g)
    (hg : ∀ (s : Shared) (H : Hp) (C : Addr) (cl : List (Str × Addr)) (fp : List Addr), SG (X.blk s H scope (compEnvC scope cl C X.env) fp) tg is g) (ht : ∀ (s : Shared) (H : Hp) (C : Addr) (cl : List (Str × Addr)) (fp : List Addr), STs (X.blk s H scope (compEnvC scope cl C X.env) fp) ifs t)
    (he : ∀ (s : Shared) (H : Hp) (C : Addr) (cl : List (Str × Addr)) (fp : List Addr), SE (X.blk s H scope (compEnvC scope cl C X.env) fp) elt e) (hs : ∀ x, foldedSetIterable iter X.env x = pure x := by intro _; rfl) :
    SSW X Wx (.Assign [.Name y py] (.ListComp elt [⟨tg, iter, ifs, 0⟩] scope pos) spos) (sAsgO i (eRows (own.map (·.2)) src g t e)) :=
  ps_weak (ps_setLc hc hN hy hyl hsw hi ok hg ht he hs) fun D σ H h => by
    obtain ⟨G, ρ, F, r, ρ', W, hm, q⟩ := sasgO_of h
    exact tlcR_of sub gok ⟨G, ρ, F, r, ρ', W, hm, q⟩
end
end Sw
namespace Sw
open PySem PySem.Spec PyProof.Rows L2
noncomputable def intAt (ρ : Rho) (k : Nat) : Option Int := match ρ[k]? with
  | some (.d (.int n)) => some n
  | _ => none
noncomputable def daO : Ot → Option D
  | .da x => some x
  | _ => none
noncomputable def obAt (ρ : Rho) (i : Nat) : Option (List Ot) := match ρ[i]? with
  | some (.ob (.li ts)) => some ts
  | _ => none
noncomputable def liO : Ot → Option (List Ot)
  | .li ts => some ts
  | _ => none
/-- x[a][b] -/
noncomputable def eIx2 (i a b : Nat) : M Vl := fun ρ => (obAt ρ i).bind fun ts => (intAt ρ a).bind fun m => (intAt ρ b).bind fun n => (atI ts m).bind fun t => (liO t).bind fun us => (atI us n).bind fun u => (daO u).bind fun x => some (.fz x, ρ)
/-- len(x) -/
noncomputable def eLenO (i : Nat) : M Vl := fun ρ => (obAt ρ i).bind fun ts => some (.fz (.int (ts.length : Nat)), ρ)
/-- x[a][b] = v -/
noncomputable def sSet2 (i a b : Nat) (mv : M Vl) : S := fun ρ => (mv ρ).bind fun p => (frz p.2 (stl p.1)).bind fun q => (obAt q.2 i).bind fun ts => (intAt q.2 a).bind fun m => (intAt q.2 b).bind fun n => (ixN ts.length m).bind fun j => (ts[j]?).bind fun t => (liO t).bind fun us => (ixN us.length n).bind fun k => (us[k]?).bind fun u => (daO u).bind fun _ => some (.nx, q.2.set i (.ob (.li (ts.set j (.li (us.set k (.da q.1)))))))
theorem obAt_sl {ρ : Rho} {i : Nat} {ts : List Ot} (h : obAt ρ i = some ts) : ρ[i]? = some (.ob (.li ts)) := by
  unfold obAt at h
  split at h
  · cases h; assumption
  · cases h
theorem intAt_sl {ρ : Rho} {k : Nat} {n : Int} (h : intAt ρ k = some n) : ρ[k]? = some (.d (.int n)) := by
  unfold intAt at h
  split at h
  · cases h; assumption
  · cases h
theorem OtRs.get {K : Kx} {H F : Hp} : ∀ {vs : List V} {ts : List Ot} {L : List Addr} {j : Nat} {t : Ot}, OtRs K H F vs ts L → ts[j]? = some t → ∃ v M, vs[j]? = some v ∧ OtR K H F v t M ∧ ∀ b ∈ M, b ∈ L
  | _, _, _, _, _, .nil, h => by simp at h
  | _, _, _, 0, t, .cons (L := L1) r _, h => by
    simp at h; subst h
    exact ⟨_, L1, rfl, r, fun b hb => List.mem_append_left _ hb⟩
  | _, _, _, j + 1, t, .cons r r2, h => by
    obtain ⟨v, M, h1, h2, h3⟩ := OtRs.get (j := j) (t := t) r2 (by simpa using h)
    exact ⟨v, M, by simpa using h1, h2, fun b hb => List.mem_append_right _ (h3 b hb)⟩
theorem atI_get2 {α : Type} {xs : List α} {i : Int} {x : α} (h : atI xs i = some x) : ∃ j, ixN xs.length i = some j ∧ xs[j]? = some x := by
  unfold atI at h
  obtain ⟨j, h1, h2⟩ := Option.bind_eq_some_iff.mp h
  exact ⟨j, h1, h2⟩
theorem otAt {K : Kx} {H F : Hp} {vs : List V} {ts : List Ot} {L : List Addr} {i : Int} {t : Ot} (r : OtRs K H F vs ts L) (h : atI ts i = some t) : ∃ v M, atI vs i = some v ∧ OtR K H F v t M := by
  obtain ⟨j, h1, h2⟩ := atI_get2 h
  obtain ⟨v, M, h3, h4, _⟩ := r.get h2
  exact ⟨v, M, by unfold atI; rw [r.len, h1]; exact h3, h4⟩
section
variable {X : Cx} {Wx : WX} {i a b : Nat} {o ea eb e : Expr} {pos pos1 : Pos}
theorem intAt_v {K : Kx} {G : Gd} {ρ : Rho} {σ : L2.St} {H F : Hp} {k : Nat} {n : Int} (W : Wd K G ρ σ H F) (h : intAt ρ k = some n) : σ[k]? = some (some (.int n)) := by
  obtain ⟨v, e, r⟩ := W.sl k _ (intAt_sl h)
  cases r
  exact e
theorem se_ix2 (ho : PE X o (tVar i)) (ha : PE X ea (tVar a)) (hb : PE X eb (tVar b)) (h1 : PlainIx ea) (h2 : PlainIx eb) : SE X (.Subscript (.Subscript o ea pos1) eb pos) (eIx2 i a b) := by
  refine pe_weak (pe_ix ix_list (pe_ix ix_list ho ha h1) hb h2) fun σ H Q ⟨G, ρ, F, r, ρ', W, hm, q⟩ => ?_
  unfold eIx2 at hm
  obtain ⟨ts, e1, hm⟩ := Option.bind_eq_some_iff.mp hm
  obtain ⟨m, e2, hm⟩ := Option.bind_eq_some_iff.mp hm
  obtain ⟨n, e3, hm⟩ := Option.bind_eq_some_iff.mp hm
  obtain ⟨t, e4, hm⟩ := Option.bind_eq_some_iff.mp hm
  obtain ⟨us, e5, hm⟩ := Option.bind_eq_some_iff.mp hm
  obtain ⟨u, e6, hm⟩ := Option.bind_eq_some_iff.mp hm
  obtain ⟨x, e7, hm⟩ := Option.bind_eq_some_iff.mp hm
  cases hm
  obtain ⟨v, L, s1, s2, _⟩ := W.sl i _ (obAt_sl e1)
  cases s2 with
  | li g1 g2 =>
    obtain ⟨w, M, k1, k2⟩ := otAt g2 e4
    cases t with
    | da y => cases e5
    | ins c ks ts => cases e5
    | li us' =>
      cases e5
      cases k2 with
      | li g3 g4 =>
        obtain ⟨w2, M2, k3, k4⟩ := otAt g4 e6
        cases u with
        | li z => cases e7
        | ins c ks ts => cases e7
        | da y =>
          cases e7
          cases k4 with
          | da r =>
            exact ⟨_, s1, _, intAt_v W e2, _, _, _, _, rfl, rfl, SqL.of g1, k1, _, intAt_v W e3, _, _, _, _, rfl, rfl, SqL.of g3, k3, q _ H F (Ste.refl W) r⟩
end
end Sw
namespace Sw
open PySem PySem.Spec PyProof.Rows L2 PySem.W
section
variable {prog : Program} {w : World} {A : Around} {E : Value → Shared → Prop} {s : Shared}
noncomputable def IsSg (v : Value) (b : Nat) : Prop := ∃ u, v = .str ⟨#[b]⟩ u
noncomputable def encS (b : Nat) : PyData := .str ⟨#[b]⟩
theorem each_sg {x : Str} : ∀ {vs : List Value} (k : Nat), (∀ j v, vs[j]? = some v → SignAt x (k + j) v) → vs.length + k = x.cps.toList.length → EachIs IsSg vs (x.cps.toList.drop k)
  | [], k, _, hl => by
    rw [List.drop_eq_nil_of_le (by simp at hl; simp; omega)]
    exact .nil
  | v :: vs, k, h, hl => by
    have hk : k < x.cps.toList.length := by rw [List.length_cons] at hl; omega
    rw [List.drop_eq_getElem_cons hk]
    refine .cons ?_ (each_sg (k + 1) (fun j u e => by have := h (j + 1) u (by simpa using e); rw [show k + 1 + j = k + (j + 1) by omega]; exact this) (by rw [List.length_cons] at hl; omega))
    obtain ⟨c, u, e1, e2⟩ := h 0 v rfl
    rw [Nat.add_zero] at e1
    have : x.cps.toList[k] = c := by
      have e3 : x.cps.toList[k]? = some c := by rw [Array.getElem?_toList]; exact e1
      rw [List.getElem?_eq_getElem hk] at e3
      exact Option.some.inj e3
    rw [this]
    exact ⟨u, e2⟩
theorem sorted_str {x : Str} {t : Tok} {Q : Value → Shared → Prop} (hh : A.handled = none) (hL : x.cps.size ≤ sizeLine) (hu : A.units + 64 < cLine)
    (h : ∀ (s1 : Shared) (vs out : List Value), (∀ b o, s.heap.get? b = some o → s1.heap.get? b = some o) → s1.gens = s.gens → s1.drawn = s.drawn → s1.os = s.os →
      out.length = x.cps.size → EachIs IsSg out (x.cps.toList.mergeSort (dataLe false encS)) → Q (.ref s1.heap.objs.size) { s1 with heap := sortedHeap (s1.heap.push (seqObj "list" vs.toArray 0)) s1.heap.objs.size vs out.toArray }) :
    wpAny (model prog w) A (call (.builtin "sorted") [.str x t]) Q E s := by
  refine call_function_entry_kw kind_sorted plain_sorted entry_sorted (args_sorted1 _) ?_
  unfold Builtin.«sorted»
  refine wpAny_bind (m := checkCount "sorted" 1 1 _) (wpAny_pure ?_)
  refine wpAny_bind (wpAny_collect_str (A := A.in1) (show A.in1.handled = none from hh) x t (fun s1 acc k g d os it => ?_) hL)
  have hl : acc.toList.length = x.cps.size := by rw [Array.length_toList, it.1]
  have hsz : acc.toList.length ≤ sizeLine := by rw [hl]; exact hL
  refine wpAny_bind (wpAny_newList ?_ hsz)
  refine wpAny_bind (wpAny_holding (wpAny_call_entry_kw slot_list_sort ⟨_, Heap.get?_push_size _ rfl, rfl⟩ entry_list_sort ?body (args_list_sort _)))
  case body =>
    show wpAny (model prog w) A.in1.in1 (Builtin.«list.sort» ⟨[.ref s1.heap.objs.size], []⟩) _ _ _
    have e : EachIs IsSg acc.toList x.cps.toList := by
      have := each_sg (x := x) (vs := acc.toList) 0 (fun j v hv => by rw [Nat.zero_add]; exact it.2 j v (by rw [← Array.getElem?_toList]; exact hv)) (by rw [hl]; simp)
      rwa [List.drop_zero] at this
    have er : ∀ h' : Heap, EachIs (fun v b => ∃ as, Reads h' v (encS b) as) acc.toList x.cps.toList := fun h' => e.mono fun v b ⟨u, hv⟩ => by subst hv; exact ⟨_, Reads.str _ _⟩
    have hal : AllAlike (x.cps.toList.map encS) := AllAlike.of fun b b' => rfl
    have hk : Sortable (x.cps.toList.map encS) := Sortable.others fun b => ⟨(fun z => nomatch z), (fun _ z => nomatch z)⟩
    have S := SortsAt.data (prog := prog) (w := w) (A := A.in1.in1) (s := { s1 with heap := sortingHeap (s1.heap.push (seqObj "list" acc.toList.toArray 0)) s1.heap.objs.size acc.toList }) (each_map (R := fun v d => ∃ as, Reads _ v d as) encS (er _)) hal hk (bound_map fun b _ => by show A.units + 2 + 0 < cLine; omega)
    refine list_sort_vals (s := { s1 with heap := s1.heap.push (seqObj "list" acc.toList.toArray 0) }) (Heap.get?_push_size _ rfl) S hsz ⟨_, rfl, wpAny_pure ⟨_, rfl, ?_⟩⟩
    exact h s1 acc.toList _ k g d os (by rw [sortVals_length false rfl]; exact hl) (sortVals_data false e (er _) hal)
end
theorem sg_vals : ∀ {us : List Value} {bs : List Nat}, EachIs IsSg us bs → Vals (bs.map fun b => V.str ⟨#[b]⟩) us
  | _, _, .nil => .nil
  | _, _, .cons ⟨u, e⟩ t => by subst e; exact .cons ⟨u, rfl⟩ (sg_vals t)
theorem sg_reps {K : Kx} {F : Hp} : ∀ bs : List Nat, Reps K F (bs.map fun b => V.str ⟨#[b]⟩) (bs.map fun b => D.str [b])
  | [] => .nil
  | b :: bs => .cons (.str [b]) (sg_reps bs)
/-- the signs of a text, sorted -/
noncomputable def sgE (s : List Nat) : List Nat := s.mergeSort (dataLe false encS)
noncomputable def rSortedSg : List V → Hp → VK → Prop := fun vs H Q => ∃ z : Str, vs = [V.str z] ∧ z.length ≤ sizeLine ∧ ∀ p, H p = none → Q (.ref p) (upd H p (.lst ((sgE z.cps.toList).map fun b => V.str ⟨#[b]⟩)))
theorem cr_sortedSg {X : Cx} (hc : X.calm = true) (hu : X.A.units + 64 < cLine) : CallR X (.builtin "sorted") rSortedSg := by
  intro pins s σ H vs us Q I r h
  obtain ⟨z, rfl, hz, q⟩ := h
  obtain ⟨u, rfl, ru⟩ := vals1 r
  obtain ⟨t, rfl⟩ := ru
  refine sorted_str (I.ok.hd hc) hz hu fun s1 ws out k g d os hlen he => ?_
  have e1 : s1 = { s with heap := s1.heap, toks := s1.toks } := by
    cases s1; cases s
    simp only at g d os
    simp only [g, d, os]
  have I1 : L2.Inv X pins σ H { s with heap := s1.heap, toks := s1.toks } := I.kept (t' := s1.toks) k
  obtain ⟨n, hn⟩ := sortedHeap_at (vs := ws) (n := 0) (out := out.toArray) (Heap.get?_push_size s1.heap (o := seqObj "list" ws.toArray 0) rfl)
  have y1 : Vals ((sgE z.cps.toList).map fun b => V.str ⟨#[b]⟩) out := sg_vals he
  have key := I1.laid (a := s1.heap.objs.size) (o := .lst ((sgE z.cps.toList).map fun b => V.str ⟨#[b]⟩)) (h' := sortedHeap (s1.heap.push (seqObj "list" ws.toArray 0)) s1.heap.objs.size ws out.toArray) (t' := s1.toks) (fun b o e => by
    have hb : b < s1.heap.objs.size := Heap.lt_size e
    rw [sortedHeap_old (Nat.ne_of_lt hb) (by rw [size_push']; exact Nat.lt_succ_of_lt hb)]
    exact Heap.get?_push_of_some _ e) (Nat.le_refl _) ⟨by rw [y1.length, hlen]; exact hz, out, n, y1, hn⟩
  refine ⟨.ref s1.heap.objs.size, _, ?_, rfl, q _ (I1.hok.fresh (Nat.le_refl _))⟩
  rw [e1]
  exact key
noncomputable def eSortSg (ms : M (List Vl)) : M Vl := fun ρ => (ms ρ).bind fun p => match p.1 with
  | [.fz (.str s)] => if s.length ≤ lim then some (.fr ((sgE s).map fun b => D.str [b]), p.2) else none
  | _ => none
section
variable {X : Cx} {e : Expr} {ms : M (List Vl)} {p pos : Pos}
theorem se_sortSg (hc : X.calm = true) (hu : X.A.units + 64 < cLine) (hm : X.mg "sorted" = none) (hg : Gl X "sorted") (ha : SA X [e] ms) (he : starEach [e] X.env = (false, eval e X.env) :: starEach [] X.env := by rfl) (hpl : (backTo pos (starEach [] X.env)).any (·.1) = false := by rfl) :
    SE X (.Call (.Name "sorted" p) [e] [] pos) (eSortSg ms) := by
  refine pe_weak (pe_callB (cr_sortedSg hc hu) hg hm (by decide +kernel) ha (by decide) (by decide) he hpl) fun σ H Q ⟨G, ρ, F, r0, ρ', W, hm, q⟩ => ?_
  unfold eSortSg at hm
  obtain ⟨⟨rs, ρ1⟩, e1, hm⟩ := Option.bind_eq_some_iff.mp hm
  split at hm
  · rename_i s hr
    dsimp only at hr
    subst hr
    split at hm
    · rename_i hl
      cases hm
      refine ⟨G, ρ, F, _, ρ1, W, e1, fun vs H1 F1 s1 R1 => ?_⟩
      obtain ⟨v, rfl, Rv⟩ : ∃ v, vs = [v] ∧ VlS X.kx σ F1 v (.fz (.str s)) := by
        match vs, R1 with
        | [v], z => exact ⟨v, rfl, z.1⟩
      cases (show Rep X.kx F1 v (.str s) from Rv)
      exact ⟨_, rfl, lim_of hl, fun p hp => new_fr s1 (sg_reps _) hp q⟩
    · cases hm
  · cases hm
end
end Sw
namespace Sw
open PySem PySem.Spec PyProof.Rows L2
section
variable {K : Kx} {F : Hp}
/-- an item exchanged for one with the same objects -/
theorem OtRs.setv {H : Hp} {v v' : V} {t t' : Ot} {M : List Addr} : ∀ {vs : List V} {ts : List Ot} {L : List Addr} {j : Nat}, OtRs K H F vs ts L → ts[j]? = some t → vs[j]? = some v → OtR K H F v t M → OtR K H F v' t' M → OtRs K H F (vs.set j v') (ts.set j t') L
  | _, _, _, _, .nil, h, _, _, _ => by simp at h
  | _, _, _, 0, .cons (L := L1) r r2, h, hv, q, q' => by
    simp at h hv; subst h; subst hv
    have := OtR.uniq r q
    subst this
    exact .cons q' r2
  | _, _, _, j + 1, .cons r r2, h, hv, q, q' => .cons r (OtRs.setv (j := j) r2 (by simpa using h) (by simpa using hv) q q')
theorem OtRs.mem {H : Hp} {v : V} {t : Ot} {M : List Addr} : ∀ {vs : List V} {ts : List Ot} {L : List Addr} {j : Nat}, OtRs K H F vs ts L → ts[j]? = some t → vs[j]? = some v → OtR K H F v t M → ∀ b ∈ M, b ∈ L
  | _, _, _, _, .nil, h, _, _ => by simp at h
  | _, _, _, 0, .cons (L := L1) r r2, h, hv, q => by
    simp at h hv; subst h; subst hv
    have := OtR.uniq r q
    subst this
    exact fun b hb => List.mem_append_left _ hb
  | _, _, _, j + 1, .cons r r2, h, hv, q => fun b hb => List.mem_append_right _ (OtRs.mem (j := j) r2 (by simpa using h) (by simpa using hv) q b hb)
theorem OtRs.ndM {H : Hp} {v : V} {t : Ot} {M : List Addr} : ∀ {vs : List V} {ts : List Ot} {L : List Addr} {j : Nat}, OtRs K H F vs ts L → L.Nodup → ts[j]? = some t → vs[j]? = some v → OtR K H F v t M → M.Nodup
  | _, _, _, _, .nil, _, h, _, _ => by simp at h
  | _, _, _, 0, .cons (L := L1) r r2, nd, h, hv, q => by
    simp at h hv; subst h; subst hv
    have := OtR.uniq r q
    subst this
    rw [List.nodup_append] at nd
    exact nd.1
  | _, _, _, j + 1, .cons r r2, nd, h, hv, q => by
    rw [List.nodup_append] at nd
    exact OtRs.ndM (j := j) r2 nd.2.1 (by simpa using h) (by simpa using hv) q
/-- one item is changed within its own objects -/
theorem OtRs.updi {H H' : Hp} {v : V} {t t' : Ot} {M : List Addr} (e : ∀ b o, b ∉ M → H b = some o → H' b = some o) (q' : OtR K H' F v t' M) : ∀ {vs : List V} {ts : List Ot} {L : List Addr} {j : Nat}, OtRs K H F vs ts L → L.Nodup → ts[j]? = some t → vs[j]? = some v → OtR K H F v t M → OtRs K H' F vs (ts.set j t') L
  | _, _, _, _, .nil, _, h, _, _ => by simp at h
  | _, _, _, 0, .cons (L := L1) r r2, nd, h, hv, q => by
    simp at h hv; subst h; subst hv
    have := OtR.uniq r q
    subst this
    rw [List.nodup_append] at nd
    exact .cons q' (r2.frame (Same.refl _) fun b hb o ho => e b o (fun z => nd.2.2 b z b hb rfl) ho)
  | _, _, _, j + 1, .cons r r2, nd, h, hv, q => by
    rw [List.nodup_append] at nd
    refine .cons (r.frame (Same.refl _) fun b hb o ho => e b o (fun z => ?_) ho) (OtRs.updi e q' (j := j) r2 nd.2.1 (by simpa using h) (by simpa using hv) q)
    have : b ∈ _ := OtRs.mem (j := j) r2 (by simpa using h) (by simpa using hv) q b z
    exact nd.2.2 b hb b this rfl
end
section
variable {K : Kx} {G : Gd} {ρ : Rho} {σ : L2.St} {H H' F : Hp}
/-- the thing in slot i is changed within -/
theorem Wd.putO {i : Nat} {t t' : Ot} {v : V} {L L' : List Addr} {s s' : Sl} (hs : (s = .ob t ∧ s' = .ob t') ∨ (s = .iob t ∧ s' = .iob t')) (W : Wd K G ρ σ H F) (h : ρ[i]? = some s) (hv : σ[i]? = some (some v)) (r : OtR K H F v t L)
    (r' : OtR K H' F v t' L') (nd' : L'.Nodup) (new : ∀ b ∈ L', b ∈ L ∨ H b = none) (keep : ∀ b o, H b = some o → b ∉ L → H' b = some o) (stay : ∀ b, H b ≠ none → H' b ≠ none) : Ste K G ρ σ H F (ρ.set i s') H' F := by
  have hi : i < ρ.length := (List.getElem?_eq_some_iff.mp h).1
  have hob : obS ρ i t := by
    rcases hs with ⟨rfl, _⟩ | ⟨rfl, _⟩
    · exact .inl h
    · exact .inr h
  obtain ⟨v0, L0, e0, r0, nd0, q0⟩ := W.ob_at hob
  rw [hv] at e0; cases e0
  have := OtR.uniq r r0
  subst this
  have own : ∀ b ∈ L, Ow K H F ρ σ i b := fun b hb => .inr ⟨t, v, L, hob, hv, r, hb⟩
  have nL : ∀ {j : Nat} {b : Addr}, j ≠ i → Ow K H F ρ σ j b → b ∉ L := fun {j b} ne o z => ne (W.ap j i b o (own b z))
  have old : ∀ {j b}, Ow K H' F (ρ.set i s') σ j b → (j = i ∧ (b ∈ L ∨ H b = none) ∧ b ∈ L') ∨ (j ≠ i ∧ Ow K H F ρ σ j b) := fun {j b} o => by
    by_cases ne : j = i
    · subst ne
      refine .inl ⟨rfl, ?_⟩
      rcases o with ⟨⟨ys, o1⟩, o2⟩ | ⟨t2, u, M, o1, o2, o3, o4⟩
      · rw [List.getElem?_set_self hi] at o1
        rcases hs with ⟨_, rfl⟩ | ⟨_, rfl⟩ <;> rcases o1 with o1 | o1 | ⟨zs, o1⟩ <;> cases o1
      · unfold obS at o1
        rw [List.getElem?_set_self hi] at o1
        have e2 : t2 = t' := by
          rcases hs with ⟨_, rfl⟩ | ⟨_, rfl⟩ <;> rcases o1 with o1 | o1 <;> cases o1 <;> rfl
        subst e2
        rw [hv] at o2; cases o2
        have := OtR.uniq o3 r'
        subst this
        exact ⟨new b o4, o4⟩
    · refine .inr ⟨ne, ?_⟩
      rcases o with ⟨⟨ys, o1⟩, o2⟩ | ⟨t2, u, M, o1, o2, o3, o4⟩
      · rw [List.getElem?_set_ne (Ne.symm ne)] at o1
        exact .inl ⟨⟨ys, o1⟩, o2⟩
      · unfold obS at o1
        rw [List.getElem?_set_ne (Ne.symm ne)] at o1
        exact (W.ob_same o1 o2 o3 fun c x oc hc => keep c x hc (nL ne oc)).2 b o4
  have fL : ∀ b ∈ L', F b = none := fun b hb => (new b hb).elim (fun z => (q0 b z).1) fun z => W.sub.free z
  refine ⟨⟨by rw [List.length_set]; exact W.len, W.gl, fun b x e => keep b x (W.sub _ _ e) fun z => ?_, W.f0, fun b o e q q2 => keep b o (W.kp b o e q q2) fun z => ?_, W.nw, fun b hb => stay b (W.it b hb), fun j s2 hs2 => ?_, fun j k b o1 o2 => ?_, fun j b hb => ?_, fun j b hb => ?_⟩, Same.refl _, fun b o e n => keep b o e fun z => n i (own b z), fun b hb => .inl hb, fun j b o => ?_, stay⟩
  · rw [(q0 b z).1] at e; cases e
  · rcases (q0 b z).2 with y | y
    · rw [e] at y; cases y
    · exact q2 y
  · by_cases ne : j = i
    · subst ne
      rw [List.getElem?_set_self hi] at hs2
      cases hs2
      rcases hs with ⟨rfl, rfl⟩ | ⟨rfl, rfl⟩
      · obtain ⟨v1, L1, e1, r1, nd1, q1⟩ := W.sl j _ h
        rw [hv] at e1; cases e1
        have := OtR.uniq r r1
        subst this
        exact ⟨v, L', hv, r', nd', fun b hb => ⟨fL b hb, (new b hb).elim (fun z => (q1 b z).2) fun z => W.h0 z⟩⟩
      · obtain ⟨v1, L1, e1, r1, nd1, q1⟩ := W.sl j _ h
        rw [hv] at e1; cases e1
        have := OtR.uniq r r1
        subst this
        exact ⟨v, L', hv, r', ⟨nd', nd1.2⟩, fun b hb => ⟨fL b hb, (new b hb).elim (fun z => (q1 b z).2) fun z => .inl (W.h0 z)⟩⟩
    · rw [List.getElem?_set_ne (Ne.symm ne)] at hs2
      have q := W.sl j s2 hs2
      have kp : ∀ {c : Addr} {o : HO}, Ow K H F ρ σ j c → H c = some o → H' c = some o := fun {c o} oc hc => keep c o hc (nL ne oc)
      cases s2 with
      | no => trivial
      | xa b dx f => exact q
      | d x => exact q
      | ow ys => obtain ⟨c, us, e, p1, p2⟩ := q; exact ⟨c, us, e, kp (.inl ⟨⟨ys, .inl hs2⟩, e⟩) p1, p2⟩
      | io ys => obtain ⟨c, us, e, p1, p2⟩ := q; exact ⟨c, us, e, kp (.inl ⟨⟨ys, .inr (.inl hs2)⟩, e⟩) p1, p2⟩
      | dc ys => obtain ⟨c, us, e, p1, p2⟩ := q; exact ⟨c, us, e, kp (.inl ⟨⟨[], .inr (.inr ⟨ys, hs2⟩)⟩, e⟩) p1, p2⟩
      | ob t2 => obtain ⟨u, M, e, r2, p⟩ := q; exact ⟨u, M, e, r2.frame (Same.refl _) fun b hb o ho => kp (.inr ⟨t2, u, M, .inl hs2, e, r2, hb⟩) ho, p⟩
      | iob t2 => obtain ⟨u, M, e, r2, p⟩ := q; exact ⟨u, M, e, r2.frame (Same.refl _) fun b hb o ho => kp (.inr ⟨t2, u, M, .inr hs2, e, r2, hb⟩) ho, p⟩
  · have sep : ∀ {j : Nat} {b : Addr}, j ≠ i → Ow K H F ρ σ j b → (b ∈ L ∨ H b = none) → False := fun {j b} ne o z => by
      rcases z with z | z
      · exact nL ne o z
      · obtain ⟨_, y, _⟩ := W.ow_there o
        rw [z] at y; cases y
    rcases old o1 with ⟨rfl, z1, _⟩ | ⟨n1, p1⟩
    · rcases old o2 with ⟨rfl, _⟩ | ⟨n2, p2⟩
      · rfl
      · exact (sep n2 p2 z1).elim
    · rcases old o2 with ⟨rfl, z2, _⟩ | ⟨n2, p2⟩
      · exact (sep n1 p1 z2).elim
      · exact W.ap j k b p1 p2
  · obtain ⟨⟨ys, z1⟩, z2⟩ := W.ai j b hb
    have ne : j ≠ i := fun z => by
      rw [z, h] at z1
      rcases hs with ⟨rfl, _⟩ | ⟨rfl, _⟩ <;> cases z1
    exact ⟨⟨ys, by rw [List.getElem?_set_ne (Ne.symm ne)]; exact z1⟩, z2⟩
  · obtain ⟨⟨ys, z1⟩, z2⟩ := W.ao j b hb
    by_cases ne : j = i
    · subst ne
      rcases hs with ⟨rfl, rfl⟩ | ⟨rfl, rfl⟩
      · rw [h] at z1; cases z1
      · exact ⟨⟨t', List.getElem?_set_self hi⟩, z2⟩
    · exact ⟨⟨ys, by rw [List.getElem?_set_ne (Ne.symm ne)]; exact z1⟩, z2⟩
  · rcases old o with ⟨rfl, z, _⟩ | ⟨_, z⟩
    · exact z.imp_left (own b)
    · exact .inl z
end
section
variable {X : Cx} {Wx : WX} {i a b : Nat} {o ea eb e : Expr} {p pos pos1 spos : Pos} {mv : M Vl}
theorem se_lenOb (hm : X.mg "len" = none) (hg : Gl X "len") (ho : PE X o (tVar i)) (he : starEach [o] X.env = (false, eval o X.env) :: starEach [] X.env := by rfl) (hpl : (backTo pos (starEach [] X.env)).any (·.1) = false := by rfl) : SE X (.Call (.Name "len" p) [o] [] pos) (eLenO i) := by
  refine pe_weak (pe_callB call_len hg hm PySem.boot_len (pa_cons ho pa_nil he) (by decide) (by decide) he hpl) fun σ H Q ⟨G, ρ, F, r, ρ', W, hm, q⟩ => ?_
  unfold eLenO at hm
  obtain ⟨ts, e1, hm⟩ := Option.bind_eq_some_iff.mp hm
  cases hm
  obtain ⟨v, L, s1, s2, _⟩ := W.sl i _ (obAt_sl e1)
  cases s2 with
  | li g1 g2 => exact ⟨_, s1, _, _, rfl, .inl ⟨_, SqL.of g1, rfl⟩, by rw [g2.len]; exact q _ H F (Ste.refl W) (.int _)⟩
theorem ss_set2 (ho : PE X o (tVar i)) (ha : PE X ea (tVar a)) (hb : PE X eb (tVar b)) (h1 : PlainIx ea) (hv : SE X e mv)
    (hA : ∀ v, assign (.Subscript (.Subscript o ea pos1) eb spos) X.env v = (do
      let ov ← holding [v] (eval (.Subscript o ea pos1) X.env)
      let iv ← holding [v, ov] (eval eb X.env)
      standAt spos
      holding [v, ov, iv] (setItem ov iv v)
      release [v, ov, iv] []) := by intro _; rfl)
    (hs : swapsWithSole [.Subscript (.Subscript o ea pos1) eb spos] e pos.line X.env = pure false := by rfl) (hw : swappedStores [.Subscript (.Subscript o ea pos1) eb spos] e X.env = pure none := by rfl)
    (h2 : (assignEach [.Subscript (.Subscript o ea pos1) eb spos] X.env).map (·.2) = [assign (.Subscript (.Subscript o ea pos1) eb spos) X.env] := by rfl) :
    SSW X Wx (.Assign [.Subscript (.Subscript o ea pos1) eb spos] e pos) (sSet2 i a b mv) := by
  refine ps_weak (ps_asg hv (pg_sub (pe_ix ix_list ho ha h1) hb set_list hA) hs hw h2) fun D σ H ⟨G, ρ, F, fl, ρ', W, hm, q⟩ => ?_
  unfold sSet2 at hm
  obtain ⟨⟨r, ρ1⟩, e1, hm⟩ := Option.bind_eq_some_iff.mp hm
  obtain ⟨⟨x, ρ2⟩, e2, hm⟩ := Option.bind_eq_some_iff.mp hm
  obtain ⟨ts, e3, hm⟩ := Option.bind_eq_some_iff.mp hm
  obtain ⟨m, e4, hm⟩ := Option.bind_eq_some_iff.mp hm
  obtain ⟨n, e5, hm⟩ := Option.bind_eq_some_iff.mp hm
  obtain ⟨j, e6, hm⟩ := Option.bind_eq_some_iff.mp hm
  obtain ⟨t, e7, hm⟩ := Option.bind_eq_some_iff.mp hm
  obtain ⟨us, e8, hm⟩ := Option.bind_eq_some_iff.mp hm
  obtain ⟨k, e9, hm⟩ := Option.bind_eq_some_iff.mp hm
  obtain ⟨u, e10, hm⟩ := Option.bind_eq_some_iff.mp hm
  obtain ⟨y, e11, hm⟩ := Option.bind_eq_some_iff.mp hm
  cases hm
  refine tm_use W e1 fun v H1 F1 s1 R1 => ?_
  obtain ⟨F2, s2, R2⟩ := frz_ok s1.wd R1 e2
  have W2 := s2.wd
  have hi := obAt_sl e3
  obtain ⟨v0, L, g1, g2, g3, g4⟩ := W2.sl i _ hi
  have g2' := g2
  cases g2 with
  | li k1 k2 =>
    rename_i a0 vs0 L0
    obtain ⟨w, M, k3, k4, k5⟩ := k2.get e7
    cases t with
    | da z => cases e8
    | ins c ks ts => cases e8
    | li us' =>
      cases e8
      have k4' := k4
      cases k4 with
      | li m1 m2 =>
        rename_i b0 ws0 M0
        obtain ⟨w2, M2, m3, m4, _⟩ := m2.get e10
        cases u with
        | li z => cases e11
        | ins c ks ts => cases e11
        | da z =>
          cases m4 with
          | da rz =>
            have nd := g3
            have nd0 : L0.Nodup := (List.nodup_cons.mp nd).2
            have b0L : b0 ∈ L0 := k5 b0 List.mem_cons_self
            have nb : a0 ≠ b0 := fun z => (List.nodup_cons.mp nd).1 (by rw [z]; exact b0L)
            -- the inner list's own objects are its own alone
            have ndM : (b0 :: M0).Nodup := by
              exact OtRs.ndM k2 nd0 e7 k3 k4'
            have up : ∀ c x, c ≠ b0 → H1 c = some x → upd H1 b0 (.lst (ws0.set k v)) c = some x := fun c x hc hx => by rw [upd_ne hc]; exact hx
            have inner : OtR X.kx (upd H1 b0 (.lst (ws0.set k v))) F2 (.ref b0) (.li (us.set k (.da x))) (b0 :: M0) := by
              have q := OtRs.setv (v' := v) (t' := .da x) m2 e10 m3 (.da rz) (.da R2)
              exact .li upd_same (q.frame (Same.refl _) fun c hc o ho => up c o (fun z => (List.nodup_cons.mp ndM).1 (z ▸ hc)) ho)
            have outer : OtR X.kx (upd H1 b0 (.lst (ws0.set k v))) F2 (.ref a0) (.li (ts.set j (.li (us.set k (.da x))))) (a0 :: L0) :=
              .li (up a0 _ nb k1) (OtRs.updi (fun c o hc ho => up c o (fun z => hc (by rw [z]; exact List.mem_cons_self)) ho) inner k2 nd0 e7 k3 k4')
            have S := W2.putO (s := .ob (.li ts)) (s' := .ob (.li (ts.set j (.li (us.set k (.da x)))))) (.inl ⟨rfl, rfl⟩) hi g1 g2' outer nd (fun c hc => .inl hc) (fun c o ho hc => up c o (fun z => hc (by rw [z]; exact List.mem_cons_of_mem _ b0L)) ho) (fun c hc => by
              by_cases z : c = b0
              · rw [z, upd_same]; simp
              · rw [upd_ne z]; exact hc)
            refine ⟨_, g1, _, intAt_v W2 e4, _, _, _, _, rfl, rfl, SqL.of k1, ?_, _, intAt_v W2 e5, b0, ws0, n, k, rfl, rfl, m1, ?_, q σ _ F2 S.wd ((s1.ff.trans s2.ff).trans S.ff)⟩
            · unfold atI
              rw [k2.len, e6]
              exact k3
            · rw [m2.len]; exact e9
end
section
variable {ρ : Rho} {Q : Vl → Rho → Prop} {QS : Fl → Rho → Prop} {mv : M Vl} {s : S} {i a b : Nat}
theorem ev_ix2 {ts us : List Ot} {m n : Int} {x : D} (h : obAt ρ i = some ts) (ha : intAt ρ a = some m) (hb : intAt ρ b = some n) (h1 : atI ts m = some (.li us)) (h2 : atI us n = some (.da x)) (q : Q (.fz x) ρ) : Ev (eIx2 i a b) ρ Q :=
  ⟨_, ρ, by unfold eIx2; rw [h, ha, hb]; simp only [Option.bind_some]; rw [h1]; simp only [liO, Option.bind_some]; rw [h2]; rfl, q⟩
theorem ev_lenOb {ts : List Ot} (h : obAt ρ i = some ts) (q : Q (.fz (.int (ts.length : Nat))) ρ) : Ev (eLenO i) ρ Q := ⟨_, ρ, by unfold eLenO; rw [h]; rfl, q⟩
theorem sv_set2_s (h : Ev mv ρ fun r ρ1 => ∃ x ρ2 ts m n j us k y, frz ρ1 (stl r) = some (x, ρ2) ∧ obAt ρ2 i = some ts ∧ intAt ρ2 a = some m ∧ intAt ρ2 b = some n ∧ ixN ts.length m = some j ∧ ts[j]? = some (.li us) ∧ ixN us.length n = some k ∧ us[k]? = some (.da y) ∧ Sv s (ρ2.set i (.ob (.li (ts.set j (.li (us.set k (.da x))))))) QS) : Sv (sSeq (sSet2 i a b mv) s) ρ QS := by
  obtain ⟨r, ρ1, e0, x, ρ2, ts, m, n, j, us, k, y, e1, e2, e3, e4, e5, e6, e7, e8, q⟩ := h
  refine sv_seq_eq ?_ q
  unfold sSet2
  rw [e0]
  simp only [Option.bind_some]
  rw [e1]
  simp only [Option.bind_some]
  rw [e2, e3, e4]
  simp only [Option.bind_some]
  rw [e5]
  simp only [Option.bind_some]
  rw [e6]
  simp only [liO, Option.bind_some]
  rw [e7]
  simp only [Option.bind_some]
  rw [e8]
  rfl
theorem sv_frz_l {t : Ot} {m : S} (h : ρ[i]? = some (.ob t)) (q : Sv m (ρ.set i (.d (otD t))) QS) : Sv (sFrz i m) ρ QS := by
  obtain ⟨fl, ρ1, e, q⟩ := q
  exact ⟨fl, ρ1, by unfold sFrz; rw [h]; exact e, q⟩
theorem sv_asgO_s {mo : M Ot} {t : Ot} {ρ1 : Rho} (e : mo ρ = some (t, ρ1)) (hi : ioQ ρ1[i]? = false) (q : Sv s (ρ1.set i (.ob t)) QS) : Sv (sSeq (sAsgO i mo) s) ρ QS := by
  refine sv_seq_eq ?_ q
  unfold sAsgO
  rw [e]
  simp only [Option.bind_some]
  unfold asgO
  cases h : ρ1[i]? with
  | none => rw [h] at hi; cases hi
  | some s => cases s with
    | io xs => rw [h] at hi; cases hi
    | iob xs => rw [h] at hi; cases hi
    | _ => rfl
theorem ev_sortSg {ms : M (List Vl)} (h : Ev ms ρ fun rs ρ1 => ∃ s, rs = [.fz (.str s)] ∧ s.length ≤ lim ∧ Q (.fr ((sgE s).map fun b => D.str [b])) ρ1) : Ev (eSortSg ms) ρ Q := by
  obtain ⟨rs, ρ1, e, s, rfl, hl, q⟩ := h
  exact ⟨_, ρ1, by unfold eSortSg; rw [e]; simp only [Option.bind_some]; rw [if_pos hl], q⟩
end
end Sw
namespace K55
open Sw
noncomputable def tx_0123456789abcd : List Nat := [9, 10, 32, 33, 34, 35, 36, 38, 39, 40, 41, 42, 43, 44, 45, 46, 47, 48, 49, 50, 51, 52, 53, 54, 55, 56, 57, 58, 59, 60, 61, 62, 63, 64, 65, 66, 67, 68, 69, 70, 71, 72, 73, 74, 75, 76, 77, 78, 79, 80, 81, 82, 83, 84, 85, 86, 87, 88, 89, 90, 91, 92, 93, 94, 95, 96]
noncomputable def tx_abcdefghijklmn : List Nat := [97, 98, 99, 100, 101, 102, 103, 104, 105, 106, 107, 108, 109, 110, 111, 112, 113, 114, 115, 116, 117, 118, 119, 120, 121, 122, 123, 124, 125, 126]
/-- cell_of(division, sign): slots 0=division 1=sign 2=number 3=cell -/
noncomputable def b_cell_of : S := (sSeq (sFor (iEn (aCons (eVar 0) aNil)) (gT 2 (gsC (gN 2) (gsC (gN 3) gsN))) (sIf (tE (eBin fIn (eVar 1) (eVar 3))) (sRet (eVar 2)) sNx))
  (sRet (eC .non)))
noncomputable def f_cell_of : Fn := fnS 2 4 b_cell_of
/-- state_after(self, text): slots 0=self 1=text 2=division 3=state 4=sign -/
noncomputable def b_Machine_state_after : S := (sSeq (sAsg 2 (eNew (eUn (fAt "Machine" "cells") (eVar 0))))
  (sSeq (sAsg 3 (eC (.int 0)))
  (sSeq (sFor (iSq (eVar 1)) (gN 4) (sAsg 3 (eBin fIx (eBin fIx (eUn (fAt "Machine" "rows") (eVar 0)) (eVar 3)) (eCall f_cell_of [] (aCons (eVar 2) (aCons (eVar 4) aNil))))))
  (sRet (eVar 3)))))
noncomputable def f_Machine_state_after : Fn := fnS 2 5 b_Machine_state_after
/-- accepts(self, text): slots 0=self 1=text -/
noncomputable def b_Machine_accepts : S := (sRet (eBin fIx (eUn (fAt "Machine" "accepting") (eVar 0)) (eMeth "Machine" "state_after" f_Machine_state_after (eVar 0) (aCons (eVar 1) aNil))))
noncomputable def f_Machine_accepts : Fn := fnS 2 2 b_Machine_accepts
/-- __eq__(self, other): slots 0=self 1=other -/
noncomputable def b_Machine_eq : S := (sSeq (sIf (tNot (tE (eUn (fIsC "Machine") (eVar 1)))) (sRet (eC (.bl false))) sNx)
  (sRet (eAnd (eBin fEq (eUn (fAt "Machine" "cells") (eVar 0)) (eUn (fAt "Machine" "cells") (eVar 1))) (eAnd (eBin fEq (eUn (fAt "Machine" "rows") (eVar 0)) (eUn (fAt "Machine" "rows") (eVar 1))) (eBin fEq (eUn (fAt "Machine" "accepting") (eVar 0)) (eUn (fAt "Machine" "accepting") (eVar 1)))))))
noncomputable def f_Machine_eq : Fn := fnS 2 2 b_Machine_eq
/-- __len__(self): slots 0=self -/
noncomputable def b_Machine_len : S := (sRet (eBlt cLen (aCons (eUn (fAt "Machine" "rows") (eVar 0)) aNil)))
noncomputable def f_Machine_len : Fn := fnS 1 1 b_Machine_len
/-- _law_next(_law_draw_here, _law_many): slots 0=_law_draw_here 1=_law_many 2=_law_at -/
noncomputable def b_law_next : S := (sSeq (sAsg 2 (eBin fIx (eVar 0) (eC (.int 0))))
  (sSeq (sIf (tE (eBin fLt (eVar 2) (eBlt cLen (aCons (eBin fIx (eVar 0) (eC (.int 3))) aNil)))) (sSeq (sSetI 0 (eC (.int 0)) (eBin fAdd (eVar 2) (eC (.int 1))))
  (sRet (eBin fMod (eBlt cInt (aCons (eBin fIx (eBin fIx (eVar 0) (eC (.int 3))) (eVar 2)) aNil)) (eVar 1)))) sNx)
  (sSeq (sSetI 0 (eC (.int 1)) (eBin fMod (eBlt cInt (aCons (eBin fAdd (eBin fMul (eBin fIx (eVar 0) (eC (.int 1))) (eC (.int 48271))) (eC (.int 12345))) aNil)) (eC (.int 2147483647))))
  (sSeq (sSetI 0 (eC (.int 2)) (eBin fMod (eBlt cInt (aCons (eBin fAdd (eBin fMul (eBin fIx (eVar 0) (eC (.int 2))) (eC (.int 69621))) (eC (.int 777))) aNil)) (eC (.int 2147483629))))
  (sRet (eBin fMod (eBlt cInt (aCons (eBin fAdd (eBin fDiv (eBin fIx (eVar 0) (eC (.int 1))) (eC (.int 64))) (eBin fDiv (eBin fIx (eVar 0) (eC (.int 2))) (eC (.int 128)))) aNil)) (eVar 1)))))))
noncomputable def f_law_next : Fn := fnS 2 3 b_law_next
/-- _law_signs(): slots 0=_law_signs_here -/
noncomputable def b_law_signs : S := (sSeq (sAsg 0 (eC (.str tx_0123456789abcd)))
  (sRet (eBin fAdd (eVar 0) (eC (.str tx_abcdefghijklmn)))))
noncomputable def f_law_signs : Fn := fnS 0 1 b_law_signs
/-- _law_division(_law_draw_here, _law_letters_here): slots 0=_law_draw_here 1=_law_letters_here 2=_law_signs_here 3=_law_choice 4=_law_places 5=_law_low 6=_law_many 7=_law_parts 8=_law_k 9=_law_rest 10=_law_group 11=_law_part -/
noncomputable def b_law_division : S := (sSeq (sAsg 2 (eCall f_law_signs [] aNil))
  (sSeq (sAsg 3 (eCall f_law_next [true, false] (aCons (eVar 0) (aCons (eC (.int 12)) aNil))))
  (sSeq (sIf (tE (eBin fEq (eVar 3) (eC (.int 0)))) (sRet (eTup (aCons (eVar 2) aNil))) sNx)
  (sSeq (sIf (tE (eBin fEq (eVar 3) (eC (.int 11)))) (sSeq (sAsg 5 (eCall f_law_next [true, false] (aCons (eVar 0) (aCons (eC (.int 84)) aNil))))
  (sSeq (sAsg 9 (eAdd (eSl fSlA (eVar 2) oNo (oSome (eVar 5))) (eSl fSlA (eVar 2) (oSome (eBin fAdd (eVar 5) (eC (.int 12)))) oNo)))
  (sRet (eBlt cTup (aCons (eSorted (aCons (eAdd (eLst (aCons (eVar 9) aNil)) (eLc [8] (iR2 (aCons (eVar 5) (aCons (eBin fAdd (eVar 5) (eC (.int 12))) aNil))) (gN 8) tYesM (eBin fIx (eVar 2) (eVar 8)))) aNil)) aNil))))) sNx)
  (sSeq (sAsg 4 (eLst (aCons (eC (.int 1)) (aCons (eC (.int 2)) (aCons (eC (.int 3)) aNil)))))
  (sSeq (sIf (tE (eBin fLt (eVar 3) (eC (.int 5)))) (sAsg 4 (eLc [8] (iR1 (aCons (eC (.int 3)) aNil)) (gN 8) tYesM (eCall f_law_next [true, false] (aCons (eVar 0) (aCons (eC (.int 4)) aNil))))) sNx)
  (sSeq (sAsg 5 (eC (.int 96)))
  (sSeq (sAsg 6 (eC (.int 0)))
  (sSeq (sIf (tE (eBin fIn (eVar 3) (eTup (aCons (eC (.int 1)) (aCons (eC (.int 5)) (aCons (eC (.int 6)) aNil)))))) (sSeq (sAsg 5 (eCall f_law_next [true, false] (aCons (eVar 0) (aCons (eC (.int 96)) aNil))))
  (sAsg 6 (eBin fAdd (eC (.int 1)) (eCall f_law_next [true, false] (aCons (eVar 0) (aCons (eC (.int 30)) aNil)))))) sNx)
  (sSeq (sAsg 7 (eLst (aCons (eC (.str [])) (aCons (eC (.str [])) (aCons (eC (.str [])) (aCons (eC (.str [])) (aCons (eC (.str [])) aNil)))))))
  (sSeq (sFor (iR1 (aCons (eC (.int 96)) aNil)) (gN 8) (sSeq (sAsg 10 (eC (.int 0)))
  (sSeq (sIf (tAnd (tE (eBin fLe (eVar 5) (eVar 8))) (tE (eBin fLt (eVar 8) (eAdd (eVar 5) (eVar 6))))) (sAsg 10 (eC (.int 4))) sNx)
  (sSeq (sIf (tE (eBin fIn (eBin fIx (eVar 2) (eVar 8)) (eVar 1))) (sAsg 10 (eBin fIx (eVar 4) (eMet fFind (eVar 1) (aCons (eBin fIx (eVar 2) (eVar 8)) aNil)))) sNx)
  (sSetI 7 (eVar 10) (eAdd (eBin fIx (eVar 7) (eVar 10)) (eBin fIx (eVar 2) (eVar 8))))))))
  (sRet (eBlt cTup (aCons (eSorted (aCons (eLc [11] (iSq (eVar 7)) (gN 11) (tE (eBin fNe (eVar 11) (eC (.str [])))) (eVar 11)) aNil)) aNil))))))))))))))
noncomputable def f_law_division : Fn := fnS 2 12 b_law_division
/-- _law_chain(_law_draw_here, _law_letters_here): slots 0=_law_draw_here 1=_law_letters_here 2=_law_cells 3=_law_many 4=_law_kept_here 5=_law_back 6=_law_rows 7=_law_state 8=_law_step 9=_law_row 10=_law_cell_here -/
noncomputable def b_law_chain : S := (sSeq (sAsg 2 (eCall f_law_division [true, false] (aCons (eVar 0) (aCons (eVar 1) aNil))))
  (sSeq (sAsg 3 (eBin fAdd (eC (.int 12)) (eCall f_law_next [true, false] (aCons (eVar 0) (aCons (eC (.int 29)) aNil)))))
  (sSeq (sAsg 4 (eCall f_law_next [true, false] (aCons (eVar 0) (aCons (eBlt cLen (aCons (eVar 2) aNil)) aNil))))
  (sSeq (sAsg 5 (eCall f_law_next [true, false] (aCons (eVar 0) (aCons (eVar 3) aNil))))
  (sSeq (sAsg 6 (eLst aNil))
  (sSeq (sFor (iR1 (aCons (eVar 3) aNil)) (gN 7) (sSeq (sAsg 9 (eLc [10] (iSq (eVar 2)) (gN 10) tYesM (eBlt cInt (aCons (eBin fMul (eVar 7) (eCall f_law_next [true, false] (aCons (eVar 0) (aCons (eC (.int 2)) aNil)))) aNil))))
  (sSeq (sSetI 9 (eVar 4) (eBin fAdd (eVar 7) (eC (.int 1))))
  (sSeq (sIf (tE (eBin fEq (eVar 7) (eBin fSub (eVar 3) (eC (.int 1))))) (sSetI 9 (eVar 4) (eVar 5)) sNx)
  (sApp 6 (eBlt cTup (aCons (eVar 9) aNil)))))))
  (sSeq (sAsg 8 (eBin fAdd (eC (.int 1)) (eCall f_law_next [true, false] (aCons (eVar 0) (aCons (eVar 3) aNil)))))
  (sRet (eTup (aCons (eVar 2) (aCons (eBlt cTup (aCons (eVar 6) aNil)) (aCons (eBlt cTup (aCons (eLc [7] (iR1 (aCons (eVar 3) aNil)) (gN 7) tYesM (eBin fEq (eBin fMod (eBlt cInt (aCons (eBin fAdd (eVar 7) (eC (.int 1))) aNil)) (eVar 8)) (eC (.int 0)))) aNil)) aNil))))))))))))
noncomputable def f_law_chain : Fn := fnS 2 11 b_law_chain
/-- _law_changed(_law_draw_here, _law_machine_here): slots 0=_law_draw_here 1=_law_machine_here 2=_law_found 3=_law_at 4=_law_marks 5=_law_long_here 6=_law_rows 7=_law_cell_here 8=_law_first 9=_law_others 10=_law_second 11=_law_rest 12=_law_moved 13=_law_row -/
noncomputable def b_law_changed : S := (sSeq (sAsg 2 (eLst aNil))
  (sSeq (sAsg 3 (eCall f_law_next [true, false] (aCons (eVar 0) (aCons (eBlt cLen (aCons (eBin fIx (eVar 1) (eC (.int 1))) aNil)) aNil))))
  (sSeq (sAsg 4 (eNew (eBin fIx (eVar 1) (eC (.int 2)))))
  (sSeq (sSetI 4 (eVar 3) (eNot (eBin fIx (eVar 4) (eVar 3))))
  (sSeq (sApp 2 (eTup (aCons (eBin fIx (eVar 1) (eC (.int 0))) (aCons (eBin fIx (eVar 1) (eC (.int 1))) (aCons (eBlt cTup (aCons (eVar 4) aNil)) aNil)))))
  (sSeq (sIf (tE (eBin fGt (eBlt cLen (aCons (eBin fIx (eVar 1) (eC (.int 1))) aNil)) (eC (.int 1)))) (sSeq (sAsgO 6 (eRows [13] (iSq (eBin fIx (eVar 1) (eC (.int 1)))) (gN 13) tYesM (eNew (eVar 13))))
  (sSeq (sAsg 7 (eCall f_law_next [true, false] (aCons (eVar 0) (aCons (eBlt cLen (aCons (eBin fIx (eVar 1) (eC (.int 0))) aNil)) aNil))))
  (sSeq (sSet2 6 3 7 (eBin fMod (eBlt cInt (aCons (eBin fAdd (eBin fAdd (eIx2 6 3 7) (eC (.int 1))) (eCall f_law_next [true, false] (aCons (eVar 0) (aCons (eBin fSub (eLenO 6) (eC (.int 1))) aNil)))) aNil)) (eLenO 6)))
  (sFrz 6 (sApp 2 (eTup (aCons (eBin fIx (eVar 1) (eC (.int 0))) (aCons (eBlt cTup (aCons (eLc [13] (iSq (eVar 6)) (gN 13) tYesM (eBlt cTup (aCons (eVar 13) aNil))) aNil)) (aCons (eBin fIx (eVar 1) (eC (.int 2))) aNil))))))))) sNx)
  (sSeq (sAsg 5 (eLc [7] (iSq (eBin fIx (eVar 1) (eC (.int 0)))) (gN 7) (tE (eBin fGt (eBlt cLen (aCons (eVar 7) aNil)) (eC (.int 1)))) (eVar 7)))
  (sSeq (sIf (tAnd (tE (eBin fGt (eBlt cLen (aCons (eBin fIx (eVar 1) (eC (.int 0))) aNil)) (eC (.int 1)))) (tE (eBin fGt (eBlt cLen (aCons (eVar 5) aNil)) (eC (.int 0))))) (sSeq (sAsg 8 (eBin fIx (eVar 5) (eCall f_law_next [true, false] (aCons (eVar 0) (aCons (eBlt cLen (aCons (eVar 5) aNil)) aNil)))))
  (sSeq (sAsg 9 (eLc [7] (iSq (eBin fIx (eVar 1) (eC (.int 0)))) (gN 7) (tE (eBin fNe (eVar 7) (eVar 8))) (eVar 7)))
  (sSeq (sAsg 10 (eBin fIx (eVar 9) (eCall f_law_next [true, false] (aCons (eVar 0) (aCons (eBlt cLen (aCons (eVar 9) aNil)) aNil)))))
  (sSeq (sAsg 11 (eLc [7] (iSq (eVar 9)) (gN 7) (tE (eBin fNe (eVar 7) (eVar 10))) (eVar 7)))
  (sSeq (sAsg 3 (eCall f_law_next [true, false] (aCons (eVar 0) (aCons (eBlt cLen (aCons (eVar 8) aNil)) aNil))))
  (sSeq (sAsg 12 (eMet fJoin (eC (.str [])) (aCons (eSortSg (aCons (eAdd (eVar 10) (eBin fIx (eVar 8) (eVar 3))) aNil)) aNil)))
  (sApp 2 (eTup (aCons (eBlt cTup (aCons (eSorted (aCons (eAdd (eVar 11) (eLst (aCons (eAdd (eSl fSlA (eVar 8) oNo (oSome (eVar 3))) (eSl fSlA (eVar 8) (oSome (eBin fAdd (eVar 3) (eC (.int 1)))) oNo)) (aCons (eVar 12) aNil)))) aNil)) aNil)) (aCons (eBin fIx (eVar 1) (eC (.int 1))) (aCons (eBin fIx (eVar 1) (eC (.int 2))) aNil))))))))))) sNx)
  (sRet (eVar 2))))))))))
noncomputable def f_law_changed : Fn := fnS 2 14 b_law_changed
/-- _law_draw(_law_script): slots 0=_law_script 1=_law_digits 2=_law_one 3=_law_two 4=_law_cell_here 5=_law_rest 6=_law_k -/
noncomputable def b_law_draw : S := (sSeq (sAsg 1 (eLst aNil))
  (sSeq (sAsg 2 (eC (.int 7)))
  (sSeq (sAsg 3 (eC (.int 11)))
  (sSeq (sFor (iSq (eVar 0)) (gN 4) (sSeq (sAsg 2 (eBin fMod (eBlt cInt (aCons (eBin fAdd (eBin fMul (eVar 2) (eC (.int 48271))) (eVar 4)) aNil)) (eC (.int 2147483647))))
  (sSeq (sAsg 3 (eBin fMod (eBlt cInt (aCons (eBin fAdd (eBin fMul (eVar 3) (eC (.int 69621))) (eBin fDiv (eVar 4) (eC (.int 1009)))) aNil)) (eC (.int 2147483629))))
  (sSeq (sAsg 5 (eVar 4))
  (sSeq (sIf (tE (eBin fLt (eVar 4) (eBin fPow (eC (.int 10)) (eC (.int 18))))) (sAsg 5 (eC (.int 0))) sNx)
  (sFor (iR1 (aCons (eC (.int 60)) aNil)) (gN 6) (sIf (tE (eBin fGt (eVar 5) (eC (.int 0)))) (sSeq (sApp 1 (eBin fMod (eBlt cInt (aCons (eVar 5) aNil)) (eC (.int 5040))))
  (sAsg 5 (eBin fDiv (eVar 5) (eC (.int 5040))))) sNx)))))))
  (sRet (eLst (aCons (eC (.int 0)) (aCons (eVar 2) (aCons (eVar 3) (aCons (eVar 1) (aCons (eC (.int 3)) aNil)))))))))))
noncomputable def f_law_draw : Fn := fnS 1 7 b_law_draw
/-- _law_fine(_law_draw_here, _law_most): slots 0=_law_draw_here 1=_law_most 2=_law_signs_here 3=_law_many 4=_law_rows 5=_law_state 6=_law_sign 7=_law_row -/
noncomputable def b_law_fine : S := (sSeq (sAsg 2 (eCall f_law_signs [] aNil))
  (sSeq (sAsg 3 (eBin fAdd (eC (.int 1)) (eCall f_law_next [true, false] (aCons (eVar 0) (aCons (eVar 1) aNil)))))
  (sSeq (sAsg 4 (eLst aNil))
  (sSeq (sFor (iR1 (aCons (eVar 3) aNil)) (gN 5) (sApp 4 (eBlt cTup (aCons (eLc [6] (iSq (eVar 2)) (gN 6) tYesM (eCall f_law_next [true, false] (aCons (eVar 0) (aCons (eVar 3) aNil)))) aNil))))
  (sRet (eTup (aCons (eBlt cTup (aCons (eLc [6] (iSq (eVar 2)) (gN 6) tYesM (eVar 6)) aNil)) (aCons (eBlt cTup (aCons (eVar 4) aNil)) (aCons (eBlt cTup (aCons (eLc [7] (iSq (eVar 4)) (gN 7) tYesM (eBin fEq (eCall f_law_next [true, false] (aCons (eVar 0) (aCons (eC (.int 2)) aNil))) (eC (.int 0)))) aNil)) aNil)))))))))
noncomputable def f_law_fine : Fn := fnS 2 8 b_law_fine
/-- _law_cell(_law_cells, _law_sign): slots 0=_law_cells 1=_law_sign 2=_law_k -/
noncomputable def b_law_cell : S := (sSeq (sFor (iR1 (aCons (eBlt cLen (aCons (eVar 0) aNil)) aNil)) (gN 2) (sIf (tE (eBin fIn (eVar 1) (eBin fIx (eVar 0) (eVar 2)))) (sRet (eVar 2)) sNx))
  (sRet (eC (.int 0))))
noncomputable def f_law_cell : Fn := fnS 2 3 b_law_cell
/-- _law_from(_law_machine_here, _law_state, _law_text): slots 0=_law_machine_here 1=_law_state 2=_law_text 3=_law_sign -/
noncomputable def b_law_from : S := (sSeq (sFor (iSq (eVar 2)) (gN 3) (sAsg 1 (eBin fIx (eBin fIx (eBin fIx (eVar 0) (eC (.int 1))) (eVar 1)) (eCall f_law_cell [] (aCons (eBin fIx (eVar 0) (eC (.int 0))) (aCons (eVar 3) aNil))))))
  (sRet (eVar 1)))
noncomputable def f_law_from : Fn := fnS 3 4 b_law_from
/-- _law_int(_law_value): slots 0=_law_value -/
noncomputable def b_law_int : S := (sRet (eAnd (eUn (fIsi "int") (eVar 0)) (eNot (eUn (fIsi "bool") (eVar 0)))))
noncomputable def f_law_int : Fn := fnS 1 1 b_law_int
/-- _law_kept(_law_given, _law_machine_here): slots 0=_law_given 1=_law_machine_here -/
noncomputable def b_law_kept : S := (sRet (eAnd (eBin fEq (eUn (fAt "Machine" "cells") (eVar 0)) (eBin fIx (eVar 1) (eC (.int 0)))) (eAnd (eBin fEq (eUn (fAt "Machine" "rows") (eVar 0)) (eBin fIx (eVar 1) (eC (.int 1)))) (eBin fEq (eUn (fAt "Machine" "accepting") (eVar 0)) (eBin fIx (eVar 1) (eC (.int 2)))))))
noncomputable def f_law_kept : Fn := fnS 2 2 b_law_kept
/-- _law_letters(_law_draw_here): slots 0=_law_draw_here 1=_law_choice 2=_law_signs_here 3=_law_first 4=_law_second 5=_law_third 6=_law_k -/
noncomputable def b_law_letters : S := (sSeq (sAsg 1 (eCall f_law_next [true, false] (aCons (eVar 0) (aCons (eC (.int 6)) aNil))))
  (sSeq (sIf (tE (eBin fEq (eVar 1) (eC (.int 0)))) (sRet (eC (.str [10, 97, 98]))) sNx)
  (sSeq (sIf (tE (eBin fEq (eVar 1) (eC (.int 1)))) (sRet (eC (.str [32, 97, 98]))) sNx)
  (sSeq (sIf (tE (eBin fEq (eVar 1) (eC (.int 2)))) (sRet (eC (.str [97, 98, 99]))) sNx)
  (sSeq (sAsg 2 (eCall f_law_signs [] aNil))
  (sSeq (sAsg 3 (eCall f_law_next [true, false] (aCons (eVar 0) (aCons (eC (.int 96)) aNil))))
  (sSeq (sAsg 4 (eBin fMod (eBlt cInt (aCons (eBin fAdd (eBin fAdd (eVar 3) (eC (.int 1))) (eCall f_law_next [true, false] (aCons (eVar 0) (aCons (eC (.int 95)) aNil)))) aNil)) (eC (.int 96))))
  (sSeq (sAsg 5 (eBin fMod (eBlt cInt (aCons (eBin fAdd (eBin fAdd (eVar 3) (eC (.int 1))) (eCall f_law_next [true, false] (aCons (eVar 0) (aCons (eC (.int 95)) aNil)))) aNil)) (eC (.int 96))))
  (sSeq (sIf (tE (eBin fEq (eVar 5) (eVar 4))) (sAsg 5 (eBin fMod (eBlt cInt (aCons (eBin fAdd (eVar 5) (eC (.int 1))) aNil)) (eC (.int 96)))) sNx)
  (sSeq (sIf (tE (eBin fEq (eVar 5) (eVar 3))) (sAsg 5 (eBin fMod (eBlt cInt (aCons (eBin fAdd (eVar 5) (eC (.int 1))) aNil)) (eC (.int 96)))) sNx)
  (sRet (eMet fJoin (eC (.str [])) (aCons (eLc [6] (iR1 (aCons (eC (.int 96)) aNil)) (gN 6) (tOr (tE (eBin fEq (eVar 6) (eVar 3))) (tOr (tE (eBin fEq (eVar 6) (eVar 4))) (tE (eBin fEq (eVar 6) (eVar 5))))) (eBin fIx (eVar 2) (eVar 6))) aNil)))))))))))))
noncomputable def f_law_letters : Fn := fnS 1 7 b_law_letters
/-- _law_long(_law_draw_here, _law_cells, _law_most): slots 0=_law_draw_here 1=_law_cells 2=_law_most 3=_law_text 4=_law_piece 5=_law_other 6=_law_k -/
noncomputable def b_law_long : S := (sSeq (sAsg 3 (eC (.str [])))
  (sSeq (sAsg 4 (eBin fIx (eVar 1) (eCall f_law_next [true, false] (aCons (eVar 0) (aCons (eBlt cLen (aCons (eVar 1) aNil)) aNil)))))
  (sSeq (sAsg 5 (eBin fIx (eVar 1) (eCall f_law_next [true, false] (aCons (eVar 0) (aCons (eBlt cLen (aCons (eVar 1) aNil)) aNil)))))
  (sSeq (sFor (iR1 (aCons (eBin fAdd (eC (.int 13)) (eCall f_law_next [true, false] (aCons (eVar 0) (aCons (eBin fSub (eVar 2) (eC (.int 12))) aNil)))) aNil)) (gN 6) (sSeq (sAsg 3 (eAdd (eVar 3) (eBin fIx (eVar 4) (eCall f_law_next [true, false] (aCons (eVar 0) (aCons (eBlt cLen (aCons (eVar 4) aNil)) aNil))))))
  (sIf (tE (eBin fEq (eBin fMod (eVar 6) (eC (.int 5))) (eC (.int 2)))) (sAsg 3 (eAdd (eVar 3) (eBin fIx (eVar 5) (eC (.int 0))))) sNx)))
  (sRet (eSl fSlA (eVar 3) oNo (oSome (eVar 2))))))))
noncomputable def f_law_long : Fn := fnS 3 7 b_law_long
/-- _law_machine(_law_draw_here, _law_letters_here, _law_most): slots 0=_law_draw_here 1=_law_letters_here 2=_law_most 3=_law_cells 4=_law_many 5=_law_shape 6=_law_rows 7=_law_marks 8=_law_state 9=_law_row 10=_law_cell_here 11=_law_later -/
noncomputable def b_law_machine : S := (sSeq (sAsg 3 (eCall f_law_division [true, false] (aCons (eVar 0) (aCons (eVar 1) aNil))))
  (sSeq (sAsg 4 (eBin fAdd (eC (.int 1)) (eCall f_law_next [true, false] (aCons (eVar 0) (aCons (eVar 2) aNil)))))
  (sSeq (sAsg 5 (eCall f_law_next [true, false] (aCons (eVar 0) (aCons (eC (.int 6)) aNil))))
  (sSeq (sAsg 6 (eLst aNil))
  (sSeq (sAsg 7 (eLst aNil))
  (sSeq (sFor (iR1 (aCons (eVar 4) aNil)) (gN 8) (sSeq (sAsg 9 (eLst aNil))
  (sSeq (sFor (iSq (eVar 3)) (gN 10) (sSeq (sAsg 11 (eCall f_law_next [true, false] (aCons (eVar 0) (aCons (eVar 4) aNil))))
  (sSeq (sIf (tE (eBin fEq (eVar 5) (eC (.int 0)))) (sAsg 11 (eBlt cMin (aCons (eBin fSub (eVar 4) (eC (.int 1))) (aCons (eBin fAdd (eBin fAdd (eVar 8) (eC (.int 1))) (eBin fDiv (eVar 11) (eC (.int 2)))) aNil)))) sNx)
  (sSeq (sIf (tAnd (tE (eBin fEq (eVar 5) (eC (.int 1)))) (tE (eBin fEq (eCall f_law_next [true, false] (aCons (eVar 0) (aCons (eC (.int 2)) aNil))) (eC (.int 0))))) (sAsg 11 (eBin fMod (eBlt cInt (aCons (eBin fAdd (eVar 8) (eC (.int 1))) aNil)) (eVar 4))) sNx)
  (sSeq (sIf (tAnd (tE (eBin fEq (eVar 5) (eC (.int 2)))) (tOr (tE (eBin fEq (eVar 8) (eBin fSub (eVar 4) (eC (.int 1))))) (tE (eBin fEq (eCall f_law_next [true, false] (aCons (eVar 0) (aCons (eC (.int 2)) aNil))) (eC (.int 0)))))) (sAsg 11 (eBin fSub (eVar 4) (eC (.int 1)))) sNx)
  (sApp 9 (eVar 11)))))))
  (sSeq (sApp 6 (eBlt cTup (aCons (eVar 9) aNil)))
  (sApp 7 (eBin fLt (eCall f_law_next [true, false] (aCons (eVar 0) (aCons (eC (.int 5)) aNil))) (eC (.int 2))))))))
  (sSeq (sIf (tAnd (tE (eBin fIn (eVar 5) (eTup (aCons (eC (.int 0)) (aCons (eC (.int 2)) aNil))))) (tE (eBin fGt (eCall f_law_next [true, false] (aCons (eVar 0) (aCons (eC (.int 4)) aNil))) (eC (.int 0))))) (sSetI 7 (eBin fSub (eVar 4) (eC (.int 1))) (eC (.bl false))) sNx)
  (sSeq (sIf (tAnd (tE (eBin fNi (eC (.bl true)) (eVar 7))) (tE (eBin fGt (eCall f_law_next [true, false] (aCons (eVar 0) (aCons (eC (.int 8)) aNil))) (eC (.int 0))))) (sSetI 7 (eCall f_law_next [true, false] (aCons (eVar 0) (aCons (eVar 4) aNil))) (eC (.bl true))) sNx)
  (sRet (eTup (aCons (eVar 3) (aCons (eBlt cTup (aCons (eVar 6) aNil)) (aCons (eBlt cTup (aCons (eVar 7) aNil)) aNil)))))))))))))
noncomputable def f_law_machine : Fn := fnS 3 12 b_law_machine
/-- __init__(self, cells, rows, accepting): slots 0=self 1=cells 2=rows 3=accepting -/
noncomputable def i_Machine : SI0 := (iSeq (iFld "cells" (eVar 1))
  (iSeq (iFld "rows" (eVar 2))
  (iSeq (iFld "accepting" (eVar 3))
  iNx)))
noncomputable def g_Machine : List D → Option (List PySem.Str × List D) := fun ds => if ds.length = 3 then (i_Machine (.no :: (ds.map .d ++ List.replicate (4 - (3 + 1)) .no), [], [])).bind fun r => some r.2 else none
theorem g_Machine_len : ∀ (ds : List D) (z : List PySem.Str × List D), g_Machine ds = some z → ds.length = 3 := fun ds z h => by
  unfold g_Machine at h
  split at h
  · assumption
  · cases h
/-- _law_made(_law_machine_here): slots 0=_law_machine_here -/
noncomputable def b_law_made : S := (sRet (eMake "Machine" g_Machine (aCons (eBin fIx (eVar 0) (eC (.int 0))) (aCons (eBin fIx (eVar 0) (eC (.int 1))) (aCons (eBin fIx (eVar 0) (eC (.int 2))) aNil)))))
noncomputable def f_law_made : Fn := fnS 1 1 b_law_made
/-- _law_over(_law_draw_here, _law_cells, _law_most): slots 0=_law_draw_here 1=_law_cells 2=_law_most 3=_law_text 4=_law_k 5=_law_cell_here -/
noncomputable def b_law_over : S := (sSeq (sAsg 3 (eC (.str [])))
  (sSeq (sFor (iR1 (aCons (eCall f_law_next [true, false] (aCons (eVar 0) (aCons (eBin fAdd (eVar 2) (eC (.int 1))) aNil))) aNil)) (gN 4) (sSeq (sAsg 5 (eBin fIx (eVar 1) (eCall f_law_next [true, false] (aCons (eVar 0) (aCons (eBlt cLen (aCons (eVar 1) aNil)) aNil)))))
  (sAsg 3 (eAdd (eVar 3) (eBin fIx (eVar 5) (eCall f_law_next [true, false] (aCons (eVar 0) (aCons (eBlt cLen (aCons (eVar 5) aNil)) aNil))))))))
  (sRet (eVar 3))))
noncomputable def f_law_over : Fn := fnS 3 6 b_law_over
/-- law(_law_script): slots 0=_law_script 1=_law_draw_here 2=_law_letters_here 3=_law_machines 4=_law_made_here 5=_law_texts 6=_law_text 7=_law_k 8=_law_other 9=_law_machine_here 10=_law_due 11=_law_state 12=_law_told -/
noncomputable def b_law : S := (sSeq (sAsg 1 (eCall f_law_draw [] (aCons (eVar 0) aNil)))
  (sSeq (sAsg 2 (eCall f_law_letters [true] (aCons (eVar 1) aNil)))
  (sSeq (sAsg 3 (eLst (aCons (eCall f_law_machine [true, false, false] (aCons (eVar 1) (aCons (eVar 2) (aCons (eC (.int 5)) aNil)))) (aCons (eCall f_law_machine [true, false, false] (aCons (eVar 1) (aCons (eVar 2) (aCons (eC (.int 5)) aNil)))) aNil))))
  (sSeq (sIf (tE (eBin (orF fEq (fOwnEq "Machine" f_Machine_eq)) (eCall f_law_next [true, false] (aCons (eVar 1) (aCons (eC (.int 8)) aNil))) (eC (.int 0)))) (sSetI 3 (eC (.int 0)) (eCall f_law_chain [true, false] (aCons (eVar 1) (aCons (eVar 2) aNil)))) sNx)
  (sSeq (sIf (tE (eBin (orF fEq (fOwnEq "Machine" f_Machine_eq)) (eCall f_law_next [true, false] (aCons (eVar 1) (aCons (eC (.int 12)) aNil))) (eC (.int 0)))) (sSetI 3 (eC (.int 1)) (eCall f_law_fine [true, false] (aCons (eVar 1) (aCons (eC (.int 5)) aNil)))) sNx)
  (sSeq (sAsg 4 (eLc [9] (iSq (eVar 3)) (gN 9) tYesM (eCall f_law_made [] (aCons (eVar 9) aNil))))
  (sSeq (sAsg 5 (eAdd (eAdd (eLst (aCons (eC (.str [])) aNil)) (eLc [7] (iR1 (aCons (eC (.int 3)) aNil)) (gN 7) tYesM (eCall f_law_over [true, false, false] (aCons (eVar 1) (aCons (eBin fIx (eBin fIx (eVar 3) (eC (.int 0))) (eC (.int 0))) (aCons (eC (.int 12)) aNil)))))) (eLst (aCons (eCall f_law_over [true, false, false] (aCons (eVar 1) (aCons (eBin fIx (eBin fIx (eVar 3) (eC (.int 1))) (eC (.int 0))) (aCons (eC (.int 12)) aNil)))) aNil))))
  (sSeq (sIf (tE (eBin (orF fEq (fOwnEq "Machine" f_Machine_eq)) (eCall f_law_next [true, false] (aCons (eVar 1) (aCons (eC (.int 2)) aNil))) (eC (.int 0)))) (sApp 5 (eCall f_law_long [true, false, false] (aCons (eVar 1) (aCons (eBin fIx (eBin fIx (eVar 3) (eC (.int 0))) (eC (.int 0))) (aCons (eC (.int 300)) aNil))))) sNx)
  (sSeq (sFor (iSq (eVar 5)) (gN 6) (sFor (iR1 (aCons (eC (.int 2)) aNil)) (gN 7) (sSeq (sAsg 10 (eCall f_law_from [] (aCons (eBin fIx (eVar 3) (eVar 7)) (aCons (eC (.int 0)) (aCons (eVar 6) aNil)))))
  (sSeq (sAsg 11 (eMeth "Machine" "state_after" f_Machine_state_after (eBin fIx (eVar 4) (eVar 7)) (aCons (eVar 6) aNil)))
  (sSeq (sIf (tOr (tNot (tE (eCall f_law_int [] (aCons (eVar 11) aNil)))) (tE (eBin fNe (eVar 11) (eVar 10)))) (sRet (eC (.bl false))) sNx)
  (sSeq (sAsg 12 (eMeth "Machine" "accepts" f_Machine_accepts (eBin fIx (eVar 4) (eVar 7)) (aCons (eVar 6) aNil)))
  (sIf (tOr (tNot (tE (eUn (fIsi "bool") (eVar 12)))) (tE (eBin fNe (eVar 12) (eBin fIx (eBin fIx (eBin fIx (eVar 3) (eVar 7)) (eC (.int 2))) (eVar 10))))) (sRet (eC (.bl false))) sNx)))))))
  (sSeq (sFor (iR1 (aCons (eC (.int 2)) aNil)) (gN 7) (sSeq (sIf (tOr (tE (eBin fNe (eBlt (cLenO "Machine" f_Machine_len) (aCons (eBin fIx (eVar 4) (eVar 7)) aNil)) (eBlt (cLenO "Machine" f_Machine_len) (aCons (eBin fIx (eBin fIx (eVar 3) (eVar 7)) (eC (.int 1))) aNil)))) (tNot (tE (eCall f_law_kept [] (aCons (eBin fIx (eVar 4) (eVar 7)) (aCons (eBin fIx (eVar 3) (eVar 7)) aNil)))))) (sRet (eC (.bl false))) sNx)
  (sSeq (sIf (tOr (tE (eBin fNt (eBin (orF fEq (fOwnEq "Machine" f_Machine_eq)) (eBin fIx (eVar 4) (eVar 7)) (eCall f_law_made [] (aCons (eBin fIx (eVar 3) (eVar 7)) aNil))) (eC (.bl true)))) (tE (eBin fNt (eBin (orF fEq (fOwnEq "Machine" f_Machine_eq)) (eBin fIx (eVar 4) (eVar 7)) (eBin fIx (eVar 3) (eVar 7))) (eC (.bl false))))) (sRet (eC (.bl false))) sNx)
  (sFor (iSq (eCall f_law_changed [true, false] (aCons (eVar 1) (aCons (eBin fIx (eVar 3) (eVar 7)) aNil)))) (gN 8) (sIf (tOr (tE (eBin fNt (eBin (orF fEq (fOwnEq "Machine" f_Machine_eq)) (eBin fIx (eVar 4) (eVar 7)) (eCall f_law_made [] (aCons (eVar 8) aNil))) (eC (.bl false)))) (tE (eBin fNt (eBin (orF fEq (fOwnEq "Machine" f_Machine_eq)) (eCall f_law_made [] (aCons (eVar 8) aNil)) (eBin fIx (eVar 4) (eVar 7))) (eC (.bl false))))) (sRet (eC (.bl false))) sNx)))))
  (sRet (eC (.bl true)))))))))))))
noncomputable def f_law : Fn := fnS 1 13 b_law
end K55
namespace K55
open Sw L2
structure Mc where
  cells : List (List Nat)
  rows : List (List Nat)
  marks : List Bool
noncomputable abbrev nD (n : Nat) : D := .int (n : Nat)
noncomputable abbrev cellsD (m : Mc) : D := .tup (m.cells.map .str)
noncomputable abbrev rowD (r : List Nat) : D := .tup (r.map nD)
noncomputable abbrev rowsD (m : Mc) : D := .tup (m.rows.map rowD)
noncomputable abbrev marksD (m : Mc) : D := .tup (m.marks.map .bl)
noncomputable abbrev MD (m : Mc) : D := .tup [cellsD m, rowsD m, marksD m]
noncomputable abbrev OD (m : Mc) : D := .obj "Machine" ["cells", "rows", "accepting"] [cellsD m, rowsD m, marksD m]
structure Ok (m : Mc) : Prop where
  n1 : 1 ≤ m.rows.length
  n2 : m.rows.length ≤ 100
  ml : m.marks.length = m.rows.length
  rw : ∀ r ∈ m.rows, r.length = m.cells.length ∧ ∀ t ∈ r, t < m.rows.length
  c2 : m.cells.length ≤ 96
  pt : m.cells.flatten.Perm SGN
  ne : ∀ c ∈ m.cells, c ≠ []
noncomputable def Bd (m : Mc) : Prop := m.cells.length ≤ 13 ∨ ∀ c ∈ m.cells, c.length ≤ 1
noncomputable def rowV (cells : List (List Nat)) (b : List Int) (r : List Nat) : Int := ((cells.zip r).map fun p => (p.1.length : Int) * b.getD p.2 0).sum
noncomputable def step (m : Mc) (b : List Int) : List Int := m.rows.map (rowV m.cells b)
noncomputable def stp (m : Mc) : Nat → List Int → List Int
  | 0, b => b
  | k + 1, b => stp m k (step m b)
noncomputable def bi (b : Bool) : Int := if b then 1 else 0
noncomputable def bk (m : Mc) (k : Nat) : List Int := stp m k (m.marks.map bi)
noncomputable def cellOf (cells : List (List Nat)) (c : Nat) : Nat := cells.findIdx fun x => decide (c ∈ x)
theorem cellOf_lt {m : Mc} (h : Ok m) {c : Nat} (hc : c ∈ SGN) : cellOf m.cells c < m.cells.length := by
  have : c ∈ m.cells.flatten := h.pt.mem_iff.mpr hc
  obtain ⟨x, hx, hcx⟩ := List.mem_flatten.mp this
  exact List.findIdx_lt_length_of_exists ⟨x, hx, decide_eq_true hcx⟩
theorem cellOf_at {cells : List (List Nat)} (nd : cells.flatten.Nodup) {i : Nat} {x : List Nat} {c : Nat} (hi : cells[i]? = some x) (hc : c ∈ x) : cellOf cells c = i := by
  induction cells generalizing i with
  | nil => simp at hi
  | cons y cells ih =>
    rw [List.flatten_cons] at nd
    obtain ⟨n1, n2, n3⟩ := List.nodup_append.mp nd
    cases i with
    | zero =>
      simp at hi
      subst hi
      unfold cellOf
      rw [List.findIdx_cons, decide_eq_true hc]
      rfl
    | succ i =>
      simp at hi
      have : ¬ c ∈ y := fun hy => n3 c hy c (List.mem_flatten.mpr ⟨x, List.mem_of_getElem? hi, hc⟩) rfl
      unfold cellOf
      rw [List.findIdx_cons, decide_eq_false this]
      have := ih n2 hi
      unfold cellOf at this
      rw [this]
      rfl
end K55
open Sw L2
local macro_rules | `(tactic| walk_at "fn") => `(tactic| (fail))
local macro_rules | `(tactic| walk_at "zev") => `(tactic| (with_reducible refine ev_meth ?_))
local macro_rules | `(tactic| walk_at "zev") => `(tactic| (first | with_reducible refine ev_eNot ?_ | with_reducible refine ev_eIf ?_ | with_reducible refine ev_chain ?_ | with_reducible refine ev_call ?_ | with_reducible refine ev_prop ?_))
local macro_rules | `(tactic| walk_at "zev") => `(tactic| (first | with_reducible refine ev_tAnd ?_ | with_reducible refine ev_tOr ?_ | with_reducible refine ev_tNot ?_ | with_reducible refine ev_eAnd ?_ | with_reducible refine ev_eOr ?_))
local macro_rules | `(tactic| walk_at "zev") => `(tactic| (first | with_reducible refine ev_sl ?_ | with_reducible refine ev_tup ?_ | with_reducible refine ev_lst ?_ | with_reducible refine ev_tE ?_ | with_reducible refine ev_tyes ?_))
local macro_rules | `(tactic| walk_at "zev") => `(tactic| (first | with_reducible refine ev_acons ?_ | with_reducible refine ev_blt ?_ | with_reducible refine ev_met ?_ | with_reducible refine ev_ono ?_ | with_reducible refine ev_osome ?_))
local macro_rules | `(tactic| walk_at "zev") => `(tactic| (first | ((with_reducible refine' ev_vi ?s0 ?_); (case s0 => (rfl))) | with_reducible refine ev_bin ?_ | with_reducible refine ev_add ?_ | with_reducible refine ev_un ?_ | with_reducible refine ev_anil ?_))
local macro_rules | `(tactic| walk_at "zev") => `(tactic| (first | ((with_reducible refine' ev_tAnd_d ?s0 ?s1 ?_); (case s0 => (intro Q q; walk_at "g"; (first | exact q | exact toD_n q | exact toD_t q | exact toD_f q | exact toD_b q))); (case s1 => (intro hp Q q; walk_at "g"; (first | exact q | exact toD_n q | exact toD_t q | exact toD_f q | exact toD_b q)))) | ((with_reducible refine' ev_tOr_d ?s0 ?s1 ?_); (case s0 => (intro Q q; walk_at "g"; (first | exact q | exact toD_n q | exact toD_t q | exact toD_f q | exact toD_b q))); (case s1 => (intro hp Q q; walk_at "g"; (first | exact q | exact toD_n q | exact toD_t q | exact toD_f q | exact toD_b q)))) | with_reducible refine ev_c ?_ | ((with_reducible refine' ev_vd ?s0 ?_); (case s0 => (rfl))) | ((with_reducible refine' ev_vo ?s0 ?_); (case s0 => (rfl)))))
local macro_rules | `(tactic| walk_at "zgv") => `(tactic| (((with_reducible refine' giv_ixs_all ?s0 ?s1 ?s2 ?_); (case s0 => (first | assumption | decide | omega | (show _ ≤ 16777216; omega) | (show _ < 16777216; omega) | (simp only [List.length_append, List.length_cons, List.length_nil, List.length_replicate, List.length_map, List.length_take, List.length_drop, List.length_dropLast]; first | omega | (show _ ≤ 16777216; omega)))); (case s1 => (first | assumption | decide | omega)); (case s2 => (first | assumption | (refine Int.lt_of_lt_of_le (by assumption) ?_; decide) | (show _ < (_ : Int); omega) | (simp only [List.length_append, List.length_cons, List.length_nil]; omega))); intro _ _)))
local macro_rules | `(tactic| walk_at "zgv") => `(tactic| (first | with_reducible refine giv q_isi_bool_int ?_ | with_reducible refine giv q_isi_bool_str ?_ | with_reducible refine giv q_isi_bool_lst ?_ | with_reducible refine giv q_isi_bool_tup ?_ | ((with_reducible refine' giv ?s0 ?_); (case s0 => (first | exact (rfl : _ = some (D.bl true)) | exact (rfl : _ = some (D.bl false)))))))
local macro_rules | `(tactic| walk_at "zgv") => `(tactic| (first | with_reducible refine giv q_isi_int_str ?_ | with_reducible refine giv q_isi_int_lst ?_ | with_reducible refine giv q_isi_int_tup ?_ | with_reducible refine giv q_isi_bool_non ?_ | with_reducible refine giv q_isi_bool_bl ?_))
local macro_rules | `(tactic| walk_at "zgv") => `(tactic| (first | with_reducible refine giv q_isi_str_lst ?_ | with_reducible refine giv q_isi_str_tup ?_ | with_reducible refine giv q_isi_int_non ?_ | with_reducible refine giv q_isi_int_bl ?_ | with_reducible refine giv q_isi_int_int ?_))
local macro_rules | `(tactic| walk_at "zgv") => `(tactic| (first | with_reducible refine giv q_isi_list_tup ?_ | with_reducible refine giv q_isi_str_non ?_ | with_reducible refine giv q_isi_str_bl ?_ | with_reducible refine giv q_isi_str_int ?_ | with_reducible refine giv q_isi_str_str ?_))
local macro_rules | `(tactic| walk_at "zgv") => `(tactic| (first | with_reducible refine giv q_isi_list_non ?_ | with_reducible refine giv q_isi_list_bl ?_ | with_reducible refine giv q_isi_list_int ?_ | with_reducible refine giv q_isi_list_str ?_ | with_reducible refine giv q_isi_list_lst ?_))
local macro_rules | `(tactic| walk_at "zgv") => `(tactic| (first | with_reducible refine giv q_isi_tuple_bl ?_ | with_reducible refine giv q_isi_tuple_int ?_ | with_reducible refine giv q_isi_tuple_str ?_ | with_reducible refine giv q_isi_tuple_lst ?_ | with_reducible refine giv q_isi_tuple_tup ?_))
local macro_rules | `(tactic| walk_at "zgv") => `(tactic| (first | with_reducible refine giv r_ntn4 ?_ | with_reducible refine giv r_ntn5 ?_ | with_reducible refine giv r_eqn1 ?_ | with_reducible refine giv r_eqn2 ?_ | with_reducible refine giv q_isi_tuple_non ?_))
local macro_rules | `(tactic| walk_at "zgv") => `(tactic| (first | with_reducible refine giv r_isn4 ?_ | with_reducible refine giv r_isn5 ?_ | with_reducible refine giv r_ntn1 ?_ | with_reducible refine giv r_ntn2 ?_ | with_reducible refine giv r_ntn3 ?_))
local macro_rules | `(tactic| walk_at "zgv") => `(tactic| (first | with_reducible refine giv r_max2 ?_ | with_reducible refine giv r_min3 ?_ | with_reducible refine giv r_isn1 ?_ | with_reducible refine giv r_isn2 ?_ | with_reducible refine giv r_isn3 ?_))
local macro_rules | `(tactic| walk_at "zgv") => `(tactic| (first | with_reducible refine giv r_fIsi3 ?_ | with_reducible refine giv r_fIsi4 ?_ | with_reducible refine giv r_fIsi5 ?_ | with_reducible refine giv r_fIsi6 ?_ | with_reducible refine giv r_min2 ?_))
local macro_rules | `(tactic| walk_at "zgv") => `(tactic| (first | with_reducible refine giv r_int1 ?_ | with_reducible refine giv r_fFind ?_ | with_reducible refine giv r_rev1 ?_ | with_reducible refine giv r_fIsi1 ?_ | with_reducible refine giv r_fIsi2 ?_))
local macro_rules | `(tactic| walk_at "zgv") => `(tactic| (first | with_reducible refine giv r_ins ?_ | with_reducible refine giv r_nis ?_ | with_reducible refine giv r_neg ?_ | with_reducible refine giv r_len2 ?_ | with_reducible refine giv r_len3 ?_))
local macro_rules | `(tactic| walk_at "zgv") => `(tactic| (first | with_reducible refine giv r_nei ?_ | with_reducible refine giv r_nes ?_ | with_reducible refine giv r_neb ?_ | with_reducible refine giv r_isb ?_ | with_reducible refine giv r_ntb ?_))
local macro_rules | `(tactic| walk_at "zgv") => `(tactic| (first | with_reducible refine giv r_gt ?_ | with_reducible refine giv r_ge ?_ | with_reducible refine giv r_eqi ?_ | with_reducible refine giv r_eqs ?_ | with_reducible refine giv r_eqb ?_))
local macro_rules | `(tactic| walk_at "zgv") => `(tactic| (first | with_reducible refine giv r_add1 ?_ | with_reducible refine giv r_sub ?_ | with_reducible refine giv r_lt ?_ | with_reducible refine giv r_lts ?_ | with_reducible refine giv r_le ?_))
local macro_rules | `(tactic| walk_at "zgv") => `(tactic| (first | ((with_reducible refine' giv_orr ?s0 ?_); (case s0 => (rfl))) | with_reducible refine giv_orl ?_ | ((with_reducible refine' giv_own2 ?s0 ?s1 ?_); (case s0 => (exact isOf_obj)); (case s1 => (exact isOf_obj))) | ((with_reducible refine' giv_own1 ?s0 ?_); (case s0 => (exact isOf_obj))) | ((with_reducible refine' giv_ownIn ?s0 ?s1 ?_); (case s0 => (exact isOf_obj)); (case s1 => (rfl)))))
local macro_rules | `(tactic| walk_at "zgv") => `(tactic| (first | ((with_reducible refine' giv_str ?s0 ?_); (case s0 => (first | assumption | decide | omega))) | with_reducible refine giv_strN ?_ | with_reducible refine giv_strS ?_ | ((with_reducible refine' giv_at ?s0 ?_); (case s0 => (rfl))) | with_reducible refine giv_isC ?_))
local macro_rules | `(tactic| walk_at "zgv") => `(tactic| (first | ((with_reducible refine' giv_sldT ?s0 ?s1 ?_); (case s0 => (first | assumption | decide | omega)); (case s1 => (first | assumption | decide | omega))) | ((with_reducible refine' giv_sltT ?s0 ?s1 ?_); (case s0 => (first | assumption | decide | omega)); (case s1 => (first | assumption | decide | omega))) | with_reducible refine giv_A ?_ | with_reducible refine giv_tup ?_ | with_reducible refine giv_tupt ?_))
local macro_rules | `(tactic| walk_at "zgv") => `(tactic| (first | ((with_reducible refine' giv_sldl ?s0 ?_); (case s0 => (first | assumption | decide | omega))) | ((with_reducible refine' giv_sls ?s0 ?_); (case s0 => (first | assumption | decide | omega | (show _ ≤ 16777216; omega) | (show _ < 16777216; omega) | (simp only [List.length_append, List.length_cons, List.length_nil, List.length_replicate, List.length_map, List.length_take, List.length_drop, List.length_dropLast]; first | omega | (show _ ≤ 16777216; omega))))) | with_reducible refine giv_sll ?_ | ((with_reducible refine' giv_lens ?s0 ?_); (case s0 => (first | assumption | decide | omega | (show _ ≤ 16777216; omega) | (show _ < 16777216; omega) | (simp only [List.length_append, List.length_cons, List.length_nil, List.length_replicate, List.length_map, List.length_take, List.length_drop, List.length_dropLast]; first | omega | (show _ ≤ 16777216; omega))))) | ((with_reducible refine' giv_revs ?s0 ?_); (case s0 => (first | assumption | decide | omega | (show _ ≤ 16777216; omega) | (show _ < 16777216; omega) | (simp only [List.length_append, List.length_cons, List.length_nil, List.length_replicate, List.length_map, List.length_take, List.length_drop, List.length_dropLast]; first | omega | (show _ ≤ 16777216; omega)))))))
local macro_rules | `(tactic| walk_at "zgv") => `(tactic| (first | ((with_reducible refine' giv_slm1 ?s0 ?_); (case s0 => (first | assumption | decide | omega | (show _ ≤ 16777216; omega) | (show _ < 16777216; omega) | (simp only [List.length_append, List.length_cons, List.length_nil, List.length_replicate, List.length_map, List.length_take, List.length_drop, List.length_dropLast]; first | omega | (show _ ≤ 16777216; omega))))) | ((with_reducible refine' giv_slt ?s0 ?s1 ?_); (case s0 => (first | assumption | decide | omega | (show _ ≤ 16777216; omega) | (show _ < 16777216; omega) | (simp only [List.length_append, List.length_cons, List.length_nil, List.length_replicate, List.length_map, List.length_take, List.length_drop, List.length_dropLast]; first | omega | (show _ ≤ 16777216; omega)))); (case s1 => (first | assumption | decide | omega))) | ((with_reducible refine' giv_sld ?s0 ?s1 ?_); (case s0 => (first | assumption | decide | omega | (show _ ≤ 16777216; omega) | (show _ < 16777216; omega) | (simp only [List.length_append, List.length_cons, List.length_nil, List.length_replicate, List.length_map, List.length_take, List.length_drop, List.length_dropLast]; first | omega | (show _ ≤ 16777216; omega)))); (case s1 => (first | assumption | decide | omega))) | ((with_reducible refine' giv_slm ?s0 ?s1 ?s2 ?_); (case s0 => (first | assumption | decide | omega | (show _ ≤ 16777216; omega) | (show _ < 16777216; omega) | (simp only [List.length_append, List.length_cons, List.length_nil, List.length_replicate, List.length_map, List.length_take, List.length_drop, List.length_dropLast]; first | omega | (show _ ≤ 16777216; omega)))); (case s1 => (first | assumption | decide | omega)); (case s2 => (first | assumption | decide | omega))) | ((with_reducible refine' giv_sltl ?s0 ?_); (case s0 => (first | assumption | decide | omega)))))
local macro_rules | `(tactic| walk_at "zgv") => `(tactic| (first | ((with_reducible refine' giv_addl ?s0 ?_); (case s0 => (first | assumption | decide | omega | (show _ ≤ 16777216; omega) | (show _ < 16777216; omega) | (simp only [List.length_append, List.length_cons, List.length_nil, List.length_replicate, List.length_map, List.length_take, List.length_drop, List.length_dropLast]; first | omega | (show _ ≤ 16777216; omega))))) | ((with_reducible refine' giv_ixl ?s0 ?_); (case s0 => (first | assumption | rfl | exact atI_zero))) | ((with_reducible refine' giv_ixt ?s0 ?_); (case s0 => (first | assumption | rfl | exact atI_zero))) | ((with_reducible refine' giv_ixs ?s0 ?s1 ?_); (case s0 => (first | assumption | decide | omega | (show _ ≤ 16777216; omega) | (show _ < 16777216; omega) | (simp only [List.length_append, List.length_cons, List.length_nil, List.length_replicate, List.length_map, List.length_take, List.length_drop, List.length_dropLast]; first | omega | (show _ ≤ 16777216; omega)))); (case s1 => (first | assumption | rfl))) | ((with_reducible refine' giv_dr4 ?s0 ?_); (case s0 => (assumption)))))
local macro_rules | `(tactic| walk_at "zgv") => `(tactic| (first | ((with_reducible refine' giv_mod ?s0 ?_); (case s0 => (first | assumption | decide | omega | (show _ ≤ 16777216; omega) | (show _ < 16777216; omega) | (simp only [List.length_append, List.length_cons, List.length_nil, List.length_replicate, List.length_map, List.length_take, List.length_drop, List.length_dropLast]; first | omega | (show _ ≤ 16777216; omega))))) | ((with_reducible refine' giv_div ?s0 ?_); (case s0 => (first | assumption | decide | omega | (show _ ≤ 16777216; omega) | (show _ < 16777216; omega) | (simp only [List.length_append, List.length_cons, List.length_nil, List.length_replicate, List.length_map, List.length_take, List.length_drop, List.length_dropLast]; first | omega | (show _ ≤ 16777216; omega))))) | ((with_reducible refine' giv_mul ?s0 ?_); (case s0 => (first | assumption | exact cMul_r (by decide) | exact cMul_r (by omega)))) | ((with_reducible refine' giv_muls ?s0 ?_); (case s0 => (first | assumption | decide | omega | (show _ ≤ 16777216; omega) | (show _ < 16777216; omega) | (simp only [List.length_append, List.length_cons, List.length_nil, List.length_replicate, List.length_map, List.length_take, List.length_drop, List.length_dropLast]; first | omega | (show _ ≤ 16777216; omega))))) | ((with_reducible refine' giv_adds ?s0 ?_); (case s0 => (first | assumption | decide | omega | (show _ ≤ 16777216; omega) | (show _ < 16777216; omega) | (simp only [List.length_append, List.length_cons, List.length_nil, List.length_replicate, List.length_map, List.length_take, List.length_drop, List.length_dropLast]; first | omega | (show _ ≤ 16777216; omega)))))))
local macro_rules | `(tactic| walk_at "zbr") => `(tactic| (first | ((with_reducible refine' brn_dt ?s0 ?_); (case s0 => decide)) | ((with_reducible refine' brn_df ?s0 ?_); (case s0 => decide)) | ((with_reducible refine' brn_nt ?s0 ?_); (case s0 => decide)) | ((with_reducible refine' brn_nf ?s0 ?_); (case s0 => decide))))
local macro_rules | `(tactic| walk_at "zbr") => `(tactic| (first | with_reducible refine brn_t ?_ | with_reducible refine brn_f ?_ | with_reducible refine brn_nT ?_ | with_reducible refine brn_nF ?_ | with_reducible refine brn_nn ?_))
local macro_rules | `(tactic| walk_at "zfv") => `(tactic| ((walk_at "fn")))
local macro_rules | `(tactic| walk_at "zfv") => `(tactic| (with_reducible refine fv_signs ?_))
local macro_rules | `(tactic| walk_at "zfv") => `(tactic| (((with_reducible refine' fv_drawE ?s0 ?_); (case s0 => assumption); intro _ _)))
local macro_rules | `(tactic| walk_at "zfv") => `(tactic| (((with_reducible refine' fv_nextE ?s0 ?s1 ?_); (case s0 => assumption); (case s1 => (first | assumption | decide | omega)); intro _ _ _ _ _; (try dsimp only [puts, put, agI, outsOf, slOf, List.set_cons_zero, List.set_cons_succ, List.getElem?_cons_zero, List.getElem?_cons_succ, wipeR, backR, Option.getD_some, stl]))))
local macro_rules | `(tactic| walk_at "zot") => `(tactic| (first | with_reducible refine add2_i ?_ | ((with_reducible refine' add2_s ?s0 ?_); (case s0 => (first | assumption | decide | omega | (show _ ≤ 16777216; omega) | (show _ < 16777216; omega) | (simp only [List.length_append, List.length_cons, List.length_nil, List.length_replicate, List.length_map, List.length_take, List.length_drop, List.length_dropLast]; first | omega | (show _ ≤ 16777216; omega))))) | ((with_reducible refine' add2_l ?s0 ?_); (case s0 => (first | assumption | decide | omega | (show _ ≤ 16777216; omega) | (show _ < 16777216; omega) | (simp only [List.length_append, List.length_cons, List.length_nil, List.length_replicate, List.length_map, List.length_take, List.length_drop, List.length_dropLast]; first | omega | (show _ ≤ 16777216; omega))))) | ((with_reducible refine' add2_t ?s0 ?_); (case s0 => (first | assumption | decide | omega | (show _ ≤ 16777216; omega) | (show _ < 16777216; omega) | (simp only [List.length_append, List.length_cons, List.length_nil, List.length_replicate, List.length_map, List.length_take, List.length_drop, List.length_dropLast]; first | omega | (show _ ≤ 16777216; omega))))) | ((with_reducible refine' own_at ?s0 (And.intro ?s1 ?_)); (case s0 => rfl); (case s1 => exact ⟨_, by assumption⟩); intro _ _; (try dsimp only [puts, put, agI, outsOf, slOf, List.set_cons_zero, List.set_cons_succ, List.getElem?_cons_zero, List.getElem?_cons_succ, wipeR, backR, Option.getD_some, stl]))))
local macro_rules | `(tactic| walk_at "zot") => `(tactic| (first | ((with_reducible refine' ex_asg' ?s0 ?_); (case s0 => (first | rfl | assumption)); (try dsimp only [puts, put, agI, outsOf, slOf, List.set_cons_zero, List.set_cons_succ, List.getElem?_cons_zero, List.getElem?_cons_succ, wipeR, backR, Option.getD_some, stl])) | ((with_reducible refine' ex_asg'' ?s0 ?_); (case s0 => (rfl)); (try dsimp only [puts, put, agI, outsOf, slOf, List.set_cons_zero, List.set_cons_succ, List.getElem?_cons_zero, List.getElem?_cons_succ, wipeR, backR, Option.getD_some, stl])) | ((with_reducible refine' ex_asgT ?s0 ?_); (case s0 => (rfl)); (try dsimp only [puts, put, agI, outsOf, slOf, List.set_cons_zero, List.set_cons_succ, List.getElem?_cons_zero, List.getElem?_cons_succ, wipeR, backR, Option.getD_some, stl])) | ((with_reducible refine' nbw_z ?_); (try dsimp only [puts, put, agI, outsOf, slOf, List.set_cons_zero, List.set_cons_succ, List.getElem?_cons_zero, List.getElem?_cons_succ, wipeR, backR, Option.getD_some, stl])) | ((with_reducible refine' nbw_r ?_); (try dsimp only [puts, put, agI, outsOf, slOf, List.set_cons_zero, List.set_cons_succ, List.getElem?_cons_zero, List.getElem?_cons_succ, wipeR, backR, Option.getD_some, stl]))))
local macro_rules | `(tactic| walk_at "zot") => `(tactic| (first | with_reducible refine isB ?_ | with_reducible refine isBD ?_ | ((with_reducible refine' frzs' ?s0 (And.intro ?s1 ?_)); (case s0 => rfl); (case s1 => (first | decide | simp)); (try dsimp only [puts, put, agI, outsOf, slOf, List.set_cons_zero, List.set_cons_succ, List.getElem?_cons_zero, List.getElem?_cons_succ, wipeR, backR, Option.getD_some, stl])) | ((with_reducible refine' arg ?s0 ?s1 ?s2 ?_); (case s0 => (rfl)); (case s1 => (rfl)); (case s2 => (first | exact List.nodup_nil | exact nodup1 | simp [agI])); (try dsimp only [puts, put, agI, outsOf, slOf, List.set_cons_zero, List.set_cons_succ, List.getElem?_cons_zero, List.getElem?_cons_succ, wipeR, backR, Option.getD_some, stl])) | ((with_reducible refine' ex_asg ?s0 ?_); (case s0 => (first | rfl | assumption)); (try dsimp only [puts, put, agI, outsOf, slOf, List.set_cons_zero, List.set_cons_succ, List.getElem?_cons_zero, List.getElem?_cons_succ, wipeR, backR, Option.getD_some, stl]))))
local macro_rules | `(tactic| walk_at "zot") => `(tactic| (first | ((with_reducible refine' sees ?s0 ?_); (case s0 => (rfl))) | ((with_reducible refine' obp ?s0 ?_); (case s0 => (first | exact isOb_obj rfl | exact isOb_obj (by decide)))) | with_reducible refine fbp ?_ | with_reducible refine fzp ?_ | with_reducible refine isI ?_))
local macro_rules | `(tactic| walk_at "zot") => `(tactic| (first | with_reducible refine ret_z ?_ | with_reducible refine ret_r ?_ | ((with_reducible refine' ret_b ?s0 ?_); (case s0 => (rfl))) | ((with_reducible refine' see2 ?s0 ?s1 ?_); (case s0 => (rfl)); (case s1 => (rfl))) | ((with_reducible refine' see1 ?s0 ?_); (case s0 => (rfl)))))
local macro_rules | `(tactic| walk_at "zsv") => `(tactic| (first | with_reducible refine sv_ret_l ?_ | with_reducible refine sv_nx ?_ | with_reducible refine sv_asgT_s ?_ | with_reducible refine sv_asgT_l ?_ | with_reducible refine sv_set4_s ?_))
local macro_rules | `(tactic| walk_at "zsv") => `(tactic| (first | with_reducible refine sv_drop_s ?_ | ((with_reducible refine' sv_app_s ?s0 ?_); (case s0 => (rfl))) | ((with_reducible refine' sv_app_l ?s0 ?_); (case s0 => (rfl))) | with_reducible refine sv_asg_l ?_ | with_reducible refine sv_if_l ?_))
local macro_rules | `(tactic| walk_at "zsv") => `(tactic| (first | with_reducible refine sv_asg_s ?_ | with_reducible refine sv_nx_s ?_ | with_reducible refine sv_if_s ?_ | with_reducible refine sv_ret_s ?_ | with_reducible refine sv_seq_s ?_))
local macro_rules | `(tactic| walk_at "s1") => `(tactic| ((with_reducible refine gSv ?_); (walk_at "zsv")))
local macro_rules | `(tactic| walk_at "s1") => `(tactic| (walk_at "zot"))
local macro_rules | `(tactic| walk_at "s1") => `(tactic| ((with_reducible refine gFv ?_); (walk_at "zfv")))
local macro_rules | `(tactic| walk_at "s1") => `(tactic| ((with_reducible refine gBrn ?_); (walk_at "zbr")))
local macro_rules | `(tactic| walk_at "s1") => `(tactic| ((with_reducible refine gGiv ?_); (walk_at "zgv")))
local macro_rules | `(tactic| walk_at "s1") => `(tactic| ((with_reducible refine gEv ?_); (walk_at "zev")))
local macro_rules | `(tactic| walk_at "zsw") => `(tactic| (first | with_reducible refine sv_nx ?_ | with_reducible refine sv_asgT_s ?_ | with_reducible refine sv_asgT_l ?_ | with_reducible refine sv_set4_s ?_))
local macro_rules | `(tactic| walk_at "zsw") => `(tactic| (first | ((with_reducible refine' sv_app_s ?s0 ?_); (case s0 => (rfl))) | ((with_reducible refine' sv_app_l ?s0 ?_); (case s0 => (rfl))) | with_reducible refine sv_asg_l ?_ | with_reducible refine sv_if_l ?_ | with_reducible refine sv_ret_l ?_))
local macro_rules | `(tactic| walk_at "zsw") => `(tactic| (first | with_reducible refine sv_asg_s ?_ | with_reducible refine sv_nx_s ?_ | with_reducible refine sv_ret_s ?_ | with_reducible refine sv_seq_s ?_ | with_reducible refine sv_drop_s ?_))
local macro_rules | `(tactic| walk_at "s2") => `(tactic| ((with_reducible refine gSv ?_); (walk_at "zsw")))
local macro_rules | `(tactic| walk_at "s2") => `(tactic| (walk_at "zot"))
local macro_rules | `(tactic| walk_at "s2") => `(tactic| ((with_reducible refine gFv ?_); (walk_at "zfv")))
local macro_rules | `(tactic| walk_at "s2") => `(tactic| ((with_reducible refine gBrn ?_); (walk_at "zbr")))
local macro_rules | `(tactic| walk_at "s2") => `(tactic| ((with_reducible refine gGiv ?_); (walk_at "zgv")))
local macro_rules | `(tactic| walk_at "s2") => `(tactic| ((with_reducible refine gEv ?_); (walk_at "zev")))
local macro_rules | `(tactic| walk_at "b") => `(tactic| (((with_reducible refine brn_c ?_ ?_) <;> intro _ <;> (first | (exfalso; omega) | contradiction | (subst_vars; contradiction) | skip))))
local macro_rules | `(tactic| walk_at "b") => `(tactic| (((with_reducible refine brn_nd ?_ ?_) <;> intro _ <;> (first | (exfalso; omega) | skip))))
local macro_rules | `(tactic| walk_at "b") => `(tactic| (((with_reducible refine brn_d ?_ ?_) <;> intro _ <;> (first | (exfalso; omega) | skip))))
local macro_rules | `(tactic| walk_at "b") => `(tactic| (((with_reducible refine' giv_ixl_all ?s0 ?s1 ?_); (case s0 => (first | assumption | decide | omega)); (case s1 => (first | assumption | (refine Int.lt_of_lt_of_le (by assumption) ?_; decide) | (show _ < (_ : Int); omega) | (simp only [List.length_append, List.length_cons, List.length_nil]; omega))); repeat' (first | exact all_nil | refine all_cons ?_ ?_))))
local macro_rules | `(tactic| walk_at "n") => `(tactic| (try dsimp only [puts, put, agI, outsOf, slOf, List.map, List.set_cons_zero, List.set_cons_succ, List.getElem?_cons_zero, List.getElem?_cons_succ, wipeR, backR, Option.getD_some, List.replicate, List.cons_append, List.nil_append, List.append_eq, List.append_nil, Nat.reduceSub, FEnd, Ret, noBw, stl]))
local macro_rules | `(tactic| walk_at "g") => `(tactic| (repeat (walk_at "s1")))
local macro_rules | `(tactic| walk_at "gS") => `(tactic| (repeat (walk_at "s2")))
local macro_rules | `(tactic| walk_at "x") => `(tactic| (repeat' (first | (walk_at "s1") | (walk_at "b"))))
local macro_rules | `(tactic| walk_at "xS") => `(tactic| (repeat' (first | (walk_at "s2") | (walk_at "b"))))
namespace K55
open Sw L2
theorem next_eq : f_law_next = lawNext := rfl
theorem draw_eq : f_law_draw = lawDraw := rfl
theorem signs_eq : f_law_signs = lawSigns := rfl
theorem letters_eq : f_law_letters = lawLetters := rfl
theorem made_ok (m : Mc) {Q : Vl → List (List D) → Prop} (q : Q (.fz (OD m)) []) : Fv f_law_made [.da (MD m)] Q := by
  refine fv_fn rfl ?_
  walk_at "n"
  unfold b_law_made MD
  walk_at "g"
  refine ev_make ?_
  walk_at "g"
  refine ⟨_, _, _, _, rfl, rfl, ?_⟩
  walk_at "g"
  walk_at "n"
  exact q
theorem atN {r : List Nat} {j t : Nat} (h : r[j]? = some t) : atI (r.map nD) ((j : Nat) : Int) = some (nD t) := by rw [atI_lit', List.getElem?_map, h]; rfl
theorem atIn {u : List Int} {j : Nat} (h : j < u.length) : atI (u.map D.int) ((j : Nat) : Int) = some (.int (u.getD j 0)) := by
  rw [atI_lit', List.getElem?_map, List.getElem?_eq_getElem h, List.getD_eq_getElem?_getD, List.getElem?_eq_getElem h]; rfl
end K55
namespace K55
open Sw L2
theorem SGN_lim : SGN.length ≤ lim := by rw [SGN_len]; decide
theorem cell_len {m : Mc} (h : Ok m) {c : List Nat} (hc : c ∈ m.cells) : c.length ≤ 96 := by
  have := h.pt.length_eq
  rw [SGN_len] at this
  have := (List.sublist_flatten_of_mem hc).length_le
  omega
theorem cell_ok (m : Mc) (h : Ok m) {c : Nat} (hc : c ∈ SGN) {Q : Vl → List (List D) → Prop} (q : Q (.fz (.int (cellOf m.cells c : Nat))) []) : Fv f_law_cell [.da (cellsD m), .da (.str [c])] Q := by
  have nd : m.cells.flatten.Nodup := h.pt.nodup_iff.mpr (ascl_nodup sgn_asc)
  have c2 := h.c2
  refine fv_fn rfl ?_
  walk_at "n"
  unfold b_law_cell
  refine sv_then (fun ρ => False) (sv_for (fun i ρ => ∃ x2, ρ = [.d (cellsD m), .d (.str [c]), x2] ∧ ioQ (some x2) = false ∧ ∀ (j : Nat) (x : List Nat), j < i → m.cells[j]? = some x → ¬ c ∈ x) (ev_ir1 ?_)) fun _ h => h.elim
  walk_at "g"
  rw [List.length_map]
  refine ⟨_, rfl, by omega, by omega, ⟨_, rfl, rfl, fun j _ hj => by omega⟩, ?_, ?_⟩
  · rintro i y hy ρ ⟨x2, rfl, h2, hn⟩
    obtain ⟨hi, rfl⟩ := rngL_get hy
    have hi' : i < m.cells.length := by omega
    have ec : m.cells[i]? = some m.cells[i] := List.getElem?_eq_getElem hi'
    generalize m.cells[i] = x at ec
    have atc : atI (m.cells.map D.str) (0 + (i : Int)) = some (.str x) := by rw [Int.zero_add, atI_lit', List.getElem?_map, ec]; rfl
    refine ⟨_, asg_z (by exact h2), ?_⟩
    walk_at "n"
    walk_at "g"
    refine brn_d (fun z => ?_) (fun z => ?_)
    · walk_at "g"
      walk_at "n"
      rw [cellOf_at nd ec z, ← Int.zero_add (i : Int)] at q
      exact q
    · walk_at "g"
      refine ⟨_, rfl, rfl, fun j z' hj hz => ?_⟩
      by_cases e : j = i
      · subst e; rw [ec] at hz; cases hz; exact z
      · exact hn j z' (by omega) hz
  · rintro ρ ⟨x2, rfl, h2, hn⟩
    rw [rngL_len, show ((m.cells.length : Int)).toNat = m.cells.length by omega] at hn
    have : c ∈ m.cells.flatten := h.pt.mem_iff.mpr hc
    obtain ⟨x, hx, hcx⟩ := List.mem_flatten.mp this
    obtain ⟨j, hj⟩ := List.mem_iff_getElem?.mp hx
    exact hn j x (List.getElem?_eq_some_iff.mp hj).1 hj hcx
noncomputable def run (m : Mc) : Nat → List Nat → Nat
  | s, [] => s
  | s, c :: cs => run m ((m.rows.getD s []).getD (cellOf m.cells c) 0) cs
theorem run_snoc (m : Mc) (c : Nat) : ∀ (cs : List Nat) (s : Nat), run m s (cs ++ [c]) = (m.rows.getD (run m s cs) []).getD (cellOf m.cells c) 0
  | [], s => rfl
  | d :: cs, s => run_snoc m c cs _
theorem row_at {m : Mc} (h : Ok m) {s : Nat} (hs : s < m.rows.length) : m.rows[s]? = some (m.rows.getD s []) := by rw [List.getD_eq_getElem?_getD, List.getElem?_eq_getElem hs]; rfl
theorem next_lt {m : Mc} (h : Ok m) {s c : Nat} (hs : s < m.rows.length) (hc : c ∈ SGN) : (m.rows.getD s [])[cellOf m.cells c]? = some ((m.rows.getD s []).getD (cellOf m.cells c) 0) ∧ (m.rows.getD s []).getD (cellOf m.cells c) 0 < m.rows.length := by
  obtain ⟨rl, rt⟩ := h.rw _ (List.mem_of_getElem? (row_at h hs))
  have := cellOf_lt h hc
  generalize m.rows.getD s [] = r at *
  have e : r[cellOf m.cells c]? = some (r[cellOf m.cells c]'(by omega)) := List.getElem?_eq_getElem (by omega)
  refine ⟨?_, ?_⟩
  · rw [List.getD_eq_getElem?_getD, e]; rfl
  · rw [List.getD_eq_getElem?_getD, e]
    exact rt _ (List.getElem_mem _)
theorem from_ok (m : Mc) (h : Ok m) (s : Nat) (hs : s < m.rows.length) (t : List Nat) (ht : ∀ c ∈ t, c ∈ SGN) {Q : Vl → List (List D) → Prop} (q : run m s t < m.rows.length → Q (.fz (nD (run m s t))) []) : Fv f_law_from [.da (MD m), .da (nD s), .da (.str t)] Q := by
  refine fv_fn rfl ?_
  walk_at "n"
  unfold b_law_from
  refine sv_then (fun ρ => ∃ x3, ρ = [.d (MD m), .d (nD (run m s t)), .d (.str t), x3] ∧ run m s t < m.rows.length)
    (sv_for (fun i ρ => ∃ x3, ρ = [.d (MD m), .d (nD (run m s (t.take i))), .d (.str t), x3] ∧ ioQ (some x3) = false ∧ run m s (t.take i) < m.rows.length) (ev_isq ?_)) ?_
  · walk_at "g"
    refine ⟨_, _, _, rfl, rfl, ⟨_, rfl, rfl, hs⟩, ?_, ?_⟩
    · rintro i y hy ρ ⟨x3, rfl, h3, hlt⟩
      obtain ⟨c, hc, rfl⟩ := map_get hy
      have hcs := ht c (List.mem_of_getElem? hc)
      obtain ⟨n1, n2⟩ := next_lt h hlt hcs
      have hr := row_at h hlt
      have atr : atI (m.rows.map rowD) ((run m s (t.take i) : Nat) : Int) = some (rowD (m.rows.getD (run m s (t.take i)) [])) := by rw [atI_lit', List.getElem?_map, hr]; rfl
      have att := atN n1
      refine ⟨_, asg_z (by exact h3), ?_⟩
      walk_at "n"
      walk_at "g"
      refine cell_ok m h hcs ?_
      walk_at "g"
      exact ⟨.d (.str [c]), by rw [take_s hc, run_snoc], rfl, by rw [take_s hc, run_snoc]; exact n2⟩
    · rintro ρ ⟨x3, rfl, h3, hlt⟩
      rw [List.length_map, List.take_length] at hlt ⊢
      exact ⟨_, rfl, hlt⟩
  · rintro ρ ⟨x3, rfl, hlt⟩
    walk_at "g"
    walk_at "n"
    exact q hlt
theorem int_ok (i : Int) {Q : Vl → List (List D) → Prop} (q : Q (.fz (.bl true)) []) : Fv f_law_int [.da (.int i)] Q := by
  refine fv_fn rfl ?_
  walk_at "n"
  unfold b_law_int
  walk_at "g"
  walk_at "n"
  exact q
theorem ok_cells {m : Mc} (h : Ok m) : okDs (m.cells.map D.str) = true := by
  have : ∀ c ∈ m.cells, ∀ x ∈ c, x ∈ SGN := fun c hc x hx => h.pt.mem_iff.mp (List.mem_flatten.mpr ⟨c, hc, hx⟩)
  have small : ∀ x ∈ SGN, x < 55296 := by decide
  generalize m.cells = cs at this
  induction cs with
  | nil => rfl
  | cons c cs ih =>
    rw [List.map_cons, okDs, ih fun d hd => this d (List.mem_cons_of_mem _ hd)]
    have : okD (.str c) = true := by
      unfold okD
      exact List.all_eq_true.mpr fun x hx => decide_eq_true (small x (this c List.mem_cons_self x hx))
    rw [this]; rfl
theorem ok_row (r : List Nat) : okDs (r.map nD) = true ∧ dpDs (r.map nD) = 0 := by
  induction r with
  | nil => exact ⟨rfl, rfl⟩
  | cons n r ih => exact ⟨by rw [List.map_cons, okDs, ih.1]; rfl, by rw [List.map_cons, dpDs, ih.2]; rfl⟩
theorem ok_rows (rs : List (List Nat)) : okDs (rs.map rowD) = true ∧ dpDs (rs.map rowD) ≤ 1 := by
  induction rs with
  | nil => exact ⟨rfl, by simp [dpDs]⟩
  | cons r rs ih =>
    obtain ⟨a, b⟩ := ok_row r
    refine ⟨?_, ?_⟩
    · rw [List.map_cons, okDs, ih.1, okD, a]; rfl
    · rw [List.map_cons, dpDs, dpD, b]; omega
theorem ok_marks (ms : List Bool) : okDs (ms.map D.bl) = true ∧ dpDs (ms.map D.bl) = 0 := by
  induction ms with
  | nil => exact ⟨rfl, rfl⟩
  | cons n r ih => exact ⟨by rw [List.map_cons, okDs, ih.1]; rfl, by rw [List.map_cons, dpDs, ih.2]; rfl⟩
theorem dp_strs (ts : List (List Nat)) : dpDs (ts.map D.str) = 0 := by
  induction ts with
  | nil => rfl
  | cons n r ih => rw [List.map_cons, dpDs, ih]; rfl
theorem kept_ok (m : Mc) (h : Ok m) {Q : Vl → List (List D) → Prop} (q : Q (.fz (.bl true)) []) : Fv f_law_kept [.da (OD m), .da (MD m)] Q := by
  have e1 := eq_tup (xs := m.cells.map D.str) (shD_of (by rw [okD]; exact ok_cells h) (by rw [dpD, dp_strs]; omega))
  have e2 := eq_tup (xs := m.rows.map rowD) (shD_of (by rw [okD]; exact (ok_rows _).1) (by rw [dpD]; have := (ok_rows m.rows).2; omega))
  have e3 := eq_tup (xs := m.marks.map D.bl) (shD_of (by rw [okD]; exact (ok_marks _).1) (by rw [dpD, (ok_marks _).2]; omega))
  refine fv_fn rfl ?_
  walk_at "n"
  unfold b_law_kept
  walk_at "g"
  refine giv e1 ?_
  walk_at "g"
  refine giv e2 ?_
  walk_at "g"
  refine giv e3 ?_
  walk_at "g"
  walk_at "n"
  exact q
end K55
namespace K55
open Sw L2
structure Cs (cells : List (List Nat)) : Prop where
  pt : cells.flatten.Perm SGN
  ne : ∀ c ∈ cells, c ≠ []
theorem Cs.len {cells : List (List Nat)} (h : Cs cells) : cells.length ≤ 96 := by
  have e := h.pt.length_eq
  rw [SGN_len] at e
  have : ∀ cs : List (List Nat), (∀ c ∈ cs, c ≠ []) → cs.length ≤ cs.flatten.length := fun cs => by
    induction cs with
    | nil => intro _; simp
    | cons c cs ih =>
      intro h
      have := ih fun d hd => h d (List.mem_cons_of_mem _ hd)
      have h1 : c.length ≠ 0 := fun z => h c List.mem_cons_self (List.length_eq_zero_iff.mp z)
      rw [List.flatten_cons, List.length_append, List.length_cons]
      omega
  have := this cells h.ne
  omega
theorem Cs.pos {cells : List (List Nat)} (h : Cs cells) : 1 ≤ cells.length := by
  cases cells with
  | nil => have := h.pt.length_eq; rw [SGN_len] at this; simp at this
  | cons c cs => simp
theorem cs_sort {ps : List (List Nat)} (h : ps.flatten.Perm SGN) (n : ∀ p ∈ ps, p ≠ []) : Cs (sortT ps) :=
  ⟨(sortT_perm ps).flatten.trans h, fun c hc => n c ((sortT_perm ps).mem_iff.mp hc)⟩
theorem flat_set : ∀ (ps : List (List Nat)) (g : Nat) (c : Nat), g < ps.length → (ps.set g (ps.getD g [] ++ [c])).flatten.Perm (ps.flatten ++ [c])
  | [], _, _, h => by simp at h
  | p :: ps, 0, c, _ => by
    rw [List.set_cons_zero, List.getD_cons_zero, List.flatten_cons, List.flatten_cons, List.append_assoc, List.append_assoc]
    exact List.Perm.append_left p List.perm_append_comm
  | p :: ps, g + 1, c, h => by
    rw [List.set_cons_succ, List.getD_cons_succ, List.flatten_cons, List.flatten_cons, List.append_assoc]
    exact List.Perm.append_left p (flat_set ps g c (by simpa using h))
theorem flat_ne : ∀ ps : List (List Nat), (ps.filter fun p => !decide (p = [])).flatten = ps.flatten
  | [] => rfl
  | p :: ps => by
    rw [List.filter_cons, List.flatten_cons]
    by_cases h : p = []
    · subst h; simp [flat_ne ps]
    · rw [if_pos (by simp [h]), List.flatten_cons, flat_ne ps]
theorem atS {k : Nat} (h : k < 96) : atI SGN ((k : Nat) : Int) = some (SGN[k]'(by rw [SGN_len]; exact h)) := by rw [atI_lit']; exact List.getElem?_eq_getElem _
theorem ev_ir2 {ms : M (List Vl)} {ρ : Rho} {QD : List D → Rho → Prop} (h : Ev ms ρ fun rs ρ1 => ∃ i j, rs = [.fz (.int i), .fz (.int j)] ∧ -1000000 ≤ i ∧ i ≤ 1000000 ∧ -1000000 ≤ j ∧ j ≤ 1000000 ∧ QD (rngL i (j - i).toNat) ρ1) : Ev (iR2 ms) ρ QD := by
  obtain ⟨r, ρ1, e1, i, j, rfl, h0, h1, h2, h3, q⟩ := h
  refine ⟨_, ρ1, ?_, q⟩
  unfold iR2
  rw [e1]
  show (if _ then _ else _) = _
  rw [if_pos ⟨by omega, by omega, by omega, by omega⟩]
theorem sgn_split (low : Nat) (h : low < 84) : ((SGN.take low ++ SGN.drop (low + 12)) :: ((List.range 12).map fun i => [SGN.getD (low + i) 0])).flatten.Perm SGN := by
  have e : ((List.range 12).map fun i => [SGN.getD (low + i) 0]).flatten = (SGN.drop low).take 12 := by
    have : ∀ n, low + n ≤ 96 → ((List.range n).map fun i => [SGN.getD (low + i) 0]).flatten = (SGN.drop low).take n := fun n hn => by
      induction n with
      | zero => rfl
      | succ n ih =>
        rw [List.range_succ, List.map_append, List.flatten_append, ih (by omega)]
        have hh : (SGN.drop low)[n]? = some (SGN.getD (low + n) 0) := by
          rw [List.getElem?_drop, List.getD_eq_getElem?_getD, List.getElem?_eq_getElem (by rw [SGN_len]; omega)]; rfl
        rw [take_s hh]
        rfl
    exact this 12 (by omega)
  rw [List.flatten_cons, e, List.append_assoc]
  have e2 : SGN = SGN.take low ++ ((SGN.drop low).take 12 ++ SGN.drop (low + 12)) := by
    conv => lhs; rw [← List.take_append_drop low SGN, ← List.take_append_drop 12 (SGN.drop low), List.drop_drop]
  conv => rhs; rw [e2]
  exact List.Perm.append_left _ List.perm_append_comm
theorem division_ok {xs : List D} {e : Int} {L : List Nat} (hd : DrE e xs) (hL : Ltr L) {Q : Vl → List (List D) → Prop}
    (q : ∀ (cells : List (List Nat)) (ys : List D), Cs cells → cells.length ≤ 13 → DrE e ys → Q (.fz (.tup (cells.map .str))) [ys]) : Fv f_law_division [.li xs, .da (.str L)] Q := by
  have hS : SGN.length ≤ lim := SGN_lim
  have hS' : SGN.length = 96 := SGN_len
  obtain ⟨l3, ls⟩ := hL
  refine fv_fn rfl ?_
  walk_at "n"
  unfold b_law_division
  rw [next_eq, signs_eq]
  walk_at "gS"
  rename_i ch ys c0 c1 hd
  refine sv_if_s ?_
  walk_at "g"
  refine brn_d (fun z => ?_) (fun z => sv_nx_s ?_)
  · walk_at "g"
    walk_at "n"
    exact q [SGN] _ ⟨by simp, by decide⟩ (by decide) hd
  refine sv_if_s ?_
  walk_at "g"
  refine brn_d (fun z => ?_) (fun z => sv_nx_s ?_)
  · walk_at "g"
    rename_i low ys l0 l1 hd
    refine ev_sorted ?_
    walk_at "g"
    refine ev_lcm (List.range 12) (fun i => .int (low + (i : Int))) (fun i => .str [SGN.getD (low.toNat + i) 0]) rfl (by decide) ?_ ?_ ?_
    · intro Q' q'
      refine ev_ir2 ?_
      walk_at "g"
      exact ⟨_, _, rfl, by omega, by omega, by omega, by omega, by rw [show (low + 12 - low).toNat = 12 by omega]; exact q'⟩
    · intro i hi Q' q'
      have hi' := List.mem_range.mp hi
      have at' : atI SGN (low + (i : Int)) = some (SGN.getD (low.toNat + i) 0) := by
        rw [show low + (i : Int) = ((low.toNat + i : Nat) : Int) by omega, atS (by omega), List.getD_eq_getElem?_getD, List.getElem?_eq_getElem (by omega)]; rfl
      walk_at "g"
      exact q'
    refine see2 rfl rfl ?_
    refine add2_l (by simp [lim]) ?_
    walk_at "g"
    have el : low.toNat < 84 := by omega
    have e12 : (low + 12).toNat = low.toNat + 12 := by omega
    refine ⟨_, ((SGN.take low.toNat ++ SGN.drop (low.toNat + 12)) :: ((List.range 12).map fun i => [SGN.getD (low.toNat + i) 0])).map .str, (sortT ((SGN.take low.toNat ++ SGN.drop (low.toNat + 12)) :: ((List.range 12).map fun i => [SGN.getD (low.toNat + i) 0]))).map .str, rfl, ?_, sortD_strs (by simp), ?_⟩
    · rw [e12, List.map_cons, List.map_map]
      rfl
    walk_at "g"
    walk_at "n"
    refine q _ _ (cs_sort (sgn_split _ el) fun p hp => ?_) (by rw [(sortT_perm _).length_eq]; simp) hd
    rcases List.mem_cons.mp hp with rfl | hp
    · intro z
      have := congrArg List.length z
      rw [List.length_append, List.length_take, List.length_drop, hS'] at this
      simp at this
      omega
    · obtain ⟨i, _, rfl⟩ := List.mem_map.mp hp
      simp
  rename_i z0
  -- where the letters go
  refine sv_then (fun ρ => ∃ (ps : List Int) (ys : List D), ρ = [.io ys, .d (.str L), .d (.str SGN), .d (.int ch), .ow (ps.map .int), .no, .no, .no, .no, .no, .no, .no] ∧ DrE e ys ∧ ps.length = 3 ∧ ∀ p ∈ ps, 0 ≤ p ∧ p < 4) ?_ ?_
  · walk_at "g"
    exact ⟨[1, 2, 3], _, rfl, hd, rfl, by decide⟩
  rintro ρ ⟨ps, ys, rfl, hd, hp, hpr⟩
  refine sv_then (fun ρ => ∃ (ps : List Int) (ys : List D), ρ = [.io ys, .d (.str L), .d (.str SGN), .d (.int ch), .ow (ps.map .int), .no, .no, .no, .no, .no, .no, .no] ∧ DrE e ys ∧ ps.length = 3 ∧ ∀ p ∈ ps, 0 ≤ p ∧ p < 4) ?_ ?_
  · walk_at "g"
    refine brn_d (fun z => ?_) (fun z => ?_)
    · walk_at "g"
      refine ev_lc (fun i acc ρ' => ∃ (qs : List Int) (ys : List D), acc = qs.map .int ∧ ρ' = [.io ys, .d (.str L), .d (.str SGN), .d (.int ch), .ow (ps.map .int), .no, .no, .no, .no, .no, .no, .no] ∧ DrE e ys ∧ qs.length = i ∧ ∀ p ∈ qs, 0 ≤ p ∧ p < 4) (ev_ir1 ?_)
      walk_at "g"
      refine ⟨_, rfl, by omega, by omega, rfl, ⟨[], ys, rfl, rfl, hd, rfl, fun _ h => absurd h List.not_mem_nil⟩, ?_, ?_⟩
      · rintro i y hy acc ρ ⟨qs, ys, rfl, rfl, hd, hq, hqr⟩
        obtain ⟨hi, rfl⟩ := rngL_get hy
        refine ⟨_, asg_z rfl, ev_tyes (brn_t ?_)⟩
        walk_at "n"
        walk_at "g"
        rename_i r ys r0 r1 hd
        refine ⟨_, _, rfl, by rw [List.length_map]; show _ < 16777216; omega, qs ++ [r], ys, by rw [List.map_append]; rfl, rfl, hd, by simp [hq], ?_⟩
        intro p hp
        rcases List.mem_append.mp hp with h | h
        · exact hqr p h
        · rw [List.mem_singleton.mp h]; exact ⟨r0, r1⟩
      · rintro acc ρ ⟨qs, ys, rfl, rfl, hd, hq, hqr⟩
        walk_at "n"
        walk_at "g"
        exact ⟨qs, ys, rfl, hd, by rw [hq, rngL_len]; rfl, hqr⟩
    · walk_at "g"
      exact ⟨ps, ys, rfl, hd, hp, hpr⟩
  clear hd hp hpr
  rintro ρ ⟨ps, ys, rfl, hd, hp, hpr⟩
  walk_at "gS"
  refine sv_then (fun ρ => ∃ (lo mn : Int) (ys : List D), ρ = [.io ys, .d (.str L), .d (.str SGN), .d (.int ch), .ow (ps.map .int), .d (.int lo), .d (.int mn), .no, .no, .no, .no, .no] ∧ DrE e ys) ?_ ?_
  · walk_at "g"
    refine giv (z := .bl (inD (.int ch) [.int 1, .int 5, .int 6])) rfl ?_
    walk_at "g"
    refine brn_c (fun z => ?_) (fun z => ?_)
    · walk_at "g"
      exact ⟨_, _, _, rfl, by assumption⟩
    · walk_at "g"
      exact ⟨_, _, _, rfl, hd⟩
  clear hd
  rintro ρ ⟨lo, mn, ys, rfl, hd⟩
  walk_at "gS"
  refine sv_then (fun ρ => ∃ (cs : List (List Nat)) (x8 x10 : Sl), ρ = [.io ys, .d (.str L), .d (.str SGN), .d (.int ch), .ow (ps.map .int), .d (.int lo), .d (.int mn), .ow (cs.map .str), x8, .no, x10, .no] ∧ cs.length = 5 ∧ cs.flatten.Perm SGN)
    (sv_for (fun k ρ => ∃ (cs : List (List Nat)) (x8 x10 : Sl), ρ = [.io ys, .d (.str L), .d (.str SGN), .d (.int ch), .ow (ps.map .int), .d (.int lo), .d (.int mn), .ow (cs.map .str), x8, .no, x10, .no] ∧ cs.length = 5 ∧ cs.flatten.Perm (SGN.take k) ∧ ioQ (some x8) = false ∧ ioQ (some x10) = false) (ev_ir1 ?_)) ?_
  · walk_at "g"
    refine ⟨_, rfl, by omega, by omega, ⟨[[], [], [], [], []], _, _, rfl, rfl, by simp, rfl, rfl⟩, ?_, ?_⟩
    · rintro k y hy ρ ⟨cs, x8, x10, rfl, hc, hpt, h8, h10⟩
      obtain ⟨hk, rfl⟩ := rngL_get hy
      have hk' : k < 96 := hk
      have at' := atS hk'
      have hm : SGN[k]'(by omega) ∈ SGN := List.getElem_mem _
      have hg : SGN[k]? = some (SGN[k]'(by omega)) := List.getElem?_eq_getElem _
      generalize SGN[k]'(by omega) = c at at' hm hg
      refine ⟨_, asg_z (by exact h8), ?_⟩
      walk_at "n"
      rw [Int.zero_add]
      walk_at "gS"
      refine sv_then (fun ρ => ∃ g : Int, ρ = [.io ys, .d (.str L), .d (.str SGN), .d (.int ch), .ow (ps.map .int), .d (.int lo), .d (.int mn), .ow (cs.map .str), .d (.int (k : Nat)), .no, .d (.int g), .no] ∧ 0 ≤ g ∧ g < 5) ?_ ?_
      · walk_at "g"
        refine brn_d (fun z => ?_) (fun z => ?_)
        · walk_at "g"; exact ⟨_, rfl, by omega, by omega⟩
        · walk_at "g"; exact ⟨_, rfl, by omega, by omega⟩
      rintro ρ ⟨g, rfl, g0, g1⟩
      refine sv_then (fun ρ => ∃ g : Int, ρ = [.io ys, .d (.str L), .d (.str SGN), .d (.int ch), .ow (ps.map .int), .d (.int lo), .d (.int mn), .ow (cs.map .str), .d (.int (k : Nat)), .no, .d (.int g), .no] ∧ 0 ≤ g ∧ g < 5) ?_ ?_
      · walk_at "g"
        refine brn_d (fun z => ?_) (fun z => ?_)
        · have hix := List.idxOf_lt_length_of_mem z
          have atp : atI (ps.map D.int) (findC L c) = some (.int (ps.getD (L.idxOf c) 0)) := by rw [findC_in z]; exact atIn (by omega)
          have hr := hpr (ps.getD (L.idxOf c) 0) (by rw [List.getD_eq_getElem?_getD, List.getElem?_eq_getElem (by omega)]; exact List.getElem_mem _)
          walk_at "g"
          exact ⟨_, rfl, hr.1, by omega⟩
        · walk_at "g"
          exact ⟨g, rfl, g0, g1⟩
      clear g0 g1
      rintro ρ ⟨g, rfl, g0, g1⟩
      obtain ⟨gn, rfl⟩ := Int.eq_ofNat_of_zero_le g0
      have hgn : gn < cs.length := by omega
      have atc : atI (cs.map D.str) ((gn : Nat) : Int) = some (.str (cs.getD gn [])) := by
        rw [atI_lit', List.getElem?_map, List.getElem?_eq_getElem hgn, List.getD_eq_getElem?_getD, List.getElem?_eq_getElem hgn]; rfl
      have lc : (cs.getD gn []).length ≤ 96 := by
        have h1 := hpt.length_eq
        rw [List.length_take, hS'] at h1
        have h2 : cs.getD gn [] ∈ cs := by rw [List.getD_eq_getElem?_getD, List.getElem?_eq_getElem hgn]; exact List.getElem_mem _
        have h3 := (List.sublist_flatten_of_mem h2).length_le
        omega
      refine sv_seti_l ?_
      walk_at "g"
      refine ⟨_, _, rfl, rfl, ?_⟩
      walk_at "g"
      refine ⟨_, gn, rfl, ixN_nat (by rw [List.length_map]; exact hgn), ?_⟩
      walk_at "n"
      refine ⟨cs.set gn (cs.getD gn [] ++ [c]), _, _, by rw [List.map_set], by rw [List.length_set]; exact hc, ?_, rfl, rfl⟩
      rw [take_s hg]
      exact (flat_set cs gn c hgn).trans (hpt.append_right _)
    · rintro ρ ⟨cs, x8, x10, rfl, hc, hpt, h8, h10⟩
      rw [rngL_len, List.take_of_length_le (by rw [hS']; decide)] at hpt
      exact ⟨cs, _, _, rfl, hc, hpt⟩
  rintro ρ ⟨cs, x8, x10, rfl, hc, hpt⟩
  walk_at "g"
  refine ev_sorted ?_
  walk_at "g"
  refine ev_lcfR (ρ1 := [.io ys, .d (.str L), .d (.str SGN), .d (.int ch), .ow (ps.map .int), .d (.int lo), .d (.int mn), .d (.lst (cs.map .str)), x8, .no, x10, .no]) cs D.str (fun p => !decide (p = [])) D.str rfl (by rw [hc]; decide) ?_ ?_ ?_ ?_
  · intro Q' q'
    refine ev_isq ?_
    walk_at "g"
    exact ⟨_, _, _, rfl, rfl, q'⟩
  · intro p _ Q' q'
    walk_at "g"
    exact q'
  · intro p _ _ Q' q'
    walk_at "g"
    exact q'
  walk_at "g"
  have hfl := List.length_filter_le (fun p : List Nat => !decide (p = [])) cs
  refine ⟨_, _, _, rfl, rfl, sortD_strs (by omega), ?_⟩
  walk_at "g"
  walk_at "n"
  refine q _ _ (cs_sort (by rw [flat_ne]; exact hpt) fun p hp => ?_) (by rw [(sortT_perm _).length_eq]; omega) hd
  have := (List.mem_filter.mp hp).2
  simpa using this
end K55
namespace K55
open Sw L2
theorem ni_bls {ms : List Bool} {Q : D → Prop} (q : ∀ b, Q (.bl b)) : Giv (fNi (.bl true) (.lst (ms.map D.bl))) Q := by
  have fl : (ms.map D.bl).all flatD = true := List.all_eq_true.mpr fun x hx => by obtain ⟨b, _, rfl⟩ := List.mem_map.mp hx; rfl
  refine giv (z := .bl (!inD (.bl true) (ms.map D.bl))) ?_ (q _)
  show orF fNiS (fInQ true) _ _ = _
  unfold orF
  rw [show fNiS (.bl true) (.lst (ms.map D.bl)) = none from rfl]
  show fInQ true _ _ = _
  unfold fInQ
  dsimp only
  rw [fl]
  rfl
theorem rows_of (zs : List D) (n N : Nat) (hl : zs.length = n) (h : ∀ z ∈ zs, ∃ t : Nat, z = nD t ∧ t < N) : ∃ r : List Nat, zs = r.map nD ∧ r.length = n ∧ ∀ t ∈ r, t < N := by
  subst hl
  induction zs with
  | nil => exact ⟨[], rfl, rfl, fun _ h => absurd h List.not_mem_nil⟩
  | cons z zs ih =>
    obtain ⟨r, rfl, h1, h2⟩ := ih fun y hy => h y (List.mem_cons_of_mem _ hy)
    obtain ⟨t, rfl, ht⟩ := h z List.mem_cons_self
    exact ⟨t :: r, rfl, by simp, fun y hy => by
      rcases List.mem_cons.mp hy with rfl | hy
      · exact ht
      · exact h2 y hy⟩
theorem marks_of (zs : List D) (n : Nat) (hl : zs.length = n) (h : ∀ z ∈ zs, ∃ b, z = .bl b) : ∃ ms : List Bool, zs = ms.map D.bl ∧ ms.length = n := by
  subst hl
  induction zs with
  | nil => exact ⟨[], rfl, rfl⟩
  | cons z zs ih =>
    obtain ⟨r, rfl, h1⟩ := ih fun y hy => h y (List.mem_cons_of_mem _ hy)
    obtain ⟨t, rfl⟩ := h z List.mem_cons_self
    exact ⟨t :: r, rfl, by simp⟩
theorem mk_ok {cells : List (List Nat)} (hc : Cs cells) {rs : List (List Nat)} {ms : List Bool} {N : Nat} (n1 : 1 ≤ N) (n2 : N ≤ 100) (h1 : rs.length = N) (h2 : ms.length = N) (h3 : ∀ r ∈ rs, r.length = cells.length ∧ ∀ t ∈ r, t < N) : Ok ⟨cells, rs, ms⟩ :=
  ⟨by show 1 ≤ rs.length; omega, by show rs.length ≤ 100; omega, by show ms.length = rs.length; omega, fun r hr => ⟨(h3 r hr).1, fun t ht => by have := (h3 r hr).2 t ht; show t < rs.length; omega⟩, hc.len, hc.pt, hc.ne⟩
theorem fine_ok {xs : List D} {e : Int} (hd : DrE e xs) {Q : Vl → List (List D) → Prop}
    (q : ∀ (m : Mc) (ys : List D), Ok m → Bd m → DrE e ys → Q (.fz (MD m)) [ys]) : Fv f_law_fine [.li xs, .da (.int 5)] Q := by
  have hS : SGN.length ≤ lim := SGN_lim
  have hS' : SGN.length = 96 := SGN_len
  refine fv_fn rfl ?_
  walk_at "n"
  unfold b_law_fine
  rw [next_eq, signs_eq]
  walk_at "gS"
  rename_i r0 ys0 r00 r01 hd
  obtain ⟨N, hN⟩ : ∃ N : Nat, 1 + r0 = (N : Nat) := ⟨(1 + r0).toNat, by omega⟩
  rw [hN]
  have cells : Cs (SGN.map fun c => [c]) := by
    refine ⟨?_, fun c hc => by obtain ⟨x, _, rfl⟩ := List.mem_map.mp hc; simp⟩
    have : (SGN.map fun c => [c]).flatten = SGN := by
      generalize SGN = s
      induction s with
      | nil => rfl
      | cons a s ih => rw [List.map_cons, List.flatten_cons, ih]; rfl
    rw [this]
  refine sv_then (fun ρ => ∃ (rs : List (List Nat)) (ys : List D) (x5 : Sl), ρ = [.io ys, .d (.int 5), .d (.str SGN), .d (.int (N : Nat)), .ow (rs.map rowD), x5, .no, .no] ∧ DrE e ys ∧ rs.length = N ∧ ∀ r ∈ rs, r.length = 96 ∧ ∀ t ∈ r, t < N)
    (sv_for (fun i ρ => ∃ (rs : List (List Nat)) (ys : List D) (x5 : Sl), ρ = [.io ys, .d (.int 5), .d (.str SGN), .d (.int (N : Nat)), .ow (rs.map rowD), x5, .no, .no] ∧ DrE e ys ∧ rs.length = i ∧ ioQ (some x5) = false ∧ ∀ r ∈ rs, r.length = 96 ∧ ∀ t ∈ r, t < N) (ev_ir1 ?_)) ?_
  · walk_at "g"
    refine ⟨_, rfl, by omega, by omega, ⟨[], _, _, rfl, hd, rfl, rfl, fun _ h => absurd h List.not_mem_nil⟩, ?_, ?_⟩
    · rintro i y hy ρ ⟨rs, ys, x5, rfl, hd, hl, h5, hr⟩
      obtain ⟨hi, rfl⟩ := rngL_get hy
      refine ⟨_, asg_z (by exact h5), ?_⟩
      walk_at "n"
      refine sv_app_l rfl ?_
      refine ev_blt (ev_acons ?_)
      refine ev_lc_draw (v := 5) (SGN.map fun c => .str [c]) (fun z => ∃ t : Nat, z = nD t ∧ t < N) hd rfl (by rw [List.length_map]; exact hS) ?_ ?_ ?_
      · intro Q' q'
        refine ev_isq ?_
        walk_at "g"
        exact ⟨_, _, _, rfl, rfl, q'⟩
      · intro x _ ys hd Q' q'
        walk_at "n"
        walk_at "g"
        rename_i t ys t0 t1 hd
        obtain ⟨tn, rfl⟩ := Int.eq_ofNat_of_zero_le t0
        exact q' _ _ ⟨tn, rfl, by omega⟩ hd
      intro zs ys hz hzp hd
      obtain ⟨r, rfl, hr1, hr2⟩ := rows_of zs 96 N (by rw [hz, List.length_map, hS']) hzp
      walk_at "g"
      refine app rfl rfl (by rw [List.length_map]; show _ < 16777216; omega) ?_
      walk_at "n"
      refine ⟨rs ++ [r], ys, .d (.int (0 + (i : Int))), by rw [List.map_append]; rfl, hd, by simp [hl], rfl, ?_⟩
      intro r' hr'
      rcases List.mem_append.mp hr' with h | h
      · exact hr r' h
      · rw [List.mem_singleton.mp h]; exact ⟨hr1, hr2⟩
    · rintro ρ ⟨rs, ys, x5, rfl, hd, hl, h5, hr⟩
      rw [rngL_len] at hl
      exact ⟨rs, _, _, rfl, hd, by omega, hr⟩
  rintro ρ ⟨rs, ys, x5, rfl, hd, hl, hr⟩
  walk_at "g"
  refine ev_lcm SGN (fun c => .str [c]) (fun c => .str [c]) rfl hS ?_ ?_ ?_
  · intro Q' q'
    refine ev_isq ?_
    walk_at "g"
    exact ⟨_, _, _, rfl, rfl, q'⟩
  · intro c _ Q' q'
    walk_at "g"
    exact q'
  walk_at "g"
  have hd2 := hd
  refine ev_lc (fun i acc ρ' => ∃ ys, acc.length = i ∧ (∀ z ∈ acc, ∃ b, z = .bl b) ∧ DrE e ys ∧ ρ' = [.io ys, .d (.int 5), .d (.str SGN), .d (.int (N : Nat)), .d (.lst (rs.map rowD)), x5, .no, .no]) (ev_isq ?_)
  walk_at "g"
  refine ⟨_, _, _, rfl, rfl, rfl, ⟨ys, rfl, fun _ h => absurd h List.not_mem_nil, hd, rfl⟩, ?_, ?_⟩
  · rintro i x hx acc ρ' ⟨ys, ha, hz, hd, rfl⟩
    have hil := (List.getElem?_eq_some_iff.mp hx).1
    rw [List.length_map] at hil
    refine ⟨_, asg_z rfl, ev_tyes (brn_t ?_)⟩
    walk_at "n"
    walk_at "g"
    rename_i t ys t0 t1 hd
    refine ⟨_, _, rfl, by show _ < 16777216; omega, ys, by simp [ha], fun z hz' => ?_, hd, rfl⟩
    rcases List.mem_append.mp hz' with h | h
    · exact hz z h
    · rw [List.mem_singleton.mp h]; exact ⟨_, rfl⟩
  · rintro acc ρ' ⟨ys, ha, hz, hd, rfl⟩
    rw [List.length_map] at ha
    obtain ⟨ms, rfl, hm⟩ := marks_of acc N (by omega) hz
    walk_at "n"
    walk_at "g"
    walk_at "n"
    have := q ⟨SGN.map fun c => [c], rs, ms⟩ ys (mk_ok cells (by omega) (by omega) hl hm fun r hr' => by rw [List.length_map, hS']; exact hr r hr') (.inr fun c hc => by obtain ⟨a, _, rfl⟩ := List.mem_map.mp hc; exact Nat.le_refl _) hd
    unfold MD cellsD at this
    rw [List.map_map] at this
    exact this
end K55
namespace K55
open Sw L2
theorem in_ints {k : Int} {ks : List D} {Q : D → Prop} (h : ks.all flatD = true) (q : ∀ b, Q (.bl b)) : Giv (fIn (.int k) (.tup ks)) Q := by
  refine giv (z := .bl (inD (.int k) ks)) ?_ (q _)
  show orF fInS (fInQ false) _ _ = _
  unfold orF
  rw [show fInS (.int k) (.tup ks) = none from rfl]
  show fInQ false _ _ = _
  unfold fInQ
  dsimp only
  rw [h]
  rfl
theorem machine_ok {xs : List D} {e : Int} {L : List Nat} (hd : DrE e xs) (hL : Ltr L) {Q : Vl → List (List D) → Prop}
    (q : ∀ (m : Mc) (ys : List D), Ok m → Bd m → DrE e ys → Q (.fz (MD m)) [ys]) : Fv f_law_machine [.li xs, .da (.str L), .da (.int 5)] Q := by
  refine fv_fn rfl ?_
  walk_at "n"
  unfold b_law_machine
  rw [next_eq]
  walk_at "gS"
  refine division_ok hd hL fun cells ys hc h13 hd => ?_
  have cl := hc.len
  have cp := hc.pos
  walk_at "gS"
  rename_i r0 ys0 r00 r01 hd0 sh ys sh0 sh1 hd
  obtain ⟨N, hN⟩ : ∃ N : Nat, 1 + r0 = (N : Nat) := ⟨(1 + r0).toNat, by omega⟩
  rw [hN]
  have N1 : 1 ≤ N := by omega
  have N5 : N ≤ 5 := by omega
  clear hN hd0 r00 r01
  refine sv_then (fun ρ => ∃ (rs : List (List Nat)) (ms : List Bool) (ys : List D) (x8 x9 x10 x11 : Sl), ρ = [.io ys, .d (.str L), .d (.int 5), .d (.tup (cells.map .str)), .d (.int (N : Nat)), .d (.int sh), .ow (rs.map rowD), .ow (ms.map .bl), x8, x9, x10, x11] ∧ DrE e ys ∧ rs.length = N ∧ ms.length = N ∧ ∀ r ∈ rs, r.length = cells.length ∧ ∀ t ∈ r, t < N)
    (sv_for (fun i ρ => ∃ (rs : List (List Nat)) (ms : List Bool) (ys : List D) (x8 x9 x10 x11 : Sl), ρ = [.io ys, .d (.str L), .d (.int 5), .d (.tup (cells.map .str)), .d (.int (N : Nat)), .d (.int sh), .ow (rs.map rowD), .ow (ms.map .bl), x8, x9, x10, x11] ∧ DrE e ys ∧ rs.length = i ∧ ms.length = i ∧ ioQ (some x8) = false ∧ ioQ (some x9) = false ∧ ioQ (some x10) = false ∧ ioQ (some x11) = false ∧ ∀ r ∈ rs, r.length = cells.length ∧ ∀ t ∈ r, t < N) (ev_ir1 ?_)) ?_
  · walk_at "g"
    refine ⟨_, rfl, by omega, by omega, ⟨[], [], _, _, _, _, _, rfl, hd, rfl, rfl, rfl, rfl, rfl, rfl, fun _ h => absurd h List.not_mem_nil⟩, ?_, ?_⟩
    · rintro i y hy ρ ⟨rs, ms, ys, x8, x9, x10, x11, rfl, hd, hl, hm, h8, h9, h10, h11, hr⟩
      obtain ⟨hi, rfl⟩ := rngL_get hy
      refine ⟨_, asg_z (by exact h8), ?_⟩
      walk_at "n"
      rw [Int.zero_add]
      walk_at "gS"
      refine sv_then (fun ρ => ∃ (r : List Nat) (ys : List D) (x10 x11 : Sl), ρ = [.io ys, .d (.str L), .d (.int 5), .d (.tup (cells.map .str)), .d (.int (N : Nat)), .d (.int sh), .ow (rs.map rowD), .ow (ms.map .bl), .d (.int (i : Nat)), .ow (r.map nD), x10, x11] ∧ DrE e ys ∧ r.length = cells.length ∧ (∀ t ∈ r, t < N) ∧ ioQ (some x10) = false ∧ ioQ (some x11) = false)
        (sv_for (fun j ρ => ∃ (r : List Nat) (ys : List D) (x10 x11 : Sl), ρ = [.io ys, .d (.str L), .d (.int 5), .d (.tup (cells.map .str)), .d (.int (N : Nat)), .d (.int sh), .ow (rs.map rowD), .ow (ms.map .bl), .d (.int (i : Nat)), .ow (r.map nD), x10, x11] ∧ DrE e ys ∧ r.length = j ∧ (∀ t ∈ r, t < N) ∧ ioQ (some x10) = false ∧ ioQ (some x11) = false) (ev_isq ?_)) ?_
      · walk_at "g"
        refine ⟨_, _, _, rfl, rfl, ⟨[], _, _, _, rfl, hd, rfl, fun _ h => absurd h List.not_mem_nil, h10, h11⟩, ?_, ?_⟩
        · rintro j y hy ρ ⟨r, ys, x10, x11, rfl, hd, hrl, hrt, h10, h11⟩
          obtain ⟨c, hcj, rfl⟩ := mapS_get hy
          have hj := (List.getElem?_eq_some_iff.mp hcj).1
          refine ⟨_, asg_z (by exact h10), ?_⟩
          walk_at "n"
          walk_at "gS"
          rename_i la ys la0 la1 hd
          have P : ∀ (la : Int) (ys : List D), Rho := fun la ys => [.io ys, .d (.str L), .d (.int 5), .d (.tup (cells.map .str)), .d (.int (N : Nat)), .d (.int sh), .ow (rs.map rowD), .ow (ms.map .bl), .d (.int (i : Nat)), .ow (r.map nD), .d (.str c), .d (.int la)]
          refine sv_then (fun ρ => ∃ (la : Int) (ys : List D), ρ = [.io ys, .d (.str L), .d (.int 5), .d (.tup (cells.map .str)), .d (.int (N : Nat)), .d (.int sh), .ow (rs.map rowD), .ow (ms.map .bl), .d (.int (i : Nat)), .ow (r.map nD), .d (.str c), .d (.int la)] ∧ DrE e ys ∧ 0 ≤ la ∧ la < N) ?_ ?_
          · walk_at "g"
            refine brn_d (fun z => ?_) (fun z => ?_)
            · walk_at "g"
              exact ⟨_, _, rfl, hd, by omega, by omega⟩
            · walk_at "g"
              exact ⟨_, _, rfl, hd, la0, la1⟩
          clear hd la0 la1
          rintro ρ ⟨la, ys, rfl, hd, la0, la1⟩
          refine sv_then (fun ρ => ∃ (la : Int) (ys : List D), ρ = [.io ys, .d (.str L), .d (.int 5), .d (.tup (cells.map .str)), .d (.int (N : Nat)), .d (.int sh), .ow (rs.map rowD), .ow (ms.map .bl), .d (.int (i : Nat)), .ow (r.map nD), .d (.str c), .d (.int la)] ∧ DrE e ys ∧ 0 ≤ la ∧ la < N) ?_ ?_
          · refine sv_if_l (ev_tAnd ?_)
            walk_at "g"
            refine brn_d (fun z => ?_) (fun z => ?_)
            · walk_at "g"
              refine brn_d (fun z => ?_) (fun z => ?_)
              · walk_at "g"
                exact ⟨_, _, rfl, by assumption, Int.emod_nonneg _ (by omega), Int.emod_lt_of_pos _ (by omega)⟩
              · walk_at "g"
                exact ⟨_, _, rfl, by assumption, la0, la1⟩
            · refine brn_f ?_
              walk_at "g"
              exact ⟨_, _, rfl, hd, la0, la1⟩
          clear hd la0 la1
          rintro ρ ⟨la, ys, rfl, hd, la0, la1⟩
          refine sv_then (fun ρ => ∃ (la : Int) (ys : List D), ρ = [.io ys, .d (.str L), .d (.int 5), .d (.tup (cells.map .str)), .d (.int (N : Nat)), .d (.int sh), .ow (rs.map rowD), .ow (ms.map .bl), .d (.int (i : Nat)), .ow (r.map nD), .d (.str c), .d (.int la)] ∧ DrE e ys ∧ 0 ≤ la ∧ la < N) ?_ ?_
          · refine sv_if_l (ev_tAnd ?_)
            walk_at "g"
            refine brn_d (fun z => ?_) (fun z => ?_)
            · refine ev_tOr ?_
              walk_at "g"
              refine brn_d (fun z => ?_) (fun z => ?_)
              · refine brn_t ?_
                walk_at "g"
                exact ⟨_, _, rfl, hd, by omega, by omega⟩
              · walk_at "g"
                refine brn_d (fun z => ?_) (fun z => ?_)
                · walk_at "g"
                  exact ⟨_, _, rfl, by assumption, by omega, by omega⟩
                · walk_at "g"
                  exact ⟨_, _, rfl, by assumption, la0, la1⟩
            · refine brn_f ?_
              walk_at "g"
              exact ⟨_, _, rfl, hd, la0, la1⟩
          clear hd la0 la1
          rintro ρ ⟨la, ys, rfl, hd, la0, la1⟩
          obtain ⟨ln, rfl⟩ := Int.eq_ofNat_of_zero_le la0
          walk_at "g"
          refine app rfl rfl (by rw [List.length_map]; show _ < 16777216; omega) ?_
          walk_at "n"
          refine ⟨r ++ [ln], ys, _, _, by rw [List.map_append]; rfl, hd, by simp [hrl], ?_, rfl, rfl⟩
          intro t ht
          rcases List.mem_append.mp ht with h | h
          · exact hrt t h
          · rw [List.mem_singleton.mp h]; omega
        · rintro ρ ⟨r, ys, x10, x11, rfl, hd, hrl, hrt, h10, h11⟩
          rw [List.length_map] at hrl
          exact ⟨r, _, _, _, rfl, hd, hrl, hrt, h10, h11⟩
      rintro ρ ⟨r, ys, x10, x11, rfl, hd, hrl, hrt, h10, h11⟩
      walk_at "g"
      refine app rfl rfl (by rw [List.length_map]; show _ < 16777216; omega) ?_
      walk_at "n"
      walk_at "g"
      rename_i t ys t0 t1 hd
      refine app rfl rfl (by rw [List.length_map]; show _ < 16777216; omega) ?_
      walk_at "n"
      refine ⟨rs ++ [r], ms ++ [_], ys, _, .ow (r.map nD), x10, x11, by rw [List.map_append, List.map_append]; rfl, hd, by simp [hl], by simp [hm], rfl, rfl, h10, h11, ?_⟩
      intro r' hr'
      rcases List.mem_append.mp hr' with h | h
      · exact hr r' h
      · rw [List.mem_singleton.mp h]; exact ⟨hrl, hrt⟩
    · rintro ρ ⟨rs, ms, ys, x8, x9, x10, x11, rfl, hd, hl, hm, h8, h9, h10, h11, hr⟩
      rw [rngL_len] at hl hm
      exact ⟨rs, ms, _, _, _, _, _, rfl, hd, by omega, by omega, hr⟩
  clear hd
  rintro ρ ⟨rs, ms, ys, x8, x9, x10, x11, rfl, hd, hl, hm, hr⟩
  refine sv_then (fun ρ => ∃ (ms : List Bool) (ys : List D), ρ = [.io ys, .d (.str L), .d (.int 5), .d (.tup (cells.map .str)), .d (.int (N : Nat)), .d (.int sh), .ow (rs.map rowD), .ow (ms.map .bl), x8, x9, x10, x11] ∧ DrE e ys ∧ ms.length = N) ?_ ?_
  · have fin : ∀ ys, DrE e ys → Sv (sSetI 7 (eBin fSub (eVar 4) (eC (.int 1))) (eC (.bl false))) [.io ys, .d (.str L), .d (.int 5), .d (.tup (cells.map .str)), .d (.int (N : Nat)), .d (.int sh), .ow (rs.map rowD), .ow (ms.map .bl), x8, x9, x10, x11] fun fl ρ1 => match fl with
        | .nx => ∃ (ms : List Bool) (ys : List D), ρ1 = [.io ys, .d (.str L), .d (.int 5), .d (.tup (cells.map .str)), .d (.int (N : Nat)), .d (.int sh), .ow (rs.map rowD), .ow (ms.map .bl), x8, x9, x10, x11] ∧ DrE e ys ∧ ms.length = N
        | fl => False := by
      intro ys hd
      refine sv_seti_l ?_
      walk_at "g"
      refine ⟨_, _, rfl, rfl, ?_⟩
      walk_at "g"
      refine ⟨_, N - 1, rfl, by rw [show (N : Int) - 1 = ((N - 1 : Nat) : Int) by omega]; exact ixN_nat (by rw [List.length_map]; omega), ?_⟩
      walk_at "n"
      exact ⟨ms.set (N - 1) false, ys, by rw [List.map_set], hd, by rw [List.length_set]; exact hm⟩
    refine sv_if_l (ev_tAnd ?_)
    walk_at "g"
    refine in_ints rfl fun b => ?_
    walk_at "g"
    refine brn_c (fun _ => ?_) (fun _ => ?_)
    · walk_at "g"
      refine brn_d (fun z => ?_) (fun z => ?_)
      · exact (fin _ (by assumption)).mono fun fl ρ h => by cases fl <;> first | exact h | exact h.elim
      · walk_at "g"
        exact ⟨ms, _, rfl, by assumption, hm⟩
    · refine brn_f ?_
      walk_at "g"
      exact ⟨ms, _, rfl, hd, hm⟩
  clear hd hm
  rintro ρ ⟨ms, ys, rfl, hd, hm⟩
  refine sv_then (fun ρ => ∃ (ms : List Bool) (ys : List D), ρ = [.io ys, .d (.str L), .d (.int 5), .d (.tup (cells.map .str)), .d (.int (N : Nat)), .d (.int sh), .ow (rs.map rowD), .ow (ms.map .bl), x8, x9, x10, x11] ∧ DrE e ys ∧ ms.length = N) ?_ ?_
  · refine sv_if_l (ev_tAnd ?_)
    walk_at "g"
    refine ni_bls fun b => ?_
    walk_at "g"
    refine brn_c (fun _ => ?_) (fun _ => ?_)
    · walk_at "g"
      refine brn_d (fun z => ?_) (fun z => ?_)
      · refine sv_seti_l ?_
        walk_at "g"
        refine ⟨_, _, rfl, rfl, ?_⟩
        walk_at "g"
        rename_i t ys t0 t1 hd
        obtain ⟨tn, rfl⟩ := Int.eq_ofNat_of_zero_le t0
        refine ⟨_, tn, rfl, ixN_nat (by rw [List.length_map]; omega), ?_⟩
        walk_at "n"
        exact ⟨ms.set tn true, ys, by rw [List.map_set], hd, by rw [List.length_set]; exact hm⟩
      · walk_at "g"
        exact ⟨ms, _, rfl, by assumption, hm⟩
    · refine brn_f ?_
      walk_at "g"
      exact ⟨ms, _, rfl, hd, hm⟩
  clear hd hm
  rintro ρ ⟨ms, ys, rfl, hd, hm⟩
  walk_at "g"
  walk_at "n"
  exact q ⟨cells, rs, ms⟩ ys (mk_ok hc (by omega) (by omega) hl hm hr) (.inl h13) hd
end K55
namespace K55
open Sw L2
theorem giv_lenO {c : PySem.Str} {f : Fn} {ks : List PySem.Str} {xs : List D} {Q : D → Prop} (q : Fv f [.da (.obj c ks xs)] fun r _ => ∃ z, r = .fz (.int z) ∧ (0 ≤ z ∧ z < 1000000000) ∧ Q (.int z)) : Giv (cLenO c f [.obj c ks xs]) Q := by
  obtain ⟨r, os, e, b, rfl, b0, q⟩ := q
  refine ⟨_, ?_, q⟩
  unfold cLenO
  show (if isOf c (D.obj c ks xs) = true then (f [.da (D.obj c ks xs)]).bind _ else none) = _
  rw [if_pos isOf_obj, e]
  exact if_pos b0
theorem cell_of_ok (m : Mc) (h : Ok m) {c : Nat} (hc : c ∈ SGN) {Q : Vl → List (List D) → Prop} (q : Q (.fz (nD (cellOf m.cells c))) []) : Fv f_cell_of [.da (.lst (m.cells.map .str)), .da (.str [c])] Q := by
  have nd : m.cells.flatten.Nodup := h.pt.nodup_iff.mpr (ascl_nodup sgn_asc)
  have c2 := h.c2
  refine fv_fn rfl ?_
  walk_at "n"
  unfold b_cell_of
  refine sv_then (fun ρ => False) (sv_for (fun i ρ => ∃ x2 x3 : Sl, ρ = [.d (.lst (m.cells.map .str)), .d (.str [c]), x2, x3] ∧ (∀ x ∈ m.cells.take i, c ∉ x) ∧ ioQ (some x2) = false ∧ ioQ (some x3) = false) ?_) ?_
  · refine ⟨enumL (m.cells.map .str), _, rfl, ⟨_, _, rfl, fun x hx => absurd hx List.not_mem_nil, rfl, rfl⟩, ?_, ?_⟩
    · rintro i y hy ρ ⟨x2, x3, rfl, hn, h2, h3⟩
      rw [enumL_get, List.getElem?_map] at hy
      rw [Option.map_map] at hy
      obtain ⟨x, hx, rfl⟩ := Option.map_eq_some_iff.mp hy
      have hi := (List.getElem?_eq_some_iff.mp hx).1
      refine ⟨_, gT2_ok (by exact h2) (by exact h3), ?_⟩
      walk_at "n"
      walk_at "g"
      refine brn_d (fun z => ?_) (fun z => ?_)
      · walk_at "g"
        walk_at "n"
        rw [cellOf_at nd hx z] at q
        exact q
      · walk_at "g"
        refine ⟨_, _, rfl, fun y hy => ?_, rfl, rfl⟩
        rw [take_s hx] at hy
        rcases List.mem_append.mp hy with hy | hy
        · exact hn y hy
        · rw [List.mem_singleton.mp hy]
          exact z
    · rintro ρ ⟨x2, x3, rfl, hn, _⟩
      rw [enumL_len, List.length_map, List.take_length] at hn
      have : c ∈ m.cells.flatten := h.pt.mem_iff.mpr hc
      obtain ⟨x, hx, hcx⟩ := List.mem_flatten.mp this
      exact hn x hx hcx
  · intro ρ h
    exact h.elim
theorem state_after_ok (m : Mc) (h : Ok m) (t : List Nat) (ht : ∀ c ∈ t, c ∈ SGN) {Q : Vl → List (List D) → Prop} (q : run m 0 t < m.rows.length → Q (.fz (nD (run m 0 t))) []) : Fv f_Machine_state_after [.da (OD m), .da (.str t)] Q := by
  have n1 := h.n1
  refine fv_fn rfl ?_
  walk_at "n"
  unfold b_Machine_state_after
  refine sv_asg_s ?_
  refine ev_new ?_
  walk_at "g"
  refine ⟨_, _, rfl, rfl, ?_⟩
  walk_at "gS"
  refine sv_then (fun ρ => ∃ x2 x4 : Sl, ρ = [.d (OD m), .d (.str t), x2, .d (nD (run m 0 t)), x4] ∧ run m 0 t < m.rows.length)
    (sv_for (fun i ρ => ∃ x2 x4 : Sl, ρ = [.d (OD m), .d (.str t), x2, .d (nD (run m 0 (t.take i))), x4] ∧ (x2 = .ow (m.cells.map .str) ∨ x2 = .d (.lst (m.cells.map .str))) ∧ ioQ (some x4) = false ∧ run m 0 (t.take i) < m.rows.length) (ev_isq ?_)) ?_
  · walk_at "g"
    refine ⟨_, _, _, rfl, rfl, ⟨_, _, rfl, .inl rfl, rfl, by exact n1⟩, ?_, ?_⟩
    · rintro i y hy ρ ⟨x2, x4, rfl, h2, h4, hlt⟩
      obtain ⟨c, hc, rfl⟩ := map_get hy
      have hcs := ht c (List.mem_of_getElem? hc)
      obtain ⟨n1, n2⟩ := next_lt h hlt hcs
      have hr := row_at h hlt
      have atr : atI (m.rows.map rowD) ((run m 0 (t.take i) : Nat) : Int) = some (rowD (m.rows.getD (run m 0 (t.take i)) [])) := by rw [atI_lit', List.getElem?_map, hr]; rfl
      have att := atN n1
      refine ⟨_, asg_z (by exact h4), ?_⟩
      walk_at "n"
      rcases h2 with rfl | rfl
      · walk_at "g"
        refine cell_of_ok m h hcs ?_
        walk_at "g"
        exact ⟨_, _, by rw [take_s hc, run_snoc], .inr rfl, rfl, by rw [take_s hc, run_snoc]; exact n2⟩
      · walk_at "g"
        refine cell_of_ok m h hcs ?_
        walk_at "g"
        exact ⟨_, _, by rw [take_s hc, run_snoc], .inr rfl, rfl, by rw [take_s hc, run_snoc]; exact n2⟩
    · rintro ρ ⟨x2, x4, rfl, h2, h4, hlt⟩
      rw [List.length_map, List.take_length] at hlt ⊢
      exact ⟨_, _, rfl, hlt⟩
  rintro ρ ⟨x2, x4, rfl, hlt⟩
  walk_at "g"
  walk_at "n"
  exact q hlt
theorem mark_at {m : Mc} (h : Ok m) {s : Nat} (hs : s < m.rows.length) : atI (m.marks.map D.bl) ((s : Nat) : Int) = some (.bl (m.marks.getD s false)) := by
  have ml := h.ml
  rw [atI_lit', List.getElem?_map, List.getElem?_eq_getElem (by omega), List.getD_eq_getElem?_getD, List.getElem?_eq_getElem (by omega)]; rfl
theorem accepts_ok (m : Mc) (h : Ok m) (t : List Nat) (ht : ∀ c ∈ t, c ∈ SGN) {Q : Vl → List (List D) → Prop} (q : Q (.fz (.bl (m.marks.getD (run m 0 t) false))) []) : Fv f_Machine_accepts [.da (OD m), .da (.str t)] Q := by
  refine fv_fn rfl ?_
  walk_at "n"
  unfold b_Machine_accepts
  walk_at "g"
  refine state_after_ok m h t ht fun hlt => ?_
  have := mark_at h hlt
  walk_at "g"
  walk_at "n"
  exact q
theorem len_ok (m : Mc) {Q : Vl → List (List D) → Prop} (q : Q (.fz (.int (m.rows.length : Nat))) []) : Fv f_Machine_len [.da (OD m)] Q := by
  refine fv_fn rfl ?_
  walk_at "n"
  unfold b_Machine_len
  walk_at "g"
  walk_at "n"
  rw [List.length_map]
  exact q
theorem map_inj' {α β : Type} {f : α → β} (hf : ∀ a b, f a = f b → a = b) : ∀ {xs ys : List α}, xs.map f = ys.map f → xs = ys
  | [], [], _ => rfl
  | [], _ :: _, h => by cases h
  | _ :: _, [], h => by cases h
  | x :: xs, y :: ys, h => by
    rw [List.map_cons, List.map_cons] at h
    rw [hf _ _ (List.cons.inj h).1, map_inj' hf (List.cons.inj h).2]
theorem str_inj : ∀ xs ys : List (List Nat), xs.map D.str = ys.map D.str ↔ xs = ys := fun xs ys =>
  ⟨fun h => map_inj' (fun a b e => D.str.inj e) h, fun h => by rw [h]⟩
theorem row_inj : ∀ xs ys : List Nat, rowD xs = rowD ys ↔ xs = ys := fun xs ys =>
  ⟨fun h => map_inj' (fun a b e => by have := D.int.inj e; omega) (D.tup.inj h), fun h => by rw [h]⟩
theorem rows_inj : ∀ xs ys : List (List Nat), xs.map rowD = ys.map rowD ↔ xs = ys := fun xs ys =>
  ⟨fun h => map_inj' (fun a b e => (row_inj a b).mp e) h, fun h => by rw [h]⟩
theorem bl_eqv (a b : Bool) : PySem.PyData.eqv (toP (.bl a)) (toP (.bl b)) = decide (a = b) := by cases a <;> cases b <;> rfl
theorem bls_eqv : ∀ xs ys : List Bool, PySem.PyData.eqvAll (toPs (xs.map D.bl)) (toPs (ys.map D.bl)) = decide (xs = ys)
  | [], [] => rfl
  | [], y :: ys => by simp [toPs, PySem.PyData.eqvAll]
  | x :: xs, [] => by simp [toPs, PySem.PyData.eqvAll]
  | x :: xs, y :: ys => by
    rw [List.map_cons, List.map_cons, toPs, toPs, PySem.PyData.eqvAll, bl_eqv, bls_eqv xs ys]
    by_cases h1 : x = y <;> by_cases h2 : xs = ys <;> simp [h1, h2]
theorem marks_eq (xs ys : List Bool) : fEq (.tup (xs.map D.bl)) (.tup (ys.map D.bl)) = some (.bl (decide (xs = ys))) := by
  have sh : ∀ zs : List Bool, shD (.tup (zs.map D.bl)) = true := fun zs => shD_of (by rw [okD]; exact (ok_marks zs).1) (by rw [dpD, (ok_marks zs).2]; omega)
  show orF fEqS fEqD _ _ = _
  unfold orF
  rw [show fEqS (.tup (xs.map D.bl)) (.tup (ys.map D.bl)) = none from rfl]
  show fEqD _ _ = _
  unfold fEqD
  rw [if_pos (by rw [sh, sh]; rfl)]
  congr 2
  simp only [toP, PySem.PyData.eqv]
  exact bls_eqv xs ys
theorem cells_eq (xs ys : List (List Nat)) (hx : okDs (xs.map D.str) = true) (hy : okDs (ys.map D.str) = true) : fEq (.tup (xs.map D.str)) (.tup (ys.map D.str)) = some (.bl (decide (xs = ys))) :=
  eq_dec rfl (shD_of (by rw [okD]; exact hx) (by rw [dpD, dp_strs]; omega)) (shD_of (by rw [okD]; exact hy) (by rw [dpD, dp_strs]; omega)) (nbDs_all fun x h => by obtain ⟨a, _, rfl⟩ := List.mem_map.mp h; rfl) (nbDs_all fun x h => by obtain ⟨a, _, rfl⟩ := List.mem_map.mp h; rfl)
    ⟨fun h => (str_inj xs ys).mp (D.tup.inj h), fun h => by rw [h]⟩
theorem nb_row (r : List Nat) : nbD (rowD r) = true := nbDs_all fun x h => by obtain ⟨a, _, rfl⟩ := List.mem_map.mp h; rfl
theorem rows_eq (xs ys : List (List Nat)) : fEq (.tup (xs.map rowD)) (.tup (ys.map rowD)) = some (.bl (decide (xs = ys))) :=
  eq_dec rfl (shD_of (by rw [okD]; exact (ok_rows _).1) (by rw [dpD]; have := (ok_rows xs).2; omega)) (shD_of (by rw [okD]; exact (ok_rows _).1) (by rw [dpD]; have := (ok_rows ys).2; omega)) (nbDs_all fun x h => by obtain ⟨a, _, rfl⟩ := List.mem_map.mp h; exact nb_row a) (nbDs_all fun x h => by obtain ⟨a, _, rfl⟩ := List.mem_map.mp h; exact nb_row a)
    ⟨fun h => (rows_inj xs ys).mp (D.tup.inj h), fun h => by rw [h]⟩
theorem eq_ok (m n : Mc) (hm : Ok m) (hn : Ok n) {Q : Vl → List (List D) → Prop} (q : ∀ b, (b = true ↔ m = n) → Q (.fz (.bl b)) []) : Fv f_Machine_eq [.da (OD m), .da (OD n)] Q := by
  obtain ⟨mc, mr, mm⟩ := m
  obtain ⟨nc, nr, nm⟩ := n
  have e1 := cells_eq mc nc (ok_cells hm) (ok_cells hn)
  have e2 := rows_eq mr nr
  have e3 := marks_eq mm nm
  refine fv_fn rfl ?_
  walk_at "n"
  unfold b_Machine_eq OD cellsD rowsD marksD
  dsimp only
  walk_at "g"
  refine giv e1 ?_
  walk_at "g"
  refine brn_d (fun z1 => ?_) (fun z1 => ?_)
  · walk_at "g"
    refine giv e2 ?_
    walk_at "g"
    refine brn_d (fun z2 => ?_) (fun z2 => ?_)
    · walk_at "g"
      refine giv e3 ?_
      walk_at "g"
      walk_at "n"
      refine q _ ?_
      rw [decide_eq_true_iff, Mc.mk.injEq]
      exact ⟨fun z3 => ⟨z1, z2, z3⟩, fun z => z.2.2⟩
    · walk_at "g"
      walk_at "n"
      refine q _ ?_
      rw [Mc.mk.injEq]
      exact ⟨fun z => Bool.noConfusion z, fun z => absurd z.2.1 z2⟩
  · walk_at "g"
    walk_at "n"
    refine q _ ?_
    rw [Mc.mk.injEq]
    exact ⟨fun z => Bool.noConfusion z, fun z => absurd z.1 z1⟩
/-- == with a tuple is False -/
theorem eq_tup_ok (m : Mc) (xs : List D) {Q : Vl → List (List D) → Prop} (q : Q (.fz (.bl false)) []) : Fv f_Machine_eq [.da (OD m), .da (.tup xs)] Q := by
  refine fv_fn rfl ?_
  walk_at "n"
  unfold b_Machine_eq
  walk_at "g"
  walk_at "n"
  exact q
end K55
namespace K55
open Sw L2
local macro_rules | `(tactic| walk_at "zgv") => `(tactic| ((with_reducible refine' giv_mul ?s0 ?_); (case s0 => (exact cMul_r (by omega)))))
theorem set_row {r : List Nat} {k c t N : Nat} (h : r.length = c ∧ ∀ x ∈ r, x < N) (ht : t < N) : (r.set k t).length = c ∧ ∀ x ∈ r.set k t, x < N := by
  refine ⟨by rw [List.length_set]; exact h.1, fun x hx => ?_⟩
  rcases List.mem_or_eq_of_mem_set hx with hx | rfl
  · exact h.2 x hx
  · exact ht
theorem chain_ok {xs : List D} {e : Int} {L : List Nat} (hd : DrE e xs) (hL : Ltr L) {Q : Vl → List (List D) → Prop}
    (q : ∀ (m : Mc) (ys : List D), Ok m → Bd m → DrE e ys → Q (.fz (MD m)) [ys]) : Fv f_law_chain [.li xs, .da (.str L)] Q := by
  refine fv_fn rfl ?_
  walk_at "n"
  unfold b_law_chain
  rw [next_eq]
  walk_at "gS"
  refine division_ok hd hL fun cells ys hc h13 hd => ?_
  have cl := hc.len
  have cp := hc.pos
  walk_at "gS"
  rename_i r0 ys0 r00 r01 hd0
  refine fv_nextE (by assumption) (by rw [List.length_map]; omega) ?_
  intro kp ys k0 k1 hd
  rw [List.length_map] at k1
  walk_at "gS"
  rename_i bk ys bk0 bk1 hd
  obtain ⟨N, hN⟩ : ∃ N : Nat, 12 + r0 = (N : Nat) := ⟨(12 + r0).toNat, by omega⟩
  rw [hN] at bk1 ⊢
  obtain ⟨kn, rfl⟩ := Int.eq_ofNat_of_zero_le k0
  obtain ⟨bn, rfl⟩ := Int.eq_ofNat_of_zero_le bk0
  have hkn : kn < cells.length := by omega
  refine sv_then (fun ρ => ∃ (rs : List (List Nat)) (ys : List D) (x7 x9 : Sl), ρ = [.io ys, .d (.str L), .d (.tup (cells.map .str)), .d (.int (N : Nat)), .d (.int (kn : Nat)), .d (.int (bn : Nat)), .ow (rs.map rowD), x7, .no, x9, .no] ∧ DrE e ys ∧ rs.length = N ∧ plainSl (some x7) = true ∧ ∀ r ∈ rs, r.length = cells.length ∧ ∀ t ∈ r, t < N)
    (sv_for (fun i ρ => ∃ (rs : List (List Nat)) (ys : List D) (x7 x9 : Sl), ρ = [.io ys, .d (.str L), .d (.tup (cells.map .str)), .d (.int (N : Nat)), .d (.int (kn : Nat)), .d (.int (bn : Nat)), .ow (rs.map rowD), x7, .no, x9, .no] ∧ DrE e ys ∧ rs.length = i ∧ plainSl (some x7) = true ∧ ioQ (some x9) = false ∧ ∀ r ∈ rs, r.length = cells.length ∧ ∀ t ∈ r, t < N) (ev_ir1 ?_)) ?_
  · walk_at "g"
    refine ⟨_, rfl, by omega, by omega, ⟨[], _, _, _, rfl, hd, rfl, rfl, rfl, fun _ h => absurd h List.not_mem_nil⟩, ?_, ?_⟩
    · rintro i y hy ρ ⟨rs, ys, x7, x9, rfl, hd, hl, h7, h9, hr⟩
      obtain ⟨hi, rfl⟩ := rngL_get hy
      have h7' : ioQ (some x7) = false := by cases x7 <;> first | rfl | cases h7
      refine ⟨_, asg_z (by exact h7'), ?_⟩
      walk_at "n"
      refine sv_asg_s ?_
      refine ev_lc_draw (v := 9) (cells.map D.str) (fun z => ∃ t : Nat, z = nD t ∧ t < N) hd rfl (by rw [List.length_map]; show _ ≤ 16777216; omega) ?_ ?_ ?_
      · intro Q' q'
        refine ev_isq ?_
        walk_at "g"
        exact ⟨_, _, _, rfl, rfl, q'⟩
      · intro x _ ys hd Q' q'
        walk_at "n"
        walk_at "g"
        rename_i t ys t0 t1 hd
        have : t = 0 ∨ t = 1 := by omega
        rcases this with rfl | rfl
        · refine q' _ _ ⟨0, by rw [Int.mul_zero]; rfl, by omega⟩ hd
        · refine q' _ _ ⟨i, by rw [Int.mul_one, Int.zero_add], by omega⟩ hd
      intro zs ys hz hzp hd
      obtain ⟨r, rfl, hr1, hr2⟩ := rows_of zs cells.length N (by rw [hz, List.length_map]) hzp
      refine ex_asg' (by exact h9) ?_
      walk_at "n"
      refine sv_seti_s ?_
      walk_at "g"
      refine ⟨_, _, rfl, rfl, ?_⟩
      walk_at "g"
      refine ⟨_, kn, rfl, ixN_nat (by rw [List.length_map]; omega), ?_⟩
      walk_at "n"
      rw [show (0 + (i : Int) + 1) = ((i + 1 : Nat) : Int) by omega, show (r.map nD).set kn (.int ((i + 1 : Nat) : Int)) = (r.set kn (i + 1)).map nD by rw [List.map_set]]
      refine sv_then (fun ρ => ∃ (r : List Nat), ρ = [.io ys, .d (.str L), .d (.tup (cells.map .str)), .d (.int (N : Nat)), .d (.int (kn : Nat)), .d (.int (bn : Nat)), .ow (rs.map rowD), .d (.int (0 + (i : Int))), .no, .ow (r.map nD), .no] ∧ r.length = cells.length ∧ ∀ t ∈ r, t < N) ?_ ?_
      · walk_at "g"
        refine brn_d (fun z => ?_) (fun z => ?_)
        · refine sv_seti_l ?_
          walk_at "g"
          refine ⟨_, _, rfl, rfl, ?_⟩
          walk_at "g"
          refine ⟨_, kn, rfl, ixN_nat (by rw [List.length_map, List.length_set]; omega), ?_⟩
          walk_at "n"
          refine ⟨(r.set kn (i + 1)).set kn bn, by simp only [List.map_set], ?_⟩
          rw [List.set_set]
          exact set_row ⟨hr1, hr2⟩ (by omega)
        · walk_at "g"
          exact ⟨_, rfl, set_row ⟨hr1, hr2⟩ (by omega)⟩
      rintro ρ ⟨r, rfl, hr1, hr2⟩
      walk_at "g"
      refine app rfl rfl (by rw [List.length_map]; show _ < 16777216; omega) ?_
      walk_at "n"
      refine ⟨rs ++ [r], _, .d (.int (0 + (i : Int))), .ow (r.map nD), ?_, hd, by simp [hl], rfl, rfl, ?_⟩
      · rw [List.map_append]
        rfl
      · intro r' hr'
        rcases List.mem_append.mp hr' with h | h
        · exact hr r' h
        · rw [List.mem_singleton.mp h]
          exact ⟨hr1, hr2⟩
    · rintro ρ ⟨rs, ys, x7, x9, rfl, hd, hl, h7, h9, hr⟩
      rw [rngL_len] at hl
      exact ⟨rs, _, _, _, rfl, hd, by omega, h7, hr⟩
  rintro ρ ⟨rs, ys, x7, x9, rfl, hd, hl, h7, hr⟩
  walk_at "gS"
  rename_i sp ys sp0 sp1 hd
  have n0 : (1 : Int) + sp ≠ 0 := by omega
  refine ev_lcm (List.range N) (fun i => .int (0 + (i : Int))) (fun i => .bl (decide ((0 + (i : Int) + 1) % (1 + sp) = 0))) (by exact h7) (by rw [List.length_range]; show _ ≤ 16777216; omega) ?_ ?_ ?_
  · intro Q' q'
    refine ev_ir1 ?_
    walk_at "g"
    exact ⟨_, rfl, by omega, by omega, by rw [show ((N : Nat) : Int).toNat = N by omega]; exact q'⟩
  · intro i _ Q' q'
    walk_at "g"
    exact q'
  walk_at "g"
  walk_at "n"
  have := q ⟨cells, rs, (List.range N).map fun i : Nat => decide ((0 + (i : Int) + 1) % (1 + sp) = 0)⟩ _ (mk_ok hc (by omega) (by omega) hl (by rw [List.length_map, List.length_range]) hr) (.inl h13) hd
  unfold MD marksD at this
  rw [List.map_map] at this
  exact this
theorem cell_at {m : Mc} (h : Ok m) {k : Nat} (hk : k < m.cells.length) : ∃ c, m.cells[k]? = some c ∧ c ∈ m.cells ∧ atI (m.cells.map D.str) ((k : Nat) : Int) = some (.str c) ∧ 1 ≤ c.length ∧ c.length ≤ 96 ∧ ∀ x ∈ c, x ∈ SGN := by
  have e : m.cells[k]? = some m.cells[k] := List.getElem?_eq_getElem hk
  have hm : m.cells[k] ∈ m.cells := List.getElem_mem _
  generalize m.cells[k] = c at e hm
  refine ⟨c, e, hm, by rw [atI_lit', List.getElem?_map, e]; rfl, ?_, cell_len h hm, fun x hx => h.pt.mem_iff.mp (List.mem_flatten.mpr ⟨c, hm, hx⟩)⟩
  have := h.ne c hm
  cases c with
  | nil => exact absurd rfl this
  | cons a c => simp
theorem cells_pos {m : Mc} (h : Ok m) : 1 ≤ m.cells.length := Cs.pos ⟨h.pt, h.ne⟩
theorem sg_at {c : List Nat} {k : Nat} (hk : k < c.length) : ∃ s, atI c ((k : Nat) : Int) = some s ∧ s ∈ c := ⟨c[k], by rw [atI_lit']; exact List.getElem?_eq_getElem hk, List.getElem_mem _⟩
theorem over_ok (m : Mc) (h : Ok m) {xs : List D} {e : Int} (hd : DrE e xs) {Q : Vl → List (List D) → Prop}
    (q : ∀ (t : List Nat) (ys : List D), t.length ≤ 12 → (∀ c ∈ t, c ∈ SGN) → DrE e ys → Q (.fz (.str t)) [ys]) : Fv f_law_over [.li xs, .da (cellsD m), .da (.int 12)] Q := by
  have cp := cells_pos h
  have c2 := h.c2
  refine fv_fn rfl ?_
  walk_at "n"
  unfold b_law_over
  rw [next_eq]
  walk_at "gS"
  refine sv_then (fun ρ => ∃ (t : List Nat) (ys : List D) (x4 x5 : Sl), ρ = [.io ys, .d (cellsD m), .d (.int 12), .d (.str t), x4, x5] ∧ DrE e ys ∧ t.length ≤ 12 ∧ ∀ c ∈ t, c ∈ SGN)
    (sv_for (fun i ρ => ∃ (t : List Nat) (ys : List D) (x4 x5 : Sl), ρ = [.io ys, .d (cellsD m), .d (.int 12), .d (.str t), x4, x5] ∧ DrE e ys ∧ t.length = i ∧ (∀ c ∈ t, c ∈ SGN) ∧ ioQ (some x4) = false ∧ ioQ (some x5) = false) (ev_ir1 ?_)) ?_
  · walk_at "g"
    rename_i n ys n0 n1 hd
    refine ⟨_, rfl, by omega, by omega, ⟨[], _, _, _, rfl, hd, rfl, fun _ h => absurd h List.not_mem_nil, rfl, rfl⟩, ?_, ?_⟩
    · rintro i y hy ρ ⟨t, ys, x4, x5, rfl, hd, ht, hs, h4, h5⟩
      obtain ⟨hi, rfl⟩ := rngL_get hy
      refine ⟨_, asg_z (by exact h4), ?_⟩
      walk_at "n"
      walk_at "gS"
      refine fv_nextE hd (by rw [List.length_map]; omega) ?_
      intro kp ys k0 k1 hd
      rw [List.length_map] at k1
      obtain ⟨kn, rfl⟩ := Int.eq_ofNat_of_zero_le k0
      obtain ⟨c, ec, hc, atc, c1, cl, cs⟩ := cell_at h (k := kn) (by omega)
      walk_at "gS"
      rename_i jp ys j0 j1 hd s hsc
      walk_at "g"
      refine ⟨t ++ [s], ys, _, _, rfl, hd, by simp [ht], fun x hx => ?_, rfl, rfl⟩
      rcases List.mem_append.mp hx with hx | hx
      · exact hs x hx
      · rw [List.mem_singleton.mp hx]; exact cs s hsc
    · rintro ρ ⟨t, ys, x4, x5, rfl, hd, ht, hs, _⟩
      rw [rngL_len] at ht
      exact ⟨t, _, _, _, rfl, hd, by omega, hs⟩
  rintro ρ ⟨t, ys, x4, x5, rfl, hd, ht, hs⟩
  walk_at "g"
  walk_at "n"
  exact q t ys ht hs hd
theorem long_ok (m : Mc) (h : Ok m) {xs : List D} {e : Int} (hd : DrE e xs) {Q : Vl → List (List D) → Prop}
    (q : ∀ (t : List Nat) (ys : List D), t.length ≤ 300 → (∀ c ∈ t, c ∈ SGN) → DrE e ys → Q (.fz (.str t)) [ys]) : Fv f_law_long [.li xs, .da (cellsD m), .da (.int 300)] Q := by
  have cp := cells_pos h
  have c2 := h.c2
  refine fv_fn rfl ?_
  walk_at "n"
  unfold b_law_long
  rw [next_eq]
  walk_at "gS"
  refine fv_nextE hd (by rw [List.length_map]; omega) ?_
  intro kp ys k0 k1 hd
  rw [List.length_map] at k1
  obtain ⟨kn, rfl⟩ := Int.eq_ofNat_of_zero_le k0
  obtain ⟨c, ec, hc, atc, c1, cl, cs⟩ := cell_at h (k := kn) (by omega)
  walk_at "gS"
  refine fv_nextE hd (by rw [List.length_map]; omega) ?_
  intro jp ys j0 j1 hd
  rw [List.length_map] at j1
  obtain ⟨jn, rfl⟩ := Int.eq_ofNat_of_zero_le j0
  obtain ⟨d, ed, hdm, atd, d1, dl, ds⟩ := cell_at h (k := jn) (by omega)
  obtain ⟨d0, atd0, hd0⟩ := sg_at (c := d) (k := 0) (by omega)
  walk_at "gS"
  refine sv_then (fun ρ => ∃ (t : List Nat) (ys : List D) (x6 : Sl), ρ = [.io ys, .d (cellsD m), .d (.int 300), .d (.str t), .d (.str c), .d (.str d), x6] ∧ DrE e ys ∧ t.length ≤ 100000 ∧ ∀ c ∈ t, c ∈ SGN)
    (sv_for (fun i ρ => ∃ (t : List Nat) (ys : List D) (x6 : Sl), ρ = [.io ys, .d (cellsD m), .d (.int 300), .d (.str t), .d (.str c), .d (.str d), x6] ∧ DrE e ys ∧ t.length ≤ 2 * i ∧ (∀ c ∈ t, c ∈ SGN) ∧ ioQ (some x6) = false) (ev_ir1 ?_)) ?_
  · walk_at "g"
    rename_i n ys n0 n1 hd
    refine ⟨_, rfl, by omega, by omega, ⟨[], _, _, rfl, hd, Nat.zero_le _, fun _ h => absurd h List.not_mem_nil, rfl⟩, ?_, ?_⟩
    · rintro i y hy ρ ⟨t, ys, x6, rfl, hd, ht, hs, h6⟩
      obtain ⟨hi, rfl⟩ := rngL_get hy
      refine ⟨_, asg_z (by exact h6), ?_⟩
      walk_at "n"
      walk_at "gS"
      rename_i jp ys j0 j1 hd s hsc
      walk_at "gS"
      have hs1 : ∀ x ∈ t ++ [s], x ∈ SGN := fun x hx => by
        rcases List.mem_append.mp hx with hx | hx
        · exact hs x hx
        · rw [List.mem_singleton.mp hx]; exact cs s hsc
      walk_at "g"
      refine brn_d (fun z => ?_) (fun z => ?_)
      · walk_at "g"
        refine ⟨_, ys, _, rfl, hd, by simp; omega, fun x hx => ?_, rfl⟩
        rcases List.mem_append.mp hx with hx | hx
        · exact hs1 x hx
        · rw [List.mem_singleton.mp hx]; exact ds d0 hd0
      · walk_at "g"
        exact ⟨_, ys, _, rfl, hd, by simp; omega, hs1, rfl⟩
    · rintro ρ ⟨t, ys, x6, rfl, hd, ht, hs, _⟩
      rw [rngL_len] at ht
      exact ⟨t, _, _, rfl, hd, by omega, hs⟩
  rintro ρ ⟨t, ys, x6, rfl, hd, ht, hs⟩
  walk_at "g"
  walk_at "n"
  exact q _ ys (by rw [List.length_take]; omega) (fun x hx => hs x (List.mem_of_mem_take hx)) hd
end K55
namespace K55
open Sw L2
theorem ok_m {m : Mc} (h : Ok m) {ms : List Bool} (hl : ms.length = m.rows.length) : Ok ⟨m.cells, m.rows, ms⟩ := ⟨h.n1, h.n2, hl, h.rw, h.c2, h.pt, h.ne⟩
theorem ok_r {m : Mc} (h : Ok m) {rs : List (List Nat)} (hl : rs.length = m.rows.length) (hr : ∀ r ∈ rs, r.length = m.cells.length ∧ ∀ t ∈ r, t < m.rows.length) : Ok ⟨m.cells, rs, m.marks⟩ :=
  ⟨by show 1 ≤ rs.length; rw [hl]; exact h.n1, by show rs.length ≤ 100; rw [hl]; exact h.n2, by show m.marks.length = rs.length; rw [hl]; exact h.ml, fun r hr' => by show r.length = m.cells.length ∧ ∀ t ∈ r, t < rs.length; rw [hl]; exact hr r hr', h.c2, h.pt, h.ne⟩
theorem ok_c {m : Mc} (h : Ok m) {cs : List (List Nat)} (hc : Cs cs) (hl : cs.length = m.cells.length) : Ok ⟨cs, m.rows, m.marks⟩ :=
  ⟨h.n1, h.n2, h.ml, fun r hr => by show r.length = cs.length ∧ _; rw [hl]; exact h.rw r hr, by show cs.length ≤ 96; rw [hl]; exact h.c2, hc.pt, hc.ne⟩
theorem cells_nd : ∀ {cs : List (List Nat)}, cs.flatten.Nodup → (∀ c ∈ cs, c ≠ []) → cs.Nodup
  | [], _, _ => .nil
  | c :: cs, nd, ne => by
    rw [List.flatten_cons] at nd
    obtain ⟨n1, n2, n3⟩ := List.nodup_append.mp nd
    refine List.nodup_cons.mpr ⟨fun hm => ?_, cells_nd n2 fun d hd => ne d (List.mem_cons_of_mem _ hd)⟩
    cases c with
    | nil => exact ne [] List.mem_cons_self rfl
    | cons a c => exact n3 a List.mem_cons_self a (List.mem_flatten.mpr ⟨_, hm, List.mem_cons_self⟩) rfl
theorem same_cell {cs : List (List Nat)} (nd : cs.flatten.Nodup) {c d : List Nat} {x : Nat} (hc : c ∈ cs) (hd : d ∈ cs) (xc : x ∈ c) (xd : x ∈ d) : c = d := by
  obtain ⟨i, hi⟩ := List.mem_iff_getElem?.mp hc
  obtain ⟨j, hj⟩ := List.mem_iff_getElem?.mp hd
  have := (cellOf_at nd hi xc).symm.trans (cellOf_at nd hj xd)
  subst this
  rw [hi] at hj
  exact Option.some.inj hj
theorem perm_fil {α : Type} [DecidableEq α] {l : List α} (nd : l.Nodup) {a : α} (h : a ∈ l) : l.Perm (a :: l.filter fun x => !decide (x = a)) := by
  have e : (l.filter fun x => !decide (x = a)) = l.erase a := by
    rw [nd.erase_eq_filter]
    congr 1
  rw [e]
  exact List.perm_cons_erase h
theorem drop_at {c : List Nat} {k s : Nat} (h : c[k]? = some s) : c.Perm (s :: (c.take k ++ c.drop (k + 1))) := by
  have hk := (List.getElem?_eq_some_iff.mp h).1
  have e : c = c.take k ++ s :: c.drop (k + 1) := by
    conv => lhs; rw [← List.take_append_drop k c]
    rw [List.drop_eq_getElem_cons hk]
    rw [List.getElem?_eq_getElem hk] at h
    rw [Option.some.inj h]
  conv => lhs; rw [e]
  exact List.perm_middle
theorem moved {m : Mc} (h : Ok m) {f s : List Nat} {k x : Nat} (hf : f ∈ m.cells) (hs : s ∈ m.cells) (hn : s ≠ f) (hl : 2 ≤ f.length) (hk : f[k]? = some x) {s1 : List Nat} (hp : s1.Perm (s ++ [x])) :
    Ok ⟨sortT (((m.cells.filter fun y => !decide (y = f)).filter fun y => !decide (y = s)) ++ [f.take k ++ f.drop (k + 1), s1]), m.rows, m.marks⟩ ∧
    (⟨sortT (((m.cells.filter fun y => !decide (y = f)).filter fun y => !decide (y = s)) ++ [f.take k ++ f.drop (k + 1), s1]), m.rows, m.marks⟩ : Mc) ≠ m := by
  have fn : m.cells.flatten.Nodup := h.pt.nodup_iff.mpr (ascl_nodup sgn_asc)
  have nd := cells_nd fn h.ne
  have p1 := perm_fil nd hf
  have nd2 : (m.cells.filter fun y => !decide (y = f)).Nodup := nd.filter _
  have hs2 : s ∈ m.cells.filter fun y => !decide (y = f) := List.mem_filter.mpr ⟨hs, by simp [hn]⟩
  have p2 := perm_fil nd2 hs2
  generalize hR : ((m.cells.filter fun y => !decide (y = f)).filter fun y => !decide (y = s)) = R at p2 ⊢
  have p3 : m.cells.Perm (f :: s :: R) := p1.trans (List.Perm.cons f p2)
  have hkl := (List.getElem?_eq_some_iff.mp hk).1
  have pf := drop_at hk
  generalize hf1 : f.take k ++ f.drop (k + 1) = f1 at pf ⊢
  have lf : f1.length + 1 = f.length := by
    have := pf.length_eq
    simp at this
    omega
  have Rne : ∀ c ∈ R, c ≠ [] := fun c hc => h.ne c (p3.mem_iff.mpr (List.mem_cons_of_mem _ (List.mem_cons_of_mem _ hc)))
  have fl : (R ++ [f1, s1]).flatten.Perm SGN := by
    refine List.Perm.trans ?_ (p3.flatten.symm.trans h.pt)
    rw [List.flatten_append, List.flatten_cons, List.flatten_cons, List.flatten_cons, List.flatten_cons, List.flatten_nil, List.append_nil]
    have a1 : (R.flatten ++ (f1 ++ s1)).Perm ((f1 ++ s1) ++ R.flatten) := List.perm_append_comm
    refine a1.trans ?_
    rw [← List.append_assoc]
    refine List.Perm.append_right _ ?_
    have a2 : (f1 ++ s1).Perm (f1 ++ (s ++ [x])) := List.Perm.append_left _ hp
    refine a2.trans ?_
    rw [← List.append_assoc]
    have a3 : (f1 ++ s ++ [x]).Perm (x :: (f1 ++ s)) := List.perm_append_comm
    refine a3.trans ?_
    exact (List.Perm.append_right s pf).symm
  have s1l : s1.length = s.length + 1 := by rw [hp.length_eq]; simp
  have hc : Cs (sortT (R ++ [f1, s1])) := cs_sort fl fun p hp' => by
    rcases List.mem_append.mp hp' with hp' | hp'
    · exact Rne p hp'
    · intro z
      subst z
      rcases List.mem_cons.mp hp' with z | z
      · have := congrArg List.length z
        simp at this
        omega
      · have := congrArg List.length (List.mem_singleton.mp z)
        simp at this
        omega
  refine ⟨ok_c h hc ?_, fun z => ?_⟩
  · rw [(sortT_perm _).length_eq, p3.length_eq]
    simp
  · have z1 : sortT (R ++ [f1, s1]) = m.cells := congrArg Mc.cells z
    have m1 : f1 ∈ m.cells := by
      rw [← z1]
      exact (sortT_perm _).mem_iff.mpr (List.mem_append_right _ List.mem_cons_self)
    cases e1 : f1 with
    | nil => rw [e1] at lf; simp at lf; omega
    | cons a b =>
      have ha : a ∈ f1 := by rw [e1]; exact List.mem_cons_self
      have := same_cell fn m1 hf ha (pf.mem_iff.mpr (List.mem_cons_of_mem _ ha))
      rw [this] at lf
      omega
theorem flip_ne {ms : List Bool} {j : Nat} (hj : j < ms.length) : ms.set j (!ms.getD j false) ≠ ms := fun z => by
  have := congrArg (fun l => l.getD j false) z
  simp [List.getD_eq_getElem?_getD, List.getElem?_set_self hj, List.getElem?_eq_getElem hj] at this
theorem entry_ne {rs : List (List Nat)} {j k v : Nat} {r : List Nat} (hr : rs[j]? = some r) (hk : k < r.length) (hv : v ≠ r.getD k 0) : rs.set j (r.set k v) ≠ rs := fun z => by
  have hj := (List.getElem?_eq_some_iff.mp hr).1
  have e := congrArg (fun l => l[j]?) z
  simp only [List.getElem?_set_self hj] at e
  rw [hr] at e
  have e2 := congrArg (fun l => l.getD k 0) (Option.some.inj e)
  simp [List.getD_eq_getElem?_getD, List.getElem?_set_self hk, List.getElem?_eq_getElem hk] at e2
  exact hv (by rw [List.getD_eq_getElem?_getD, List.getElem?_eq_getElem hk]; exact e2)
theorem otDs_map : ∀ ts : List Ot, otDs ts = ts.map otD
  | [] => rfl
  | t :: ts => by rw [otDs, otDs_map ts]; rfl
theorem otD_rows (rs : List (List D)) : otD (rowsO rs) = .lst (rs.map .lst) := by
  unfold rowsO
  rw [otD, otDs_map, List.map_map]
  congr 1
  refine List.map_congr_left fun r _ => ?_
  show otD (rowO r) = _
  unfold rowO
  rw [otD, otDs_map, List.map_map]
  congr 1
  conv => rhs; rw [← List.map_id r]
  refine List.map_congr_left fun x _ => ?_
  show otD (.da x) = x
  rw [otD]
theorem rows_new (a0 a1 a2 a3 a4 a5 a6 a7 a8 a9 a10 a11 a12 : Sl) : ∀ (rs : List (List Nat)) (acc : List (List D)), acc.length + rs.length ≤ 100 →
    lcR [13] (gN 13) tYesM (eNew (eVar 13)) (rs.map rowD) acc [a0, a1, a2, a3, a4, a5, a6, a7, a8, a9, a10, a11, a12, .no] = some (acc ++ rs.map fun r => r.map nD, [a0, a1, a2, a3, a4, a5, a6, a7, a8, a9, a10, a11, a12, .no])
  | [], acc, _ => by rw [List.map_nil, List.map_nil, List.append_nil]; rfl
  | r :: rs, acc, h => by
    rw [List.length_cons] at h
    have ih := rows_new a0 a1 a2 a3 a4 a5 a6 a7 a8 a9 a10 a11 a12 rs (acc ++ [r.map nD]) (by rw [List.length_append]; show _ + 1 + _ ≤ _; omega)
    rw [List.map_cons, List.map_cons]
    unfold lcR
    show (if acc.length < lim then _ else none) = _
    rw [if_pos (by show _ < 16777216; omega)]
    show lcR [13] (gN 13) tYesM (eNew (eVar 13)) (rs.map rowD) (acc ++ [r.map nD]) [a0, a1, a2, a3, a4, a5, a6, a7, a8, a9, a10, a11, a12, .no] = _
    rw [ih, List.append_assoc]
    rfl
theorem rows_made (m : Mc) (h : Ok m) (a0 a2 a3 a4 a5 a6 a7 a8 a9 a10 a11 a12 : Sl) :
    eRows [13] (iSq (eBin fIx (eVar 1) (eC (.int 1)))) (gN 13) tYesM (eNew (eVar 13)) [a0, .d (MD m), a2, a3, a4, a5, a6, a7, a8, a9, a10, a11, a12, .no] =
    some (rowsO (m.rows.map fun r => r.map nD), [a0, .d (MD m), a2, a3, a4, a5, a6, a7, a8, a9, a10, a11, a12, .no]) := by
  have n2 := h.n2
  have hs : iSq (eBin fIx (eVar 1) (eC (.int 1))) [a0, .d (MD m), a2, a3, a4, a5, a6, a7, a8, a9, a10, a11, a12, .no] = some (m.rows.map rowD, [a0, .d (MD m), a2, a3, a4, a5, a6, a7, a8, a9, a10, a11, a12, .no]) := rfl
  unfold eRows
  rw [hs]
  simp only [Option.bind_some]
  rw [if_pos (by rfl)]
  show (lcR [13] (gN 13) tYesM (eNew (eVar 13)) (m.rows.map rowD) [] [a0, .d (MD m), a2, a3, a4, a5, a6, a7, a8, a9, a10, a11, a12, .no]).bind _ = _
  rw [rows_new _ _ _ _ _ _ _ _ _ _ _ _ _ m.rows [] (by rw [List.length_nil]; omega)]
  rfl
theorem sgE_perm (s : List Nat) : (sgE s).Perm s := List.mergeSort_perm _ _
end K55
namespace K55
open Sw L2
theorem good_snoc {m n : Mc} {ns : List Mc} {k : Nat} (h : ns.length ≤ k ∧ ∀ n ∈ ns, Ok n ∧ n ≠ m) (hn : Ok n ∧ n ≠ m) : (ns ++ [n]).length ≤ k + 1 ∧ ∀ x ∈ ns ++ [n], Ok x ∧ x ≠ m := by
  refine ⟨by simp; omega, fun x hx => ?_⟩
  rcases List.mem_append.mp hx with hx | hx
  · exact h.2 x hx
  · rw [List.mem_singleton.mp hx]; exact hn
theorem changed_ok (m : Mc) (h : Ok m) (hB : Bd m) {xs : List D} {e : Int} (hd : DrE e xs) {Q : Vl → List (List D) → Prop}
    (q : ∀ (ns : List Mc) (ys : List D), ns.length ≤ 3 → (∀ n ∈ ns, Ok n ∧ n ≠ m) → DrE e ys → Q (.fr (ns.map MD)) [ys]) : Fv f_law_changed [.li xs, .da (MD m)] Q := by
  have n1 := h.n1
  have n2 := h.n2
  have ml := h.ml
  have c2 := h.c2
  have c1 := cells_pos h
  refine fv_fn rfl ?_
  walk_at "n"
  unfold b_law_changed
  rw [next_eq]
  walk_at "gS"
  refine fv_nextE hd (by rw [List.length_map]; omega) ?_
  intro j ys j0 j1 hd
  rw [List.length_map] at j1
  obtain ⟨jn, rfl⟩ := Int.eq_ofNat_of_zero_le j0
  have atm := mark_at h (s := jn) (by omega)
  walk_at "gS"
  refine ev_new ?_
  walk_at "g"
  refine ⟨_, _, rfl, rfl, ?_⟩
  walk_at "gS"
  refine sv_seti_s ?_
  walk_at "g"
  refine ⟨_, _, rfl, rfl, ?_⟩
  walk_at "g"
  refine ⟨_, jn, rfl, ixN_nat (by rw [List.length_map]; omega), ?_⟩
  walk_at "n"
  have eM : (m.marks.map D.bl).set jn (.bl (!m.marks.getD jn false)) = (m.marks.set jn (!m.marks.getD jn false)).map D.bl := by rw [List.map_set]
  rw [eM]
  have g1 : ([⟨m.cells, m.rows, m.marks.set jn (!m.marks.getD jn false)⟩] : List Mc).length ≤ 1 ∧ ∀ x ∈ ([⟨m.cells, m.rows, m.marks.set jn (!m.marks.getD jn false)⟩] : List Mc), Ok x ∧ x ≠ m := by
    refine ⟨Nat.le_refl _, fun x hx => ?_⟩
    rw [List.mem_singleton.mp hx]
    exact ⟨ok_m h (by rw [List.length_set]; exact ml), fun z => flip_ne (by omega) (congrArg Mc.marks z)⟩
  walk_at "g"
  refine app rfl rfl (by show 0 < 16777216; decide) ?_
  walk_at "n"
  generalize hx4 : Sl.ow (List.map D.bl (m.marks.set jn !m.marks.getD jn false)) = x4
  clear hx4 eM
  refine sv_then (fun ρ => ∃ (ns : List Mc) (ys : List D) (x6 x7 : Sl), ρ = [.io ys, .d (MD m), .ow (ns.map MD), .d (.int (jn : Nat)), x4, .no, x6, x7, .no, .no, .no, .no, .no, .no] ∧ DrE e ys ∧ plainSl (some x7) = true ∧ ns.length ≤ 2 ∧ ∀ x ∈ ns, Ok x ∧ x ≠ m) ?_ ?_
  · generalize hns : ([⟨m.cells, m.rows, m.marks.set jn (!m.marks.getD jn false)⟩] : List Mc) = ns at g1
    have eN : [D.tup [cellsD m, rowsD m, D.tup (List.map D.bl (m.marks.set jn !m.marks.getD jn false))]] = ns.map MD := by rw [← hns]; rfl
    rw [eN]
    clear hns eN
    walk_at "g"
    rw [List.length_map]
    refine brn_d (fun z => ?_) (fun z => ?_)
    · refine sv_asgO_s (rows_made m h _ _ _ _ _ _ _ _ _ _ _ _) rfl ?_
      walk_at "n"
      walk_at "gS"
      refine fv_nextE hd (by rw [List.length_map]; omega) ?_
      intro k ys k0 k1 hd
      rw [List.length_map] at k1
      obtain ⟨kn, rfl⟩ := Int.eq_ofNat_of_zero_le k0
      walk_at "gS"
      have hj : jn < m.rows.length := by omega
      obtain ⟨r, er⟩ : ∃ r, m.rows[jn]? = some r := ⟨_, List.getElem?_eq_getElem hj⟩
      obtain ⟨rl, rt⟩ := h.rw r (List.mem_of_getElem? er)
      have hk : kn < r.length := by omega
      have ek : r[kn]? = some (r.getD kn 0) := by rw [List.getD_eq_getElem?_getD, List.getElem?_eq_getElem hk]; rfl
      have ot : r.getD kn 0 < m.rows.length := rt _ (List.mem_of_getElem? ek)
      have lR : ((m.rows.map fun r => r.map nD).map rowO).length = m.rows.length := by rw [List.length_map, List.length_map]
      have eR : ((m.rows.map fun r => r.map nD).map rowO)[jn]? = some (.li ((r.map nD).map .da)) := by rw [List.getElem?_map, List.getElem?_map, er]; rfl
      have eK : ((r.map nD).map Ot.da)[kn]? = some (.da (nD (r.getD kn 0))) := by rw [List.getElem?_map, List.getElem?_map, ek]; rfl
      have eR' : atI ((m.rows.map fun r => r.map nD).map rowO) ((jn : Nat) : Int) = some (.li ((r.map nD).map .da)) := by rw [atI_lit']; exact eR
      have eK' : atI ((r.map nD).map Ot.da) ((kn : Nat) : Int) = some (.da (nD (r.getD kn 0))) := by rw [atI_lit']; exact eK
      refine sv_set2_s ?_
      refine ev_bin (ev_blt (ev_acons (ev_bin (ev_bin (ev_ix2 rfl rfl rfl eR' eK' ?_)))))
      walk_at "g"
      refine ev_lenOb rfl ?_
      rw [lR]
      walk_at "g"
      rename_i t ys t0 t1 hd
      refine ev_lenOb rfl ?_
      rw [lR]
      walk_at "g"
      obtain ⟨tn, rfl⟩ := Int.eq_ofNat_of_zero_le t0
      have ev : (((r.getD kn 0 : Nat) : Int) + 1 + (tn : Nat)) % ((m.rows.length : Nat) : Int) = (((r.getD kn 0 + 1 + tn) % m.rows.length : Nat) : Int) := by rw [Int.natCast_emod]; rfl
      rw [ev]
      have vl : (r.getD kn 0 + 1 + tn) % m.rows.length < m.rows.length := Nat.mod_lt _ (by omega)
      have vn : (r.getD kn 0 + 1 + tn) % m.rows.length ≠ r.getD kn 0 := by
        by_cases hs : r.getD kn 0 + 1 + tn < m.rows.length
        · rw [Nat.mod_eq_of_lt hs]; omega
        · rw [Nat.mod_eq_sub_mod (by omega), Nat.mod_eq_of_lt (by omega)]; omega
      generalize (r.getD kn 0 + 1 + tn) % m.rows.length = v at vl vn ⊢
      refine ⟨_, _, _, _, _, jn, _, kn, _, rfl, rfl, rfl, rfl, ixN_nat (by rw [lR]; exact hj), eR, ixN_nat (by rw [List.length_map, List.length_map]; exact hk), eK, ?_⟩
      walk_at "n"
      have eS : Ot.li ((List.map rowO (List.map (fun r => List.map nD r) m.rows)).set jn (Ot.li ((List.map Ot.da (List.map nD r)).set kn (Ot.da (nD v))))) = rowsO ((m.rows.set jn (r.set kn v)).map fun r => r.map nD) := by
        unfold rowsO
        rw [List.map_set, List.map_set]
        congr 2
        unfold rowO
        rw [List.map_set, List.map_set]
      rw [eS]
      refine sv_frz_l (t := rowsO ((m.rows.set jn (r.set kn v)).map fun r => r.map nD)) rfl ?_
      rw [otD_rows, List.map_map]
      walk_at "n"
      have hg : Ok ⟨m.cells, m.rows.set jn (r.set kn v), m.marks⟩ ∧ (⟨m.cells, m.rows.set jn (r.set kn v), m.marks⟩ : Mc) ≠ m := by
        refine ⟨ok_r h (by rw [List.length_set]) fun r' hr' => ?_, fun z => entry_ne er hk vn (congrArg Mc.rows z)⟩
        rcases List.mem_or_eq_of_mem_set hr' with hr' | rfl
        · exact h.rw r' hr'
        · exact set_row ⟨rl, rt⟩ vl
      have lq : (m.rows.set jn (r.set kn v)).length ≤ 100 := by rw [List.length_set]; exact n2
      generalize m.rows.set jn (r.set kn v) = rs at hg lq ⊢
      refine sv_app_l rfl ?_
      walk_at "g"
      refine ev_lcm rs (fun r => .lst (r.map nD)) rowD rfl (by show _ ≤ 16777216; omega) ?_ ?_ ?_
      · intro Q' q'
        refine ev_isq ?_
        walk_at "g"
        exact ⟨_, _, _, rfl, rfl, q'⟩
      · intro r _ Q' q'
        walk_at "g"
        exact q'
      walk_at "g"
      refine app rfl rfl (by rw [List.length_map]; show _ < 16777216; omega) ?_
      walk_at "n"
      exact ⟨ns ++ [⟨m.cells, rs, m.marks⟩], ys, _, _, by rw [List.map_append]; rfl, hd, rfl, good_snoc g1 hg⟩
    · walk_at "g"
      exact ⟨ns, ys, _, _, rfl, hd, rfl, by omega, g1.2⟩
  clear hd
  rintro ρ ⟨ns, ys, x6, x7, rfl, hd, h7, g2⟩
  refine sv_asg_s ?_
  refine ev_lcf m.cells D.str (fun c => decide (1 < (c.length : Int))) D.str (by exact h7) (by show _ ≤ 16777216; omega) ?_ ?_ ?_ ?_
  · intro Q' q'
    refine ev_isq ?_
    walk_at "g"
    exact ⟨_, _, _, rfl, rfl, q'⟩
  · intro c hc Q' q'
    have cl := cell_len h hc
    walk_at "g"
    exact q'
  · intro c hc _ Q' q'
    walk_at "g"
    exact q'
  walk_at "g"
  refine brn_d (fun z => ?_) (fun z => ?_)
  · rw [List.length_map, List.length_map] at z
    have fl := List.length_filter_le (fun c : List Nat => decide (1 < (c.length : Int))) m.cells
    generalize hL : m.cells.filter (fun c => decide (1 < (c.length : Int))) = L at z fl ⊢
    walk_at "gS"
    refine fv_nextE hd (by rw [List.length_map]; omega) ?_
    intro a ys a0 a1 hd
    rw [List.length_map] at a1
    obtain ⟨an, rfl⟩ := Int.eq_ofNat_of_zero_le a0
    have ha : an < L.length := by omega
    obtain ⟨f, ef⟩ : ∃ f, L[an]? = some f := ⟨_, List.getElem?_eq_getElem ha⟩
    have atf : atI (L.map D.str) ((an : Nat) : Int) = some (.str f) := by rw [atI_lit', List.getElem?_map, ef]; rfl
    have fL : f ∈ m.cells ∧ 2 ≤ f.length := by
      have := List.mem_of_getElem? ef
      rw [← hL] at this
      obtain ⟨b1, b2⟩ := List.mem_filter.mp this
      exact ⟨b1, by have := of_decide_eq_true b2; omega⟩
    have fl96 := cell_len h fL.1
    have h13 : m.cells.length ≤ 13 := by
      rcases hB with hB | hB
      · exact hB
      · have := hB f fL.1
        omega
    walk_at "gS"
    refine ev_lcf m.cells D.str (fun c => !decide (c = f)) D.str (by exact h7) (by show _ ≤ 16777216; omega) ?_ ?_ ?_ ?_
    · intro Q' q'
      refine ev_isq ?_
      walk_at "g"
      exact ⟨_, _, _, rfl, rfl, q'⟩
    · intro c hc Q' q'
      walk_at "g"
      exact q'
    · intro c hc _ Q' q'
      walk_at "g"
      exact q'
    have fn : m.cells.flatten.Nodup := h.pt.nodup_iff.mpr (ascl_nodup sgn_asc)
    have p1 := (perm_fil (cells_nd fn h.ne) fL.1).length_eq
    rw [List.length_cons] at p1
    have hM : ∀ c ∈ m.cells.filter (fun c => !decide (c = f)), c ∈ m.cells ∧ c ≠ f := fun c hc => by
      obtain ⟨b1, b2⟩ := List.mem_filter.mp hc
      exact ⟨b1, by simpa using b2⟩
    generalize hMe : m.cells.filter (fun c => !decide (c = f)) = M at p1 hM ⊢
    walk_at "gS"
    refine fv_nextE hd (by rw [List.length_map]; omega) ?_
    intro b ys b0 b1 hd
    rw [List.length_map] at b1
    obtain ⟨bn, rfl⟩ := Int.eq_ofNat_of_zero_le b0
    have hb : bn < M.length := by omega
    obtain ⟨t, et⟩ : ∃ t, M[bn]? = some t := ⟨_, List.getElem?_eq_getElem hb⟩
    have att : atI (M.map D.str) ((bn : Nat) : Int) = some (.str t) := by rw [atI_lit', List.getElem?_map, et]; rfl
    obtain ⟨tm, tf⟩ := hM t (List.mem_of_getElem? et)
    have tl96 := cell_len h tm
    walk_at "gS"
    refine ev_lcfR (ρ1 := [.io ys, .d (MD m), .ow (ns.map MD), .d (.int (jn : Nat)), x4, .ow (L.map .str), x6, x7, .d (.str f), .d (.lst (M.map .str)), .d (.str t), .no, .no, .no]) M D.str (fun c => !decide (c = t)) D.str (by exact h7) (by show _ ≤ 16777216; omega) ?_ ?_ ?_ ?_
    · intro Q' q'
      refine ev_isq ?_
      walk_at "g"
      exact ⟨_, _, _, rfl, rfl, q'⟩
    · intro c hc Q' q'
      walk_at "g"
      exact q'
    · intro c hc _ Q' q'
      walk_at "g"
      exact q'
    walk_at "gS"
    rename_i k ys k0 k1 hd
    obtain ⟨kn, rfl⟩ := Int.eq_ofNat_of_zero_le k0
    have hk : kn < f.length := by omega
    have ek : f[kn]? = some f[kn] := List.getElem?_eq_getElem hk
    generalize f[kn] = x at ek
    have atk : atI f ((kn : Nat) : Int) = some x := by rw [atI_lit']; exact ek
    refine ev_sortSg ?_
    walk_at "g"
    have sp := sgE_perm (t ++ [x])
    have sl : (sgE (t ++ [x])).length ≤ 97 := by rw [sp.length_eq, List.length_append]; show _ + 1 ≤ _; omega
    refine ⟨_, rfl, by show _ ≤ 16777216; rw [List.length_append]; show _ + 1 ≤ _; omega, ?_⟩
    walk_at "g"
    refine giv_pick (by show _ ≤ 16777216; omega) ?_
    walk_at "gS"
    have mv := moved h fL.1 tm tf fL.2 ek sp
    rw [hMe] at mv
    have lN : (M.filter fun c => !decide (c = t)).length ≤ M.length := List.length_filter_le _ _
    generalize M.filter (fun c => !decide (c = t)) = N at mv lN ⊢
    generalize sgE (t ++ [x]) = s1 at mv sp sl ⊢
    refine ev_sorted ?_
    walk_at "g"
    rw [show ((kn : Nat) : Int).toNat = kn by omega, show (((kn : Nat) : Int) + 1).toNat = kn + 1 by omega]
    refine ⟨_, (N ++ [f.take kn ++ f.drop (kn + 1), s1]).map .str, (sortT (N ++ [f.take kn ++ f.drop (kn + 1), s1])).map .str, rfl, by rw [List.map_append]; rfl, sortD_strs (by rw [List.length_append]; show _ + 2 < 64; omega), ?_⟩
    generalize sortT (N ++ [f.take kn ++ f.drop (kn + 1), s1]) = C at mv ⊢
    walk_at "g"
    refine app rfl rfl (by rw [List.length_map]; show _ < 16777216; omega) ?_
    walk_at "n"
    walk_at "g"
    walk_at "n"
    have g3 := good_snoc g2 mv
    have := q (ns ++ [⟨C, m.rows, m.marks⟩]) ys g3.1 g3.2 hd
    rw [List.map_append] at this
    exact this
  · walk_at "g"
    walk_at "n"
    exact q ns ys (by omega) g2.2 hd
end K55
namespace K55
open Sw L2
theorem mach_eq (m n : Mc) (hm : Ok m) (hn : Ok n) {Q : D → Prop} (q : ∀ b, (b = true ↔ m = n) → Q (.bl b)) : Giv (orF fEq (fOwnEq "Machine" f_Machine_eq) (OD m) (OD n)) Q :=
  giv_orr rfl (giv_ownEq isOf_obj isOf_obj (eq_ok m n hm hn fun b hb => ⟨b, rfl, q b hb⟩))
theorem mach_tup (m n : Mc) {Q : D → Prop} (q : Q (.bl false)) : Giv (orF fEq (fOwnEq "Machine" f_Machine_eq) (OD m) (MD n)) Q :=
  giv_orr rfl (giv_ownEqV isOf_obj rfl (eq_tup_ok m _ ⟨false, rfl, q⟩))
noncomputable def Tx (t : List Nat) : Prop := t.length ≤ 300 ∧ ∀ c ∈ t, c ∈ SGN
theorem law_fv (ns : List Int) (hn : ns.length ≤ 63) : Fv f_law [.da (.scr ns)] fun r os => r = .fz (.bl true) ∧ os = [] := by
  refine fv_fn rfl ?_
  walk_at "n"
  unfold b_law
  rw [next_eq, draw_eq, letters_eq]
  walk_at "gS"
  rename_i ys hd
  refine fv_lettersE hd fun L ys hL hd => ?_
  walk_at "gS"
  refine machine_ok hd hL fun m1 ys h1 B1 hd => ?_
  walk_at "gS"
  refine machine_ok hd hL fun m2 ys h2 B2 hd => ?_
  walk_at "gS"
  refine sv_then (fun ρ => ∃ (m1 m2 : Mc) (ys : List D), ρ = [.d (.scr ns), .ow ys, .d (.str L), .ow [MD m1, MD m2], .no, .no, .no, .no, .no, .no, .no, .no, .no] ∧ DrE 3 ys ∧ Ok m1 ∧ Bd m1 ∧ Ok m2 ∧ Bd m2) ?_ ?_
  · walk_at "g"
    refine brn_d (fun z => ?_) (fun z => ?_)
    · refine sv_seti_l ?_
      walk_at "g"
      refine chain_ok (by assumption) hL fun m ys h B hd => ?_
      walk_at "g"
      refine ⟨_, _, rfl, rfl, ?_⟩
      walk_at "g"
      refine ⟨_, 0, rfl, ixN_nat (by simp), ?_⟩
      walk_at "n"
      exact ⟨m, m2, ys, rfl, hd, h, B, h2, B2⟩
    · walk_at "g"
      exact ⟨m1, m2, _, rfl, by assumption, h1, B1, h2, B2⟩
  clear hd h1 h2 B1 B2
  rintro ρ ⟨m1, m2, ys, rfl, hd, h1, B1, h2, B2⟩
  refine sv_then (fun ρ => ∃ (m1 m2 : Mc) (ys : List D), ρ = [.d (.scr ns), .ow ys, .d (.str L), .ow [MD m1, MD m2], .no, .no, .no, .no, .no, .no, .no, .no, .no] ∧ DrE 3 ys ∧ Ok m1 ∧ Bd m1 ∧ Ok m2 ∧ Bd m2) ?_ ?_
  · walk_at "g"
    refine brn_d (fun z => ?_) (fun z => ?_)
    · refine sv_seti_l ?_
      walk_at "g"
      refine fine_ok (by assumption) fun m ys h B hd => ?_
      walk_at "g"
      refine ⟨_, _, rfl, rfl, ?_⟩
      walk_at "g"
      refine ⟨_, 1, rfl, ixN_nat (by simp), ?_⟩
      walk_at "n"
      exact ⟨m1, m, ys, rfl, hd, h1, B1, h, B⟩
    · walk_at "g"
      exact ⟨m1, m2, _, rfl, by assumption, h1, B1, h2, B2⟩
  clear hd h1 h2 B1 B2
  rintro ρ ⟨m1, m2, ys, rfl, hd, h1, B1, h2, B2⟩
  refine sv_asg_s ?_
  refine ev_lcmR (ρ1 := [.d (.scr ns), .ow ys, .d (.str L), .d (.lst [MD m1, MD m2]), .no, .no, .no, .no, .no, .no, .no, .no, .no]) [m1, m2] MD OD rfl (by show 2 ≤ 16777216; decide) ?_ ?_ ?_
  · intro Q' q'
    refine ev_isq ?_
    walk_at "g"
    exact ⟨_, _, _, rfl, rfl, q'⟩
  · intro m _ Q' q'
    walk_at "g"
    refine made_ok m ?_
    walk_at "g"
    exact q'
  walk_at "gS"
  refine ev_lc (fun i acc ρ' => ∃ (ts : List (List Nat)) (ys : List D), acc = ts.map .str ∧ ts.length = i ∧ (∀ t ∈ ts, Tx t) ∧ DrE 3 ys ∧ ρ' = [.d (.scr ns), .ow ys, .d (.str L), .d (.lst [MD m1, MD m2]), .ow [OD m1, OD m2], .no, .no, .no, .no, .no, .no, .no, .no]) (ev_ir1 ?_)
  walk_at "g"
  refine ⟨_, rfl, by omega, by omega, rfl, ⟨[], ys, rfl, rfl, fun _ h => absurd h List.not_mem_nil, hd, rfl⟩, ?_, ?_⟩
  · rintro i y hy acc ρ' ⟨ts, ys, rfl, hl, ht, hd, rfl⟩
    obtain ⟨hi, rfl⟩ := rngL_get hy
    refine ⟨_, asg_z rfl, ev_tyes (brn_t ?_)⟩
    walk_at "n"
    walk_at "g"
    refine over_ok m1 h1 hd fun t ys tl ts' hd => ?_
    walk_at "g"
    refine ⟨_, _, rfl, by rw [List.length_map]; show _ < 16777216; omega, ts ++ [t], ys, by rw [List.map_append]; rfl, by simp [hl], fun u hu => ?_, hd, rfl⟩
    rcases List.mem_append.mp hu with hu | hu
    · exact ht u hu
    · rw [List.mem_singleton.mp hu]; exact ⟨by omega, ts'⟩
  rintro acc ρ' ⟨ts, ys, rfl, hl, ht, hd, rfl⟩
  rw [rngL_len] at hl
  have hl3 : ts.length = 3 := hl
  walk_at "n"
  refine see2 rfl rfl ?_
  refine add2_l (by rw [List.length_map]; show 1 + _ ≤ 16777216; omega) ?_
  walk_at "g"
  refine over_ok m2 h2 hd fun t ys tl ts' hd => ?_
  walk_at "gS"
  obtain ⟨T, eT, hT5, hT⟩ : ∃ T : List (List Nat), [D.str []] ++ ts.map D.str ++ [D.str t] = T.map .str ∧ T.length ≤ 5 ∧ ∀ u ∈ T, Tx u := by
    refine ⟨([] :: ts) ++ [t], by rw [List.map_append]; rfl, by simp; omega, fun u hu => ?_⟩
    rcases List.mem_append.mp hu with hu | hu
    · rcases List.mem_cons.mp hu with rfl | hu
      · exact ⟨Nat.zero_le _, fun _ h => absurd h List.not_mem_nil⟩
      · exact ht u hu
    · rw [List.mem_singleton.mp hu]; exact ⟨by omega, ts'⟩
  rw [eT]
  clear eT ht hl hl3 tl ts'
  refine sv_then (fun ρ => ∃ (T : List (List Nat)) (ys : List D), ρ = [.d (.scr ns), .ow ys, .d (.str L), .d (.lst [MD m1, MD m2]), .ow [OD m1, OD m2], .ow (T.map .str), .no, .no, .no, .no, .no, .no, .no] ∧ DrE 3 ys ∧ T.length ≤ 6 ∧ ∀ u ∈ T, Tx u) ?_ ?_
  · walk_at "g"
    refine brn_d (fun z => ?_) (fun z => ?_)
    · walk_at "g"
      refine long_ok m1 h1 (by assumption) fun t ys tl ts' hd => ?_
      walk_at "g"
      refine app rfl rfl (by rw [List.length_map]; show _ < 16777216; omega) ?_
      walk_at "n"
      refine ⟨T ++ [t], ys, by rw [List.map_append]; rfl, hd, by simp; omega, fun u hu => ?_⟩
      rcases List.mem_append.mp hu with hu | hu
      · exact hT u hu
      · rw [List.mem_singleton.mp hu]; exact ⟨tl, ts'⟩
    · walk_at "g"
      exact ⟨T, _, rfl, by assumption, by omega, hT⟩
  clear hd hT hT5 T
  rintro ρ ⟨T, ys, rfl, hd, hT6, hT⟩
  have pick : ∀ j : Nat, j < 2 → ∃ m, Ok m ∧ Bd m ∧ atI [OD m1, OD m2] (0 + (j : Int)) = some (OD m) ∧ atI [MD m1, MD m2] (0 + (j : Int)) = some (MD m) := fun j hj => by
    have : j = 0 ∨ j = 1 := by omega
    rcases this with rfl | rfl
    · exact ⟨m1, h1, B1, rfl, rfl⟩
    · exact ⟨m2, h2, B2, rfl, rfl⟩
  refine sv_then (fun ρ => ∃ x5 x6 x7 x10 x11 x12 : Sl, ρ = [.d (.scr ns), .ow ys, .d (.str L), .d (.lst [MD m1, MD m2]), .ow [OD m1, OD m2], x5, x6, x7, .no, .no, x10, x11, x12] ∧ ioQ (some x7) = false ∧ ioQ (some x10) = false ∧ ioQ (some x11) = false ∧ ioQ (some x12) = false)
    (sv_for (fun i ρ => ∃ x6 x7 x10 x11 x12 : Sl, ρ = [.d (.scr ns), .ow ys, .d (.str L), .d (.lst [MD m1, MD m2]), .ow [OD m1, OD m2], .d (.lst (T.map .str)), x6, x7, .no, .no, x10, x11, x12] ∧ ioQ (some x6) = false ∧ ioQ (some x7) = false ∧ ioQ (some x10) = false ∧ ioQ (some x11) = false ∧ ioQ (some x12) = false) (ev_isq ?_)) ?_
  · walk_at "g"
    refine ⟨_, _, _, rfl, rfl, ⟨_, _, _, _, _, rfl, rfl, rfl, rfl, rfl, rfl⟩, ?_, ?_⟩
    · rintro i y hy ρ ⟨x6, x7, x10, x11, x12, rfl, h6, h7, h10, h11, h12⟩
      obtain ⟨t, ht, rfl⟩ := mapS_get hy
      obtain ⟨tl, ts⟩ := hT t (List.mem_of_getElem? ht)
      refine ⟨_, asg_z (by exact h6), ?_⟩
      walk_at "n"
      refine Sv.mono (Q := fun fl ρ => fl = .nx ∧ ∃ x7 x10 x11 x12 : Sl, ρ = [.d (.scr ns), .ow ys, .d (.str L), .d (.lst [MD m1, MD m2]), .ow [OD m1, OD m2], .d (.lst (T.map .str)), .d (.str t), x7, .no, .no, x10, x11, x12] ∧ ioQ (some x7) = false ∧ ioQ (some x10) = false ∧ ioQ (some x11) = false ∧ ioQ (some x12) = false) ?_ fun fl ρ h => by obtain ⟨rfl, x7, x10, x11, x12, e, h⟩ := h; exact ⟨_, _, _, _, _, e, rfl, h⟩
      refine sv_for (fun j ρ => ∃ x7 x10 x11 x12 : Sl, ρ = [.d (.scr ns), .ow ys, .d (.str L), .d (.lst [MD m1, MD m2]), .ow [OD m1, OD m2], .d (.lst (T.map .str)), .d (.str t), x7, .no, .no, x10, x11, x12] ∧ ioQ (some x7) = false ∧ ioQ (some x10) = false ∧ ioQ (some x11) = false ∧ ioQ (some x12) = false) (ev_ir1 ?_)
      walk_at "g"
      refine ⟨_, rfl, by omega, by omega, ⟨_, _, _, _, rfl, h7, h10, h11, h12⟩, ?_, ?_⟩
      · rintro j y hy ρ ⟨x7, x10, x11, x12, rfl, h7, h10, h11, h12⟩
        obtain ⟨hj, rfl⟩ := rngL_get hy
        obtain ⟨m, hm, _, a1, a2⟩ := pick j hj
        refine ⟨_, asg_z (by exact h7), ?_⟩
        walk_at "n"
        walk_at "gS"
        refine from_ok m hm 0 hm.n1 t ts fun hlt => ?_
        have am := mark_at hm hlt
        walk_at "gS"
        refine state_after_ok m hm t ts fun _ => ?_
        walk_at "gS"
        refine sv_if_s ?_
        walk_at "g"
        refine int_ok _ ?_
        walk_at "g"
        refine brn_nf rfl ?_
        walk_at "gS"
        refine accepts_ok m hm t ts ?_
        walk_at "gS"
        walk_at "g"
        refine brn_df (fun z => ?_) ?_
        · rcases z with z | z
          · simp at z
          · exact z rfl
        walk_at "g"
        exact ⟨_, _, _, _, rfl, rfl, rfl, rfl, rfl⟩
      · rintro ρ ⟨x7, x10, x11, x12, rfl, h⟩
        exact ⟨rfl, _, _, _, _, rfl, h⟩
    · rintro ρ ⟨x6, x7, x10, x11, x12, rfl, _, h⟩
      exact ⟨_, _, _, _, _, _, rfl, h⟩
  rintro ρ ⟨x5, x6, x7, x10, x11, x12, rfl, h7, h10, h11, h12⟩
  generalize hG : orF fEq (fOwnEq "Machine" f_Machine_eq) = G
  generalize hN : cLenO "Machine" f_Machine_len = LN
  have gL : ∀ (m : Mc), Ok m → ∀ {Q : D → Prop}, Q (.int (m.rows.length : Nat)) → Giv (LN [OD m]) Q := fun m hm Q q => by
    have n2 := hm.n2
    rw [← hN]
    exact giv_lenO (len_ok m ⟨_, rfl, by omega, q⟩)
  have gT : ∀ (m : Mc) {Q : D → Prop}, Q (.int (m.rows.length : Nat)) → Giv (LN [rowsD m]) Q := fun m Q q => by
    rw [← hN]
    exact giv (z := .int ((m.rows.map rowD).length : Nat)) rfl (by rw [List.length_map]; exact q)
  have gE : ∀ (m n : Mc), Ok m → Ok n → ∀ {Q : D → Prop}, (∀ b, (b = true ↔ m = n) → Q (.bl b)) → Giv (G (OD m) (OD n)) Q := fun m n hm hn Q q => by
    rw [← hG]
    exact mach_eq m n hm hn q
  have gF : ∀ (m n : Mc) {Q : D → Prop}, Q (.bl false) → Giv (G (OD m) (MD n)) Q := fun m n Q q => by
    rw [← hG]
    exact mach_tup m n q
  clear hG hN
  refine sv_then (fun ρ => ∃ (ys : List D) (x7 x8 : Sl), ρ = [.d (.scr ns), .ow ys, .d (.str L), .d (.lst [MD m1, MD m2]), .ow [OD m1, OD m2], x5, x6, x7, x8, .no, x10, x11, x12])
    (sv_for (fun i ρ => ∃ (ys : List D) (x7 x8 : Sl), ρ = [.d (.scr ns), .ow ys, .d (.str L), .d (.lst [MD m1, MD m2]), .ow [OD m1, OD m2], x5, x6, x7, x8, .no, x10, x11, x12] ∧ DrE 3 ys ∧ ioQ (some x7) = false ∧ ioQ (some x8) = false) (ev_ir1 ?_)) ?_
  · walk_at "g"
    refine ⟨_, rfl, by omega, by omega, ⟨_, _, _, rfl, hd, h7, rfl⟩, ?_, ?_⟩
    · rintro j y hy ρ ⟨ys, x7, x8, rfl, hd, h7, h8⟩
      obtain ⟨hj, rfl⟩ := rngL_get hy
      obtain ⟨m, hm, hB, a1, a2⟩ := pick j hj
      have n2 := hm.n2
      refine ⟨_, asg_z (by exact h7), ?_⟩
      walk_at "n"
      refine sv_if_s ?_
      walk_at "g"
      refine gL m hm ?_
      walk_at "g"
      refine gT m ?_
      walk_at "g"
      refine brn_nf rfl ?_
      walk_at "g"
      refine kept_ok m hm ?_
      walk_at "gS"
      refine sv_if_s ?_
      walk_at "g"
      refine made_ok m ?_
      walk_at "g"
      refine gE m m hm hm fun b hb => ?_
      rw [hb.mpr rfl]
      walk_at "g"
      refine gF m m ?_
      walk_at "g"
      refine Sv.mono (Q := fun fl ρ => fl = .nx ∧ ∃ (ys : List D) (x8 : Sl), ρ = [.d (.scr ns), .ow ys, .d (.str L), .d (.lst [MD m1, MD m2]), .ow [OD m1, OD m2], x5, x6, .d (.int (0 + (j : Int))), x8, .no, x10, x11, x12] ∧ DrE 3 ys ∧ ioQ (some x8) = false) ?_ fun fl ρ h => by obtain ⟨rfl, ys, x8, e, h⟩ := h; exact ⟨_, _, _, e, h.1, rfl, h.2⟩
      refine sv_for (fun i ρ => ∃ (ys : List D) (x8 : Sl), ρ = [.d (.scr ns), .ow ys, .d (.str L), .d (.lst [MD m1, MD m2]), .ow [OD m1, OD m2], x5, x6, .d (.int (0 + (j : Int))), x8, .no, x10, x11, x12] ∧ DrE 3 ys ∧ ioQ (some x8) = false) (ev_isq ?_)
      walk_at "g"
      refine changed_ok m hm hB hd fun es ys el eg hd => ?_
      walk_at "g"
      refine ⟨_, _, _, rfl, rfl, ⟨_, _, rfl, hd, h8⟩, ?_, ?_⟩
      · rintro i y hy ρ ⟨ys, x8, rfl, hd, h8⟩
        rw [List.getElem?_map] at hy
        obtain ⟨n, hn', rfl⟩ := Option.map_eq_some_iff.mp hy
        obtain ⟨hn, hne⟩ := eg n (List.mem_of_getElem? hn')
        refine ⟨_, asg_z (by exact h8), ?_⟩
        walk_at "n"
        walk_at "g"
        refine made_ok n ?_
        walk_at "g"
        refine gE m n hm hn fun b hb => ?_
        rw [show b = false from Bool.eq_false_iff.mpr fun z => hne (hb.mp z).symm]
        walk_at "g"
        refine made_ok n ?_
        walk_at "g"
        refine gE n m hn hm fun b hb => ?_
        rw [show b = false from Bool.eq_false_iff.mpr fun z => hne (hb.mp z)]
        walk_at "g"
        exact ⟨_, _, rfl, hd, rfl⟩
      · rintro ρ ⟨ys, x8, rfl, h⟩
        exact ⟨rfl, _, _, rfl, h⟩
    · rintro ρ ⟨ys, x7, x8, rfl, _⟩
      exact ⟨_, _, _, rfl⟩
  rintro ρ ⟨ys, x7, x8, rfl⟩
  walk_at "g"
  walk_at "n"
  exact ⟨rfl, rfl⟩
theorem law_true (ns : List Int) (hn : ns.length ≤ 63) : f_law [.da (.scr ns)] = some (.fz (.bl true), []) := by
  obtain ⟨r, os, e, rfl, rfl⟩ := law_fv ns hn
  exact e
end K55
namespace K55
open PySem PySem.Spec PyProof.Rows L2 Sw
noncomputable def topS (i : Nat) : Stmt := PySem.Challenge.pw_surespan_k55_machine_accepts.main.body.getD i (.Pass ⟨0, 0, 0, 0⟩)
noncomputable abbrev st_cell_of : Stmt := topS 1
noncomputable abbrev N_cell_of : List Str := ["division", "sign", "number", "cell"]
noncomputable abbrev P_cell_of : List Str := ["division", "sign"]
theorem sc_cell_of : FnScope N_cell_of P_cell_of (defScope st_cell_of) := ⟨rfl, rfl, rfl, by decide +kernel, rfl, by decide +kernel, by decide +kernel⟩
noncomputable abbrev st_Machine_state_after : Stmt := inClass (topS 3) 1
noncomputable abbrev N_Machine_state_after : List Str := ["self", "text", "division", "state", "sign"]
noncomputable abbrev P_Machine_state_after : List Str := ["self", "text"]
theorem sc_Machine_state_after : FnScope N_Machine_state_after P_Machine_state_after (defScope st_Machine_state_after) := ⟨rfl, rfl, rfl, by decide +kernel, rfl, by decide +kernel, by decide +kernel⟩
noncomputable abbrev st_Machine_accepts : Stmt := inClass (topS 3) 2
noncomputable abbrev N_Machine_accepts : List Str := ["self", "text"]
noncomputable abbrev P_Machine_accepts : List Str := ["self", "text"]
theorem sc_Machine_accepts : FnScope N_Machine_accepts P_Machine_accepts (defScope st_Machine_accepts) := ⟨rfl, rfl, rfl, by decide +kernel, rfl, by decide +kernel, by decide +kernel⟩
noncomputable abbrev st_Machine_eq : Stmt := inClass (topS 3) 4
noncomputable abbrev N_Machine_eq : List Str := ["self", "other"]
noncomputable abbrev P_Machine_eq : List Str := ["self", "other"]
theorem sc_Machine_eq : FnScope N_Machine_eq P_Machine_eq (defScope st_Machine_eq) := ⟨rfl, rfl, rfl, by decide +kernel, rfl, by decide +kernel, by decide +kernel⟩
noncomputable abbrev st_Machine_len : Stmt := inClass (topS 3) 3
noncomputable abbrev N_Machine_len : List Str := ["self"]
noncomputable abbrev P_Machine_len : List Str := ["self"]
theorem sc_Machine_len : FnScope N_Machine_len P_Machine_len (defScope st_Machine_len) := ⟨rfl, rfl, rfl, by decide +kernel, rfl, by decide +kernel, by decide +kernel⟩
noncomputable abbrev st_law_next : Stmt := topS 6
noncomputable abbrev N_law_next : List Str := ["_law_draw_here", "_law_many", "_law_at"]
noncomputable abbrev P_law_next : List Str := ["_law_draw_here", "_law_many"]
theorem sc_law_next : FnScope N_law_next P_law_next (defScope st_law_next) := ⟨rfl, rfl, rfl, by decide +kernel, rfl, by decide +kernel, by decide +kernel⟩
noncomputable abbrev st_law_signs : Stmt := topS 7
noncomputable abbrev N_law_signs : List Str := ["_law_signs_here"]
noncomputable abbrev P_law_signs : List Str := []
theorem sc_law_signs : FnScope N_law_signs P_law_signs (defScope st_law_signs) := ⟨rfl, rfl, rfl, by decide +kernel, rfl, by decide +kernel, by decide +kernel⟩
noncomputable abbrev st_law_division : Stmt := topS 10
noncomputable abbrev N_law_division : List Str := ["_law_draw_here", "_law_letters_here", "_law_signs_here", "_law_choice", "_law_places", "_law_low", "_law_many", "_law_parts", "_law_k", "_law_rest", "_law_group", "_law_part"]
noncomputable abbrev P_law_division : List Str := ["_law_draw_here", "_law_letters_here"]
theorem sc_law_division : FnScope N_law_division P_law_division (defScope st_law_division) := ⟨rfl, rfl, rfl, by decide +kernel, rfl, by decide +kernel, by decide +kernel⟩
noncomputable abbrev st_law_chain : Stmt := topS 17
noncomputable abbrev N_law_chain : List Str := ["_law_draw_here", "_law_letters_here", "_law_cells", "_law_many", "_law_kept_here", "_law_back", "_law_rows", "_law_state", "_law_step", "_law_row", "_law_cell_here"]
noncomputable abbrev P_law_chain : List Str := ["_law_draw_here", "_law_letters_here"]
theorem sc_law_chain : FnScope N_law_chain P_law_chain (defScope st_law_chain) := ⟨rfl, rfl, rfl, by decide +kernel, rfl, by decide +kernel, by decide +kernel⟩
noncomputable abbrev st_law_changed : Stmt := topS 19
noncomputable abbrev N_law_changed : List Str := ["_law_draw_here", "_law_machine_here", "_law_found", "_law_at", "_law_marks", "_law_long_here", "_law_rows", "_law_cell_here", "_law_first", "_law_others", "_law_second", "_law_rest", "_law_moved", "_law_row"]
noncomputable abbrev P_law_changed : List Str := ["_law_draw_here", "_law_machine_here"]
theorem sc_law_changed : FnScope N_law_changed P_law_changed (defScope st_law_changed) := ⟨rfl, rfl, rfl, by decide +kernel, rfl, by decide +kernel, by decide +kernel⟩
noncomputable abbrev st_law_draw : Stmt := topS 5
noncomputable abbrev N_law_draw : List Str := ["_law_script", "_law_digits", "_law_one", "_law_two", "_law_cell_here", "_law_rest", "_law_k"]
noncomputable abbrev P_law_draw : List Str := ["_law_script"]
theorem sc_law_draw : FnScope N_law_draw P_law_draw (defScope st_law_draw) := ⟨rfl, rfl, rfl, by decide +kernel, rfl, by decide +kernel, by decide +kernel⟩
noncomputable abbrev st_law_fine : Stmt := topS 18
noncomputable abbrev N_law_fine : List Str := ["_law_draw_here", "_law_most", "_law_signs_here", "_law_many", "_law_rows", "_law_state", "_law_sign", "_law_row"]
noncomputable abbrev P_law_fine : List Str := ["_law_draw_here", "_law_most"]
theorem sc_law_fine : FnScope N_law_fine P_law_fine (defScope st_law_fine) := ⟨rfl, rfl, rfl, by decide +kernel, rfl, by decide +kernel, by decide +kernel⟩
noncomputable abbrev st_law_cell : Stmt := topS 13
noncomputable abbrev N_law_cell : List Str := ["_law_cells", "_law_sign", "_law_k"]
noncomputable abbrev P_law_cell : List Str := ["_law_cells", "_law_sign"]
theorem sc_law_cell : FnScope N_law_cell P_law_cell (defScope st_law_cell) := ⟨rfl, rfl, rfl, by decide +kernel, rfl, by decide +kernel, by decide +kernel⟩
noncomputable abbrev st_law_from : Stmt := topS 14
noncomputable abbrev N_law_from : List Str := ["_law_machine_here", "_law_state", "_law_text", "_law_sign"]
noncomputable abbrev P_law_from : List Str := ["_law_machine_here", "_law_state", "_law_text"]
theorem sc_law_from : FnScope N_law_from P_law_from (defScope st_law_from) := ⟨rfl, rfl, rfl, by decide +kernel, rfl, by decide +kernel, by decide +kernel⟩
noncomputable abbrev st_law_int : Stmt := topS 9
noncomputable abbrev N_law_int : List Str := ["_law_value"]
noncomputable abbrev P_law_int : List Str := ["_law_value"]
theorem sc_law_int : FnScope N_law_int P_law_int (defScope st_law_int) := ⟨rfl, rfl, rfl, by decide +kernel, rfl, by decide +kernel, by decide +kernel⟩
noncomputable abbrev st_law_kept : Stmt := topS 16
noncomputable abbrev N_law_kept : List Str := ["_law_given", "_law_machine_here"]
noncomputable abbrev P_law_kept : List Str := ["_law_given", "_law_machine_here"]
theorem sc_law_kept : FnScope N_law_kept P_law_kept (defScope st_law_kept) := ⟨rfl, rfl, rfl, by decide +kernel, rfl, by decide +kernel, by decide +kernel⟩
noncomputable abbrev st_law_letters : Stmt := topS 8
noncomputable abbrev N_law_letters : List Str := ["_law_draw_here", "_law_choice", "_law_signs_here", "_law_first", "_law_second", "_law_third", "_law_k"]
noncomputable abbrev P_law_letters : List Str := ["_law_draw_here"]
theorem sc_law_letters : FnScope N_law_letters P_law_letters (defScope st_law_letters) := ⟨rfl, rfl, rfl, by decide +kernel, rfl, by decide +kernel, by decide +kernel⟩
noncomputable abbrev st_law_long : Stmt := topS 20
noncomputable abbrev N_law_long : List Str := ["_law_draw_here", "_law_cells", "_law_most", "_law_text", "_law_piece", "_law_other", "_law_k"]
noncomputable abbrev P_law_long : List Str := ["_law_draw_here", "_law_cells", "_law_most"]
theorem sc_law_long : FnScope N_law_long P_law_long (defScope st_law_long) := ⟨rfl, rfl, rfl, by decide +kernel, rfl, by decide +kernel, by decide +kernel⟩
noncomputable abbrev st_law_machine : Stmt := topS 11
noncomputable abbrev N_law_machine : List Str := ["_law_draw_here", "_law_letters_here", "_law_most", "_law_cells", "_law_many", "_law_shape", "_law_rows", "_law_marks", "_law_state", "_law_row", "_law_cell_here", "_law_later"]
noncomputable abbrev P_law_machine : List Str := ["_law_draw_here", "_law_letters_here", "_law_most"]
theorem sc_law_machine : FnScope N_law_machine P_law_machine (defScope st_law_machine) := ⟨rfl, rfl, rfl, by decide +kernel, rfl, by decide +kernel, by decide +kernel⟩
noncomputable abbrev st_init_Machine : Stmt := inClass (topS 3) 0
noncomputable abbrev N_init_Machine : List Str := ["self", "cells", "rows", "accepting"]
noncomputable abbrev P_init_Machine : List Str := ["self", "cells", "rows", "accepting"]
theorem sc_init_Machine : FnScope N_init_Machine P_init_Machine (defScope st_init_Machine) := ⟨rfl, rfl, rfl, by decide +kernel, rfl, by decide +kernel, by decide +kernel⟩
noncomputable abbrev st_law_made : Stmt := topS 15
noncomputable abbrev N_law_made : List Str := ["_law_machine_here"]
noncomputable abbrev P_law_made : List Str := ["_law_machine_here"]
theorem sc_law_made : FnScope N_law_made P_law_made (defScope st_law_made) := ⟨rfl, rfl, rfl, by decide +kernel, rfl, by decide +kernel, by decide +kernel⟩
noncomputable abbrev st_law_over : Stmt := topS 12
noncomputable abbrev N_law_over : List Str := ["_law_draw_here", "_law_cells", "_law_most", "_law_text", "_law_k", "_law_cell_here"]
noncomputable abbrev P_law_over : List Str := ["_law_draw_here", "_law_cells", "_law_most"]
theorem sc_law_over : FnScope N_law_over P_law_over (defScope st_law_over) := ⟨rfl, rfl, rfl, by decide +kernel, rfl, by decide +kernel, by decide +kernel⟩
noncomputable abbrev st_law : Stmt := topS 21
noncomputable abbrev N_law : List Str := ["_law_script", "_law_draw_here", "_law_letters_here", "_law_machines", "_law_made_here", "_law_texts", "_law_text", "_law_k", "_law_other", "_law_machine_here", "_law_due", "_law_state", "_law_told"]
noncomputable abbrev P_law : List Str := ["_law_script"]
theorem sc_law : FnScope N_law P_law (defScope st_law) := ⟨rfl, rfl, rfl, by decide +kernel, rfl, by decide +kernel, by decide +kernel⟩
section
variable {P : Program} {w : World} {K : PySem.W.Frag} {mg : Str → Option Value} {base : Heap}
theorem ok_cell_of {f : Addr} {fd : FuncData} (F : FunG K "cell_of" "cell_of" st_cell_of f fd) (b_enumerate : mg "enumerate" = none) :
    FnOk P w K mg base CX0 1 f fd P_cell_of (spF ⟨K, w⟩ 2 f_cell_of) := by
  have nd := sc_cell_of.nd
  refine fn_ok F sc_cell_of rfl rfl (by decide) fun cdv A outer s H E hr => ?_
  have hu := hr.units
  have hv := hu181 hr
  exact (sb_cons (ss_for PassesOwn.never rfl (si_enum b_enumerate rfl (sa_cons (se_var (pv 0)) sa_nil)) (sg_tup rfl (sgs_cons (sg_name (i := 2) nd rfl (Or.inl rfl)) (sgs_cons (sg_name (i := 3) nd rfl (Or.inl rfl)) sgs_nil))) (sb_one (ss_if (st_c oIn (se_var (pv 1)) (se_var (pv 3)) rfl) (sb_one (ss_ret (se_var (pv 2)))) sb_nil)))
    (sb_one (ss_ret se_non)))
theorem ok_Machine_state_after {f : Addr} {fd : FuncData} (F : FunG K "state_after" "Machine.state_after" st_Machine_state_after f fd) (b_list : mg "list" = none) {C_Machine : Addr} (hC_Machine : ClsN K "Machine" C_Machine) (cl_Machine : Cls K C_Machine) (na_Machine_cells : NoAttr K C_Machine "cells") (na_Machine_rows : NoAttr K C_Machine "rows") {a_cell_of : Addr} {d_cell_of : FuncData} (ok_cell_of : FnOk P w K mg base CX0 1 a_cell_of d_cell_of P_cell_of (spF ⟨K, w⟩ 2 f_cell_of)) (mg_cell_of : mg "cell_of" = some (.ref a_cell_of)) (kp_cell_of : PySem.W.keepIn K (.ref a_cell_of) = true) (bi_cell_of : Binds K d_cell_of P_cell_of []) :
    FnOk P w K mg base CX0 2 f fd P_Machine_state_after (spF ⟨K, w⟩ 2 f_Machine_state_after) := by
  have nd := sc_Machine_state_after.nd
  refine fn_ok F sc_Machine_state_after rfl rfl (by decide) fun cdv A outer s H E hr => ?_
  have hu := hr.units
  have hv := hu181 hr
  exact (sb_cons (ss_set (i := 2) nd rfl (Or.inl rfl) (se_tolist b_list rfl (se_fld hC_Machine cl_Machine na_Machine_cells (se_var (pv 0)) rfl)))
    (sb_cons (ss_set (i := 3) nd rfl (Or.inl rfl) se_int)
    (sb_cons (ss_for PassesOwn.never rfl (si_seq (se_var (pv 1))) (sg_name (i := 4) nd rfl (Or.inl rfl)) (sb_one (ss_set (i := 3) nd rfl (Or.inl rfl) (se_ix (se_ix (se_fld hC_Machine cl_Machine na_Machine_rows (se_var (pv 0)) rfl) (se_var (pv 3)) (fun _ _ => rfl)) (se_call (fs := []) ok_cell_of fnS_len (hr.mono (by decide)) mg_cell_of kp_cell_of bi_cell_of rfl (sa_cons (se_var (pv 2)) (sa_cons (se_var (pv 4)) sa_nil))) (fun _ _ => rfl)))))
    (sb_one (ss_ret (se_var (pv 3)))))))
theorem ok_Machine_accepts {f : Addr} {fd : FuncData} (F : FunG K "accepts" "Machine.accepts" st_Machine_accepts f fd) {C_Machine : Addr} (hC_Machine : ClsN K "Machine" C_Machine) (cl_Machine : Cls K C_Machine) (na_Machine_accepting : NoAttr K C_Machine "accepting") {a_Machine_state_after : Addr} {d_Machine_state_after : FuncData} (ok_Machine_state_after : FnOk P w K mg base CX0 2 a_Machine_state_after d_Machine_state_after P_Machine_state_after (spF ⟨K, w⟩ 2 f_Machine_state_after)) (at_Machine_state_after : PySem.W.findIn K (.ref C_Machine) "state_after" = some (some (.ref a_Machine_state_after))) (fn_Machine_state_after : PySem.W.isFn K (.ref a_Machine_state_after) = true) (kp_Machine_state_after : PySem.W.keepIn K (.ref a_Machine_state_after) = true) (bi_Machine_state_after : Binds K d_Machine_state_after P_Machine_state_after []) :
    FnOk P w K mg base CX0 3 f fd P_Machine_accepts (spF ⟨K, w⟩ 2 f_Machine_accepts) := by
  have nd := sc_Machine_accepts.nd
  refine fn_ok F sc_Machine_accepts rfl rfl (by decide) fun cdv A outer s H E hr => ?_
  have hu := hr.units
  have hv := hu181 hr
  exact (sb_one (ss_ret (se_ix (se_fld hC_Machine cl_Machine na_Machine_accepting (se_var (pv 0)) rfl) (se_meth hC_Machine cl_Machine ⟨at_Machine_state_after , fn_Machine_state_after , kp_Machine_state_after ⟩ ok_Machine_state_after fnS_len (hr.mono (by decide)) bi_Machine_state_after (se_var (pv 0)) (sa_cons (se_var (pv 1)) sa_nil)) (fun _ _ => rfl))))
theorem ok_Machine_eq {f : Addr} {fd : FuncData} (F : FunG K "__eq__" "Machine.__eq__" st_Machine_eq f fd) (b_isinstance : mg "isinstance" = none) {C_Machine : Addr} (hC_Machine : ClsN K "Machine" C_Machine) (cl_Machine : Cls K C_Machine) (na_Machine_cells : NoAttr K C_Machine "cells") (na_Machine_rows : NoAttr K C_Machine "rows") (na_Machine_accepting : NoAttr K C_Machine "accepting") (ic_Machine : IsiC K C_Machine) (mgC_Machine : mg "Machine" = some (.ref C_Machine)) :
    FnOk P w K mg base CX0 1 f fd P_Machine_eq (spF ⟨K, w⟩ 2 f_Machine_eq) := by
  have nd := sc_Machine_eq.nd
  refine fn_ok F sc_Machine_eq rfl rfl (by decide) fun cdv A outer s H E hr => ?_
  have hu := hr.units
  have hv := hu181 hr
  exact (sb_cons (ss_if (st_not (st_val (se_isC b_isinstance rfl hC_Machine cl_Machine ic_Machine mgC_Machine rfl (se_var (pv 1))) (by intro _; rfl))) (sb_one (ss_ret se_bl)) sb_nil)
    (sb_one (ss_ret (se_and (se_c (oEq hv) (se_fld hC_Machine cl_Machine na_Machine_cells (se_var (pv 0)) rfl) (se_fld hC_Machine cl_Machine na_Machine_cells (se_var (pv 1)) rfl) (nomark _)) (se_and (se_c (oEq hv) (se_fld hC_Machine cl_Machine na_Machine_rows (se_var (pv 0)) rfl) (se_fld hC_Machine cl_Machine na_Machine_rows (se_var (pv 1)) rfl) (nomark _)) (se_one (se_c (oEq hv) (se_fld hC_Machine cl_Machine na_Machine_accepting (se_var (pv 0)) rfl) (se_fld hC_Machine cl_Machine na_Machine_accepting (se_var (pv 1)) rfl) (nomark _))))))))
theorem ok_Machine_len {f : Addr} {fd : FuncData} (F : FunG K "__len__" "Machine.__len__" st_Machine_len f fd) (b_len : mg "len" = none) {C_Machine : Addr} (hC_Machine : ClsN K "Machine" C_Machine) (cl_Machine : Cls K C_Machine) (na_Machine_rows : NoAttr K C_Machine "rows") :
    FnOk P w K mg base CX0 1 f fd P_Machine_len (spF ⟨K, w⟩ 1 f_Machine_len) := by
  have nd := sc_Machine_len.nd
  refine fn_ok F sc_Machine_len rfl rfl (by decide) fun cdv A outer s H E hr => ?_
  have hu := hr.units
  have hv := hu181 hr
  exact (sb_one (ss_ret (se_len b_len rfl (sa_cons (se_fld hC_Machine cl_Machine na_Machine_rows (se_var (pv 0)) rfl) sa_nil))))
theorem ok_law_next {f : Addr} {fd : FuncData} (F : FunG K "_law_next" "_law_next" st_law_next f fd) (b_int : mg "int" = none) (b_len : mg "len" = none) :
    FnOk P w K mg base CX0 1 f fd P_law_next (spF ⟨K, w⟩ 2 f_law_next) := by
  have nd := sc_law_next.nd
  refine fn_ok F sc_law_next rfl rfl (by decide) fun cdv A outer s H E hr => ?_
  have hu := hr.units
  have hv := hu181 hr
  exact (sb_cons (ss_set (i := 2) nd rfl (Or.inl rfl) (se_ix (se_var (pv 0)) se_int (fun _ _ => rfl)))
    (sb_cons (ss_if (st_c oLt (se_var (pv 2)) (se_len b_len rfl (sa_cons (se_ix (se_var (pv 0)) se_int (fun _ _ => rfl)) sa_nil)) (nomark _)) (sb_cons (ss_seti (i := 0) (pv 0) se_int (se_b oAdd (se_var (pv 2)) se_int))
    (sb_one (ss_ret (se_b oMod (se_toint b_int rfl (sa_cons (se_ix (se_ix (se_var (pv 0)) se_int (fun _ _ => rfl)) (se_var (pv 2)) (fun _ _ => rfl)) sa_nil)) (se_var (pv 1)))))) sb_nil)
    (sb_cons (ss_seti (i := 0) (pv 0) se_int (se_b oMod (se_toint b_int rfl (sa_cons (se_b oAdd (se_b oMul (se_ix (se_var (pv 0)) se_int (fun _ _ => rfl)) se_int) se_int) sa_nil)) se_int))
    (sb_cons (ss_seti (i := 0) (pv 0) se_int (se_b oMod (se_toint b_int rfl (sa_cons (se_b oAdd (se_b oMul (se_ix (se_var (pv 0)) se_int (fun _ _ => rfl)) se_int) se_int) sa_nil)) se_int))
    (sb_one (ss_ret (se_b oMod (se_toint b_int rfl (sa_cons (se_b oAdd (se_b oDiv (se_ix (se_var (pv 0)) se_int (fun _ _ => rfl)) se_int) (se_b oDiv (se_ix (se_var (pv 0)) se_int (fun _ _ => rfl)) se_int)) sa_nil)) (se_var (pv 1)))))))))
theorem ok_law_signs {f : Addr} {fd : FuncData} (F : FunG K "_law_signs" "_law_signs" st_law_signs f fd)  :
    FnOk P w K mg base CX0 1 f fd P_law_signs (spF ⟨K, w⟩ 0 f_law_signs) := by
  have nd := sc_law_signs.nd
  refine fn_ok F sc_law_signs rfl rfl (by decide) fun cdv A outer s H E hr => ?_
  have hu := hr.units
  have hv := hu181 hr
  exact (sb_cons (ss_set (i := 0) nd rfl (Or.inl rfl) (se_str (cs := tx_0123456789abcd) (by decide +kernel)))
    (sb_one (ss_ret (se_b oAdd (se_var (pv 0)) (se_str (cs := tx_abcdefghijklmn) (by decide +kernel))))))
theorem ok_law_division {f : Addr} {fd : FuncData} (F : FunG K "_law_division" "_law_division" st_law_division f fd) (b_range : mg "range" = none) (b_sorted : mg "sorted" = none) (b_tuple : mg "tuple" = none) {a_law_next : Addr} {d_law_next : FuncData} (ok_law_next : FnOk P w K mg base CX0 1 a_law_next d_law_next P_law_next (spF ⟨K, w⟩ 2 f_law_next)) (mg_law_next : mg "_law_next" = some (.ref a_law_next)) (kp_law_next : PySem.W.keepIn K (.ref a_law_next) = true) (bi_law_next : Binds K d_law_next P_law_next []) {a_law_signs : Addr} {d_law_signs : FuncData} (ok_law_signs : FnOk P w K mg base CX0 1 a_law_signs d_law_signs P_law_signs (spF ⟨K, w⟩ 0 f_law_signs)) (mg_law_signs : mg "_law_signs" = some (.ref a_law_signs)) (kp_law_signs : PySem.W.keepIn K (.ref a_law_signs) = true) (bi_law_signs : Binds K d_law_signs P_law_signs []) :
    FnOk P w K mg base CX0 2 f fd P_law_division (spF ⟨K, w⟩ 2 f_law_division) := by
  have nd := sc_law_division.nd
  refine fn_ok F sc_law_division rfl rfl (by decide) fun cdv A outer s H E hr => ?_
  have hu := hr.units
  have hv := hu181 hr
  exact (sb_cons (ss_set (i := 2) nd rfl (Or.inr rfl) (se_call0 (fs := []) ok_law_signs fnS_len (hr.mono (by decide)) mg_law_signs kp_law_signs bi_law_signs rfl))
    (sb_cons (ss_set (i := 3) nd rfl (Or.inl rfl) (se_call (fs := [true, false]) ok_law_next fnS_len (hr.mono (by decide)) mg_law_next kp_law_next bi_law_next rfl (sa_cons (se_var (pv 0)) (sa_cons se_int sa_nil))))
    (sb_cons (ss_if (st_c (oEq hv) (se_var (pv 3)) se_int (nomark _)) (sb_one (ss_ret (se_tup (sa_cons (se_var (pv 2)) sa_nil)))) sb_nil)
    (sb_cons (ss_if (st_c (oEq hv) (se_var (pv 3)) se_int (nomark _)) (sb_cons (ss_set (i := 5) nd rfl (Or.inl rfl) (se_call (fs := [true, false]) ok_law_next fnS_len (hr.mono (by decide)) mg_law_next kp_law_next bi_law_next rfl (sa_cons (se_var (pv 0)) (sa_cons se_int sa_nil))))
    (sb_cons (ss_set (i := 9) nd rfl (Or.inl rfl) (se_add (se_slcA (se_var (pv 2)) so_none (so_some (se_var (pv 5)))) (se_slcA (se_var (pv 2)) (so_some (se_b oAdd (se_var (pv 5)) se_int)) so_none)))
    (sb_one (ss_ret (se_totup b_tuple rfl (sa_cons (se_sorted b_sorted rfl (sa_cons (se_add (se_lst (sa_cons (se_var (pv 9)) sa_nil)) (se_lc (own := [("_law_k", 8)]) rfl nd (si_range2 b_range rfl (sa_cons (se_var (pv 5)) (sa_cons (se_b oAdd (se_var (pv 5)) se_int) sa_nil))) (blkOk_by (own := [("_law_k", 8)]) (N := N_law_division) (sc := defScope st_law_division) (by decide +kernel)) (by decide) (gok_name 8) (fun _ _ _ _ _ => (sg_name (i := 8) nd rfl (Or.inl rfl))) (fun _ _ _ _ _ => sts_nil) (fun _ _ _ _ _ => (se_ix (se_var (pv 2)) (se_var (pv 8)) (fun _ _ => rfl))))) sa_nil)) sa_nil)))))) sb_nil)
    (sb_cons (ss_set (i := 4) nd rfl (Or.inl rfl) (se_lst (sa_cons se_int (sa_cons se_int (sa_cons se_int sa_nil)))))
    (sb_cons (ss_if (st_c oLt (se_var (pv 3)) se_int (nomark _)) (sb_one (ss_setlc (i := 4) (own := [("_law_k", 8)]) rfl nd rfl rfl (sw_true rfl rfl rfl (by decide +kernel)) (si_range1 b_range rfl (sa_cons se_int sa_nil)) (blkOk_by (own := [("_law_k", 8)]) (N := N_law_division) (sc := defScope st_law_division) (by decide +kernel)) (by decide) (gok_name 8) (fun _ _ _ _ _ => (sg_name (i := 8) nd rfl (Or.inl rfl))) (fun _ _ _ _ _ => sts_nil) (fun _ _ _ _ _ => (se_call (fs := [true, false]) ok_law_next fnS_len (hr.mono (by decide)) mg_law_next kp_law_next bi_law_next rfl (sa_cons (se_var (pv 0)) (sa_cons se_int sa_nil)))))) sb_nil)
    (sb_cons (ss_set (i := 5) nd rfl (Or.inl rfl) se_int)
    (sb_cons (ss_set (i := 6) nd rfl (Or.inl rfl) se_int)
    (sb_cons (ss_if (st_c oIn (se_var (pv 3)) (se_tup (sa_cons se_int (sa_cons se_int (sa_cons se_int sa_nil)))) rfl) (sb_cons (ss_set (i := 5) nd rfl (Or.inl rfl) (se_call (fs := [true, false]) ok_law_next fnS_len (hr.mono (by decide)) mg_law_next kp_law_next bi_law_next rfl (sa_cons (se_var (pv 0)) (sa_cons se_int sa_nil))))
    (sb_one (ss_set (i := 6) nd rfl (Or.inl rfl) (se_b oAdd se_int (se_call (fs := [true, false]) ok_law_next fnS_len (hr.mono (by decide)) mg_law_next kp_law_next bi_law_next rfl (sa_cons (se_var (pv 0)) (sa_cons se_int sa_nil))))))) sb_nil)
    (sb_cons (ss_set (i := 7) nd rfl (Or.inl rfl) (se_lst (sa_cons (se_str (cs := []) (by decide +kernel)) (sa_cons (se_str (cs := []) (by decide +kernel)) (sa_cons (se_str (cs := []) (by decide +kernel)) (sa_cons (se_str (cs := []) (by decide +kernel)) (sa_cons (se_str (cs := []) (by decide +kernel)) sa_nil)))))))
    (sb_cons (ss_for PassesOwn.never rfl (si_range1 b_range rfl (sa_cons se_int sa_nil)) (sg_name (i := 8) nd rfl (Or.inl rfl)) (sb_cons (ss_set (i := 10) nd rfl (Or.inl rfl) se_int)
    (sb_cons (ss_if (st_bool (sw_and (st_c oLe (se_var (pv 5)) (se_var (pv 8)) (nomark _)) (sw_and1 (st_c oLt (se_var (pv 8)) (se_add (se_var (pv 5)) (se_var (pv 6))) (nomark _))))) (sb_one (ss_set (i := 10) nd rfl (Or.inl rfl) se_int)) sb_nil)
    (sb_cons (ss_if (st_c oIn (se_ix (se_var (pv 2)) (se_var (pv 8)) (fun _ _ => rfl)) (se_var (pv 1)) rfl) (sb_one (ss_set (i := 10) nd rfl (Or.inl rfl) (se_ix (se_var (pv 4)) (se_find (se_var (pv 1)) (sa_cons (se_ix (se_var (pv 2)) (se_var (pv 8)) (fun _ _ => rfl)) sa_nil)) (fun _ _ => rfl)))) sb_nil)
    (sb_one (ss_seti (i := 7) (pv 7) (se_var (pv 10)) (se_add (se_ix (se_var (pv 7)) (se_var (pv 10)) (fun _ _ => rfl)) (se_ix (se_var (pv 2)) (se_var (pv 8)) (fun _ _ => rfl)))))))))
    (sb_one (ss_ret (se_totup b_tuple rfl (sa_cons (se_sorted b_sorted rfl (sa_cons (se_lc (own := [("_law_part", 11)]) rfl nd (si_seq (se_var (pv 7))) (blkOk_by (own := [("_law_part", 11)]) (N := N_law_division) (sc := defScope st_law_division) (by decide +kernel)) (by decide) (gok_name 11) (fun _ _ _ _ _ => (sg_name (i := 11) nd rfl (Or.inl rfl))) (fun _ _ _ _ _ => (sts_one (st_c (oNe hv) (se_var (pv 11)) (se_str (cs := []) (by decide +kernel)) (nomark _)))) (fun _ _ _ _ _ => (se_var (pv 11)))) sa_nil)) sa_nil)))))))))))))))
theorem ok_law_chain {f : Addr} {fd : FuncData} (F : FunG K "_law_chain" "_law_chain" st_law_chain f fd) (b_int : mg "int" = none) (b_len : mg "len" = none) (b_range : mg "range" = none) (b_tuple : mg "tuple" = none) {a_law_division : Addr} {d_law_division : FuncData} (ok_law_division : FnOk P w K mg base CX0 2 a_law_division d_law_division P_law_division (spF ⟨K, w⟩ 2 f_law_division)) (mg_law_division : mg "_law_division" = some (.ref a_law_division)) (kp_law_division : PySem.W.keepIn K (.ref a_law_division) = true) (bi_law_division : Binds K d_law_division P_law_division []) {a_law_next : Addr} {d_law_next : FuncData} (ok_law_next : FnOk P w K mg base CX0 1 a_law_next d_law_next P_law_next (spF ⟨K, w⟩ 2 f_law_next)) (mg_law_next : mg "_law_next" = some (.ref a_law_next)) (kp_law_next : PySem.W.keepIn K (.ref a_law_next) = true) (bi_law_next : Binds K d_law_next P_law_next []) :
    FnOk P w K mg base CX0 3 f fd P_law_chain (spF ⟨K, w⟩ 2 f_law_chain) := by
  have nd := sc_law_chain.nd
  refine fn_ok F sc_law_chain rfl rfl (by decide) fun cdv A outer s H E hr => ?_
  have hu := hr.units
  have hv := hu181 hr
  exact (sb_cons (ss_set (i := 2) nd rfl (Or.inl rfl) (se_call (fs := [true, false]) ok_law_division fnS_len (hr.mono (by decide)) mg_law_division kp_law_division bi_law_division rfl (sa_cons (se_var (pv 0)) (sa_cons (se_var (pv 1)) sa_nil))))
    (sb_cons (ss_set (i := 3) nd rfl (Or.inl rfl) (se_b oAdd se_int (se_call (fs := [true, false]) ok_law_next fnS_len (hr.mono (by decide)) mg_law_next kp_law_next bi_law_next rfl (sa_cons (se_var (pv 0)) (sa_cons se_int sa_nil)))))
    (sb_cons (ss_set (i := 4) nd rfl (Or.inl rfl) (se_call (fs := [true, false]) ok_law_next fnS_len (hr.mono (by decide)) mg_law_next kp_law_next bi_law_next rfl (sa_cons (se_var (pv 0)) (sa_cons (se_len b_len rfl (sa_cons (se_var (pv 2)) sa_nil)) sa_nil))))
    (sb_cons (ss_set (i := 5) nd rfl (Or.inl rfl) (se_call (fs := [true, false]) ok_law_next fnS_len (hr.mono (by decide)) mg_law_next kp_law_next bi_law_next rfl (sa_cons (se_var (pv 0)) (sa_cons (se_var (pv 3)) sa_nil))))
    (sb_cons (ss_set (i := 6) nd rfl (Or.inl rfl) (se_lst sa_nil))
    (sb_cons (ss_for PassesOwn.never rfl (si_range1 b_range rfl (sa_cons (se_var (pv 3)) sa_nil)) (sg_name (i := 7) nd rfl (Or.inr rfl)) (sb_cons (ss_setlc (i := 9) (own := [("_law_cell_here", 10)]) rfl nd rfl rfl (sw_true rfl rfl rfl (by decide +kernel)) (si_seq (se_var (pv 2))) (blkOk_by (own := [("_law_cell_here", 10)]) (N := N_law_chain) (sc := defScope st_law_chain) (by decide +kernel)) (by decide) (gok_name 10) (fun _ _ _ _ _ => (sg_name (i := 10) nd rfl (Or.inl rfl))) (fun _ _ _ _ _ => sts_nil) (fun _ _ _ _ _ => (se_toint b_int rfl (sa_cons (se_b oMul (se_var (pv 7)) (se_call (fs := [true, false]) ok_law_next fnS_len (hr.mono (by decide)) mg_law_next kp_law_next bi_law_next rfl (sa_cons (se_var (pv 0)) (sa_cons se_int sa_nil)))) sa_nil))))
    (sb_cons (ss_seti (i := 9) (pv 9) (se_var (pv 4)) (se_b oAdd (se_var (pv 7)) se_int))
    (sb_cons (ss_if (st_c (oEq hv) (se_var (pv 7)) (se_b oSub (se_var (pv 3)) se_int) (nomark _)) (sb_one (ss_seti (i := 9) (pv 9) (se_var (pv 4)) (se_var (pv 5)))) sb_nil)
    (sb_one (ss_app (i := 6) (pv 6) (se_totup b_tuple rfl (sa_cons (se_var (pv 9)) sa_nil))))))))
    (sb_cons (ss_set (i := 8) nd rfl (Or.inr rfl) (se_b oAdd se_int (se_call (fs := [true, false]) ok_law_next fnS_len (hr.mono (by decide)) mg_law_next kp_law_next bi_law_next rfl (sa_cons (se_var (pv 0)) (sa_cons (se_var (pv 3)) sa_nil)))))
    (sb_one (ss_ret (se_tup (sa_cons (se_var (pv 2)) (sa_cons (se_totup b_tuple rfl (sa_cons (se_var (pv 6)) sa_nil)) (sa_cons (se_totup b_tuple rfl (sa_cons (se_lc (own := [("_law_state", 7)]) rfl nd (si_range1 b_range rfl (sa_cons (se_var (pv 3)) sa_nil)) (blkOk_by (own := [("_law_state", 7)]) (N := N_law_chain) (sc := defScope st_law_chain) (by decide +kernel)) (by decide) (gok_name 7) (fun _ _ _ _ _ => (sg_name (i := 7) nd rfl (Or.inl rfl))) (fun _ _ _ _ _ => sts_nil) (fun _ _ _ _ _ => (se_c (oEq hv) (se_b oMod (se_toint b_int rfl (sa_cons (se_b oAdd (se_var (pv 7)) se_int) sa_nil)) (se_var (pv 8))) se_int (nomark _)))) sa_nil)) sa_nil)))))))))))))
theorem ok_law_changed {f : Addr} {fd : FuncData} (F : FunG K "_law_changed" "_law_changed" st_law_changed f fd) (b_int : mg "int" = none) (b_len : mg "len" = none) (b_list : mg "list" = none) (b_sorted : mg "sorted" = none) (b_tuple : mg "tuple" = none) {a_law_next : Addr} {d_law_next : FuncData} (ok_law_next : FnOk P w K mg base CX0 1 a_law_next d_law_next P_law_next (spF ⟨K, w⟩ 2 f_law_next)) (mg_law_next : mg "_law_next" = some (.ref a_law_next)) (kp_law_next : PySem.W.keepIn K (.ref a_law_next) = true) (bi_law_next : Binds K d_law_next P_law_next []) :
    FnOk P w K mg base CX0 2 f fd P_law_changed (spF ⟨K, w⟩ 2 f_law_changed) := by
  have nd := sc_law_changed.nd
  refine fn_ok F sc_law_changed rfl rfl (by decide) fun cdv A outer s H E hr => ?_
  have hu := hr.units
  have hv := hu181 hr
  exact (sb_cons (ss_set (i := 2) nd rfl (Or.inl rfl) (se_lst sa_nil))
    (sb_cons (ss_set (i := 3) nd rfl (Or.inl rfl) (se_call (fs := [true, false]) ok_law_next fnS_len (hr.mono (by decide)) mg_law_next kp_law_next bi_law_next rfl (sa_cons (se_var (pv 0)) (sa_cons (se_len b_len rfl (sa_cons (se_ix (se_var (pv 1)) se_int (fun _ _ => rfl)) sa_nil)) sa_nil))))
    (sb_cons (ss_set (i := 4) nd rfl (Or.inl rfl) (se_tolist b_list rfl (se_ix (se_var (pv 1)) se_int (fun _ _ => rfl))))
    (sb_cons (ss_seti (i := 4) (pv 4) (se_var (pv 3)) (se_not (se_ix (se_var (pv 4)) (se_var (pv 3)) (fun _ _ => rfl))))
    (sb_cons (ss_app (i := 2) (pv 2) (se_tup (sa_cons (se_ix (se_var (pv 1)) se_int (fun _ _ => rfl)) (sa_cons (se_ix (se_var (pv 1)) se_int (fun _ _ => rfl)) (sa_cons (se_totup b_tuple rfl (sa_cons (se_var (pv 4)) sa_nil)) sa_nil)))))
    (sb_cons (ss_if (st_c oGt (se_len b_len rfl (sa_cons (se_ix (se_var (pv 1)) se_int (fun _ _ => rfl)) sa_nil)) se_int (nomark _)) (sb_cons (ss_setrows (i := 6) (own := [("_law_row", 13)]) rfl nd rfl rfl (sw_true rfl rfl rfl (by decide +kernel)) (si_seq (se_ix (se_var (pv 1)) se_int (fun _ _ => rfl))) (blkOk_by (own := [("_law_row", 13)]) (N := N_law_changed) (sc := defScope st_law_changed) (by decide +kernel)) (by decide) (gok_name 13) (fun _ _ _ _ _ => (sg_name (i := 13) nd rfl (Or.inl rfl))) (fun _ _ _ _ _ => sts_nil) (fun _ _ _ _ _ => (se_tolist b_list rfl (se_var (pv 13)))))
    (sb_cons (ss_set (i := 7) nd rfl (Or.inl rfl) (se_call (fs := [true, false]) ok_law_next fnS_len (hr.mono (by decide)) mg_law_next kp_law_next bi_law_next rfl (sa_cons (se_var (pv 0)) (sa_cons (se_len b_len rfl (sa_cons (se_ix (se_var (pv 1)) se_int (fun _ _ => rfl)) sa_nil)) sa_nil))))
    (sb_cons (ss_set2 (i := 6) (a := 3) (b := 7) (pv 6) (pv 3) (pv 7) (fun _ _ => rfl) (se_b oMod (se_toint b_int rfl (sa_cons (se_b oAdd (se_b oAdd (se_ix2 (i := 6) (a := 3) (b := 7) (pv 6) (pv 3) (pv 7) (fun _ _ => rfl) (fun _ _ => rfl)) se_int) (se_call (fs := [true, false]) ok_law_next fnS_len (hr.mono (by decide)) mg_law_next kp_law_next bi_law_next rfl (sa_cons (se_var (pv 0)) (sa_cons (se_b oSub (se_lenOb (i := 6) b_len rfl (pv 6)) se_int) sa_nil)))) sa_nil)) (se_lenOb (i := 6) b_len rfl (pv 6))))
    (sb_one (ss_frz (i := 6) (ss_app (i := 2) (pv 2) (se_tup (sa_cons (se_ix (se_var (pv 1)) se_int (fun _ _ => rfl)) (sa_cons (se_totup b_tuple rfl (sa_cons (se_lc (own := [("_law_row", 13)]) rfl nd (si_seq (se_var (pv 6))) (blkOk_by (own := [("_law_row", 13)]) (N := N_law_changed) (sc := defScope st_law_changed) (by decide +kernel)) (by decide) (gok_name 13) (fun _ _ _ _ _ => (sg_name (i := 13) nd rfl (Or.inl rfl))) (fun _ _ _ _ _ => sts_nil) (fun _ _ _ _ _ => (se_totup b_tuple rfl (sa_cons (se_var (pv 13)) sa_nil)))) sa_nil)) (sa_cons (se_ix (se_var (pv 1)) se_int (fun _ _ => rfl)) sa_nil)))))))))) sb_nil)
    (sb_cons (ss_setlc (i := 5) (own := [("_law_cell_here", 7)]) rfl nd rfl rfl (sw_true rfl rfl rfl (by decide +kernel)) (si_seq (se_ix (se_var (pv 1)) se_int (fun _ _ => rfl))) (blkOk_by (own := [("_law_cell_here", 7)]) (N := N_law_changed) (sc := defScope st_law_changed) (by decide +kernel)) (by decide) (gok_name 7) (fun _ _ _ _ _ => (sg_name (i := 7) nd rfl (Or.inl rfl))) (fun _ _ _ _ _ => (sts_one (st_c oGt (se_len b_len rfl (sa_cons (se_var (pv 7)) sa_nil)) se_int (nomark _)))) (fun _ _ _ _ _ => (se_var (pv 7))))
    (sb_cons (ss_if (st_bool (sw_and (st_c oGt (se_len b_len rfl (sa_cons (se_ix (se_var (pv 1)) se_int (fun _ _ => rfl)) sa_nil)) se_int (nomark _)) (sw_and1 (st_c oGt (se_len b_len rfl (sa_cons (se_var (pv 5)) sa_nil)) se_int (nomark _))))) (sb_cons (ss_set (i := 8) nd rfl (Or.inr rfl) (se_ix (se_var (pv 5)) (se_call (fs := [true, false]) ok_law_next fnS_len (hr.mono (by decide)) mg_law_next kp_law_next bi_law_next rfl (sa_cons (se_var (pv 0)) (sa_cons (se_len b_len rfl (sa_cons (se_var (pv 5)) sa_nil)) sa_nil))) (fun _ _ => rfl)))
    (sb_cons (ss_setlc (i := 9) (own := [("_law_cell_here", 7)]) rfl nd rfl rfl (sw_true rfl rfl rfl (by decide +kernel)) (si_seq (se_ix (se_var (pv 1)) se_int (fun _ _ => rfl))) (blkOk_by (own := [("_law_cell_here", 7)]) (N := N_law_changed) (sc := defScope st_law_changed) (by decide +kernel)) (by decide) (gok_name 7) (fun _ _ _ _ _ => (sg_name (i := 7) nd rfl (Or.inl rfl))) (fun _ _ _ _ _ => (sts_one (st_c (oNe hv) (se_var (pv 7)) (se_var (pv 8)) (nomark _)))) (fun _ _ _ _ _ => (se_var (pv 7))))
    (sb_cons (ss_set (i := 10) nd rfl (Or.inr rfl) (se_ix (se_var (pv 9)) (se_call (fs := [true, false]) ok_law_next fnS_len (hr.mono (by decide)) mg_law_next kp_law_next bi_law_next rfl (sa_cons (se_var (pv 0)) (sa_cons (se_len b_len rfl (sa_cons (se_var (pv 9)) sa_nil)) sa_nil))) (fun _ _ => rfl)))
    (sb_cons (ss_setlc (i := 11) (own := [("_law_cell_here", 7)]) rfl nd rfl rfl (sw_true rfl rfl rfl (by decide +kernel)) (si_seq (se_var (pv 9))) (blkOk_by (own := [("_law_cell_here", 7)]) (N := N_law_changed) (sc := defScope st_law_changed) (by decide +kernel)) (by decide) (gok_name 7) (fun _ _ _ _ _ => (sg_name (i := 7) nd rfl (Or.inl rfl))) (fun _ _ _ _ _ => (sts_one (st_c (oNe hv) (se_var (pv 7)) (se_var (pv 10)) (nomark _)))) (fun _ _ _ _ _ => (se_var (pv 7))))
    (sb_cons (ss_set (i := 3) nd rfl (Or.inl rfl) (se_call (fs := [true, false]) ok_law_next fnS_len (hr.mono (by decide)) mg_law_next kp_law_next bi_law_next rfl (sa_cons (se_var (pv 0)) (sa_cons (se_len b_len rfl (sa_cons (se_var (pv 8)) sa_nil)) sa_nil))))
    (sb_cons (ss_set (i := 12) nd rfl (Or.inl rfl) (se_join (se_str (cs := []) (by decide +kernel)) (sa_cons (se_sortSg rfl hu b_sorted rfl (sa_cons (se_add (se_var (pv 10)) (se_ix (se_var (pv 8)) (se_var (pv 3)) (fun _ _ => rfl))) sa_nil)) sa_nil)))
    (sb_one (ss_app (i := 2) (pv 2) (se_tup (sa_cons (se_totup b_tuple rfl (sa_cons (se_sorted b_sorted rfl (sa_cons (se_add (se_var (pv 11)) (se_lst (sa_cons (se_add (se_slcA (se_var (pv 8)) so_none (so_some (se_var (pv 3)))) (se_slcA (se_var (pv 8)) (so_some (se_b oAdd (se_var (pv 3)) se_int)) so_none)) (sa_cons (se_var (pv 12)) sa_nil)))) sa_nil)) sa_nil)) (sa_cons (se_ix (se_var (pv 1)) se_int (fun _ _ => rfl)) (sa_cons (se_ix (se_var (pv 1)) se_int (fun _ _ => rfl)) sa_nil)))))))))))) sb_nil)
    (sb_one (ss_ret (se_var (pv 2))))))))))))
theorem ok_law_draw {f : Addr} {fd : FuncData} (F : FunG K "_law_draw" "_law_draw" st_law_draw f fd) (b_int : mg "int" = none) (b_range : mg "range" = none) :
    FnOk P w K mg base CX0 1 f fd P_law_draw (spF ⟨K, w⟩ 1 f_law_draw) := by
  have nd := sc_law_draw.nd
  refine fn_ok F sc_law_draw rfl rfl (by decide) fun cdv A outer s H E hr => ?_
  have hu := hr.units
  have hv := hu181 hr
  exact (sb_cons (ss_set (i := 1) nd rfl (Or.inl rfl) (se_lst sa_nil))
    (sb_cons (ss_set (i := 2) nd rfl (Or.inl rfl) se_int)
    (sb_cons (ss_set (i := 3) nd rfl (Or.inl rfl) se_int)
    (sb_cons (ss_for PassesOwn.never rfl (si_seq (se_var (pv 0))) (sg_name (i := 4) nd rfl (Or.inl rfl)) (sb_cons (ss_set (i := 2) nd rfl (Or.inl rfl) (se_b oMod (se_toint b_int rfl (sa_cons (se_b oAdd (se_b oMul (se_var (pv 2)) se_int) (se_var (pv 4))) sa_nil)) se_int))
    (sb_cons (ss_set (i := 3) nd rfl (Or.inl rfl) (se_b oMod (se_toint b_int rfl (sa_cons (se_b oAdd (se_b oMul (se_var (pv 3)) se_int) (se_b oDiv (se_var (pv 4)) se_int)) sa_nil)) se_int))
    (sb_cons (ss_set (i := 5) nd rfl (Or.inl rfl) (se_var (pv 4)))
    (sb_cons (ss_if (st_c oLt (se_var (pv 4)) (se_b oPow se_int se_int) (nomark _)) (sb_one (ss_set (i := 5) nd rfl (Or.inl rfl) se_int)) sb_nil)
    (sb_one (ss_for PassesOwn.never rfl (si_range1 b_range rfl (sa_cons se_int sa_nil)) (sg_name (i := 6) nd rfl (Or.inl rfl)) (sb_one (ss_if (st_c oGt (se_var (pv 5)) se_int (nomark _)) (sb_cons (ss_app (i := 1) (pv 1) (se_b oMod (se_toint b_int rfl (sa_cons (se_var (pv 5)) sa_nil)) se_int))
    (sb_one (ss_set (i := 5) nd rfl (Or.inl rfl) (se_b oDiv (se_var (pv 5)) se_int)))) sb_nil)))))))))
    (sb_one (ss_ret (se_lst (sa_cons se_int (sa_cons (se_var (pv 2)) (sa_cons (se_var (pv 3)) (sa_cons (se_var (pv 1)) (sa_cons se_int sa_nil))))))))))))
theorem ok_law_fine {f : Addr} {fd : FuncData} (F : FunG K "_law_fine" "_law_fine" st_law_fine f fd) (b_range : mg "range" = none) (b_tuple : mg "tuple" = none) {a_law_next : Addr} {d_law_next : FuncData} (ok_law_next : FnOk P w K mg base CX0 1 a_law_next d_law_next P_law_next (spF ⟨K, w⟩ 2 f_law_next)) (mg_law_next : mg "_law_next" = some (.ref a_law_next)) (kp_law_next : PySem.W.keepIn K (.ref a_law_next) = true) (bi_law_next : Binds K d_law_next P_law_next []) {a_law_signs : Addr} {d_law_signs : FuncData} (ok_law_signs : FnOk P w K mg base CX0 1 a_law_signs d_law_signs P_law_signs (spF ⟨K, w⟩ 0 f_law_signs)) (mg_law_signs : mg "_law_signs" = some (.ref a_law_signs)) (kp_law_signs : PySem.W.keepIn K (.ref a_law_signs) = true) (bi_law_signs : Binds K d_law_signs P_law_signs []) :
    FnOk P w K mg base CX0 2 f fd P_law_fine (spF ⟨K, w⟩ 2 f_law_fine) := by
  have nd := sc_law_fine.nd
  refine fn_ok F sc_law_fine rfl rfl (by decide) fun cdv A outer s H E hr => ?_
  have hu := hr.units
  have hv := hu181 hr
  exact (sb_cons (ss_set (i := 2) nd rfl (Or.inl rfl) (se_call0 (fs := []) ok_law_signs fnS_len (hr.mono (by decide)) mg_law_signs kp_law_signs bi_law_signs rfl))
    (sb_cons (ss_set (i := 3) nd rfl (Or.inr rfl) (se_b oAdd se_int (se_call (fs := [true, false]) ok_law_next fnS_len (hr.mono (by decide)) mg_law_next kp_law_next bi_law_next rfl (sa_cons (se_var (pv 0)) (sa_cons (se_var (pv 1)) sa_nil)))))
    (sb_cons (ss_set (i := 4) nd rfl (Or.inl rfl) (se_lst sa_nil))
    (sb_cons (ss_for PassesOwn.never rfl (si_range1 b_range rfl (sa_cons (se_var (pv 3)) sa_nil)) (sg_name (i := 5) nd rfl (Or.inl rfl)) (sb_one (ss_app (i := 4) (pv 4) (se_totup b_tuple rfl (sa_cons (se_lc (own := [("_law_sign", 6)]) rfl nd (si_seq (se_var (pv 2))) (blkOk_by (own := [("_law_sign", 6)]) (N := N_law_fine) (sc := defScope st_law_fine) (by decide +kernel)) (by decide) (gok_name 6) (fun _ _ _ _ _ => (sg_name (i := 6) nd rfl (Or.inl rfl))) (fun _ _ _ _ _ => sts_nil) (fun _ _ _ _ _ => (se_call (fs := [true, false]) ok_law_next fnS_len (hr.mono (by decide)) mg_law_next kp_law_next bi_law_next rfl (sa_cons (se_var (pv 0)) (sa_cons (se_var (pv 3)) sa_nil))))) sa_nil)))))
    (sb_one (ss_ret (se_tup (sa_cons (se_totup b_tuple rfl (sa_cons (se_lc (own := [("_law_sign", 6)]) rfl nd (si_seq (se_var (pv 2))) (blkOk_by (own := [("_law_sign", 6)]) (N := N_law_fine) (sc := defScope st_law_fine) (by decide +kernel)) (by decide) (gok_name 6) (fun _ _ _ _ _ => (sg_name (i := 6) nd rfl (Or.inl rfl))) (fun _ _ _ _ _ => sts_nil) (fun _ _ _ _ _ => (se_var (pv 6)))) sa_nil)) (sa_cons (se_totup b_tuple rfl (sa_cons (se_var (pv 4)) sa_nil)) (sa_cons (se_totup b_tuple rfl (sa_cons (se_lc (own := [("_law_row", 7)]) rfl nd (si_seq (se_var (pv 4))) (blkOk_by (own := [("_law_row", 7)]) (N := N_law_fine) (sc := defScope st_law_fine) (by decide +kernel)) (by decide) (gok_name 7) (fun _ _ _ _ _ => (sg_name (i := 7) nd rfl (Or.inl rfl))) (fun _ _ _ _ _ => sts_nil) (fun _ _ _ _ _ => (se_c (oEq hv) (se_call (fs := [true, false]) ok_law_next fnS_len (hr.mono (by decide)) mg_law_next kp_law_next bi_law_next rfl (sa_cons (se_var (pv 0)) (sa_cons se_int sa_nil))) se_int (nomark _)))) sa_nil)) sa_nil))))))))))
theorem ok_law_cell {f : Addr} {fd : FuncData} (F : FunG K "_law_cell" "_law_cell" st_law_cell f fd) (b_len : mg "len" = none) (b_range : mg "range" = none) :
    FnOk P w K mg base CX0 1 f fd P_law_cell (spF ⟨K, w⟩ 2 f_law_cell) := by
  have nd := sc_law_cell.nd
  refine fn_ok F sc_law_cell rfl rfl (by decide) fun cdv A outer s H E hr => ?_
  have hu := hr.units
  have hv := hu181 hr
  exact (sb_cons (ss_for PassesOwn.never rfl (si_range1 b_range rfl (sa_cons (se_len b_len rfl (sa_cons (se_var (pv 0)) sa_nil)) sa_nil)) (sg_name (i := 2) nd rfl (Or.inl rfl)) (sb_one (ss_if (st_c oIn (se_var (pv 1)) (se_ix (se_var (pv 0)) (se_var (pv 2)) (fun _ _ => rfl)) rfl) (sb_one (ss_ret (se_var (pv 2)))) sb_nil)))
    (sb_one (ss_ret se_int)))
theorem ok_law_from {f : Addr} {fd : FuncData} (F : FunG K "_law_from" "_law_from" st_law_from f fd) {a_law_cell : Addr} {d_law_cell : FuncData} (ok_law_cell : FnOk P w K mg base CX0 1 a_law_cell d_law_cell P_law_cell (spF ⟨K, w⟩ 2 f_law_cell)) (mg_law_cell : mg "_law_cell" = some (.ref a_law_cell)) (kp_law_cell : PySem.W.keepIn K (.ref a_law_cell) = true) (bi_law_cell : Binds K d_law_cell P_law_cell []) :
    FnOk P w K mg base CX0 2 f fd P_law_from (spF ⟨K, w⟩ 3 f_law_from) := by
  have nd := sc_law_from.nd
  refine fn_ok F sc_law_from rfl rfl (by decide) fun cdv A outer s H E hr => ?_
  have hu := hr.units
  have hv := hu181 hr
  exact (sb_cons (ss_for PassesOwn.never rfl (si_seq (se_var (pv 2))) (sg_name (i := 3) nd rfl (Or.inl rfl)) (sb_one (ss_set (i := 1) nd rfl (Or.inl rfl) (se_ix (se_ix (se_ix (se_var (pv 0)) se_int (fun _ _ => rfl)) (se_var (pv 1)) (fun _ _ => rfl)) (se_call (fs := []) ok_law_cell fnS_len (hr.mono (by decide)) mg_law_cell kp_law_cell bi_law_cell rfl (sa_cons (se_ix (se_var (pv 0)) se_int (fun _ _ => rfl)) (sa_cons (se_var (pv 3)) sa_nil))) (fun _ _ => rfl)))))
    (sb_one (ss_ret (se_var (pv 1)))))
theorem ok_law_int {f : Addr} {fd : FuncData} (F : FunG K "_law_int" "_law_int" st_law_int f fd) (b_bool : mg "bool" = none) (b_int : mg "int" = none) (b_isinstance : mg "isinstance" = none) :
    FnOk P w K mg base CX0 1 f fd P_law_int (spF ⟨K, w⟩ 1 f_law_int) := by
  have nd := sc_law_int.nd
  refine fn_ok F sc_law_int rfl rfl (by decide) fun cdv A outer s H E hr => ?_
  have hu := hr.units
  have hv := hu181 hr
  exact (sb_one (ss_ret (se_and (se_isi b_isinstance rfl b_int rfl (by decide +kernel) (se_var (pv 0))) (se_one (se_not (se_isi b_isinstance rfl b_bool rfl (by decide +kernel) (se_var (pv 0))))))))
theorem ok_law_kept {f : Addr} {fd : FuncData} (F : FunG K "_law_kept" "_law_kept" st_law_kept f fd) {C_Machine : Addr} (hC_Machine : ClsN K "Machine" C_Machine) (cl_Machine : Cls K C_Machine) (na_Machine_cells : NoAttr K C_Machine "cells") (na_Machine_rows : NoAttr K C_Machine "rows") (na_Machine_accepting : NoAttr K C_Machine "accepting") :
    FnOk P w K mg base CX0 1 f fd P_law_kept (spF ⟨K, w⟩ 2 f_law_kept) := by
  have nd := sc_law_kept.nd
  refine fn_ok F sc_law_kept rfl rfl (by decide) fun cdv A outer s H E hr => ?_
  have hu := hr.units
  have hv := hu181 hr
  exact (sb_one (ss_ret (se_and (se_c (oEq hv) (se_fld hC_Machine cl_Machine na_Machine_cells (se_var (pv 0)) rfl) (se_ix (se_var (pv 1)) se_int (fun _ _ => rfl)) (nomark _)) (se_and (se_c (oEq hv) (se_fld hC_Machine cl_Machine na_Machine_rows (se_var (pv 0)) rfl) (se_ix (se_var (pv 1)) se_int (fun _ _ => rfl)) (nomark _)) (se_one (se_c (oEq hv) (se_fld hC_Machine cl_Machine na_Machine_accepting (se_var (pv 0)) rfl) (se_ix (se_var (pv 1)) se_int (fun _ _ => rfl)) (nomark _)))))))
theorem ok_law_letters {f : Addr} {fd : FuncData} (F : FunG K "_law_letters" "_law_letters" st_law_letters f fd) (b_int : mg "int" = none) (b_range : mg "range" = none) {a_law_next : Addr} {d_law_next : FuncData} (ok_law_next : FnOk P w K mg base CX0 1 a_law_next d_law_next P_law_next (spF ⟨K, w⟩ 2 f_law_next)) (mg_law_next : mg "_law_next" = some (.ref a_law_next)) (kp_law_next : PySem.W.keepIn K (.ref a_law_next) = true) (bi_law_next : Binds K d_law_next P_law_next []) {a_law_signs : Addr} {d_law_signs : FuncData} (ok_law_signs : FnOk P w K mg base CX0 1 a_law_signs d_law_signs P_law_signs (spF ⟨K, w⟩ 0 f_law_signs)) (mg_law_signs : mg "_law_signs" = some (.ref a_law_signs)) (kp_law_signs : PySem.W.keepIn K (.ref a_law_signs) = true) (bi_law_signs : Binds K d_law_signs P_law_signs []) :
    FnOk P w K mg base CX0 2 f fd P_law_letters (spF ⟨K, w⟩ 1 f_law_letters) := by
  have nd := sc_law_letters.nd
  refine fn_ok F sc_law_letters rfl rfl (by decide) fun cdv A outer s H E hr => ?_
  have hu := hr.units
  have hv := hu181 hr
  exact (sb_cons (ss_set (i := 1) nd rfl (Or.inl rfl) (se_call (fs := [true, false]) ok_law_next fnS_len (hr.mono (by decide)) mg_law_next kp_law_next bi_law_next rfl (sa_cons (se_var (pv 0)) (sa_cons se_int sa_nil))))
    (sb_cons (ss_if (st_c (oEq hv) (se_var (pv 1)) se_int (nomark _)) (sb_one (ss_ret (se_str (cs := [10, 97, 98]) (by decide +kernel)))) sb_nil)
    (sb_cons (ss_if (st_c (oEq hv) (se_var (pv 1)) se_int (nomark _)) (sb_one (ss_ret (se_str (cs := [32, 97, 98]) (by decide +kernel)))) sb_nil)
    (sb_cons (ss_if (st_c (oEq hv) (se_var (pv 1)) se_int (nomark _)) (sb_one (ss_ret (se_str (cs := [97, 98, 99]) (by decide +kernel)))) sb_nil)
    (sb_cons (ss_set (i := 2) nd rfl (Or.inr rfl) (se_call0 (fs := []) ok_law_signs fnS_len (hr.mono (by decide)) mg_law_signs kp_law_signs bi_law_signs rfl))
    (sb_cons (ss_set (i := 3) nd rfl (Or.inr rfl) (se_call (fs := [true, false]) ok_law_next fnS_len (hr.mono (by decide)) mg_law_next kp_law_next bi_law_next rfl (sa_cons (se_var (pv 0)) (sa_cons se_int sa_nil))))
    (sb_cons (ss_set (i := 4) nd rfl (Or.inr rfl) (se_b oMod (se_toint b_int rfl (sa_cons (se_b oAdd (se_b oAdd (se_var (pv 3)) se_int) (se_call (fs := [true, false]) ok_law_next fnS_len (hr.mono (by decide)) mg_law_next kp_law_next bi_law_next rfl (sa_cons (se_var (pv 0)) (sa_cons se_int sa_nil)))) sa_nil)) se_int))
    (sb_cons (ss_set (i := 5) nd rfl (Or.inr rfl) (se_b oMod (se_toint b_int rfl (sa_cons (se_b oAdd (se_b oAdd (se_var (pv 3)) se_int) (se_call (fs := [true, false]) ok_law_next fnS_len (hr.mono (by decide)) mg_law_next kp_law_next bi_law_next rfl (sa_cons (se_var (pv 0)) (sa_cons se_int sa_nil)))) sa_nil)) se_int))
    (sb_cons (ss_if (st_c (oEq hv) (se_var (pv 5)) (se_var (pv 4)) (nomark _)) (sb_one (ss_set (i := 5) nd rfl (Or.inr rfl) (se_b oMod (se_toint b_int rfl (sa_cons (se_b oAdd (se_var (pv 5)) se_int) sa_nil)) se_int))) sb_nil)
    (sb_cons (ss_if (st_c (oEq hv) (se_var (pv 5)) (se_var (pv 3)) (nomark _)) (sb_one (ss_set (i := 5) nd rfl (Or.inr rfl) (se_b oMod (se_toint b_int rfl (sa_cons (se_b oAdd (se_var (pv 5)) se_int) sa_nil)) se_int))) sb_nil)
    (sb_one (ss_ret (se_join (se_str (cs := []) (by decide +kernel)) (sa_cons (se_lc (own := [("_law_k", 6)]) rfl nd (si_range1 b_range rfl (sa_cons se_int sa_nil)) (blkOk_by (own := [("_law_k", 6)]) (N := N_law_letters) (sc := defScope st_law_letters) (by decide +kernel)) (by decide) (gok_name 6) (fun _ _ _ _ _ => (sg_name (i := 6) nd rfl (Or.inl rfl))) (fun _ _ _ _ _ => (sts_one (st_bool (sw_or (st_c (oEq hv) (se_var (pv 6)) (se_var (pv 3)) (nomark _)) (sw_or (st_c (oEq hv) (se_var (pv 6)) (se_var (pv 4)) (nomark _)) (sw_or1 (st_c (oEq hv) (se_var (pv 6)) (se_var (pv 5)) (nomark _)))))))) (fun _ _ _ _ _ => (se_ix (se_var (pv 2)) (se_var (pv 6)) (fun _ _ => rfl)))) sa_nil))))))))))))))
theorem ok_law_long {f : Addr} {fd : FuncData} (F : FunG K "_law_long" "_law_long" st_law_long f fd) (b_len : mg "len" = none) (b_range : mg "range" = none) {a_law_next : Addr} {d_law_next : FuncData} (ok_law_next : FnOk P w K mg base CX0 1 a_law_next d_law_next P_law_next (spF ⟨K, w⟩ 2 f_law_next)) (mg_law_next : mg "_law_next" = some (.ref a_law_next)) (kp_law_next : PySem.W.keepIn K (.ref a_law_next) = true) (bi_law_next : Binds K d_law_next P_law_next []) :
    FnOk P w K mg base CX0 2 f fd P_law_long (spF ⟨K, w⟩ 3 f_law_long) := by
  have nd := sc_law_long.nd
  refine fn_ok F sc_law_long rfl rfl (by decide) fun cdv A outer s H E hr => ?_
  have hu := hr.units
  have hv := hu181 hr
  exact (sb_cons (ss_set (i := 3) nd rfl (Or.inl rfl) (se_str (cs := []) (by decide +kernel)))
    (sb_cons (ss_set (i := 4) nd rfl (Or.inl rfl) (se_ix (se_var (pv 1)) (se_call (fs := [true, false]) ok_law_next fnS_len (hr.mono (by decide)) mg_law_next kp_law_next bi_law_next rfl (sa_cons (se_var (pv 0)) (sa_cons (se_len b_len rfl (sa_cons (se_var (pv 1)) sa_nil)) sa_nil))) (fun _ _ => rfl)))
    (sb_cons (ss_set (i := 5) nd rfl (Or.inl rfl) (se_ix (se_var (pv 1)) (se_call (fs := [true, false]) ok_law_next fnS_len (hr.mono (by decide)) mg_law_next kp_law_next bi_law_next rfl (sa_cons (se_var (pv 0)) (sa_cons (se_len b_len rfl (sa_cons (se_var (pv 1)) sa_nil)) sa_nil))) (fun _ _ => rfl)))
    (sb_cons (ss_for PassesOwn.never rfl (si_range1 b_range rfl (sa_cons (se_b oAdd se_int (se_call (fs := [true, false]) ok_law_next fnS_len (hr.mono (by decide)) mg_law_next kp_law_next bi_law_next rfl (sa_cons (se_var (pv 0)) (sa_cons (se_b oSub (se_var (pv 2)) se_int) sa_nil)))) sa_nil)) (sg_name (i := 6) nd rfl (Or.inl rfl)) (sb_cons (ss_set (i := 3) nd rfl (Or.inl rfl) (se_add (se_var (pv 3)) (se_ix (se_var (pv 4)) (se_call (fs := [true, false]) ok_law_next fnS_len (hr.mono (by decide)) mg_law_next kp_law_next bi_law_next rfl (sa_cons (se_var (pv 0)) (sa_cons (se_len b_len rfl (sa_cons (se_var (pv 4)) sa_nil)) sa_nil))) (fun _ _ => rfl))))
    (sb_one (ss_if (st_c (oEq hv) (se_b oMod (se_var (pv 6)) se_int) se_int (nomark _)) (sb_one (ss_set (i := 3) nd rfl (Or.inl rfl) (se_add (se_var (pv 3)) (se_ix (se_var (pv 5)) se_int (fun _ _ => rfl))))) sb_nil))))
    (sb_one (ss_ret (se_slcA (se_var (pv 3)) so_none (so_some (se_var (pv 2))))))))))
theorem ok_law_machine {f : Addr} {fd : FuncData} (F : FunG K "_law_machine" "_law_machine" st_law_machine f fd) (b_int : mg "int" = none) (b_min : mg "min" = none) (b_range : mg "range" = none) (b_tuple : mg "tuple" = none) {a_law_division : Addr} {d_law_division : FuncData} (ok_law_division : FnOk P w K mg base CX0 2 a_law_division d_law_division P_law_division (spF ⟨K, w⟩ 2 f_law_division)) (mg_law_division : mg "_law_division" = some (.ref a_law_division)) (kp_law_division : PySem.W.keepIn K (.ref a_law_division) = true) (bi_law_division : Binds K d_law_division P_law_division []) {a_law_next : Addr} {d_law_next : FuncData} (ok_law_next : FnOk P w K mg base CX0 1 a_law_next d_law_next P_law_next (spF ⟨K, w⟩ 2 f_law_next)) (mg_law_next : mg "_law_next" = some (.ref a_law_next)) (kp_law_next : PySem.W.keepIn K (.ref a_law_next) = true) (bi_law_next : Binds K d_law_next P_law_next []) :
    FnOk P w K mg base CX0 3 f fd P_law_machine (spF ⟨K, w⟩ 3 f_law_machine) := by
  have nd := sc_law_machine.nd
  refine fn_ok F sc_law_machine rfl rfl (by decide) fun cdv A outer s H E hr => ?_
  have hu := hr.units
  have hv := hu181 hr
  exact (sb_cons (ss_set (i := 3) nd rfl (Or.inl rfl) (se_call (fs := [true, false]) ok_law_division fnS_len (hr.mono (by decide)) mg_law_division kp_law_division bi_law_division rfl (sa_cons (se_var (pv 0)) (sa_cons (se_var (pv 1)) sa_nil))))
    (sb_cons (ss_set (i := 4) nd rfl (Or.inl rfl) (se_b oAdd se_int (se_call (fs := [true, false]) ok_law_next fnS_len (hr.mono (by decide)) mg_law_next kp_law_next bi_law_next rfl (sa_cons (se_var (pv 0)) (sa_cons (se_var (pv 2)) sa_nil)))))
    (sb_cons (ss_set (i := 5) nd rfl (Or.inl rfl) (se_call (fs := [true, false]) ok_law_next fnS_len (hr.mono (by decide)) mg_law_next kp_law_next bi_law_next rfl (sa_cons (se_var (pv 0)) (sa_cons se_int sa_nil))))
    (sb_cons (ss_set (i := 6) nd rfl (Or.inl rfl) (se_lst sa_nil))
    (sb_cons (ss_set (i := 7) nd rfl (Or.inl rfl) (se_lst sa_nil))
    (sb_cons (ss_for PassesOwn.never rfl (si_range1 b_range rfl (sa_cons (se_var (pv 4)) sa_nil)) (sg_name (i := 8) nd rfl (Or.inl rfl)) (sb_cons (ss_set (i := 9) nd rfl (Or.inl rfl) (se_lst sa_nil))
    (sb_cons (ss_for PassesOwn.never rfl (si_seq (se_var (pv 3))) (sg_name (i := 10) nd rfl (Or.inl rfl)) (sb_cons (ss_set (i := 11) nd rfl (Or.inl rfl) (se_call (fs := [true, false]) ok_law_next fnS_len (hr.mono (by decide)) mg_law_next kp_law_next bi_law_next rfl (sa_cons (se_var (pv 0)) (sa_cons (se_var (pv 4)) sa_nil))))
    (sb_cons (ss_if (st_c (oEq hv) (se_var (pv 5)) se_int (nomark _)) (sb_one (ss_set (i := 11) nd rfl (Or.inl rfl) (se_min2 b_min rfl rfl (sa_cons (se_b oSub (se_var (pv 4)) se_int) (sa_cons (se_b oAdd (se_b oAdd (se_var (pv 8)) se_int) (se_b oDiv (se_var (pv 11)) se_int)) sa_nil))))) sb_nil)
    (sb_cons (ss_if (st_bool (sw_and (st_c (oEq hv) (se_var (pv 5)) se_int (nomark _)) (sw_and1 (st_c (oEq hv) (se_call (fs := [true, false]) ok_law_next fnS_len (hr.mono (by decide)) mg_law_next kp_law_next bi_law_next rfl (sa_cons (se_var (pv 0)) (sa_cons se_int sa_nil))) se_int (nomark _))))) (sb_one (ss_set (i := 11) nd rfl (Or.inl rfl) (se_b oMod (se_toint b_int rfl (sa_cons (se_b oAdd (se_var (pv 8)) se_int) sa_nil)) (se_var (pv 4))))) sb_nil)
    (sb_cons (ss_if (st_bool (sw_and (st_c (oEq hv) (se_var (pv 5)) se_int (nomark _)) (sw_and1 (st_bool (sw_or (st_c (oEq hv) (se_var (pv 8)) (se_b oSub (se_var (pv 4)) se_int) (nomark _)) (sw_or1 (st_c (oEq hv) (se_call (fs := [true, false]) ok_law_next fnS_len (hr.mono (by decide)) mg_law_next kp_law_next bi_law_next rfl (sa_cons (se_var (pv 0)) (sa_cons se_int sa_nil))) se_int (nomark _)))))))) (sb_one (ss_set (i := 11) nd rfl (Or.inl rfl) (se_b oSub (se_var (pv 4)) se_int))) sb_nil)
    (sb_one (ss_app (i := 9) (pv 9) (se_var (pv 11)))))))))
    (sb_cons (ss_app (i := 6) (pv 6) (se_totup b_tuple rfl (sa_cons (se_var (pv 9)) sa_nil)))
    (sb_one (ss_app (i := 7) (pv 7) (se_c oLt (se_call (fs := [true, false]) ok_law_next fnS_len (hr.mono (by decide)) mg_law_next kp_law_next bi_law_next rfl (sa_cons (se_var (pv 0)) (sa_cons se_int sa_nil))) se_int (nomark _))))))))
    (sb_cons (ss_if (st_bool (sw_and (st_c oIn (se_var (pv 5)) (se_tup (sa_cons se_int (sa_cons se_int sa_nil))) rfl) (sw_and1 (st_c oGt (se_call (fs := [true, false]) ok_law_next fnS_len (hr.mono (by decide)) mg_law_next kp_law_next bi_law_next rfl (sa_cons (se_var (pv 0)) (sa_cons se_int sa_nil))) se_int (nomark _))))) (sb_one (ss_seti (i := 7) (pv 7) (se_b oSub (se_var (pv 4)) se_int) se_bl)) sb_nil)
    (sb_cons (ss_if (st_bool (sw_and (st_c oNi se_bl (se_var (pv 7)) rfl) (sw_and1 (st_c oGt (se_call (fs := [true, false]) ok_law_next fnS_len (hr.mono (by decide)) mg_law_next kp_law_next bi_law_next rfl (sa_cons (se_var (pv 0)) (sa_cons se_int sa_nil))) se_int (nomark _))))) (sb_one (ss_seti (i := 7) (pv 7) (se_call (fs := [true, false]) ok_law_next fnS_len (hr.mono (by decide)) mg_law_next kp_law_next bi_law_next rfl (sa_cons (se_var (pv 0)) (sa_cons (se_var (pv 4)) sa_nil))) se_bl)) sb_nil)
    (sb_one (ss_ret (se_tup (sa_cons (se_var (pv 3)) (sa_cons (se_totup b_tuple rfl (sa_cons (se_var (pv 6)) sa_nil)) (sa_cons (se_totup b_tuple rfl (sa_cons (se_var (pv 7)) sa_nil)) sa_nil))))))))))))))
theorem ok_init_Machine {f : Addr} {fd : FuncData} (F : FunG K "__init__" "Machine.__init__" st_init_Machine f fd) {C_Machine : Addr} (cl_Machine : Cls K C_Machine) (na_Machine_cells : NoAttr K C_Machine "cells") (na_Machine_rows : NoAttr K C_Machine "rows") (na_Machine_accepting : NoAttr K C_Machine "accepting") :
    FnOk P w K mg base CX0 1 f fd P_init_Machine (spI ⟨K, w⟩ C_Machine 3 g_Machine) := by
  have nd := sc_init_Machine.nd
  refine fn_init F sc_init_Machine rfl rfl (by decide) fun cdv A outer s H E hr => ?_
  have hu := hr.units
  have hv := hu181 hr
  exact (si0_cons (si0_fld cl_Machine na_Machine_cells (pv 0) (se_var (pv 1)) rfl)
    (si0_cons (si0_fld cl_Machine na_Machine_rows (pv 0) (se_var (pv 2)) rfl)
    (si0_cons (si0_fld cl_Machine na_Machine_accepting (pv 0) (se_var (pv 3)) rfl)
    si0_nil)))
theorem ok_law_made {f : Addr} {fd : FuncData} (F : FunG K "_law_made" "_law_made" st_law_made f fd) {C_Machine : Addr} (hC_Machine : ClsN K "Machine" C_Machine) {fi_Machine : Addr} {fdi_Machine : FuncData} (M_Machine : Mk K C_Machine fi_Machine) (okI_Machine : FnOk P w K mg base CX0 1 fi_Machine fdi_Machine P_init_Machine (spI ⟨K, w⟩ C_Machine 3 g_Machine)) (mgC_Machine : mg "Machine" = some (.ref C_Machine)) (biI_Machine : Binds K fdi_Machine P_init_Machine []) :
    FnOk P w K mg base CX0 3 f fd P_law_made (spF ⟨K, w⟩ 1 f_law_made) := by
  have nd := sc_law_made.nd
  refine fn_ok F sc_law_made rfl rfl (by decide) fun cdv A outer s H E hr => ?_
  have hu := hr.units
  have hv := hu181 hr
  exact (sb_one (ss_ret (se_make M_Machine hC_Machine okI_Machine g_Machine_len (hr.mono (by decide)) rfl mgC_Machine biI_Machine (sa_cons (se_ix (se_var (pv 0)) se_int (fun _ _ => rfl)) (sa_cons (se_ix (se_var (pv 0)) se_int (fun _ _ => rfl)) (sa_cons (se_ix (se_var (pv 0)) se_int (fun _ _ => rfl)) sa_nil))))))
theorem ok_law_over {f : Addr} {fd : FuncData} (F : FunG K "_law_over" "_law_over" st_law_over f fd) (b_len : mg "len" = none) (b_range : mg "range" = none) {a_law_next : Addr} {d_law_next : FuncData} (ok_law_next : FnOk P w K mg base CX0 1 a_law_next d_law_next P_law_next (spF ⟨K, w⟩ 2 f_law_next)) (mg_law_next : mg "_law_next" = some (.ref a_law_next)) (kp_law_next : PySem.W.keepIn K (.ref a_law_next) = true) (bi_law_next : Binds K d_law_next P_law_next []) :
    FnOk P w K mg base CX0 2 f fd P_law_over (spF ⟨K, w⟩ 3 f_law_over) := by
  have nd := sc_law_over.nd
  refine fn_ok F sc_law_over rfl rfl (by decide) fun cdv A outer s H E hr => ?_
  have hu := hr.units
  have hv := hu181 hr
  exact (sb_cons (ss_set (i := 3) nd rfl (Or.inl rfl) (se_str (cs := []) (by decide +kernel)))
    (sb_cons (ss_for PassesOwn.never rfl (si_range1 b_range rfl (sa_cons (se_call (fs := [true, false]) ok_law_next fnS_len (hr.mono (by decide)) mg_law_next kp_law_next bi_law_next rfl (sa_cons (se_var (pv 0)) (sa_cons (se_b oAdd (se_var (pv 2)) se_int) sa_nil))) sa_nil)) (sg_name (i := 4) nd rfl (Or.inl rfl)) (sb_cons (ss_set (i := 5) nd rfl (Or.inl rfl) (se_ix (se_var (pv 1)) (se_call (fs := [true, false]) ok_law_next fnS_len (hr.mono (by decide)) mg_law_next kp_law_next bi_law_next rfl (sa_cons (se_var (pv 0)) (sa_cons (se_len b_len rfl (sa_cons (se_var (pv 1)) sa_nil)) sa_nil))) (fun _ _ => rfl)))
    (sb_one (ss_set (i := 3) nd rfl (Or.inl rfl) (se_add (se_var (pv 3)) (se_ix (se_var (pv 5)) (se_call (fs := [true, false]) ok_law_next fnS_len (hr.mono (by decide)) mg_law_next kp_law_next bi_law_next rfl (sa_cons (se_var (pv 0)) (sa_cons (se_len b_len rfl (sa_cons (se_var (pv 5)) sa_nil)) sa_nil))) (fun _ _ => rfl)))))))
    (sb_one (ss_ret (se_var (pv 3))))))
theorem ok_law {f : Addr} {fd : FuncData} (F : FunG K "law" "law" st_law f fd) (b_bool : mg "bool" = none) (b_isinstance : mg "isinstance" = none) (b_len : mg "len" = none) (b_range : mg "range" = none) {C_Machine : Addr} (hC_Machine : ClsN K "Machine" C_Machine) (cl_Machine : Cls K C_Machine) (ic_Machine : IsiC K C_Machine) (qc_Machine : EqC K C_Machine) {a_Machine_accepts : Addr} {d_Machine_accepts : FuncData} (ok_Machine_accepts : FnOk P w K mg base CX0 3 a_Machine_accepts d_Machine_accepts P_Machine_accepts (spF ⟨K, w⟩ 2 f_Machine_accepts)) (at_Machine_accepts : PySem.W.findIn K (.ref C_Machine) "accepts" = some (some (.ref a_Machine_accepts))) (fn_Machine_accepts : PySem.W.isFn K (.ref a_Machine_accepts) = true) (kp_Machine_accepts : PySem.W.keepIn K (.ref a_Machine_accepts) = true) (bi_Machine_accepts : Binds K d_Machine_accepts P_Machine_accepts []) {a_Machine_eq : Addr} {d_Machine_eq : FuncData} (ok_Machine_eq : FnOk P w K mg base CX0 1 a_Machine_eq d_Machine_eq P_Machine_eq (spF ⟨K, w⟩ 2 f_Machine_eq)) (at_Machine_eq : PySem.W.findIn K (.ref C_Machine) "__eq__" = some (some (.ref a_Machine_eq))) (fn_Machine_eq : PySem.W.isFn K (.ref a_Machine_eq) = true) (kp_Machine_eq : PySem.W.keepIn K (.ref a_Machine_eq) = true) (bi_Machine_eq : Binds K d_Machine_eq P_Machine_eq []) {a_Machine_len : Addr} {d_Machine_len : FuncData} (ok_Machine_len : FnOk P w K mg base CX0 1 a_Machine_len d_Machine_len P_Machine_len (spF ⟨K, w⟩ 1 f_Machine_len)) (at_Machine_len : PySem.W.findIn K (.ref C_Machine) "__len__" = some (some (.ref a_Machine_len))) (fn_Machine_len : PySem.W.isFn K (.ref a_Machine_len) = true) (kp_Machine_len : PySem.W.keepIn K (.ref a_Machine_len) = true) (bi_Machine_len : Binds K d_Machine_len P_Machine_len []) {a_Machine_state_after : Addr} {d_Machine_state_after : FuncData} (ok_Machine_state_after : FnOk P w K mg base CX0 2 a_Machine_state_after d_Machine_state_after P_Machine_state_after (spF ⟨K, w⟩ 2 f_Machine_state_after)) (at_Machine_state_after : PySem.W.findIn K (.ref C_Machine) "state_after" = some (some (.ref a_Machine_state_after))) (fn_Machine_state_after : PySem.W.isFn K (.ref a_Machine_state_after) = true) (kp_Machine_state_after : PySem.W.keepIn K (.ref a_Machine_state_after) = true) (bi_Machine_state_after : Binds K d_Machine_state_after P_Machine_state_after []) {a_law_chain : Addr} {d_law_chain : FuncData} (ok_law_chain : FnOk P w K mg base CX0 3 a_law_chain d_law_chain P_law_chain (spF ⟨K, w⟩ 2 f_law_chain)) (mg_law_chain : mg "_law_chain" = some (.ref a_law_chain)) (kp_law_chain : PySem.W.keepIn K (.ref a_law_chain) = true) (bi_law_chain : Binds K d_law_chain P_law_chain []) {a_law_changed : Addr} {d_law_changed : FuncData} (ok_law_changed : FnOk P w K mg base CX0 2 a_law_changed d_law_changed P_law_changed (spF ⟨K, w⟩ 2 f_law_changed)) (mg_law_changed : mg "_law_changed" = some (.ref a_law_changed)) (kp_law_changed : PySem.W.keepIn K (.ref a_law_changed) = true) (bi_law_changed : Binds K d_law_changed P_law_changed []) {a_law_draw : Addr} {d_law_draw : FuncData} (ok_law_draw : FnOk P w K mg base CX0 1 a_law_draw d_law_draw P_law_draw (spF ⟨K, w⟩ 1 f_law_draw)) (mg_law_draw : mg "_law_draw" = some (.ref a_law_draw)) (kp_law_draw : PySem.W.keepIn K (.ref a_law_draw) = true) (bi_law_draw : Binds K d_law_draw P_law_draw []) {a_law_fine : Addr} {d_law_fine : FuncData} (ok_law_fine : FnOk P w K mg base CX0 2 a_law_fine d_law_fine P_law_fine (spF ⟨K, w⟩ 2 f_law_fine)) (mg_law_fine : mg "_law_fine" = some (.ref a_law_fine)) (kp_law_fine : PySem.W.keepIn K (.ref a_law_fine) = true) (bi_law_fine : Binds K d_law_fine P_law_fine []) {a_law_from : Addr} {d_law_from : FuncData} (ok_law_from : FnOk P w K mg base CX0 2 a_law_from d_law_from P_law_from (spF ⟨K, w⟩ 3 f_law_from)) (mg_law_from : mg "_law_from" = some (.ref a_law_from)) (kp_law_from : PySem.W.keepIn K (.ref a_law_from) = true) (bi_law_from : Binds K d_law_from P_law_from []) {a_law_int : Addr} {d_law_int : FuncData} (ok_law_int : FnOk P w K mg base CX0 1 a_law_int d_law_int P_law_int (spF ⟨K, w⟩ 1 f_law_int)) (mg_law_int : mg "_law_int" = some (.ref a_law_int)) (kp_law_int : PySem.W.keepIn K (.ref a_law_int) = true) (bi_law_int : Binds K d_law_int P_law_int []) {a_law_kept : Addr} {d_law_kept : FuncData} (ok_law_kept : FnOk P w K mg base CX0 1 a_law_kept d_law_kept P_law_kept (spF ⟨K, w⟩ 2 f_law_kept)) (mg_law_kept : mg "_law_kept" = some (.ref a_law_kept)) (kp_law_kept : PySem.W.keepIn K (.ref a_law_kept) = true) (bi_law_kept : Binds K d_law_kept P_law_kept []) {a_law_letters : Addr} {d_law_letters : FuncData} (ok_law_letters : FnOk P w K mg base CX0 2 a_law_letters d_law_letters P_law_letters (spF ⟨K, w⟩ 1 f_law_letters)) (mg_law_letters : mg "_law_letters" = some (.ref a_law_letters)) (kp_law_letters : PySem.W.keepIn K (.ref a_law_letters) = true) (bi_law_letters : Binds K d_law_letters P_law_letters []) {a_law_long : Addr} {d_law_long : FuncData} (ok_law_long : FnOk P w K mg base CX0 2 a_law_long d_law_long P_law_long (spF ⟨K, w⟩ 3 f_law_long)) (mg_law_long : mg "_law_long" = some (.ref a_law_long)) (kp_law_long : PySem.W.keepIn K (.ref a_law_long) = true) (bi_law_long : Binds K d_law_long P_law_long []) {a_law_machine : Addr} {d_law_machine : FuncData} (ok_law_machine : FnOk P w K mg base CX0 3 a_law_machine d_law_machine P_law_machine (spF ⟨K, w⟩ 3 f_law_machine)) (mg_law_machine : mg "_law_machine" = some (.ref a_law_machine)) (kp_law_machine : PySem.W.keepIn K (.ref a_law_machine) = true) (bi_law_machine : Binds K d_law_machine P_law_machine []) {a_law_made : Addr} {d_law_made : FuncData} (ok_law_made : FnOk P w K mg base CX0 3 a_law_made d_law_made P_law_made (spF ⟨K, w⟩ 1 f_law_made)) (mg_law_made : mg "_law_made" = some (.ref a_law_made)) (kp_law_made : PySem.W.keepIn K (.ref a_law_made) = true) (bi_law_made : Binds K d_law_made P_law_made []) {a_law_next : Addr} {d_law_next : FuncData} (ok_law_next : FnOk P w K mg base CX0 1 a_law_next d_law_next P_law_next (spF ⟨K, w⟩ 2 f_law_next)) (mg_law_next : mg "_law_next" = some (.ref a_law_next)) (kp_law_next : PySem.W.keepIn K (.ref a_law_next) = true) (bi_law_next : Binds K d_law_next P_law_next []) {a_law_over : Addr} {d_law_over : FuncData} (ok_law_over : FnOk P w K mg base CX0 2 a_law_over d_law_over P_law_over (spF ⟨K, w⟩ 3 f_law_over)) (mg_law_over : mg "_law_over" = some (.ref a_law_over)) (kp_law_over : PySem.W.keepIn K (.ref a_law_over) = true) (bi_law_over : Binds K d_law_over P_law_over []) :
    FnOk P w K mg base CX0 4 f fd P_law (spF ⟨K, w⟩ 1 f_law) := by
  have nd := sc_law.nd
  refine fn_ok F sc_law rfl rfl (by decide) fun cdv A outer s H E hr => ?_
  have hu := hr.units
  have hv := hu181 hr
  exact (sb_cons (ss_set (i := 1) nd rfl (Or.inr rfl) (se_call (fs := []) ok_law_draw fnS_len (hr.mono (by decide)) mg_law_draw kp_law_draw bi_law_draw rfl (sa_cons (se_var (pv 0)) sa_nil)))
    (sb_cons (ss_set (i := 2) nd rfl (Or.inl rfl) (se_call (fs := [true]) ok_law_letters fnS_len (hr.mono (by decide)) mg_law_letters kp_law_letters bi_law_letters rfl (sa_cons (se_var (pv 1)) sa_nil)))
    (sb_cons (ss_set (i := 3) nd rfl (Or.inr rfl) (se_lst (sa_cons (se_call (fs := [true, false, false]) ok_law_machine fnS_len (hr.mono (by decide)) mg_law_machine kp_law_machine bi_law_machine rfl (sa_cons (se_var (pv 1)) (sa_cons (se_var (pv 2)) (sa_cons se_int sa_nil)))) (sa_cons (se_call (fs := [true, false, false]) ok_law_machine fnS_len (hr.mono (by decide)) mg_law_machine kp_law_machine bi_law_machine rfl (sa_cons (se_var (pv 1)) (sa_cons (se_var (pv 2)) (sa_cons se_int sa_nil)))) sa_nil))))
    (sb_cons (ss_if (st_c (Op2.or (oEq hv) (oOwnEq hC_Machine cl_Machine ic_Machine qc_Machine at_Machine_eq fn_Machine_eq hu ok_Machine_eq (hr.mono (by decide)) bi_Machine_eq )) (se_call (fs := [true, false]) ok_law_next fnS_len (hr.mono (by decide)) mg_law_next kp_law_next bi_law_next rfl (sa_cons (se_var (pv 1)) (sa_cons se_int sa_nil))) se_int (nomark _)) (sb_one (ss_seti (i := 3) (pv 3) se_int (se_call (fs := [true, false]) ok_law_chain fnS_len (hr.mono (by decide)) mg_law_chain kp_law_chain bi_law_chain rfl (sa_cons (se_var (pv 1)) (sa_cons (se_var (pv 2)) sa_nil))))) sb_nil)
    (sb_cons (ss_if (st_c (Op2.or (oEq hv) (oOwnEq hC_Machine cl_Machine ic_Machine qc_Machine at_Machine_eq fn_Machine_eq hu ok_Machine_eq (hr.mono (by decide)) bi_Machine_eq )) (se_call (fs := [true, false]) ok_law_next fnS_len (hr.mono (by decide)) mg_law_next kp_law_next bi_law_next rfl (sa_cons (se_var (pv 1)) (sa_cons se_int sa_nil))) se_int (nomark _)) (sb_one (ss_seti (i := 3) (pv 3) se_int (se_call (fs := [true, false]) ok_law_fine fnS_len (hr.mono (by decide)) mg_law_fine kp_law_fine bi_law_fine rfl (sa_cons (se_var (pv 1)) (sa_cons se_int sa_nil))))) sb_nil)
    (sb_cons (ss_setlc (i := 4) (own := [("_law_machine_here", 9)]) rfl nd rfl rfl (sw_true rfl rfl rfl (by decide +kernel)) (si_seq (se_var (pv 3))) (blkOk_by (own := [("_law_machine_here", 9)]) (N := N_law) (sc := defScope st_law) (by decide +kernel)) (by decide) (gok_name 9) (fun _ _ _ _ _ => (sg_name (i := 9) nd rfl (Or.inl rfl))) (fun _ _ _ _ _ => sts_nil) (fun _ _ _ _ _ => (se_call (fs := []) ok_law_made fnS_len (hr.mono (by decide)) mg_law_made kp_law_made bi_law_made rfl (sa_cons (se_var (pv 9)) sa_nil))))
    (sb_cons (ss_set (i := 5) nd rfl (Or.inl rfl) (se_add (se_add (se_lst (sa_cons (se_str (cs := []) (by decide +kernel)) sa_nil)) (se_lc (own := [("_law_k", 7)]) rfl nd (si_range1 b_range rfl (sa_cons se_int sa_nil)) (blkOk_by (own := [("_law_k", 7)]) (N := N_law) (sc := defScope st_law) (by decide +kernel)) (by decide) (gok_name 7) (fun _ _ _ _ _ => (sg_name (i := 7) nd rfl (Or.inl rfl))) (fun _ _ _ _ _ => sts_nil) (fun _ _ _ _ _ => (se_call (fs := [true, false, false]) ok_law_over fnS_len (hr.mono (by decide)) mg_law_over kp_law_over bi_law_over rfl (sa_cons (se_var (pv 1)) (sa_cons (se_ix (se_ix (se_var (pv 3)) se_int (fun _ _ => rfl)) se_int (fun _ _ => rfl)) (sa_cons se_int sa_nil))))))) (se_lst (sa_cons (se_call (fs := [true, false, false]) ok_law_over fnS_len (hr.mono (by decide)) mg_law_over kp_law_over bi_law_over rfl (sa_cons (se_var (pv 1)) (sa_cons (se_ix (se_ix (se_var (pv 3)) se_int (fun _ _ => rfl)) se_int (fun _ _ => rfl)) (sa_cons se_int sa_nil)))) sa_nil))))
    (sb_cons (ss_if (st_c (Op2.or (oEq hv) (oOwnEq hC_Machine cl_Machine ic_Machine qc_Machine at_Machine_eq fn_Machine_eq hu ok_Machine_eq (hr.mono (by decide)) bi_Machine_eq )) (se_call (fs := [true, false]) ok_law_next fnS_len (hr.mono (by decide)) mg_law_next kp_law_next bi_law_next rfl (sa_cons (se_var (pv 1)) (sa_cons se_int sa_nil))) se_int (nomark _)) (sb_one (ss_app (i := 5) (pv 5) (se_call (fs := [true, false, false]) ok_law_long fnS_len (hr.mono (by decide)) mg_law_long kp_law_long bi_law_long rfl (sa_cons (se_var (pv 1)) (sa_cons (se_ix (se_ix (se_var (pv 3)) se_int (fun _ _ => rfl)) se_int (fun _ _ => rfl)) (sa_cons se_int sa_nil)))))) sb_nil)
    (sb_cons (ss_for PassesOwn.never rfl (si_seq (se_var (pv 5))) (sg_name (i := 6) nd rfl (Or.inl rfl)) (sb_one (ss_for PassesOwn.never rfl (si_range1 b_range rfl (sa_cons se_int sa_nil)) (sg_name (i := 7) nd rfl (Or.inl rfl)) (sb_cons (ss_set (i := 10) nd rfl (Or.inl rfl) (se_call (fs := []) ok_law_from fnS_len (hr.mono (by decide)) mg_law_from kp_law_from bi_law_from rfl (sa_cons (se_ix (se_var (pv 3)) (se_var (pv 7)) (fun _ _ => rfl)) (sa_cons se_int (sa_cons (se_var (pv 6)) sa_nil)))))
    (sb_cons (ss_set (i := 11) nd rfl (Or.inl rfl) (se_meth hC_Machine cl_Machine ⟨at_Machine_state_after , fn_Machine_state_after , kp_Machine_state_after ⟩ ok_Machine_state_after fnS_len (hr.mono (by decide)) bi_Machine_state_after (se_ix (se_var (pv 4)) (se_var (pv 7)) (fun _ _ => rfl)) (sa_cons (se_var (pv 6)) sa_nil)))
    (sb_cons (ss_if (st_bool (sw_or (st_not (st_val (se_call (fs := []) ok_law_int fnS_len (hr.mono (by decide)) mg_law_int kp_law_int bi_law_int rfl (sa_cons (se_var (pv 11)) sa_nil)) (by intro _; rfl))) (sw_or1 (st_c (oNe hv) (se_var (pv 11)) (se_var (pv 10)) (nomark _))))) (sb_one (ss_ret se_bl)) sb_nil)
    (sb_cons (ss_set (i := 12) nd rfl (Or.inl rfl) (se_meth hC_Machine cl_Machine ⟨at_Machine_accepts , fn_Machine_accepts , kp_Machine_accepts ⟩ ok_Machine_accepts fnS_len (hr.mono (by decide)) bi_Machine_accepts (se_ix (se_var (pv 4)) (se_var (pv 7)) (fun _ _ => rfl)) (sa_cons (se_var (pv 6)) sa_nil)))
    (sb_one (ss_if (st_bool (sw_or (st_not (st_val (se_isi b_isinstance rfl b_bool rfl (by decide +kernel) (se_var (pv 12))) (by intro _; rfl))) (sw_or1 (st_c (oNe hv) (se_var (pv 12)) (se_ix (se_ix (se_ix (se_var (pv 3)) (se_var (pv 7)) (fun _ _ => rfl)) se_int (fun _ _ => rfl)) (se_var (pv 10)) (fun _ _ => rfl)) (nomark _))))) (sb_one (ss_ret se_bl)) sb_nil)))))))))
    (sb_cons (ss_for PassesOwn.never rfl (si_range1 b_range rfl (sa_cons se_int sa_nil)) (sg_name (i := 7) nd rfl (Or.inl rfl)) (sb_cons (ss_if (st_bool (sw_or (st_c (oNe hv) (se_lenO hC_Machine at_Machine_len fn_Machine_len ok_Machine_len (hr.mono (by decide)) bi_Machine_len b_len rfl (sa_cons (se_ix (se_var (pv 4)) (se_var (pv 7)) (fun _ _ => rfl)) sa_nil)) (se_lenO hC_Machine at_Machine_len fn_Machine_len ok_Machine_len (hr.mono (by decide)) bi_Machine_len b_len rfl (sa_cons (se_ix (se_ix (se_var (pv 3)) (se_var (pv 7)) (fun _ _ => rfl)) se_int (fun _ _ => rfl)) sa_nil)) (nomark _)) (sw_or1 (st_not (st_val (se_call (fs := []) ok_law_kept fnS_len (hr.mono (by decide)) mg_law_kept kp_law_kept bi_law_kept rfl (sa_cons (se_ix (se_var (pv 4)) (se_var (pv 7)) (fun _ _ => rfl)) (sa_cons (se_ix (se_var (pv 3)) (se_var (pv 7)) (fun _ _ => rfl)) sa_nil))) (by intro _; rfl)))))) (sb_one (ss_ret se_bl)) sb_nil)
    (sb_cons (ss_if (st_bool (sw_or (st_c oNt (se_c (Op2.or (oEq hv) (oOwnEq hC_Machine cl_Machine ic_Machine qc_Machine at_Machine_eq fn_Machine_eq hu ok_Machine_eq (hr.mono (by decide)) bi_Machine_eq )) (se_ix (se_var (pv 4)) (se_var (pv 7)) (fun _ _ => rfl)) (se_call (fs := []) ok_law_made fnS_len (hr.mono (by decide)) mg_law_made kp_law_made bi_law_made rfl (sa_cons (se_ix (se_var (pv 3)) (se_var (pv 7)) (fun _ _ => rfl)) sa_nil)) (nomark _)) se_bl (nomark _)) (sw_or1 (st_c oNt (se_c (Op2.or (oEq hv) (oOwnEq hC_Machine cl_Machine ic_Machine qc_Machine at_Machine_eq fn_Machine_eq hu ok_Machine_eq (hr.mono (by decide)) bi_Machine_eq )) (se_ix (se_var (pv 4)) (se_var (pv 7)) (fun _ _ => rfl)) (se_ix (se_var (pv 3)) (se_var (pv 7)) (fun _ _ => rfl)) (nomark _)) se_bl (nomark _))))) (sb_one (ss_ret se_bl)) sb_nil)
    (sb_one (ss_for PassesOwn.never rfl (si_seq (se_call (fs := [true, false]) ok_law_changed fnS_len (hr.mono (by decide)) mg_law_changed kp_law_changed bi_law_changed rfl (sa_cons (se_var (pv 1)) (sa_cons (se_ix (se_var (pv 3)) (se_var (pv 7)) (fun _ _ => rfl)) sa_nil)))) (sg_name (i := 8) nd rfl (Or.inl rfl)) (sb_one (ss_if (st_bool (sw_or (st_c oNt (se_c (Op2.or (oEq hv) (oOwnEq hC_Machine cl_Machine ic_Machine qc_Machine at_Machine_eq fn_Machine_eq hu ok_Machine_eq (hr.mono (by decide)) bi_Machine_eq )) (se_ix (se_var (pv 4)) (se_var (pv 7)) (fun _ _ => rfl)) (se_call (fs := []) ok_law_made fnS_len (hr.mono (by decide)) mg_law_made kp_law_made bi_law_made rfl (sa_cons (se_var (pv 8)) sa_nil)) (nomark _)) se_bl (nomark _)) (sw_or1 (st_c oNt (se_c (Op2.or (oEq hv) (oOwnEq hC_Machine cl_Machine ic_Machine qc_Machine at_Machine_eq fn_Machine_eq hu ok_Machine_eq (hr.mono (by decide)) bi_Machine_eq )) (se_call (fs := []) ok_law_made fnS_len (hr.mono (by decide)) mg_law_made kp_law_made bi_law_made rfl (sa_cons (se_var (pv 8)) sa_nil)) (se_ix (se_var (pv 4)) (se_var (pv 7)) (fun _ _ => rfl)) (nomark _)) se_bl (nomark _))))) (sb_one (ss_ret se_bl)) sb_nil)))))))
    (sb_one (ss_ret se_bl))))))))))))
end
end K55
namespace K55
open PySem PySem.Spec PyProof.Rows L2 Sw
theorem all_mk {l : PySem.W.OpenLaw} {w : World} {K : PySem.W.Frag} {h : Heap} {mg : Str → Option Value} {fa : Addr} (X : K.In h) (G : h.Ns mainGlobals mg) (hfa : mg "law" = some (.ref fa))
    {C_Machine : Addr} (aC_Machine : PySem.W.nsIn K mainGlobals "Machine" = some (some (.ref C_Machine)))
    (pg_Machine : PySem.W.plainGet K C_Machine PySem.Str.empty = true) (hd_Machine : PySem.W.hasDictIn K C_Machine = true) (po_Machine : PySem.W.plainOver K C_Machine = true) (sa_Machine : PySem.W.findIn K (.ref C_Machine) "__setattr__" = some (some (.builtin "object.__setattr__"))) (mk_Machine : PySem.W.makesIn K C_Machine = true) (kc_Machine : PySem.W.keepIn K (.ref C_Machine) = true)
    (na_Machine_cells : PySem.W.findIn K (.ref C_Machine) "cells" = some none)
    (na_Machine_rows : PySem.W.findIn K (.ref C_Machine) "rows" = some none)
    (na_Machine_accepting : PySem.W.findIn K (.ref C_Machine) "accepting" = some none)
    (ic0_Machine : PySem.W.findIn K (.ref C_Machine) "__class__" = some (some (.builtin "object.__class__"))) (ic1_Machine : PySem.W.specialIn K (.builtin "object.__class__") "__get__" = some (some (.builtin "getset_descriptor.__get__"))) (ic2_Machine : PySem.W.takesIn K (.builtin "object.__class__") = some true) (ic3_Machine : PySem.W.mroIn K C_Machine (.type "object") = some true)
    (ic4_Machine : PySem.W.kitOne K (.type "NoneType") (.ref C_Machine) = some false)
    (ic5_Machine : PySem.W.kitOne K (.type "bool") (.ref C_Machine) = some false)
    (ic6_Machine : PySem.W.kitOne K (.type "int") (.ref C_Machine) = some false)
    (ic7_Machine : PySem.W.kitOne K (.type "str") (.ref C_Machine) = some false)
    (ic8_Machine : PySem.W.kitOne K (.type "list") (.ref C_Machine) = some false)
    (ic9_Machine : PySem.W.kitOne K (.type "tuple") (.ref C_Machine) = some false)
    (qc0_Machine : PySem.W.notFirst K C_Machine (.type "NoneType") = true)
    (qc1_Machine : PySem.W.notFirst K C_Machine (.type "bool") = true)
    (qc2_Machine : PySem.W.notFirst K C_Machine (.type "int") = true)
    (qc3_Machine : PySem.W.notFirst K C_Machine (.type "str") = true)
    (qc4_Machine : PySem.W.notFirst K C_Machine (.type "tuple") = true)
    {f0 : Addr} {od0 an0 : Option Addr} {sl0 : Array (Option Value)} {oc0 kV0 dc0 pm0 cd0 ct0 : Value}
    (a0 : PySem.W.nsIn K mainGlobals "cell_of" = some (some (.ref f0))) (l0 : K.lookup f0 = some ⟨oc0, od0, .func (PySem.W.fnOf "cell_of" "cell_of" (defArgs st_cell_of) (defBody st_cell_of) (defScope st_cell_of) .none kV0 dc0 pm0 an0 cd0 ct0), sl0⟩) (c0 : PySem.W.codeIn K cd0 "cell_of" = true) (k0 : PySem.W.keepIn K (.ref f0) = true)
    {f1 : Addr} {od1 an1 : Option Addr} {sl1 : Array (Option Value)} {oc1 kV1 dc1 pm1 cd1 ct1 : Value}
    (a1 : PySem.W.findIn K (.ref C_Machine) "state_after" = some (some (.ref f1))) (i1 : PySem.W.isFn K (.ref f1) = true) (l1 : K.lookup f1 = some ⟨oc1, od1, .func (PySem.W.fnOf "state_after" "Machine.state_after" (defArgs st_Machine_state_after) (defBody st_Machine_state_after) (defScope st_Machine_state_after) .none kV1 dc1 pm1 an1 cd1 ct1), sl1⟩) (c1 : PySem.W.codeIn K cd1 "Machine.state_after" = true) (k1 : PySem.W.keepIn K (.ref f1) = true)
    {f2 : Addr} {od2 an2 : Option Addr} {sl2 : Array (Option Value)} {oc2 kV2 dc2 pm2 cd2 ct2 : Value}
    (a2 : PySem.W.findIn K (.ref C_Machine) "accepts" = some (some (.ref f2))) (i2 : PySem.W.isFn K (.ref f2) = true) (l2 : K.lookup f2 = some ⟨oc2, od2, .func (PySem.W.fnOf "accepts" "Machine.accepts" (defArgs st_Machine_accepts) (defBody st_Machine_accepts) (defScope st_Machine_accepts) .none kV2 dc2 pm2 an2 cd2 ct2), sl2⟩) (c2 : PySem.W.codeIn K cd2 "Machine.accepts" = true) (k2 : PySem.W.keepIn K (.ref f2) = true)
    {f3 : Addr} {od3 an3 : Option Addr} {sl3 : Array (Option Value)} {oc3 kV3 dc3 pm3 cd3 ct3 : Value}
    (a3 : PySem.W.findIn K (.ref C_Machine) "__eq__" = some (some (.ref f3))) (i3 : PySem.W.isFn K (.ref f3) = true) (l3 : K.lookup f3 = some ⟨oc3, od3, .func (PySem.W.fnOf "__eq__" "Machine.__eq__" (defArgs st_Machine_eq) (defBody st_Machine_eq) (defScope st_Machine_eq) .none kV3 dc3 pm3 an3 cd3 ct3), sl3⟩) (c3 : PySem.W.codeIn K cd3 "Machine.__eq__" = true) (k3 : PySem.W.keepIn K (.ref f3) = true)
    {f4 : Addr} {od4 an4 : Option Addr} {sl4 : Array (Option Value)} {oc4 kV4 dc4 pm4 cd4 ct4 : Value}
    (a4 : PySem.W.findIn K (.ref C_Machine) "__len__" = some (some (.ref f4))) (i4 : PySem.W.isFn K (.ref f4) = true) (l4 : K.lookup f4 = some ⟨oc4, od4, .func (PySem.W.fnOf "__len__" "Machine.__len__" (defArgs st_Machine_len) (defBody st_Machine_len) (defScope st_Machine_len) .none kV4 dc4 pm4 an4 cd4 ct4), sl4⟩) (c4 : PySem.W.codeIn K cd4 "Machine.__len__" = true) (k4 : PySem.W.keepIn K (.ref f4) = true)
    {f5 : Addr} {od5 an5 : Option Addr} {sl5 : Array (Option Value)} {oc5 kV5 dc5 pm5 cd5 ct5 : Value}
    (a5 : PySem.W.nsIn K mainGlobals "_law_next" = some (some (.ref f5))) (l5 : K.lookup f5 = some ⟨oc5, od5, .func (PySem.W.fnOf "_law_next" "_law_next" (defArgs st_law_next) (defBody st_law_next) (defScope st_law_next) .none kV5 dc5 pm5 an5 cd5 ct5), sl5⟩) (c5 : PySem.W.codeIn K cd5 "_law_next" = true) (k5 : PySem.W.keepIn K (.ref f5) = true)
    {f6 : Addr} {od6 an6 : Option Addr} {sl6 : Array (Option Value)} {oc6 kV6 dc6 pm6 cd6 ct6 : Value}
    (a6 : PySem.W.nsIn K mainGlobals "_law_signs" = some (some (.ref f6))) (l6 : K.lookup f6 = some ⟨oc6, od6, .func (PySem.W.fnOf "_law_signs" "_law_signs" (defArgs st_law_signs) (defBody st_law_signs) (defScope st_law_signs) .none kV6 dc6 pm6 an6 cd6 ct6), sl6⟩) (c6 : PySem.W.codeIn K cd6 "_law_signs" = true) (k6 : PySem.W.keepIn K (.ref f6) = true)
    {f7 : Addr} {od7 an7 : Option Addr} {sl7 : Array (Option Value)} {oc7 kV7 dc7 pm7 cd7 ct7 : Value}
    (a7 : PySem.W.nsIn K mainGlobals "_law_division" = some (some (.ref f7))) (l7 : K.lookup f7 = some ⟨oc7, od7, .func (PySem.W.fnOf "_law_division" "_law_division" (defArgs st_law_division) (defBody st_law_division) (defScope st_law_division) .none kV7 dc7 pm7 an7 cd7 ct7), sl7⟩) (c7 : PySem.W.codeIn K cd7 "_law_division" = true) (k7 : PySem.W.keepIn K (.ref f7) = true)
    {f8 : Addr} {od8 an8 : Option Addr} {sl8 : Array (Option Value)} {oc8 kV8 dc8 pm8 cd8 ct8 : Value}
    (a8 : PySem.W.nsIn K mainGlobals "_law_chain" = some (some (.ref f8))) (l8 : K.lookup f8 = some ⟨oc8, od8, .func (PySem.W.fnOf "_law_chain" "_law_chain" (defArgs st_law_chain) (defBody st_law_chain) (defScope st_law_chain) .none kV8 dc8 pm8 an8 cd8 ct8), sl8⟩) (c8 : PySem.W.codeIn K cd8 "_law_chain" = true) (k8 : PySem.W.keepIn K (.ref f8) = true)
    {f9 : Addr} {od9 an9 : Option Addr} {sl9 : Array (Option Value)} {oc9 kV9 dc9 pm9 cd9 ct9 : Value}
    (a9 : PySem.W.nsIn K mainGlobals "_law_changed" = some (some (.ref f9))) (l9 : K.lookup f9 = some ⟨oc9, od9, .func (PySem.W.fnOf "_law_changed" "_law_changed" (defArgs st_law_changed) (defBody st_law_changed) (defScope st_law_changed) .none kV9 dc9 pm9 an9 cd9 ct9), sl9⟩) (c9 : PySem.W.codeIn K cd9 "_law_changed" = true) (k9 : PySem.W.keepIn K (.ref f9) = true)
    {f10 : Addr} {od10 an10 : Option Addr} {sl10 : Array (Option Value)} {oc10 kV10 dc10 pm10 cd10 ct10 : Value}
    (a10 : PySem.W.nsIn K mainGlobals "_law_draw" = some (some (.ref f10))) (l10 : K.lookup f10 = some ⟨oc10, od10, .func (PySem.W.fnOf "_law_draw" "_law_draw" (defArgs st_law_draw) (defBody st_law_draw) (defScope st_law_draw) .none kV10 dc10 pm10 an10 cd10 ct10), sl10⟩) (c10 : PySem.W.codeIn K cd10 "_law_draw" = true) (k10 : PySem.W.keepIn K (.ref f10) = true)
    {f11 : Addr} {od11 an11 : Option Addr} {sl11 : Array (Option Value)} {oc11 kV11 dc11 pm11 cd11 ct11 : Value}
    (a11 : PySem.W.nsIn K mainGlobals "_law_fine" = some (some (.ref f11))) (l11 : K.lookup f11 = some ⟨oc11, od11, .func (PySem.W.fnOf "_law_fine" "_law_fine" (defArgs st_law_fine) (defBody st_law_fine) (defScope st_law_fine) .none kV11 dc11 pm11 an11 cd11 ct11), sl11⟩) (c11 : PySem.W.codeIn K cd11 "_law_fine" = true) (k11 : PySem.W.keepIn K (.ref f11) = true)
    {f12 : Addr} {od12 an12 : Option Addr} {sl12 : Array (Option Value)} {oc12 kV12 dc12 pm12 cd12 ct12 : Value}
    (a12 : PySem.W.nsIn K mainGlobals "_law_cell" = some (some (.ref f12))) (l12 : K.lookup f12 = some ⟨oc12, od12, .func (PySem.W.fnOf "_law_cell" "_law_cell" (defArgs st_law_cell) (defBody st_law_cell) (defScope st_law_cell) .none kV12 dc12 pm12 an12 cd12 ct12), sl12⟩) (c12 : PySem.W.codeIn K cd12 "_law_cell" = true) (k12 : PySem.W.keepIn K (.ref f12) = true)
    {f13 : Addr} {od13 an13 : Option Addr} {sl13 : Array (Option Value)} {oc13 kV13 dc13 pm13 cd13 ct13 : Value}
    (a13 : PySem.W.nsIn K mainGlobals "_law_from" = some (some (.ref f13))) (l13 : K.lookup f13 = some ⟨oc13, od13, .func (PySem.W.fnOf "_law_from" "_law_from" (defArgs st_law_from) (defBody st_law_from) (defScope st_law_from) .none kV13 dc13 pm13 an13 cd13 ct13), sl13⟩) (c13 : PySem.W.codeIn K cd13 "_law_from" = true) (k13 : PySem.W.keepIn K (.ref f13) = true)
    {f14 : Addr} {od14 an14 : Option Addr} {sl14 : Array (Option Value)} {oc14 kV14 dc14 pm14 cd14 ct14 : Value}
    (a14 : PySem.W.nsIn K mainGlobals "_law_int" = some (some (.ref f14))) (l14 : K.lookup f14 = some ⟨oc14, od14, .func (PySem.W.fnOf "_law_int" "_law_int" (defArgs st_law_int) (defBody st_law_int) (defScope st_law_int) .none kV14 dc14 pm14 an14 cd14 ct14), sl14⟩) (c14 : PySem.W.codeIn K cd14 "_law_int" = true) (k14 : PySem.W.keepIn K (.ref f14) = true)
    {f15 : Addr} {od15 an15 : Option Addr} {sl15 : Array (Option Value)} {oc15 kV15 dc15 pm15 cd15 ct15 : Value}
    (a15 : PySem.W.nsIn K mainGlobals "_law_kept" = some (some (.ref f15))) (l15 : K.lookup f15 = some ⟨oc15, od15, .func (PySem.W.fnOf "_law_kept" "_law_kept" (defArgs st_law_kept) (defBody st_law_kept) (defScope st_law_kept) .none kV15 dc15 pm15 an15 cd15 ct15), sl15⟩) (c15 : PySem.W.codeIn K cd15 "_law_kept" = true) (k15 : PySem.W.keepIn K (.ref f15) = true)
    {f16 : Addr} {od16 an16 : Option Addr} {sl16 : Array (Option Value)} {oc16 kV16 dc16 pm16 cd16 ct16 : Value}
    (a16 : PySem.W.nsIn K mainGlobals "_law_letters" = some (some (.ref f16))) (l16 : K.lookup f16 = some ⟨oc16, od16, .func (PySem.W.fnOf "_law_letters" "_law_letters" (defArgs st_law_letters) (defBody st_law_letters) (defScope st_law_letters) .none kV16 dc16 pm16 an16 cd16 ct16), sl16⟩) (c16 : PySem.W.codeIn K cd16 "_law_letters" = true) (k16 : PySem.W.keepIn K (.ref f16) = true)
    {f17 : Addr} {od17 an17 : Option Addr} {sl17 : Array (Option Value)} {oc17 kV17 dc17 pm17 cd17 ct17 : Value}
    (a17 : PySem.W.nsIn K mainGlobals "_law_long" = some (some (.ref f17))) (l17 : K.lookup f17 = some ⟨oc17, od17, .func (PySem.W.fnOf "_law_long" "_law_long" (defArgs st_law_long) (defBody st_law_long) (defScope st_law_long) .none kV17 dc17 pm17 an17 cd17 ct17), sl17⟩) (c17 : PySem.W.codeIn K cd17 "_law_long" = true) (k17 : PySem.W.keepIn K (.ref f17) = true)
    {f18 : Addr} {od18 an18 : Option Addr} {sl18 : Array (Option Value)} {oc18 kV18 dc18 pm18 cd18 ct18 : Value}
    (a18 : PySem.W.nsIn K mainGlobals "_law_machine" = some (some (.ref f18))) (l18 : K.lookup f18 = some ⟨oc18, od18, .func (PySem.W.fnOf "_law_machine" "_law_machine" (defArgs st_law_machine) (defBody st_law_machine) (defScope st_law_machine) .none kV18 dc18 pm18 an18 cd18 ct18), sl18⟩) (c18 : PySem.W.codeIn K cd18 "_law_machine" = true) (k18 : PySem.W.keepIn K (.ref f18) = true)
    {f19 : Addr} {od19 an19 : Option Addr} {sl19 : Array (Option Value)} {oc19 kV19 dc19 pm19 cd19 ct19 : Value}
    (a19 : PySem.W.findIn K (.ref C_Machine) "__init__" = some (some (.ref f19))) (i19 : PySem.W.isFn K (.ref f19) = true) (l19 : K.lookup f19 = some ⟨oc19, od19, .func (PySem.W.fnOf "__init__" "Machine.__init__" (defArgs st_init_Machine) (defBody st_init_Machine) (defScope st_init_Machine) .none kV19 dc19 pm19 an19 cd19 ct19), sl19⟩) (c19 : PySem.W.codeIn K cd19 "Machine.__init__" = true) (k19 : PySem.W.keepIn K (.ref f19) = true)
    {f20 : Addr} {od20 an20 : Option Addr} {sl20 : Array (Option Value)} {oc20 kV20 dc20 pm20 cd20 ct20 : Value}
    (a20 : PySem.W.nsIn K mainGlobals "_law_made" = some (some (.ref f20))) (l20 : K.lookup f20 = some ⟨oc20, od20, .func (PySem.W.fnOf "_law_made" "_law_made" (defArgs st_law_made) (defBody st_law_made) (defScope st_law_made) .none kV20 dc20 pm20 an20 cd20 ct20), sl20⟩) (c20 : PySem.W.codeIn K cd20 "_law_made" = true) (k20 : PySem.W.keepIn K (.ref f20) = true)
    {f21 : Addr} {od21 an21 : Option Addr} {sl21 : Array (Option Value)} {oc21 kV21 dc21 pm21 cd21 ct21 : Value}
    (a21 : PySem.W.nsIn K mainGlobals "_law_over" = some (some (.ref f21))) (l21 : K.lookup f21 = some ⟨oc21, od21, .func (PySem.W.fnOf "_law_over" "_law_over" (defArgs st_law_over) (defBody st_law_over) (defScope st_law_over) .none kV21 dc21 pm21 an21 cd21 ct21), sl21⟩) (c21 : PySem.W.codeIn K cd21 "_law_over" = true) (k21 : PySem.W.keepIn K (.ref f21) = true)
    {f22 : Addr} {od22 an22 : Option Addr} {sl22 : Array (Option Value)} {oc22 kV22 dc22 pm22 cd22 ct22 : Value}
    (a22 : PySem.W.nsIn K mainGlobals "law" = some (some (.ref f22))) (l22 : K.lookup f22 = some ⟨oc22, od22, .func (PySem.W.fnOf "law" "law" (defArgs st_law) (defBody st_law) (defScope st_law) .none kV22 dc22 pm22 an22 cd22 ct22), sl22⟩) (c22 : PySem.W.codeIn K cd22 "law" = true) (k22 : PySem.W.keepIn K (.ref f22) = true)
    (z_bool : PySem.W.nsIn K mainGlobals "bool" = some none)
    (z_enumerate : PySem.W.nsIn K mainGlobals "enumerate" = some none)
    (z_int : PySem.W.nsIn K mainGlobals "int" = some none)
    (z_isinstance : PySem.W.nsIn K mainGlobals "isinstance" = some none)
    (z_len : PySem.W.nsIn K mainGlobals "len" = some none)
    (z_list : PySem.W.nsIn K mainGlobals "list" = some none)
    (z_min : PySem.W.nsIn K mainGlobals "min" = some none)
    (z_range : PySem.W.nsIn K mainGlobals "range" = some none)
    (z_sorted : PySem.W.nsIn K mainGlobals "sorted" = some none)
    (z_tuple : PySem.W.nsIn K mainGlobals "tuple" = some none)
    : ∃ fd : FuncData, (∀ (s : Shared) (v : Value), BindsTo s fd ⟨[v], []⟩ [("_law_script", v)]) ∧ ∀ base : Heap, K.In base → base.Ns mainGlobals mg → FnOk l.prog w K mg base CX0 4 fa fd ["_law_script"] (spL K f_law) := by
  have e := hfa.symm.trans (PySem.W.mg_of X G a22)
  cases e
  have E0 := fun_mk (st := st_cell_of) l0 c0 k0
  have F0 := fun_g E0
  have b0 := E0.binds (ps := P_cell_of) fun _ _ _ _ _ _ us hl => match us, hl with | [_, _], _ => rfl
  have E1 := fun_mk (st := st_Machine_state_after) l1 c1 k1
  have F1 := fun_g E1
  have b1 := E1.binds (ps := P_Machine_state_after) fun _ _ _ _ _ _ us hl => match us, hl with | [_, _], _ => rfl
  have E2 := fun_mk (st := st_Machine_accepts) l2 c2 k2
  have F2 := fun_g E2
  have b2 := E2.binds (ps := P_Machine_accepts) fun _ _ _ _ _ _ us hl => match us, hl with | [_, _], _ => rfl
  have E3 := fun_mk (st := st_Machine_eq) l3 c3 k3
  have F3 := fun_g E3
  have b3 := E3.binds (ps := P_Machine_eq) fun _ _ _ _ _ _ us hl => match us, hl with | [_, _], _ => rfl
  have E4 := fun_mk (st := st_Machine_len) l4 c4 k4
  have F4 := fun_g E4
  have b4 := E4.binds (ps := P_Machine_len) fun _ _ _ _ _ _ us hl => match us, hl with | [_], _ => rfl
  have E5 := fun_mk (st := st_law_next) l5 c5 k5
  have F5 := fun_g E5
  have b5 := E5.binds (ps := P_law_next) fun _ _ _ _ _ _ us hl => match us, hl with | [_, _], _ => rfl
  have E6 := fun_mk (st := st_law_signs) l6 c6 k6
  have F6 := fun_g E6
  have b6 := E6.binds (ps := P_law_signs) fun _ _ _ _ _ _ us hl => match us, hl with | [], _ => rfl
  have E7 := fun_mk (st := st_law_division) l7 c7 k7
  have F7 := fun_g E7
  have b7 := E7.binds (ps := P_law_division) fun _ _ _ _ _ _ us hl => match us, hl with | [_, _], _ => rfl
  have E8 := fun_mk (st := st_law_chain) l8 c8 k8
  have F8 := fun_g E8
  have b8 := E8.binds (ps := P_law_chain) fun _ _ _ _ _ _ us hl => match us, hl with | [_, _], _ => rfl
  have E9 := fun_mk (st := st_law_changed) l9 c9 k9
  have F9 := fun_g E9
  have b9 := E9.binds (ps := P_law_changed) fun _ _ _ _ _ _ us hl => match us, hl with | [_, _], _ => rfl
  have E10 := fun_mk (st := st_law_draw) l10 c10 k10
  have F10 := fun_g E10
  have b10 := E10.binds (ps := P_law_draw) fun _ _ _ _ _ _ us hl => match us, hl with | [_], _ => rfl
  have E11 := fun_mk (st := st_law_fine) l11 c11 k11
  have F11 := fun_g E11
  have b11 := E11.binds (ps := P_law_fine) fun _ _ _ _ _ _ us hl => match us, hl with | [_, _], _ => rfl
  have E12 := fun_mk (st := st_law_cell) l12 c12 k12
  have F12 := fun_g E12
  have b12 := E12.binds (ps := P_law_cell) fun _ _ _ _ _ _ us hl => match us, hl with | [_, _], _ => rfl
  have E13 := fun_mk (st := st_law_from) l13 c13 k13
  have F13 := fun_g E13
  have b13 := E13.binds (ps := P_law_from) fun _ _ _ _ _ _ us hl => match us, hl with | [_, _, _], _ => rfl
  have E14 := fun_mk (st := st_law_int) l14 c14 k14
  have F14 := fun_g E14
  have b14 := E14.binds (ps := P_law_int) fun _ _ _ _ _ _ us hl => match us, hl with | [_], _ => rfl
  have E15 := fun_mk (st := st_law_kept) l15 c15 k15
  have F15 := fun_g E15
  have b15 := E15.binds (ps := P_law_kept) fun _ _ _ _ _ _ us hl => match us, hl with | [_, _], _ => rfl
  have E16 := fun_mk (st := st_law_letters) l16 c16 k16
  have F16 := fun_g E16
  have b16 := E16.binds (ps := P_law_letters) fun _ _ _ _ _ _ us hl => match us, hl with | [_], _ => rfl
  have E17 := fun_mk (st := st_law_long) l17 c17 k17
  have F17 := fun_g E17
  have b17 := E17.binds (ps := P_law_long) fun _ _ _ _ _ _ us hl => match us, hl with | [_, _, _], _ => rfl
  have E18 := fun_mk (st := st_law_machine) l18 c18 k18
  have F18 := fun_g E18
  have b18 := E18.binds (ps := P_law_machine) fun _ _ _ _ _ _ us hl => match us, hl with | [_, _, _], _ => rfl
  have E19 := fun_mk (st := st_init_Machine) l19 c19 k19
  have F19 := fun_g E19
  have b19 := E19.binds (ps := P_init_Machine) fun _ _ _ _ _ _ us hl => match us, hl with | [_, _, _, _], _ => rfl
  have E20 := fun_mk (st := st_law_made) l20 c20 k20
  have F20 := fun_g E20
  have b20 := E20.binds (ps := P_law_made) fun _ _ _ _ _ _ us hl => match us, hl with | [_], _ => rfl
  have E21 := fun_mk (st := st_law_over) l21 c21 k21
  have F21 := fun_g E21
  have b21 := E21.binds (ps := P_law_over) fun _ _ _ _ _ _ us hl => match us, hl with | [_, _, _], _ => rfl
  have E22 := fun_mk (st := st_law) l22 c22 k22
  have F22 := fun_g E22
  have b22 := E22.binds (ps := P_law) fun _ _ _ _ _ _ us hl => match us, hl with | [_], _ => rfl
  refine ⟨PySem.W.fnOf "law" "law" (defArgs st_law) (defBody st_law) (defScope st_law) .none kV22 dc22 pm22 an22 cd22 ct22, fun s v => .of_eq rfl, fun base _ _ => ?_⟩
  have G0 := ok_cell_of (P := l.prog) (w := w) (mg := mg) (base := base) F0 (PySem.W.mg_none_of X G z_enumerate)
  have G1 := ok_Machine_state_after (P := l.prog) (w := w) (mg := mg) (base := base) F1 (PySem.W.mg_none_of X G z_list) aC_Machine ⟨pg_Machine, hd_Machine, po_Machine, sa_Machine⟩ na_Machine_cells na_Machine_rows G0 (PySem.W.mg_of X G a0) k0 b0
  have G2 := ok_Machine_accepts (P := l.prog) (w := w) (mg := mg) (base := base) F2 aC_Machine ⟨pg_Machine, hd_Machine, po_Machine, sa_Machine⟩ na_Machine_accepting G1 a1 i1 k1 b1
  have G3 := ok_Machine_eq (P := l.prog) (w := w) (mg := mg) (base := base) F3 (PySem.W.mg_none_of X G z_isinstance) aC_Machine ⟨pg_Machine, hd_Machine, po_Machine, sa_Machine⟩ na_Machine_cells na_Machine_rows na_Machine_accepting ⟨ic0_Machine, ic1_Machine, ic2_Machine, ic3_Machine, ic4_Machine, ic5_Machine, ic6_Machine, ic7_Machine, ic8_Machine, ic9_Machine⟩ (PySem.W.mg_of X G aC_Machine)
  have G4 := ok_Machine_len (P := l.prog) (w := w) (mg := mg) (base := base) F4 (PySem.W.mg_none_of X G z_len) aC_Machine ⟨pg_Machine, hd_Machine, po_Machine, sa_Machine⟩ na_Machine_rows
  have G5 := ok_law_next (P := l.prog) (w := w) (mg := mg) (base := base) F5 (PySem.W.mg_none_of X G z_int) (PySem.W.mg_none_of X G z_len)
  have G6 := ok_law_signs (P := l.prog) (w := w) (mg := mg) (base := base) F6 
  have G7 := ok_law_division (P := l.prog) (w := w) (mg := mg) (base := base) F7 (PySem.W.mg_none_of X G z_range) (PySem.W.mg_none_of X G z_sorted) (PySem.W.mg_none_of X G z_tuple) G5 (PySem.W.mg_of X G a5) k5 b5 G6 (PySem.W.mg_of X G a6) k6 b6
  have G8 := ok_law_chain (P := l.prog) (w := w) (mg := mg) (base := base) F8 (PySem.W.mg_none_of X G z_int) (PySem.W.mg_none_of X G z_len) (PySem.W.mg_none_of X G z_range) (PySem.W.mg_none_of X G z_tuple) G7 (PySem.W.mg_of X G a7) k7 b7 G5 (PySem.W.mg_of X G a5) k5 b5
  have G9 := ok_law_changed (P := l.prog) (w := w) (mg := mg) (base := base) F9 (PySem.W.mg_none_of X G z_int) (PySem.W.mg_none_of X G z_len) (PySem.W.mg_none_of X G z_list) (PySem.W.mg_none_of X G z_sorted) (PySem.W.mg_none_of X G z_tuple) G5 (PySem.W.mg_of X G a5) k5 b5
  have G10 := ok_law_draw (P := l.prog) (w := w) (mg := mg) (base := base) F10 (PySem.W.mg_none_of X G z_int) (PySem.W.mg_none_of X G z_range)
  have G11 := ok_law_fine (P := l.prog) (w := w) (mg := mg) (base := base) F11 (PySem.W.mg_none_of X G z_range) (PySem.W.mg_none_of X G z_tuple) G5 (PySem.W.mg_of X G a5) k5 b5 G6 (PySem.W.mg_of X G a6) k6 b6
  have G12 := ok_law_cell (P := l.prog) (w := w) (mg := mg) (base := base) F12 (PySem.W.mg_none_of X G z_len) (PySem.W.mg_none_of X G z_range)
  have G13 := ok_law_from (P := l.prog) (w := w) (mg := mg) (base := base) F13 G12 (PySem.W.mg_of X G a12) k12 b12
  have G14 := ok_law_int (P := l.prog) (w := w) (mg := mg) (base := base) F14 (PySem.W.mg_none_of X G z_bool) (PySem.W.mg_none_of X G z_int) (PySem.W.mg_none_of X G z_isinstance)
  have G15 := ok_law_kept (P := l.prog) (w := w) (mg := mg) (base := base) F15 aC_Machine ⟨pg_Machine, hd_Machine, po_Machine, sa_Machine⟩ na_Machine_cells na_Machine_rows na_Machine_accepting
  have G16 := ok_law_letters (P := l.prog) (w := w) (mg := mg) (base := base) F16 (PySem.W.mg_none_of X G z_int) (PySem.W.mg_none_of X G z_range) G5 (PySem.W.mg_of X G a5) k5 b5 G6 (PySem.W.mg_of X G a6) k6 b6
  have G17 := ok_law_long (P := l.prog) (w := w) (mg := mg) (base := base) F17 (PySem.W.mg_none_of X G z_len) (PySem.W.mg_none_of X G z_range) G5 (PySem.W.mg_of X G a5) k5 b5
  have G18 := ok_law_machine (P := l.prog) (w := w) (mg := mg) (base := base) F18 (PySem.W.mg_none_of X G z_int) (PySem.W.mg_none_of X G z_min) (PySem.W.mg_none_of X G z_range) (PySem.W.mg_none_of X G z_tuple) G7 (PySem.W.mg_of X G a7) k7 b7 G5 (PySem.W.mg_of X G a5) k5 b5
  have G19 := ok_init_Machine (P := l.prog) (w := w) (mg := mg) (base := base) F19 ⟨pg_Machine, hd_Machine, po_Machine, sa_Machine⟩ na_Machine_cells na_Machine_rows na_Machine_accepting
  have G20 := ok_law_made (P := l.prog) (w := w) (mg := mg) (base := base) F20 aC_Machine ⟨mk_Machine, a19, i19, kc_Machine⟩ G19 (PySem.W.mg_of X G aC_Machine) b19
  have G21 := ok_law_over (P := l.prog) (w := w) (mg := mg) (base := base) F21 (PySem.W.mg_none_of X G z_len) (PySem.W.mg_none_of X G z_range) G5 (PySem.W.mg_of X G a5) k5 b5
  have G22 := ok_law (P := l.prog) (w := w) (mg := mg) (base := base) F22 (PySem.W.mg_none_of X G z_bool) (PySem.W.mg_none_of X G z_isinstance) (PySem.W.mg_none_of X G z_len) (PySem.W.mg_none_of X G z_range) aC_Machine ⟨pg_Machine, hd_Machine, po_Machine, sa_Machine⟩ ⟨ic0_Machine, ic1_Machine, ic2_Machine, ic3_Machine, ic4_Machine, ic5_Machine, ic6_Machine, ic7_Machine, ic8_Machine, ic9_Machine⟩ ⟨qc0_Machine, qc1_Machine, qc2_Machine, qc3_Machine, qc4_Machine⟩ G2 a2 i2 k2 b2 G3 a3 i3 k3 b3 G4 a4 i4 k4 b4 G1 a1 i1 k1 b1 G8 (PySem.W.mg_of X G a8) k8 b8 G9 (PySem.W.mg_of X G a9) k9 b9 G10 (PySem.W.mg_of X G a10) k10 b10 G11 (PySem.W.mg_of X G a11) k11 b11 G13 (PySem.W.mg_of X G a13) k13 b13 G14 (PySem.W.mg_of X G a14) k14 b14 G15 (PySem.W.mg_of X G a15) k15 b15 G16 (PySem.W.mg_of X G a16) k16 b16 G17 (PySem.W.mg_of X G a17) k17 b17 G18 (PySem.W.mg_of X G a18) k18 b18 G20 (PySem.W.mg_of X G a20) k20 b20 G5 (PySem.W.mg_of X G a5) k5 b5 G21 (PySem.W.mg_of X G a21) k21 b21
  exact G22.imp fun _ _ _ _ h => h w
end K55
open PySem PySem.W PyProof.Rows
set_option maxHeartbeats 0 in
theorem PySem.Challenge.cw_surespan_k55_machine_accepts_holds : PySem.Challenge.rw_surespan_k55_machine_accepts.Holds := by
  w_on; o_law; k_head; (case hw => w_witness2)
  k_fill
  refine L2.walk_ofK (l := PySem.Challenge.rw_surespan_k55_machine_accepts) (n := 63) (k := 4) (x := "_law_script") (CX := L2.CX0) (sp := fun K => Sw.spL K K55.f_law) rfl (by decide) rfl ⟨rfl, by decide, by decide⟩ (fun w h Y => PySem.W.kIn_of Y) ?F (fun K H a ns hl _ hS w => Sw.law_sp (K := ⟨K, w⟩) hS (K55.law_true ns hl)) (fun _ _ _ _ h => h)
  case F =>
    intro w mg fa h KX G hmg
    refine' K55.all_mk KX G hmg ?aC_Machine ?pg_Machine ?hd_Machine ?po_Machine ?sa_Machine ?mk_Machine ?kc_Machine ?na_Machine_cells ?na_Machine_rows ?na_Machine_accepting ?ic0_Machine ?ic1_Machine ?ic2_Machine ?ic3_Machine ?ic4_Machine ?ic5_Machine ?ic6_Machine ?ic7_Machine ?ic8_Machine ?ic9_Machine ?qc0_Machine ?qc1_Machine ?qc2_Machine ?qc3_Machine ?qc4_Machine ?a0 ?l0 ?c0 ?k0 ?a1 ?i1 ?l1 ?c1 ?k1 ?a2 ?i2 ?l2 ?c2 ?k2 ?a3 ?i3 ?l3 ?c3 ?k3 ?a4 ?i4 ?l4 ?c4 ?k4 ?a5 ?l5 ?c5 ?k5 ?a6 ?l6 ?c6 ?k6 ?a7 ?l7 ?c7 ?k7 ?a8 ?l8 ?c8 ?k8 ?a9 ?l9 ?c9 ?k9 ?a10 ?l10 ?c10 ?k10 ?a11 ?l11 ?c11 ?k11 ?a12 ?l12 ?c12 ?k12 ?a13 ?l13 ?c13 ?k13 ?a14 ?l14 ?c14 ?k14 ?a15 ?l15 ?c15 ?k15 ?a16 ?l16 ?c16 ?k16 ?a17 ?l17 ?c17 ?k17 ?a18 ?l18 ?c18 ?k18 ?a19 ?i19 ?l19 ?c19 ?k19 ?a20 ?l20 ?c20 ?k20 ?a21 ?l21 ?c21 ?k21 ?a22 ?l22 ?c22 ?k22 ?z_bool ?z_enumerate ?z_int ?z_isinstance ?z_len ?z_list ?z_min ?z_range ?z_sorted ?z_tuple
    (case aC_Machine => k_is)
    (case pg_Machine => k_is)
    (case hd_Machine => k_is)
    (case po_Machine => k_is)
    (case sa_Machine => k_is)
    (case mk_Machine => k_is)
    (case kc_Machine => k_is)
    (case na_Machine_cells => k_is)
    (case na_Machine_rows => k_is)
    (case na_Machine_accepting => k_is)
    (case ic0_Machine => k_is)
    (case ic1_Machine => k_is)
    (case ic2_Machine => k_is)
    (case ic3_Machine => k_is)
    (case ic4_Machine => first | k_is | kit_is | decide +kernel)
    (case ic5_Machine => first | k_is | kit_is | decide +kernel)
    (case ic6_Machine => first | k_is | kit_is | decide +kernel)
    (case ic7_Machine => first | k_is | kit_is | decide +kernel)
    (case ic8_Machine => first | k_is | kit_is | decide +kernel)
    (case ic9_Machine => first | k_is | kit_is | decide +kernel)
    (case qc0_Machine => first | k_is | kit_is | decide +kernel)
    (case qc1_Machine => first | k_is | kit_is | decide +kernel)
    (case qc2_Machine => first | k_is | kit_is | decide +kernel)
    (case qc3_Machine => first | k_is | kit_is | decide +kernel)
    (case qc4_Machine => first | k_is | kit_is | decide +kernel)
    (case a0 => k_is)
    (case l0 => k_is)
    (case c0 => k_is)
    (case k0 => k_is)
    (case a1 => k_is)
    (case i1 => k_is)
    (case l1 => k_is)
    (case c1 => k_is)
    (case k1 => k_is)
    (case a2 => k_is)
    (case i2 => k_is)
    (case l2 => k_is)
    (case c2 => k_is)
    (case k2 => k_is)
    (case a3 => k_is)
    (case i3 => k_is)
    (case l3 => k_is)
    (case c3 => k_is)
    (case k3 => k_is)
    (case a4 => k_is)
    (case i4 => k_is)
    (case l4 => k_is)
    (case c4 => k_is)
    (case k4 => k_is)
    (case a5 => k_is)
    (case l5 => k_is)
    (case c5 => k_is)
    (case k5 => k_is)
    (case a6 => k_is)
    (case l6 => k_is)
    (case c6 => k_is)
    (case k6 => k_is)
    (case a7 => k_is)
    (case l7 => k_is)
    (case c7 => k_is)
    (case k7 => k_is)
    (case a8 => k_is)
    (case l8 => k_is)
    (case c8 => k_is)
    (case k8 => k_is)
    (case a9 => k_is)
    (case l9 => k_is)
    (case c9 => k_is)
    (case k9 => k_is)
    (case a10 => k_is)
    (case l10 => k_is)
    (case c10 => k_is)
    (case k10 => k_is)
    (case a11 => k_is)
    (case l11 => k_is)
    (case c11 => k_is)
    (case k11 => k_is)
    (case a12 => k_is)
    (case l12 => k_is)
    (case c12 => k_is)
    (case k12 => k_is)
    (case a13 => k_is)
    (case l13 => k_is)
    (case c13 => k_is)
    (case k13 => k_is)
    (case a14 => k_is)
    (case l14 => k_is)
    (case c14 => k_is)
    (case k14 => k_is)
    (case a15 => k_is)
    (case l15 => k_is)
    (case c15 => k_is)
    (case k15 => k_is)
    (case a16 => k_is)
    (case l16 => k_is)
    (case c16 => k_is)
    (case k16 => k_is)
    (case a17 => k_is)
    (case l17 => k_is)
    (case c17 => k_is)
    (case k17 => k_is)
    (case a18 => k_is)
    (case l18 => k_is)
    (case c18 => k_is)
    (case k18 => k_is)
    (case a19 => k_is)
    (case i19 => k_is)
    (case l19 => k_is)
    (case c19 => k_is)
    (case k19 => k_is)
    (case a20 => k_is)
    (case l20 => k_is)
    (case c20 => k_is)
    (case k20 => k_is)
    (case a21 => k_is)
    (case l21 => k_is)
    (case c21 => k_is)
    (case k21 => k_is)
    (case a22 => k_is)
    (case l22 => k_is)
    (case c22 => k_is)
    (case k22 => k_is)
    (case z_bool => k_is)
    (case z_enumerate => k_is)
    (case z_int => k_is)
    (case z_isinstance => k_is)
    (case z_len => k_is)
    (case z_list => k_is)
    (case z_min => k_is)
    (case z_range => k_is)
    (case z_sorted => k_is)
    (case z_tuple => k_is)
