import PyProof.Rows.All
import Wide.All
import OpenK.AllK
import Wide.FinOn
import HandS.ForMost
import HandS.Exc
import HandS.TryOnly
import HandS.ExcOwn
import HandS.WordsExc
import HandS.CallSlots
import HandS.Wide
import HandS.IsInst
import HandS.SortRule
import HandS.SortInts
import HandS.EndBits
import HandS.TupAny
import HandS.Style
import HandS.Property
import HandS.SlotsOwn
import HandS.Star
import KE.KOpsOwn
import PyProof.InstNe
import PyProof.ReprRoads
import HandS.SetFor
import HandS.Strs
import HandS.Conv
import HandS.Text
import HandS.Rev
import HandS.WideBits
import HandS.RaiseMore
import HandS.TupLe
import PyProof.StrOps2
import HandS.MakeKwOnly
import HandS.ExcIs
import HandS.Deep
import HandS.GenList
import PyProof.ListStr
import HandS.ExcInit
import HandS.ExcField
import KE.KExcIs
import HandS.DictComp
import HandS.TupLen
import HandS.WordsDict
import HandS.StrMore
import HandS.More
import HandS.Small
import HandS.HeadHook3
import PySem.Challenge.RW_plotpens_k04_operator_errors
set_option Elab.async false
set_option linter.all false
set_option maxRecDepth 100000
namespace DL
open PySem PySem.Spec L2
/-- a dict's key by its value -/
inductive DKey where
  | k (k : Key)
  | t (ks : List Key)
  deriving DecidableEq
/-- a value that nobody changes any more -/
inductive D where
  | non
  | bl (b : Bool)
  | int (i : Int)
  | str (x : Str)
  | ty (n : String)
  | cls (C : Addr)
  | tup (xs : List D)
  | ktu (xs : List D)
  | lst (xs : List D)
  | scr (ns : List Int)
  | dic (tk : Bool) (ks : List DKey) (vs : List D)
  | ins (C : Addr) (ns : List Str) (vs : List D)
  | exc (C : Addr) (ns : List Str) (vs : List D)
/-- an exception object of the class cls with the dict d, at a -/
noncomputable def ExT (cls : Value) (d : Option Addr) (a : Addr) : HO := .ext fun h => ∃ oe : Obj, h.get? a = some oe ∧ Zc cls d oe ∧ ∃ vs, oe.data = .fields vs
/-- a value that one name alone reaches (fz: a D) -/
inductive OT where
  | fz (d : D)
  | ol (ts : List OT)
  | od (tk : Bool) (ks : List DKey) (ts : List OT)
  | oi (C : Addr) (ns : List Str) (ts : List OT)
mutual
inductive Rep (K : PySem.W.Frag) (F : Hp) : V → D → Prop
  | non : Rep K F .non .non
  | bl (b : Bool) : Rep K F (.bl b) (.bl b)
  | int (i : Int) : Rep K F (.int i) (.int i)
  | str (x : Str) : Rep K F (.str x) (.str x)
  | ty (n : String) : Rep K F (.ty n) (.ty n)
  | cls (C : Addr) : Rep K F (.ref C) (.cls C)
  | tup {a : Addr} {vs : List V} {ds : List D} : F a = some (.tup vs) → Reps K F vs ds → Rep K F (.ref a) (.tup ds)
  | ktu {a : Addr} {vs : List V} {ds : List D} : SqT K F a vs → Reps K F vs ds → Rep K F (.ref a) (.ktu ds)
  | lst {a : Addr} {vs : List V} {ds : List D} : Rd F a (.lst vs) → Reps K F vs ds → Rep K F (.ref a) (.lst ds)
  | scr {a : Addr} {ns : List Int} : SqL K F a (ns.map V.int) → Rep K F (.ref a) (.scr ns)
  | dicK {a : Addr} {kvs : List (Key × V)} {ds : List D} : Rd F a (.dK kvs) → Reps K F (kvs.map (·.2)) ds → Rep K F (.ref a) (.dic false (kvs.map fun p => .k p.1) ds)
  | dicT {a : Addr} {kvs : List (List Key × V)} {ds : List D} : Rd F a (.dT kvs) → Reps K F (kvs.map (·.2)) ds → Rep K F (.ref a) (.dic true (kvs.map fun p => .t p.1) ds)
  | ins {a C dx : Addr} {fvs : List (Str × V)} {ds : List D} : F a = some (.ins C dx fvs) → Reps K F (fvs.map (·.2)) ds → Rep K F (.ref a) (.ins C (fvs.map (·.1)) ds)
  | exc {a C : Addr} {d : Option Addr} {fvs : List (Str × V)} {ds : List D} : F a = some (ExT (.ref C) d a) → (∀ dx, d = some dx → F dx = some (.xd fvs)) → (d = none ↔ fvs = []) → Reps K F (fvs.map (·.2)) ds → Rep K F (.ref a) (.exc C (fvs.map (·.1)) ds)
inductive Reps (K : PySem.W.Frag) (F : Hp) : List V → List D → Prop
  | nil : Reps K F [] []
  | cons {v : V} {vs : List V} {d : D} {ds : List D} : Rep K F v d → Reps K F vs ds → Reps K F (v :: vs) (d :: ds)
end
theorem Same.rd {H H' : Hp} {a : Addr} {u : HO} (e : Same H H') (h : Rd H a u) : Rd H' a u := by
  rcases h with h | ⟨o, h⟩
  · exact .inl (e _ _ h)
  · exact .inr ⟨o, e _ _ h⟩
theorem Same.sqt {K : PySem.W.Frag} {H H' : Hp} {a : Addr} {xs : List V} (e : Same H H') (h : SqT K H a xs) : SqT K H' a xs := by
  rcases h with h | h
  · exact .inl (Same.rd e h)
  · exact .inr h
theorem Same.upd {H : Hp} {p : Addr} {o : HO} (h : H p = none) : Same H (upd H p o) := fun a u e => by
  rw [upd_ne (ne_of_none e h)]; exact e
section
variable {K : PySem.W.Frag} {F F' H H' : Hp}
mutual
theorem Rep.mono (e : Same F F') : ∀ {v : V} {d : D}, Rep K F v d → Rep K F' v d
  | _, _, .non => .non
  | _, _, .bl b => .bl b
  | _, _, .int i => .int i
  | _, _, .str x => .str x
  | _, _, .ty n => .ty n
  | _, _, .cls C => .cls C
  | _, _, .tup h r => .tup (e _ _ h) (Reps.mono e r)
  | _, _, .ktu h r => .ktu (Same.sqt e h) (Reps.mono e r)
  | _, _, .lst h r => .lst (Same.rd e h) (Reps.mono e r)
  | _, _, .scr h => .scr (e.seq h)
  | _, _, .dicK h r => .dicK (Same.rd e h) (Reps.mono e r)
  | _, _, .dicT h r => .dicT (Same.rd e h) (Reps.mono e r)
  | _, _, .ins h r => .ins (e _ _ h) (Reps.mono e r)
  | _, _, .exc h k n r => .exc (e _ _ h) (fun dx z => e _ _ (k dx z)) n (Reps.mono e r)
theorem Reps.mono (e : Same F F') : ∀ {vs : List V} {ds : List D}, Reps K F vs ds → Reps K F' vs ds
  | _, _, .nil => .nil
  | _, _, .cons h r => .cons (Rep.mono e h) (Reps.mono e r)
end
theorem Reps.length : ∀ {vs : List V} {ds : List D}, Reps K F vs ds → vs.length = ds.length
  | _, _, .nil => rfl
  | _, _, .cons _ r => by rw [List.length_cons, List.length_cons, Reps.length r]
theorem Reps.get : ∀ {vs : List V} {ds : List D} {i : Nat} {d : D}, Reps K F vs ds → ds[i]? = some d → ∃ v, vs[i]? = some v ∧ Rep K F v d
  | _, _, _, _, .nil, e => by simp at e
  | _, _, 0, _, .cons h _, e => by simp at e; subst e; exact ⟨_, rfl, h⟩
  | _, _, i + 1, _, .cons _ r, e => by
    obtain ⟨v, h1, h2⟩ := Reps.get (i := i) r (by simpa using e)
    exact ⟨v, by simpa using h1, h2⟩
theorem Reps.append : ∀ {vs ws : List V} {ds es : List D}, Reps K F vs ds → Reps K F ws es → Reps K F (vs ++ ws) (ds ++ es)
  | _, _, _, _, .nil, s => s
  | _, _, _, _, .cons h r, s => .cons h (Reps.append r s)
theorem Reps.one {v : V} {d : D} (h : Rep K F v d) : Reps K F [v] [d] := .cons h .nil
theorem Reps.take : ∀ {vs : List V} {ds : List D} (n : Nat), Reps K F vs ds → Reps K F (vs.take n) (ds.take n)
  | _, _, 0, _ => .nil
  | _, _, _ + 1, .nil => .nil
  | _, _, n + 1, .cons h r => .cons h (Reps.take n r)
theorem Reps.drop : ∀ {vs : List V} {ds : List D} (n : Nat), Reps K F vs ds → Reps K F (vs.drop n) (ds.drop n)
  | _, _, 0, r => r
  | _, _, _ + 1, .nil => .nil
  | _, _, n + 1, .cons _ r => Reps.drop n r
theorem Reps.reverse : ∀ {vs : List V} {ds : List D}, Reps K F vs ds → Reps K F vs.reverse ds.reverse
  | _, _, .nil => .nil
  | _, _, .cons h r => by rw [List.reverse_cons, List.reverse_cons]; exact (Reps.reverse r).append (.one h)
theorem Reps.set : ∀ {vs : List V} {ds : List D} {v : V} {d : D} (i : Nat), Rep K F v d → Reps K F vs ds → Reps K F (vs.set i v) (ds.set i d)
  | _, _, _, _, _, _, .nil => .nil
  | _, _, _, _, 0, h, .cons _ r => .cons h r
  | _, _, _, _, i + 1, h, .cons k r => .cons k (Reps.set i h r)
/-- ints -/
theorem Reps.ints : ∀ (ns : List Int), Reps K F (ns.map V.int) (ns.map D.int)
  | [] => .nil
  | n :: r => .cons (.int n) (Reps.ints r)
end
mutual
noncomputable def OT.view : OT → D
  | .fz d => d
  | .ol ts => .lst (OT.views ts)
  | .od tk ks ts => .dic tk ks (OT.views ts)
  | .oi C ns ts => .ins C ns (OT.views ts)
noncomputable def OT.views : List OT → List D
  | [] => []
  | t :: ts => t.view :: OT.views ts
end
theorem views_fz : ∀ ds : List D, OT.views (ds.map OT.fz) = ds
  | [] => by rw [List.map_nil, OT.views]
  | d :: ds => by rw [List.map_cons, OT.views, OT.view, views_fz ds]
mutual
noncomputable def RepO (K : PySem.W.Frag) (F H : Hp) : OT → V → (Addr → Prop) → Prop
  | .fz d, v, _ => Rep K F v d
  | .ol ts, v, P => ∃ (a : Addr) (vs : List V), v = .ref a ∧ P a ∧ H a = some (.lst vs) ∧ RepOs K F H ts vs (fun x => P x ∧ x ≠ a)
  | .od tk ks ts, v, P => ∃ (a : Addr), v = .ref a ∧ P a ∧
      ((tk = false ∧ ∃ kvs : List (Key × V), H a = some (.dK kvs) ∧ ks = kvs.map (fun p => DKey.k p.1) ∧ RepOs K F H ts (kvs.map (·.2)) (fun x => P x ∧ x ≠ a)) ∨
       (tk = true ∧ ∃ kvs : List (List Key × V), H a = some (.dT kvs) ∧ ks = kvs.map (fun p => DKey.t p.1) ∧ RepOs K F H ts (kvs.map (·.2)) (fun x => P x ∧ x ≠ a)))
  | .oi C ns ts, v, P => ∃ (a dx : Addr) (fvs : List (Str × V)), v = .ref a ∧ P a ∧ H a = some (.ins C dx fvs) ∧ ns = fvs.map (·.1) ∧ RepOs K F H ts (fvs.map (·.2)) (fun x => P x ∧ x ≠ a)
noncomputable def RepOs (K : PySem.W.Frag) (F H : Hp) : List OT → List V → (Addr → Prop) → Prop
  | [], vs, _ => vs = []
  | t :: ts, vs, P => ∃ (v : V) (ws : List V) (P1 P2 : Addr → Prop), vs = v :: ws ∧ (∀ x, P1 x → P x) ∧ (∀ x, P2 x → P x ∧ ¬ P1 x) ∧ RepO K F H t v P1 ∧ RepOs K F H ts ws P2
end
section
variable {K : PySem.W.Frag} {F F' H H' : Hp}
mutual
theorem RepO.mono (e : Same F F') : ∀ {t : OT} {v : V} {P P' : Addr → Prop}, (∀ x, P x → P' x ∧ H' x = H x) → RepO K F H t v P → RepO K F' H' t v P'
  | .fz d, v, P, P', _, h => by
    unfold RepO at h ⊢
    exact h.mono e
  | .ol ts, v, P, P', k, h => by
    unfold RepO at h ⊢
    obtain ⟨a, vs, rfl, pa, ha, r⟩ := h
    exact ⟨a, vs, rfl, (k a pa).1, by rw [(k a pa).2]; exact ha, RepOs.mono e (fun x hx => ⟨⟨(k x hx.1).1, hx.2⟩, (k x hx.1).2⟩) r⟩
  | .od tk ks ts, v, P, P', k, h => by
    unfold RepO at h ⊢
    obtain ⟨a, rfl, pa, h⟩ := h
    refine ⟨a, rfl, (k a pa).1, ?_⟩
    rcases h with ⟨e0, kvs, ha, hk, r⟩ | ⟨e0, kvs, ha, hk, r⟩
    · exact .inl ⟨e0, kvs, by rw [(k a pa).2]; exact ha, hk, RepOs.mono e (fun x hx => ⟨⟨(k x hx.1).1, hx.2⟩, (k x hx.1).2⟩) r⟩
    · exact .inr ⟨e0, kvs, by rw [(k a pa).2]; exact ha, hk, RepOs.mono e (fun x hx => ⟨⟨(k x hx.1).1, hx.2⟩, (k x hx.1).2⟩) r⟩
  | .oi C ns ts, v, P, P', k, h => by
    unfold RepO at h ⊢
    obtain ⟨a, dx, fvs, rfl, pa, ha, hn, r⟩ := h
    exact ⟨a, dx, fvs, rfl, (k a pa).1, by rw [(k a pa).2]; exact ha, hn, RepOs.mono e (fun x hx => ⟨⟨(k x hx.1).1, hx.2⟩, (k x hx.1).2⟩) r⟩
theorem RepOs.mono (e : Same F F') : ∀ {ts : List OT} {vs : List V} {P P' : Addr → Prop}, (∀ x, P x → P' x ∧ H' x = H x) → RepOs K F H ts vs P → RepOs K F' H' ts vs P'
  | [], vs, P, P', _, h => by
    unfold RepOs at h ⊢
    exact h
  | t :: ts, vs, P, P', k, h => by
    unfold RepOs at h ⊢
    obtain ⟨v, ws, P1, P2, rfl, h1, h2, r1, r2⟩ := h
    exact ⟨v, ws, P1, P2, rfl, fun x hx => (k x (h1 x hx)).1, fun x hx => ⟨(k x (h2 x hx).1).1, (h2 x hx).2⟩, RepO.mono e (fun x hx => ⟨hx, (k x (h1 x hx)).2⟩) r1, RepOs.mono e (fun x hx => ⟨hx, (k x (h2 x hx).1).2⟩) r2⟩
end
mutual
/-- frozen: the tree's own cells stand in F' as they stand in H -/
theorem RepO.frz (e : Same F F') : ∀ {t : OT} {v : V} {P : Addr → Prop}, (∀ x, P x → ∀ o, H x = some o → F' x = some o) → RepO K F H t v P → Rep K F' v t.view
  | .fz d, v, P, _, h => by
    unfold RepO at h
    rw [OT.view]
    exact h.mono e
  | .ol ts, v, P, k, h => by
    unfold RepO at h
    obtain ⟨a, vs, rfl, pa, ha, r⟩ := h
    rw [OT.view]
    exact .lst (.inl (k a pa _ ha)) (RepOs.frz e (fun x hx => k x hx.1) r)
  | .od tk ks ts, v, P, k, h => by
    unfold RepO at h
    obtain ⟨a, rfl, pa, h⟩ := h
    rw [OT.view]
    rcases h with ⟨e0, kvs, ha, hk, r⟩ | ⟨e0, kvs, ha, hk, r⟩
    · subst hk e0; exact .dicK (.inl (k a pa _ ha)) (RepOs.frz e (fun x hx => k x hx.1) r)
    · subst hk e0; exact .dicT (.inl (k a pa _ ha)) (RepOs.frz e (fun x hx => k x hx.1) r)
  | .oi C ns ts, v, P, k, h => by
    unfold RepO at h
    obtain ⟨a, dx, fvs, rfl, pa, ha, hn, r⟩ := h
    rw [OT.view]
    subst hn
    exact .ins (k a pa _ ha) (RepOs.frz e (fun x hx => k x hx.1) r)
theorem RepOs.frz (e : Same F F') : ∀ {ts : List OT} {vs : List V} {P : Addr → Prop}, (∀ x, P x → ∀ o, H x = some o → F' x = some o) → RepOs K F H ts vs P → Reps K F' vs (OT.views ts)
  | [], vs, P, _, h => by
    unfold RepOs at h
    subst h
    rw [OT.views]
    exact .nil
  | t :: ts, vs, P, k, h => by
    unfold RepOs at h
    obtain ⟨v, ws, P1, P2, rfl, h1, h2, r1, r2⟩ := h
    rw [OT.views]
    exact .cons (RepO.frz e (fun x hx => k x (h1 x hx)) r1) (RepOs.frz e (fun x hx => k x (h2 x hx).1) r2)
end
/-- a list of frozen items -/
theorem repOs_fz : ∀ {ds : List D} {vs : List V} {P : Addr → Prop}, RepOs K F H (ds.map OT.fz) vs P → Reps K F vs ds
  | [], vs, P, h => by
    rw [List.map_nil] at h
    unfold RepOs at h
    subst h
    exact .nil
  | d :: ds, vs, P, h => by
    rw [List.map_cons] at h
    unfold RepOs at h
    obtain ⟨v, ws, P1, P2, rfl, h1, h2, r1, r2⟩ := h
    unfold RepO at r1
    exact .cons r1 (repOs_fz r2)
theorem repOs_of : ∀ {ds : List D} {vs : List V} (P : Addr → Prop), Reps K F vs ds → RepOs K F H (ds.map OT.fz) vs P
  | [], vs, P, h => by
    cases h
    rw [List.map_nil]
    unfold RepOs
    rfl
  | d :: ds, vs, P, h => by
    cases h with
    | cons h r =>
      rw [List.map_cons]
      unfold RepOs
      refine ⟨_, _, fun _ => False, P, rfl, fun x z => z.elim, fun x z => ⟨z, id⟩, ?_, repOs_of P r⟩
      unfold RepO
      exact h
theorem RepOs.length : ∀ {ts : List OT} {vs : List V} {P : Addr → Prop}, RepOs K F H ts vs P → vs.length = ts.length
  | [], vs, P, h => by
    unfold RepOs at h
    subst h; rfl
  | t :: ts, vs, P, h => by
    unfold RepOs at h
    obtain ⟨v, ws, P1, P2, rfl, h1, h2, r1, r2⟩ := h
    rw [List.length_cons, List.length_cons, RepOs.length r2]
end
/-- a slot: nothing known; a tree; the tree of the j-th parameter that the caller goes on with -/
inductive S where
  | un
  | ow (t : OT)
  | pa (j : Nat)
structure SD where
  sl : List S
  pa : List OT
structure Own (K : PySem.W.Frag) (pv : List V) (G F : Hp) (sd : SD) (σ : St) (H : Hp) (o : Nat ⊕ Nat → Addr → Prop) : Prop where
  fh : Same F H
  gh : Same G H
  fg : ∀ a, F a ≠ none → G a = none
  oh : ∀ i a, o i a → H a ≠ none ∧ F a = none ∧ G a = none
  oo : ∀ i j a, o i a → o j a → i = j
  len : σ.length = sd.sl.length
  sl : ∀ (i : Nat) (t : OT), sd.sl[i]? = some (S.ow t) → ∃ v : V, σ[i]? = some (some v) ∧ RepO K F H t v (o (.inl i))
  sp : ∀ (i j : Nat), sd.sl[i]? = some (S.pa j) → ∃ v : V, pv[j]? = some v ∧ σ[i]? = some (some v)
  pr : ∀ (j : Nat) (t : OT), sd.pa[j]? = some t → ∃ v : V, pv[j]? = some v ∧ RepO K F H t v (o (.inr j))
noncomputable def StR (K : PySem.W.Frag) (pv : List V) (G F : Hp) (sd : SD) (σ : St) (H : Hp) : Prop := ∃ o, Own K pv G F sd σ H o
/-- .. and one tree more, that no name reaches yet -/
noncomputable def StR1 (K : PySem.W.Frag) (pv : List V) (G F : Hp) (sd : SD) (σ : St) (H : Hp) (v : V) (t : OT) : Prop :=
  ∃ o P, Own K pv G F sd σ H o ∧ RepO K F H t v P ∧ ∀ a, P a → H a ≠ none ∧ F a = none ∧ G a = none ∧ ∀ i, ¬ o i a
section
variable {K : PySem.W.Frag} {pv : List V} {G F F' H H' : Hp} {sd : SD} {σ : St} {o : Nat ⊕ Nat → Addr → Prop}
theorem Own.fresh (W : Own K pv G F sd σ H o) {p : Addr} (hp : H p = none) : F p = none ∧ G p = none ∧ ∀ i, ¬ o i p :=
  ⟨W.fh.free hp, W.gh.free hp, fun i q => (W.oh i p q).1 hp⟩
/-- the heap grows, F grows by what is new -/
theorem Own.grow (W : Own K pv G F sd σ H o) (h : Same H H') (f : Same F F') (fh : Same F' H') (fn : ∀ a, F' a ≠ none → F a ≠ none ∨ H a = none) : Own K pv G F' sd σ H' o where
  fh := fh
  gh := W.gh.trans h
  fg := fun a ha => by
    rcases fn a ha with z | z
    · exact W.fg a z
    · exact W.gh.free z
  oh := fun i a q => by
    obtain ⟨h1, h2, h3⟩ := W.oh i a q
    refine ⟨?_, ?_, h3⟩
    · cases e : H a with
      | none => exact absurd e h1
      | some u => rw [h _ _ e]; simp
    · cases e : F' a with
      | none => rfl
      | some u =>
        rcases fn a (by rw [e]; simp) with z | z
        · exact absurd h2 z
        · exact absurd z h1
  oo := W.oo
  len := W.len
  sl := fun i t e => by
    obtain ⟨v, h1, h2⟩ := W.sl i t e
    refine ⟨v, h1, h2.mono f fun x hx => ⟨hx, ?_⟩⟩
    have n := (W.oh _ x hx).1
    cases e : H x with
    | none => exact absurd e n
    | some u => exact h _ _ e
  sp := W.sp
  pr := fun j t e => by
    obtain ⟨v, h1, h2⟩ := W.pr j t e
    refine ⟨v, h1, h2.mono f fun x hx => ⟨hx, ?_⟩⟩
    have n := (W.oh _ x hx).1
    cases e : H x with
    | none => exact absurd e n
    | some u => exact h _ _ e
theorem StR.fh (s : StR K pv G F sd σ H) : Same F H := let ⟨_, W⟩ := s; W.fh
/-- a new object, frozen at once -/
theorem StR.new {p : Addr} {u : HO} (s : StR K pv G F sd σ H) (hp : H p = none) : StR K pv G (upd F p u) sd σ (upd H p u) := by
  obtain ⟨o, W⟩ := s
  have n := W.fresh hp
  refine ⟨o, W.grow (Same.upd hp) (Same.upd n.1) (fun a x e => ?_) fun a ha => ?_⟩
  · by_cases h : a = p
    · subst h; rw [upd_same] at e ⊢; exact e
    · rw [upd_ne h] at e ⊢; exact W.fh a x e
  · by_cases h : a = p
    · subst h; exact .inr hp
    · rw [upd_ne h] at ha; exact .inl ha
theorem StR.sameNew {p : Addr} {u : HO} (s : StR K pv G F sd σ H) (hp : H p = none) : Same F (upd F p u) := by
  obtain ⟨o, W⟩ := s
  exact Same.upd (W.fresh hp).1
/-- a new list, not frozen -/
theorem StR.newL {p : Addr} {vs : List V} {ds : List D} (s : StR K pv G F sd σ H) (hp : H p = none) (r : Reps K F vs ds) : StR1 K pv G F sd σ (upd H p (.lst vs)) (.ref p) (.ol (ds.map .fz)) := by
  obtain ⟨o, W⟩ := s
  have n := W.fresh hp
  refine ⟨o, fun x => x = p, W.grow (Same.upd hp) (Same.refl _) (fun a x e => ?_) (fun a ha => .inl ha), ?_, fun a ha => ?_⟩
  · rw [upd_ne (fun z => by rw [z, n.1] at e; cases e)]; exact W.fh a x e
  · unfold RepO
    exact ⟨p, vs, rfl, rfl, upd_same, repOs_of _ r⟩
  · subst ha
    exact ⟨by rw [upd_same]; simp, n.1, n.2.1, n.2.2⟩
/-- the tree is frozen -/
theorem StR1.frz {v : V} {t : OT} (s : StR1 K pv G F sd σ H v t) : ∃ F', Same F F' ∧ StR K pv G F' sd σ H ∧ Rep K F' v t.view := by
  classical
  obtain ⟨o, P, W, r, k⟩ := s
  let F' : Hp := fun a => if P a then H a else F a
  have f1 : Same F F' := fun a u e => by
    have : ¬ P a := fun z => by rw [(k a z).2.1] at e; cases e
    show (if P a then H a else F a) = some u
    rw [if_neg this]; exact e
  have f2 : Same F' H := fun a u e => by
    by_cases z : P a
    · have e : (if P a then H a else F a) = some u := e
      rw [if_pos z] at e; exact e
    · have e : (if P a then H a else F a) = some u := e
      rw [if_neg z] at e; exact W.fh a u e
  refine ⟨F', f1, ⟨o, ⟨f2, W.gh, fun a ha => ?_, fun i a q => ?_, W.oo, W.len, fun i t e => ?_, W.sp, fun j t e => ?_⟩⟩, r.frz f1 fun x hx u e => ?_⟩
  · by_cases z : P a
    · exact (k a z).2.2.1
    · have ha : (if P a then H a else F a) ≠ none := ha
      rw [if_neg z] at ha; exact W.fg a ha
  · have z : ¬ P a := fun z => (k a z).2.2.2 i q
    obtain ⟨h1, h2, h3⟩ := W.oh i a q
    refine ⟨h1, ?_, h3⟩
    show (if P a then H a else F a) = none
    rw [if_neg z]; exact h2
  · obtain ⟨v, h1, h2⟩ := W.sl i t e
    exact ⟨v, h1, h2.mono f1 fun x hx => ⟨hx, rfl⟩⟩
  · obtain ⟨v, h1, h2⟩ := W.pr j t e
    exact ⟨v, h1, h2.mono f1 fun x hx => ⟨hx, rfl⟩⟩
  · show (if P x then H x else F x) = some u
    rw [if_pos hx]; exact e
theorem StR1.drop {v : V} {t : OT} (s : StR1 K pv G F sd σ H v t) : StR K pv G F sd σ H := let ⟨o, _, W, _⟩ := s; ⟨o, W⟩
theorem StR1.fz {v : V} {d : D} (s : StR K pv G F sd σ H) (r : Rep K F v d) : StR1 K pv G F sd σ H v (.fz d) := by
  obtain ⟨o, W⟩ := s
  refine ⟨o, fun _ => False, W, ?_, fun a z => z.elim⟩
  unfold RepO; exact r
/-- the tree becomes slot i's -/
theorem StR1.store {v : V} {t : OT} {i : Nat} (s : StR1 K pv G F sd σ H v t) (hi : i < sd.sl.length) : StR K pv G F { sd with sl := sd.sl.set i (.ow t) } (σ.set i (some v)) H := by
  classical
  obtain ⟨o, P, W, r, k⟩ := s
  refine ⟨fun j a => if j = .inl i then P a else o j a, ⟨W.fh, W.gh, W.fg, fun j a q => ?_, fun j l a q q' => ?_, by simpa using W.len, fun j t' e => ?_, fun j l e => ?_, fun j t' e => ?_⟩⟩
  · by_cases z : j = .inl i
    · rw [if_pos z] at q; exact ⟨(k a q).1, (k a q).2.1, (k a q).2.2.1⟩
    · rw [if_neg z] at q; exact W.oh j a q
  · by_cases z : j = .inl i
    · rw [if_pos z] at q
      by_cases y : l = .inl i
      · rw [z, y]
      · rw [if_neg y] at q'; exact absurd q' ((k a q).2.2.2 l)
    · rw [if_neg z] at q
      by_cases y : l = .inl i
      · rw [if_pos y] at q'; exact absurd q ((k a q').2.2.2 j)
      · rw [if_neg y] at q'; exact W.oo j l a q q'
  · have hs : i < σ.length := by rw [W.len]; exact hi
    by_cases z : i = j
    · subst z
      have e : (sd.sl.set i (S.ow t))[i]? = some (S.ow t') := e
      rw [List.getElem?_set_self hi] at e
      cases e
      refine ⟨v, List.getElem?_set_self hs, ?_⟩
      exact r.mono (Same.refl _) fun x hx => ⟨by show (if Sum.inl i = Sum.inl i then P x else o (Sum.inl i) x); rw [if_pos rfl]; exact hx, rfl⟩
    · have e : (sd.sl.set i (S.ow t))[j]? = some (S.ow t') := e
      rw [List.getElem?_set_ne z] at e
      obtain ⟨w, h1, h2⟩ := W.sl j t' e
      refine ⟨w, by rw [List.getElem?_set_ne z]; exact h1, ?_⟩
      exact h2.mono (Same.refl _) fun x hx => ⟨by show (if Sum.inl j = Sum.inl i then P x else o (Sum.inl j) x); rw [if_neg (fun y => z (Sum.inl.inj y).symm)]; exact hx, rfl⟩
  · by_cases z : i = j
    · subst z
      have e : (sd.sl.set i (S.ow t))[i]? = some (S.pa l) := e
      rw [List.getElem?_set_self hi] at e
      cases e
    · have e : (sd.sl.set i (S.ow t))[j]? = some (S.pa l) := e
      rw [List.getElem?_set_ne z] at e
      obtain ⟨w, h1, h2⟩ := W.sp j l e
      exact ⟨w, h1, by rw [List.getElem?_set_ne z]; exact h2⟩
  · obtain ⟨w, h1, h2⟩ := W.pr j t' e
    exact ⟨w, h1, h2.mono (Same.refl _) fun x hx => ⟨by show (if Sum.inr j = Sum.inl i then P x else o (Sum.inr j) x); rw [if_neg (by intro y; cases y)]; exact hx, rfl⟩⟩
end
end DL
namespace DL
open PySem PySem.Spec L2
structure Exn where
  C : Addr
  fs : Option (List (Str × D))
/-- what an expression gives: a value and the state behind; an exception; nothing told -/
inductive ER (α : Type) where
  | ok (a : α) (sd : SD)
  | rz (x : Exn) (sd : SD)
  | bad
noncomputable def ER.bind {α γ : Type} (r : ER α) (f : α → SD → ER γ) : ER γ :=
  match r with
  | .ok a sd => f a sd
  | .rz x sd => .rz x sd
  | .bad => .bad
noncomputable def ER.opt {α : Type} (o : Option α) (sd : SD) : ER α :=
  match o with
  | some a => .ok a sd
  | none => .bad
noncomputable def RepX (K : PySem.W.Frag) (F : Hp) (cls : Value) (dd : Option Addr) (x : Exn) : Prop :=
  cls = .ref x.C ∧ match x.fs with
  | none => dd = none
  | some l => ∃ (d : Addr) (fvs : List (Str × V)), dd = some d ∧ F d = some (.xd fvs) ∧ fvs.map (·.1) = l.map (·.1) ∧ Reps K F (fvs.map (·.2)) (l.map (·.2))
theorem RepX.mono {K : PySem.W.Frag} {F F' : Hp} {cls : Value} {dd : Option Addr} {x : Exn} (e : Same F F') (h : RepX K F cls dd x) : RepX K F' cls dd x := by
  obtain ⟨h1, h2⟩ := h
  refine ⟨h1, ?_⟩
  revert h2
  cases x.fs with
  | none => exact id
  | some l => exact fun ⟨d, fvs, a, b, c, r⟩ => ⟨d, fvs, a, e _ _ b, c, r.mono e⟩
/-- a result's relation: G, F, the state, the heap, the slots, what lies there, what is meant -/
noncomputable abbrev RSt (β α : Type) := Hp → Hp → SD → Hp → L2.St → β → α → Prop
noncomputable def Meets {α β : Type} (K : PySem.W.Frag) (pv : List V) (W : WX) (G : Hp) (σ : L2.St) (RS : RSt β α) (p : Bool) (sd : SD) (F H : Hp) (r : ER α) (Q : β → Hp → Prop) (P : Prop) : Prop :=
  match r with
  | .ok a sd' => (∀ v F' H', Same F F' → StR K pv G F' sd' σ H' → RS G F' sd' H' σ v a → (p = true → Same H H' ∧ sd' = sd) → Q v H') → P
  | .rz x sd' => (∀ cls dd F' H', Same F F' → StR K pv G F' sd' σ H' → RepX K F' cls dd x → W cls dd σ H') → P
  | .bad => True
section
variable {α β γ δ : Type} {K : PySem.W.Frag} {pv : List V} {W : WX} {G F H : Hp} {σ : L2.St} {sd : SD} {p q : Bool}
theorem Meets.bind {RS : RSt β α} {RS' : RSt δ γ} {r : ER α} {f : α → SD → ER γ} {Q : δ → Hp → Prop} {k : β → Hp → Prop} {P : Prop} (h : Meets K pv W G σ RS p sd F H r k P)
    (g : ∀ v F1 H1 a sd1, Same F F1 → StR K pv G F1 sd1 σ H1 → RS G F1 sd1 H1 σ v a → (p = true → Same H H1 ∧ sd1 = sd) → Meets K pv W G σ RS' q sd1 F1 H1 (f a sd1) Q (k v H1)) :
    Meets K pv W G σ RS' (p && q) sd F H (r.bind f) Q P := by
  cases r with
  | bad => exact True.intro
  | rz x sd' => exact h
  | ok a sd1 =>
    show Meets K pv W G σ RS' (p && q) sd F H (f a sd1) Q P
    have h' : (∀ v F' H', Same F F' → StR K pv G F' sd1 σ H' → RS G F' sd1 H' σ v a → (p = true → Same H H' ∧ sd1 = sd) → k v H') → P := h
    have g' := fun v F1 H1 s1 s2 s3 s4 => g v F1 H1 a sd1 s1 s2 s3 s4
    revert g'
    cases f a sd1 with
    | bad => exact fun _ => True.intro
    | rz x sd2 =>
      intro g' hW
      refine h' fun v F1 H1 s1 s2 s3 s4 => ?_
      exact g' v F1 H1 s1 s2 s3 s4 fun cls dd F2 H2 t1 t2 t3 => hW cls dd F2 H2 (s1.trans t1) t2 t3
    | ok c sd2 =>
      intro g' hQ
      refine h' fun v F1 H1 s1 s2 s3 s4 => ?_
      refine g' v F1 H1 s1 s2 s3 s4 fun w F2 H2 t1 t2 t3 t4 => hQ w F2 H2 (s1.trans t1) t2 t3 fun z => ?_
      rw [Bool.and_eq_true] at z
      obtain ⟨a1, a2⟩ := s4 z.1
      obtain ⟨b1, b2⟩ := t4 z.2
      exact ⟨a1.trans b1, b2.trans a2⟩
/-- the same value another way -/
theorem Meets.imp {f : α → γ} {RS : RSt β α} {RS' : RSt δ γ} {r : ER α} {r' : ER γ} {Q : δ → Hp → Prop} {k : β → Hp → Prop} {P P' : Prop} (h : Meets K pv W G σ RS p sd F H r k P) (hP : P → P')
    (hr : r' = r.bind (fun a sd1 => .ok (f a) sd1)) (g : ∀ v F1 H1 a sd1, r = .ok a sd1 → Same F F1 → StR K pv G F1 sd1 σ H1 → RS G F1 sd1 H1 σ v a → (p = true → Same H H1 ∧ sd1 = sd) → (∀ w F2 H2, Same F1 F2 → StR K pv G F2 sd1 σ H2 → RS' G F2 sd1 H2 σ w (f a) → Same H1 H2 → Q w H2) → k v H1) :
    Meets K pv W G σ RS' p sd F H r' Q P' := by
  subst hr
  cases r with
  | bad => exact True.intro
  | rz x sd' => exact fun hW => hP (h hW)
  | ok a sd1 =>
    intro hQ
    refine hP (h fun v F1 H1 s1 s2 s3 s4 => g v F1 H1 a sd1 rfl s1 s2 s3 s4 fun w F2 H2 t1 t2 t3 t4 => hQ w F2 H2 (s1.trans t1) t2 t3 fun z => ?_)
    obtain ⟨a1, a2⟩ := s4 z
    exact ⟨a1.trans t4, a2⟩
/-- an answer at once -/
theorem Meets.here {RS : RSt β α} {a : α} {v : β} {Q : β → Hp → Prop} {P : Prop} (s : StR K pv G F sd σ H) (r : RS G F sd H σ v a) (hP : Q v H → P) : Meets K pv W G σ RS p sd F H (.ok a sd) Q P :=
  fun hQ => hP (hQ v F H (Same.refl _) s r fun _ => ⟨Same.refl _, rfl⟩)
end
/-- k: frozen; else to be read in the heap as it stands -/
noncomputable def RSx (K : PySem.W.Frag) (k : Bool) : RSt V D := fun _ F _ H _ v d => Rep K (if k = true then F else H) v d
noncomputable def RSo (K : PySem.W.Frag) (pv : List V) : RSt V OT := fun G F sd H σ v t => StR1 K pv G F sd σ H v t
noncomputable def RSl (K : PySem.W.Frag) (k : Bool) : RSt (List V) (List D) := fun _ F _ H _ vs ds => Reps K (if k = true then F else H) vs ds
noncomputable def RSb : RSt Bool Bool := fun _ _ _ _ _ b c => b = c
noncomputable def TrX (K : PySem.W.Frag) (pv : List V) (W : WX) (p k : Bool) (te : TE) (m : SD → ER D) : Prop := ∀ G F sd σ H Q, StR K pv G F sd σ H → Meets K pv W G σ (RSx K k) p sd F H (m sd) Q (te σ H Q)
noncomputable def TrO (K : PySem.W.Frag) (pv : List V) (W : WX) (p : Bool) (te : TE) (m : SD → ER OT) : Prop := ∀ G F sd σ H Q, StR K pv G F sd σ H → Meets K pv W G σ (RSo K pv) p sd F H (m sd) Q (te σ H Q)
noncomputable def TrA (K : PySem.W.Frag) (pv : List V) (W : WX) (p k : Bool) (ta : TA) (m : SD → ER (List D)) : Prop := ∀ G F sd σ H Q, StR K pv G F sd σ H → Meets K pv W G σ (RSl K k) p sd F H (m sd) Q (ta σ H Q)
noncomputable def TrT (K : PySem.W.Frag) (pv : List V) (W : WX) (p : Bool) (tt : TT) (m : SD → ER Bool) : Prop := ∀ G F sd σ H Q, StR K pv G F sd σ H → Meets K pv W G σ RSb p sd F H (m sd) Q (tt σ H Q)
/-- an expression: p: it changes nothing; k: its value is frozen -/
structure DX (X : Cx) (pv : List V) (W : WX) (p k : Bool) (e : Expr) (m : SD → ER D) : Prop where
  ex : ∃ te, PE X e te ∧ TrX X.K pv W p k te m
/-- an expression whose value is new -/
structure DO (X : Cx) (pv : List V) (W : WX) (p : Bool) (e : Expr) (m : SD → ER OT) : Prop where
  ex : ∃ te, PE X e te ∧ TrO X.K pv W p te m
structure DA (X : Cx) (pv : List V) (W : WX) (p k : Bool) (es : List Expr) (m : SD → ER (List D)) : Prop where
  ex : ∃ ta, PA X es ta ∧ TrA X.K pv W p k ta m
structure DT (X : Cx) (pv : List V) (W : WX) (p : Bool) (e : Expr) (m : SD → ER Bool) : Prop where
  ex : ∃ tt, PT X e tt ∧ TrT X.K pv W p tt m
/-- and, or -/
structure DW (X : Cx) (pv : List V) (W : WX) (p : Bool) (e : Expr) (m : SD → ER Bool) : Prop where
  ex : ∃ tt, PW X e tt ∧ TrT X.K pv W p tt m
noncomputable def mVar (i : Nat) : SD → ER D := fun sd => match sd.sl[i]? with
  | some (.ow (.fz d)) => .ok d sd
  | _ => .bad
/-- what stands there, to be read at once -/
noncomputable def mSee (i : Nat) : SD → ER D := fun sd => match sd.sl[i]? with
  | some (.ow t) => .ok t.view sd
  | some (.pa j) => ER.opt ((sd.pa[j]?).map OT.view) sd
  | _ => .bad
/-- what stands there, never changed from now on -/
noncomputable def mFrz (i : Nat) : SD → ER D := fun sd => match sd.sl[i]? with
  | some (.ow t) => .ok t.view { sd with sl := sd.sl.set i (.ow (.fz t.view)) }
  | _ => .bad
/-- what stands there, taken away -/
noncomputable def mTake (i : Nat) : SD → ER OT := fun sd => match sd.sl[i]? with
  | some (.ow t) => .ok t { sd with sl := sd.sl.set i .un }
  | _ => .bad
noncomputable def mC (d : D) : SD → ER D := fun sd => .ok d sd
noncomputable def mUn (f : D → Option D) (a : SD → ER D) : SD → ER D := fun sd => (a sd).bind fun x sd1 => ER.opt (f x) sd1
noncomputable def mOp (f : D → D → Option D) (a b : SD → ER D) : SD → ER D := fun sd => (a sd).bind fun x sd1 => (b sd1).bind fun y sd2 => ER.opt (f x y) sd2
noncomputable def mNil : SD → ER (List D) := fun sd => .ok [] sd
noncomputable def mCons (a : SD → ER D) (r : SD → ER (List D)) : SD → ER (List D) := fun sd => (a sd).bind fun x sd1 => (r sd1).bind fun xs sd2 => .ok (x :: xs) sd2
noncomputable def mCall (f : List D → Option D) (a : SD → ER (List D)) : SD → ER D := fun sd => (a sd).bind fun xs sd1 => ER.opt (f xs) sd1
noncomputable def mTup (a : SD → ER (List D)) : SD → ER D := fun sd => (a sd).bind fun xs sd1 => if xs.length ≤ 16777216 then .ok (.tup xs) sd1 else .bad
noncomputable def mLst (a : SD → ER (List D)) : SD → ER OT := fun sd => (a sd).bind fun xs sd1 => if xs.length ≤ 16777216 then .ok (.ol (xs.map .fz)) sd1 else .bad
noncomputable def mView (a : SD → ER OT) : SD → ER D := fun sd => (a sd).bind fun t sd1 => .ok t.view sd1
noncomputable def mOwn (a : SD → ER D) : SD → ER OT := fun sd => (a sd).bind fun d sd1 => .ok (.fz d) sd1
noncomputable def mTest (a : SD → ER D) : SD → ER Bool := fun sd => (a sd).bind fun x sd1 => match x with
  | .bl b => .ok b sd1
  | _ => .bad
noncomputable def mAnd (a b : SD → ER Bool) : SD → ER Bool := fun sd => (a sd).bind fun x sd1 => if x = true then b sd1 else .ok false sd1
noncomputable def mOr (a b : SD → ER Bool) : SD → ER Bool := fun sd => (a sd).bind fun x sd1 => if x = true then .ok true sd1 else b sd1
noncomputable def mNot (a : SD → ER Bool) : SD → ER Bool := fun sd => (a sd).bind fun x sd1 => .ok (!x) sd1
noncomputable def mIf (c : SD → ER Bool) (a b : SD → ER D) : SD → ER D := fun sd => (c sd).bind fun x sd1 => if x = true then a sd1 else b sd1
section
variable {X : Cx} {pv : List V} {W : WX} {p q k l : Bool} {e a b : Expr} {es : List Expr}
theorem RSx.see {K : PySem.W.Frag} {k : Bool} {G F H : Hp} {sd : SD} {σ : L2.St} {v : V} {d : D} (r : RSx K k G F sd H σ v d) (s : StR K pv G F sd σ H) : Rep K H v d := by
  unfold RSx at r
  cases k with
  | true => exact Rep.mono s.fh r
  | false => exact r
theorem RSl.see {K : PySem.W.Frag} {k : Bool} {G F H : Hp} {sd : SD} {σ : L2.St} {v : List V} {d : List D} (r : RSl K k G F sd H σ v d) (s : StR K pv G F sd σ H) : Reps K H v d := by
  unfold RSl at r
  cases k with
  | true => exact Reps.mono s.fh r
  | false => exact r
/-- a frozen value may be seen -/
theorem DX.see {m : SD → ER D} (h : DX X pv W p true e m) : DX X pv W p false e m := by
  obtain ⟨te, h1, h2⟩ := h
  refine ⟨te, h1, fun G F sd σ H Q s => ?_⟩
  have z := h2 G F sd σ H Q s
  revert z
  cases m sd with
  | bad => exact id
  | rz x sd1 => exact id
  | ok d sd1 => exact fun z hQ => z fun v F1 H1 s1 s2 s3 s4 => hQ v F1 H1 s1 s2 (RSx.see s3 s2) s4
theorem DO.frz {m : SD → ER OT} (h : DO X pv W p e m) : DX X pv W p true e (mView m) := by
  obtain ⟨te, h1, h2⟩ := h
  refine ⟨te, h1, fun G F sd σ H Q s => ?_⟩
  refine Meets.imp (f := OT.view) (h2 G F sd σ H Q s) id rfl fun v F1 H1 t sd1 _ s1 s2 s3 s4 hQ => ?_
  obtain ⟨F2, t1, t2, t3⟩ := StR1.frz s3
  exact hQ v F2 H1 t1 t2 t3 (Same.refl _)
theorem DO.see {m : SD → ER OT} (h : DO X pv W p e m) : DX X pv W p false e (mView m) := h.frz.see
theorem DX.own {m : SD → ER D} (h : DX X pv W p true e m) : DO X pv W p e (mOwn m) := by
  obtain ⟨te, h1, h2⟩ := h
  refine ⟨te, h1, fun G F sd σ H Q s => ?_⟩
  refine Meets.imp (f := OT.fz) (h2 G F sd σ H Q s) id rfl fun v F1 H1 t sd1 _ s1 s2 s3 s4 hQ => ?_
  exact hQ v F1 H1 (Same.refl _) s2 (StR1.fz s2 s3) (Same.refl _)
theorem dx_var {i : Nat} {x : Str} {pos : Pos} (h : PE X (.Name x pos) (tVar i)) : DX X pv W true true (.Name x pos) (mVar i) := by
  refine ⟨_, h, fun G F sd σ H Q s => ?_⟩
  unfold mVar
  split
  · rename_i d e
    obtain ⟨o, w⟩ := id s
    obtain ⟨v, h1, h2⟩ := w.sl i _ e
    unfold RepO at h2
    exact Meets.here s (show RSx X.K true G F sd H σ v d from h2) fun q => ⟨v, h1, q⟩
  · exact True.intro
theorem dx_see {i : Nat} {x : Str} {pos : Pos} (h : PE X (.Name x pos) (tVar i)) : DX X pv W true false (.Name x pos) (mSee i) := by
  refine ⟨_, h, fun G F sd σ H Q s => ?_⟩
  unfold mSee
  split
  · rename_i t e
    obtain ⟨o, w⟩ := id s
    obtain ⟨v, h1, h2⟩ := w.sl i _ e
    exact Meets.here s (show RSx X.K false G F sd H σ v t.view from h2.frz w.fh fun _ _ _ z => z) fun q => ⟨v, h1, q⟩
  · rename_i j e
    obtain ⟨o, w⟩ := id s
    obtain ⟨v, h1, h2⟩ := w.sp i j e
    cases e2 : sd.pa[j]? with
    | none => exact True.intro
    | some t =>
      obtain ⟨v', h3, h4⟩ := w.pr j t e2
      rw [h1] at h3; cases h3
      exact Meets.here s (show RSx X.K false G F sd H σ v t.view from h4.frz w.fh fun _ _ _ z => z) fun q => ⟨v, h2, q⟩
  · exact True.intro
theorem dx_c {v : V} {d : D} (h : PE X e (tC v)) (r : ∀ F, Rep X.K F v d) : DX X pv W true true e (mC d) :=
  ⟨_, h, fun G F sd σ H Q s => Meets.here s (r F) id⟩
theorem dx_int {i : Int} {j : Nat} {pos : Pos} : DX X pv W true true (.Constant (.int i) j pos) (mC (.int i)) := dx_c pe_int fun _ => .int i
theorem dx_bl {b : Bool} {j : Nat} {pos : Pos} : DX X pv W true true (.Constant (.bool b) j pos) (mC (.bl b)) := dx_c pe_bl fun _ => .bl b
theorem dx_non {j : Nat} {pos : Pos} : DX X pv W true true (.Constant .none j pos) (mC .non) := dx_c pe_non fun _ => .non
theorem dx_str {x : Str} {j : Nat} {pos : Pos} : DX X pv W true true (.Constant (.str x) j pos) (mC (.str x)) := dx_c pe_str fun _ => .str x
/-- a flat value has its own V -/
noncomputable def D.sc : D → Option V
  | .non => some .non
  | .bl b => some (.bl b)
  | .int i => some (.int i)
  | .str x => some (.str x)
  | .ty n => some (.ty n)
  | .cls C => some (.ref C)
  | _ => none
theorem Rep.sc {K : PySem.W.Frag} {F : Hp} {d : D} {v : V} (h : d.sc = some v) : Rep K F v d := by
  cases d <;> simp only [D.sc, Option.some.injEq, reduceCtorEq] at h <;> subst h <;> constructor
/-- an operator that gives a flat value -/
noncomputable def Op2S (K : PySem.W.Frag) (r : R2) (f : D → D → Option D) : Prop := ∀ H x y a b c, Rep K H x a → Rep K H y b → f a b = some c → ∃ v, c.sc = some v ∧ ∀ Q : VK, Q v H → r x y H Q
theorem tr_op2 {r : R2} {f : D → D → Option D} {ta tb : TE} {ma mb : SD → ER D} (hf : Op2S X.K r f) (ha : TrX X.K pv W p k ta ma) (hb : TrX X.K pv W q l tb mb) (hk : (k || q) = true) : TrX X.K pv W (p && q) true (tOp r ta tb) (mOp f ma mb) := by
  intro G F sd σ H Q s
  refine Meets.bind (ha G F sd σ H _ s) fun x F1 H1 dx sd1 s1 s2 s3 s4 => ?_
  have hq : q = (q && true) := by cases q <;> rfl
  rw [hq]
  refine Meets.bind (hb G F1 sd1 σ H1 _ s2) fun y F2 H2 dy sd2 t1 t2 t3 t4 => ?_
  have rx : Rep X.K H2 x dx := by
    cases k with
    | true => exact Rep.mono t2.fh (Rep.mono t1 s3)
    | false => exact Rep.mono (t4 (by simpa using hk)).1 s3
  cases e : f dx dy with
  | none => exact True.intro
  | some c =>
    obtain ⟨v, h1, h2⟩ := hf H2 x y dx dy c rx (RSx.see t3 t2) e
    exact Meets.here t2 (show RSx X.K true G F2 sd2 H2 σ v c from Rep.sc h1) (h2 Q)
theorem dx_op2 {op : Operator} {r : R2} {f : D → D → Option D} {pos : Pos} {ma mb : SD → ER D} (ho : OpR X (binaryOp op) r) (hf : Op2S X.K r f) (ha : DX X pv W p k a ma) (hb : DX X pv W q l b mb) (hk : (k || q) = true := by rfl) :
    DX X pv W (p && q) true (.BinOp a op b pos) (mOp f ma mb) := by
  obtain ⟨ta, a1, a2⟩ := ha
  obtain ⟨tb, b1, b2⟩ := hb
  exact ⟨_, pe_op ho a1 b1, tr_op2 hf a2 b2 hk⟩
theorem dx_cmp {op : CmpOp} {r : R2} {f : D → D → Option D} {pos : Pos} {ma mb : SD → ER D} (ho : OpR X (compareOp op) r) (hf : Op2S X.K r f) (ha : DX X pv W p k a ma) (hb : DX X pv W q l b mb) (hm : behindInMarks op b = false) (hk : (k || q) = true := by rfl) :
    DX X pv W (p && q) true (.Compare a [op] [b] pos) (mOp f ma mb) := by
  obtain ⟨ta, a1, a2⟩ := ha
  obtain ⟨tb, b1, b2⟩ := hb
  exact ⟨_, pe_cmpR ho a1 b1 hm, tr_op2 hf a2 b2 hk⟩
theorem tr_test {te : TE} {m : SD → ER D} (h : TrX X.K pv W p k te m) : TrT X.K pv W p (tTest te) (mTest m) := by
  intro G F sd σ H Q s
  have hp : p = (p && true) := by cases p <;> rfl
  rw [hp]
  refine Meets.bind (h G F sd σ H _ s) fun x F1 H1 dx sd1 s1 s2 s3 s4 => ?_
  have r := RSx.see s3 s2
  cases dx with
  | bl b =>
    cases r
    exact Meets.here s2 (show RSb G F1 sd1 H1 σ b b from rfl) fun q => ⟨b, rfl, q⟩
  | _ => exact True.intro
theorem dt_cmp {op : CmpOp} {r : R2} {f : D → D → Option D} {pos : Pos} {ma mb : SD → ER D} (ho : OpR X (compareOp op) r) (hf : Op2S X.K r f) (ha : DX X pv W p k a ma) (hb : DX X pv W q l b mb) (hm : behindInMarks op b = false) (hk : (k || q) = true := by rfl) :
    DT X pv W (p && q) (.Compare a [op] [b] pos) (mTest (mOp f ma mb)) := by
  obtain ⟨ta, a1, a2⟩ := ha
  obtain ⟨tb, b1, b2⟩ := hb
  exact ⟨_, pt_cmpR ho a1 b1 hm, tr_test (tr_op2 hf a2 b2 hk)⟩
/-- an expression that gives True or False, as a test -/
theorem dt_val {m : SD → ER D} (h : DX X pv W p k e m) (he : ∀ whole, isTrue e X.env whole = (do let v ← whole; standAt e.pos; holding [v] (truthy v)) := by intro _; rfl) : DT X pv W p e (mTest m) := by
  obtain ⟨te, a1, a2⟩ := h
  exact ⟨_, pt_val a1 he, tr_test a2⟩
theorem DW.dt {m : SD → ER Bool} (h : DW X pv W p e m) : DT X pv W p e m := by
  obtain ⟨tt, a1, a2⟩ := h
  exact ⟨tt, a1.pt, a2⟩
theorem tr_not {tt : TT} {m : SD → ER Bool} (h : TrT X.K pv W p tt m) : TrT X.K pv W p (tNot tt) (mNot m) := by
  intro G F sd σ H Q s
  have hp : p = (p && true) := by cases p <;> rfl
  rw [hp]
  refine Meets.bind (h G F sd σ H _ s) fun x F1 H1 dx sd1 s1 s2 s3 s4 => ?_
  exact Meets.here s2 (show RSb G F1 sd1 H1 σ (!x) (!dx) from congrArg _ s3) id
theorem dt_not {pos : Pos} {m : SD → ER Bool} (h : DT X pv W p e m) : DT X pv W p (.UnaryOp .Not e pos) (mNot m) := by
  obtain ⟨tt, a1, a2⟩ := h
  exact ⟨_, pt_not a1, tr_not a2⟩
theorem tr_and {t u : TT} {ma mb : SD → ER Bool} (h : TrT X.K pv W p t ma) (h2 : TrT X.K pv W q u mb) : TrT X.K pv W (p && q) (tAnd t u) (mAnd ma mb) := by
  intro G F sd σ H Q s
  refine Meets.bind (h G F sd σ H _ s) fun x F1 H1 dx sd1 s1 s2 s3 s4 => ?_
  have s3 : x = dx := s3
  subst s3
  cases x with
  | true => exact h2 G F1 sd1 σ H1 Q s2
  | false => exact Meets.here s2 (show RSb G F1 sd1 H1 σ false false from rfl) id
theorem tr_or {t u : TT} {ma mb : SD → ER Bool} (h : TrT X.K pv W p t ma) (h2 : TrT X.K pv W q u mb) : TrT X.K pv W (p && q) (tOr t u) (mOr ma mb) := by
  intro G F sd σ H Q s
  refine Meets.bind (h G F sd σ H _ s) fun x F1 H1 dx sd1 s1 s2 s3 s4 => ?_
  have s3 : x = dx := s3
  subst s3
  cases x with
  | false => exact h2 G F1 sd1 σ H1 Q s2
  | true => exact Meets.here s2 (show RSb G F1 sd1 H1 σ true true from rfl) id
theorem dw_and1 {pos : Pos} {m : SD → ER Bool} (h : DT X pv W p a m) : DW X pv W p (.BoolOp .And [a] pos) m := by
  obtain ⟨tt, a1, a2⟩ := h
  exact ⟨tt, pw_and1 a1, a2⟩
theorem dw_or1 {pos : Pos} {m : SD → ER Bool} (h : DT X pv W p a m) : DW X pv W p (.BoolOp .Or [a] pos) m := by
  obtain ⟨tt, a1, a2⟩ := h
  exact ⟨tt, pw_or1 a1, a2⟩
theorem dw_and {pos : Pos} {ma mb : SD → ER Bool} (h : DT X pv W p a ma) (h2 : DW X pv W q (.BoolOp .And (b :: es) pos) mb) : DW X pv W (p && q) (.BoolOp .And (a :: b :: es) pos) (mAnd ma mb) := by
  obtain ⟨t, a1, a2⟩ := h
  obtain ⟨u, b1, b2⟩ := h2
  exact ⟨_, pw_and a1 b1, tr_and a2 b2⟩
theorem dw_or {pos : Pos} {ma mb : SD → ER Bool} (h : DT X pv W p a ma) (h2 : DW X pv W q (.BoolOp .Or (b :: es) pos) mb) : DW X pv W (p && q) (.BoolOp .Or (a :: b :: es) pos) (mOr ma mb) := by
  obtain ⟨t, a1, a2⟩ := h
  obtain ⟨u, b1, b2⟩ := h2
  exact ⟨_, pw_or a1 b1, tr_or a2 b2⟩
theorem da_nil : DA X pv W true true [] mNil := ⟨_, pa_nil, fun G F sd σ H Q s => Meets.here s (show RSl X.K true G F sd H σ [] [] from .nil) id⟩
theorem da_cons {ma : SD → ER D} {mr : SD → ER (List D)} (ha : DX X pv W p k e ma) (hr : DA X pv W q l es mr) (hk : (k || q) = true := by rfl) (hs : starEach (e :: es) X.env = (false, eval e X.env) :: starEach es X.env := by rfl) : DA X pv W (p && q) (k && l) (e :: es) (mCons ma mr) := by
  obtain ⟨te, a1, a2⟩ := ha
  obtain ⟨tr, b1, b2⟩ := hr
  refine ⟨_, pa_cons a1 b1 hs, fun G F sd σ H Q s => ?_⟩
  refine Meets.bind (a2 G F sd σ H _ s) fun x F1 H1 dx sd1 s1 s2 s3 s4 => ?_
  have hq : q = (q && true) := by cases q <;> rfl
  rw [hq]
  refine Meets.bind (b2 G F1 sd1 σ H1 _ s2) fun xs F2 H2 ds sd2 t1 t2 t3 t4 => ?_
  refine Meets.here t2 (show RSl X.K (k && l) G F2 sd2 H2 σ (x :: xs) (dx :: ds) from ?_) id
  show Reps X.K (if (k && l) = true then F2 else H2) (x :: xs) (dx :: ds)
  cases k with
  | true =>
    have r : Rep X.K F2 x dx := Rep.mono t1 s3
    cases l with
    | true => exact .cons r t3
    | false => exact .cons (Rep.mono t2.fh r) t3
  | false => exact .cons (Rep.mono (t4 (by simpa using hk)).1 s3) (RSl.see t3 t2)
theorem dx_tup {x1 : Nat} {pos : Pos} {m : SD → ER (List D)} (h : DA X pv W p true es m) : DX X pv W p true (.Tuple es x1 pos) (mTup m) := by
  obtain ⟨ta, a1, a2⟩ := h
  refine ⟨_, pe_tup a1, fun G F sd σ H Q s => ?_⟩
  have hp : p = (p && true) := by cases p <;> rfl
  rw [hp]
  refine Meets.bind (a2 G F sd σ H _ s) fun vs F1 H1 ds sd1 s1 s2 s3 s4 => ?_
  split
  · rename_i hl
    intro hQ
    refine ⟨by rw [Reps.length s3, sizeLine_eq]; exact hl, fun p hp => ?_⟩
    exact hQ _ _ _ (s2.sameNew hp) (s2.new hp) (.tup upd_same (Reps.mono (s2.sameNew hp) s3)) fun _ => ⟨Same.upd hp, rfl⟩
  · exact True.intro
theorem do_lst {pos : Pos} {m : SD → ER (List D)} (h : DA X pv W p true es m) : DO X pv W p (.List es pos) (mLst m) := by
  obtain ⟨ta, a1, a2⟩ := h
  refine ⟨_, pe_lst a1, fun G F sd σ H Q s => ?_⟩
  have hp : p = (p && true) := by cases p <;> rfl
  rw [hp]
  refine Meets.bind (a2 G F sd σ H _ s) fun vs F1 H1 ds sd1 s1 s2 s3 s4 => ?_
  split
  · rename_i hl
    intro hQ
    refine ⟨by rw [Reps.length s3, sizeLine_eq]; exact hl, fun p hp => ?_⟩
    have z := s2.newL hp s3
    exact hQ _ _ _ (Same.refl _) z.drop z fun _ => ⟨Same.upd hp, rfl⟩
  · exact True.intro
theorem dx_if {c : Expr} {pos : Pos} {mc : SD → ER Bool} {ma mb : SD → ER D} {q' : Bool} (hc : DT X pv W p c mc) (ha : DX X pv W q k a ma) (hb : DX X pv W q' k b mb) : DX X pv W (p && (q && q')) k (.IfExp c a b pos) (mIf mc ma mb) := by
  obtain ⟨tc, c1, c2⟩ := hc
  obtain ⟨ta, a1, a2⟩ := ha
  obtain ⟨tb, b1, b2⟩ := hb
  refine ⟨_, pe_ifExp c1 a1 b1, fun G F sd σ H Q s => ?_⟩
  refine Meets.bind (c2 G F sd σ H _ s) fun x F1 H1 dx sd1 s1 s2 s3 s4 => ?_
  have s3 : x = dx := s3
  subst s3
  have wk : ∀ {p' : Bool} {r : ER D} {P : Prop}, ((q && q') = true → p' = true) → Meets X.K pv W G σ (RSx X.K k) p' sd1 F1 H1 r Q P → Meets X.K pv W G σ (RSx X.K k) (q && q') sd1 F1 H1 r Q P := fun {p' r P} hpp z => by
    revert z
    cases r with
    | bad => exact id
    | rz y sd2 => exact id
    | ok d sd2 => exact fun z hQ => z fun v F2 H2 t1 t2 t3 t4 => hQ v F2 H2 t1 t2 t3 fun w => t4 (hpp w)
  cases x with
  | true => exact wk (fun z => (Bool.and_eq_true _ _ ▸ z : q = true ∧ q' = true).1) (a2 G F1 sd1 σ H1 Q s2)
  | false => exact wk (fun z => (Bool.and_eq_true _ _ ▸ z : q = true ∧ q' = true).2) (b2 G F1 sd1 σ H1 Q s2)
end
open PyProof.Rows (envOfC IntsAre AllBare)
/-- room for calls, and no guard on the stack -/
structure RoomG (k : Nat) (A : Around) : Prop where
  r : Room k A
  g : A.guards = some []
section
variable {j k : Nat} {A : Around}
theorem RoomG.mono (x : RoomG k A) (h : j ≤ k) : RoomG j A := ⟨x.r.mono h, x.g⟩
theorem RoomG.in1 (x : RoomG (k + 1) A) : RoomG k A.in1 := ⟨x.r.in1, x.g⟩
theorem RoomG.deeper (x : RoomG (k + 1) A) (env : Env) : RoomG k (A.deeper env) := ⟨x.r.deeper env, x.g⟩
theorem RoomG.make (x : RoomG (k + 1) A) (C : Addr) (us : List Value) (kw : List (Str × Value)) : RoomG k (A.under (.builtin "type.__call__" ⟨.ref C :: us, kw⟩)) := ⟨x.r.make C us kw, by
  have e := x.g
  first | exact e | (simp [Around.under, Code.isGuard, guardIds, e])⟩
theorem RoomG.units (x : RoomG k A) : A.units + 64 < cLine := x.r.units
theorem RoomG.un (x : RoomG k A) : A.units + 16 * k + 200 < cLine := x.r.un
theorem RoomG.hd (x : RoomG k A) : A.handled = none := x.r.hd
theorem RoomG.depth (x : RoomG k A) : A.depth < recursionLimit := x.r.depth
end
structure FnG (P : Program) (w : World) (K : PySem.W.Frag) (mg : Str → Option Value) (base : Heap) (C : CXT) (k : Nat) (f : Addr) (fd : FuncData) (ps : List Str) (sp : Sp) : Prop where
  len : ∀ vs H Q E, sp vs H Q E → vs.length = ps.length
  run : ∀ (A : Around) (out : List Env) (s : Shared) (H : Hp) (args : Args) (us : List Value) (vs : List V) (Q : VK) (E : XK), RoomG k A → Env0 P w K mg base A out s H → BindsTo s fd args (ps.zip us) → Vals vs us → sp vs H Q E →
    codeAny (model P w) A (.call (.ref f) args) (CR C out P w H s Q E) s
theorem FnG.mono {P : Program} {w : World} {K : PySem.W.Frag} {mg : Str → Option Value} {base : Heap} {C : CXT} {j k : Nat} {f : Addr} {fd : FuncData} {ps : List Str} {sp : Sp} (F : FnG P w K mg base C j f fd ps sp) (h : j ≤ k) : FnG P w K mg base C k f fd ps sp :=
  ⟨F.len, fun A out s H args us vs Q E x => F.run A out s H args us vs Q E (x.mono h)⟩
/-- a def by its body, there -/
theorem fun_okG {P : Program} {w : World} {K : PySem.W.Frag} {mg : Str → Option Value} {base : Heap} {x qual : Str} {st : Stmt} {f : Addr} {fd : FuncData} {N ps : List Str} {k : Nat} {sp : Sp} (F : Fun K x qual st f fd) (S : FnScope N ps (defScope st)) (len : ∀ vs H Q E, sp vs H Q E → vs.length = ps.length)
    (body : ∀ (cdv : Value) (A : Around) (out : List Env) (s : Shared) (H : Hp) (vs : List V) (Q : VK) (E : XK), RoomG k (A.deeper (envOfC qual (defScope st) s.heap.objs.size f cdv)) → sp vs H Q E →
      ∃ t, PSs (cxOf (L2.CX P w) P w K mg base N qual (defScope st) f cdv A out s H E) (defBody st) t ∧ t { nx := fun _ H' => Q .non H', rt := Q } (L2.start N vs) H) : FnG P w K mg base (L2.CX P w) (k + 1) f fd ps sp := by
  obtain ⟨oc, od, kV, doc, pm, an, cdv, ct, osl, rfl, lk, hcd⟩ := F.ex
  refine ⟨len, fun A out s H args us vs Q E room e0 bnd rel hsp => ?_⟩
  have grows := fun (b : Addr) (o : Obj) (e : base.get? b = some o) => (e0.bs b o e).1
  have inK : K.In s.heap := e0.mod.kin.keeps grows
  refine codeAny_call_function room.depth (inK _ _ lk) rfl S.co S.gen rfl (PySem.W.codeRec_of inK hcd) (bnd _ _ _ _ (wpAny_newFunctionEnv_cells S.kind (fun y hy => ?_) fun env he s1 z => ?_))
  · rcases S.par y.1 (List.of_mem_zip (a := y.1) (b := y.2) hy).1 with q | q
    · exact .inl q
    · exact .inr ⟨q, PySem.W.cellsFrom_some _ _ _ (.inl q)⟩
  · subst he
    obtain ⟨t, ht, hq⟩ := body cdv A out s H vs Q E (room.deeper _) hsp
    have I := inv_start (CX := L2.CX P w) (E := E) S room.hd e0 (len _ _ _ _ hsp) rel z
    refine ⟨(e0.mod.nolimit.keeps grows).keeps z.toInCall.keep, codeAny_func (wpAny_mono (ht.run [] s1 (L2.start N vs) H _ I hq) (fun fl s2 hs => ?_) fun e s2 hs => hs)⟩
    cases fl with
    | ret u =>
      obtain ⟨v, _, H2, J, rv, q⟩ := hs
      exact ⟨v, H2, J.os, J.bare, J.base, J.hok, rv, q⟩
    | next =>
      obtain ⟨_, H2, J, q⟩ := hs
      exact ⟨V.non, H2, J.os, J.bare, J.base, J.hok, rfl, q⟩
    | brk => exact (let ⟨_, _, _, q⟩ := hs; False.elim q)
    | cont => exact (let ⟨_, _, _, q⟩ := hs; False.elim q)
section
variable {X : Cx} {W : WX} {f : Addr} {fd : FuncData} {ps : List Str} {sp : Sp} {k : Nat} {pins : List (Addr × Obj)} {σ : L2.St} {H : Hp} {s : Shared} {Q : VK} {us : List Value} {vs : List V} {x : Str} {p pos : Pos} {e : Expr} {es : List Expr} {t : TA} {E : L2.St → XK}
theorem code_G (F : FnG X.prog X.w X.K X.mg X.base (L2.CX X.prog X.w) k f fd ps sp) (hr : RoomG k X.A) (hb : Binds X.K fd ps []) (hx : PassesAt (L2.CX X.prog X.w) X σ (E σ)) (I : Inv X pins σ H s) (r : Vals vs us) (h : sp vs H Q (E σ)) :
    codeAny (model X.prog X.w) X.A (.call (.ref f) ⟨us, []⟩) (wants (EP X pins σ Q) X.xe) s := by
  have hl : (us ++ []).length = ps.length := by rw [List.append_nil, ← r.length, F.len _ _ _ _ h]
  have b := hb s us I.kIn hl
  rw [List.append_nil] at b
  refine codeAny_mono (F.run X.A X.stack s H ⟨us, []⟩ us vs Q (E σ) hr I.env0 b r h) fun res s2 hq => ?_
  cases res with
  | error e => exact hx pins H s e s2 I hq
  | ok fl =>
    cases fl with
    | ret u => exact I.after hq
    | next => exact hq.elim
    | brk => exact hq.elim
    | cont => exact hq.elim
theorem run_G (F : FnG X.prog X.w X.K X.mg X.base (L2.CX X.prog X.w) k f fd ps sp) (hr : RoomG k X.A) (hb : Binds X.K fd ps []) (hx : PassesAt (L2.CX X.prog X.w) X σ (E σ)) (I : Inv X pins σ H s) (r : Vals vs us) (h : sp vs H Q (E σ)) :
    wpAny (model X.prog X.w) X.A (call (.ref f) us) (EP X pins σ Q) X.xe s := wpAny_call (code_G F hr hb hx I r h)
/-- f(e, ..) -/
theorem pe_callG (F : FnG X.prog X.w X.K X.mg X.base (L2.CX X.prog X.w) k f fd ps sp) (hr : RoomG k X.A) (hg : Gl X x) (hm : X.mg x = some (.ref f)) (hk : PySem.W.keepIn X.K (.ref f) = true) (hb : Binds X.K fd ps []) (tk : Takes X W) (ha : PA X (e :: es) t)
    (hdb : (x == ("__debug__" : Str)) = false := by decide) (he : starEach (e :: es) X.env = (false, eval e X.env) :: starEach es X.env := by rfl) (hpl : (backTo pos (starEach es X.env)).any (·.1) = false := by rfl) :
    PE X (.Call (.Name x p) (e :: es) [] pos) (fun σ H Q => t σ H fun vs H1 => sp vs H1 Q (WE W σ)) :=
  ⟨fun pins s σ H Q I h => wpAny_Call_Name_kw (ld_glob I hg hm (PySem.W.callWith_K (h₀ := X.base) I.ok.mod.kin hk (thn (ha.run pos pins s σ H _ I h) fun us s1 ⟨vs, H1, I1, r, q⟩ => ⟨I1.kIn, run_G F hr hb (passAt tk σ) I1 r q⟩) he hpl) hdb)⟩
end
theorem law_G {P : Program} {w : World} {K : PySem.W.Frag} {mg mb : Str → Option Value} {k : Nat} {fa a : Addr} {fd : FuncData} {x : Str} {sp : Sp} {sc : Shared} {vs : List Value} {ns : List Int} (kx : K.In sc.heap) (g1 : sc.heap.Ns mainGlobals mg) (g2 : sc.heap.Ns builtinsNs mb)
    (g3 : ∀ x : Str, x ≠ "__name__" → mb x = bootBuiltins x) (g4 : sc.heap.NoLimit) (g5 : sc.gens = #[]) (ha : sc.heap.get? a = some { cls := .type "list", data := .seq vs.toArray }) (hi : IntsAre vs ns) (hl : ns.length ≤ sizeLine) (hr : RoomG k callerA)
    (F : ∀ base : Heap, K.In base → base.Ns mainGlobals mg → FnG P w K mg base (L2.CX P w) k fa fd [x] sp) (hbind : ∀ (s : Shared) (u : Value), BindsTo s fd ⟨[u], []⟩ [(x, u)]) (hsp : ∀ T : Hp, Only T → SqL K T a (ns.map V.int) → sp [.ref a] T (fun v _ => v = .bl true) fun _ _ _ => False)
    (no : ∀ T e s', L2.CX P w [] T sc (fun _ _ _ => False) e s' → False) : codeAny (model P w) callerA (.call (.ref fa) ⟨[.ref a], []⟩) (fun r s' => r = .ok (.ret (.bool true)) ∧ OldK sc.heap s'.heap ∧ s'.os = sc.os ∧ AllBare s'.gens) sc := by
  have go : ∀ T : Hp, Only T → SqL K T a (ns.map V.int) → HOk P w T sc.heap → (∀ b, T b ≠ none → b = a) → (T a ≠ none → K.lookup a = none) → codeAny (model P w) callerA (.call (.ref fa) ⟨[.ref a], []⟩) (fun r s' => r = .ok (.ret (.bool true)) ∧ OldK sc.heap s'.heap ∧ s'.os = sc.os ∧ AllBare s'.gens) sc := fun T only seq hok one own => by
    have isA : ∀ {b : Addr}, (∃ u, T b = some u) → b = a := fun {b} ⟨u, q⟩ => one b (by rw [q]; simp)
    have free : ∀ {b : Addr} {P : Prop}, (b = a → False) → T b = none := fun {b _} n => by
      cases q : T b with
      | none => rfl
      | some u => exact (n (isA ⟨u, q⟩)).elim
    have ns2 : ∀ {b : Addr} {m : Str → Option Value}, sc.heap.Ns b m → (hidT sc.heap T).Ns b m := fun {b m} ⟨o, es, ep, e, d, r⟩ => ⟨o, es, ep, hidT_get e (free (P := True) fun z => by
      subst z
      rw [ha] at e; cases e
      exact (nomatch (show Data.seq vs.toArray _ = Data.dict es ep from d))), d, r⟩
    have kin : K.In (hidT sc.heap T) := fun b o e => hidT_get (kx b o e) (by
      cases q : T b with
      | none => rfl
      | some u =>
        have z := isA ⟨u, q⟩
        subst z
        rw [own (by rw [q]; simp)] at e; cases e)
    obtain ⟨mc, c1, c2⟩ := g4
    have e0 : Env0 P w K mg (hidT sc.heap T) callerA [] sc T := ⟨rfl, ⟨kin, ns2 g1, ⟨mb, ns2 g2, g3⟩, ⟨mc, ns2 c1, c2⟩⟩, fun b o e => of_hidT e, Nat.le_of_eq (hidT_size _ _), trivial, fun b hb => (nomatch (show b ∈ ([] : List Addr) from hb)), hok, .of_eq g5⟩
    refine codeAny_mono ((F _ kin (ns2 g1)).run callerA [] sc T ⟨[.ref a], []⟩ [.ref a] [.ref a] _ _ hr e0 (hbind sc (.ref a)) (.cons rfl .nil) (hsp T only seq)) fun r s2 h => ?_
    cases r with
    | error e => exact (no T e s2 h).elim
    | ok fl =>
      cases fl with
      | next => exact h.elim
      | brk => exact h.elim
      | cont => exact h.elim
      | ret u =>
        obtain ⟨v, T2, os, bare, un, hok2, ru, q⟩ := h
        have q : v = .bl true := q
        subst q
        cases (show u = Value.bool true from ru)
        refine ⟨rfl, OldK.of_keep fun b o e => ?_, os, bare⟩
        cases q : T b with
        | none => exact un.keep b o e q (fun z => nomatch (show b ∈ ([] : List Addr) from z)) (by simp)
        | some u =>
          rcases only b with z | ⟨ob, xs, z⟩
          · rw [q] at z; cases z
          · obtain ⟨m1, _⟩ := hok b _ z
            obtain ⟨m2, _⟩ := hok2 b _ (un.frzs b ob _ z)
            rw [e] at m1; cases m1
            exact m2
  cases hk : K.lookup a with
  | some o =>
    have e := kx a o hk
    rw [ha] at e
    cases e
    exact go (fun _ => none) (fun _ => .inl rfl) (.inr ⟨_, vs.toArray, _, hk, rfl, rfl, rfl, by rw [List.size_toArray, hi.length]; exact hl, by simpa using vals_ints hi⟩) (fun b u z => nomatch (show (none : Option HO) = some u from z)) (fun b z => absurd rfl z) fun z => absurd rfl z
  | none =>
    let T : Hp := fun b => if b = a then some (.frz { cls := .type "list", data := .seq vs.toArray } (.lst (ns.map V.int))) else none
    have t1 : T a = some (.frz { cls := .type "list", data := .seq vs.toArray } (.lst (ns.map V.int))) := if_pos rfl
    have t2 : ∀ b, b ≠ a → T b = none := fun b n => if_neg n
    refine go T (fun b => ?_) (.inl (.inr ⟨_, t1⟩)) (fun b u z => ?_) (fun b z => Classical.byContradiction fun n => z (t2 b n)) fun _ => hk
    · by_cases e : b = a
      · subst e; exact .inr ⟨_, _, t1⟩
      · exact .inl (t2 b e)
    · by_cases e : b = a
      · subst e
        rw [t1] at z; cases z
        exact ⟨ha, by rw [List.length_map]; exact hl, vs, _, vals_ints hi, ha⟩
      · rw [t2 b e] at z; cases z
open PyProof.Rows in
theorem walk_G {l : PySem.W.OpenLaw} {n k : Nat} {q : Program} {loose : List Str} {XP : (Str → Option Value) → Heap → Prop} {YP : World → Heap → Prop} {d : DefRec} {K : Params → PySem.W.Frag} {sp : World → Sp} {x : Str} (hn : l.most = some n) (hn2 : n ≤ sizeLine) (hdf : d.params.defaults = []) (hr : RoomG k callerA)
    (hY : ∀ (w : World) (h : Heap), YP w h → (K w.params).In h) (F : ∀ (w : World) (mg : Str → Option Value) (fa : Addr) (h : Heap), (K w.params).In h → h.Ns mainGlobals mg → mg d.name = some (.ref fa) → ∃ fd : FuncData, (∀ (s : Shared) (u : Value), BindsTo s fd ⟨[u], []⟩ [(x, u)]) ∧
        ∀ base : Heap, (K w.params).In base → base.Ns mainGlobals mg → FnG l.prog w (K w.params) mg base (L2.CX l.prog w) k fa fd [x] (sp w))
    (hsp : ∀ (w : World) (H : Hp) (a : Addr) (ns : List Int), ns.length ≤ n → (∀ z ∈ ns, Builtin.Int.intBits z ≤ 1048576) → SqL (K w.params) H a (ns.map V.int) → sp w [.ref a] H (fun v _ => v = .bl true) fun _ _ _ => False) : PySem.W.WalkO q loose XP YP l.row.toRowW d [] (fun f vs => PySem.call f vs) := by
  refine Att.attach_callB hn hdf fun w s0 sc mg mb fa o pm cd doc a vs ns G Y ho hd hcd hmg hobj hints hlen hbits hg => ?_
  obtain ⟨fd, hb, hF⟩ := F w mg fa _ (hY w _ Y) G.T.g hmg
  refine law_G (hY w _ Y) G.T.g G.T.b G.T.builtins G.T.nolimit hg hobj hints (Nat.le_trans hlen hn2) hr hF hb (fun T _ hS => hsp w T a ns hlen hbits hS) fun T e s' z => ?_
  obtain ⟨_, _, _, _, _, _, _, _, _, _, _, _, q⟩ := z
  exact q
end DL
namespace DL
open PySem PySem.Spec L2
section
variable {K : PySem.W.Frag} {pv : List V} {G F H : Hp} {sd : SD} {σ : L2.St}
theorem StR1.hide {v : V} {t : OT} (s : StR1 K pv G F sd σ H v t) : ∃ G', Same G G' ∧ StR K pv G' F sd σ H ∧
    ∀ (F' : Hp) (sd' : SD) (σ' : L2.St) (H' : Hp), Same F F' → StR K pv G' F' sd' σ' H' → StR1 K pv G F' sd' σ' H' v t := by
  classical
  obtain ⟨o, P, W, r, k⟩ := s
  refine ⟨fun a => if P a then H a else G a, fun a u e => ?_, ⟨o, W.fh, fun a u e => ?_, fun a ha => ?_, fun i a q => ?_, W.oo, W.len, W.sl, W.sp, W.pr⟩, fun F' sd' σ' H' f ⟨o', W'⟩ => ?_⟩
  · have : ¬ P a := fun z => by rw [(k a z).2.2.1] at e; cases e
    show (if P a then H a else G a) = some u
    rw [if_neg this]; exact e
  · have e : (if P a then H a else G a) = some u := e
    by_cases z : P a
    · rw [if_pos z] at e; exact e
    · rw [if_neg z] at e; exact W.gh a u e
  · show (if P a then H a else G a) = none
    by_cases z : P a
    · exact absurd (k a z).2.1 ha
    · rw [if_neg z]; exact W.fg a ha
  · obtain ⟨h1, h2, h3⟩ := W.oh i a q
    refine ⟨h1, h2, ?_⟩
    show (if P a then H a else G a) = none
    rw [if_neg fun z => (k a z).2.2.2 i q]; exact h3
  · have up : ∀ a, P a → (if P a then H a else G a) = H a := fun a z => if_pos z
    have hH : ∀ a, P a → H' a = H a := fun a z => by
      cases e : H a with
      | none => exact absurd e (k a z).1
      | some u => exact W'.gh a u (by rw [up a z]; exact e)
    have ne : ∀ a, P a → (if P a then H a else G a) ≠ none := fun a z => by rw [up a z]; exact (k a z).1
    refine ⟨o', P, ⟨W'.fh, fun a u e => ?_, fun a ha => ?_, fun i a q => ?_, W'.oo, W'.len, W'.sl, W'.sp, W'.pr⟩, r.mono f fun x hx => ⟨hx, hH x hx⟩, fun a z => ⟨?_, ?_, (k a z).2.2.1, fun i q => ?_⟩⟩
    · by_cases z : P a
      · rw [(k a z).2.2.1] at e; cases e
      · exact W'.gh a u (by show (if P a then H a else G a) = some u; rw [if_neg z]; exact e)
    · by_cases z : P a
      · exact (k a z).2.2.1
      · have q := W'.fg a ha
        have q : (if P a then H a else G a) = none := q
        rw [if_neg z] at q; exact q
    · obtain ⟨h1, h2, h3⟩ := W'.oh i a q
      refine ⟨h1, h2, ?_⟩
      by_cases z : P a
      · exact (k a z).2.2.1
      · have h3 : (if P a then H a else G a) = none := h3
        rw [if_neg z] at h3; exact h3
    · rw [hH a z]; exact (k a z).1
    · cases e : F' a with
      | none => rfl
      | some u => exact absurd (W'.fg a (by rw [e]; simp)) (ne a z)
    · exact absurd (W'.oh i a q).2.2 (ne a z)
/-- what a callee is given: all of the frame is put aside but the trees handed over. idx: where the callee's parameters come from -/
theorem StR.give {ts : List OT} {vs : List V} (s : StR K pv G F sd σ H) (hr : Reps K F vs (ts.map OT.view) ∧ ts.all (fun t => match t with | .fz _ => true | _ => false) = true) :
    ∃ G', StR K vs G' F ⟨[], ts⟩ [] H ∧ (∀ (F' H' : Hp) (v : V) (t : OT) (sd1 : SD), Same F F' → StR1 K vs G' F' sd1 [] H' v t → StR1 K pv G F' sd σ H' v t ∧ Same H H') ∧
      (∀ (F' H' : Hp) (sd1 : SD), Same F F' → StR K vs G' F' sd1 [] H' → StR K pv G F' sd σ H' ∧ Same H H') := by
  classical
  obtain ⟨hr, hfz⟩ := hr
  obtain ⟨o, W⟩ := s
  have back : ∀ (F' H' : Hp) (o' : Nat ⊕ Nat → Addr → Prop) (sd1 : SD), Same F F' → Own K vs (fun a => if F a = none then H a else none) F' sd1 [] H' o' → Same H H' ∧ Own K pv G F' sd σ H' o := fun F' H' o' sd1 f W' => by
    have hh : Same H H' := fun a u e => by
      by_cases z : F a = none
      · exact W'.gh a u (by show (if F a = none then H a else none) = some u; rw [if_pos z]; exact e)
      · cases e2 : F a with
        | none => exact absurd e2 z
        | some u' =>
          have := W.fh a u' e2
          rw [e] at this; cases this
          exact W'.fh a u (f a u e2)
    refine ⟨hh, W.grow hh f W'.fh fun a ha => ?_⟩
    by_cases z : F a = none
    · have q := W'.fg a ha
      have q : (if F a = none then H a else none) = none := q
      rw [if_pos z] at q; exact .inr q
    · exact .inl z
  refine ⟨fun a => if F a = none then H a else none, ⟨fun _ _ => False, W.fh, fun a u e => ?_, fun a ha => if_neg ha, fun i a q => q.elim, fun i j a q => q.elim, rfl, fun i t e => by simp at e, fun i j e => by simp at e, fun j t e => ?_⟩, fun F' H' v t sd1 f ⟨o', P, W', r, k⟩ => ?_, fun F' H' sd1 f ⟨o', W'⟩ => ?_⟩
  · have e : (if F a = none then H a else none) = some u := e
    by_cases z : F a = none
    · rw [if_pos z] at e; exact e
    · rw [if_neg z] at e; cases e
  · have e : ts[j]? = some t := e
    have ef := List.all_eq_true.mp hfz t (List.mem_of_getElem? e)
    cases t with
    | fz d =>
      obtain ⟨v, h1, h2⟩ := hr.get (i := j) (d := d) (by rw [List.getElem?_map, e]; rfl)
      refine ⟨v, h1, ?_⟩
      unfold RepO; exact h2
    | ol _ => cases ef
    | od _ _ _ => cases ef
    | oi _ _ _ => cases ef
  · obtain ⟨hh, W2⟩ := back F' H' o' sd1 f W'
    refine ⟨⟨o, P, W2, r, fun a z => ?_⟩, hh⟩
    obtain ⟨h1, h2, h3, h4⟩ := k a z
    have fa : F a = none := f.free h2
    have h3 : (if F a = none then H a else none) = none := h3
    rw [if_pos fa] at h3
    exact ⟨h1, h2, W.gh.free h3, fun i q => (W.oh i a q).1 h3⟩
  · obtain ⟨hh, W2⟩ := back F' H' o' sd1 f W'
    exact ⟨⟨o, W2⟩, hh⟩
end
noncomputable def spD (K : PySem.W.Frag) (n : Nat) (m : List OT → ER OT) : Sp := fun vs H Q E => vs.length = n ∧ ∃ (G F : Hp) (ts : List OT), ts.length = n ∧ StR K vs G F ⟨[], ts⟩ [] H ∧
  match m ts with
  | .ok t sd' => ∀ v F' H', Same F F' → StR1 K vs G F' sd' [] H' v t → Q v H'
  | .rz x sd' => ∀ cls dd F' H', Same F F' → StR K vs G F' sd' [] H' → RepX K F' cls dd x → E cls dd H'
  | .bad => False
noncomputable def mCall0 (f : List OT → ER OT) (a : SD → ER (List D)) : SD → ER OT := fun sd => (a sd).bind fun ds sd1 =>
  match f (ds.map .fz) with
  | .ok t _ => .ok t sd1
  | .rz x _ => .rz x sd1
  | .bad => .bad
theorem map_view_fz : ∀ ds : List D, (ds.map OT.fz).map OT.view = ds
  | [] => rfl
  | d :: ds => by rw [List.map_cons, List.map_cons, OT.view, map_view_fz ds]
theorem all_fz : ∀ ds : List D, (ds.map OT.fz).all (fun t => match t with | .fz _ => true | _ => false) = true
  | [] => rfl
  | d :: ds => by rw [List.map_cons, List.all_cons, all_fz ds]; rfl
section
variable {X : Cx} {pv : List V} {W : WX} {p q k l : Bool} {e a b : Expr} {es : List Expr}
theorem tr_call0 {sp : Sp} {n : Nat} {f : List OT → ER OT} {ta : TA} {m : SD → ER (List D)} (hsp : sp = spD X.K n f) (hn : ∀ sd ds sd1, m sd = .ok ds sd1 → ds.length = n) (h : TrA X.K pv W p true ta m) :
    TrO X.K pv W p (fun σ H Q => ta σ H fun vs H1 => sp vs H1 Q (WE W σ)) (mCall0 f m) := by
  intro G F sd σ H Q s
  subst hsp
  have z := h G F sd σ H (fun vs H1 => spD X.K n f vs H1 Q (WE W σ)) s
  unfold mCall0
  have hn := hn sd
  revert z hn
  cases m sd with
  | bad => exact fun _ _ => True.intro
  | rz x sd1 => exact fun z _ => z
  | ok ds sd1 =>
    intro z hn
    have hn := hn ds sd1 rfl
    show Meets X.K pv W G σ (RSo X.K pv) p sd F H (match f (ds.map .fz) with
      | .ok t _ => .ok t sd1
      | .rz x _ => .rz x sd1
      | .bad => .bad) Q _
    cases e : f (ds.map .fz) with
    | bad => exact True.intro
    | rz x s' =>
      intro hW
      refine z fun vs F1 H1 s1 s2 s3 s4 => ?_
      have s3 : Reps X.K F1 vs ds := s3
      obtain ⟨G', g1, g2, g3⟩ := s2.give (ts := ds.map .fz) (vs := vs) ⟨by rw [map_view_fz]; exact s3, all_fz ds⟩
      refine ⟨by rw [s3.length, hn], G', F1, ds.map .fz, by rw [List.length_map, hn], g1, ?_⟩
      rw [e]
      intro cls dd F2 H2 t1 t2 t3
      obtain ⟨u1, u2⟩ := g3 F2 H2 s' t1 t2
      exact hW cls dd F2 H2 (s1.trans t1) u1 t3
    | ok t s' =>
      intro hQ
      refine z fun vs F1 H1 s1 s2 s3 s4 => ?_
      have s3 : Reps X.K F1 vs ds := s3
      obtain ⟨G', g1, g2, g3⟩ := s2.give (ts := ds.map .fz) (vs := vs) ⟨by rw [map_view_fz]; exact s3, all_fz ds⟩
      refine ⟨by rw [s3.length, hn], G', F1, ds.map .fz, by rw [List.length_map, hn], g1, ?_⟩
      rw [e]
      intro v F2 H2 t1 t2
      obtain ⟨u1, u2⟩ := g2 F2 H2 v t s' t1 t2
      refine hQ v F2 H2 (s1.trans t1) u1.drop u1 fun hp => ?_
      obtain ⟨a1, a2⟩ := s4 hp
      exact ⟨a1.trans u2, a2⟩
/-- how many arguments there are -/
theorem len_nil : ∀ sd ds sd1, mNil sd = .ok ds sd1 → ds.length = 0 := fun sd ds sd1 h => by cases h; rfl
theorem len_cons {ma : SD → ER D} {mr : SD → ER (List D)} {n : Nat} (h : ∀ sd ds sd1, mr sd = .ok ds sd1 → ds.length = n) : ∀ sd ds sd1, mCons ma mr sd = .ok ds sd1 → ds.length = n + 1 := fun sd ds sd1 e => by
  unfold mCons at e
  cases e1 : ma sd with
  | bad => rw [e1] at e; cases e
  | rz x s => rw [e1] at e; cases e
  | ok d s =>
    rw [e1] at e
    have e : (mr s).bind (fun xs sd2 => ER.ok (d :: xs) sd2) = .ok ds sd1 := e
    cases e2 : mr s with
    | bad => rw [e2] at e; cases e
    | rz x s2 => rw [e2] at e; cases e
    | ok ys s2 =>
      rw [e2] at e
      cases e
      rw [List.length_cons, h s ys _ e2]
theorem do_call0 {n j : Nat} {f : Addr} {fd : FuncData} {ps : List Str} {x : Str} {pp pos : Pos} {g : List OT → ER OT} {m : SD → ER (List D)} (F : FnG X.prog X.w X.K X.mg X.base (L2.CX X.prog X.w) j f fd ps (spD X.K n g)) (hr : RoomG j X.A) (hg : Gl X x)
    (hm : X.mg x = some (.ref f)) (hk : PySem.W.keepIn X.K (.ref f) = true) (hb : Binds X.K fd ps []) (tk : Takes X W) (ha : DA X pv W p true (e :: es) m) (hn : ∀ sd ds sd1, m sd = .ok ds sd1 → ds.length = n)
    (hdb : (x == ("__debug__" : Str)) = false := by decide) (he : starEach (e :: es) X.env = (false, eval e X.env) :: starEach es X.env := by rfl) (hpl : (backTo pos (starEach es X.env)).any (·.1) = false := by rfl) :
    DO X pv W p (.Call (.Name x pp) (e :: es) [] pos) (mCall0 g m) := by
  obtain ⟨ta, a1, a2⟩ := ha
  exact ⟨_, pe_callG F hr hg hm hk hb tk a1 hdb he hpl, tr_call0 rfl hn a2⟩
end
inductive Fl where
  | nx (sd : SD)
  | rt (t : OT) (sd : SD)
  | bk (sd : SD)
  | ct (sd : SD)
  | rz (x : Exn) (sd : SD)
  | bad
noncomputable def ER.stm {α : Type} (r : ER α) (f : α → SD → Fl) : Fl :=
  match r with
  | .ok a sd => f a sd
  | .rz x sd => .rz x sd
  | .bad => .bad
noncomputable def Fl.seq (r : Fl) (f : SD → Fl) : Fl :=
  match r with
  | .nx sd => f sd
  | r => r
noncomputable def MeetsS (K : PySem.W.Frag) (pv : List V) (W : WX) (G : Hp) (F : Hp) (r : Fl) (D : Ends) (P : Prop) : Prop :=
  match r with
  | .nx sd' => (∀ F' σ' H', Same F F' → StR K pv G F' sd' σ' H' → D.nx σ' H') → P
  | .rt t sd' => (∀ v F' σ' H', Same F F' → StR1 K pv G F' sd' σ' H' v t → D.rt v H') → P
  | .bk sd' => (∀ F' σ' H', Same F F' → StR K pv G F' sd' σ' H' → D.bk σ' H') → P
  | .ct sd' => (∀ F' σ' H', Same F F' → StR K pv G F' sd' σ' H' → D.ct σ' H') → P
  | .rz x sd' => (∀ cls dd F' σ' H', Same F F' → StR K pv G F' sd' σ' H' → RepX K F' cls dd x → W cls dd σ' H') → P
  | .bad => True
noncomputable def TrS (K : PySem.W.Frag) (pv : List V) (W : WX) (ts : TS) (m : SD → Fl) : Prop := ∀ G F sd σ H D, StR K pv G F sd σ H → MeetsS K pv W G F (m sd) D (ts D σ H)
structure DS (X : Cx) (pv : List V) (W : WX) (st : Stmt) (m : SD → Fl) : Prop where
  ex : ∃ ts, PS X st ts ∧ TrS X.K pv W ts m
structure DSs (X : Cx) (pv : List V) (W : WX) (st : List Stmt) (m : SD → Fl) : Prop where
  ex : ∃ ts, PSs X st ts ∧ TrS X.K pv W ts m
section
variable {α β : Type} {K : PySem.W.Frag} {pv : List V} {W : WX} {G F H : Hp} {σ : L2.St} {sd : SD} {p q : Bool}
theorem Meets.stm {RS : RSt β α} {r : ER α} {f : α → SD → Fl} {D : Ends} {k : β → Hp → Prop} {P : Prop} (h : Meets K pv W G σ RS p sd F H r k P)
    (g : ∀ v F1 H1 a sd1, Same F F1 → StR K pv G F1 sd1 σ H1 → RS G F1 sd1 H1 σ v a → MeetsS K pv W G F1 (f a sd1) D (k v H1)) : MeetsS K pv W G F (r.stm f) D P := by
  cases r with
  | bad => exact True.intro
  | rz x sd' => exact fun hW => h fun cls dd F1 H1 s1 s2 s3 => hW cls dd F1 σ H1 s1 s2 s3
  | ok a sd1 =>
    show MeetsS K pv W G F (f a sd1) D P
    have h' : (∀ v F' H', Same F F' → StR K pv G F' sd1 σ H' → RS G F' sd1 H' σ v a → (p = true → Same H H' ∧ sd1 = sd) → k v H') → P := h
    have g' := fun v F1 H1 s1 s2 s3 => g v F1 H1 a sd1 s1 s2 s3
    revert g'
    cases f a sd1 with
    | bad => exact fun _ => True.intro
    | rz x sd2 => exact fun g' hW => h' fun v F1 H1 s1 s2 s3 s4 => g' v F1 H1 s1 s2 s3 fun cls dd F2 σ2 H2 t1 t2 t3 => hW cls dd F2 σ2 H2 (s1.trans t1) t2 t3
    | nx sd2 => exact fun g' hQ => h' fun v F1 H1 s1 s2 s3 s4 => g' v F1 H1 s1 s2 s3 fun F2 σ2 H2 t1 t2 => hQ F2 σ2 H2 (s1.trans t1) t2
    | bk sd2 => exact fun g' hQ => h' fun v F1 H1 s1 s2 s3 s4 => g' v F1 H1 s1 s2 s3 fun F2 σ2 H2 t1 t2 => hQ F2 σ2 H2 (s1.trans t1) t2
    | ct sd2 => exact fun g' hQ => h' fun v F1 H1 s1 s2 s3 s4 => g' v F1 H1 s1 s2 s3 fun F2 σ2 H2 t1 t2 => hQ F2 σ2 H2 (s1.trans t1) t2
    | rt t sd2 => exact fun g' hQ => h' fun v F1 H1 s1 s2 s3 s4 => g' v F1 H1 s1 s2 s3 fun v2 F2 σ2 H2 t1 t2 => hQ v2 F2 σ2 H2 (s1.trans t1) t2
theorem MeetsS.seq {r : Fl} {f : SD → Fl} {D : Ends} {N : L2.St → Hp → Prop} {P : Prop} (h : MeetsS K pv W G F r { D with nx := N } P)
    (g : ∀ F1 σ1 H1 sd1, Same F F1 → StR K pv G F1 sd1 σ1 H1 → MeetsS K pv W G F1 (f sd1) D (N σ1 H1)) : MeetsS K pv W G F (r.seq f) D P := by
  cases r with
  | bad => exact True.intro
  | rz x sd' => exact h
  | bk sd' => exact h
  | ct sd' => exact h
  | rt t sd' => exact h
  | nx sd1 =>
    show MeetsS K pv W G F (f sd1) D P
    have h' : (∀ F' σ' H', Same F F' → StR K pv G F' sd1 σ' H' → N σ' H') → P := h
    have g' := fun F1 σ1 H1 s1 s2 => g F1 σ1 H1 sd1 s1 s2
    revert g'
    cases f sd1 with
    | bad => exact fun _ => True.intro
    | rz x sd2 => exact fun g' hW => h' fun F1 σ1 H1 s1 s2 => g' F1 σ1 H1 s1 s2 fun cls dd F2 σ2 H2 t1 t2 t3 => hW cls dd F2 σ2 H2 (s1.trans t1) t2 t3
    | nx sd2 => exact fun g' hQ => h' fun F1 σ1 H1 s1 s2 => g' F1 σ1 H1 s1 s2 fun F2 σ2 H2 t1 t2 => hQ F2 σ2 H2 (s1.trans t1) t2
    | bk sd2 => exact fun g' hQ => h' fun F1 σ1 H1 s1 s2 => g' F1 σ1 H1 s1 s2 fun F2 σ2 H2 t1 t2 => hQ F2 σ2 H2 (s1.trans t1) t2
    | ct sd2 => exact fun g' hQ => h' fun F1 σ1 H1 s1 s2 => g' F1 σ1 H1 s1 s2 fun F2 σ2 H2 t1 t2 => hQ F2 σ2 H2 (s1.trans t1) t2
    | rt t sd2 => exact fun g' hQ => h' fun F1 σ1 H1 s1 s2 => g' F1 σ1 H1 s1 s2 fun v2 F2 σ2 H2 t1 t2 => hQ v2 F2 σ2 H2 (s1.trans t1) t2
theorem MeetsS.imp {r : Fl} {D : Ends} {P P' : Prop} (h : MeetsS K pv W G F r D P) (hP : P → P') : MeetsS K pv W G F r D P' := by
  cases r with
  | bad => exact True.intro
  | rz x sd' => exact fun z => hP (h z)
  | bk sd' => exact fun z => hP (h z)
  | ct sd' => exact fun z => hP (h z)
  | rt t sd' => exact fun z => hP (h z)
  | nx sd' => exact fun z => hP (h z)
end
noncomputable def sNil : SD → Fl := .nx
noncomputable def sSeq (a b : SD → Fl) : SD → Fl := fun sd => (a sd).seq b
noncomputable def sSet (i : Nat) (m : SD → ER OT) : SD → Fl := fun sd => (m sd).stm fun t sd1 => if i < sd1.sl.length then .nx { sd1 with sl := sd1.sl.set i (.ow t) } else .bad
noncomputable def sRet (m : SD → ER OT) : SD → Fl := fun sd => (m sd).stm fun t sd1 => .rt t sd1
noncomputable def sIf (c : SD → ER Bool) (a b : SD → Fl) : SD → Fl := fun sd => (c sd).stm fun x sd1 => if x = true then a sd1 else b sd1
noncomputable def sDrop (m : SD → ER D) : SD → Fl := fun sd => (m sd).stm fun _ sd1 => .nx sd1
noncomputable def sNever : SD → Fl := fun _ => .bad
noncomputable def sBreak : SD → Fl := .bk
noncomputable def sCont : SD → Fl := .ct
section
variable {X : Cx} {pv : List V} {W : WX} {p q k l : Bool} {e a b : Expr} {es : List Expr} {pos : Pos}
theorem dss_nil : DSs X pv W [] sNil := ⟨_, pss_nil, fun G F sd σ H D s hQ => hQ F σ H (Same.refl _) s⟩
theorem tr_seq {t u : TS} {ma mb : SD → Fl} (h1 : TrS X.K pv W t ma) (h2 : TrS X.K pv W u mb) : TrS X.K pv W (tSeq t u) (sSeq ma mb) := fun G F sd σ H D s =>
  MeetsS.seq (N := u D) (h1 G F sd σ H { D with nx := u D } s) fun F1 σ1 H1 sd1 s1 s2 => h2 G F1 sd1 σ1 H1 D s2
theorem dss_cons {st : Stmt} {rest : List Stmt} {ma mb : SD → Fl} (h1 : DS X pv W st ma) (h2 : DSs X pv W rest mb) : DSs X pv W (st :: rest) (sSeq ma mb) := by
  obtain ⟨t, a1, a2⟩ := h1
  obtain ⟨u, b1, b2⟩ := h2
  exact ⟨_, pss_cons a1 b1, tr_seq a2 b2⟩
theorem dss_one {st : Stmt} {ma : SD → Fl} (h1 : DS X pv W st ma) : DSs X pv W [st] ma := by
  obtain ⟨t, a1, a2⟩ := h1
  exact ⟨_, pss_one a1, a2⟩
theorem tr_set {te : TE} {i : Nat} {m : SD → ER OT} (h : TrO X.K pv W p te m) : TrS X.K pv W (tAsg te (gName i)) (sSet i m) := by
  intro G F sd σ H D s
  refine Meets.stm (h G F sd σ H _ s) fun v F1 H1 t sd1 s1 s2 s3 => ?_
  split
  · rename_i hi
    exact fun hQ => hQ F1 _ H1 (Same.refl _) (StR1.store s3 hi)
  · exact True.intro
theorem ds_set {i : Nat} {x : Str} {pos' : Pos} {m : SD → ER OT} (hN : X.N.Nodup) (hi : X.N[i]? = some x) (hx : Loc X.env.scope x) (he : DO X pv W p e m) (hs : swapsWith e (some (.Name x pos')) pos.line X.env = pure false := by rfl)
    (hf : X.fn x = true ∨ X.env.scope.names.lookup x = some .local := by first | exact .inl rfl | exact .inr rfl | assumption) : DS X pv W (.Assign [.Name x pos'] e pos) (sSet i m) := by
  obtain ⟨te, a1, a2⟩ := he
  exact ⟨_, ps_set hN hi hx a1 hs hf, tr_set a2⟩
theorem ds_ret {m : SD → ER OT} (he : DO X pv W p e m) : DS X pv W (.Return (some e) pos) (sRet m) := by
  obtain ⟨te, a1, a2⟩ := he
  refine ⟨_, ps_ret a1, fun G F sd σ H D s => ?_⟩
  exact Meets.stm (a2 G F sd σ H D.rt s) fun v F1 H1 t sd1 s1 s2 s3 hQ => hQ v F1 σ H1 (Same.refl _) s3
theorem ds_if {c : Expr} {sa sb : List Stmt} {mc : SD → ER Bool} {ma mb : SD → Fl} (hc : DT X pv W p c mc) (ha : DSs X pv W sa ma) (hb : DSs X pv W sb mb) : DS X pv W (.If c sa sb pos) (sIf mc ma mb) := by
  obtain ⟨tc, c1, c2⟩ := hc
  obtain ⟨t, a1, a2⟩ := ha
  obtain ⟨u, b1, b2⟩ := hb
  refine ⟨_, ps_if c1 a1 b1, fun G F sd σ H D s => ?_⟩
  refine Meets.stm (c2 G F sd σ H _ s) fun x F1 H1 dx sd1 s1 s2 s3 => ?_
  have s3 : x = dx := s3
  subst s3
  cases x with
  | true => exact a2 G F1 sd1 σ H1 D s2
  | false => exact b2 G F1 sd1 σ H1 D s2
end
/-- the slots at the entry: a parameter that is handed over as a tree is the caller's -/
noncomputable def slotsOf : Nat → List OT → List S
  | _, [] => []
  | j, .fz d :: ts => .ow (.fz d) :: slotsOf (j + 1) ts
  | j, _ :: ts => .pa j :: slotsOf (j + 1) ts
theorem slotsOf_length : ∀ (j : Nat) (ts : List OT), (slotsOf j ts).length = ts.length
  | _, [] => rfl
  | j, .fz d :: ts => by rw [slotsOf, List.length_cons, List.length_cons, slotsOf_length]
  | j, .ol _ :: ts => by rw [slotsOf, List.length_cons, List.length_cons, slotsOf_length] <;> exact fun _ h => nomatch h
  | j, .od _ _ _ :: ts => by rw [slotsOf, List.length_cons, List.length_cons, slotsOf_length] <;> exact fun _ h => nomatch h
  | j, .oi _ _ _ :: ts => by rw [slotsOf, List.length_cons, List.length_cons, slotsOf_length] <;> exact fun _ h => nomatch h
theorem slotsOf_get : ∀ (j : Nat) (ts : List OT) (i : Nat) (t : OT), ts[i]? = some t → (slotsOf j ts)[i]? = some (match t with | .fz d => .ow (.fz d) | _ => .pa (j + i))
  | j, [], i, t, h => by simp at h
  | j, .fz d :: ts, 0, t, h => by simp at h; subst h; rw [slotsOf]; rfl
  | j, .ol _ :: ts, 0, t, h => by simp at h; subst h; rw [slotsOf]; rfl; exact fun _ h => nomatch h
  | j, .od _ _ _ :: ts, 0, t, h => by simp at h; subst h; rw [slotsOf]; rfl; exact fun _ h => nomatch h
  | j, .oi _ _ _ :: ts, 0, t, h => by simp at h; subst h; rw [slotsOf]; rfl; exact fun _ h => nomatch h
  | j, .fz d :: ts, i + 1, t, h => by
    rw [slotsOf]
    have z := slotsOf_get (j + 1) ts i t (by simpa using h)
    rw [List.getElem?_cons_succ, z, Nat.add_right_comm, Nat.add_assoc]
  | j, .ol _ :: ts, i + 1, t, h => by
    rw [slotsOf]
    · have z := slotsOf_get (j + 1) ts i t (by simpa using h)
      rw [List.getElem?_cons_succ, z, Nat.add_right_comm, Nat.add_assoc]
    · exact fun _ h => nomatch h
  | j, .od _ _ _ :: ts, i + 1, t, h => by
    rw [slotsOf]
    · have z := slotsOf_get (j + 1) ts i t (by simpa using h)
      rw [List.getElem?_cons_succ, z, Nat.add_right_comm, Nat.add_assoc]
    · exact fun _ h => nomatch h
  | j, .oi _ _ _ :: ts, i + 1, t, h => by
    rw [slotsOf]
    · have z := slotsOf_get (j + 1) ts i t (by simpa using h)
      rw [List.getElem?_cons_succ, z, Nat.add_right_comm, Nat.add_assoc]
    · exact fun _ h => nomatch h
/-- the state at a def's entry; n: the names of the def -/
noncomputable def entry (n : Nat) (ts : List OT) : SD := ⟨slotsOf 0 ts ++ List.replicate (n - ts.length) .un, ts⟩
/-- a body as a def's mirror -/
noncomputable def asDef (n : Nat) (body : SD → Fl) : List OT → ER OT := fun ts => match body (entry n ts) with
  | .rt t sd => .ok t ⟨[], sd.pa⟩
  | .nx sd => .ok (.fz .non) ⟨[], sd.pa⟩
  | .rz x sd => .rz x ⟨[], sd.pa⟩
  | _ => .bad
section
variable {K : PySem.W.Frag} {pv : List V} {G F H : Hp} {sd : SD} {σ : L2.St}
theorem StR.bare (s : StR K pv G F sd σ H) : StR K pv G F ⟨[], sd.pa⟩ [] H := by
  obtain ⟨o, W⟩ := s
  exact ⟨o, W.fh, W.gh, W.fg, W.oh, W.oo, rfl, fun i t e => by simp at e, fun i j e => by simp at e, W.pr⟩
theorem StR1.bare {v : V} {t : OT} (s : StR1 K pv G F sd σ H v t) : StR1 K pv G F ⟨[], sd.pa⟩ [] H v t := by
  obtain ⟨o, P, W, r⟩ := s
  exact ⟨o, P, ⟨W.fh, W.gh, W.fg, W.oh, W.oo, rfl, fun i t e => by simp at e, fun i j e => by simp at e, W.pr⟩, r⟩
theorem StR.enter {ts : List OT} {vs : List V} {N : List Str} (s : StR K vs G F ⟨[], ts⟩ [] H) (hl : vs.length = ts.length) (hN : ts.length ≤ N.length) : StR K vs G F (entry N.length ts) (L2.start N vs) H := by
  obtain ⟨o, W⟩ := s
  have at1 : ∀ (i : Nat) (S1 : S), (entry N.length ts).sl[i]? = some S1 → S1 ≠ .un → ∃ t v, ts[i]? = some t ∧ vs[i]? = some v ∧ (L2.start N vs)[i]? = some (some v) ∧ S1 = (match t with | .fz d => .ow (.fz d) | _ => .pa i) := fun i S1 e hu => by
    have e : (slotsOf 0 ts ++ List.replicate (N.length - ts.length) .un)[i]? = some S1 := e
    by_cases hi : i < ts.length
    · have h1 : ts[i]? = some ts[i] := by simp [hi]
      have z := slotsOf_get 0 ts i _ h1
      rw [List.getElem?_append_left (by rw [slotsOf_length]; exact hi), z] at e
      have hv : i < vs.length := by omega
      refine ⟨ts[i], vs[i], h1, by simp [hv], ?_, ?_⟩
      · unfold L2.start
        rw [List.getElem?_append_left (by simpa using hv), List.getElem?_map]
        simp [hv]
      · have e := Option.some.inj e
        rw [← e]
        cases ts[i] <;> simp
    · rw [List.getElem?_append_right (by rw [slotsOf_length]; omega), List.getElem?_replicate] at e
      split at e
      · exact absurd (Option.some.inj e).symm hu
      · cases e
  refine ⟨fun i a => match i with | .inl _ => False | .inr j => o (.inr j) a, W.fh, W.gh, W.fg, fun i a q => ?_, fun i j a q q' => ?_, ?_, fun i t e => ?_, fun i j e => ?_, fun j t e => ?_⟩
  · cases i with
    | inl _ => exact q.elim
    | inr j => exact W.oh (.inr j) a q
  · cases i with
    | inl _ => exact q.elim
    | inr i =>
      cases j with
      | inl _ => exact q'.elim
      | inr j => exact W.oo _ _ a q q'
  · unfold L2.start entry
    rw [List.length_append, List.length_append, List.length_map, List.length_replicate, List.length_replicate, slotsOf_length, hl]
  · obtain ⟨t', v, h1, h2, h3, h4⟩ := at1 i _ e (by intro z; cases z)
    cases t' with
    | fz d =>
      have h4 : S.ow t = .ow (.fz d) := h4
      cases h4
      obtain ⟨v', q1, q2⟩ := W.pr i _ h1
      rw [h2] at q1; cases q1
      refine ⟨v, h3, ?_⟩
      unfold RepO at q2 ⊢
      exact q2
    | ol _ => cases h4
    | od _ _ _ => cases h4
    | oi _ _ _ => cases h4
  · obtain ⟨t', v, h1, h2, h3, h4⟩ := at1 i _ e (by intro z; cases z)
    cases t' with
    | fz d => cases h4
    | ol _ =>
      cases h4; exact ⟨v, h2, h3⟩
    | od _ _ _ =>
      cases h4; exact ⟨v, h2, h3⟩
    | oi _ _ _ =>
      cases h4; exact ⟨v, h2, h3⟩
  · exact W.pr j t e
end
/-- THE RULE for a def -/
theorem fn_mirror {P : Program} {w : World} {K : PySem.W.Frag} {mg : Str → Option Value} {base : Heap} {x qual : Str} {st : Stmt} {f : Addr} {fd : FuncData} {N ps : List Str} {k : Nat} {body : SD → Fl} (F : Fun K x qual st f fd) (S : FnScope N ps (defScope st))
    (h : ∀ (X : Cx) (pv : List V) (W : WX) (cdv : Value) (A : Around) (outer : List Env) (s : Shared) (H : Hp) (E : XK), X = cxOf (L2.CX P w) P w K mg base N qual (defScope st) f cdv A outer s H E → Takes X W → RoomG k X.A → DSs X pv W (defBody st) body) :
    FnG P w K mg base (L2.CX P w) (k + 1) f fd ps (spD K ps.length (asDef N.length body)) := by
  refine fun_okG F S (fun vs H Q E hs => hs.1) fun cdv A outer s H vs Q E hr hs => ?_
  obtain ⟨hl, G, Fz, ts, htl, hst, hm⟩ := hs
  obtain ⟨t, h1, h2⟩ := h _ vs (fun cls d _ H => E cls d H) cdv A outer s H E rfl (takes_of rfl rfl rfl rfl) hr
  refine ⟨t, h1, ?_⟩
  have hpl : ps.length ≤ N.length := by have := congrArg List.length S.pre; rw [List.length_take] at this; omega
  have z := h2 G Fz (entry N.length ts) (L2.start N vs) H { nx := fun _ H' => Q .non H', rt := Q } (hst.enter (by omega) (by omega))
  unfold asDef at hm
  revert z hm
  cases body (entry N.length ts) with
  | bad => exact fun hm _ => hm.elim
  | bk sd' => exact fun hm _ => hm.elim
  | ct sd' => exact fun hm _ => hm.elim
  | nx sd' => exact fun hm z => z fun F' σ' H' s1 s2 => hm .non F' H' s1 (StR1.fz s2.bare .non)
  | rt t sd' => exact fun hm z => z fun v F' σ' H' s1 s2 => hm v F' H' s1 s2.bare
  | rz e sd' => exact fun hm z => z fun cls dd F' σ' H' s1 s2 s3 => hm cls dd F' H' s1 s2.bare s3
end DL
namespace DL
open PySem PySem.Spec L2
open PyProof.Rows (floordiv_int mod_int' pow_int)
noncomputable def dAdd : D → D → Option D
  | .int i, .int j => some (.int (i + j))
  | .str x, .str y => if x.length + y.length ≤ 16777216 then some (.str (x ++ y)) else none
  | _, _ => none
noncomputable def dSub : D → D → Option D
  | .int i, .int j => some (.int (i - j))
  | _, _ => none
noncomputable def dMul : D → D → Option D
  | .int i, .int j => if i.natAbs.log2 + j.natAbs.log2 < 1000000 then some (.int (i * j)) else none
  | _, _ => none
noncomputable def dDiv : D → D → Option D
  | .int i, .int j => if j ≠ 0 ∧ j.natAbs.log2 < 9000 then some (.int (i.fdiv j)) else none
  | _, _ => none
noncomputable def dMod : D → D → Option D
  | .int i, .int j => if j ≠ 0 then some (.int (i.fmod j)) else none
  | _, _ => none
noncomputable def dPow : D → D → Option D
  | .int i, .int j => if 0 ≤ j ∧ (Builtin.Int.intBits i : Int) * j ≤ 134217728 then some (.int (i ^ j.toNat)) else none
  | _, _ => none
noncomputable def dNeg : D → Option D
  | .int i => some (.int (-i))
  | _ => none
noncomputable def dLt : D → D → Option D
  | .int i, .int j => some (.bl (decide (i < j)))
  | .str x, .str y => some (.bl (decide (x.cps.toList < y.cps.toList)))
  | _, _ => none
noncomputable def dLe : D → D → Option D
  | .int i, .int j => some (.bl (decide (i ≤ j)))
  | _, _ => none
noncomputable def dGt : D → D → Option D
  | .int i, .int j => some (.bl (decide (j < i)))
  | _, _ => none
noncomputable def dGe : D → D → Option D
  | .int i, .int j => some (.bl (decide (j ≤ i)))
  | _, _ => none
noncomputable def isNonD : D → Bool
  | .non => true
  | _ => false
noncomputable def dIsN : D → D → Option D
  | a, .non => some (.bl (isNonD a))
  | _, _ => none
noncomputable def dNotN : D → D → Option D
  | a, .non => some (.bl (!isNonD a))
  | _, _ => none
section
variable {X : Cx}
noncomputable def rDiv : R2 := rI (fun _ j => j ≠ 0 ∧ j.natAbs.log2 < 9000) fun i j => .int (i.fdiv j)
theorem op_divX : OpR X (binaryOp .FloorDiv) rDiv := opI fun _ _ _ _ _ _ _ hc q => floordiv_int hc.1 q (.inl (PyProof.noPylong_of_log2 hc.2))
noncomputable def rPow : R2 := rI (fun i j => 0 ≤ j ∧ (Builtin.Int.intBits i : Int) * j ≤ 134217728) fun i j => .int (i ^ j.toNat)
theorem op_powX : OpR X (binaryOp .Pow) rPow := opI fun _ _ _ _ _ _ _ hc q => pow_int hc.1 (by have := hc.2; simpa using this) q
noncomputable def rAddX : R2 := fun x y H Q => (rI0 fun i j => .int (i + j)) x y H Q ∨ ∃ i j, x = .str i ∧ y = .str j ∧ i.length + j.length ≤ sizeLine ∧ Q (.str (i ++ j)) H
theorem op_addX : OpR X (binaryOp .Add) rAddX := op_add.or op_add_str
end
section
variable {K : PySem.W.Frag}
theorem rep_int {H : Hp} {v : V} {i : Int} (r : Rep K H v (.int i)) : v = .int i := by cases r; rfl
theorem rep_str {H : Hp} {v : V} {x : Str} (r : Rep K H v (.str x)) : v = .str x := by cases r; rfl
theorem f_add : Op2S K rAddX dAdd := by
  intro H x y a b c ra rb h
  unfold dAdd at h
  split at h
  · cases h
    exact ⟨_, rfl, fun Q q => .inl ⟨_, _, rep_int ra, rep_int rb, q⟩⟩
  · split at h
    · rename_i hl
      cases h
      exact ⟨_, rfl, fun Q q => .inr ⟨_, _, rep_str ra, rep_str rb, by rw [sizeLine_eq]; exact hl, q⟩⟩
    · cases h
  · cases h
theorem f_sub : Op2S K (rI0 fun i j => .int (i - j)) dSub := by
  intro H x y a b c ra rb h
  unfold dSub at h
  split at h
  · cases h
    exact ⟨_, rfl, fun Q q => ⟨_, _, rep_int ra, rep_int rb, q⟩⟩
  · cases h
theorem f_mul : Op2S K (rI CMulW fun i j => .int (i * j)) dMul := by
  intro H x y a b c ra rb h
  unfold dMul at h
  split at h
  · split at h
    · rename_i hl
      cases h
      exact ⟨_, rfl, fun Q q => ⟨_, _, rep_int ra, rep_int rb, hl, q⟩⟩
    · cases h
  · cases h
theorem f_div : Op2S K rDiv dDiv := by
  intro H x y a b c ra rb h
  unfold dDiv at h
  split at h
  · split at h
    · rename_i hl
      cases h
      exact ⟨_, rfl, fun Q q => ⟨_, _, rep_int ra, rep_int rb, hl, q⟩⟩
    · cases h
  · cases h
theorem f_mod : Op2S K (rI (fun _ j => j ≠ 0) fun i j => .int (i.fmod j)) dMod := by
  intro H x y a b c ra rb h
  unfold dMod at h
  split at h
  · split at h
    · rename_i hl
      cases h
      exact ⟨_, rfl, fun Q q => ⟨_, _, rep_int ra, rep_int rb, hl, q⟩⟩
    · cases h
  · cases h
theorem f_pow : Op2S K rPow dPow := by
  intro H x y a b c ra rb h
  unfold dPow at h
  split at h
  · split at h
    · rename_i hl
      cases h
      exact ⟨_, rfl, fun Q q => ⟨_, _, rep_int ra, rep_int rb, hl, q⟩⟩
    · cases h
  · cases h
noncomputable def rLtX : R2 := fun x y H Q => (rI0 fun i j => .bl (decide (i < j))) x y H Q ∨ ∃ i j, x = .str i ∧ y = .str j ∧ Q (.bl (decide (i.cps.toList < j.cps.toList))) H
theorem op_ltX {X : Cx} : OpR X (compareOp .Lt) rLtX := op_lt.or op_lt_str
theorem f_lt : Op2S K rLtX dLt := by
  intro H x y a b c ra rb h
  unfold dLt at h
  split at h
  · cases h
    exact ⟨_, rfl, fun Q q => .inl ⟨_, _, rep_int ra, rep_int rb, q⟩⟩
  · cases h
    exact ⟨_, rfl, fun Q q => .inr ⟨_, _, rep_str ra, rep_str rb, q⟩⟩
  · cases h
theorem f_le : Op2S K (rI0 fun i j => .bl (decide (i ≤ j))) dLe := by
  intro H x y a b c ra rb h
  unfold dLe at h
  split at h
  · cases h
    exact ⟨_, rfl, fun Q q => ⟨_, _, rep_int ra, rep_int rb, q⟩⟩
  · cases h
theorem f_gt : Op2S K (rI0 fun i j => .bl (decide (j < i))) dGt := by
  intro H x y a b c ra rb h
  unfold dGt at h
  split at h
  · cases h
    exact ⟨_, rfl, fun Q q => ⟨_, _, rep_int ra, rep_int rb, q⟩⟩
  · cases h
theorem rep_non {F : Hp} {x : V} {a : D} (r : Rep K F x a) : decide (x = .non) = isNonD a := by
  cases r <;> rfl
theorem f_isN : Op2S K (fun x y H Q => y = .non ∧ Q (.bl (decide (x = .non))) H) dIsN := by
  intro H x y a b c ra rb h
  cases rb <;> simp only [dIsN, reduceCtorEq, Option.some.injEq] at h
  subst h
  exact ⟨_, rfl, fun Q q => ⟨rfl, by rw [rep_non ra]; exact q⟩⟩
theorem f_notN : Op2S K (fun x y H Q => y = .non ∧ Q (.bl (!decide (x = .non))) H) dNotN := by
  intro H x y a b c ra rb h
  cases rb <;> simp only [dNotN, reduceCtorEq, Option.some.injEq] at h
  subst h
  exact ⟨_, rfl, fun Q q => ⟨rfl, by rw [rep_non ra]; exact q⟩⟩
end
mutual
noncomputable def D.py : D → Option PyData
  | .non => some .none
  | .bl b => some (.bool b)
  | .int i => some (.int i)
  | .str x => some (.str x)
  | .tup xs => (D.pys xs).map .tuple
  | .ktu xs => (D.pys xs).map .tuple
  | .lst xs => (D.pys xs).map .list
  | _ => none
noncomputable def D.pys : List D → Option (List PyData)
  | [] => some []
  | d :: ds => d.py.bind fun p => (D.pys ds).map (p :: ·)
end
section
variable {K : PySem.W.Frag} {F : Hp}
mutual
theorem Rep.dp : ∀ {v : V} {d : D} {p : PyData}, Rep K F v d → d.py = some p → Dp K F v p
  | _, _, _, .non, h => by rw [D.py] at h; cases h; exact .non
  | _, _, _, .bl b, h => by rw [D.py] at h; cases h; exact .bl b
  | _, _, _, .int i, h => by rw [D.py] at h; cases h; exact .int i
  | _, _, _, .str x, h => by rw [D.py] at h; cases h; exact .str x
  | _, _, _, .ty n, h => by simp [D.py] at h
  | _, _, _, .cls C, h => by simp [D.py] at h
  | _, _, p, .tup (ds := ds) s r, h => by
    rw [D.py] at h
    cases e : D.pys ds with
    | none => rw [e] at h; cases h
    | some ps => rw [e] at h; cases h; exact .tup (.inl (.inl s)) (Reps.dp r e)
  | _, _, p, .ktu (ds := ds) s r, h => by
    rw [D.py] at h
    cases e : D.pys ds with
    | none => rw [e] at h; cases h
    | some ps => rw [e] at h; cases h; exact .tup s (Reps.dp r e)
  | _, _, p, .lst (ds := ds) s r, h => by
    rw [D.py] at h
    cases e : D.pys ds with
    | none => rw [e] at h; cases h
    | some ps => rw [e] at h; cases h; exact .lst (.inl s) (Reps.dp r e)
  | _, _, _, .scr _, h => by simp [D.py] at h
  | _, _, _, .dicK _ _, h => by simp [D.py] at h
  | _, _, _, .dicT _ _, h => by simp [D.py] at h
  | _, _, _, .ins _ _, h => by simp [D.py] at h
  | _, _, _, .exc _ _ _ _, h => by simp [D.py] at h
theorem Reps.dp : ∀ {vs : List V} {ds : List D} {ps : List PyData}, Reps K F vs ds → D.pys ds = some ps → DpAll K F vs ps
  | _, _, _, .nil, h => by rw [D.pys] at h; cases h; exact .nil
  | _, _, ps, .cons (d := d) (ds := ds) r1 r2, h => by
    rw [D.pys] at h
    cases e : d.py with
    | none => rw [e] at h; cases h
    | some p =>
      rw [e] at h
      cases e2 : D.pys ds with
      | none => rw [e2] at h; cases h
      | some qs => rw [e2] at h; cases h; exact .cons (Rep.dp r1 e) (Reps.dp r2 e2)
end
end
noncomputable def dEqB (a b : D) : Option Bool := match a, b with
  | .int i, .int j => some (decide (i = j))
  | .str x, .str y => some (decide (x = y))
  | .bl x, .bl y => some (decide (x = y))
  | a, b => match a.py, b.py with
    | some p, some q => if (SeqAt.shaped p && SeqAt.shaped q) = true then some (PyData.eqv p q) else none
    | _, _ => none
noncomputable def dEq (a b : D) : Option D := (dEqB a b).map .bl
noncomputable def dNe (a b : D) : Option D := (dEqB a b).map fun c => .bl (!c)
noncomputable def rEqX (K : PySem.W.Frag) : R2 := fun x y H Q => rEq x y H Q ∨ rEqD K x y H Q
noncomputable def rNeX (K : PySem.W.Frag) : R2 := fun x y H Q => rNe x y H Q ∨ rNeD K x y H Q
theorem op_eqX {X : Cx} (hu : X.A.units + 64 < cLine) : OpR X (compareOp .Eq) (rEqX X.K) := op_eq.or (op_eqD hu)
theorem op_neX {X : Cx} (hu : X.A.units + 64 < cLine) : OpR X (compareOp .NotEq) (rNeX X.K) := op_ne.or (op_neD hu)
section
variable {K : PySem.W.Frag}
theorem eqB_of {H : Hp} {x y : V} {a b : D} {c : Bool} (ra : Rep K H x a) (rb : Rep K H y b) (h : dEqB a b = some c) :
    (scal x y = true ∧ decide (x = y) = c) ∨ ∃ d e, Dp K H x d ∧ Dp K H y e ∧ SeqAt.shaped d = true ∧ SeqAt.shaped e = true ∧ PyData.eqv d e = c := by
  have gen : (match a.py, b.py with
    | some p, some q => if (SeqAt.shaped p && SeqAt.shaped q) = true then some (PyData.eqv p q) else none
    | _, _ => none) = some c → (scal x y = true ∧ decide (x = y) = c) ∨ ∃ d e, Dp K H x d ∧ Dp K H y e ∧ SeqAt.shaped d = true ∧ SeqAt.shaped e = true ∧ PyData.eqv d e = c := fun h => by
    cases e1 : a.py with
    | none => rw [e1] at h; cases h
    | some p =>
      cases e2 : b.py with
      | none => rw [e1, e2] at h; cases h
      | some q =>
        rw [e1, e2] at h
        have h : (if (SeqAt.shaped p && SeqAt.shaped q) = true then some (PyData.eqv p q) else none) = some c := h
        split at h
        · rename_i hs
          rw [Bool.and_eq_true] at hs
          cases h
          exact .inr ⟨p, q, ra.dp e1, rb.dp e2, hs.1, hs.2, rfl⟩
        · cases h
  unfold dEqB at h
  split at h
  · cases ra; cases rb
    cases h
    exact .inl ⟨rfl, by simp⟩
  · cases ra; cases rb
    cases h
    exact .inl ⟨rfl, by simp⟩
  · cases ra; cases rb
    cases h
    exact .inl ⟨rfl, by simp⟩
  · exact gen h
theorem f_eq : Op2S K (rEqX K) dEq := by
  intro H x y a b c ra rb h
  unfold dEq at h
  cases e : dEqB a b with
  | none => rw [e] at h; cases h
  | some k =>
    rw [e] at h; cases h
    refine ⟨_, rfl, fun Q q => ?_⟩
    rcases eqB_of ra rb e with ⟨h1, h2⟩ | ⟨d, d2, h1, h2, h3, h4, h5⟩
    · subst h2; exact .inl ⟨h1, q⟩
    · subst h5; exact .inr ⟨d, d2, h1, h2, h3, h4, q⟩
theorem f_ne : Op2S K (rNeX K) dNe := by
  intro H x y a b c ra rb h
  unfold dNe at h
  cases e : dEqB a b with
  | none => rw [e] at h; cases h
  | some k =>
    rw [e] at h; cases h
    refine ⟨_, rfl, fun Q q => ?_⟩
    rcases eqB_of ra rb e with ⟨h1, h2⟩ | ⟨d, d2, h1, h2, h3, h4, h5⟩
    · subst h2; exact .inl ⟨h1, q⟩
    · subst h5; exact .inr ⟨d, d2, h1, h2, h3, h4, q⟩
end
section
variable {X : Cx} {pv : List V} {W : WX} {p q k l : Bool} {e a b c : Expr} {es : List Expr} {pos : Pos}
theorem dx_neg {m : SD → ER D} (h : DX X pv W p k a m) : DX X pv W p true (.UnaryOp .USub a pos) (mUn dNeg m) := by
  obtain ⟨te, a1, a2⟩ := h
  refine ⟨_, pe_un un_neg a1, fun G F sd σ H Q s => ?_⟩
  have hp : p = (p && true) := by cases p <;> rfl
  rw [hp]
  refine Meets.bind (a2 G F sd σ H _ s) fun x F1 H1 dx sd1 s1 s2 s3 s4 => ?_
  have r := RSx.see s3 s2
  cases dx with
  | int i =>
    cases r
    exact Meets.here s2 (show RSx X.K true G F1 sd1 H1 σ (.int (-i)) (.int (-i)) from .int _) fun q => ⟨i, rfl, q⟩
  | _ => exact True.intro
noncomputable def mAndV (a b : SD → ER D) : SD → ER D := fun sd => (a sd).bind fun x sd1 => match x with
  | .bl true => b sd1
  | .bl false => .ok (.bl false) sd1
  | _ => .bad
noncomputable def mOrV (a b : SD → ER D) : SD → ER D := fun sd => (a sd).bind fun x sd1 => match x with
  | .bl true => .ok (.bl true) sd1
  | .bl false => b sd1
  | _ => .bad
noncomputable def mNotV (a : SD → ER D) : SD → ER D := fun sd => (a sd).bind fun x sd1 => match x with
  | .bl b => .ok (.bl (!b)) sd1
  | _ => .bad
theorem dx_one {op : BoolOp} {m : SD → ER D} (h : DX X pv W p k a m) (hop : ∀ {te : TE}, PE X a te → PE X (.BoolOp op [a] pos) te) : DX X pv W p k (.BoolOp op [a] pos) m := by
  obtain ⟨te, a1, a2⟩ := h
  exact ⟨te, hop a1, a2⟩
theorem dx_and {ma mb : SD → ER D} (h : DX X pv W p k a ma) (h2 : DX X pv W q true (.BoolOp .And (b :: es) pos) mb) : DX X pv W (p && q) true (.BoolOp .And (a :: b :: es) pos) (mAndV ma mb) := by
  obtain ⟨te, a1, a2⟩ := h
  obtain ⟨tf, b1, b2⟩ := h2
  refine ⟨_, pe_and a1 b1, fun G F sd σ H Q s => ?_⟩
  refine Meets.bind (a2 G F sd σ H _ s) fun x F1 H1 dx sd1 s1 s2 s3 s4 => ?_
  have r := RSx.see s3 s2
  cases dx with
  | bl b =>
    cases r
    cases b with
    | true =>
      refine Meets.imp (f := id) (b2 G F1 sd1 σ H1 Q s2) (fun z => ⟨true, rfl, by rw [if_pos rfl]; exact z⟩) ?_ fun v F2 H2 a2 sd2 _ t1 t2 t3 t4 hQ => hQ v F2 H2 (Same.refl _) t2 t3 (Same.refl _)
      show mb sd1 = (mb sd1).bind fun a sd1 => .ok a sd1
      cases mb sd1 <;> rfl
    | false => exact Meets.here s2 (show RSx X.K true G F1 sd1 H1 σ (.bl false) (.bl false) from .bl _) fun q => ⟨false, rfl, by rw [if_neg (by decide)]; exact q⟩
  | _ => exact True.intro
theorem dx_or {ma mb : SD → ER D} (h : DX X pv W p k a ma) (h2 : DX X pv W q true (.BoolOp .Or (b :: es) pos) mb) : DX X pv W (p && q) true (.BoolOp .Or (a :: b :: es) pos) (mOrV ma mb) := by
  obtain ⟨te, a1, a2⟩ := h
  obtain ⟨tf, b1, b2⟩ := h2
  refine ⟨_, pe_or a1 b1, fun G F sd σ H Q s => ?_⟩
  refine Meets.bind (a2 G F sd σ H _ s) fun x F1 H1 dx sd1 s1 s2 s3 s4 => ?_
  have r := RSx.see s3 s2
  cases dx with
  | bl b =>
    cases r
    cases b with
    | false =>
      refine Meets.imp (f := id) (b2 G F1 sd1 σ H1 Q s2) (fun z => ⟨false, rfl, by rw [if_neg (by decide)]; exact z⟩) ?_ fun v F2 H2 a2 sd2 _ t1 t2 t3 t4 hQ => hQ v F2 H2 (Same.refl _) t2 t3 (Same.refl _)
      show mb sd1 = (mb sd1).bind fun a sd1 => .ok a sd1
      cases mb sd1 <;> rfl
    | true => exact Meets.here s2 (show RSx X.K true G F1 sd1 H1 σ (.bl true) (.bl true) from .bl _) fun q => ⟨true, rfl, by rw [if_pos rfl]; exact q⟩
  | _ => exact True.intro
theorem dx_and1 {m : SD → ER D} (h : DX X pv W p k a m) : DX X pv W p k (.BoolOp .And [a] pos) m := dx_one h fun z => pe_one z
theorem dx_or1 {m : SD → ER D} (h : DX X pv W p k a m) : DX X pv W p k (.BoolOp .Or [a] pos) m := dx_one h fun z => pe_one z
theorem dx_not {m : SD → ER D} (h : DX X pv W p k a m) : DX X pv W p true (.UnaryOp .Not a pos) (mNotV m) := by
  obtain ⟨te, a1, a2⟩ := h
  refine ⟨_, pe_not a1, fun G F sd σ H Q s => ?_⟩
  have hp : p = (p && true) := by cases p <;> rfl
  rw [hp]
  refine Meets.bind (a2 G F sd σ H _ s) fun x F1 H1 dx sd1 s1 s2 s3 s4 => ?_
  have r := RSx.see s3 s2
  cases dx with
  | bl b =>
    cases r
    exact Meets.here s2 (show RSx X.K true G F1 sd1 H1 σ (.bl (!b)) (.bl (!b)) from .bl _) fun q => ⟨b, rfl, q⟩
  | _ => exact True.intro
/-- a < b < c -/
noncomputable def mChain (f g : D → D → Option D) (a b c : SD → ER D) : SD → ER D := fun sd => (a sd).bind fun x sd1 => (b sd1).bind fun y sd2 => match f x y with
  | some (.bl true) => (c sd2).bind fun z sd3 => ER.opt (g y z) sd3
  | some (.bl false) => .ok (.bl false) sd2
  | _ => .bad
end
end DL
namespace DL
open PySem PySem.Spec L2
section
variable {α β : Type} {K : PySem.W.Frag} {pv : List V} {W : WX} {G F H : Hp} {σ : L2.St} {sd : SD} {p q : Bool}
theorem Meets.to {RS : RSt β α} {r : ER α} {Q : β → Hp → Prop} {P P' : Prop} (h : Meets K pv W G σ RS p sd F H r Q P) (hP : P → P') : Meets K pv W G σ RS p sd F H r Q P' := by
  cases r with
  | bad => exact True.intro
  | rz x sd' => exact fun z => hP (h z)
  | ok a sd' => exact fun z => hP (h z)
theorem Meets.bindL {γ δ : Type} {RS : RSt β α} {RS' : RSt δ γ} {r : ER α} {f : α → SD → ER γ} {Q : δ → Hp → Prop} {k : β → Hp → Prop} {P : Prop} (h : Meets K pv W G σ RS p sd F H r k P)
    (g : ∀ v F1 H1 a sd1, Same F F1 → StR K pv G F1 sd1 σ H1 → RS G F1 sd1 H1 σ v a → (p = true → Same H H1 ∧ sd1 = sd) → Meets K pv W G σ RS' true sd1 F1 H1 (f a sd1) Q (k v H1)) :
    Meets K pv W G σ RS' p sd F H (r.bind f) Q P := by
  have z := Meets.bind h g
  have hp : (p && true) = p := by cases p <;> rfl
  rw [hp] at z
  exact z
end
section
variable {X : Cx} {pv : List V} {W : WX} {p q k l : Bool} {e a b c : Expr} {es : List Expr} {pos : Pos}
theorem tr_chain {r r' : R2} {f g : D → D → Option D} {ta tb tc : TE} {ma mb mc : SD → ER D} {q' l' : Bool} (hf : Op2S X.K r f) (hg : Op2S X.K r' g) (ha : TrX X.K pv W p k ta ma) (hb : TrX X.K pv W q l tb mb) (hc : TrX X.K pv W q' l' tc mc)
    (hk : (k || q) = true) (hk2 : (l || q') = true) : TrX X.K pv W (p && (q && q')) true (tChain r r' ta tb tc) (mChain f g ma mb mc) := by
  intro G F sd σ H Q s
  refine Meets.bind (ha G F sd σ H _ s) fun x F1 H1 dx sd1 s1 s2 s3 s4 => ?_
  refine Meets.bind (hb G F1 sd1 σ H1 _ s2) fun y F2 H2 dy sd2 t1 t2 t3 t4 => ?_
  have rx : Rep X.K H2 x dx := by
    cases k with
    | true => exact Rep.mono t2.fh (Rep.mono t1 s3)
    | false => exact Rep.mono (t4 (by simpa using hk)).1 s3
  split
  · rename_i e
    obtain ⟨v, h1, h2⟩ := hf H2 x y dx dy _ rx (RSx.see t3 t2) e
    cases h1
    refine Meets.to (Meets.bindL (hc G F2 sd2 σ H2 (fun w' H4 => r' y w' H4 Q) t2) fun z F3 H3 dz sd3 u1 u2 u3 u4 => ?_) fun z => h2 _ ⟨true, rfl, by rw [if_pos rfl]; exact z⟩
    have ry : Rep X.K H3 y dy := by
      cases l with
      | true => exact Rep.mono u2.fh (Rep.mono u1 t3)
      | false => exact Rep.mono (u4 (by simpa using hk2)).1 t3
    cases e2 : g dy dz with
    | none => exact True.intro
    | some c =>
      obtain ⟨v, h1, h2⟩ := hg H3 y z dy dz c ry (RSx.see u3 u2) e2
      exact Meets.here u2 (show RSx X.K true G F3 sd3 H3 σ v c from Rep.sc h1) (h2 Q)
  · rename_i e
    obtain ⟨v, h1, h2⟩ := hf H2 x y dx dy _ rx (RSx.see t3 t2) e
    cases h1
    exact Meets.here t2 (show RSx X.K true G F2 sd2 H2 σ (.bl false) (.bl false) from .bl _) fun q => h2 _ ⟨false, rfl, by rw [if_neg (by decide)]; exact q⟩
  · exact True.intro
theorem dx_chain {op op' : CmpOp} {r r' : R2} {f g : D → D → Option D} {ma mb mc : SD → ER D} {q' l' : Bool} (ho : OpR X (compareOp op) r) (ho' : OpR X (compareOp op') r') (hf : Op2S X.K r f) (hg : Op2S X.K r' g) (ha : DX X pv W p k a ma) (hb : DX X pv W q l b mb)
    (hc : DX X pv W q' l' c mc) (hk : (k || q) = true := by rfl) (hk2 : (l || q') = true := by rfl) (hm : lastMarks [op, op'] [b, c] = false := by with_unfolding_all rfl) : DX X pv W (p && (q && q')) true (.Compare a [op, op'] [b, c] pos) (mChain f g ma mb mc) := by
  obtain ⟨ta, a1, a2⟩ := ha
  obtain ⟨tb, b1, b2⟩ := hb
  obtain ⟨tc, c1, c2⟩ := hc
  exact ⟨_, pe_chain ho ho' a1 b1 c1 hm, tr_chain hf hg a2 b2 c2 hk hk2⟩
theorem dt_chain {op op' : CmpOp} {r r' : R2} {f g : D → D → Option D} {ma mb mc : SD → ER D} {q' l' : Bool} (ho : OpR X (compareOp op) r) (ho' : OpR X (compareOp op') r') (hf : Op2S X.K r f) (hg : Op2S X.K r' g) (ha : DX X pv W p k a ma) (hb : DX X pv W q l b mb)
    (hc : DX X pv W q' l' c mc) (hk : (k || q) = true := by rfl) (hk2 : (l || q') = true := by rfl) (hm : lastMarks [op, op'] [b, c] = false := by with_unfolding_all rfl) : DT X pv W (p && (q && q')) (.Compare a [op, op'] [b, c] pos) (mTest (mChain f g ma mb mc)) := by
  obtain ⟨ta, a1, a2⟩ := ha
  obtain ⟨tb, b1, b2⟩ := hb
  obtain ⟨tc, c1, c2⟩ := hc
  exact ⟨_, pt_chain ho ho' a1 b1 c1 hm, tr_test (tr_chain hf hg a2 b2 c2 hk hk2)⟩
/-- a call that gives a flat value -/
noncomputable def CallS (K : PySem.W.Frag) (r : List V → Hp → VK → Prop) (f : List D → Option D) : Prop := ∀ H xs ds c, Reps K H xs ds → f ds = some c → ∃ v, c.sc = some v ∧ ∀ Q : VK, Q v H → r xs H Q
noncomputable def mCallL (f : List D → Option (List D)) (a : SD → ER (List D)) : SD → ER OT := fun sd => (a sd).bind fun xs sd1 => ER.opt ((f xs).map fun cs => .ol (cs.map .fz)) sd1
theorem tr_callS {r : List V → Hp → VK → Prop} {f : List D → Option D} {ta : TA} {m : SD → ER (List D)} (hf : CallS X.K r f) (h : TrA X.K pv W p k ta m) : TrX X.K pv W p true (tCB r ta) (mCall f m) := by
  intro G F sd σ H Q s
  refine Meets.bindL (h G F sd σ H _ s) fun xs F1 H1 ds sd1 s1 s2 s3 s4 => ?_
  cases e : f ds with
  | none => exact True.intro
  | some c =>
    obtain ⟨v, h1, h2⟩ := hf H1 xs ds c (RSl.see s3 s2) e
    exact Meets.here s2 (show RSx X.K true G F1 sd1 H1 σ v c from Rep.sc h1) (h2 Q)
theorem dx_callB {x : Str} {id : String} {pp : Pos} {r : List V → Hp → VK → Prop} {f : List D → Option D} {m : SD → ER (List D)} (hc : CallR X (.builtin id) r) (hf : CallS X.K r f) (hg : Gl X x) (hm : X.mg x = none) (hv : bootBuiltins x = some (.builtin id)) (ha : DA X pv W p k (e :: es) m)
    (hn : x ≠ "__name__" := by decide) (hdb : (x == ("__debug__" : Str)) = false := by decide) (he : starEach (e :: es) X.env = (false, eval e X.env) :: starEach es X.env := by rfl) (hpl : (backTo pos (starEach es X.env)).any (·.1) = false := by rfl) :
    DX X pv W p true (.Call (.Name x pp) (e :: es) [] pos) (mCall f m) := by
  obtain ⟨ta, a1, a2⟩ := ha
  exact ⟨_, pe_callB hc hg hm hv a1 hn hdb he hpl, tr_callS hf a2⟩
theorem dx_callTy {x : Str} {T : String} {pp : Pos} {r : List V → Hp → VK → Prop} {f : List D → Option D} {m : SD → ER (List D)} (hc : CallR X (.type T) r) (hf : CallS X.K r f) (hg : Gl X x) (hm : X.mg x = none) (hv : bootBuiltins x = some (.type T)) (ha : DA X pv W p k (e :: es) m)
    (hn : x ≠ "__name__" := by decide) (hdb : (x == ("__debug__" : Str)) = false := by decide) (he : starEach (e :: es) X.env = (false, eval e X.env) :: starEach es X.env := by rfl) (hpl : (backTo pos (starEach es X.env)).any (·.1) = false := by rfl) :
    DX X pv W p true (.Call (.Name x pp) (e :: es) [] pos) (mCall f m) := by
  obtain ⟨ta, a1, a2⟩ := ha
  exact ⟨_, pe_callTy hc hg hm hv a1 hn hdb he hpl, tr_callS hf a2⟩
theorem reps1 {K : PySem.W.Frag} {F : Hp} {vs : List V} {d : D} (r : Reps K F vs [d]) : ∃ v, vs = [v] ∧ Rep K F v d := by
  cases r with
  | cons h t => cases t; exact ⟨_, rfl, h⟩
theorem reps2 {K : PySem.W.Frag} {F : Hp} {vs : List V} {d d' : D} (r : Reps K F vs [d, d']) : ∃ v v', vs = [v, v'] ∧ Rep K F v d ∧ Rep K F v' d' := by
  cases r with
  | cons h t =>
    obtain ⟨v', rfl, h'⟩ := reps1 t
    exact ⟨_, _, rfl, h, h'⟩
noncomputable def dLen : List D → Option D
  | [.lst xs] => some (.int xs.length)
  | [.tup xs] => some (.int xs.length)
  | [.ktu xs] => some (.int xs.length)
  | [.str x] => if x.length ≤ 16777216 then some (.int x.length) else none
  | [.scr ns] => some (.int ns.length)
  | _ => none
theorem f_len {K : PySem.W.Frag} : CallS K (fun xs H Q => ∃ x n, xs = [x] ∧ LenV K x H n ∧ Q (.int n) H) dLen := by
  intro H xs ds c r h
  unfold dLen at h
  split at h
  · obtain ⟨v, rfl, r1⟩ := reps1 r
    cases r1 with
    | lst s t =>
      cases h
      exact ⟨_, rfl, fun Q q => ⟨_, _, rfl, .inl ⟨_, .inl s, rfl⟩, by rw [t.length]; exact q⟩⟩
  · obtain ⟨v, rfl, r1⟩ := reps1 r
    cases r1 with
    | tup s t =>
      cases h
      exact ⟨_, rfl, fun Q q => ⟨_, _, rfl, .inr ⟨_, .inl (.inl s), rfl⟩, by rw [t.length]; exact q⟩⟩
  · obtain ⟨v, rfl, r1⟩ := reps1 r
    cases r1 with
    | ktu s t =>
      cases h
      exact ⟨_, rfl, fun Q q => ⟨_, _, rfl, .inr ⟨_, s, rfl⟩, by rw [t.length]; exact q⟩⟩
  · obtain ⟨v, rfl, r1⟩ := reps1 r
    cases r1
    split at h
    · rename_i hl
      cases h
      exact ⟨_, rfl, fun Q q => ⟨_, _, rfl, (show LenV K (.str _) H _ from ⟨by rw [sizeLine_eq]; exact hl, rfl⟩), q⟩⟩
    · cases h
  · obtain ⟨v, rfl, r1⟩ := reps1 r
    cases r1 with
    | scr s =>
      cases h
      exact ⟨_, rfl, fun Q q => ⟨_, _, rfl, .inl ⟨_, s, rfl⟩, by rw [List.length_map]; exact q⟩⟩
  · cases h
/-- the ints of a list -/
noncomputable def intsOf : List D → Option (List Int)
  | [] => some []
  | .int i :: r => (intsOf r).map (i :: ·)
  | _ => none
theorem intsOf_map : ∀ ns : List Int, intsOf (ns.map D.int) = some ns
  | [] => rfl
  | n :: r => by rw [List.map_cons, intsOf, intsOf_map r]; rfl
theorem reps_ints {K : PySem.W.Frag} {F : Hp} : ∀ {ds : List D} {vs : List V} {ns : List Int}, Reps K F vs ds → intsOf ds = some ns → vs = ns.map V.int ∧ ds = ns.map D.int
  | [], _, _, .nil, h => by cases h; exact ⟨rfl, rfl⟩
  | d :: ds, _, ns, .cons r t, h => by
    cases d with
    | int i =>
      rw [intsOf] at h
      cases e : intsOf ds with
      | none => rw [e] at h; cases h
      | some ms =>
        rw [e] at h; cases h
        cases r
        obtain ⟨h1, h2⟩ := reps_ints t e
        exact ⟨by rw [h1]; rfl, by rw [h2]; rfl⟩
    | _ => simp [intsOf] at h
noncomputable def maxI : List Int → Int
  | [] => 0
  | n :: r => r.foldl max n
noncomputable def minI : List Int → Int
  | [] => 0
  | n :: r => r.foldl min n
theorem foldl_max : ∀ (r : List Int) (n : Int), (r.foldl max n = n ∨ r.foldl max n ∈ r) ∧ n ≤ r.foldl max n ∧ ∀ y ∈ r, y ≤ r.foldl max n
  | [], n => ⟨.inl rfl, Int.le_refl _, fun y h => by cases h⟩
  | m :: r, n => by
    obtain ⟨h1, h2, h3⟩ := foldl_max r (max n m)
    rw [List.foldl_cons]
    have e1 : n ≤ max n m := Int.le_max_left ..
    have e2 : m ≤ max n m := Int.le_max_right ..
    refine ⟨?_, Int.le_trans e1 h2, fun y hy => ?_⟩
    · rcases h1 with h1 | h1
      · by_cases z : n ≤ m
        · rw [h1]; rw [show max n m = m by omega]; exact .inr List.mem_cons_self
        · rw [h1]; exact .inl (by omega)
      · exact .inr (List.mem_cons_of_mem _ h1)
    · rcases List.mem_cons.mp hy with rfl | hy
      · exact Int.le_trans e2 h2
      · exact h3 y hy
theorem maxI_mem {n : Int} {r : List Int} : maxI (n :: r) ∈ n :: r := by
  obtain ⟨h1, _, _⟩ := foldl_max r n
  show r.foldl max n ∈ _
  rcases h1 with h1 | h1
  · rw [h1]; exact List.mem_cons_self
  · exact List.mem_cons_of_mem _ h1
theorem maxI_ge {n : Int} {r : List Int} : ∀ y ∈ n :: r, y ≤ maxI (n :: r) := fun y hy => by
  obtain ⟨_, h2, h3⟩ := foldl_max r n
  rcases List.mem_cons.mp hy with rfl | hy
  · exact h2
  · exact h3 y hy
noncomputable def dMax : List D → Option D
  | [.int i, .int j] => some (.int (max i j))
  | [.lst ds] => match intsOf ds with
    | some (n :: r) => some (.int (maxI (n :: r)))
    | _ => none
  | _ => none
noncomputable def dMin : List D → Option D
  | [.int i, .int j] => some (.int (min i j))
  | [.lst ds] => match intsOf ds with
    | some (n :: r) => some (.int (minI (n :: r)))
    | _ => none
  | _ => none
noncomputable def rMaxX (K : PySem.W.Frag) : List V → Hp → VK → Prop := fun xs H Q => (∃ i j, xs = [.int i, .int j] ∧ Q (.int (if j > i then j else i)) H) ∨ rMax K xs H Q
theorem call_maxX (hc : X.calm = true) : CallR X (.builtin "max") (rMaxX X.K) := (call_max2 hc).or (cr_max hc)
theorem f_max {K : PySem.W.Frag} : CallS K (rMaxX K) dMax := by
  intro H xs ds c r h
  unfold dMax at h
  split at h
  · rename_i i j
    obtain ⟨v, v', rfl, r1, r2⟩ := reps2 r
    cases r1; cases r2; cases h
    refine ⟨_, rfl, fun Q q => .inl ⟨_, _, rfl, ?_⟩⟩
    have e : (if j > i then j else i) = max i j := by split <;> omega
    rw [e]; exact q
  · obtain ⟨v, rfl, r1⟩ := reps1 r
    cases r1 with
    | @lst a vs ds s t =>
      split at h
      · rename_i n rr e
        cases h
        obtain ⟨h1, h2⟩ := reps_ints t e
        subst h1
        refine ⟨_, rfl, fun Q q => .inr ⟨a, n :: rr, rfl, .inl s, by simp, fun m hm hge => ?_⟩⟩
        have e : m = maxI (n :: rr) := Int.le_antisymm (maxI_ge m hm) (hge _ maxI_mem)
        rw [e]; exact q
      · cases h
  · cases h
/-- the bools of a list -/
noncomputable def boolsOf : List D → Option (List Bool)
  | [] => some []
  | .bl b :: r => (boolsOf r).map (b :: ·)
  | _ => none
theorem reps_bools {K : PySem.W.Frag} {F : Hp} : ∀ {ds : List D} {vs : List V} {ns : List Bool}, Reps K F vs ds → boolsOf ds = some ns → vs = ns.map V.bl
  | [], _, _, .nil, h => by cases h; rfl
  | d :: ds, _, ns, .cons r t, h => by
    cases d with
    | bl i =>
      rw [boolsOf] at h
      cases e : boolsOf ds with
      | none => rw [e] at h; cases h
      | some ms =>
        rw [e] at h; cases h
        cases r
        rw [reps_bools t e]; rfl
    | _ => simp [boolsOf] at h
noncomputable def dAll : List D → Option D
  | [.lst ds] => (boolsOf ds).map fun bs => .bl (bs.all id)
  | _ => none
theorem f_all {K : PySem.W.Frag} : CallS K (rAll K) dAll := by
  intro H xs ds c r h
  unfold dAll at h
  split at h
  · obtain ⟨v, rfl, r1⟩ := reps1 r
    cases r1 with
    | @lst a vs ds s t =>
      obtain ⟨ns, e, h⟩ := Option.map_eq_some_iff.mp h
      cases h
      have h1 := reps_bools t e
      subst h1
      exact ⟨_, rfl, fun Q q => ⟨a, ns, rfl, .inl s, q⟩⟩
  · cases h
end
end DL
namespace DL
open PySem PySem.Spec L2
open PyProof.Rows (IntsAre seqObj)
noncomputable def IsIT (h : Heap) (v : Value) (ns : List Int) : Prop := ∃ a o its n, v = .ref a ∧ h.get? a = some o ∧ o.cls = .type "tuple" ∧ o.data = .seq its n ∧ IntsAre its.toList ns
theorem IsIT.keeps {h h' : Heap} {v : Value} {ns : List Int} (p : IsIT h v ns) (k : ∀ b o, h.get? b = some o → o.cls = .type "tuple" → h'.get? b = some o) : IsIT h' v ns := by
  obtain ⟨a, o, its, n, e, ho, hc, hd⟩ := p
  exact ⟨a, o, its, n, e, k _ _ ho hc, hc, hd⟩
end DL
namespace DL
open PySem PySem.Spec L2
noncomputable def D.isA (d : D) (n : String) : Option Bool :=
  match d with
  | .non => some false
  | .bl _ => some (n == "bool" || n == "int")
  | .int _ => some (n == "int")
  | .str _ => some (n == "str")
  | .tup _ => some (n == "tuple")
  | .ktu _ => some (n == "tuple")
  | .lst _ => some (n == "list")
  | .scr _ => some (n == "list")
  | .dic false _ _ => some (n == "dict")
  | _ => none
noncomputable def tyName (n : String) : Bool := n == "bool" || n == "int" || n == "str" || n == "tuple" || n == "list" || n == "dict"
noncomputable def dIsi : List D → Option D
  | [d, .ty n] => if tyName n = true then (d.isA n).map .bl else none
  | _ => none
theorem kitB_all : ∀ n ∈ ["bool", "int", "str", "tuple", "list", "dict"], kitB "NoneType" n = some false ∧ kitB "bool" n = some (n == "bool" || n == "int") ∧ kitB "int" n = some (n == "int") ∧ kitB "str" n = some (n == "str") ∧
    kitB "tuple" n = some (n == "tuple") ∧ kitB "list" n = some (n == "list") ∧ kitB "dict" n = some (n == "dict") := by decide +kernel
theorem kitB_is {n : String} (h : tyName n = true) : kitB "NoneType" n = some false ∧ kitB "bool" n = some (n == "bool" || n == "int") ∧ kitB "int" n = some (n == "int") ∧ kitB "str" n = some (n == "str") ∧
    kitB "tuple" n = some (n == "tuple") ∧ kitB "list" n = some (n == "list") ∧ kitB "dict" n = some (n == "dict") := by
  refine kitB_all n ?_
  unfold tyName at h
  simp only [Bool.or_eq_true, beq_iff_eq] at h
  simp only [List.mem_cons, List.not_mem_nil, or_false]
  rcases h with ((((h | h) | h) | h) | h) | h <;> simp [h]
theorem tyx_tup {K : PySem.W.Frag} {H : Hp} {a : Addr} {xs : List V} (h : SqT K H a xs) : TyX K H (.ref a) (.type "tuple") := by
  rcases h with (h | ⟨o, h⟩) | ⟨o, its, n, h1, h2, _⟩
  · exact .base (.tup h)
  · exact .fTuple h
  · exact .kTuple h1 h2
theorem tyx_lst {K : PySem.W.Frag} {H : Hp} {a : Addr} {xs : List V} (h : SqL K H a xs) : TyX K H (.ref a) (.type "list") := by
  rcases h with (h | ⟨o, h⟩) | ⟨o, its, n, h1, h2, _⟩
  · exact .base (.lst h)
  · exact .base (.frz h)
  · exact .kList h1 h2
theorem f_isi {K : PySem.W.Frag} : CallS K (rIsi K) dIsi := by
  intro H xs ds c r h
  unfold dIsi at h
  split at h
  · rename_i d n
    obtain ⟨v, v', rfl, r1, r2⟩ := reps2 r
    cases r2
    split at h
    · rename_i hn
      obtain ⟨b, e, h⟩ := Option.map_eq_some_iff.mp h
      subst h
      obtain ⟨k0, k1, k2, k3, k4, k5, k6⟩ := kitB_is hn
      refine ⟨.bl b, rfl, fun Q q => ?_⟩
      have go : ∀ {t : String}, TyX K H v (.type t) → kitB t n = some b → rIsi K [v, .ty n] H Q := fun ht hk => ⟨v, .ty n, _, _, b, rfl, .ty n, ht, kit_ty hk, q⟩
      cases r1 with
      | non => exact go (.base .non) (by rw [k0]; exact e)
      | bl x => exact go (.base (.bl x)) (by rw [k1]; exact e)
      | int x => exact go (.base (.int x)) (by rw [k2]; exact e)
      | str x => exact go (.base (.str x)) (by rw [k3]; exact e)
      | ty x => cases e
      | cls x => cases e
      | tup s t => exact go (tyx_tup (.inl (.inl s))) (by rw [k4]; exact e)
      | ktu s t => exact go (tyx_tup s) (by rw [k4]; exact e)
      | lst s t => exact go (tyx_lst (.inl s)) (by rw [k5]; exact e)
      | scr s => exact go (tyx_lst s) (by rw [k5]; exact e)
      | dicK s t =>
        rcases s with s | ⟨o, s⟩
        · exact go (.base (.dK s)) (by rw [k6]; exact e)
        · exact go (.fDict s) (by rw [k6]; exact e)
      | dicT s t => cases e
      | ins s t => cases e
      | exc _ _ _ _ => cases e
    · cases h
  · cases h
section
variable {X : Cx} {pv : List V} {W : WX} {p q k l : Bool} {e a b c : Expr} {es : List Expr} {pos : Pos}
/-- a built-in class's name -/
theorem dx_ty {x : Str} {T : String} {pp : Pos} (hg : Gl X x) (hm : X.mg x = none) (hv : bootBuiltins x = some (.type T)) (hn : x ≠ "__name__" := by decide) (hd : (x == ("__debug__" : Str)) = false := by decide) : DX X pv W true true (.Name x pp) (mC (.ty T)) :=
  dx_c (pe_bltn (v := .ty T) hg hm hv rfl hn hd) fun _ => .ty T
/-- a constant of the module -/
theorem dx_glob {x : Str} {v : V} {d : D} {u : Value} {pp : Pos} (hg : Gl X x) (hm : X.mg x = some u) (r : RelV v u) (hr : ∀ F, Rep X.K F v d) (hd : (x == ("__debug__" : Str)) = false := by decide) : DX X pv W true true (.Name x pp) (mC d) :=
  dx_c (pe_glob hg hm r hd) hr
noncomputable def dIx : D → D → Option D
  | .lst xs, .int i => atI xs i
  | .tup xs, .int i => atI xs i
  | .ktu xs, .int i => atI xs i
  | .scr ns, .int i => (atI ns i).map .int
  | .str z, .int i => if z.length ≤ 16777216 then (atI z.cps.toList i).map fun c => .str ⟨#[c]⟩ else none
  | _, _ => none
theorem reps_at {K : PySem.W.Frag} {F : Hp} {vs : List V} {ds : List D} {i : Int} {d : D} (r : Reps K F vs ds) (h : atI ds i = some d) : ∃ v, atI vs i = some v ∧ Rep K F v d := by
  unfold atI at h ⊢
  rw [r.length]
  cases e : ixN ds.length i with
  | none => rw [e] at h; cases h
  | some j =>
    rw [e] at h
    exact r.get h
theorem ix_go {K : PySem.W.Frag} {F H : Hp} {x y : V} {a b c : D} (hF : Same F H) (ra : Rep K F x a) (rb : Rep K H y b) (h : dIx a b = some c) : ∃ v, Rep K F v c ∧ ∀ Q : VK, Q v H → rIx K x y H Q := by
  unfold dIx at h
  split at h
  · cases rb
    cases ra with
    | lst s t =>
      obtain ⟨v, h1, h2⟩ := reps_at t h
      exact ⟨v, h2, fun Q q => .inl ⟨_, _, _, v, rfl, rfl, hF.seq (.inl s), h1, q⟩⟩
  · cases rb
    cases ra with
    | tup s t =>
      obtain ⟨v, h1, h2⟩ := reps_at t h
      exact ⟨v, h2, fun Q q => .inr (.inl ⟨_, _, _, v, rfl, rfl, .inl (.inl (hF _ _ s)), h1, q⟩)⟩
  · cases rb
    cases ra with
    | ktu s t =>
      obtain ⟨v, h1, h2⟩ := reps_at t h
      exact ⟨v, h2, fun Q q => .inr (.inl ⟨_, _, _, v, rfl, rfl, Same.sqt hF s, h1, q⟩)⟩
  · cases rb
    cases ra with
    | scr s =>
      obtain ⟨n, e, h⟩ := Option.map_eq_some_iff.mp h
      subst h
      exact ⟨_, .int n, fun Q q => .inl ⟨_, _, _, .int n, rfl, rfl, hF.seq s, by unfold atI at e ⊢; rw [List.length_map]; cases e2 : ixN _ _ with
        | none => rw [e2] at e; cases e
        | some j => rw [e2] at e; show (List.map V.int _)[j]? = _; rw [List.getElem?_map]; have e : _[j]? = some n := e; rw [e]; rfl, q⟩⟩
  · cases rb
    cases ra
    split at h
    · rename_i hl
      obtain ⟨c', e, h⟩ := Option.map_eq_some_iff.mp h
      subst h
      exact ⟨_, .str _, fun Q q => .inr (.inr ⟨_, _, c', rfl, rfl, by rw [sizeLine_eq]; exact hl, e, q⟩)⟩
    · cases h
  · cases h
theorem dx_ix {ma mb : SD → ER D} (ha : DX X pv W p k a ma) (hb : DX X pv W q l b mb) (hk : (k || q) = true := by rfl) (hs : PlainIx b := by exact fun _ _ => rfl) : DX X pv W (p && q) k (.Subscript a b pos) (mOp dIx ma mb) := by
  obtain ⟨ta, a1, a2⟩ := ha
  obtain ⟨tb, b1, b2⟩ := hb
  refine ⟨_, pe_ix ix_seq a1 b1 hs, fun G F sd σ H Q s => ?_⟩
  refine Meets.bind (a2 G F sd σ H _ s) fun x F1 H1 dx sd1 s1 s2 s3 s4 => ?_
  refine Meets.bindL (b2 G F1 sd1 σ H1 _ s2) fun y F2 H2 dy sd2 t1 t2 t3 t4 => ?_
  cases e : dIx dx dy with
  | none => exact True.intro
  | some c =>
    cases k with
    | true =>
      obtain ⟨v, h1, h2⟩ := ix_go t2.fh (Rep.mono t1 (show Rep X.K F1 x dx from s3)) (RSx.see t3 t2) e
      exact Meets.here t2 (show RSx X.K true G F2 sd2 H2 σ v c from h1) (h2 Q)
    | false =>
      obtain ⟨v, h1, h2⟩ := ix_go (Same.refl H2) (Rep.mono (t4 (by simpa using hk)).1 (show Rep X.K H1 x dx from s3)) (RSx.see t3 t2) e
      exact Meets.here t2 (show RSx X.K false G F2 sd2 H2 σ v c from h1) (h2 Q)
noncomputable def RSq (K : PySem.W.Frag) (k : Bool) : RSt V (List D) := fun _ F _ H _ v ds => ∃ a vs, v = .ref a ∧ Rd (if k = true then F else H) a (.lst vs) ∧ Reps K F vs ds
noncomputable def TrQ (K : PySem.W.Frag) (pv : List V) (W : WX) (p k : Bool) (te : TE) (m : SD → ER (List D)) : Prop := ∀ G F sd σ H Q, StR K pv G F sd σ H → Meets K pv W G σ (RSq K k) p sd F H (m sd) Q (te σ H Q)
structure DQ (X : Cx) (pv : List V) (W : WX) (p k : Bool) (e : Expr) (m : SD → ER (List D)) : Prop where
  ex : ∃ te, PE X e te ∧ TrQ X.K pv W p k te m
noncomputable def qFz (a : SD → ER D) : SD → ER (List D) := fun sd => (a sd).bind fun x sd1 => match x with
  | .lst ds => .ok ds sd1
  | _ => .bad
/-- the items, if they are all frozen -/
noncomputable def fzOf : List OT → Option (List D)
  | [] => some []
  | .fz d :: r => (fzOf r).map (d :: ·)
  | _ => none
theorem fzOf_map : ∀ ds : List D, fzOf (ds.map OT.fz) = some ds
  | [] => rfl
  | d :: ds => by rw [List.map_cons, fzOf, fzOf_map ds]; rfl
theorem fzOf_eq : ∀ {ts : List OT} {ds : List D}, fzOf ts = some ds → ts = ds.map OT.fz
  | [], ds, h => by cases h; rfl
  | .fz d :: r, ds, h => by
    rw [fzOf] at h
    obtain ⟨es, e, h⟩ := Option.map_eq_some_iff.mp h
    subst h
    rw [fzOf_eq e]; rfl
  | .ol _ :: _, _, h => by simp [fzOf] at h
  | .od _ _ _ :: _, _, h => by simp [fzOf] at h
  | .oi _ _ _ :: _, _, h => by simp [fzOf] at h
noncomputable def SD.tree (sd : SD) (i : Nat) : Option OT := match sd.sl[i]? with
  | some (.ow t) => some t
  | some (.pa j) => sd.pa[j]?
  | _ => none
noncomputable def OT.items : OT → Option (List D)
  | .ol ts => fzOf ts
  | .fz (.lst ds) => some ds
  | _ => none
noncomputable def qSee (i : Nat) : SD → ER (List D) := fun sd => ER.opt ((sd.tree i).bind OT.items) sd
noncomputable def qNew (a : SD → ER OT) : SD → ER (List D) := fun sd => (a sd).bind fun t sd1 => ER.opt t.items sd1
theorem items_rep {K : PySem.W.Frag} {F H : Hp} {t : OT} {v : V} {P : Addr → Prop} {ds : List D} (hF : Same F H) (r : RepO K F H t v P) (h : t.items = some ds) : ∃ a vs, v = .ref a ∧ Rd H a (.lst vs) ∧ Reps K F vs ds := by
  cases t with
  | ol ts =>
    have h : fzOf ts = some ds := h
    have e := fzOf_eq h
    subst e
    unfold RepO at r
    obtain ⟨a, vs, rfl, _, h1, h2⟩ := r
    exact ⟨a, vs, rfl, .inl h1, repOs_fz h2⟩
  | fz d =>
    unfold RepO at r
    cases d with
    | lst es =>
      have h : some es = some ds := h
      cases h
      cases r with
      | lst s t => exact ⟨_, _, rfl, Same.rd hF s, t⟩
    | _ => cases h
  | od _ _ _ => cases h
  | oi _ _ _ => cases h
theorem StR.tree {K : PySem.W.Frag} {G F H : Hp} {sd : SD} {σ : L2.St} {i : Nat} {t : OT} (s : StR K pv G F sd σ H) (h : sd.tree i = some t) : ∃ v P, σ[i]? = some (some v) ∧ RepO K F H t v P := by
  obtain ⟨o, w⟩ := s
  unfold SD.tree at h
  split at h
  · rename_i t' e
    cases h
    obtain ⟨v, h1, h2⟩ := w.sl i _ e
    exact ⟨v, _, h1, h2⟩
  · rename_i j e
    obtain ⟨v, h1, h2⟩ := w.sp i j e
    obtain ⟨v', h3, h4⟩ := w.pr j t h
    rw [h1] at h3; cases h3
    exact ⟨v, _, h2, h4⟩
  · cases h
theorem DX.dq {m : SD → ER D} (h : DX X pv W p true e m) : DQ X pv W p true e (qFz m) := by
  obtain ⟨te, h1, h2⟩ := h
  refine ⟨te, h1, fun G F sd σ H Q s => ?_⟩
  have z := h2 G F sd σ H Q s
  unfold qFz
  revert z
  cases m sd with
  | bad => exact id
  | rz x sd1 => exact id
  | ok d sd1 =>
    intro z
    cases d with
    | lst ds =>
      intro hQ
      refine z fun v F1 H1 s1 s2 s3 s4 => hQ v F1 H1 s1 s2 ?_ s4
      have s3 : Rep X.K F1 v (.lst ds) := s3
      cases s3 with
      | lst s t => exact ⟨_, _, rfl, s, t⟩
    | _ => exact True.intro
theorem dq_see {i : Nat} {x : Str} {pp : Pos} (h : PE X (.Name x pp) (tVar i)) : DQ X pv W true false (.Name x pp) (qSee i) := by
  refine ⟨_, h, fun G F sd σ H Q s => ?_⟩
  unfold qSee
  cases e : sd.tree i with
  | none => exact True.intro
  | some t =>
    cases e2 : t.items with
    | none =>
      show Meets X.K pv W G σ (RSq X.K false) true sd F H (ER.opt (t.items) sd) Q _
      rw [e2]; exact True.intro
    | some ds =>
      show Meets X.K pv W G σ (RSq X.K false) true sd F H (ER.opt (t.items) sd) Q _
      rw [e2]
      obtain ⟨v, P, h1, h2⟩ := s.tree e
      exact Meets.here s (show RSq X.K false G F sd H σ v ds from items_rep s.fh h2 e2) fun q => ⟨v, h1, q⟩
theorem DO.dq {m : SD → ER OT} (h : DO X pv W p e m) : DQ X pv W p false e (qNew m) := by
  obtain ⟨te, h1, h2⟩ := h
  refine ⟨te, h1, fun G F sd σ H Q s => ?_⟩
  have z := h2 G F sd σ H Q s
  unfold qNew
  revert z
  cases m sd with
  | bad => exact id
  | rz x sd1 => exact id
  | ok t sd1 =>
    intro z
    show Meets X.K pv W G σ (RSq X.K false) p sd F H (ER.opt t.items sd1) Q _
    cases e2 : t.items with
    | none => exact True.intro
    | some ds =>
      intro hQ
      refine z fun v F1 H1 s1 s2 s3 s4 => hQ v F1 H1 s1 s2 ?_ s4
      obtain ⟨o, P, w, r, _⟩ := s3
      exact items_rep w.fh r e2
theorem RSq.see {K : PySem.W.Frag} {k : Bool} {G F H : Hp} {sd : SD} {σ : L2.St} {v : V} {ds : List D} (r : RSq K k G F sd H σ v ds) (s : StR K pv G F sd σ H) : ∃ a vs, v = .ref a ∧ Rd H a (.lst vs) ∧ Reps K F vs ds := by
  obtain ⟨a, vs, e, h1, h2⟩ := r
  refine ⟨a, vs, e, ?_, h2⟩
  cases k with
  | true => exact Same.rd s.fh h1
  | false => exact h1
/-- carried on to a later heap -/
theorem RSq.on {K : PySem.W.Frag} {k q : Bool} {G F H F2 H2 : Hp} {sd sd2 sd3 : SD} {σ : L2.St} {v : V} {ds : List D} (r : RSq K k G F sd H σ v ds) (hk : (k || q) = true) (t1 : Same F F2) (t2 : StR K pv G F2 sd2 σ H2) (t4 : q = true → Same H H2 ∧ sd2 = sd3) : ∃ a vs, v = .ref a ∧ Rd H2 a (.lst vs) ∧ Reps K F2 vs ds := by
  obtain ⟨a, vs, e, h1, h2⟩ := r
  refine ⟨a, vs, e, ?_, h2.mono t1⟩
  cases k with
  | true => exact Same.rd t2.fh (Same.rd t1 h1)
  | false => exact Same.rd (t4 (by simpa using hk)).1 h1
/-- l[i] -/
noncomputable def mAt (a : SD → ER (List D)) (b : SD → ER D) : SD → ER D := fun sd => (a sd).bind fun ds sd1 => (b sd1).bind fun y sd2 => match y with
  | .int i => ER.opt (atI ds i) sd2
  | _ => .bad
theorem dx_at {ma : SD → ER (List D)} {mb : SD → ER D} (ha : DQ X pv W p k a ma) (hb : DX X pv W q l b mb) (hk : (k || q) = true := by rfl) (hs : PlainIx b := by exact fun _ _ => rfl) : DX X pv W (p && q) true (.Subscript a b pos) (mAt ma mb) := by
  obtain ⟨ta, a1, a2⟩ := ha
  obtain ⟨tb, b1, b2⟩ := hb
  refine ⟨_, pe_ix ix_list a1 b1 hs, fun G F sd σ H Q s => ?_⟩
  refine Meets.bind (a2 G F sd σ H _ s) fun x F1 H1 ds sd1 s1 s2 s3 s4 => ?_
  refine Meets.bindL (b2 G F1 sd1 σ H1 _ s2) fun y F2 H2 dy sd2 t1 t2 t3 t4 => ?_
  have r := RSx.see t3 t2
  cases dy with
  | int i =>
    cases r
    show Meets X.K pv W G σ (RSx X.K true) true sd2 F2 H2 (ER.opt (atI ds i) sd2) Q _
    cases e : atI ds i with
    | none => exact True.intro
    | some c =>
      obtain ⟨aa, vs, rfl, h1, h2⟩ := s3.on hk t1 t2 t4
      obtain ⟨v, h3, h4⟩ := reps_at h2 e
      exact Meets.here t2 (show RSx X.K true G F2 sd2 H2 σ v c from h4) fun q => ⟨aa, vs, i, v, rfl, rfl, .inl h1, h3, q⟩
  | _ => exact True.intro
/-- l + m, a new list -/
noncomputable def mCat (a b : SD → ER (List D)) : SD → ER OT := fun sd => (a sd).bind fun xs sd1 => (b sd1).bind fun ys sd2 => if xs.length + ys.length ≤ 16777216 then .ok (.ol ((xs ++ ys).map .fz)) sd2 else .bad
end
end DL
namespace DL
open PySem PySem.Spec L2
open PyProof.Rows (Subscript_ tail_any)
section
variable {X : Cx} {pv : List V} {W : WX} {p q k l : Bool} {e a b c : Expr} {es : List Expr} {pos : Pos}
/-- a list's object by what may be read -/
theorem rd_list {pins : List (Addr × Obj)} {σ : L2.St} {H : Hp} {s : Shared} {a : Addr} {xs : List V} (I : Inv X pins σ H s) (h : Rd H a (.lst xs)) :
    xs.length ≤ sizeLine ∧ ∃ (its : List Value) (n : Nat), Vals xs its ∧ xs.length = its.length ∧ s.heap.get? a = some { cls := .type "list", data := .seq its.toArray n } := by
  obtain ⟨z, its, n, r, e⟩ := (show ObjOk X.prog X.w H s.heap a (.lst xs) from h.ok I.hok)
  exact ⟨z, its, n, r, r.length, e⟩
noncomputable def rCatR : R2 := fun x y H Q => ∃ l b xs zs, x = .ref l ∧ y = .ref b ∧ Rd H l (.lst xs) ∧ Rd H b (.lst zs) ∧ xs.length + zs.length ≤ sizeLine ∧ ∀ p, H p = none → Q (.ref p) (upd H p (.lst (xs ++ zs)))
theorem op_catR : OpR X (binaryOp .Add) rCatR := by
  intro pins s σ H x y v u Q I rx ry h
  obtain ⟨l, b, xs, zs, rfl, rfl, hH, hB, hz, q⟩ := h
  cases rx
  cases ry
  obtain ⟨z, its, n, r, hl, e⟩ := rd_list I hH
  obtain ⟨z2, its2, n2, r2, hl2, e2⟩ := rd_list I hB
  refine PySem.P.add_list e e2 ?_ (by rw [List.size_toArray, List.size_toArray]; omega)
  have ea : its.toArray ++ its2.toArray = (its ++ its2).toArray := by simp
  rw [ea]
  exact ⟨.ref _, _, I.lnew (t' := s.toks) (r.append r2) (by rw [List.length_append]; omega), rfl, q _ I.fresh⟩
theorem tr_cat {ta tb : TE} {ma mb : SD → ER (List D)} (ha : TrQ X.K pv W p k ta ma) (hb : TrQ X.K pv W q l tb mb) (hk : (k || q) = true) : TrO X.K pv W (p && q) (tOp rCatR ta tb) (mCat ma mb) := by
  intro G F sd σ H Q s
  refine Meets.bind (ha G F sd σ H _ s) fun x F1 H1 xs sd1 s1 s2 s3 s4 => ?_
  refine Meets.bindL (hb G F1 sd1 σ H1 _ s2) fun y F2 H2 ys sd2 t1 t2 t3 t4 => ?_
  split
  · rename_i hz
    intro hQ
    obtain ⟨aa, vs, rfl, h1, h2⟩ := s3.on hk t1 t2 t4
    obtain ⟨bb, ws, rfl, h3, h4⟩ := t3.see t2
    refine ⟨aa, bb, vs, ws, rfl, rfl, h1, h3, by rw [h2.length, h4.length, sizeLine_eq]; exact hz, fun p hp => ?_⟩
    have z := t2.newL hp (h2.append h4)
    exact hQ _ _ _ (Same.refl _) z.drop z fun _ => ⟨Same.upd hp, rfl⟩
  · exact True.intro
theorem do_cat {ma mb : SD → ER (List D)} (ha : DQ X pv W p k a ma) (hb : DQ X pv W q l b mb) (hk : (k || q) = true := by rfl) : DO X pv W (p && q) (.BinOp a .Add b pos) (mCat ma mb) := by
  obtain ⟨ta, a1, a2⟩ := ha
  obtain ⟨tb, b1, b2⟩ := hb
  exact ⟨_, pe_op op_catR a1 b1, tr_cat a2 b2 hk⟩
noncomputable def TrP (K : PySem.W.Frag) (pv : List V) (W : WX) (p : Bool) (to : TO) (m : SD → ER (Option Int)) : Prop := ∀ G F sd σ H Q, StR K pv G F sd σ H → Meets K pv W G σ (fun _ _ _ _ _ (v d : Option Int) => v = d) p sd F H (m sd) Q (to σ H Q)
structure DP (X : Cx) (pv : List V) (W : WX) (p : Bool) (e : Option Expr) (m : SD → ER (Option Int)) : Prop where
  ex : ∃ to, PO X e to ∧ TrP X.K pv W p to m
noncomputable def oNone : SD → ER (Option Int) := fun sd => .ok none sd
noncomputable def oSome (a : SD → ER D) : SD → ER (Option Int) := fun sd => (a sd).bind fun x sd1 => match x with
  | .int i => .ok (some i) sd1
  | _ => .bad
theorem dp_none : DP X pv W true none oNone := ⟨_, po_none, fun G F sd σ H Q s => Meets.here s rfl id⟩
theorem dp_some {m : SD → ER D} (h : DX X pv W p k e m) : DP X pv W p (some e) (oSome m) := by
  obtain ⟨te, a1, a2⟩ := h
  refine ⟨_, po_some a1, fun G F sd σ H Q s => ?_⟩
  refine Meets.bindL (a2 G F sd σ H _ s) fun x F1 H1 dx sd1 s1 s2 s3 s4 => ?_
  have r := RSx.see s3 s2
  cases dx with
  | int i =>
    cases r
    exact Meets.here s2 rfl fun q => ⟨i, rfl, q⟩
  | _ => exact True.intro
noncomputable def cutL {α : Type} (xs : List α) (lo hi : Option Int) : List α := (xs.drop (HT.sIx xs.length 0 lo)).take (HT.sIx xs.length xs.length hi - HT.sIx xs.length 0 lo)
theorem reps_cut {K : PySem.W.Frag} {F : Hp} {vs : List V} {ds : List D} (lo hi : Option Int) (r : Reps K F vs ds) : Reps K F (cutV vs lo hi) (cutL ds lo hi) := by
  unfold cutV cutL
  rw [r.length]
  exact (r.drop _).take _
/-- t[lo:hi] of a frozen list, a tuple, a text -/
noncomputable def mCutX (a : SD → ER D) (lo hi : SD → ER (Option Int)) : SD → ER D := fun sd => (a sd).bind fun x sd1 => (lo sd1).bind fun i sd2 => (hi sd2).bind fun j sd3 => match x with
  | .lst xs => .ok (.lst (cutL xs i j)) sd3
  | .tup xs => .ok (.tup (cutL xs i j)) sd3
  | .ktu xs => if HT.sIx xs.length 0 i = 0 ∧ HT.sIx xs.length xs.length j = xs.length then .bad else .ok (.tup (cutL xs i j)) sd3
  | .str z => if z.length ≤ 16777216 then .ok (.str (cutS z i j)) sd3 else .bad
  | _ => .bad
theorem cut_whole {α : Type} {xs : List α} {lo hi : Option Int} (h : HT.sIx xs.length 0 lo = 0 ∧ HT.sIx xs.length xs.length hi = xs.length) : cutL xs lo hi = xs := by
  unfold cutL
  rw [h.1, h.2]
  simp
theorem sl_any : SlR X (fun x lo hi H Q => rSlL X.K x lo hi H Q ∨ (rSlA X.K x lo hi H Q ∨ rSlS x lo hi H Q)) := sl_list.or (sl_tupA.or sl_str)
theorem dx_cut {lo hi : Option Expr} {p2 : Pos} {ma : SD → ER D} {ml mh : SD → ER (Option Int)} {q1 q2 : Bool} (ha : DX X pv W p true a ma) (hl : DP X pv W q1 lo ml) (hh : DP X pv W q2 hi mh) :
    DX X pv W (p && (q1 && q2)) true (.Subscript a (.Slice lo hi none p2) pos) (mCutX ma ml mh) := by
  obtain ⟨ta, a1, a2⟩ := ha
  obtain ⟨tl, b1, b2⟩ := hl
  obtain ⟨th, c1, c2⟩ := hh
  refine ⟨_, pe_slice sl_any a1 b1 c1, fun G F sd σ H Q s => ?_⟩
  refine Meets.bind (a2 G F sd σ H _ s) fun x F1 H1 dx sd1 s1 s2 s3 s4 => ?_
  refine Meets.bind (b2 G F1 sd1 σ H1 _ s2) fun i F2 H2 i' sd2 t1 t2 t3 t4 => ?_
  refine Meets.bindL (c2 G F2 sd2 σ H2 _ t2) fun j F3 H3 j' sd3 u1 u2 u3 u4 => ?_
  have t3 : i = i' := t3
  have u3 : j = j' := u3
  subst t3 u3
  have rx : Rep X.K F3 x dx := Rep.mono (t1.trans u1) (show Rep X.K F1 x dx from s3)
  cases dx with
  | lst xs =>
    intro hQ
    cases rx with
    | @lst aa vs _ h1 h2 =>
      refine .inl ⟨aa, vs, rfl, .inl (Same.rd u2.fh h1), fun p hp => ?_⟩
      exact hQ _ _ _ (u2.sameNew hp) (u2.new hp) (.lst (.inl upd_same) ((reps_cut i j h2).mono (u2.sameNew hp))) fun _ => ⟨Same.upd hp, rfl⟩
  | tup xs =>
    intro hQ
    cases rx with
    | @tup aa vs _ h1 h2 =>
      refine .inr (.inl ⟨aa, vs, rfl, .inl (.inl (u2.fh _ _ h1)), fun hw => ?_, fun hw p hp => ?_⟩)
      · refine hQ _ _ _ (Same.refl _) u2 ?_ fun _ => ⟨Same.refl _, rfl⟩
        rw [h2.length] at hw
        rw [cut_whole hw]
        exact .tup h1 h2
      · exact hQ _ _ _ (u2.sameNew hp) (u2.new hp) (.tup upd_same ((reps_cut i j h2).mono (u2.sameNew hp))) fun _ => ⟨Same.upd hp, rfl⟩
  | ktu xs =>
    show Meets X.K pv W G σ (RSx X.K true) true sd3 F3 H3 (if HT.sIx xs.length 0 i = 0 ∧ HT.sIx xs.length xs.length j = xs.length then .bad else .ok (.tup (cutL xs i j)) sd3) Q _
    split
    · exact True.intro
    · rename_i hnw
      intro hQ
      cases rx with
      | @ktu aa vs _ h1 h2 =>
        refine .inr (.inl ⟨aa, vs, rfl, Same.sqt u2.fh h1, fun hw => absurd (by rw [h2.length] at hw; exact hw) hnw, fun hw p hp => ?_⟩)
        exact hQ _ _ _ (u2.sameNew hp) (u2.new hp) (.tup upd_same ((reps_cut i j h2).mono (u2.sameNew hp))) fun _ => ⟨Same.upd hp, rfl⟩
  | str z =>
    cases rx
    show Meets X.K pv W G σ (RSx X.K true) true sd3 F3 H3 (if z.length ≤ 16777216 then .ok (.str (cutS z i j)) sd3 else .bad) Q _
    split
    · rename_i hz
      exact Meets.here u2 (show RSx X.K true G F3 sd3 H3 σ _ _ from .str _) fun q => .inr (.inr ⟨z, rfl, by rw [sizeLine_eq]; exact hz, q⟩)
    · exact True.intro
  | _ => exact True.intro
end
end DL
namespace DL
open PySem PySem.Spec L2
noncomputable def Wants (K : PySem.W.Frag) (pv : List V) (W : WX) (G F : Hp) (r : Fl) (D : Ends) : Prop :=
  match r with
  | .nx sd' => ∀ F' σ' H', Same F F' → StR K pv G F' sd' σ' H' → D.nx σ' H'
  | .rt t sd' => ∀ v F' σ' H', Same F F' → StR1 K pv G F' sd' σ' H' v t → D.rt v H'
  | .bk sd' => ∀ F' σ' H', Same F F' → StR K pv G F' sd' σ' H' → D.bk σ' H'
  | .ct sd' => ∀ F' σ' H', Same F F' → StR K pv G F' sd' σ' H' → D.ct σ' H'
  | .rz x sd' => ∀ cls dd F' σ' H', Same F F' → StR K pv G F' sd' σ' H' → RepX K F' cls dd x → W cls dd σ' H'
  | .bad => False
section
variable {K : PySem.W.Frag} {pv : List V} {W : WX} {G F F1 : Hp} {r : Fl} {D : Ends} {P : Prop}
theorem meetsS_of (h : Wants K pv W G F r D → P) : MeetsS K pv W G F r D P := by
  cases r with
  | bad => exact True.intro
  | _ => exact h
theorem MeetsS.get (h : MeetsS K pv W G F r D P) (w : Wants K pv W G F r D) : P := by
  cases r with
  | bad => exact w.elim
  | _ => exact h w
theorem Wants.mono (e : Same F F1) (w : Wants K pv W G F r D) : Wants K pv W G F1 r D := by
  cases r with
  | bad => exact w
  | nx sd => exact fun F' σ' H' s => w F' σ' H' (e.trans s)
  | bk sd => exact fun F' σ' H' s => w F' σ' H' (e.trans s)
  | ct sd => exact fun F' σ' H' s => w F' σ' H' (e.trans s)
  | rt t sd => exact fun v F' σ' H' s => w v F' σ' H' (e.trans s)
  | rz x sd => exact fun c d F' σ' H' s => w c d F' σ' H' (e.trans s)
end
noncomputable def wipeS (l : List S) : List Nat → List S
  | [] => l
  | v :: vs => (wipeS l vs).set v .un
noncomputable def SD.wipe (sd : SD) (vs : List Nat) : SD := { sd with sl := wipeS sd.sl vs }
noncomputable def backS (l orig : List S) : List Nat → List S
  | [] => l
  | v :: vs => (backS l orig vs).set v ((orig[v]?).getD .un)
noncomputable def SD.back (sd orig : SD) (vs : List Nat) : SD := { sd with sl := backS sd.sl orig.sl vs }
theorem wipeS_length (l : List S) : ∀ vs : List Nat, (wipeS l vs).length = l.length
  | [] => rfl
  | v :: vs => by unfold wipeS; rw [List.length_set, wipeS_length l vs]
theorem backS_length (l o : List S) : ∀ vs : List Nat, (backS l o vs).length = l.length
  | [] => rfl
  | v :: vs => by unfold backS; rw [List.length_set, backS_length l o vs]
theorem wipeS_in {l : List S} {i : Nat} : ∀ {vs : List Nat}, i ∈ vs → i < l.length → (wipeS l vs)[i]? = some .un
  | v :: vs, h, hl => by
    unfold wipeS
    by_cases e : v = i
    · subst e
      rw [List.getElem?_set_self (by rw [wipeS_length]; exact hl)]
    · rw [List.getElem?_set_ne e]
      exact wipeS_in ((List.mem_cons.mp h).resolve_left (fun z => e z.symm)) hl
theorem wipeS_out {l : List S} {i : Nat} : ∀ {vs : List Nat}, i ∉ vs → (wipeS l vs)[i]? = l[i]?
  | [], _ => rfl
  | v :: vs, h => by
    unfold wipeS
    rw [List.getElem?_set_ne (fun z => h (by rw [z]; exact List.mem_cons_self))]
    exact wipeS_out fun z => h (List.mem_cons_of_mem _ z)
theorem backS_in {l o : List S} {i : Nat} : ∀ {vs : List Nat}, i ∈ vs → i < l.length → (backS l o vs)[i]? = some ((o[i]?).getD .un)
  | v :: vs, h, hl => by
    unfold backS
    by_cases e : v = i
    · subst e
      rw [List.getElem?_set_self (by rw [backS_length]; exact hl)]
    · rw [List.getElem?_set_ne e]
      exact backS_in ((List.mem_cons.mp h).resolve_left (fun z => e z.symm)) hl
theorem backS_out {l o : List S} {i : Nat} : ∀ {vs : List Nat}, i ∉ vs → (backS l o vs)[i]? = l[i]?
  | [], _ => rfl
  | v :: vs, h => by
    unfold backS
    rw [List.getElem?_set_ne (fun z => h (by rw [z]; exact List.mem_cons_self))]
    exact backS_out fun z => h (List.mem_cons_of_mem _ z)
theorem wipeS_set {l : List S} {i : Nat} {x : S} {vs : List Nat} (h : i ∈ vs) : wipeS (l.set i x) vs = wipeS l vs := by
  refine List.ext_getElem? fun j => ?_
  by_cases hj : j ∈ vs
  · by_cases hl : j < l.length
    · rw [wipeS_in hj (by rw [List.length_set]; exact hl), wipeS_in hj hl]
    · rw [List.getElem?_eq_none (by rw [wipeS_length, List.length_set]; omega), List.getElem?_eq_none (by rw [wipeS_length]; omega)]
  · rw [wipeS_out hj, wipeS_out hj, List.getElem?_set_ne (fun z => hj (by rw [← z]; exact h))]
theorem wipe_set {σ : L2.St} {i : Nat} {v : Option V} : ∀ {vs : List Nat}, i ∈ vs → wipe (σ.set i v) vs = wipe σ vs
  | [], h => by cases h
  | j :: vs, h => by
    unfold wipe
    by_cases hj : i ∈ vs
    · rw [wipe_set hj]
    · have e : i = j := by
        rcases List.mem_cons.mp h with e | h
        · exact e
        · exact absurd h hj
      subst e
      have go : ∀ (us : List Nat), i ∉ us → wipe (σ.set i v) us = (wipe σ us).set i v := fun us => by
        induction us with
        | nil => intro _; rfl
        | cons u us ih =>
          intro hn
          unfold wipe
          rw [ih fun z => hn (List.mem_cons_of_mem _ z), List.set_comm _ _ (fun z => hn (by rw [z]; exact List.mem_cons_self))]
      rw [go vs hj, List.set_set]
structure DG (X : Cx) (is : List Nat) (tg : Expr) (g : D → SD → Option SD) : Prop where
  ex : ∃ t, PG X tg t ∧ ∀ (pv : List V) (G F : Hp) (sd : SD) (σ : L2.St) (H : Hp) (x : V) (d : D) (sd' : SD), StR X.K pv G F sd σ H → Rep X.K F x d → g d sd = some sd' →
    ∃ σ', StR X.K pv G F sd' σ' H ∧ (∀ vs : List Nat, (∀ i ∈ is, i ∈ vs) → wipe σ' vs = wipe σ vs) ∧ ∀ Q : L2.St → Hp → Prop, Q σ' H → t x σ H Q
  wip : ∀ (vs : List Nat), (∀ i ∈ is, i ∈ vs) → ∀ d sd sd', g d sd = some sd' → SD.wipe sd' vs = SD.wipe sd vs
structure DGs (X : Cx) (is : List Nat) (tgs : List Expr) (g : List D → SD → Option SD) : Prop where
  ex : ∃ t, PGs X tgs t ∧ ∀ (pv : List V) (G F : Hp) (sd : SD) (σ : L2.St) (H : Hp) (xs : List V) (ds : List D) (sd' : SD), StR X.K pv G F sd σ H → Reps X.K F xs ds → g ds sd = some sd' →
    ∃ σ', StR X.K pv G F sd' σ' H ∧ (∀ vs : List Nat, (∀ i ∈ is, i ∈ vs) → wipe σ' vs = wipe σ vs) ∧ ∀ Q : L2.St → Hp → Prop, Q σ' H → t xs σ H Q
  wip : ∀ (vs : List Nat), (∀ i ∈ is, i ∈ vs) → ∀ d sd sd', g d sd = some sd' → SD.wipe sd' vs = SD.wipe sd vs
noncomputable def SD.putFz (sd : SD) (i : Nat) (d : D) : Option SD := if i < sd.sl.length then some { sd with sl := sd.sl.set i (.ow (.fz d)) } else none
noncomputable def tgN (i : Nat) : D → SD → Option SD := fun d sd => sd.putFz i d
noncomputable def tgNil : List D → SD → Option SD := fun ds sd => match ds with
  | [] => some sd
  | _ => none
noncomputable def tgCons (g : D → SD → Option SD) (h : List D → SD → Option SD) : List D → SD → Option SD := fun ds sd => match ds with
  | d :: r => (g d sd).bind fun sd1 => h r sd1
  | [] => none
noncomputable def tgT (n : Nat) (h : List D → SD → Option SD) : D → SD → Option SD := fun d sd => match d with
  | .tup ds => if ds.length = n then h ds sd else none
  | .ktu ds => if ds.length = n then h ds sd else none
  | _ => none
section
variable {X : Cx} {pos : Pos}
theorem dg_name {i : Nat} {x : Str} (hN : X.N.Nodup) (hi : X.N[i]? = some x) (hx : Loc X.env.scope x) (hf : X.fn x = true ∨ X.env.scope.names.lookup x = some .local := by first | exact .inl rfl | exact .inr rfl | assumption) : DG X [i] (.Name x pos) (tgN i) := by
  refine ⟨⟨_, pg_name hN hi hx hf, fun pv G F sd σ H x d sd' s r e => ?_⟩, fun vs h d sd sd' e => ?_⟩
  · unfold tgN SD.putFz at e
    split at e
    · rename_i hl
      cases e
      exact ⟨_, (StR1.fz s r).store hl, fun vs h => wipe_set (h i List.mem_cons_self), fun Q q => q⟩
    · cases e
  · unfold tgN SD.putFz at e
    split at e
    · cases e
      show SD.mk (wipeS (sd.sl.set i _) vs) sd.pa = SD.mk (wipeS sd.sl vs) sd.pa
      rw [wipeS_set (h i List.mem_cons_self)]
    · cases e
theorem dgs_nil : DGs X [] [] tgNil := by
  refine ⟨⟨_, pgs_nil, fun pv G F sd σ H xs ds sd' s r e => ?_⟩, fun vs h d sd sd' e => ?_⟩
  · unfold tgNil at e
    cases r with
    | nil => cases e; exact ⟨σ, s, fun _ _ => rfl, fun Q q => ⟨rfl, q⟩⟩
    | cons _ _ => cases e
  · unfold tgNil at e
    cases d with
    | nil => cases e; rfl
    | cons _ _ => cases e
theorem dgs_cons {is js : List Nat} {e : Expr} {es : List Expr} {g : D → SD → Option SD} {h : List D → SD → Option SD} (h1 : DG X is e g) (h2 : DGs X js es h)
    (hs : (assignEach (e :: es) X.env).map (·.2) = assign e X.env :: (assignEach es X.env).map (·.2) := by rfl) : DGs X (is ++ js) (e :: es) (tgCons g h) := by
  obtain ⟨⟨t, a1, a2⟩, a3⟩ := h1
  obtain ⟨⟨u, b1, b2⟩, b3⟩ := h2
  refine ⟨⟨_, pgs_cons a1 b1 hs, fun pv G F sd σ H xs ds sd' s r e => ?_⟩, fun vs hv d sd sd' e => ?_⟩
  · cases r with
    | nil => cases e
    | cons r rr =>
      obtain ⟨sd1, e1, e2⟩ := Option.bind_eq_some_iff.mp e
      obtain ⟨σ1, s1, w1, k1⟩ := a2 pv G F sd σ H _ _ sd1 s r e1
      obtain ⟨σ2, s2, w2, k2⟩ := b2 pv G F sd1 σ1 H _ _ sd' s1 rr e2
      exact ⟨σ2, s2, fun vs hv => (w2 vs fun i hi => hv i (List.mem_append_right _ hi)).trans (w1 vs fun i hi => hv i (List.mem_append_left _ hi)), fun Q q => ⟨_, _, rfl, k1 _ (k2 Q q)⟩⟩
  · cases d with
    | nil => cases e
    | cons d ds =>
      obtain ⟨sd1, e1, e2⟩ := Option.bind_eq_some_iff.mp e
      rw [b3 vs (fun i hi => hv i (List.mem_append_right _ hi)) _ _ _ e2, a3 vs (fun i hi => hv i (List.mem_append_left _ hi)) _ _ _ e1]
theorem dg_tup {is : List Nat} {es : List Expr} {kk n : Nat} {h : List D → SD → Option SD} (hc : X.calm = true) (h1 : DGs X is es h)
    (hn : (assignEach es X.env).length = n := by rfl) (hst : (assignEach es X.env).findIdx? (·.1) = none := by rfl) : DG X is (.Tuple es kk pos) (tgT n h) := by
  obtain ⟨⟨t, a1, a2⟩, a3⟩ := h1
  refine ⟨⟨_, pg_tup hc a1 hn hst, fun pv G F sd σ H x d sd' s r e => ?_⟩, fun vs hv d sd sd' e => ?_⟩
  · unfold tgT at e
    cases d with
    | tup ds =>
      have e : (if ds.length = n then h ds sd else none) = some sd' := e
      split at e
      · rename_i hl
        cases r with
        | @tup a vs _ q rr =>
          obtain ⟨σ1, s1, w1, k1⟩ := a2 pv G F sd σ H _ _ sd' s rr e
          exact ⟨σ1, s1, w1, fun Q q' => ⟨a, vs, rfl, .inl (.inl (s.fh _ _ q)), by rw [rr.length]; exact hl, k1 Q q'⟩⟩
      · cases e
    | ktu ds =>
      have e : (if ds.length = n then h ds sd else none) = some sd' := e
      split at e
      · rename_i hl
        cases r with
        | @ktu a vs _ q rr =>
          obtain ⟨σ1, s1, w1, k1⟩ := a2 pv G F sd σ H _ _ sd' s rr e
          exact ⟨σ1, s1, w1, fun Q q' => ⟨a, vs, rfl, Same.sqt s.fh q, by rw [rr.length]; exact hl, k1 Q q'⟩⟩
      · cases e
    | _ => cases e
  · unfold tgT at e
    cases d with
    | tup ds =>
      have e : (if ds.length = n then h ds sd else none) = some sd' := e
      split at e
      · exact a3 vs hv _ _ _ e
      · cases e
    | ktu ds =>
      have e : (if ds.length = n then h ds sd else none) = some sd' := e
      split at e
      · exact a3 vs hv _ _ _ e
      · cases e
    | _ => cases e
end
structure Walk (K : PySem.W.Frag) (J : It) (F : Hp) (ds : List D) : Prop where
  stop : ∀ F' H', Same F F' → Same F' H' → J.stop ds.length H'
  go : ∀ F' H' i d, Same F F' → Same F' H' → ds[i]? = some d → J.go i H'
  yld : ∀ F' H' i d x H'', Same F F' → Same F' H' → ds[i]? = some d → J.yld i H' x H'' → (H'' = H' ∧ Rep K F' x d) ∨ ∃ T vs es, x = .ref T ∧ d = .tup es ∧ H' T = none ∧ H'' = upd H' T (.tup vs) ∧ Reps K F' vs es
noncomputable def RSw (K : PySem.W.Frag) : RSt It (List D) := fun _ F _ _ _ J ds => Walk K J F ds
noncomputable def TrI (K : PySem.W.Frag) (pv : List V) (W : WX) (p : Bool) (wi : TI) (m : SD → ER (List D)) : Prop := ∀ G F sd σ H R, StR K pv G F sd σ H → Meets K pv W G σ (RSw K) p sd F H (m sd) R (wi σ H R)
structure DI (X : Cx) (pv : List V) (W : WX) (p : Bool) (tg iter : Expr) (m : SD → ER (List D)) : Prop where
  ex : ∃ wi, PI X tg iter wi ∧ TrI X.K pv W p wi m
noncomputable def iLst (a : SD → ER D) : SD → ER (List D) := fun sd => (a sd).bind fun x sd1 => match x with
  | .lst ds => .ok ds sd1
  | .scr ns => .ok (ns.map .int) sd1
  | _ => .bad
noncomputable def iTuP (a : SD → ER D) : SD → ER (List D) := fun sd => (a sd).bind fun x sd1 => match x with
  | .tup ds => .ok ds sd1
  | _ => .bad
noncomputable def rangeD (lo : Int) (n : Nat) : List D := (List.range n).map fun (i : Nat) => D.int (lo + (i : Int))
noncomputable def iRange1 (a : SD → ER (List D)) : SD → ER (List D) := fun sd => (a sd).bind fun xs sd1 => match xs with
  | [.int j] => if -(2 ^ 62) ≤ j ∧ j < 2 ^ 62 then .ok (rangeD 0 j.toNat) sd1 else .bad
  | _ => .bad
noncomputable def iRange2 (a : SD → ER (List D)) : SD → ER (List D) := fun sd => (a sd).bind fun xs sd1 => match xs with
  | [.int i, .int j] => if -(2 ^ 62) ≤ i ∧ i < 2 ^ 62 ∧ -(2 ^ 62) ≤ j ∧ j < 2 ^ 62 then .ok (rangeD i (j - i).toNat) sd1 else .bad
  | _ => .bad
noncomputable def iZip2 (a : SD → ER (List D)) : SD → ER (List D) := fun sd => (a sd).bind fun xs sd1 => match xs with
  | [.lst xs, .lst ys] => .ok ((xs.zip ys).map fun p => .tup [p.1, p.2]) sd1
  | _ => .bad
noncomputable def iEnumL (a : SD → ER (List D)) : SD → ER (List D) := fun sd => (a sd).bind fun xs sd1 => match xs with
  | [.lst xs] => .ok (xs.zipIdx.map fun p => .tup [.int (p.2 : Int), p.1]) sd1
  | _ => .bad
section
variable {K : PySem.W.Frag} {F H : Hp}
theorem walk_list {a : Addr} {vs : List V} {ds : List D} (h : SqL K F a vs) (r : Reps K F vs ds) : Walk K (Itl K a) F ds where
  stop := fun F' H' e1 e2 => ⟨vs, (e1.trans e2).seq h, by rw [r.length]; exact Nat.le_refl _⟩
  go := fun F' H' i d e1 e2 hd => by
    obtain ⟨v, h1, _⟩ := r.get hd
    exact ⟨vs, v, (e1.trans e2).seq h, h1⟩
  yld := fun F' H' i d x H'' e1 e2 hd ⟨hH, hx⟩ => by
    obtain ⟨v, h1, h2⟩ := r.get hd
    have := hx vs ((e1.trans e2).seq h)
    rw [h1] at this; cases this
    exact .inl ⟨hH, h2.mono e1⟩
theorem walk_tup {a : Addr} {vs : List V} {ds : List D} (h : SqT K F a vs) (r : Reps K F vs ds) : Walk K (Itt K a) F ds where
  stop := fun F' H' e1 e2 => ⟨vs, Same.sqt (e1.trans e2) h, by rw [r.length]; exact Nat.le_refl _⟩
  go := fun F' H' i d e1 e2 hd => by
    obtain ⟨v, h1, _⟩ := r.get hd
    exact ⟨vs, v, Same.sqt (e1.trans e2) h, h1⟩
  yld := fun F' H' i d x H'' e1 e2 hd ⟨hH, hx⟩ => by
    obtain ⟨v, h1, h2⟩ := r.get hd
    have := hx vs (Same.sqt (e1.trans e2) h)
    rw [h1] at this; cases this
    exact .inl ⟨hH, h2.mono e1⟩
theorem walk_enum {a : Addr} {vs : List V} {ds : List D} (h : SqL K F a vs) (r : Reps K F vs ds) : Walk K (Ite K a) F (ds.zipIdx.map fun p => .tup [.int (p.2 : Int), p.1]) where
  stop := fun F' H' e1 e2 => ⟨vs, (e1.trans e2).seq h, by rw [List.length_map, List.length_zipIdx, r.length]; exact Nat.le_refl _⟩
  go := fun F' H' i d e1 e2 hd => by
    rw [List.getElem?_map] at hd
    obtain ⟨⟨d1, j⟩, h1, _⟩ := Option.map_eq_some_iff.mp hd
    rw [List.getElem?_zipIdx] at h1
    obtain ⟨d', h2, _⟩ := Option.map_eq_some_iff.mp h1
    obtain ⟨v, k1, _⟩ := r.get h2
    exact ⟨vs, v, (e1.trans e2).seq h, k1⟩
  yld := fun F' H' i d x H'' e1 e2 hd ⟨T, y, hx, hT, hH, q⟩ => by
    rw [List.getElem?_map] at hd
    obtain ⟨⟨d1, j⟩, h1, hd⟩ := Option.map_eq_some_iff.mp hd
    rw [List.getElem?_zipIdx] at h1
    obtain ⟨d', h2, h3⟩ := Option.map_eq_some_iff.mp h1
    cases h3
    obtain ⟨v, k1, k3⟩ := r.get h2
    have a1 := q vs ((e1.trans e2).seq h)
    rw [k1] at a1; cases a1
    refine .inr ⟨T, [.int (i : Nat), y], [.int (i : Nat), d1], hx, ?_, hT, hH, .cons (.int _) (.cons (k3.mono e1) .nil)⟩
    rw [← hd]; simp
end
section
variable {X : Cx} {pv : List V} {W : WX} {p q k l : Bool} {tg e a b c : Expr} {es : List Expr} {pos pp : Pos}
theorem di_list {m : SD → ER D} (h : DX X pv W p true e m) : DI X pv W p tg e (iLst m) := by
  obtain ⟨te, a1, a2⟩ := h
  refine ⟨_, pi_list a1, fun G F sd σ H R s => ?_⟩
  refine Meets.bindL (a2 G F sd σ H _ s) fun x F1 H1 dx sd1 s1 s2 s3 s4 => ?_
  have s3 : Rep X.K F1 x dx := s3
  cases dx with
  | lst ds =>
    cases s3 with
    | @lst aa vs _ h1 h2 =>
      exact Meets.here s2 (show RSw X.K G F1 sd1 H1 σ (Itl X.K aa) ds from walk_list (.inl h1) h2) fun q => ⟨aa, rfl, ⟨vs, .inl (Same.rd s2.fh h1)⟩, q⟩
  | scr ns =>
    cases s3 with
    | @scr aa _ h1 =>
      exact Meets.here s2 (show RSw X.K G F1 sd1 H1 σ (Itl X.K aa) (ns.map .int) from walk_list h1 (Reps.ints ns)) fun q => ⟨aa, rfl, ⟨_, s2.fh.seq h1⟩, q⟩
  | _ => exact True.intro
theorem di_tup {m : SD → ER D} (h : DX X pv W p true e m) : DI X pv W p tg e (iTuP m) := by
  obtain ⟨te, a1, a2⟩ := h
  refine ⟨_, pi_tup a1, fun G F sd σ H R s => ?_⟩
  refine Meets.bindL (a2 G F sd σ H _ s) fun x F1 H1 dx sd1 s1 s2 s3 s4 => ?_
  have s3 : Rep X.K F1 x dx := s3
  cases dx with
  | tup ds =>
    cases s3 with
    | @tup aa vs _ h1 h2 =>
      exact Meets.here s2 (show RSw X.K G F1 sd1 H1 σ (Itt X.K aa) ds from walk_tup (.inl (.inl h1)) h2) fun q => ⟨aa, rfl, ⟨vs, .inl (.inl (s2.fh _ _ h1))⟩, q⟩
  | _ => exact True.intro
theorem di_enum {elts : List Expr} {kk : Nat} {tpos : Pos} {m : SD → ER (List D)} (hg : Gl X "enumerate") (hm : X.mg "enumerate" = none) (ha : DA X pv W p true [a] m)
    (hs : starEach [a] X.env = [(false, eval a X.env)] := by rfl) : DI X pv W p (.Tuple elts kk tpos) (.Call (.Name "enumerate" pp) [a] [] pos) (iEnumL m) := by
  obtain ⟨ta, a1, a2⟩ := ha
  refine ⟨_, pi_enum hg hm a1 hs, fun G F sd σ H R s => ?_⟩
  refine Meets.bindL (a2 G F sd σ H _ s) fun xs F1 H1 ds sd1 s1 s2 s3 s4 => ?_
  have r : Reps X.K F1 xs ds := s3
  split
  · obtain ⟨v, rfl, r1⟩ := reps1 r
    cases r1 with
    | @lst aa vs _ h1 h2 =>
      exact Meets.here s2 (show RSw X.K G F1 sd1 H1 σ _ _ from walk_enum (.inl h1) h2) fun q => ⟨aa, vs, rfl, .inl (Same.rd s2.fh h1), q⟩
  · exact True.intro
end
noncomputable def goFor (g : D → SD → Option SD) (body : SD → Fl) : List D → SD → Fl
  | [], sd => .nx sd
  | d :: ds, sd => match g d sd with
    | none => .bad
    | some sd1 => match body sd1 with
      | .nx sd2 => goFor g body ds sd2
      | .ct sd2 => goFor g body ds sd2
      | .bk sd2 => .nx sd2
      | r => r
noncomputable def sFor (it : SD → ER (List D)) (g : D → SD → Option SD) (body : SD → Fl) : SD → Fl := fun sd => (it sd).stm fun ds sd1 => goFor g body ds sd1
section
variable {X : Cx} {pv : List V} {W : WX} {p q k l : Bool} {pos : Pos}
theorem drop_at {α : Type} {l : List α} {i : Nat} {x : α} (h : l[i]? = some x) : l.drop i = x :: l.drop (i + 1) := by
  obtain ⟨hi, e⟩ := List.getElem?_eq_some_iff.mp h
  rw [← e]
  exact List.drop_eq_getElem_cons hi
theorem ds_for {is : List Nat} {tg iter : Expr} {body : List Stmt} {mi : SD → ER (List D)} {g : D → SD → Option SD} {mb : SD → Fl} (hp : PassesOwn (model X.prog X.w) X.A X.env X.xe) (hc : X.calm = true) (hi : DI X pv W p tg iter mi) (hg : DG X is tg g) (hb : DSs X pv W body mb)
    (hs : ∀ x, foldedSetIterable iter X.env x = pure x := by intro _; rfl) : DS X pv W (.For tg iter body [] pos) (sFor mi g mb) := by
  obtain ⟨wi, a1, a2⟩ := hi
  obtain ⟨⟨t, b1, b2⟩, _⟩ := hg
  obtain ⟨tb, c1, c2⟩ := hb
  refine ⟨_, ps_for hp hc a1 b1 c1 hs, fun G F sd σ H D s => ?_⟩
  refine Meets.stm (a2 G F sd σ H _ s) fun J F1 H1 ds sd1 s1 s2 s3 => ?_
  refine meetsS_of fun w => ?_
  have wk : Walk X.K J F1 ds := s3
  refine ⟨fun i m σ H => m = ds.length - i ∧ i ≤ ds.length ∧ ∃ F' sd', Same F1 F' ∧ StR X.K pv G F' sd' σ H ∧ Wants X.K pv W G F' (goFor g mb (ds.drop i) sd') D, ⟨ds.length, by simp, Nat.zero_le _, F1, sd1, Same.refl _, s2, w⟩, ?_⟩
  rintro i m σ H ⟨rfl, hi, F', sd', f1, st, wt⟩
  by_cases hlt : i < ds.length
  · have hd : ds[i]? = some ds[i] := by simp [hlt]
    refine .inr ⟨wk.go F' H i _ f1 st.fh hd, fun σ' H' => ∃ F'' sd'', Same F1 F'' ∧ StR X.K pv G F'' sd'' σ' H' ∧ Wants X.K pv W G F'' (goFor g mb (ds.drop (i + 1)) sd'') D, fun σ' H' q => ⟨ds.length - (i + 1), by omega, rfl, hlt, q⟩, fun x H' y => ?_⟩
    rw [drop_at hd] at wt
    have main : ∀ F2 H2, Same F' F2 → StR X.K pv G F2 sd' σ H2 → Rep X.K F2 x ds[i] → t x σ H2 fun σ2 H2 => tb { D with nx := fun σ' H' => ∃ F'' sd'', Same F1 F'' ∧ StR X.K pv G F'' sd'' σ' H' ∧ Wants X.K pv W G F'' (goFor g mb (ds.drop (i + 1)) sd'') D, ct := fun σ' H' => ∃ F'' sd'', Same F1 F'' ∧ StR X.K pv G F'' sd'' σ' H' ∧ Wants X.K pv W G F'' (goFor g mb (ds.drop (i + 1)) sd'') D, bk := D.nx } σ2 H2 := fun F2 H2 f2 st2 rx => by
      rw [goFor] at wt
      cases eg : g ds[i] sd' with
      | none => rw [eg] at wt; exact wt.elim
      | some sd2 =>
        rw [eg] at wt
        dsimp only at wt
        obtain ⟨σ2, k1, _, k2⟩ := b2 pv G F2 sd' σ H2 x _ sd2 st2 rx eg
        refine k2 _ (MeetsS.get (c2 G F2 sd2 σ2 H2 _ k1) ?_)
        have wt := wt.mono f2
        revert wt
        cases mb sd2 with
        | bad => exact id
        | nx sd3 => exact fun wt F3 σ3 H3 e3 st3 => ⟨F3, sd3, (f1.trans f2).trans e3, st3, wt.mono e3⟩
        | ct sd3 => exact fun wt F3 σ3 H3 e3 st3 => ⟨F3, sd3, (f1.trans f2).trans e3, st3, wt.mono e3⟩
        | bk sd3 => exact id
        | rt tt sd3 => exact id
        | rz y sd3 => exact id
    rcases wk.yld F' H i _ x H' f1 st.fh hd y with ⟨rfl, rx⟩ | ⟨T, vs, es, rfl, ed, hT, rfl, rr⟩
    · exact main F' H' (Same.refl _) st rx
    · refine main _ _ (st.sameNew hT) (st.new (u := .tup vs) hT) ?_
      rw [ed]
      exact .tup upd_same (rr.mono (st.sameNew hT))
  · have e : i = ds.length := by omega
    subst e
    refine .inl ⟨wk.stop F' H f1 st.fh, ?_⟩
    rw [List.drop_length, goFor] at wt
    exact wt F' σ H (Same.refl _) st
noncomputable def goWhile (c : SD → ER Bool) (body : SD → Fl) : Nat → SD → Fl
  | 0, _ => .bad
  | n + 1, sd => (c sd).stm fun b sd1 => if b = true then (match body sd1 with
      | .nx sd2 => goWhile c body n sd2
      | .ct sd2 => goWhile c body n sd2
      | .bk sd2 => .nx sd2
      | r => r) else .nx sd1
noncomputable def sWhile (fuel : SD → Nat) (c : SD → ER Bool) (body : SD → Fl) : SD → Fl := fun sd => goWhile c body (fuel sd) sd
theorem ds_while {c : Expr} {body : List Stmt} {mc : SD → ER Bool} {mb : SD → Fl} (fuel : SD → Nat) (hp : PassesOwn (model X.prog X.w) X.A X.env X.xe) (hc : DT X pv W p c mc) (hb : DSs X pv W body mb) : DS X pv W (.While c body [] pos) (sWhile fuel mc mb) := by
  obtain ⟨tc, a1, a2⟩ := hc
  obtain ⟨tb, c1, c2⟩ := hb
  refine ⟨_, ps_while hp a1 c1, fun G F sd σ H D s => ?_⟩
  refine meetsS_of fun w => ?_
  refine ⟨fun m σ H => ∃ F' sd', Same F F' ∧ StR X.K pv G F' sd' σ H ∧ Wants X.K pv W G F' (goWhile mc mb m sd') D, ⟨fuel sd, F, sd, Same.refl _, s, w⟩, ?_⟩
  rintro m σ H ⟨F', sd', f1, st, wt⟩
  cases m with
  | zero => exact wt.elim
  | succ m =>
    rw [goWhile] at wt
    refine MeetsS.get (D := D) (Meets.stm (a2 G F' sd' σ H _ st) (f := fun b sd1 => if b = true then (match mb sd1 with
      | .nx sd2 => goWhile mc mb m sd2
      | .ct sd2 => goWhile mc mb m sd2
      | .bk sd2 => .nx sd2
      | r => r) else .nx sd1) fun x F1 H1 dx sd1 s1 s2 s3 => ?_) wt
    have s3 : x = dx := s3
    subst s3
    refine meetsS_of fun wt => ?_
    cases x with
    | false =>
      rw [if_neg (by decide)] at wt ⊢
      exact wt F1 σ H1 (Same.refl _) s2
    | true =>
      rw [if_pos rfl] at wt ⊢
      refine ⟨fun σ' H' => ∃ F'' sd'', Same F F'' ∧ StR X.K pv G F'' sd'' σ' H' ∧ Wants X.K pv W G F'' (goWhile mc mb m sd'') D, fun σ' H' q => ⟨m, Nat.lt_succ_self m, q⟩, ?_⟩
      refine MeetsS.get (c2 G F1 sd1 σ H1 _ s2) ?_
      revert wt
      cases mb sd1 with
      | bad => exact id
      | nx sd3 => exact fun wt F3 σ3 H3 e3 st3 => ⟨F3, sd3, (f1.trans s1).trans e3, st3, wt.mono e3⟩
      | ct sd3 => exact fun wt F3 σ3 H3 e3 st3 => ⟨F3, sd3, (f1.trans s1).trans e3, st3, wt.mono e3⟩
      | bk sd3 => exact id
      | rt tt sd3 => exact id
      | rz y sd3 => exact id
end
end DL
namespace DL
open PySem PySem.Spec L2
theorem wipe_in {σ : L2.St} {i : Nat} : ∀ {vs : List Nat}, i ∉ vs → (wipe σ vs)[i]? = σ[i]?
  | [], _ => rfl
  | v :: vs, h => by
    unfold wipe
    rw [List.getElem?_set_ne (fun z => h (by rw [z]; exact List.mem_cons_self))]
    exact wipe_in fun z => h (List.mem_cons_of_mem _ z)
theorem back_self {sd sd1 : SD} {vs : List Nat} (h : sd.wipe vs = sd1.wipe vs) : sd.back sd1 vs = sd1 := by
  obtain ⟨l, pa⟩ := sd
  obtain ⟨l1, pa1⟩ := sd1
  have h1 : wipeS l vs = wipeS l1 vs := congrArg SD.sl h
  have h2 : pa = pa1 := congrArg SD.pa h
  subst h2
  have hl : l.length = l1.length := by rw [← wipeS_length l vs, h1, wipeS_length]
  show SD.mk (backS l l1 vs) pa = SD.mk l1 pa
  congr 1
  refine List.ext_getElem? fun i => ?_
  by_cases hi : i ∈ vs
  · by_cases hl2 : i < l.length
    · rw [backS_in hi hl2]
      have : l1[i]? = some l1[i] := by simp [hl ▸ hl2]
      rw [this]; rfl
    · rw [List.getElem?_eq_none (by rw [backS_length]; omega), List.getElem?_eq_none (by omega)]
  · rw [backS_out hi, ← wipeS_out (l := l) hi, h1, wipeS_out hi]
section
variable {K : PySem.W.Frag} {pv : List V} {G F H : Hp} {sd : SD} {σ : L2.St}
theorem wiped_at {vs : List Nat} {i : Nat} {x : S} (h : (wipeS sd.sl vs)[i]? = some x) (hx : x ≠ .un) : i ∉ vs ∧ sd.sl[i]? = some x := by
  by_cases hi : i ∈ vs
  · by_cases hl : i < sd.sl.length
    · rw [wipeS_in hi hl] at h
      exact absurd (Option.some.inj h).symm hx
    · rw [List.getElem?_eq_none (by rw [wipeS_length]; omega)] at h
      cases h
  · exact ⟨hi, by rw [← wipeS_out hi]; exact h⟩
theorem StR.wipe (vs : List Nat) (s : StR K pv G F sd σ H) : StR K pv G F (sd.wipe vs) (L2.wipe σ vs) H := by
  obtain ⟨o, W⟩ := s
  refine ⟨o, W.fh, W.gh, W.fg, W.oh, W.oo, by show _ = (wipeS sd.sl vs).length; rw [L2.wipe_length, wipeS_length]; exact W.len, fun i t e => ?_, fun i j e => ?_, W.pr⟩
  · obtain ⟨h1, h2⟩ := wiped_at e (by intro z; cases z)
    rw [wipe_in h1]
    exact W.sl i t h2
  · obtain ⟨h1, h2⟩ := wiped_at e (by intro z; cases z)
    rw [wipe_in h1]
    exact W.sp i j h2
/-- a block is entered: its own names' trees are put aside -/
theorem StR.block (vs : List Nat) (s : StR K pv G F sd σ H) : ∃ G', (∀ a, H a = none → G' a = none) ∧ StR K pv G' F (sd.wipe vs) (L2.wipe σ vs) H ∧
    ∀ (F' : Hp) (sd' : SD) (H' : Hp) (v : V) (t : OT), Same F F' → StR1 K pv G' F' (sd'.wipe vs) (L2.wipe σ vs) H' v t → StR1 K pv G F' (sd'.back sd vs) σ H' v t := by
  classical
  obtain ⟨o, W⟩ := s
  let P : Addr → Prop := fun a => ∃ i ∈ vs, o (.inl i) a
  have gp : ∀ a, P a → G a = none := fun a ⟨i, _, h⟩ => (W.oh _ a h).2.2
  refine ⟨fun a => if P a then H a else G a, fun a ha => ?_, ⟨fun x a => o x a ∧ ∀ i ∈ vs, x ≠ .inl i, W.fh, fun a u e => ?_, fun a ha => ?_, fun x a ⟨q1, q2⟩ => ?_, fun x y a q q' => W.oo x y a q.1 q'.1, by show _ = (wipeS sd.sl vs).length; rw [L2.wipe_length, wipeS_length]; exact W.len, fun i t e => ?_, fun i j e => ?_, fun j t e => ?_⟩, fun F' sd' H' v t f ⟨o1, P1, W1, r1, k1⟩ => ?_⟩
  · show (if P a then H a else G a) = none
    by_cases z : P a
    · rw [if_pos z]; exact ha
    · rw [if_neg z]; exact W.gh.free ha
  · have e : (if P a then H a else G a) = some u := e
    by_cases z : P a
    · rw [if_pos z] at e; exact e
    · rw [if_neg z] at e; exact W.gh a u e
  · show (if P a then H a else G a) = none
    by_cases z : P a
    · obtain ⟨i, _, h⟩ := z
      exact absurd (W.oh _ a h).2.1 ha
    · rw [if_neg z]; exact W.fg a ha
  · obtain ⟨h1, h2, h3⟩ := W.oh x a q1
    refine ⟨h1, h2, ?_⟩
    show (if P a then H a else G a) = none
    rw [if_neg fun ⟨i, hi, h⟩ => q2 i hi (W.oo _ _ a q1 h)]
    exact h3
  · obtain ⟨h1, h2⟩ := wiped_at e (by intro z; cases z)
    rw [wipe_in h1]
    obtain ⟨v, a1, a2⟩ := W.sl i t h2
    exact ⟨v, a1, a2.mono (Same.refl _) fun x hx => ⟨⟨hx, fun j hj z => h1 (by rw [Sum.inl.inj z]; exact hj)⟩, rfl⟩⟩
  · obtain ⟨h1, h2⟩ := wiped_at e (by intro z; cases z)
    rw [wipe_in h1]
    exact W.sp i j h2
  · obtain ⟨v, a1, a2⟩ := W.pr j t e
    exact ⟨v, a1, a2.mono (Same.refl _) fun x hx => ⟨⟨hx, fun j hj z => by cases z⟩, rfl⟩⟩
  · have hP : ∀ a, P a → H' a = H a := fun a z => by
      have hn : H a ≠ none := by
        obtain ⟨i, _, h⟩ := z
        exact (W.oh _ a h).1
      cases e : H a with
      | none => exact absurd e hn
      | some u => exact W1.gh a u (by show (if P a then H a else G a) = some u; rw [if_pos z]; exact e)
    have hG : ∀ a, (if P a then H a else G a) = none → ¬ P a ∧ G a = none := fun a z => by
      by_cases y : P a
      · rw [if_pos y] at z
        obtain ⟨i, _, h⟩ := y
        exact absurd z (W.oh _ a h).1
      · rw [if_neg y] at z
        exact ⟨y, z⟩
    have hF : ∀ a, P a → F' a = none := fun a z => by
      cases e : F' a with
      | none => rfl
      | some u => exact absurd z (hG a (W1.fg a (by rw [e]; simp))).1
    have len1 : sd'.sl.length = sd.sl.length := by
      have := W1.len
      have e2 : (wipeS sd'.sl vs).length = sd'.sl.length := wipeS_length _ _
      have : (L2.wipe σ vs).length = (wipeS sd'.sl vs).length := this
      rw [L2.wipe_length, e2, W.len] at this
      exact this.symm
    refine ⟨fun x a => match x with
      | .inl i => if i ∈ vs then o (.inl i) a else o1 (.inl i) a
      | .inr j => o1 (.inr j) a, P1, ⟨W1.fh, fun a u e => ?_, fun a ha => (hG a (W1.fg a ha)).2, fun x a q => ?_, fun x y a q q' => ?_, ?_, fun i t e => ?_, fun i j e => ?_, fun j t e => ?_⟩, r1, fun a z => ?_⟩
    · by_cases z : P a
      · rw [gp a z] at e; cases e
      · exact W1.gh a u (by show (if P a then H a else G a) = some u; rw [if_neg z]; exact e)
    · cases x with
      | inl i =>
        by_cases hi : i ∈ vs
        · have q : o (.inl i) a := by simpa [hi] using q
          have z : P a := ⟨i, hi, q⟩
          exact ⟨by rw [hP a z]; exact (W.oh _ a q).1, hF a z, gp a z⟩
        · have q : o1 (.inl i) a := by simpa [hi] using q
          obtain ⟨h1, h2, h3⟩ := W1.oh _ a q
          exact ⟨h1, h2, (hG a h3).2⟩
      | inr j =>
        obtain ⟨h1, h2, h3⟩ := W1.oh _ a q
        exact ⟨h1, h2, (hG a h3).2⟩
    · have old : ∀ (x : Nat ⊕ Nat), (match x with
        | .inl i => if i ∈ vs then o (.inl i) a else o1 (.inl i) a
        | .inr j => o1 (.inr j) a) → (∃ i, x = .inl i ∧ i ∈ vs ∧ o (.inl i) a ∧ P a) ∨ (o1 x a ∧ ¬ P a) := fun x q => by
        cases x with
        | inl i =>
          by_cases hi : i ∈ vs
          · have q : o (.inl i) a := by simpa [hi] using q
            exact .inl ⟨i, rfl, hi, q, i, hi, q⟩
          · have q : o1 (.inl i) a := by simpa [hi] using q
            exact .inr ⟨q, (hG a (W1.oh _ a q).2.2).1⟩
        | inr j => exact .inr ⟨q, (hG a (W1.oh _ a q).2.2).1⟩
      rcases old x q with ⟨i, rfl, _, q1, q2⟩ | ⟨q1, q2⟩
      · rcases old y q' with ⟨j, rfl, _, q3, _⟩ | ⟨_, q4⟩
        · exact W.oo _ _ a q1 q3
        · exact absurd q2 q4
      · rcases old y q' with ⟨j, rfl, _, _, q4⟩ | ⟨q3, _⟩
        · exact absurd q4 q2
        · exact W1.oo _ _ a q1 q3
    · show σ.length = (backS sd'.sl sd.sl vs).length
      rw [backS_length, len1]
      exact W.len
    · have e : (backS sd'.sl sd.sl vs)[i]? = some (S.ow t) := e
      by_cases hi : i ∈ vs
      · by_cases hl : i < sd'.sl.length
        · rw [backS_in hi hl] at e
          have hl2 : i < sd.sl.length := by omega
          have e2 : sd.sl[i]? = some sd.sl[i] := by simp [hl2]
          rw [e2] at e
          have e : some sd.sl[i] = some (S.ow t) := e
          rw [e] at e2
          obtain ⟨v, a1, a2⟩ := W.sl i t e2
          refine ⟨v, a1, a2.mono f fun x hx => ⟨by simpa [hi] using hx, hP x ⟨i, hi, hx⟩⟩⟩
        · rw [List.getElem?_eq_none (by rw [backS_length]; omega)] at e
          cases e
      · rw [backS_out hi, ← wipeS_out (l := sd'.sl) hi] at e
        obtain ⟨v, a1, a2⟩ := W1.sl i t e
        rw [wipe_in hi] at a1
        exact ⟨v, a1, a2.mono (Same.refl _) fun x hx => ⟨by simpa [hi] using hx, rfl⟩⟩
    · have e : (backS sd'.sl sd.sl vs)[i]? = some (S.pa j) := e
      by_cases hi : i ∈ vs
      · by_cases hl : i < sd'.sl.length
        · rw [backS_in hi hl] at e
          have hl2 : i < sd.sl.length := by omega
          have e2 : sd.sl[i]? = some sd.sl[i] := by simp [hl2]
          rw [e2] at e
          have e : some sd.sl[i] = some (S.pa j) := e
          rw [e] at e2
          exact W.sp i j e2
        · rw [List.getElem?_eq_none (by rw [backS_length]; omega)] at e
          cases e
      · rw [backS_out hi, ← wipeS_out (l := sd'.sl) hi] at e
        obtain ⟨v, a1, a2⟩ := W1.sp i j e
        rw [wipe_in hi] at a2
        exact ⟨v, a1, a2⟩
    · obtain ⟨v, a1, a2⟩ := W1.pr j t e
      exact ⟨v, a1, a2⟩
    · obtain ⟨h1, h2, h3, h4⟩ := k1 a z
      refine ⟨h1, h2, (hG a h3).2, fun x q => ?_⟩
      cases x with
      | inl i =>
        by_cases hi : i ∈ vs
        · have q : o (.inl i) a := by simpa [hi] using q
          exact (hG a h3).1 ⟨i, hi, q⟩
        · have q : o1 (.inl i) a := by simpa [hi] using q
          exact h4 _ q
      | inr j => exact h4 _ q
/-- a list that nobody but we know -/
theorem StR.lay {L : Addr} {xs : List V} (s : StR K pv G F sd σ H) (hD : H L = none) : StR K pv (upd G L (.lst xs)) F sd σ (upd H L (.lst xs)) := by
  obtain ⟨o, W⟩ := s
  obtain ⟨f0, g0, n0⟩ := W.fresh hD
  have W' := W.grow (Same.upd (o := .lst xs) hD) (Same.refl F) (fun a u e => by rw [upd_ne (ne_of_none e f0)]; exact W.fh a u e) fun a ha => .inl ha
  refine ⟨o, W'.fh, fun a u e => ?_, fun a ha => ?_, fun i a q => ?_, W'.oo, W'.len, W'.sl, W'.sp, W'.pr⟩
  · by_cases h : a = L
    · subst h; rw [upd_same] at e ⊢; exact e
    · rw [upd_ne h] at e; exact W'.gh a u e
  · have h : a ≠ L := fun z => ha (by rw [z]; exact f0)
    rw [upd_ne h]; exact W'.fg a ha
  · obtain ⟨h1, h2, h3⟩ := W'.oh i a q
    have h : a ≠ L := fun z => n0 i (by rw [← z]; exact q)
    exact ⟨h1, h2, by rw [upd_ne h]; exact h3⟩
theorem StR.relay {L : Addr} {xs ys : List V} (s : StR K pv (upd G L (.lst xs)) F sd σ H) : StR K pv (upd G L (.lst ys)) F sd σ (upd H L (.lst ys)) := by
  obtain ⟨o, W⟩ := s
  have gL : (upd G L (HO.lst xs)) L = some (.lst xs) := upd_same
  have f0 : F L = none := by
    cases e : F L with
    | none => rfl
    | some u =>
      have := W.fg L (by rw [e]; simp)
      rw [gL] at this; cases this
  have n0 : ∀ i, ¬ o i L := fun i q => by
    have := (W.oh i L q).2.2
    rw [gL] at this; cases this
  have cell : ∀ i x, o i x → upd H L (.lst ys) x = H x := fun i x q => upd_ne fun z => n0 i (by rw [← z]; exact q)
  refine ⟨o, fun a u e => ?_, fun a u e => ?_, fun a ha => ?_, fun i a q => ?_, W.oo, W.len, fun i t e => ?_, W.sp, fun j t e => ?_⟩
  · rw [upd_ne (ne_of_none e f0)]; exact W.fh a u e
  · by_cases h : a = L
    · subst h; rw [upd_same] at e ⊢; exact e
    · rw [upd_ne h] at e ⊢; exact W.gh a u (by rw [upd_ne h]; exact e)
  · have h : a ≠ L := fun z => ha (by rw [z]; exact f0)
    have := W.fg a ha
    rw [upd_ne h] at this ⊢; exact this
  · obtain ⟨h1, h2, h3⟩ := W.oh i a q
    have h : a ≠ L := fun z => n0 i (by rw [← z]; exact q)
    rw [upd_ne h] at h3
    exact ⟨by rw [upd_ne h]; exact h1, h2, by rw [upd_ne h]; exact h3⟩
  · obtain ⟨v, h1, h2⟩ := W.sl i t e
    exact ⟨v, h1, h2.mono (Same.refl _) fun x hx => ⟨hx, cell _ x hx⟩⟩
  · obtain ⟨v, h1, h2⟩ := W.pr j t e
    exact ⟨v, h1, h2.mono (Same.refl _) fun x hx => ⟨hx, cell _ x hx⟩⟩
theorem StR.unlay {L : Addr} {xs : List V} {ds : List D} (s : StR K pv (upd G L (.lst xs)) F sd σ H) (gL : G L = none) (r : Reps K F xs ds) : StR1 K pv G F sd σ H (.ref L) (.ol (ds.map .fz)) := by
  obtain ⟨o, W⟩ := s
  have gU : (upd G L (HO.lst xs)) L = some (.lst xs) := upd_same
  have f0 : F L = none := by
    cases e : F L with
    | none => rfl
    | some u =>
      have := W.fg L (by rw [e]; simp)
      rw [gU] at this; cases this
  have n0 : ∀ i, ¬ o i L := fun i q => by
    have := (W.oh i L q).2.2
    rw [gU] at this; cases this
  refine ⟨o, fun a => a = L, ⟨W.fh, fun a u e => W.gh a u (by rw [upd_ne (ne_of_none e gL)]; exact e), fun a ha => ?_, fun i a q => ?_, W.oo, W.len, W.sl, W.sp, W.pr⟩, ?_, fun a ha => ?_⟩
  · have h : a ≠ L := fun z => ha (by rw [z]; exact f0)
    have := W.fg a ha
    rw [upd_ne h] at this; exact this
  · obtain ⟨h1, h2, h3⟩ := W.oh i a q
    have h : a ≠ L := fun z => n0 i (by rw [← z]; exact q)
    rw [upd_ne h] at h3
    exact ⟨h1, h2, h3⟩
  · unfold RepO
    exact ⟨L, xs, rfl, rfl, W.gh L _ gU, repOs_of _ r⟩
  · subst ha
    exact ⟨by rw [W.gh a _ gU]; simp, f0, gL, n0⟩
theorem StR.at_lay {L : Addr} {xs : List V} (s : StR K pv (upd G L (.lst xs)) F sd σ H) : H L = some (.lst xs) := by
  obtain ⟨o, W⟩ := s
  exact W.gh L _ upd_same
end
/-- raising is not told here -/
noncomputable def ER.calm {α : Type} (r : ER α) : ER α :=
  match r with
  | .rz _ _ => .bad
  | r => r
noncomputable def goComp (g : D → SD → Option SD) (c : SD → ER Bool) (elt : SD → ER D) (vs : List Nat) : List D → List D → SD → ER (List D)
  | [], acc, sd => .ok acc sd
  | d :: ds, acc, sd => match g d (sd.wipe vs) with
    | none => .bad
    | some sd1 => (c sd1).calm.bind fun b sd2 => if b = true then ((elt sd2).calm.bind fun y sd3 => if acc.length < 16777216 then goComp g c elt vs ds (acc ++ [y]) sd3 else .bad) else goComp g c elt vs ds acc sd2
noncomputable def mComp (it : SD → ER (List D)) (g : D → SD → Option SD) (c : SD → ER Bool) (elt : SD → ER D) (vs : List Nat) : SD → ER OT := fun sd => (it sd).bind fun ds sd1 => (goComp g c elt vs ds [] sd1).bind fun res sd2 => .ok (.ol (res.map .fz)) (sd2.back sd1 vs)
noncomputable def mYes : SD → ER Bool := fun sd => .ok true sd
/-- no wish -/
noncomputable abbrev W0 : WX := fun _ _ _ _ => False
theorem goComp_calm {g : D → SD → Option SD} {c : SD → ER Bool} {elt : SD → ER D} {vs : List Nat} : ∀ (ds acc : List D) (sd : SD) (x : Exn) (s : SD), goComp g c elt vs ds acc sd ≠ .rz x s
  | [], acc, sd, x, s => by rw [goComp]; intro h; cases h
  | d :: ds, acc, sd, x, s => by
    rw [goComp]
    cases g d (sd.wipe vs) with
    | none => intro h; cases h
    | some sd1 =>
      show (c sd1).calm.bind _ ≠ _
      cases c sd1 with
      | bad => intro h; cases h
      | rz _ _ => intro h; cases h
      | ok b sd2 =>
        show (if b = true then _ else _) ≠ _
        split
        · cases elt sd2 with
          | bad => intro h; cases h
          | rz _ _ => intro h; cases h
          | ok y sd3 =>
            show (if acc.length < 16777216 then _ else _) ≠ _
            split
            · exact goComp_calm ds _ sd3 x s
            · intro h; cases h
        · exact goComp_calm ds acc sd2 x s
section
variable {K : PySem.W.Frag} {pv : List V} {W : WX} {p q pc pe : Bool}
theorem wipe_wipe {vs vs1 : List Nat} (h : ∀ i ∈ vs1, i ∈ vs) (sd : SD) : (sd.wipe vs1).wipe vs = sd.wipe vs := by
  show SD.mk (wipeS (wipeS sd.sl vs1) vs) sd.pa = SD.mk (wipeS sd.sl vs) sd.pa
  congr 1
  refine List.ext_getElem? fun i => ?_
  by_cases hi : i ∈ vs
  · by_cases hl : i < sd.sl.length
    · rw [wipeS_in hi (by rw [wipeS_length]; exact hl), wipeS_in hi hl]
    · rw [List.getElem?_eq_none (by rw [wipeS_length, wipeS_length]; omega), List.getElem?_eq_none (by rw [wipeS_length]; omega)]
  · rw [wipeS_out hi, wipeS_out hi, wipeS_out fun z => hi (h i z)]
theorem wipe_one {σ : L2.St} {i : Nat} : ∀ {us : List Nat}, i ∈ us → (wipe σ us)[i]? = if i < σ.length then some none else none
  | u :: us, h => by
    unfold wipe
    by_cases e : u = i
    · subst e
      by_cases hl : u < σ.length
      · rw [List.getElem?_set_self (by rw [wipe_length]; exact hl), if_pos hl]
      · rw [List.getElem?_eq_none (by rw [List.length_set, wipe_length]; omega), if_neg hl]
    · rw [List.getElem?_set_ne e]
      exact wipe_one ((List.mem_cons.mp h).resolve_left fun z => e z.symm)
theorem wipe_wipeV {vs vs1 : List Nat} (h : ∀ i ∈ vs1, i ∈ vs) (σ : L2.St) : wipe (wipe σ vs1) vs = wipe σ vs := by
  refine List.ext_getElem? fun i => ?_
  by_cases hi : i ∈ vs
  · rw [wipe_one hi, wipe_one hi, wipe_length]
  · rw [wipe_in hi, wipe_in hi, wipe_in fun z => hi (h i z)]
/-- the loop of a comprehension, by values: acc0 is there already -/
theorem comp_go {J : It} {t : TG} {tt : TT} {te : TE} {g : D → SD → Option SD} {c : SD → ER Bool} {elt : SD → ER D} {vs is : List Nat} {G F1 H1 : Hp} {sd1 : SD} {σ : L2.St} {ds acc0 : List D} {xs0 : List V} {L : Addr} {Q : Hp → Prop} {res : List D} {sdr : SD}
    (his : ∀ i ∈ is, i ∈ vs)
    (hg : ∀ (pv : List V) (G F : Hp) (sd : SD) (σ : L2.St) (H : Hp) (x : V) (d : D) (sd' : SD), StR K pv G F sd σ H → Rep K F x d → g d sd = some sd' → ∀ Q : L2.St → Hp → Prop, (∀ σ', StR K pv G F sd' σ' H → (∀ vs : List Nat, (∀ i ∈ is, i ∈ vs) → wipe σ' vs = wipe σ vs) → Q σ' H) → t x σ H Q)
    (hgw : ∀ d sd sd', g d sd = some sd' → sd'.wipe vs = sd.wipe vs)
    (hc : TrT K pv W0 pc tt c) (he : TrX K pv W0 pe true te elt) (wk : Walk K J F1 ds) (s1 : StR K pv (upd G L (.lst xs0)) F1 (sd1.wipe vs) (wipe σ vs) H1) (ra0 : Reps K F1 xs0 acc0) (e : goComp g c elt vs ds acc0 sd1 = .ok res sdr)
    (hQ : ∀ F' H' xs, Same F1 F' → StR K pv (upd G L (.lst xs)) F' (sdr.wipe vs) (wipe σ vs) H' → Reps K F' xs res → ((pc && pe) = true → (∀ a u, a ≠ L → H1 a = some u → H' a = some u) ∧ sdr.wipe vs = sd1.wipe vs) → Q H') :
    ∃ W : Nat → Nat → Hp → Prop, (∃ m, W 0 m H1) ∧ ∀ i m H, W i m H → (J.stop i H ∧ Q H) ∨ (J.go i H ∧ ∃ Nx : Hp → Prop, (∀ H', Nx H' → ∃ m', m' < m ∧ W (i + 1) m' H') ∧ ∀ x H', J.yld i H x H' → t x (wipe σ vs) H' fun σ2 H2 => wipe σ2 vs = wipe σ vs ∧ tt σ2 H2 fun b H3 =>
      if b = true then te σ2 H3 fun y H4 => ∃ acc, H4 L = some (.lst acc) ∧ acc.length < sizeLine ∧ Nx (upd H4 L (.lst (acc ++ [y]))) else Nx H3) := by
  have ww : ∀ (sd : SD) , (sd.wipe vs).wipe vs = sd.wipe vs := fun sd => wipe_wipe (fun i h => h) sd
  have sw : wipe (wipe σ vs) vs = wipe σ vs := wipe_wipeV (fun i h => h) σ
  let Inv : Nat → Hp → Prop := fun i H => ∃ F' sd' acc xs, Same F1 F' ∧ StR K pv (upd G L (.lst xs)) F' (sd'.wipe vs) (wipe σ vs) H ∧ Reps K F' xs acc ∧ goComp g c elt vs (ds.drop i) acc sd' = .ok res sdr ∧ ((pc && pe) = true → (∀ a u, a ≠ L → H1 a = some u → H a = some u) ∧ sd'.wipe vs = sd1.wipe vs)
  refine ⟨fun i m H => m = ds.length - i ∧ i ≤ ds.length ∧ Inv i H, ⟨ds.length, by simp, Nat.zero_le _, F1, sd1, acc0, xs0, Same.refl _, s1, ra0, e, fun _ => ⟨fun a u _ h => h, rfl⟩⟩, ?_⟩
  rintro i m H ⟨rfl, hi, F', sd', acc, xs, f1, st, ra, eg, pu⟩
  by_cases hlt : i < ds.length
  · have hd : ds[i]? = some ds[i] := by simp [hlt]
    refine .inr ⟨wk.go F' H i _ f1 st.fh hd, Inv (i + 1), fun H' q => ⟨ds.length - (i + 1), by omega, rfl, hlt, q⟩, fun x H' y => ?_⟩
    rw [drop_at hd, goComp] at eg
    cases e1 : g ds[i] (sd'.wipe vs) with
    | none => rw [e1] at eg; cases eg
    | some sda =>
      rw [e1] at eg
      dsimp only at eg
      have main : ∀ F2 H2, Same F' F2 → StR K pv (upd G L (.lst xs)) F2 (sd'.wipe vs) (wipe σ vs) H2 → Rep K F2 x ds[i] → ((pc && pe) = true → ∀ a u, a ≠ L → H1 a = some u → H2 a = some u) → t x (wipe σ vs) H2 fun σ2 H2 => wipe σ2 vs = wipe σ vs ∧ tt σ2 H2 fun b H3 =>
          if b = true then te σ2 H3 fun y H4 => ∃ acc, H4 L = some (.lst acc) ∧ acc.length < sizeLine ∧ Inv (i + 1) (upd H4 L (.lst (acc ++ [y]))) else Inv (i + 1) H3 := fun F2 H2 f2 st2 rx pu2 => by
        refine hg pv _ F2 _ _ H2 x _ sda st2 rx e1 _ fun σ2 k1 k2 => ?_
        have w2 : wipe σ2 vs = wipe σ vs := (k2 vs his).trans sw
        have pw : (pc && pe) = true → sda.wipe vs = sd1.wipe vs := fun z => by rw [hgw _ _ _ e1, ww, (pu z).2]
        refine ⟨w2, ?_⟩
        have z := hc (upd G L (.lst xs)) F2 sda σ2 H2 (fun b H3 => if b = true then te σ2 H3 fun y H4 => ∃ acc, H4 L = some (.lst acc) ∧ acc.length < sizeLine ∧ Inv (i + 1) (upd H4 L (.lst (acc ++ [y]))) else Inv (i + 1) H3) k1
        revert eg z
        cases c sda with
        | bad => intro eg; cases eg
        | rz _ _ => intro eg; cases eg
        | ok b sdb =>
          intro eg z
          refine z fun b' F3 H3 u1 u2 u3 u4 => ?_
          have u3 : b' = b := u3
          subst u3
          have eg : (if b' = true then ((elt sdb).calm.bind fun y sd3 => if acc.length < 16777216 then goComp g c elt vs (ds.drop (i + 1)) (acc ++ [y]) sd3 else .bad) else goComp g c elt vs (ds.drop (i + 1)) acc sdb) = .ok res sdr := eg
          cases b' with
          | false =>
            rw [if_neg (by decide)] at eg
            refine iteF ?_
            refine ⟨F3, sdb, acc, xs, (f1.trans f2).trans u1, ?_, ra.mono (f2.trans u1), eg, fun zz => ?_⟩
            · have q := u2.wipe vs
              rw [w2] at q; exact q
            · have zc : pc = true := (Bool.and_eq_true _ _ ▸ zz : pc = true ∧ pe = true).1
              obtain ⟨v1, v2⟩ := u4 zc
              exact ⟨fun a u n h => v1 a u (pu2 zz a u n h), by rw [v2]; exact pw zz⟩
          | true =>
            rw [if_pos rfl] at eg
            refine iteT ?_
            have z2 := he (upd G L (.lst xs)) F3 sdb σ2 H3 (fun y H4 => ∃ acc, H4 L = some (.lst acc) ∧ acc.length < sizeLine ∧ Inv (i + 1) (upd H4 L (.lst (acc ++ [y])))) u2
            revert eg z2
            cases elt sdb with
            | bad => intro eg; cases eg
            | rz _ _ => intro eg; cases eg
            | ok d sdc =>
              intro eg z2
              have eg : (if acc.length < 16777216 then goComp g c elt vs (ds.drop (i + 1)) (acc ++ [d]) sdc else .bad) = .ok res sdr := eg
              split at eg
              · rename_i hz
                refine z2 fun y F4 H4 v1 v2 v3 v4 => ?_
                have r4 : Reps K F4 xs acc := ra.mono ((f2.trans u1).trans v1)
                refine ⟨xs, v2.at_lay, by rw [r4.length, sizeLine_eq]; exact hz, F4, sdc, acc ++ [d], xs ++ [y], ((f1.trans f2).trans u1).trans v1, ?_, r4.append (.one v3), eg, fun zz => ?_⟩
                · have q := (v2.relay (ys := xs ++ [y])).wipe vs
                  rw [w2] at q; exact q
                · have zce : pc = true ∧ pe = true := (Bool.and_eq_true _ _ ▸ zz : pc = true ∧ pe = true)
                  obtain ⟨a1, a2⟩ := u4 zce.1
                  obtain ⟨b1, b2⟩ := v4 zce.2
                  exact ⟨fun a u n h => by
                    rw [upd_ne n]
                    exact b1 a u (a1 a u (pu2 zz a u n h)), by rw [b2, a2]; exact pw zz⟩
              · cases eg
      rcases wk.yld F' H i _ x H' f1 st.fh hd y with ⟨rfl, rx⟩ | ⟨T, us, es, rfl, ed, hT, rfl, rr⟩
      · exact main F' H' (Same.refl _) st rx fun z => (pu z).1
      · refine main _ _ (st.sameNew hT) (st.new (u := .tup us) hT) ?_ fun z a u n h => ?_
        · rw [ed]
          exact .tup upd_same (rr.mono (st.sameNew hT))
        · have := (pu z).1 a u n h
          rw [upd_ne (ne_of_none this hT)]; exact this
  · have e2 : i = ds.length := by omega
    subst e2
    rw [List.drop_length, goComp] at eg
    cases eg
    exact .inl ⟨wk.stop F' H f1 st.fh, hQ F' H xs f1 st ra pu⟩
/-- .. from the start -/
theorem comp_run {J : It} {t : TG} {tt : TT} {te : TE} {g : D → SD → Option SD} {c : SD → ER Bool} {elt : SD → ER D} {vs is : List Nat} {G F1 H1 : Hp} {sd1 : SD} {σ : L2.St} {ds : List D} {L : Addr} {Q : Hp → Prop} {res : List D} {sdr : SD}
    (his : ∀ i ∈ is, i ∈ vs)
    (hg : ∀ (pv : List V) (G F : Hp) (sd : SD) (σ : L2.St) (H : Hp) (x : V) (d : D) (sd' : SD), StR K pv G F sd σ H → Rep K F x d → g d sd = some sd' → ∀ Q : L2.St → Hp → Prop, (∀ σ', StR K pv G F sd' σ' H → (∀ vs : List Nat, (∀ i ∈ is, i ∈ vs) → wipe σ' vs = wipe σ vs) → Q σ' H) → t x σ H Q)
    (hgw : ∀ d sd sd', g d sd = some sd' → sd'.wipe vs = sd.wipe vs)
    (hc : TrT K pv W0 pc tt c) (he : TrX K pv W0 pe true te elt) (wk : Walk K J F1 ds) (s1 : StR K pv G F1 (sd1.wipe vs) (wipe σ vs) H1) (hL : H1 L = none) (e : goComp g c elt vs ds [] sd1 = .ok res sdr)
    (hQ : ∀ F' H' xs, Same F1 F' → StR K pv (upd G L (.lst xs)) F' (sdr.wipe vs) (wipe σ vs) H' → Reps K F' xs res → ((pc && pe) = true → Same H1 H' ∧ sdr.wipe vs = sd1.wipe vs) → Q H') :
    ∃ W : Nat → Nat → Hp → Prop, (∃ m, W 0 m (upd H1 L (.lst []))) ∧ ∀ i m H, W i m H → (J.stop i H ∧ Q H) ∨ (J.go i H ∧ ∃ Nx : Hp → Prop, (∀ H', Nx H' → ∃ m', m' < m ∧ W (i + 1) m' H') ∧ ∀ x H', J.yld i H x H' → t x (wipe σ vs) H' fun σ2 H2 => wipe σ2 vs = wipe σ vs ∧ tt σ2 H2 fun b H3 =>
      if b = true then te σ2 H3 fun y H4 => ∃ acc, H4 L = some (.lst acc) ∧ acc.length < sizeLine ∧ Nx (upd H4 L (.lst (acc ++ [y]))) else Nx H3) :=
  comp_go his hg hgw hc he wk (s1.lay hL) .nil e fun F' H' xs f1 st r pu => hQ F' H' xs f1 st r fun z => ⟨fun a u h => (pu z).1 a u (ne_of_none h hL) (by rw [upd_ne (ne_of_none h hL)]; exact h), (pu z).2⟩
end
section
variable {X : Cx} {pv : List V} {W : WX} {p q k l pc pe : Bool} {tg iter elt : Expr} {ifs : List Expr} {scope : Scope} {pos : Pos}
theorem comp_tr {own : List (Str × Nat)} {is : List Nat} {wi : TI} {t : TG} {tt : TT} {te : TE} {mi : SD → ER (List D)} {g : D → SD → Option SD} {mc : SD → ER Bool} {me : SD → ER D} (hi : TrI X.K pv W p wi mi)
    (hg : ∀ (pv : List V) (G F : Hp) (sd : SD) (σ : L2.St) (H : Hp) (x : V) (d : D) (sd' : SD), StR X.K pv G F sd σ H → Rep X.K F x d → g d sd = some sd' → ∀ Q : L2.St → Hp → Prop, (∀ σ', StR X.K pv G F sd' σ' H → (∀ vs : List Nat, (∀ i ∈ is, i ∈ vs) → wipe σ' vs = wipe σ vs) → Q σ' H) → t x σ H Q)
    (hgw : ∀ (vs : List Nat), (∀ i ∈ is, i ∈ vs) → ∀ d sd sd', g d sd = some sd' → SD.wipe sd' vs = SD.wipe sd vs) (hc : TrT X.K pv W0 pc tt mc) (he : TrX X.K pv W0 pe true te me) (his : ∀ i ∈ is, i ∈ own.map (·.2)) :
    TrO X.K pv W (p && (pc && pe)) (tLc wi t tt te (own.map (·.2))) (mComp mi g mc me (own.map (·.2))) := by
  intro G F sd σ H Q s
  refine Meets.bind (hi G F sd σ H _ s) fun J F1 H1 ds sd1 s1 s2 s3 s4 => ?_
  cases e : goComp g mc me (own.map (·.2)) ds [] sd1 with
  | bad => exact True.intro
  | rz x sr => exact absurd e (goComp_calm ds [] sd1 x sr)
  | ok res sdr =>
    intro hQ L hL
    obtain ⟨G', g1, g2, g3⟩ := s2.block (own.map (·.2))
    refine comp_run his hg (hgw _ his) hc he s3 g2 hL e fun F' H' xs f1 st r pu => ?_
    have z := st.unlay (g1 L hL) r
    have z2 := g3 F' sdr H' _ _ f1 z
    exact hQ _ F' H' f1 z2.drop z2 fun zz => ⟨(pu zz).1, back_self (pu zz).2⟩
end
noncomputable def Cond {α β : Type} (K : PySem.W.Frag) (pv : List V) (W : WX) (G : Hp) (σ : L2.St) (RS : RSt β α) (p : Bool) (sd : SD) (F H : Hp) (r : ER α) (Q : β → Hp → Prop) : Prop :=
  match r with
  | .ok a sd' => ∀ v F' H', Same F F' → StR K pv G F' sd' σ H' → RS G F' sd' H' σ v a → (p = true → Same H H' ∧ sd' = sd) → Q v H'
  | .rz x sd' => ∀ cls dd F' H', Same F F' → StR K pv G F' sd' σ H' → RepX K F' cls dd x → W cls dd σ H'
  | .bad => False
theorem meets_of {α β : Type} {K : PySem.W.Frag} {pv : List V} {W : WX} {G F H : Hp} {σ : L2.St} {RS : RSt β α} {p : Bool} {sd : SD} {r : ER α} {Q : β → Hp → Prop} {P : Prop} (h : Cond K pv W G σ RS p sd F H r Q → P) : Meets K pv W G σ RS p sd F H r Q P := by
  cases r with
  | bad => exact True.intro
  | _ => exact h
theorem Meets.get {α β : Type} {K : PySem.W.Frag} {pv : List V} {W : WX} {G F H : Hp} {σ : L2.St} {RS : RSt β α} {p : Bool} {sd : SD} {r : ER α} {Q : β → Hp → Prop} {P : Prop} (h : Meets K pv W G σ RS p sd F H r Q P) (c : Cond K pv W G σ RS p sd F H r Q) : P := by
  cases r with
  | bad => exact c.elim
  | _ => exact h c
noncomputable def canX (K : PySem.W.Frag) (pv : List V) (W : WX) (p k : Bool) (m : SD → ER D) : TE := fun σ H Q => ∃ G F sd, StR K pv G F sd σ H ∧ Cond K pv W G σ (RSx K k) p sd F H (m sd) Q
noncomputable def canT (K : PySem.W.Frag) (pv : List V) (W : WX) (p : Bool) (m : SD → ER Bool) : TT := fun σ H Q => ∃ G F sd, StR K pv G F sd σ H ∧ Cond K pv W G σ RSb p sd F H (m sd) Q
noncomputable def canG (K : PySem.W.Frag) (is : List Nat) (g : D → SD → Option SD) : TG := fun x σ H Q => ∃ (pv : List V) (G F : Hp) (sd : SD) (d : D) (sd' : SD), StR K pv G F sd σ H ∧ Rep K F x d ∧ g d sd = some sd' ∧
  ∀ σ', StR K pv G F sd' σ' H → (∀ vs : List Nat, (∀ i ∈ is, i ∈ vs) → wipe σ' vs = wipe σ vs) → Q σ' H
noncomputable def canI (K : PySem.W.Frag) (pv : List V) (W : WX) (p : Bool) (m : SD → ER (List D)) : TI := fun σ H R => ∃ G F sd, StR K pv G F sd σ H ∧ Cond K pv W G σ (RSw K) p sd F H (m sd) R
section
variable {X : Cx} {pv : List V} {W : WX} {p q k l pc pe : Bool} {e tg iter elt : Expr} {ifs : List Expr} {scope : Scope} {pos : Pos}
theorem DX.can {m : SD → ER D} (h : DX X pv W p k e m) : PE X e (canX X.K pv W p k m) := by
  obtain ⟨te, h1, h2⟩ := h
  exact ⟨fun pins s σ H Q I ⟨G, F, sd, st, c⟩ => h1.run pins s σ H Q I ((h2 G F sd σ H Q st).get c)⟩
theorem canX_tr {K : PySem.W.Frag} {m : SD → ER D} : TrX K pv W p k (canX K pv W p k m) m := fun G F sd σ H Q s => meets_of fun c => ⟨G, F, sd, s, c⟩
theorem DT.can {m : SD → ER Bool} (h : DT X pv W p e m) : PT X e (canT X.K pv W p m) := by
  obtain ⟨te, h1, h2⟩ := h
  exact ⟨fun pins s σ H Q I ⟨G, F, sd, st, c⟩ => h1.run pins s σ H Q I ((h2 G F sd σ H Q st).get c)⟩
theorem canT_tr {K : PySem.W.Frag} {m : SD → ER Bool} : TrT K pv W p (canT K pv W p m) m := fun G F sd σ H Q s => meets_of fun c => ⟨G, F, sd, s, c⟩
theorem DI.can {m : SD → ER (List D)} (h : DI X pv W p tg iter m) : PI X tg iter (canI X.K pv W p m) := by
  obtain ⟨te, h1, h2⟩ := h
  exact ⟨fun pins s σ H Q I ⟨G, F, sd, st, c⟩ => h1.run pins s σ H Q I ((h2 G F sd σ H Q st).get c)⟩
theorem DG.can {is : List Nat} {g : D → SD → Option SD} (h : DG X is tg g) : PG X tg (canG X.K is g) := by
  obtain ⟨⟨t, h1, h2⟩, _⟩ := h
  refine ⟨fun pins s σ H v u Q I r ⟨pv, G, F, sd, d, sd', st, rd, e, hq⟩ => ?_⟩
  obtain ⟨σ', k1, k2, k3⟩ := h2 pv G F sd σ H v d sd' st rd e
  exact h1.run pins s σ H v u Q I r (k3 Q (hq σ' k1 k2))
/-- the tests of a clause -/
structure DTs (X : Cx) (pv : List V) (W : WX) (p : Bool) (ifs : List Expr) (m : SD → ER Bool) : Prop where
  run : PTs X ifs (canT X.K pv W p m)
theorem dts_nil : DTs X pv W true [] mYes := ⟨⟨fun pins s σ H Q I ⟨G, F, sd, st, c⟩ => (pts_nil (X := X)).run pins s σ H Q I (c true F H (Same.refl _) st rfl fun _ => ⟨Same.refl _, rfl⟩)⟩⟩
theorem dts_one {c : Expr} {m : SD → ER Bool} (h : DT X pv W p c m) : DTs X pv W p [c] m := ⟨pts_one h.can⟩
theorem canG_run {K : PySem.W.Frag} {is : List Nat} {g : D → SD → Option SD} (pv : List V) (G F : Hp) (sd : SD) (σ : L2.St) (H : Hp) (x : V) (d : D) (sd' : SD) (s : StR K pv G F sd σ H) (r : Rep K F x d) (e : g d sd = some sd') (Q : L2.St → Hp → Prop)
    (hQ : ∀ σ', StR K pv G F sd' σ' H → (∀ vs : List Nat, (∀ i ∈ is, i ∈ vs) → wipe σ' vs = wipe σ vs) → Q σ' H) : canG K is g x σ H Q := ⟨pv, G, F, sd, d, sd', s, r, e, hQ⟩
/-- [elt for tg in iter if ..] as a value -/
theorem do_comp {own : List (Str × Nat)} {is : List Nat} {mi : SD → ER (List D)} {g : D → SD → Option SD} {mc : SD → ER Bool} {me : SD → ER D} (hc : X.calm = true) (hN : X.N.Nodup) (hi : DI X pv W p tg iter mi) (ok : BlkOk X.N X.env.scope scope own)
    (hg : ∀ (s : Shared) (H : Hp) (C : Addr) (cl : List (Str × Addr)) (fp : List Addr), DG (X.blk s H scope (compEnvC scope cl C X.env) fp) is tg g)
    (ht : ∀ (s : Shared) (H : Hp) (C : Addr) (cl : List (Str × Addr)) (fp : List Addr), DTs (X.blk s H scope (compEnvC scope cl C X.env) fp) pv W0 pc ifs mc)
    (he : ∀ (s : Shared) (H : Hp) (C : Addr) (cl : List (Str × Addr)) (fp : List Addr), DX (X.blk s H scope (compEnvC scope cl C X.env) fp) pv W0 pe true elt me) (his : ∀ i ∈ is, i ∈ own.map (·.2))
    (wip : ∀ (vs : List Nat), (∀ i ∈ is, i ∈ vs) → ∀ d sd sd', g d sd = some sd' → SD.wipe sd' vs = SD.wipe sd vs)
    (hs : ∀ x, foldedSetIterable iter X.env x = pure x := by intro _; rfl) :
    DO X pv W (p && (pc && pe)) (.ListComp elt [⟨tg, iter, ifs, 0⟩] scope pos) (mComp mi g mc me (own.map (·.2))) := by
  obtain ⟨wi, a1, a2⟩ := hi
  exact ⟨_, pe_lc hc hN a1 ok (fun s H C cl fp => (hg s H C cl fp).can) (fun s H C cl fp => (ht s H C cl fp).run) (fun s H C cl fp => (he s H C cl fp).can) hs, comp_tr a2 canG_run wip canT_tr canX_tr his⟩
end
end DL
namespace DL
open PySem PySem.Spec L2
end DL
namespace DL
open PySem PySem.Spec L2
noncomputable def SD.put (sd : SD) (i : Nat) (t : OT) : SD := match sd.sl[i]? with
  | some (.ow _) => { sd with sl := sd.sl.set i (.ow t) }
  | some (.pa j) => { sd with pa := sd.pa.set j t }
  | _ => sd
section
variable {K : PySem.W.Frag} {pv : List V} {G F F' H H' : Hp} {sd : SD} {σ : L2.St} {o : Nat ⊕ Nat → Addr → Prop}
theorem Own.put {i : Nat} {t : OT} (W : Own K pv G F sd σ H o) (h : sd.tree i = some t) : ∃ (src : Nat ⊕ Nat) (v : V), σ[i]? = some (some v) ∧ RepO K F H t v (o src) ∧
    ∀ (F' H' : Hp) (o2 : Nat ⊕ Nat → Addr → Prop) (t' : OT), Same F F' → Same F' H' → Same G H' → (∀ a, F' a ≠ none → G a = none) → (∀ x a, o2 x a → H' a ≠ none ∧ F' a = none ∧ G a = none) → (∀ x y a, o2 x a → o2 y a → x = y) →
      (∀ x, x ≠ src → ∀ a, o x a → o2 x a ∧ H' a = H a) → RepO K F' H' t' v (o2 src) → Own K pv G F' (sd.put i t') σ H' o2 := by
  unfold SD.tree at h
  split at h
  · rename_i t0 e
    cases h
    obtain ⟨v, h1, h2⟩ := W.sl i _ e
    refine ⟨.inl i, v, h1, h2, fun F' H' o2 t' f fh gh fg oh oo ho r => ?_⟩
    have ep : sd.put i t' = { sd with sl := sd.sl.set i (.ow t') } := by unfold SD.put; rw [e]
    have hi : i < sd.sl.length := (List.getElem?_eq_some_iff.mp e).1
    rw [ep]
    refine ⟨fh, gh, fg, oh, oo, by simpa using W.len, fun j t1 e1 => ?_, fun j l e1 => ?_, fun j t1 e1 => ?_⟩
    · have e1 : (sd.sl.set i (S.ow t'))[j]? = some (S.ow t1) := e1
      by_cases z : i = j
      · subst z
        rw [List.getElem?_set_self hi] at e1
        cases e1
        exact ⟨v, h1, r⟩
      · rw [List.getElem?_set_ne z] at e1
        obtain ⟨w, k1, k2⟩ := W.sl j t1 e1
        refine ⟨w, k1, k2.mono f fun x hx => ho (.inl j) (fun y => z (Sum.inl.inj y).symm) x hx⟩
    · have e1 : (sd.sl.set i (S.ow t'))[j]? = some (S.pa l) := e1
      by_cases z : i = j
      · subst z
        rw [List.getElem?_set_self hi] at e1
        cases e1
      · rw [List.getElem?_set_ne z] at e1
        exact W.sp j l e1
    · obtain ⟨w, k1, k2⟩ := W.pr j t1 e1
      exact ⟨w, k1, k2.mono f fun x hx => ho (.inr j) (fun y => by cases y) x hx⟩
  · rename_i j e
    obtain ⟨v, h1, h2⟩ := W.sp i j e
    obtain ⟨v', h3, h4⟩ := W.pr j t h
    rw [h1] at h3; cases h3
    refine ⟨.inr j, v, h2, h4, fun F' H' o2 t' f fh gh fg oh oo ho r => ?_⟩
    have ep : sd.put i t' = { sd with pa := sd.pa.set j t' } := by unfold SD.put; rw [e]
    have hj : j < sd.pa.length := (List.getElem?_eq_some_iff.mp h).1
    rw [ep]
    refine ⟨fh, gh, fg, oh, oo, W.len, fun l t1 e1 => ?_, W.sp, fun l t1 e1 => ?_⟩
    · obtain ⟨w, k1, k2⟩ := W.sl l t1 e1
      exact ⟨w, k1, k2.mono f fun x hx => ho (.inl l) (fun y => by cases y) x hx⟩
    · have e1 : (sd.pa.set j t')[l]? = some t1 := e1
      by_cases z : j = l
      · subst z
        rw [List.getElem?_set_self hj] at e1
        cases e1
        exact ⟨v, h1, r⟩
      · rw [List.getElem?_set_ne z] at e1
        obtain ⟨w, k1, k2⟩ := W.pr l t1 e1
        exact ⟨w, k1, k2.mono f fun x hx => ho (.inr l) (fun y => z (Sum.inr.inj y).symm) x hx⟩
  · cases h
/-- the tree of a name is changed, another tree may become a part of it -/
theorem StR1.mut {i : Nat} {t t2 : OT} {v2 : V} (s : StR1 K pv G F sd σ H v2 t2) (h : sd.tree i = some t) : ∃ (v : V) (P P2 : Addr → Prop), σ[i]? = some (some v) ∧ RepO K F H t v P ∧ RepO K F H t2 v2 P2 ∧ (∀ a, P a → ¬ P2 a) ∧
    (∀ a, P a → H a ≠ none) ∧ (∀ a, P2 a → H a ≠ none) ∧
    ∀ (H' : Hp) (t' : OT), (∀ a, ¬ P a → ∀ u, H a = some u → H' a = some u) → (∀ a, P a → H' a ≠ none) → RepO K F H' t' v (fun a => P a ∨ P2 a) → StR K pv G F (sd.put i t') σ H' := by
  classical
  obtain ⟨o, P2, W, r2, k2⟩ := s
  obtain ⟨src, v, h1, h2, h3⟩ := W.put h
  refine ⟨v, o src, P2, h1, h2, r2, fun a q q2 => (k2 a q2).2.2.2 src q, fun a q => (W.oh _ a q).1, fun a q => (k2 a q).1, fun H' t' hH hP r => ?_⟩
  have keep : ∀ a, ¬ o src a → H a ≠ none → H' a = H a := fun a n hn => by
    cases e : H a with
    | none => exact absurd e hn
    | some u => exact hH a n u e
  refine ⟨fun x a => if x = src then o src a ∨ P2 a else o x a, h3 F H' _ t' (Same.refl _) (fun a u e => ?_) (fun a u e => ?_) W.fg (fun x a q => ?_) (fun x y a q q' => ?_) (fun x n a q => ?_) ?_⟩
  · exact hH a (fun z => by rw [(W.oh _ a z).2.1] at e; cases e) u (W.fh a u e)
  · exact hH a (fun z => by rw [(W.oh _ a z).2.2] at e; cases e) u (W.gh a u e)
  · by_cases z : x = src
    · rw [if_pos z] at q
      rcases q with q | q
      · exact ⟨hP a q, (W.oh _ a q).2⟩
      · obtain ⟨k1, k3, k4, k5⟩ := k2 a q
        exact ⟨by rw [keep a (k5 _) k1]; exact k1, k3, k4⟩
    · rw [if_neg z] at q
      obtain ⟨k1, k3, k4⟩ := W.oh x a q
      exact ⟨by rw [keep a (fun q' => z (W.oo _ _ a q q')) k1]; exact k1, k3, k4⟩
  · by_cases z : x = src
    · rw [if_pos z] at q
      by_cases y' : y = src
      · rw [z, y']
      · rw [if_neg y'] at q'
        rcases q with q | q
        · exact absurd (W.oo _ _ a q q').symm y'
        · exact absurd q' ((k2 a q).2.2.2 y)
    · rw [if_neg z] at q
      by_cases y' : y = src
      · rw [if_pos y'] at q'
        rcases q' with q' | q'
        · exact absurd (W.oo _ _ a q q') z
        · exact absurd q ((k2 a q').2.2.2 x)
      · rw [if_neg y'] at q'
        exact W.oo _ _ a q q'
  · have k1 := (W.oh x a q).1
    exact ⟨by rw [if_neg n]; exact q, keep a (fun q' => n (W.oo _ _ a q q')) k1⟩
  · show RepO K F H' t' v (fun a => if src = src then o src a ∨ P2 a else o src a)
    exact r.mono (Same.refl _) fun x hx => ⟨by rw [if_pos rfl]; exact hx, rfl⟩
/-- .. alone -/
theorem StR.mut {i : Nat} {t : OT} (s : StR K pv G F sd σ H) (h : sd.tree i = some t) : ∃ (v : V) (P : Addr → Prop), σ[i]? = some (some v) ∧ RepO K F H t v P ∧ (∀ a, P a → H a ≠ none) ∧
    ∀ (H' : Hp) (t' : OT), (∀ a, ¬ P a → ∀ u, H a = some u → H' a = some u) → (∀ a, P a → H' a ≠ none) → RepO K F H' t' v P → StR K pv G F (sd.put i t') σ H' := by
  obtain ⟨v, P, P2, h1, h2, _, _, h5, _, h6⟩ := (StR1.fz s (.non)).mut h
  exact ⟨v, P, h1, h2, h5, fun H' t' a b r => h6 H' t' a b (r.mono (Same.refl _) fun x hx => ⟨.inl hx, rfl⟩)⟩
theorem repOs_app : ∀ {ts : List OT} {vs : List V} {P P2 : Addr → Prop} {t2 : OT} {v2 : V}, RepOs K F H ts vs P → RepO K F H t2 v2 P2 → (∀ a, P a → ¬ P2 a) → RepOs K F H (ts ++ [t2]) (vs ++ [v2]) (fun a => P a ∨ P2 a)
  | [], vs, P, P2, t2, v2, r, r2, d => by
    unfold RepOs at r
    subst r
    rw [List.nil_append, List.nil_append]
    unfold RepOs
    refine ⟨v2, [], P2, fun _ => False, rfl, fun x h => .inr h, fun x h => h.elim, r2, ?_⟩
    unfold RepOs; rfl
  | t :: ts, vs, P, P2, t2, v2, r, r2, d => by
    unfold RepOs at r
    obtain ⟨v, ws, Q1, Q2, rfl, h1, h2, r1, rr⟩ := r
    rw [List.cons_append, List.cons_append]
    unfold RepOs
    refine ⟨v, ws ++ [v2], Q1, fun a => Q2 a ∨ P2 a, rfl, fun x h => .inl (h1 x h), fun x h => ?_, r1, repOs_app rr r2 fun a q => d a (h2 a q).1⟩
    rcases h with h | h
    · exact ⟨.inl (h2 x h).1, (h2 x h).2⟩
    · exact ⟨.inr h, fun q => d x (h1 x q) h⟩
theorem repOs_set : ∀ {ts : List OT} {vs : List V} {P P2 : Addr → Prop} {t2 : OT} {v2 : V} (k : Nat), RepOs K F H ts vs P → RepO K F H t2 v2 P2 → (∀ a, P a → ¬ P2 a) → RepOs K F H (ts.set k t2) (vs.set k v2) (fun a => P a ∨ P2 a)
  | [], vs, P, P2, t2, v2, k, r, r2, d => by
    unfold RepOs at r
    subst r
    rw [List.set_nil, List.set_nil]
    unfold RepOs; rfl
  | t :: ts, vs, P, P2, t2, v2, 0, r, r2, d => by
    unfold RepOs at r
    obtain ⟨v, ws, Q1, Q2, rfl, h1, h2, r1, rr⟩ := r
    rw [List.set_cons_zero, List.set_cons_zero]
    unfold RepOs
    exact ⟨v2, ws, P2, Q2, rfl, fun x h => .inr h, fun x h => ⟨.inl (h2 x h).1, d x (h2 x h).1⟩, r2, rr⟩
  | t :: ts, vs, P, P2, t2, v2, k + 1, r, r2, d => by
    unfold RepOs at r
    obtain ⟨v, ws, Q1, Q2, rfl, h1, h2, r1, rr⟩ := r
    rw [List.set_cons_succ, List.set_cons_succ]
    unfold RepOs
    refine ⟨v, ws.set k v2, Q1, fun a => Q2 a ∨ P2 a, rfl, fun x h => .inl (h1 x h), fun x h => ?_, r1, repOs_set k rr r2 fun a q => d a (h2 a q).1⟩
    rcases h with h | h
    · exact ⟨.inl (h2 x h).1, (h2 x h).2⟩
    · exact ⟨.inr h, fun q => d x (h1 x q) h⟩
/-- a list of a name: its items anew -/
theorem StR1.lset {i : Nat} {ts : List OT} {t2 : OT} {v2 : V} (s : StR1 K pv G F sd σ H v2 t2) (h : sd.tree i = some (.ol ts)) : ∃ (a : Addr) (vs : List V), σ[i]? = some (some (.ref a)) ∧ H a = some (.lst vs) ∧ vs.length = ts.length ∧
    StR K pv G F (sd.put i (.ol (ts ++ [t2]))) σ (upd H a (.lst (vs ++ [v2]))) ∧ ∀ k, StR K pv G F (sd.put i (.ol (ts.set k t2))) σ (upd H a (.lst (vs.set k v2))) := by
  obtain ⟨v, P, P2, h1, h2, r2, d, hn, hn2, go⟩ := s.mut h
  unfold RepO at h2
  obtain ⟨a, vs, rfl, pa, ha, r⟩ := h2
  have main : ∀ (us : List V) (ts' : List OT), RepOs K F H ts' us (fun x => (P x ∧ x ≠ a) ∨ P2 x) → StR K pv G F (sd.put i (.ol ts')) σ (upd H a (.lst us)) := fun us ts' rr => by
    refine go _ _ (fun x hx u e => by rw [upd_ne (fun z => hx (by rw [z]; exact pa))]; exact e) (fun x hx => ?_) ?_
    · by_cases z : x = a
      · rw [z, upd_same]; simp
      · rw [upd_ne z]; exact hn x hx
    · unfold RepO
      refine ⟨a, us, rfl, .inl pa, upd_same, rr.mono (Same.refl _) fun x hx => ?_⟩
      have ne : x ≠ a := by
        rcases hx with hx | hx
        · exact hx.2
        · exact fun z => d a pa (by rw [← z]; exact hx)
      exact ⟨⟨hx.imp And.left id, ne⟩, upd_ne ne⟩
  exact ⟨a, vs, h1, ha, r.length, main _ _ (repOs_app r r2 fun x q => d x q.1), fun k => main _ _ (repOs_set k r r2 fun x q => d x q.1)⟩
end
/-- what happens while a tree is put aside -/
theorem Meets.unhide {α β : Type} {K : PySem.W.Frag} {pv : List V} {W : WX} {G G' F H : Hp} {σ : L2.St} {RS : RSt β α} {p : Bool} {sd : SD} {r : ER α} {Q : β → Hp → Prop} {P : Prop} {v : V} {t : OT} (h : Meets K pv W G' σ RS p sd F H r Q P)
    (g : ∀ (F' : Hp) (sd' : SD) (σ' : L2.St) (H' : Hp), Same F F' → StR K pv G' F' sd' σ' H' → StR1 K pv G F' sd' σ' H' v t) :
    Meets K pv W G σ (fun _ F' sd' H' σ w a => StR1 K pv G F' sd' σ H' v t ∧ RS G' F' sd' H' σ w a) p sd F H r Q P := by
  cases r with
  | bad => exact True.intro
  | rz x sd' => exact fun z => h fun cls dd F' H' s1 s2 s3 => z cls dd F' H' s1 (g F' sd' σ H' s1 s2).drop s3
  | ok a sd' => exact fun z => h fun w F' H' s1 s2 s3 s4 => z w F' H' s1 (g F' sd' σ H' s1 s2).drop ⟨g F' sd' σ H' s1 s2, s3⟩ s4
noncomputable def sApp (i : Nat) (m : SD → ER OT) : SD → Fl := fun sd => match sd.tree i with
  | some (.ol _) => (m sd).stm fun t sd1 => match sd1.tree i with
    | some (.ol ts) => if ts.length < 16777216 then .nx (sd1.put i (.ol (ts ++ [t]))) else .bad
    | _ => .bad
  | _ => .bad
noncomputable def setEnd (i : Nat) (t : OT) (d : D) (sd : SD) : Fl := match d, sd.tree i with
  | .int k, some (.ol ts) => match ixN ts.length k with
    | some j => .nx (sd.put i (.ol (ts.set j t)))
    | none => .bad
  | _, _ => .bad
noncomputable def sSetAt (i : Nat) (mk : SD → ER D) (m : SD → ER OT) : SD → Fl := fun sd => (m sd).stm fun t sd1 => match sd1.tree i with
  | some (.ol _) => (mk sd1).stm (setEnd i t)
  | _ => .bad
noncomputable def sAug (i : Nat) (f : D → D → Option D) (m : SD → ER D) : SD → Fl := fun sd => match sd.sl[i]? with
  | some (.ow (.fz d)) => (m sd).stm fun y sd1 => match f d y with
    | some c => if i < sd1.sl.length then .nx { sd1 with sl := sd1.sl.set i (.ow (.fz c)) } else .bad
    | none => .bad
  | _ => .bad
noncomputable def sAsg (m : SD → ER D) (g : D → SD → Option SD) : SD → Fl := fun sd => (m sd).stm fun d sd1 => match g d sd1 with
  | some sd2 => .nx sd2
  | none => .bad
noncomputable def sPar (i j : Nat) (ma mb : SD → ER OT) : SD → Fl := fun sd => (ma sd).stm fun t sd1 => (mb sd1).stm fun u sd2 => if i < sd2.sl.length ∧ j < sd2.sl.length then .nx { sd2 with sl := (sd2.sl.set i (.ow t)).set j (.ow u) } else .bad
section
variable {X : Cx} {pv : List V} {W : WX} {p q k l : Bool} {e a b c : Expr} {es : List Expr} {pos : Pos}
theorem ol_at {K : PySem.W.Frag} {G F H : Hp} {sd : SD} {σ : L2.St} {i : Nat} {ts : List OT} (s : StR K pv G F sd σ H) (h : sd.tree i = some (.ol ts)) : ∃ a vs, σ[i]? = some (some (.ref a)) ∧ H a = some (.lst vs) := by
  obtain ⟨v, P, h1, h2⟩ := s.tree h
  unfold RepO at h2
  obtain ⟨a, vs, rfl, _, ha, _⟩ := h2
  exact ⟨a, vs, h1, ha⟩
theorem ds_app {i : Nat} {x : Str} {pp apos cpos : Pos} {m : SD → ER OT} (hx : PE X (.Name x pp) (tVar i)) (he : DO X pv W p e m)
    (hline : (apos.endLine == cpos.line) = true := by rfl) (hs : swapsWith (.Call (.Attribute (.Name x pp) "append" apos) [e] [] cpos) none pos.line X.env = pure false := by rfl)
    (hbase : attributeBase (.Name x pp) "append" X.env (eval (.Name x pp) X.env) = eval (.Name x pp) X.env := by rfl)
    (hfew : ((backTo cpos (starEach [e] X.env)).all (fun x => !x.1) && (backToKw cpos (keywordEach [] X.env)).all (fun x => x.1.isSome)
      && decide ([e].length + ([] : List Keyword).length + (if ([] : List Keyword).isEmpty then 0 else 1) < 30)) = true := by rfl)
    (hse : starEach [e] X.env = (false, eval e X.env) :: starEach [] X.env := by rfl) (hplain : (backTo cpos (starEach [] X.env)).any (·.1) = false := by rfl) :
    DS X pv W (.Expr (.Call (.Attribute (.Name x pp) "append" apos) [e] [] cpos) pos) (sApp i m) := by
  obtain ⟨te, a1, a2⟩ := he
  refine ⟨_, ps_expr (pe_bm PySem.F.plainAttrs_list PySem.F.slot_list_append PySem.F.type_list_append mt_append hx (pa_cons a1 pa_nil hse) hbase hfew hline hse hplain) hs, fun G F sd σ H D s => ?_⟩
  unfold sApp
  split
  · rename_i ts0 e0
    obtain ⟨a, vs0, h0, hH0⟩ := ol_at s e0
    refine MeetsS.imp (Meets.stm (a2 G F sd σ H (fun v H1 => rAppend (.ref a) [v] H1 fun _ H2 => D.nx σ H2) s) (f := fun t sd1 => match sd1.tree i with
      | some (.ol ts) => if ts.length < 16777216 then .nx (sd1.put i (.ol (ts ++ [t]))) else .bad
      | _ => .bad) (D := D) fun v F1 H1 t sd1 s1 s2 s3 => ?_) fun z => ⟨_, h0, .inl ⟨rfl, vs0, .inl (.inl hH0)⟩, z⟩
    split
    · rename_i ts e1
      split
      · rename_i hl
        intro hQ
        obtain ⟨l, vs, h1, h2, h3, h4, _⟩ := s3.lset e1
        rw [h0] at h1; cases h1
        exact ⟨_, vs, v, rfl, rfl, h2, by rw [h3, sizeLine_eq]; exact hl, hQ F1 σ _ (Same.refl _) h4⟩
      · exact True.intro
    · exact True.intro
  · exact True.intro
theorem ds_setAt {i : Nat} {x : Str} {pp sp : Pos} {mk : SD → ER D} {m : SD → ER OT} (hx : PE X (.Name x pp) (tVar i)) (hk : DX X pv W true l b mk) (he : DO X pv W p e m)
    (ha : ∀ v, assign (.Subscript (.Name x pp) b sp) X.env v = (do
      let ov ← holding [v] (eval (.Name x pp) X.env)
      let iv ← holding [v, ov] (eval b X.env)
      standAt sp
      holding [v, ov, iv] (setItem ov iv v)
      release [v, ov, iv] []) := by intro _; rfl)
    (hs : swapsWithSole [.Subscript (.Name x pp) b sp] e pos.line X.env = pure false := by rfl) (hw : swappedStores [.Subscript (.Name x pp) b sp] e X.env = pure none := by rfl)
    (h1 : (assignEach [.Subscript (.Name x pp) b sp] X.env).map (·.2) = [assign (.Subscript (.Name x pp) b sp) X.env] := by rfl) :
    DS X pv W (.Assign [.Subscript (.Name x pp) b sp] e pos) (sSetAt i mk m) := by
  obtain ⟨te, a1, a2⟩ := he
  obtain ⟨tk, b1, b2⟩ := hk
  refine ⟨_, ps_asg a1 (pg_sub hx b1 set_list ha) hs hw h1, fun G F sd σ H D s => ?_⟩
  refine Meets.stm (a2 G F sd σ H _ s) fun v F1 H1 t sd1 s1 s2 s3 => ?_
  split
  · rename_i ts0 e0
    obtain ⟨a, vs0, h0, hH0⟩ := ol_at s2 e0
    obtain ⟨G', g1, g2, g3⟩ := s3.hide
    have z := (b2 G' F1 sd1 σ H1 (fun y H2 => rSetL (.ref a) y v H2 fun H3 => D.nx σ H3) g2).unhide g3
    refine MeetsS.imp (Meets.stm z (f := setEnd i t) (D := D) fun y F2 H2 dk sd2 t1 t2 t3 => ?_) fun z => ⟨_, h0, z⟩
    obtain ⟨t3, t4⟩ := t3
    unfold setEnd
    split
    · rename_i k ts e2
      have r : Rep X.K H2 y (.int k) := (show RSx X.K l G F2 sd2 H2 σ y (.int k) from t4).see t2
      cases r
      split
      · rename_i j hj
        intro hQ
        obtain ⟨l, vs, h1, h2, h3, _, h4⟩ := t3.lset e2
        rw [h0] at h1; cases h1
        exact ⟨_, vs, k, j, rfl, rfl, h2, by rw [h3]; exact hj, hQ F2 σ _ (Same.refl _) (h4 j)⟩
      · exact True.intro
    · exact True.intro
  · exact True.intro
theorem ds_asg {tg : Expr} {is : List Nat} {m : SD → ER D} {g : D → SD → Option SD} (he : DX X pv W p true e m) (hg : DG X is tg g) (hs : swapsWithSole [tg] e pos.line X.env = pure false := by rfl) (hw : swappedStores [tg] e X.env = pure none := by rfl)
    (h1 : (assignEach [tg] X.env).map (·.2) = [assign tg X.env] := by rfl) : DS X pv W (.Assign [tg] e pos) (sAsg m g) := by
  obtain ⟨te, a1, a2⟩ := he
  obtain ⟨⟨t, b1, b2⟩, _⟩ := hg
  refine ⟨_, ps_asg a1 b1 hs hw h1, fun G F sd σ H D s => ?_⟩
  refine Meets.stm (a2 G F sd σ H _ s) fun v F1 H1 d sd1 s1 s2 s3 => ?_
  split
  · rename_i sd2 e2
    intro hQ
    obtain ⟨σ', k1, _, k3⟩ := b2 pv G F1 sd1 σ H1 v d sd2 s2 s3 e2
    exact k3 D.nx (hQ F1 σ' H1 (Same.refl _) k1)
  · exact True.intro
end
end DL
namespace DL
open PySem PySem.Spec L2
section
variable {K : PySem.W.Frag} {pv : List V} {G F H : Hp} {sd : SD} {σ : L2.St}
/-- a name's tree is taken away from it -/
theorem StR.take {i : Nat} {t : OT} (s : StR K pv G F sd σ H) (h : sd.sl[i]? = some (.ow t)) : ∃ v, σ[i]? = some (some v) ∧ StR1 K pv G F { sd with sl := sd.sl.set i .un } σ H v t := by
  obtain ⟨o, W⟩ := s
  obtain ⟨v, h1, h2⟩ := W.sl i t h
  have hi : i < sd.sl.length := (List.getElem?_eq_some_iff.mp h).1
  refine ⟨v, h1, fun x a => o x a ∧ x ≠ .inl i, o (.inl i), ⟨W.fh, W.gh, W.fg, fun x a q => W.oh x a q.1, fun x y a q q' => W.oo x y a q.1 q'.1, by simpa using W.len, fun j t' e => ?_, fun j l e => ?_, fun j t' e => ?_⟩, h2, fun a z => ⟨(W.oh _ a z).1, (W.oh _ a z).2.1, (W.oh _ a z).2.2, fun x q => q.2 (W.oo _ _ a q.1 z)⟩⟩
  · have e : (sd.sl.set i S.un)[j]? = some (S.ow t') := e
    by_cases z : i = j
    · subst z; rw [List.getElem?_set_self hi] at e; cases e
    · rw [List.getElem?_set_ne z] at e
      obtain ⟨w, k1, k2⟩ := W.sl j t' e
      exact ⟨w, k1, k2.mono (Same.refl _) fun x hx => ⟨⟨hx, fun y => z (Sum.inl.inj y).symm⟩, rfl⟩⟩
  · have e : (sd.sl.set i S.un)[j]? = some (S.pa l) := e
    by_cases z : i = j
    · subst z; rw [List.getElem?_set_self hi] at e; cases e
    · rw [List.getElem?_set_ne z] at e
      exact W.sp j l e
  · obtain ⟨w, k1, k2⟩ := W.pr j t' e
    exact ⟨w, k1, k2.mono (Same.refl _) fun x hx => ⟨⟨hx, fun y => by cases y⟩, rfl⟩⟩
/-- a frozen value in a slot that nothing is known of -/
theorem StR.know {i : Nat} {v : V} {d : D} (s : StR K pv G F sd σ H) (h : σ[i]? = some (some v)) (r : Rep K F v d) : StR K pv G F { sd with sl := sd.sl.set i (.ow (.fz d)) } σ H := by
  have hl : i < sd.sl.length := by
    obtain ⟨o, W⟩ := s
    rw [← W.len]
    exact (List.getElem?_eq_some_iff.mp h).1
  have z := (StR1.fz s r).store hl
  have e : σ.set i (some v) = σ := by
    refine List.ext_getElem? fun j => ?_
    by_cases hj : i = j
    · subst hj
      rw [h, List.getElem?_set_self (List.getElem?_eq_some_iff.mp h).1]
    · rw [List.getElem?_set_ne hj]
  rw [e] at z
  exact z
end
section
variable {X : Cx} {pv : List V} {W : WX} {p q k l : Bool} {e a b c : Expr} {es : List Expr} {pos : Pos}
theorem do_take {i : Nat} {x : Str} {pos : Pos} (h : PE X (.Name x pos) (tVar i)) : DO X pv W false (.Name x pos) (mTake i) := by
  refine ⟨_, h, fun G F sd σ H Q s => ?_⟩
  unfold mTake
  split
  · rename_i t e
    obtain ⟨v, h1, h2⟩ := s.take e
    exact fun hQ => ⟨v, h1, hQ v F H (Same.refl _) h2.drop h2 (fun z => by cases z)⟩
  · exact True.intro
theorem dx_frz {i : Nat} {x : Str} {pos : Pos} (h : PE X (.Name x pos) (tVar i)) : DX X pv W false true (.Name x pos) (mFrz i) := by
  refine ⟨_, h, fun G F sd σ H Q s => ?_⟩
  unfold mFrz
  split
  · rename_i t e
    obtain ⟨v, h1, h2⟩ := s.take e
    obtain ⟨F', f1, f2, f3⟩ := h2.frz
    have z := f2.know h1 f3
    rw [List.set_set] at z
    exact fun hQ => ⟨v, h1, hQ v F' H f1 z f3 (fun z => by cases z)⟩
  · exact True.intro
inductive Arg where
  | fz (d : D)
  | sl (i : Nat)
inductive RepsR (K : PySem.W.Frag) (F : Hp) (σ : L2.St) : List V → List Arg → Prop
  | nil : RepsR K F σ [] []
  | fz {v : V} {vs : List V} {d : D} {r : List Arg} : Rep K F v d → RepsR K F σ vs r → RepsR K F σ (v :: vs) (.fz d :: r)
  | sl {v : V} {vs : List V} {i : Nat} {r : List Arg} : σ[i]? = some (some v) → RepsR K F σ vs r → RepsR K F σ (v :: vs) (.sl i :: r)
theorem RepsR.mono {K : PySem.W.Frag} {F F' : Hp} {σ : L2.St} (e : Same F F') : ∀ {vs : List V} {r : List Arg}, RepsR K F σ vs r → RepsR K F' σ vs r
  | _, _, .nil => .nil
  | _, _, .fz h r => .fz (h.mono e) (r.mono e)
  | _, _, .sl h r => .sl h (r.mono e)
theorem RepsR.length {K : PySem.W.Frag} {F : Hp} {σ : L2.St} : ∀ {vs : List V} {r : List Arg}, RepsR K F σ vs r → vs.length = r.length
  | _, _, .nil => rfl
  | _, _, .fz h r => by rw [List.length_cons, List.length_cons, r.length]
  | _, _, .sl h r => by rw [List.length_cons, List.length_cons, r.length]
noncomputable def TrR (K : PySem.W.Frag) (pv : List V) (W : WX) (ta : TA) (m : SD → ER (List Arg)) : Prop := ∀ G F sd σ H Q, StR K pv G F sd σ H → Meets K pv W G σ (fun _ F _ _ σ vs r => RepsR K F σ vs r) false sd F H (m sd) Q (ta σ H Q)
structure DR (X : Cx) (pv : List V) (W : WX) (es : List Expr) (m : SD → ER (List Arg)) : Prop where
  ex : ∃ ta, PA X es ta ∧ TrR X.K pv W ta m
noncomputable def rNil : SD → ER (List Arg) := fun sd => .ok [] sd
noncomputable def rSlot (i : Nat) (r : SD → ER (List Arg)) : SD → ER (List Arg) := fun sd => match sd.tree i with
  | some _ => (r sd).bind fun xs sd2 => .ok (.sl i :: xs) sd2
  | none => .bad
noncomputable def rFz (a : SD → ER D) (r : SD → ER (List Arg)) : SD → ER (List Arg) := fun sd => (a sd).bind fun d sd1 => (r sd1).bind fun xs sd2 => .ok (.fz d :: xs) sd2
theorem Meets.weak {α β : Type} {K : PySem.W.Frag} {G F H : Hp} {σ : L2.St} {RS : RSt β α} {sd : SD} {r : ER α} {Q : β → Hp → Prop} {P : Prop} (h : Meets K pv W G σ RS p sd F H r Q P) : Meets K pv W G σ RS false sd F H r Q P := by
  cases r with
  | bad => exact True.intro
  | rz x sd' => exact h
  | ok a sd' => exact fun z => h fun v F' H' s1 s2 s3 _ => z v F' H' s1 s2 s3 fun w => by cases w
theorem dr_nil : DR X pv W [] rNil := ⟨_, pa_nil, fun G F sd σ H Q s => (Meets.here (p := true) s .nil id).weak⟩
theorem dr_slot {i : Nat} {x : Str} {pp : Pos} {mr : SD → ER (List Arg)} (hx : PE X (.Name x pp) (tVar i)) (hr : DR X pv W es mr) (hs : starEach (.Name x pp :: es) X.env = (false, eval (.Name x pp) X.env) :: starEach es X.env := by rfl) : DR X pv W (.Name x pp :: es) (rSlot i mr) := by
  obtain ⟨tr, b1, b2⟩ := hr
  refine ⟨_, pa_cons hx b1 hs, fun G F sd σ H Q s => ?_⟩
  unfold rSlot
  split
  · rename_i t e
    obtain ⟨v, P, h1, h2⟩ := s.tree e
    refine Meets.to (P := tr σ H fun xs H2 => Q (v :: xs) H2) ?_ fun z => ⟨v, h1, z⟩
    refine (Meets.bindL (b2 G F sd σ H (fun xs H2 => Q (v :: xs) H2) s) fun xs F1 H1 rs sd1 s1 s2 s3 s4 => ?_)
    exact Meets.here s2 (.sl h1 s3) id
  · exact True.intro
theorem dr_fz {ma : SD → ER D} {mr : SD → ER (List Arg)} (ha : DX X pv W p true e ma) (hr : DR X pv W es mr) (hs : starEach (e :: es) X.env = (false, eval e X.env) :: starEach es X.env := by rfl) : DR X pv W (e :: es) (rFz ma mr) := by
  obtain ⟨te, a1, a2⟩ := ha
  obtain ⟨tr, b1, b2⟩ := hr
  refine ⟨_, pa_cons a1 b1 hs, fun G F sd σ H Q s => ?_⟩
  refine Meets.weak (p := p && false) (Meets.bind (a2 G F sd σ H _ s) fun x F1 H1 dx sd1 s1 s2 s3 s4 => ?_)
  refine (Meets.bindL (b2 G F1 sd1 σ H1 _ s2) fun xs F2 H2 rs sd2 t1 t2 t3 t4 => ?_)
  exact Meets.here t2 (.fz (Rep.mono t1 (show Rep X.K F1 x dx from s3)) t3) id
end
noncomputable def treesOf (sd : SD) : List Arg → Option (List OT)
  | [] => some []
  | .fz d :: r => (treesOf sd r).map (.fz d :: ·)
  | .sl i :: r => (sd.tree i).bind fun t => (treesOf sd r).map (t :: ·)
noncomputable def noSlot : List Arg → Bool
  | [] => true
  | .fz _ :: r => noSlot r
  | .sl _ :: _ => false
noncomputable def oneSlot : List Arg → Option (Nat × Nat)
  | [] => none
  | .fz _ :: r => (oneSlot r).map fun p => (p.1 + 1, p.2)
  | .sl i :: r => if noSlot r = true then some (0, i) else none
section
variable {K : PySem.W.Frag} {pv : List V} {G F H : Hp} {sd : SD} {σ : L2.St}
theorem args_no {F : Hp} : ∀ {vs : List V} {r : List Arg} {ts : List OT}, RepsR K F σ vs r → treesOf sd r = some ts → noSlot r = true → vs.length = ts.length ∧ ∀ (k : Nat) (t : OT), ts[k]? = some t → ∃ v d, vs[k]? = some v ∧ t = .fz d ∧ Rep K F v d
  | _, _, ts, .nil, h, _ => by
    unfold treesOf at h
    cases h
    exact ⟨rfl, fun k t e => by simp at e⟩
  | _, _, ts, .fz (r := r) h1 h2, h, hn => by
    unfold treesOf at h
    cases e : treesOf sd r with
    | none => rw [e] at h; cases h
    | some us =>
      rw [e] at h; cases h
      obtain ⟨l1, l2⟩ := args_no h2 e hn
      refine ⟨by rw [List.length_cons, List.length_cons, l1], fun k t et => ?_⟩
      cases k with
      | zero => simp at et; subst et; exact ⟨_, _, rfl, rfl, h1⟩
      | succ k =>
        obtain ⟨v, d, q1, q2, q3⟩ := l2 k t (by simpa using et)
        exact ⟨v, d, by simpa using q1, q2, q3⟩
  | _, _, ts, .sl h1 h2, h, hn => by cases hn
theorem args_one {F : Hp} : ∀ {vs : List V} {r : List Arg} {ts : List OT} {m i : Nat}, RepsR K F σ vs r → treesOf sd r = some ts → oneSlot r = some (m, i) → vs.length = ts.length ∧ (∃ t, ts[m]? = some t ∧ sd.tree i = some t) ∧ (∃ v, vs[m]? = some v ∧ σ[i]? = some (some v)) ∧
    ∀ (k : Nat) (t : OT), ts[k]? = some t → k ≠ m → ∃ v d, vs[k]? = some v ∧ t = .fz d ∧ Rep K F v d
  | _, _, ts, m, i, .nil, h, ho => by cases ho
  | _, _, ts, m, i, .fz (r := r) h1 h2, h, ho => by
    unfold treesOf at h
    unfold oneSlot at ho
    cases e : treesOf sd r with
    | none => rw [e] at h; cases h
    | some us =>
      rw [e] at h; cases h
      cases e2 : oneSlot r with
      | none => rw [e2] at ho; cases ho
      | some p =>
        rw [e2] at ho; cases ho
        obtain ⟨m', i'⟩ := p
        obtain ⟨l1, ⟨t, l2, l3⟩, ⟨v, l4, l5⟩, l6⟩ := args_one h2 e e2
        refine ⟨by rw [List.length_cons, List.length_cons, l1], ⟨t, by simpa using l2, l3⟩, ⟨v, by simpa using l4, l5⟩, fun k t et hk => ?_⟩
        cases k with
        | zero => simp at et; subst et; exact ⟨_, _, rfl, rfl, h1⟩
        | succ k =>
          obtain ⟨v, d, q1, q2, q3⟩ := l6 k t (by simpa using et) (fun z => hk (by show k + 1 = m' + 1; rw [z]))
          exact ⟨v, d, by simpa using q1, q2, q3⟩
  | _, _, ts, m, i, .sl (r := r) h1 h2, h, ho => by
    unfold treesOf at h
    unfold oneSlot at ho
    split at ho
    · rename_i hn
      cases ho
      cases e0 : sd.tree i with
      | none => rw [e0] at h; cases h
      | some t =>
        rw [e0] at h
        have h : (treesOf sd r).map (t :: ·) = some ts := h
        cases e : treesOf sd r with
        | none => rw [e] at h; cases h
        | some us =>
          rw [e] at h; cases h
          obtain ⟨l1, l2⟩ := args_no h2 e hn
          refine ⟨by rw [List.length_cons, List.length_cons, l1], ⟨t, rfl, rfl⟩, ⟨_, rfl, h1⟩, fun k t et hk => ?_⟩
          cases k with
          | zero => exact absurd rfl hk
          | succ k =>
            obtain ⟨v, d, q1, q2, q3⟩ := l2 k t (by simpa using et)
            exact ⟨v, d, by simpa using q1, q2, q3⟩
    · cases ho
/-- one tree is handed over -/
theorem StR.give1 {ts : List OT} {vs : List V} {m i : Nat} {t : OT} {v : V} (s : StR K pv G F sd σ H) (hl : vs.length = ts.length) (hm : ts[m]? = some t) (ht : sd.tree i = some t) (hv : vs[m]? = some v) (hs : σ[i]? = some (some v))
    (hr : ∀ (k : Nat) (t : OT), ts[k]? = some t → k ≠ m → ∃ v d, vs[k]? = some v ∧ t = .fz d ∧ Rep K F v d) :
    ∃ G', StR K vs G' F ⟨[], ts⟩ [] H ∧ (∀ (F' H' : Hp) (w : V) (u t' : OT) (sd1 : SD), Same F F' → StR1 K vs G' F' sd1 [] H' w u → sd1.pa[m]? = some t' → StR1 K pv G F' (sd.put i t') σ H' w u) ∧
      (∀ (F' H' : Hp) (t' : OT) (sd1 : SD), Same F F' → StR K vs G' F' sd1 [] H' → sd1.pa[m]? = some t' → StR K pv G F' (sd.put i t') σ H') := by
  classical
  obtain ⟨o, W⟩ := s
  obtain ⟨src, v0, h1, h2, h3⟩ := W.put ht
  rw [hs] at h1; cases h1
  let G' : Hp := fun a => if F a = none ∧ ¬ o src a then H a else none
  have g0 : ∀ a, F a = none → ¬ o src a → G' a = H a := fun a x y => if_pos ⟨x, y⟩
  have gn : ∀ a, G' a = none → F a ≠ none ∨ o src a ∨ H a = none := fun a z => by
    by_cases f : F a = none
    · by_cases q : o src a
      · exact .inr (.inl q)
      · rw [g0 a f q] at z; exact .inr (.inr z)
    · exact .inl f
  have back : ∀ (F' H' : Hp) (o' : Nat ⊕ Nat → Addr → Prop) (sd1 : SD) (t' : OT), Same F F' → Own K vs G' F' sd1 [] H' o' → sd1.pa[m]? = some t' → Own K pv G F' (sd.put i t') σ H' (fun x a => if x = src then o' (.inr m) a else o x a) ∧ ∀ x a, x ≠ src → o x a → G' a ≠ none := fun F' H' o' sd1 t' f W' et => by
    have ne : ∀ x a, x ≠ src → o x a → G' a = H a ∧ H a ≠ none := fun x a n q => by
      obtain ⟨k1, k2, k3⟩ := W.oh x a q
      exact ⟨g0 a k2 fun z => n (W.oo _ _ a q z), k1⟩
    have keep : ∀ x a, x ≠ src → o x a → H' a = H a := fun x a n q => by
      obtain ⟨k1, k2⟩ := ne x a n q
      cases e : H a with
      | none => exact absurd e k2
      | some u => exact W'.gh a u (by rw [k1]; exact e)
    have gG : ∀ a, G' a = none → F' a = none → G a = none := fun a z fa => by
      rcases gn a z with q | q | q
      · exact absurd (f.free fa) q
      · exact (W.oh _ a q).2.2
      · exact W.gh.free q
    refine ⟨?_, fun x a n q => by obtain ⟨k1, k2⟩ := ne x a n q; rw [k1]; exact k2⟩
    obtain ⟨v1, q1, q2⟩ := W'.pr m t' et
    rw [hv] at q1; cases q1
    refine h3 F' H' _ t' f W'.fh (fun a u e => ?_) (fun a ha => ?_) (fun x a q => ?_) (fun x y a q q' => ?_) (fun x n a q => ⟨by rw [if_neg n]; exact q, keep x a n q⟩) ?_
    · have hu := W.gh a u e
      have fa : F a = none := by
        cases e2 : F a with
        | none => rfl
        | some u2 => have := W.fg a (by rw [e2]; simp); rw [e] at this; cases this
      exact W'.gh a u (by rw [g0 a fa fun z => by rw [(W.oh _ a z).2.2] at e; cases e]; exact hu)
    · cases e : G a with
      | none => rfl
      | some u =>
        have hu := W.gh a u e
        have fa : F a = none := by
          cases e2 : F a with
          | none => rfl
          | some u2 => have := W.fg a (by rw [e2]; simp); rw [e] at this; cases this
        have := W'.fg a ha
        rw [g0 a fa (fun z => by rw [(W.oh _ a z).2.2] at e; cases e), hu] at this
        cases this
    · by_cases z : x = src
      · rw [if_pos z] at q
        obtain ⟨k1, k2, k3⟩ := W'.oh _ a q
        exact ⟨k1, k2, gG a k3 k2⟩
      · rw [if_neg z] at q
        obtain ⟨k1, k2⟩ := ne x a z q
        refine ⟨by rw [keep x a z q]; exact k2, ?_, (W.oh x a q).2.2⟩
        cases e : F' a with
        | none => rfl
        | some u =>
          have := W'.fg a (by rw [e]; simp)
          rw [k1] at this
          exact absurd this k2
    · by_cases z : x = src
      · rw [if_pos z] at q
        by_cases y' : y = src
        · rw [z, y']
        · rw [if_neg y'] at q'
          obtain ⟨k1, k2⟩ := ne y a y' q'
          exact absurd (W'.oh _ a q).2.2 (by rw [k1]; exact k2)
      · rw [if_neg z] at q
        by_cases y' : y = src
        · rw [if_pos y'] at q'
          obtain ⟨k1, k2⟩ := ne x a z q
          exact absurd (W'.oh _ a q').2.2 (by rw [k1]; exact k2)
        · rw [if_neg y'] at q'
          exact W.oo _ _ a q q'
    · exact q2.mono (Same.refl _) fun x hx => ⟨by show (if src = src then o' (.inr m) x else o src x); rw [if_pos rfl]; exact hx, rfl⟩
  refine ⟨G', ⟨fun x a => x = .inr m ∧ o src a, W.fh, fun a u e => ?_, fun a ha => ?_, fun x a q => ?_, fun x y a q q' => q.1.trans q'.1.symm, rfl, fun i t e => by simp at e, fun i j e => by simp at e, fun j t1 e => ?_⟩, fun F' H' w u t' sd1 f ⟨o', P, W', r, k⟩ et => ?_, fun F' H' t' sd1 f ⟨o', W'⟩ et => ?_⟩
  · have e : (if F a = none ∧ ¬ o src a then H a else none) = some u := e
    split at e
    · exact e
    · cases e
  · exact if_neg fun z => ha z.1
  · obtain ⟨k1, k2, k3⟩ := W.oh _ a q.2
    exact ⟨k1, k2, if_neg fun z => z.2 q.2⟩
  · have e : ts[j]? = some t1 := e
    by_cases z : j = m
    · subst z
      rw [hm] at e; cases e
      exact ⟨_, hv, h2.mono (Same.refl _) fun x hx => ⟨⟨rfl, hx⟩, rfl⟩⟩
    · obtain ⟨v1, d, q1, q2, q3⟩ := hr j t1 e z
      subst q2
      refine ⟨v1, q1, ?_⟩
      unfold RepO
      exact q3
  · obtain ⟨W2, nn⟩ := back F' H' o' sd1 t' f W' et
    refine ⟨_, P, W2, r, fun a z => ?_⟩
    obtain ⟨k1, k2, k3, k4⟩ := k a z
    refine ⟨k1, k2, ?_, fun x q => ?_⟩
    · rcases gn a k3 with q | q | q
      · exact absurd (f.free k2) q
      · exact (W.oh _ a q).2.2
      · exact W.gh.free q
    · by_cases y : x = src
      · rw [if_pos y] at q; exact k4 _ q
      · rw [if_neg y] at q; exact nn x a y q k3
  · obtain ⟨W2, nn⟩ := back F' H' o' sd1 t' f W' et
    exact ⟨_, W2⟩
end
noncomputable def mCall1 (f : List OT → ER OT) (a : SD → ER (List Arg)) : SD → ER OT := fun sd => (a sd).bind fun args sd1 => match oneSlot args, treesOf sd1 args with
  | some (m, i), some ts => match f ts with
    | .ok t sd' => match sd'.pa[m]? with
      | some t' => .ok t (sd1.put i t')
      | none => .bad
    | .rz x sd' => match sd'.pa[m]? with
      | some t' => .rz x (sd1.put i t')
      | none => .bad
    | .bad => .bad
  | _, _ => .bad
section
variable {X : Cx} {pv : List V} {W : WX} {p q k l : Bool} {e a b : Expr} {es : List Expr}
theorem tr_call1 {n : Nat} {f : List OT → ER OT} {ta : TA} {mm : SD → ER (List Arg)} (hn : ∀ sd ds sd1, mm sd = .ok ds sd1 → ds.length = n) (h : TrR X.K pv W ta mm) :
    TrO X.K pv W false (fun σ H Q => ta σ H fun vs H1 => spD X.K n f vs H1 Q (WE W σ)) (mCall1 f mm) := by
  intro G F sd σ H Q s
  have z := h G F sd σ H (fun vs H1 => spD X.K n f vs H1 Q (WE W σ)) s
  unfold mCall1
  have hn := hn sd
  revert z hn
  cases mm sd with
  | bad => exact fun _ _ => True.intro
  | rz x sd1 => exact fun z _ => z
  | ok args sd1 =>
    intro z hn
    have hn := hn args sd1 rfl
    show Meets X.K pv W G σ (RSo X.K pv) false sd F H (match oneSlot args, treesOf sd1 args with
      | some (m, i), some ts => match f ts with
        | .ok t sd' => match sd'.pa[m]? with
          | some t' => .ok t (sd1.put i t')
          | none => .bad
        | .rz x sd' => match sd'.pa[m]? with
          | some t' => .rz x (sd1.put i t')
          | none => .bad
        | .bad => .bad
      | _, _ => .bad) Q _
    cases e1 : oneSlot args with
    | none => exact True.intro
    | some p =>
      obtain ⟨m, i⟩ := p
      cases e2 : treesOf sd1 args with
      | none => exact True.intro
      | some ts =>
        have main : ∀ vs F1 H1, Same F F1 → StR X.K pv G F1 sd1 σ H1 → RepsR X.K F1 σ vs args → vs.length = n ∧ ts.length = n ∧ ∃ G', StR X.K vs G' F1 ⟨[], ts⟩ [] H1 ∧ (∀ (F' H' : Hp) (w : V) (u t' : OT) (sd' : SD), Same F1 F' → StR1 X.K vs G' F' sd' [] H' w u → sd'.pa[m]? = some t' → StR1 X.K pv G F' (sd1.put i t') σ H' w u) ∧
            (∀ (F' H' : Hp) (t' : OT) (sd' : SD), Same F1 F' → StR X.K vs G' F' sd' [] H' → sd'.pa[m]? = some t' → StR X.K pv G F' (sd1.put i t') σ H') := fun vs F1 H1 s1 s2 s3 => by
          obtain ⟨l1, ⟨t, l2, l3⟩, ⟨v, l4, l5⟩, l6⟩ := args_one s3 e2 e1
          have la : vs.length = args.length := s3.length
          exact ⟨by omega, by omega, s2.give1 l1 l2 l3 l4 l5 l6⟩
        show Meets X.K pv W G σ (RSo X.K pv) false sd F H (match f ts with
          | .ok t sd' => match sd'.pa[m]? with
            | some t' => .ok t (sd1.put i t')
            | none => .bad
          | .rz x sd' => match sd'.pa[m]? with
            | some t' => .rz x (sd1.put i t')
            | none => .bad
          | .bad => .bad) Q _
        cases e : f ts with
        | bad => exact True.intro
        | rz x s' =>
          show Meets X.K pv W G σ (RSo X.K pv) false sd F H (match s'.pa[m]? with
            | some t' => .rz x (sd1.put i t')
            | none => .bad) Q _
          cases e3 : s'.pa[m]? with
          | none => exact True.intro
          | some t' =>
            intro hW
            refine z fun vs F1 H1 s1 s2 s3 s4 => ?_
            obtain ⟨a1, a2, G', g1, g2, g3⟩ := main vs F1 H1 s1 s2 s3
            refine ⟨a1, G', F1, ts, a2, g1, ?_⟩
            rw [e]
            exact fun cls dd F2 H2 t1 t2 t3 => hW cls dd F2 H2 (s1.trans t1) (g3 F2 H2 t' s' t1 t2 e3) t3
        | ok t s' =>
          show Meets X.K pv W G σ (RSo X.K pv) false sd F H (match s'.pa[m]? with
            | some t' => .ok t (sd1.put i t')
            | none => .bad) Q _
          cases e3 : s'.pa[m]? with
          | none => exact True.intro
          | some t' =>
            intro hQ
            refine z fun vs F1 H1 s1 s2 s3 s4 => ?_
            obtain ⟨a1, a2, G', g1, g2, g3⟩ := main vs F1 H1 s1 s2 s3
            refine ⟨a1, G', F1, ts, a2, g1, ?_⟩
            rw [e]
            exact fun v F2 H2 t1 t2 => hQ v F2 H2 (s1.trans t1) (g2 F2 H2 v t t' s' t1 t2 e3).drop (g2 F2 H2 v t t' s' t1 t2 e3) fun w => by cases w
theorem lenr_nil : ∀ sd ds sd1, rNil sd = .ok ds sd1 → ds.length = 0 := fun sd ds sd1 h => by cases h; rfl
theorem lenr_fz {ma : SD → ER D} {mr : SD → ER (List Arg)} {n : Nat} (h : ∀ sd ds sd1, mr sd = .ok ds sd1 → ds.length = n) : ∀ sd ds sd1, rFz ma mr sd = .ok ds sd1 → ds.length = n + 1 := fun sd ds sd1 e => by
  unfold rFz at e
  cases e1 : ma sd with
  | bad => rw [e1] at e; cases e
  | rz x s => rw [e1] at e; cases e
  | ok d s =>
    rw [e1] at e
    have e : (mr s).bind (fun xs sd2 => ER.ok (.fz d :: xs) sd2) = .ok ds sd1 := e
    cases e2 : mr s with
    | bad => rw [e2] at e; cases e
    | rz x s2 => rw [e2] at e; cases e
    | ok ys s2 =>
      rw [e2] at e
      cases e
      rw [List.length_cons, h s ys _ e2]
theorem lenr_slot {i : Nat} {mr : SD → ER (List Arg)} {n : Nat} (h : ∀ sd ds sd1, mr sd = .ok ds sd1 → ds.length = n) : ∀ sd ds sd1, rSlot i mr sd = .ok ds sd1 → ds.length = n + 1 := fun sd ds sd1 e => by
  unfold rSlot at e
  split at e
  · cases e2 : mr sd with
    | bad => rw [e2] at e; cases e
    | rz x s2 => rw [e2] at e; cases e
    | ok ys s2 =>
      rw [e2] at e
      cases e
      rw [List.length_cons, h sd ys _ e2]
  · cases e
theorem do_call1 {n j : Nat} {f : Addr} {fd : FuncData} {ps : List Str} {x : Str} {pp pos : Pos} {g : List OT → ER OT} {m : SD → ER (List Arg)} (F : FnG X.prog X.w X.K X.mg X.base (L2.CX X.prog X.w) j f fd ps (spD X.K n g)) (hr : RoomG j X.A) (hg : Gl X x)
    (hm : X.mg x = some (.ref f)) (hk : PySem.W.keepIn X.K (.ref f) = true) (hb : Binds X.K fd ps []) (tk : Takes X W) (ha : DR X pv W (e :: es) m) (hn : ∀ sd ds sd1, m sd = .ok ds sd1 → ds.length = n)
    (hdb : (x == ("__debug__" : Str)) = false := by decide) (he : starEach (e :: es) X.env = (false, eval e X.env) :: starEach es X.env := by rfl) (hpl : (backTo pos (starEach es X.env)).any (·.1) = false := by rfl) :
    DO X pv W false (.Call (.Name x pp) (e :: es) [] pos) (mCall1 g m) := by
  obtain ⟨ta, a1, a2⟩ := ha
  exact ⟨_, pe_callG F hr hg hm hk hb tk a1 hdb he hpl, tr_call1 hn a2⟩
end
end DL
namespace DL
open PySem PySem.Spec L2
noncomputable def mFz (m : SD → ER OT) : SD → ER OT := mOwn (mView m)
theorem tr_fz {K : PySem.W.Frag} {pv : List V} {W : WX} {p : Bool} {te : TE} {m : SD → ER OT} (h : TrO K pv W p te m) : TrO K pv W p te (mFz m) := by
  intro G F sd σ H Q s
  refine Meets.imp (f := fun t => OT.fz t.view) (h G F sd σ H Q s) id ?_ fun v F1 H1 t sd1 _ s1 s2 s3 s4 hQ => ?_
  · unfold mFz mOwn mView
    cases m sd <;> rfl
  · obtain ⟨F2, t1, t2, t3⟩ := StR1.frz s3
    exact hQ v F2 H1 t1 t2 (StR1.fz t2 t3) (Same.refl _)
section
variable {X : Cx} {pv : List V} {W : WX} {p q k l pc pe pi1 pc1 : Bool} {e tg iter tg1 iter1 elt : Expr} {ifs ifs1 : List Expr} {scope : Scope} {pos : Pos}
theorem DO.fz {m : SD → ER OT} (h : DO X pv W p e m) : DO X pv W p e (mFz m) := by
  obtain ⟨te, h1, h2⟩ := h
  exact ⟨te, h1, tr_fz h2⟩
/-- what holds of targets in any context -/
theorem tgN_wip {i : Nat} : ∀ (vs : List Nat), (∀ j ∈ [i], j ∈ vs) → ∀ d sd sd', tgN i d sd = some sd' → SD.wipe sd' vs = SD.wipe sd vs := fun vs h d sd sd' e => by
  unfold tgN SD.putFz at e
  split at e
  · cases e
    show SD.mk (wipeS (sd.sl.set i _) vs) sd.pa = SD.mk (wipeS sd.sl vs) sd.pa
    rw [wipeS_set (h i List.mem_cons_self)]
  · cases e
noncomputable abbrev Wip (is : List Nat) (g : D → SD → Option SD) : Prop := ∀ (vs : List Nat), (∀ j ∈ is, j ∈ vs) → ∀ d sd sd', g d sd = some sd' → SD.wipe sd' vs = SD.wipe sd vs
noncomputable abbrev Wips (is : List Nat) (g : List D → SD → Option SD) : Prop := ∀ (vs : List Nat), (∀ j ∈ is, j ∈ vs) → ∀ d sd sd', g d sd = some sd' → SD.wipe sd' vs = SD.wipe sd vs
theorem wip_name {i : Nat} : Wip [i] (tgN i) := tgN_wip
theorem wip_nil : Wips [] tgNil := fun vs h d sd sd' e => by
  unfold tgNil at e
  cases d with
  | nil => cases e; rfl
  | cons _ _ => cases e
theorem wip_cons {is js : List Nat} {g : D → SD → Option SD} {h : List D → SD → Option SD} (a : Wip is g) (b : Wips js h) : Wips (is ++ js) (tgCons g h) := fun vs hv d sd sd' e => by
  cases d with
  | nil => cases e
  | cons d ds =>
    obtain ⟨sd1, e1, e2⟩ := Option.bind_eq_some_iff.mp e
    rw [b vs (fun i hi => hv i (List.mem_append_right _ hi)) _ _ _ e2, a vs (fun i hi => hv i (List.mem_append_left _ hi)) _ _ _ e1]
theorem wip_tup {is : List Nat} {n : Nat} {h : List D → SD → Option SD} (a : Wips is h) : Wip is (tgT n h) := fun vs hv d sd sd' e => by
  unfold tgT at e
  cases d with
  | tup ds =>
    have e : (if ds.length = n then h ds sd else none) = some sd' := e
    split at e
    · exact a vs hv _ _ _ e
    · cases e
  | ktu ds =>
    have e : (if ds.length = n then h ds sd else none) = some sd' := e
    split at e
    · exact a vs hv _ _ _ e
    · cases e
  | _ => cases e
end
/-- a def at its name -/
structure Fd (K : PySem.W.Frag) (mg : Str → Option Value) (x : Str) (st : Stmt) (f : Addr) (fd : FuncData) (ps : List Str) : Prop where
  F : Fun K x x st f fd
  g : mg x = some (.ref f)
  b : Binds K fd ps []
theorem bo_all : bootBuiltins "all" = some (.builtin "all") := by decide +kernel
theorem bo_isinstance : bootBuiltins "isinstance" = some (.builtin "isinstance") := by decide +kernel
theorem bo_len : bootBuiltins "len" = some (.builtin "len") := by decide +kernel
theorem bo_max : bootBuiltins "max" = some (.builtin "max") := by decide +kernel
theorem bo_repr : bootBuiltins "repr" = some (.builtin "repr") := by decide +kernel
theorem bo_bool : bootBuiltins "bool" = some (.type "bool") := by decide +kernel
theorem bo_int : bootBuiltins "int" = some (.type "int") := by decide +kernel
theorem bo_str : bootBuiltins "str" = some (.type "str") := by decide +kernel
theorem bo_tuple : bootBuiltins "tuple" = some (.type "tuple") := by decide +kernel
theorem bo_ValueError : bootBuiltins "ValueError" = some (.type "ValueError") := by decide +kernel
end DL
namespace DL
open PySem PySem.Spec L2
theorem law_sp {K : PySem.W.Frag} {H : Hp} {a : Addr} {ns : List Int} {m : List OT → ER OT} (hS : SqL K H a (ns.map V.int)) (h : ∃ sd, m [.fz (.scr ns)] = .ok (.fz (.bl true)) sd) : spD K 1 m [.ref a] H (fun v _ => v = .bl true) fun _ _ _ => False := by
  obtain ⟨sd, h⟩ := h
  have st : StR K [.ref a] (fun _ => none) H ⟨[], [.fz (.scr ns)]⟩ [] H := by
    refine ⟨fun _ _ => False, Same.refl _, fun b u e => ?_, fun _ _ => rfl, fun i b q => False.elim q, fun i j b q => False.elim q, rfl, fun i t e => ?_, fun i j e => ?_, fun j t e => ?_⟩
    · exact nomatch (show (none : Option HO) = some u from e)
    · have e : ([] : List S)[i]? = some (.ow t) := e
      simp at e
    · have e : ([] : List S)[i]? = some (.pa j) := e
      simp at e
    · have e : [OT.fz (.scr ns)][j]? = some t := e
      cases j with
      | zero =>
        have e : some (OT.fz (.scr ns)) = some t := e
        cases e
        refine ⟨_, rfl, ?_⟩
        unfold RepO
        exact .scr hS
      | succ j => simp at e
  refine ⟨rfl, fun _ => none, H, [.fz (.scr ns)], rfl, st, ?_⟩
  rw [h]
  intro v F' H' _ s
  obtain ⟨o, P, W, r, _⟩ := s
  unfold RepO at r
  cases r
  rfl
end DL
namespace DL
open PySem PySem.Spec L2
theorem goComp_of {α : Type} {g : D → SD → Option SD} {c : SD → ER Bool} {elt : SD → ER D} {vs : List Nat} {w : SD} (e : α → D) (b : α → Bool) (f : α → D) : ∀ (xs : List α) (acc : List D) (sd : SD), sd.wipe vs = w → acc.length + xs.length ≤ 16777216 →
    (∀ x ∈ xs, ∃ sda, g (e x) w = some sda ∧ sda.wipe vs = w ∧ c sda = .ok (b x) sda ∧ (b x = true → elt sda = .ok (f x) sda)) →
    ∃ sd', goComp g c elt vs (xs.map e) acc sd = .ok (acc ++ (xs.filter b).map f) sd' ∧ sd'.wipe vs = w
  | [], acc, sd, hw, _, _ => ⟨sd, by rw [List.map_nil, goComp]; simp, hw⟩
  | x :: xs, acc, sd, hw, hl, h => by
    obtain ⟨sda, h1, h2, h3, h4⟩ := h x List.mem_cons_self
    rw [List.map_cons, goComp, hw, h1]
    dsimp only
    rw [h3]
    have hl' : acc.length + (xs.length + 1) ≤ 16777216 := hl
    cases hb : b x with
    | false =>
      obtain ⟨sd', q1, q2⟩ := goComp_of e b f xs acc sda h2 (by omega) fun y hy => h y (List.mem_cons_of_mem _ hy)
      refine ⟨sd', ?_, q2⟩
      simp only [ER.calm, ER.bind, Bool.false_eq_true, if_false]
      rw [q1, List.filter_cons, hb]
      rfl
    | true =>
      obtain ⟨sd', q1, q2⟩ := goComp_of e b f xs (acc ++ [f x]) sda h2 (by rw [List.length_append]; show acc.length + 1 + xs.length ≤ _; omega) fun y hy => h y (List.mem_cons_of_mem _ hy)
      refine ⟨sd', ?_, q2⟩
      simp only [ER.calm, ER.bind, if_true, h4 hb]
      rw [if_pos (by omega), q1, List.filter_cons, hb, if_pos rfl, List.map_cons, List.append_assoc]
      rfl
theorem mComp_of {α : Type} {mi : SD → ER (List D)} {g : D → SD → Option SD} {c : SD → ER Bool} {elt : SD → ER D} {vs : List Nat} {sd sd1 : SD} (xs : List α) (e : α → D) (b : α → Bool) (f : α → D) (hi : mi sd = .ok (xs.map e) sd1) (hl : xs.length ≤ 16777216)
    (h : ∀ x ∈ xs, ∃ sda, g (e x) (sd1.wipe vs) = some sda ∧ sda.wipe vs = sd1.wipe vs ∧ c sda = .ok (b x) sda ∧ (b x = true → elt sda = .ok (f x) sda)) :
    mComp mi g c elt vs sd = .ok (.ol (((xs.filter b).map f).map .fz)) sd1 := by
  obtain ⟨sd', q1, q2⟩ := goComp_of e b f xs [] sd1 rfl (by simpa using hl) h
  unfold mComp
  rw [hi]
  show (goComp g c elt vs (xs.map e) [] sd1).bind _ = _
  rw [q1]
  show ER.ok (OT.ol (([] ++ (xs.filter b).map f).map .fz)) (sd'.back sd1 vs) = _
  rw [back_self q2, List.nil_append]
/-- no test -/
theorem mComp_map {α : Type} {mi : SD → ER (List D)} {g : D → SD → Option SD} {elt : SD → ER D} {vs : List Nat} {sd sd1 : SD} (xs : List α) (e : α → D) (f : α → D) (hi : mi sd = .ok (xs.map e) sd1) (hl : xs.length ≤ 16777216)
    (h : ∀ x ∈ xs, ∃ sda, g (e x) (sd1.wipe vs) = some sda ∧ sda.wipe vs = sd1.wipe vs ∧ elt sda = .ok (f x) sda) :
    mComp mi g mYes elt vs sd = .ok (.ol ((xs.map f).map .fz)) sd1 := by
  have z := mComp_of (mi := mi) (c := mYes) xs e (fun _ => true) f hi hl fun x hx => by
    obtain ⟨sda, h1, h2, h3⟩ := h x hx
    exact ⟨sda, h1, h2, rfl, fun _ => h3⟩
  rw [List.filter_eq_self.mpr fun _ _ => rfl] at z
  exact z
/-- a loop by an invariant over what is still to come -/
theorem goFor_inv {α : Type} {g : D → SD → Option SD} {body : SD → Fl} (e : α → D) (I : List α → SD → Prop) (h : ∀ x r sd, I (x :: r) sd → ∃ sda sdb, g (e x) sd = some sda ∧ (body sda = .nx sdb ∨ body sda = .ct sdb) ∧ I r sdb) : ∀ (xs : List α) (sd : SD), I xs sd → ∃ sd', goFor g body (xs.map e) sd = .nx sd' ∧ I [] sd'
  | [], sd, hi => ⟨sd, by rw [List.map_nil, goFor], hi⟩
  | x :: xs, sd, hi => by
    obtain ⟨sda, sdb, h1, h2, h3⟩ := h x xs sd hi
    obtain ⟨sd', q1, q2⟩ := goFor_inv e I h xs sdb h3
    refine ⟨sd', ?_, q2⟩
    rw [List.map_cons, goFor, h1]
    dsimp only
    rcases h2 with h2 | h2 <;> rw [h2] <;> exact q1
theorem sFor_inv {α : Type} {it : SD → ER (List D)} {g : D → SD → Option SD} {body : SD → Fl} {sd sd1 : SD} (xs : List α) (e : α → D) (I : List α → SD → Prop) (hi : it sd = .ok (xs.map e) sd1) (h0 : I xs sd1) (h : ∀ x r sd, I (x :: r) sd → ∃ sda sdb, g (e x) sd = some sda ∧ (body sda = .nx sdb ∨ body sda = .ct sdb) ∧ I r sdb) :
    ∃ sd', sFor it g body sd = .nx sd' ∧ I [] sd' := by
  unfold sFor
  rw [hi]
  exact goFor_inv e I h xs sd1 h0
theorem seq_nx {a b : SD → Fl} {sd sd1 : SD} {r : Fl} (h : a sd = .nx sd1) (h2 : b sd1 = r) : sSeq a b sd = r := by
  unfold sSeq
  rw [h]
  exact h2
/-- slices -/
theorem cut_from1 {α : Type} (xs : List α) : cutL xs (some 1) none = xs.drop 1 := by
  unfold cutL
  rw [show HT.sIx xs.length 0 (some 1) = min 1 xs.length from HT.sIx_nat _ _ 1, show HT.sIx xs.length xs.length none = xs.length from rfl]
  cases xs with
  | nil => rfl
  | cons a r => simp
theorem cut_to1 {α : Type} (xs : List α) : cutL xs none (some 1) = xs.take 1 := by
  unfold cutL
  rw [show HT.sIx xs.length xs.length (some 1) = min 1 xs.length from HT.sIx_nat _ _ 1, show HT.sIx xs.length 0 none = 0 from rfl]
  cases xs with
  | nil => rfl
  | cons a r => simp
end DL
namespace DL
open PySem PySem.Spec L2
noncomputable def callFz (f : List OT → ER OT) (ds : List D) (sd : SD) : ER OT := match f (ds.map .fz) with
  | .ok t _ => .ok t sd
  | .rz x _ => .rz x sd
  | .bad => .bad
section
variable {K : PySem.W.Frag} {pv : List V} {W : WX} {G F H : Hp} {σ : L2.St} {sd : SD}
theorem meets_call {n : Nat} {f : List OT → ER OT} {vs : List V} {ds : List D} {Q : VK} (s : StR K pv G F sd σ H) (r : Reps K F vs ds) (hn : ds.length = n) : Meets K pv W G σ (RSo K pv) true sd F H (callFz f ds sd) Q (spD K n f vs H Q (WE W σ)) := by
  obtain ⟨G', g1, g2, g3⟩ := s.give (ts := ds.map .fz) (vs := vs) ⟨by rw [map_view_fz]; exact r, all_fz ds⟩
  unfold callFz
  cases e : f (ds.map .fz) with
  | bad => exact True.intro
  | rz x s' =>
    intro hW
    refine ⟨by rw [r.length, hn], G', F, ds.map .fz, by rw [List.length_map, hn], g1, ?_⟩
    rw [e]
    intro cls dd F2 H2 t1 t2 t3
    obtain ⟨u1, u2⟩ := g3 F2 H2 s' t1 t2
    exact hW cls dd F2 H2 t1 u1 t3
  | ok t s' =>
    intro hQ
    refine ⟨by rw [r.length, hn], G', F, ds.map .fz, by rw [List.length_map, hn], g1, ?_⟩
    rw [e]
    intro v F2 H2 t1 t2
    obtain ⟨u1, u2⟩ := g2 F2 H2 v t s' t1 t2
    exact hQ v F2 H2 t1 u1.drop u1 fun _ => ⟨u2, rfl⟩
/-- a tree that no name reaches is handed over as the first parameter -/
theorem StR1.giveX {v : V} {t : OT} {vs : List V} {ds : List D} (s : StR1 K pv G F sd σ H v t) (hr : Reps K F vs ds) :
    ∃ G', StR K (v :: vs) G' F ⟨[], t :: ds.map .fz⟩ [] H ∧ (∀ (F' H' : Hp) (t' : OT) (sd1 : SD), Same F F' → StR K (v :: vs) G' F' sd1 [] H' → sd1.pa[0]? = some t' → StR1 K pv G F' sd σ H' v t') := by
  classical
  obtain ⟨o, P, W, r, k⟩ := s
  let G' : Hp := fun a => if F a = none ∧ ¬ P a then H a else none
  have g0 : ∀ a, F a = none → ¬ P a → G' a = H a := fun a x y => if_pos ⟨x, y⟩
  have gn : ∀ a, G' a = none → F a ≠ none ∨ P a ∨ H a = none := fun a z => by
    by_cases f : F a = none
    · by_cases q : P a
      · exact .inr (.inl q)
      · rw [g0 a f q] at z; exact .inr (.inr z)
    · exact .inl f
  refine ⟨G', ⟨fun x a => x = .inr 0 ∧ P a, W.fh, fun a u e => ?_, fun a ha => ?_, fun x a q => ?_, fun x y a q q' => q.1.trans q'.1.symm, rfl, fun i t e => ?_, fun i j e => ?_, fun j t1 e => ?_⟩, fun F' H' t' sd1 f ⟨o', W'⟩ et => ?_⟩
  · have e : (if F a = none ∧ ¬ P a then H a else none) = some u := e
    split at e
    · exact e
    · cases e
  · exact if_neg fun z => ha z.1
  · obtain ⟨k1, k2, k3, k4⟩ := k a q.2
    exact ⟨k1, k2, if_neg fun z => z.2 q.2⟩
  · have e : ([] : List S)[i]? = some (.ow t) := e
    simp at e
  · have e : ([] : List S)[i]? = some (.pa j) := e
    simp at e
  · have e : (t :: ds.map OT.fz)[j]? = some t1 := e
    cases j with
    | zero =>
      cases e
      exact ⟨v, rfl, r.mono (Same.refl _) fun x hx => ⟨⟨rfl, hx⟩, rfl⟩⟩
    | succ j =>
      have e : (ds.map OT.fz)[j]? = some t1 := e
      rw [List.getElem?_map] at e
      obtain ⟨d, e1, e2⟩ := Option.map_eq_some_iff.mp e
      subst e2
      obtain ⟨w, h1, h2⟩ := hr.get e1
      refine ⟨w, h1, ?_⟩
      unfold RepO
      exact h2
  · have ne : ∀ x a, o x a → G' a = H a ∧ H a ≠ none := fun x a q => by
      obtain ⟨k1, k2, k3⟩ := W.oh x a q
      exact ⟨g0 a k2 fun z => (k a z).2.2.2 x q, k1⟩
    have keep : ∀ x a, o x a → H' a = H a := fun x a q => by
      obtain ⟨k1, k2⟩ := ne x a q
      cases e : H a with
      | none => exact absurd e k2
      | some u => exact W'.gh a u (by rw [k1]; exact e)
    have gG : ∀ a, G' a = none → F' a = none → G a = none := fun a z fa => by
      rcases gn a z with q | q | q
      · exact absurd (f.free fa) q
      · exact (k a q).2.2.1
      · exact W.gh.free q
    obtain ⟨v1, q1, q2⟩ := W'.pr 0 t' et
    cases q1
    have fa : ∀ a u, G a = some u → F a = none := fun a u e => by
      cases e2 : F a with
      | none => rfl
      | some u2 => have := W.fg a (by rw [e2]; simp); rw [e] at this; cases this
    have np : ∀ a u, G a = some u → ¬ P a := fun a u e z => by rw [(k a z).2.2.1] at e; cases e
    refine ⟨o, o' (.inr 0), ⟨W'.fh, fun a u e => W'.gh a u (by rw [g0 a (fa a u e) (np a u e)]; exact W.gh a u e), fun a ha => ?_, fun x a q => ?_, W.oo, W.len, fun i t e => ?_, W.sp, fun j t e => ?_⟩, q2, fun a q => ?_⟩
    · cases e : G a with
      | none => rfl
      | some u =>
        have := W'.fg a ha
        rw [g0 a (fa a u e) (np a u e), W.gh a u e] at this
        cases this
    · obtain ⟨k1, k2⟩ := ne x a q
      refine ⟨by rw [keep x a q]; exact k2, ?_, (W.oh x a q).2.2⟩
      cases e : F' a with
      | none => rfl
      | some u =>
        have := W'.fg a (by rw [e]; simp)
        rw [k1] at this
        exact absurd this k2
    · obtain ⟨w, h1, h2⟩ := W.sl i t e
      exact ⟨w, h1, h2.mono f fun x hx => ⟨hx, keep _ x hx⟩⟩
    · obtain ⟨w, h1, h2⟩ := W.pr j t e
      exact ⟨w, h1, h2.mono f fun x hx => ⟨hx, keep _ x hx⟩⟩
    · obtain ⟨k1, k2, k3⟩ := W'.oh _ a q
      exact ⟨k1, k2, gG a k3 k2, fun x q' => by
        obtain ⟨m1, m2⟩ := ne x a q'
        rw [m1] at k3
        exact m2 k3⟩
/-- a new instance without attributes -/
theorem StR.newI {x dx C : Addr} (s : StR K pv G F sd σ H) (hx : H x = none) (hdx : H dx = none) (hne : dx ≠ x) : StR1 K pv G F sd σ (upd (upd H dx (.own x)) x (.ins C dx [])) (.ref x) (.oi C [] []) := by
  obtain ⟨o, W⟩ := s
  have n := W.fresh hx
  have nd := W.fresh hdx
  have sm : Same H (upd (upd H dx (.own x)) x (.ins C dx [])) := fun a u e => by
    rw [upd_ne (ne_of_none e hx), upd_ne (ne_of_none e hdx)]; exact e
  refine ⟨o, fun a => a = x, W.grow sm (Same.refl _) (W.fh.trans sm) fun a ha => .inl ha, ?_, fun a ha => ?_⟩
  · unfold RepO
    refine ⟨x, dx, [], rfl, rfl, upd_same, rfl, ?_⟩
    unfold RepOs
    rfl
  · subst ha
    exact ⟨by rw [upd_same]; simp, n.1, n.2.1, n.2.2⟩
end
theorem Meets.bindW {α β γ δ : Type} {K : PySem.W.Frag} {pv : List V} {W : WX} {G F H : Hp} {σ : L2.St} {sd : SD} {p : Bool} {RS : RSt β α} {RS' : RSt δ γ} {r : ER α} {f : α → SD → ER γ} {Q : δ → Hp → Prop} {k : β → Hp → Prop} {P : Prop} (h : Meets K pv W G σ RS p sd F H r k P)
    (g : ∀ v F1 H1 a sd1, r = .ok a sd1 → Same F F1 → StR K pv G F1 sd1 σ H1 → RS G F1 sd1 H1 σ v a → Meets K pv W G σ RS' false sd1 F1 H1 (f a sd1) Q (k v H1)) :
    Meets K pv W G σ RS' false sd F H (r.bind f) Q P := by
  cases r with
  | bad => exact True.intro
  | rz x sd' => exact h
  | ok a sd1 =>
    show Meets K pv W G σ RS' false sd F H (f a sd1) Q P
    have h' : (∀ v F' H', Same F F' → StR K pv G F' sd1 σ H' → RS G F' sd1 H' σ v a → (p = true → Same H H' ∧ sd1 = sd) → k v H') → P := h
    have g' := fun v F1 H1 s1 s2 s3 => g v F1 H1 a sd1 rfl s1 s2 s3
    revert g'
    cases f a sd1 with
    | bad => exact fun _ => True.intro
    | rz x sd2 => exact fun g' hW => h' fun v F1 H1 s1 s2 s3 s4 => g' v F1 H1 s1 s2 s3 fun cls dd F2 H2 t1 t2 t3 => hW cls dd F2 H2 (s1.trans t1) t2 t3
    | ok c sd2 => exact fun g' hQ => h' fun v F1 H1 s1 s2 s3 s4 => g' v F1 H1 s1 s2 s3 fun w F2 H2 t1 t2 t3 t4 => hQ w F2 H2 (s1.trans t1) t2 t3 fun z => by cases z
noncomputable def mMake (C : Addr) (f : List OT → ER OT) (a : SD → ER (List D)) : SD → ER OT := fun sd => (a sd).bind fun ds sd1 => match f (.oi C [] [] :: ds.map .fz) with
  | .ok (.fz .non) sd' => match sd'.pa[0]? with
    | some t => .ok t sd1
    | none => .bad
  | .rz x sd' => match sd'.pa[0]? with
    | some _ => .rz x sd1
    | none => .bad
  | _ => .bad
section
variable {X : Cx} {pv : List V} {W : WX} {p q k l : Bool} {e a b : Expr} {es : List Expr} {pos : Pos}
theorem run_makeS {C f : Addr} {fd : FuncData} {ps : List Str} {sp : Sp} {E : L2.St → XK} {k : Nat} {pins : List (Addr × Obj)} {σ : L2.St} {H : Hp} {s : Shared} {Q : VK} {us : List Value} {vs : List V} (M : Mk X.K C f) (F : FnG X.prog X.w X.K X.mg X.base (L2.CX X.prog X.w) k f fd ps sp) (hr : RoomG (k + 1) X.A) (hb : Binds X.K fd ps [])
    (hx : PassesAt (L2.CX X.prog X.w) X σ (E σ)) (I : Inv X pins σ H s) (r : Vals vs us)
    (h : ∀ x dx, H x = none → H dx = none → dx ≠ x → sp (.ref x :: vs) (upd (upd H dx (.own x)) x (.ins C dx [])) (fun v H2 => v = .non ∧ Q (.ref x) H2) (E σ)) :
    wpAny (model X.prog X.w) X.A (call (.ref C) us) (EP X pins σ Q) X.xe s := by
  have hq := h (s.heap.objs.size + 1) s.heap.objs.size (I.hok.fresh (Nat.le_succ _)) (I.hok.fresh (Nat.le_refl _)) (Nat.ne_of_lt (Nat.lt_succ_self _))
  have I2 := Inv.made (C := C) I
  have r2 : Vals (V.ref (s.heap.objs.size + 1) :: vs) (Value.ref (s.heap.objs.size + 1) :: us) := .cons rfl r
  have hl : (Value.ref (s.heap.objs.size + 1) :: us).length = ps.length := by
    have e := r2.length
    rw [F.len _ _ _ _ hq] at e
    exact e.symm
  have hb1 := hb _ (Value.ref (s.heap.objs.size + 1) :: us) I2.kIn (by rw [List.append_nil]; exact hl)
  rw [List.append_nil] at hb1
  refine wpAny_call (make_map (f := f) I.kIn M.makes M.init (beq_iff_eq.mp M.fn) (codeAny_mono (F.run _ X.stack _ _ ⟨Value.ref (s.heap.objs.size + 1) :: us, []⟩ (Value.ref (s.heap.objs.size + 1) :: us) _ _ (E σ) (hr.make C us [])
    (I2.env0.make C us []) hb1 r2 hq) fun r s' hq' => ?_))
  cases r with
  | error e => exact hx pins _ _ e s' I2 hq'
  | ok fl =>
    cases fl with
    | ret u =>
      obtain ⟨v, H', I3, rv, ev, q3⟩ := I2.after hq'
      subst ev
      exact ⟨rv, ⟨V.ref (s.heap.objs.size + 1), H', I3, rfl, q3⟩⟩
    | next => exact False.elim hq'
    | brk => exact False.elim hq'
    | cont => exact False.elim hq'
theorem do_make {C f : Addr} {fd : FuncData} {ps : List Str} {x : Str} {pp : Pos} {n j : Nat} {g : List OT → ER OT} {m : SD → ER (List D)} (M : Mk X.K C f) (F : FnG X.prog X.w X.K X.mg X.base (L2.CX X.prog X.w) j f fd ps (spD X.K (n + 1) g)) (hr : RoomG (j + 1) X.A) (hg : Gl X x)
    (hm : X.mg x = some (.ref C)) (hb : Binds X.K fd ps []) (tk : Takes X W) (ha : DA X pv W p true (e :: es) m) (hn : ∀ sd ds sd1, m sd = .ok ds sd1 → ds.length = n)
    (hdb : (x == ("__debug__" : Str)) = false := by decide) (he : starEach (e :: es) X.env = (false, eval e X.env) :: starEach es X.env := by rfl) (hpl : (backTo pos (starEach es X.env)).any (·.1) = false := by rfl) :
    DO X pv W false (.Call (.Name x pp) (e :: es) [] pos) (mMake C g m) := by
  obtain ⟨ta, a1, a2⟩ := ha
  refine ⟨fun σ H Q => ta σ H fun vs H1 => ∀ x dx, H1 x = none → H1 dx = none → dx ≠ x → spD X.K (n + 1) g (.ref x :: vs) (upd (upd H1 dx (.own x)) x (.ins C dx [])) (fun v H2 => v = .non ∧ Q (.ref x) H2) (WE W σ), ⟨fun pins s σ H Q I h => ?_⟩, fun G Fz sd σ H Q s => ?_⟩
  · refine wpAny_Call_Name_kw (ld_glob I hg hm ?_ hdb)
    refine PySem.W.callWith_K (h₀ := X.base) I.ok.mod.kin M.kp (thn (a1.run pos pins s σ H _ I h) fun us s1 ⟨vs, H1, I1, r, q⟩ => ⟨I1.kIn, ?_⟩) he hpl
    exact run_makeS (E := WE W) M F hr hb (passAt tk σ) I1 r q
  · refine Meets.bindW (a2 G Fz sd σ H _ s) fun vs F1 H1 ds sd1 hmm s1 s2 s3 => ?_
    have s3 : Reps X.K F1 vs ds := s3
    have hnn := hn sd ds sd1 hmm
    have key : ∀ x dx, H1 x = none → H1 dx = none → dx ≠ x → ∃ G', StR X.K (V.ref x :: vs) G' F1 ⟨[], .oi C [] [] :: ds.map .fz⟩ [] (upd (upd H1 dx (.own x)) x (.ins C dx [])) ∧
        (∀ (F' H' : Hp) (t' : OT) (sdx : SD), Same F1 F' → StR X.K (V.ref x :: vs) G' F' sdx [] H' → sdx.pa[0]? = some t' → StR1 X.K pv G F' sd1 σ H' (.ref x) t') := fun x dx h1 h2 h3 => (s2.newI (C := C) h1 h2 h3).giveX s3
    have len1 : ∀ (x : Addr), (V.ref x :: vs).length = n + 1 := fun x => by rw [List.length_cons, s3.length, hnn]
    have len2 : (OT.oi C [] [] :: ds.map OT.fz).length = n + 1 := by rw [List.length_cons, List.length_map, hnn]
    split
    · rename_i sd' e1
      split
      · rename_i t et
        intro hQ x dx h1 h2 h3
        obtain ⟨G', g1, g2⟩ := key x dx h1 h2 h3
        refine ⟨len1 x, G', F1, _, len2, g1, ?_⟩
        rw [e1]
        intro v F' H' t1 t2
        refine ⟨?_, hQ (.ref x) F' H' t1 (g2 F' H' t sd' t1 t2.drop et).drop (g2 F' H' t sd' t1 t2.drop et) fun z => by cases z⟩
        obtain ⟨o, P, w, r, _⟩ := t2
        unfold RepO at r
        cases r
        rfl
      · exact True.intro
    · rename_i x1 sd' e1
      split
      · rename_i t et
        intro hW x dx h1 h2 h3
        obtain ⟨G', g1, g2⟩ := key x dx h1 h2 h3
        refine ⟨len1 x, G', F1, _, len2, g1, ?_⟩
        rw [e1]
        exact fun cls dd F' H' t1 t2 t3 => hW cls dd F' H' t1 (g2 F' H' t sd' t1 t2 et).drop t3
      · exact True.intro
    · exact True.intro
end
theorem cx_none {P : Program} {w : World} {outer : List Env} {H : Hp} {s s' : Shared} {e : Value} (z : L2.CX P w outer H s (fun _ _ _ => False) e s') : False := by
  obtain ⟨_, _, _, _, _, _, _, _, _, _, _, _, q⟩ := z
  exact q
section
variable {X : Cx} {f : Addr} {fd : FuncData} {ps : List Str} {sp : Sp} {j : Nat} {pins : List (Addr × Obj)} {σ : L2.St} {H : Hp} {s : Shared} {Q : VK} {E : Value → Shared → Prop} {us : List Value} {vs : List V}
theorem code_at {A : Around} (F : FnG X.prog X.w X.K X.mg X.base (L2.CX X.prog X.w) j f fd ps sp) (hr : RoomG j A) (he : Env0 X.prog X.w X.K X.mg X.base A X.stack s H) (hb : Binds X.K fd ps []) (I : Inv X pins σ H s) (r : Vals vs us) (h : sp vs H Q fun _ _ _ => False) :
    codeAny (model X.prog X.w) A (.call (.ref f) ⟨us, []⟩) (wants (EP X pins σ Q) E) s := by
  have hl : (us ++ []).length = ps.length := by rw [List.append_nil, ← r.length, F.len _ _ _ _ h]
  have b := hb s us I.kIn hl
  rw [List.append_nil] at b
  refine codeAny_mono (F.run A X.stack s H ⟨us, []⟩ us vs Q _ hr he b r h) fun res s2 hq => ?_
  cases res with
  | error e => exact (cx_none hq).elim
  | ok fl =>
    cases fl with
    | ret u => exact I.after hq
    | next => exact hq.elim
    | brk => exact hq.elim
    | cont => exact hq.elim
theorem run_1 (F : FnG X.prog X.w X.K X.mg X.base (L2.CX X.prog X.w) j f fd ps sp) (hr : RoomG (j + 1) X.A) (hb : Binds X.K fd ps []) (I : Inv X pins σ H s) (r : Vals vs us) (h : sp vs H Q fun _ _ _ => False) : wpAny (model X.prog X.w) X.A.in1 (call (.ref f) us) (EP X pins σ Q) E s := wpAny_call (code_at F hr.in1 I.env0.in1 hb I r h)
end
end DL
namespace DL
open PySem PySem.Spec L2
noncomputable def fldD {α : Type} (f : Str) : List Str → List α → Option α
  | n :: ns, v :: vs => if n = f then some v else fldD f ns vs
  | _, _ => none
theorem lookup_head {α : Type} {f g : Str} {v : α} {r : List (Str × α)} : List.lookup f ((g, v) :: r) = if g = f then some v else List.lookup f r := by
  by_cases h : g = f
  · subst h
    rw [if_pos rfl]
    simp [List.lookup]
  · rw [if_neg h]
    have : (f == g) = false := by simpa using fun z : f = g => h z.symm
    simp [List.lookup, this]
theorem fldD_rep {K : PySem.W.Frag} {F : Hp} {f : Str} {d : D} : ∀ {fs : List (Str × V)} {vs : List D}, Reps K F (fs.map (·.2)) vs → fldD f (fs.map (·.1)) vs = some d → ∃ v, fs.lookup f = some v ∧ Rep K F v d
  | [], vs, r, h => by
    cases r
    cases h
  | (n, v) :: fs, vs, r, h => by
    cases r with
    | cons r1 r2 =>
      rw [List.map_cons, fldD] at h
      rw [lookup_head]
      by_cases e : n = f
      · rw [if_pos e] at h ⊢
        cases h
        exact ⟨v, rfl, r1⟩
      · rw [if_neg e] at h ⊢
        exact fldD_rep r2 h
noncomputable def mFld (ok : Addr → Bool) (f : Str) (a : SD → ER D) : SD → ER D := fun sd => (a sd).bind fun x sd1 => match x with
  | .ins C ns vs => if ok C = true then ER.opt (fldD f ns vs) sd1 else .bad
  | _ => .bad
/-- the place of a name -/
noncomputable def idxN (f : Str) : List Str → Option Nat
  | [] => none
  | n :: ns => if n = f then some 0 else (idxN f ns).map (· + 1)
noncomputable def putO (C : Addr) (f : Str) (t : OT) (ns : List Str) (ts : List OT) : OT := match idxN f ns with
  | some k => .oi C ns (ts.set k t)
  | none => .oi C (ns ++ [f]) (ts ++ [t])
theorem putF_some {f : Str} {y : V} : ∀ {fs : List (Str × V)} {k : Nat}, idxN f (fs.map (·.1)) = some k → (putF f y fs).map (·.1) = fs.map (·.1) ∧ (putF f y fs).map (·.2) = (fs.map (·.2)).set k y
  | [], k, h => by cases h
  | (n, v) :: fs, k, h => by
    rw [List.map_cons, idxN] at h
    unfold putF
    by_cases e : n = f
    · rw [if_pos e] at h ⊢
      cases h
      subst e
      exact ⟨rfl, rfl⟩
    · rw [if_neg e] at h ⊢
      obtain ⟨j, e1, e2⟩ := Option.map_eq_some_iff.mp h
      subst e2
      obtain ⟨h1, h2⟩ := putF_some (y := y) e1
      exact ⟨by rw [List.map_cons, h1]; rfl, by rw [List.map_cons, h2]; rfl⟩
theorem putF_none {f : Str} {y : V} : ∀ {fs : List (Str × V)}, idxN f (fs.map (·.1)) = none → (putF f y fs).map (·.1) = fs.map (·.1) ++ [f] ∧ (putF f y fs).map (·.2) = fs.map (·.2) ++ [y]
  | [], h => ⟨rfl, rfl⟩
  | (n, v) :: fs, h => by
    rw [List.map_cons, idxN] at h
    unfold putF
    by_cases e : n = f
    · rw [if_pos e] at h; cases h
    · rw [if_neg e] at h ⊢
      have e1 : idxN f (fs.map (·.1)) = none := by
        cases e2 : idxN f (fs.map (·.1)) with
        | none => rfl
        | some j => rw [e2] at h; cases h
      obtain ⟨h1, h2⟩ := putF_none (y := y) e1
      exact ⟨by rw [List.map_cons, h1]; rfl, by rw [List.map_cons, h2]; rfl⟩
section
variable {K : PySem.W.Frag} {pv : List V} {G F H : Hp} {sd : SD} {σ : L2.St}
theorem StR1.fset {i : Nat} {C : Addr} {ns : List Str} {ts : List OT} {t2 : OT} {v2 : V} (s : StR1 K pv G F sd σ H v2 t2) (h : sd.tree i = some (.oi C ns ts)) : ∃ (a dx : Addr) (fs : List (Str × V)), σ[i]? = some (some (.ref a)) ∧ H a = some (.ins C dx fs) ∧ fs.map (·.1) = ns ∧ fs.length = ns.length ∧
    ∀ f, StR K pv G F (sd.put i (putO C f t2 ns ts)) σ (upd H a (.ins C dx (putF f v2 fs))) := by
  obtain ⟨v, P, P2, h1, h2, r2, d, hn, hn2, go⟩ := s.mut h
  unfold RepO at h2
  obtain ⟨a, dx, fs, rfl, pa, ha, hns, r⟩ := h2
  have main : ∀ (gs : List (Str × V)) (ns' : List Str) (ts' : List OT), gs.map (·.1) = ns' → RepOs K F H ts' (gs.map (·.2)) (fun x => (P x ∧ x ≠ a) ∨ P2 x) → StR K pv G F (sd.put i (.oi C ns' ts')) σ (upd H a (.ins C dx gs)) := fun gs ns' ts' hg rr => by
    refine go _ _ (fun x hx u e => by rw [upd_ne (fun z => hx (by rw [z]; exact pa))]; exact e) (fun x hx => ?_) ?_
    · by_cases z : x = a
      · rw [z, upd_same]; simp
      · rw [upd_ne z]; exact hn x hx
    · unfold RepO
      refine ⟨a, dx, gs, rfl, .inl pa, upd_same, hg.symm, rr.mono (Same.refl _) fun x hx => ?_⟩
      have ne : x ≠ a := by
        rcases hx with hx | hx
        · exact hx.2
        · exact fun z => d a pa (by rw [← z]; exact hx)
      exact ⟨⟨hx.imp And.left id, ne⟩, upd_ne ne⟩
  refine ⟨a, dx, fs, h1, ha, hns.symm, by rw [hns, List.length_map], fun f => ?_⟩
  unfold putO
  subst hns
  cases e : idxN f (fs.map (·.1)) with
  | some k =>
    obtain ⟨q1, q2⟩ := putF_some (y := v2) e
    exact main _ _ _ q1 (by rw [q2]; exact repOs_set k r r2 fun x q => d x q.1)
  | none =>
    obtain ⟨q1, q2⟩ := putF_none (y := v2) e
    exact main _ _ _ q1 (by rw [q2]; exact repOs_app r r2 fun x q => d x q.1)
end
noncomputable def sFldSet (ok : Addr → Bool) (i : Nat) (f : Str) (m : SD → ER OT) : SD → Fl := fun sd => (m sd).stm fun t sd1 => match sd1.tree i with
  | some (.oi C ns ts) => if ok C = true ∧ ns.length < 1000 then .nx (sd1.put i (putO C f t ns ts)) else .bad
  | _ => .bad
section
variable {X : Cx} {pv : List V} {W : WX} {p q k l : Bool} {e a b : Expr} {es : List Expr} {pos : Pos}
theorem dx_fld {ok : Addr → Bool} {f : Str} {m : SD → ER D} (h : DX X pv W p k e m) (hf : ∀ C, ok C = true → Cls X.K C ∧ NoAttr X.K C f) (hb : attributeBase e f X.env (eval e X.env) = eval e X.env := by rfl) : DX X pv W p k (.Attribute e f pos) (mFld ok f m) := by
  obtain ⟨te, a1, a2⟩ := h
  refine ⟨_, pe_fld a1 hb, fun G F sd σ H Q s => ?_⟩
  refine Meets.bindL (a2 G F sd σ H _ s) fun x F1 H1 dx sd1 s1 s2 s3 s4 => ?_
  split
  · rename_i C ns vs
    split
    · rename_i hok
      obtain ⟨c1, c2⟩ := hf C hok
      cases e1 : fldD f ns vs with
      | none => exact True.intro
      | some d =>
        have main : ∀ Fz : Hp, Same Fz H1 → Rep X.K Fz x (.ins C ns vs) → ∃ a dx fs v, x = .ref a ∧ H1 a = some (.ins C dx fs) ∧ fs.lookup f = some v ∧ Rep X.K Fz v d := fun Fz hs r => by
          cases r with
          | @ins a C dx fs _ ha rr =>
            obtain ⟨v, k1, k2⟩ := fldD_rep rr e1
            exact ⟨a, dx, fs, v, rfl, hs _ _ ha, k1, k2⟩
        cases k with
        | true =>
          obtain ⟨a, dx, fs, v, k1, k2, k3, k4⟩ := main F1 s2.fh s3
          exact Meets.here s2 (show RSx X.K true G F1 sd1 H1 σ v d from k4) fun q => ⟨a, C, dx, fs, v, k1, k2, c1, c2, k3, q⟩
        | false =>
          obtain ⟨a, dx, fs, v, k1, k2, k3, k4⟩ := main H1 (Same.refl _) s3
          exact Meets.here s2 (show RSx X.K false G F1 sd1 H1 σ v d from k4) fun q => ⟨a, C, dx, fs, v, k1, k2, c1, c2, k3, q⟩
    · exact True.intro
  · exact True.intro
theorem ds_fld {ok : Addr → Bool} {f : Str} {i : Nat} {x : Str} {pp ap : Pos} {m : SD → ER OT} (hx : PE X (.Name x pp) (tVar i)) (he : DO X pv W p e m) (hf : ∀ C, ok C = true → Cls X.K C ∧ NoAttr X.K C f)
    (hs : swapsWith e (some (.Attribute (.Name x pp) f ap)) pos.line X.env = pure false := by rfl) : DS X pv W (.Assign [.Attribute (.Name x pp) f ap] e pos) (sFldSet ok i f m) := by
  obtain ⟨te, a1, a2⟩ := he
  refine ⟨_, ps_fld hx a1 hs, fun G F sd σ H D s => ?_⟩
  refine Meets.stm (a2 G F sd σ H _ s) fun v F1 H1 t sd1 s1 s2 s3 => ?_
  split
  · rename_i C ns ts e1
    split
    · rename_i hok
      obtain ⟨c1, c2⟩ := hf C hok.1
      obtain ⟨a, dx, fs, k1, k2, k3, k4, k5⟩ := s3.fset e1
      intro hQ
      exact ⟨_, k1, a, C, dx, fs, rfl, k2, c1, c2, by rw [k4]; exact hok.2, hQ F1 σ _ (Same.refl _) (k5 f)⟩
    · exact True.intro
  · exact True.intro
noncomputable def callFzQ (f : List OT → ER OT) (ds : List D) (sd : SD) : ER OT := match f (ds.map .fz) with
  | .ok t _ => .ok t sd
  | _ => .bad
theorem meets_callQ {K : PySem.W.Frag} {G F H : Hp} {σ : L2.St} {sd : SD} {n : Nat} {f : List OT → ER OT} {vs : List V} {ds : List D} {Q : VK} (s : StR K pv G F sd σ H) (r : Reps K F vs ds) (hn : ds.length = n) : Meets K pv W G σ (RSo K pv) true sd F H (callFzQ f ds sd) Q (spD K n f vs H Q fun _ _ _ => False) := by
  have z := meets_call (W := fun _ _ _ _ => False) (f := f) (Q := Q) s r hn
  unfold callFz at z
  unfold callFzQ
  revert z
  cases f (ds.map .fz) with
  | bad => exact fun _ => True.intro
  | rz x s' => exact fun _ => True.intro
  | ok t s' => exact id
noncomputable def mProp (C0 : Addr) (g : List OT → ER OT) (a : SD → ER D) : SD → ER OT := fun sd => (a sd).bind fun x sd1 => match x with
  | .ins C ns vs => if C = C0 then callFzQ g [.ins C ns vs] sd1 else .bad
  | _ => .bad
theorem pe_propG {C pa g : Addr} {f : Str} {fd : FuncData} {ps : List Str} {sp : Sp} {j : Nat} {te : TE} (he : PE X e te) (c : Cls X.K C) (hp : PropOf X.K C f pa g) (F : FnG X.prog X.w X.K X.mg X.base (L2.CX X.prog X.w) j g fd ps sp) (hr : RoomG (j + 1) X.A) (hb : Binds X.K fd ps [])
    (hbase : attributeBase e f X.env (eval e X.env) = eval e X.env) : PE X (.Attribute e f pos) (fun σ H Q => te σ H fun x H1 => ∃ a dx fs, x = .ref a ∧ H1 a = some (.ins C dx fs) ∧ sp [.ref a] H1 Q fun _ _ _ => False) := by
  refine ⟨fun pins s σ H Q I h => attr_of hbase (thn (he.run pins s σ H _ I h) fun u s1 ⟨x, H1, I1, rx, a, dx, fs, ex, ea, q⟩ => ?_)⟩
  subst ex
  cases (show u = Value.ref a from rx)
  obtain ⟨mA, O, _⟩ := ins_get I1.hok ea
  obtain ⟨od, J, _⟩ := O.look
  obtain ⟨rest, hrec⟩ := hp.rec_
  have isC : (PySem.W.clsIn X.K C).isSome = true := by
    obtain ⟨cd, hcd, _⟩ := PySem.W.any_some c.hd
    rw [hcd]; rfl
  have I2 := I1.tok (s1.toks + 1)
  refine PySem.W.get_bind I1.kIn J (PySem.W.plainGet_of (c.get f)).1 (PySem.W.findObj_data isC hp.at_ hp.get hp.tak) (PySem.W.plainGet_of (c.get f)).2 (wpAny_call (PySem.W.prop_get (s := { s1 with toks := s1.toks + 1 }) I1.kIn hrec ?_))
  refine codeAny_mono (code_at (E := fun _ _ => False) (us := [.ref a]) (vs := [.ref a]) F hr.in1 I2.env0.in1 hb I2 (.cons rfl .nil) q) fun r s2 z => ?_
  cases r with
  | error er => exact False.elim z
  | ok fl =>
    cases fl with
    | ret u =>
      obtain ⟨v, H2, I3, rv, q3⟩ := z
      show wpAny _ _ (handedOut u) _ _ _
      rw [PySem.W.handedOut_of (handed_of rv)]
      exact wpAny_pure ⟨v, H2, I3, rv, q3⟩
    | next => exact z
    | brk => exact z
    | cont => exact z
theorem do_prop {C pa g : Addr} {f : Str} {fd : FuncData} {ps : List Str} {j : Nat} {gm : List OT → ER OT} {m : SD → ER D} (h : DX X pv W p true e m) (c : Cls X.K C) (hp : PropOf X.K C f pa g) (F : FnG X.prog X.w X.K X.mg X.base (L2.CX X.prog X.w) j g fd ps (spD X.K 1 gm)) (hr : RoomG (j + 1) X.A) (hb : Binds X.K fd ps [])
    (hbase : attributeBase e f X.env (eval e X.env) = eval e X.env := by rfl) : DO X pv W p (.Attribute e f pos) (mProp C gm m) := by
  obtain ⟨te, a1, a2⟩ := h
  refine ⟨_, pe_propG a1 c hp F hr hb hbase, fun G Fz sd σ H Q s => ?_⟩
  refine Meets.bindL (a2 G Fz sd σ H _ s) fun x F1 H1 dx sd1 s1 s2 s3 s4 => ?_
  have s3 : Rep X.K F1 x dx := s3
  split
  · rename_i C' ns vs
    split
    · rename_i hC
      subst hC
      refine Meets.to (meets_callQ s2 (.one s3) rfl) fun z => ?_
      cases s3 with
      | @ins a _ dx fs _ ha rr => exact ⟨a, dx, fs, rfl, s2.fh _ _ ha, z⟩
    · exact True.intro
  · exact True.intro
noncomputable def mMeth (C0 : Addr) (f : Str) (g : List OT → ER OT) (o : SD → ER D) (a : SD → ER (List D)) : SD → ER OT := fun sd => (o sd).bind fun x sd1 => match x with
  | .ins C ns vs => if C = C0 ∧ f ∉ ns then (a sd1).bind fun ds sd2 => callFz g (.ins C ns vs :: ds) sd2 else .bad
  | _ => .bad
end
end DL
namespace DL
open PySem PySem.Spec L2
/-- what is asked of two operands -/
noncomputable def tOwn2 (R : V → V → Hp → Prop) (sp : Sp) (E : L2.St → XK) (ta tb : TE) : TE := fun σ H Q => ta σ H fun x H1 => tb σ H1 fun y H2 => R x y H2 ∧ sp [x, y] H2 Q (E σ)
noncomputable def mOwn2 (c : D → D → Bool) (g : List OT → ER OT) (a b : SD → ER D) : SD → ER OT := fun sd => (a sd).bind fun x sd1 => (b sd1).bind fun y sd2 => if c x y = true then callFz g [x, y] sd2 else .bad
noncomputable def IsR (K : PySem.W.Frag) (c : D → D → Bool) (R : V → V → Hp → Prop) : Prop := ∀ F H x y dx dy, Same F H → Rep K F x dx → Rep K F y dy → c dx dy = true → R x y H
/-- an instance of C -/
noncomputable def InsR (C : Addr) (x : V) (H : Hp) : Prop := ∃ a dx fs, x = .ref a ∧ H a = some (.ins C dx fs)
noncomputable def D.isIns (C : Addr) : D → Bool
  | .ins C' _ _ => C' == C
  | _ => false
theorem isIns_rep {K : PySem.W.Frag} {F H : Hp} {C : Addr} {x : V} {d : D} (e : Same F H) (r : Rep K F x d) (h : d.isIns C = true) : InsR C x H := by
  cases r with
  | @ins a C' dx fs _ ha rr =>
    have h : (C' == C) = true := h
    have h := beq_iff_eq.mp h
    subst h
    exact ⟨a, dx, fs, rfl, e _ _ ha⟩
  | _ => cases h
noncomputable def D.isInt : D → Bool
  | .int _ => true
  | _ => false
noncomputable def cSame (C : Addr) : D → D → Bool := fun x y => x.isIns C && y.isIns C
noncomputable def cInt (C : Addr) : D → D → Bool := fun x y => x.isIns C && y.isInt
section
variable {X : Cx} {pv : List V} {W : WX} {p q k l : Bool} {e a b : Expr} {es : List Expr} {pos : Pos}
theorem tr_own2 {c : D → D → Bool} {R : V → V → Hp → Prop} {g : List OT → ER OT} {ta tb : TE} {ma mb : SD → ER D} (hc : IsR X.K c R) (ha : TrX X.K pv W p true ta ma) (hb : TrX X.K pv W q true tb mb) : TrO X.K pv W (p && q) (tOwn2 R (spD X.K 2 g) (WE W) ta tb) (mOwn2 c g ma mb) := by
  intro G F sd σ H Q s
  refine Meets.bind (ha G F sd σ H _ s) fun x F1 H1 dx sd1 s1 s2 s3 s4 => ?_
  refine Meets.bindL (hb G F1 sd1 σ H1 _ s2) fun y F2 H2 dy sd2 t1 t2 t3 t4 => ?_
  have s3 : Rep X.K F1 x dx := s3
  have t3 : Rep X.K F2 y dy := t3
  split
  · rename_i h
    exact Meets.to (meets_call t2 (.cons (s3.mono t1) (.one t3)) rfl) fun z => ⟨hc F2 H2 x y dx dy t2.fh (s3.mono t1) t3 h, z⟩
  · exact True.intro
theorem ins_at {pins : List (Addr × Obj)} {σ : L2.St} {H : Hp} {s : Shared} {a C dx : Addr} {fs : List (Str × V)} (I : Inv X pins σ H s) (h : H a = some (.ins C dx fs)) : ∃ ox od, PySem.W.InstAt s.heap a ox C od := by
  obtain ⟨mA, O, _⟩ := ins_get I.hok h
  obtain ⟨od, J, _⟩ := O.look
  exact ⟨_, _, J⟩
/-- what of the text an own binary operator must have, both of one class -/
structure BinS (K : PySem.W.Frag) (C g : Addr) (nm : String) : Prop where
  first : PySem.W.selfFirst K C = true
  at_ : PySem.W.findIn K (.ref C) (PySem.dunder nm) = some (some (.ref g))
  fn : PySem.W.isFn K (.ref g) = true
/-- -x -/
noncomputable def mOwn1 (C : Addr) (g : List OT → ER OT) (a : SD → ER D) : SD → ER OT := fun sd => (a sd).bind fun x sd1 => if x.isIns C = true then callFz g [x] sd1 else .bad
end
end DL
namespace PySem.W
open PySem PySem.Calls PyProof.Rows
end PySem.W
namespace DL
open PySem PySem.Spec L2
/-- what of an own class is asked for isinstance, == -/
structure CF (K : PySem.W.Frag) (C : Addr) : Prop where
  cl : Cls K C
  ha : PySem.W.findIn K (.ref C) "__class__" = some (some (.builtin "object.__class__"))
  hn : PySem.W.specialIn K (.builtin "object.__class__") "__get__" = some (some (.builtin "getset_descriptor.__get__"))
  ht : PySem.W.takesIn K (.builtin "object.__class__") = some true
  hm : PySem.W.mroIn K C (.type "object") = some true
noncomputable def D.tyv (ok : Addr → Bool) : D → Option Value
  | .non => some (.type "NoneType")
  | .bl _ => some (.type "bool")
  | .int _ => some (.type "int")
  | .str _ => some (.type "str")
  | .tup _ => some (.type "tuple")
  | .ktu _ => some (.type "tuple")
  | .lst _ => some (.type "list")
  | .scr _ => some (.type "list")
  | .dic false _ _ => some (.type "dict")
  | .ins C _ _ => if ok C = true then some (.ref C) else none
  | _ => none
noncomputable def bltTys : List String := ["NoneType", "bool", "int", "str", "tuple", "list", "dict"]
theorem tyv_rep {K : PySem.W.Frag} {H : Hp} {ok : Addr → Bool} {v : V} {d : D} {t : Value} (hC : ∀ C, ok C = true → CF K C) (r : Rep K H v d) (h : d.tyv ok = some t) : TyX K H v t := by
  cases r with
  | non => cases h; exact .base .non
  | bl x => cases h; exact .base (.bl x)
  | int x => cases h; exact .base (.int x)
  | str x => cases h; exact .base (.str x)
  | ty x => cases h
  | cls x => cases h
  | tup s r => cases h; exact tyx_tup (.inl (.inl s))
  | ktu s r => cases h; exact tyx_tup s
  | lst s r => cases h; exact tyx_lst (.inl s)
  | scr s => cases h; exact tyx_lst s
  | dicK s r =>
    cases h
    rcases s with s | ⟨o, s⟩
    · exact .base (.dK s)
    · exact .fDict s
  | dicT s r => cases h
  | @ins a C dx fs _ s r =>
    have h : (if ok C = true then some (Value.ref C) else none) = some t := h
    split at h
    · rename_i hok
      cases h
      have c := hC C hok
      exact .base (.ins s c.cl c.ha c.hn c.ht c.hm)
    · cases h
  | exc _ _ _ _ => cases h
theorem tyv_of {ok : Addr → Bool} {d : D} {t : Value} (h : d.tyv ok = some t) : (∃ n ∈ bltTys, t = .type n) ∨ ∃ C, ok C = true ∧ t = .ref C ∧ d.isIns C = true := by
  cases d with
  | ins C ns vs =>
    have h : (if ok C = true then some (Value.ref C) else none) = some t := h
    split at h
    · rename_i hok
      cases h
      exact .inr ⟨C, hok, rfl, by show (C == C) = true; simp⟩
    · cases h
  | ty _ => cases h
  | cls _ => cases h
  | exc _ _ _ => cases h
  | dic tk ks vs =>
    cases tk with
    | false => cases h; exact .inl ⟨_, by decide, rfl⟩
    | true => cases h
  | _ => cases h; exact .inl ⟨_, by decide, rfl⟩
structure IsF (K : PySem.W.Frag) (ok : Addr → Bool) (C : Addr) : Prop where
  b : ∀ n ∈ bltTys, PySem.W.kitOne K (.type n) (.ref C) = some false
  o : ∀ C', ok C' = true → PySem.W.kitOne K (.ref C') (.ref C) = some (C' == C)
noncomputable def dIsO (ok : Addr → Bool) (C : Addr) : List D → Option D
  | [d, .cls C'] => if C' = C then (d.tyv ok).map fun _ => .bl (d.isIns C) else none
  | _ => none
theorem f_isO {K : PySem.W.Frag} {ok : Addr → Bool} {C : Addr} (hC : ∀ C, ok C = true → CF K C) (f : IsF K ok C) : CallS K (rIsi K) (dIsO ok C) := by
  intro H xs ds c r h
  unfold dIsO at h
  split at h
  · rename_i d C'
    obtain ⟨v, v', rfl, r1, r2⟩ := reps2 r
    cases r2
    split at h
    · rename_i hC'
      subst hC'
      obtain ⟨t, e, h⟩ := Option.map_eq_some_iff.mp h
      subst h
      refine ⟨_, rfl, fun Q q => ⟨v, _, t, _, _, rfl, .own _, tyv_rep hC r1 e, ?_, q⟩⟩
      rcases tyv_of e with ⟨n, hn, rfl⟩ | ⟨C2, hok, rfl, hi⟩
      · have : d.isIns C' = false := by
          cases d with
          | ins C3 _ _ =>
            have e : (if ok C3 = true then some (Value.ref C3) else none) = some (.type n) := e
            split at e <;> cases e
          | _ => rfl
        rw [this]
        exact f.b n hn
      · cases d with
        | ins C3 _ _ =>
          have hi : (C3 == C2) = true := hi
          have hi := beq_iff_eq.mp hi
          subst hi
          exact f.o _ hok
        | _ => cases hi
    · cases h
  · cases h
noncomputable def mB2 (ok : Addr → Bool) (C : Addr) (g : List OT → ER OT) (neg : Bool) (a b : SD → ER D) : SD → ER D := fun sd => (a sd).bind fun x sd1 => (b sd1).bind fun y sd2 => if x.isIns C = true ∧ (y.tyv ok).isSome = true then (match g [.fz x, .fz y] with
  | .ok (.fz (.bl r)) _ => .ok (.bl (r != neg)) sd2
  | _ => .bad) else .bad
end DL
namespace DL
open PySem PySem.Spec L2
section
variable {X : Cx} {pv : List V} {W : WX} {p q k l : Bool} {e a b : Expr} {es : List Expr} {pos : Pos}
noncomputable def rLenO (K : PySem.W.Frag) (C : Addr) (g : List OT → ER OT) : List V → Hp → VK → Prop := fun xs H Q => ∃ x, xs = [x] ∧ InsR C x H ∧ spD K 1 g [x] H (fun v H' => ∃ n : Int, v = .int n ∧ 0 ≤ n ∧ n < 2 ^ 63 ∧ Q (.int n) H') fun _ _ _ => False
theorem call_lenO {C g : Addr} {fd : FuncData} {ps : List Str} {j : Nat} {gm : List OT → ER OT} (at_ : PySem.W.findIn X.K (.ref C) "__len__" = some (some (.ref g))) (fn : PySem.W.isFn X.K (.ref g) = true) (F : FnG X.prog X.w X.K X.mg X.base (L2.CX X.prog X.w) j g fd ps (spD X.K 1 gm)) (hr : RoomG (j + 1) X.A) (hb : Binds X.K fd ps []) :
    CallR X (.builtin "len") (rLenO X.K C gm) := by
  intro pins s σ H xs us Q I rv ⟨x, exs, ⟨xa, dx, fs, ex, eh⟩, q⟩
  subst exs
  subst ex
  obtain ⟨u, rfl, ru⟩ := rv.one
  cases (show u = Value.ref xa from ru)
  obtain ⟨ox, od, J⟩ := ins_at I eh
  obtain ⟨m, hF⟩ := I.fr
  refine PySem.W.len_K hF I.ok.mod.kin J at_ fn ?_
  refine wpAny_mono (run_1 (us := [.ref xa]) (vs := [.ref xa]) F hr hb I (.cons rfl .nil) q) (fun w s' z => ?_) fun _ _ x => x
  obtain ⟨z', H', I', rz, n, ez, h0, h1, qz⟩ := z
  subst ez
  obtain ⟨t, rfl⟩ := (show ∃ t, w = Value.int n t from rz)
  exact ⟨⟨h0, h1⟩, .int n, H', I'.tok _, ⟨_, rfl⟩, qz⟩
noncomputable def mLenO (C : Addr) (g : List OT → ER OT) (a : SD → ER (List D)) : SD → ER D := fun sd => (a sd).bind fun xs sd1 => match xs with
  | [x] => if x.isIns C = true then (match g [.fz x] with
    | .ok (.fz (.int n)) _ => if 0 ≤ n ∧ n < 2 ^ 63 then .ok (.int n) sd1 else .bad
    | _ => .bad) else .bad
  | _ => .bad
theorem dx_lenO {C g : Addr} {fd : FuncData} {ps : List Str} {j : Nat} {gm : List OT → ER OT} {pp : Pos} {m : SD → ER (List D)} (at_ : PySem.W.findIn X.K (.ref C) "__len__" = some (some (.ref g))) (fn : PySem.W.isFn X.K (.ref g) = true) (F : FnG X.prog X.w X.K X.mg X.base (L2.CX X.prog X.w) j g fd ps (spD X.K 1 gm)) (hr : RoomG (j + 1) X.A) (hb : Binds X.K fd ps [])
    (hg : Gl X "len") (hm : X.mg "len" = none) (ha : DA X pv W p true (e :: es) m)
    (he : starEach (e :: es) X.env = (false, eval e X.env) :: starEach es X.env := by rfl) (hpl : (backTo pos (starEach es X.env)).any (·.1) = false := by rfl) : DX X pv W p true (.Call (.Name "len" pp) (e :: es) [] pos) (mLenO C gm m) := by
  obtain ⟨ta, a1, a2⟩ := ha
  refine ⟨_, pe_callB (call_lenO at_ fn F hr hb) hg hm bo_len a1 (by decide) (by decide) he hpl, fun G Fz sd σ H Q s => ?_⟩
  refine Meets.bindL (a2 G Fz sd σ H _ s) fun xs F1 H1 ds sd1 s1 s2 s3 s4 => ?_
  have s3 : Reps X.K F1 xs ds := s3
  split
  · rename_i x _
    obtain ⟨v, rfl, r1⟩ := reps1 s3
    split
    · rename_i hc
      have z := meets_callQ (pv := pv) (W := W) (K := X.K) (f := gm) (Q := fun v H' => ∃ n : Int, v = .int n ∧ 0 ≤ n ∧ n < 2 ^ 63 ∧ Q (.int n) H') s2 (.one r1) rfl
      unfold callFzQ at z
      have e0 : ([x] : List D).map OT.fz = [.fz x] := rfl
      rw [e0] at z
      revert z
      cases e : gm [.fz x] with
      | bad => exact fun _ => True.intro
      | rz _ _ => exact fun _ => True.intro
      | ok t s' =>
        cases t with
        | fz d =>
          cases d with
          | int n =>
            intro z
            show Meets X.K pv W G σ (RSx X.K true) true sd1 F1 H1 (if 0 ≤ n ∧ n < 2 ^ 63 then .ok (.int n) sd1 else .bad) Q _
            split
            · rename_i hn
              intro hQ
              refine ⟨v, rfl, isIns_rep s2.fh r1 hc, z fun w F' H' s1 s2 s3 s4 => ?_⟩
              obtain ⟨o, P, ww, rr, _⟩ := (show StR1 X.K pv G F' sd1 σ H' w (.fz (.int n)) from s3)
              unfold RepO at rr
              cases rr
              exact ⟨n, rfl, hn.1, hn.2, hQ (.int n) F' H' s1 s2 (.int _) s4⟩
            · exact True.intro
          | _ => exact fun _ => True.intro
        | _ => exact fun _ => True.intro
    · exact True.intro
  · exact True.intro
noncomputable def mCallIns (C : Addr) (g : List OT → ER OT) (o : SD → ER D) (a : SD → ER (List D)) : SD → ER OT := fun sd => (o sd).bind fun x sd1 => if x.isIns C = true then (a sd1).bind fun ds sd2 => callFz g (x :: ds) sd2 else .bad
end
end DL
namespace DL
open PySem PySem.Spec L2
section
variable {X : Cx} {pins : List (Addr × Obj)} {σ : L2.St} {F H : Hp} {s : Shared}
mutual
theorem rep_reads (I : Inv X pins σ H s) (e : Same F H) : ∀ {v : V} {d : D} {p : PyData} {u : Value}, Rep X.K F v d → d.py = some p → RelV v u → ∃ as, Reads s.heap u p as
  | _, _, p, u, .non, h, r => by
    rw [D.py] at h; cases h
    cases (show u = Value.none from r)
    exact ⟨_, .none⟩
  | _, _, p, u, .bl b, h, r => by
    rw [D.py] at h; cases h
    cases (show u = Value.bool b from r)
    exact ⟨_, .bool b⟩
  | _, _, p, u, .int i, h, r => by
    rw [D.py] at h; cases h
    obtain ⟨t, rfl⟩ := (show ∃ t, u = Value.int i t from r)
    exact ⟨_, .int i t⟩
  | _, _, p, u, .str x, h, r => by
    rw [D.py] at h; cases h
    obtain ⟨t, rfl⟩ := (show ∃ t, u = Value.str x t from r)
    exact ⟨_, .str x t⟩
  | _, _, p, u, .ty n, h, r => by simp [D.py] at h
  | _, _, p, u, .cls C, h, r => by simp [D.py] at h
  | _, _, p, u, .tup (a := a) (ds := ds) q rr, h, r => by
    rw [D.py] at h
    cases (show u = Value.ref a from r)
    cases e1 : D.pys ds with
    | none => rw [e1] at h; cases h
    | some ps =>
      rw [e1] at h; cases h
      obtain ⟨its, rv, ⟨o, ho, hc, n, hd⟩, hz⟩ := I.tuple (.inl (.inl (e _ _ q)))
      obtain ⟨as, ra⟩ := reps_reads I e rr e1 rv
      exact ⟨_, .tuple ho hc hd ra⟩
  | _, _, p, u, .ktu (a := a) (ds := ds) q rr, h, r => by
    rw [D.py] at h
    cases (show u = Value.ref a from r)
    cases e1 : D.pys ds with
    | none => rw [e1] at h; cases h
    | some ps =>
      rw [e1] at h; cases h
      obtain ⟨its, rv, ⟨o, ho, hc, n, hd⟩, hz⟩ := I.tuple (Same.sqt e q)
      obtain ⟨as, ra⟩ := reps_reads I e rr e1 rv
      exact ⟨_, .tuple ho hc hd ra⟩
  | _, _, p, u, .lst (a := a) (ds := ds) q rr, h, r => by
    rw [D.py] at h
    cases (show u = Value.ref a from r)
    cases e1 : D.pys ds with
    | none => rw [e1] at h; cases h
    | some ps =>
      rw [e1] at h; cases h
      obtain ⟨z, its, n, rv, hl, ho⟩ := rd_list I (Same.rd e q)
      obtain ⟨as, ra⟩ := reps_reads I e rr e1 rv
      exact ⟨_, .list ho rfl rfl ra⟩
  | _, _, p, u, .scr q, h, r => by simp [D.py] at h
  | _, _, p, u, .dicK q rr, h, r => by simp [D.py] at h
  | _, _, p, u, .dicT q rr, h, r => by simp [D.py] at h
  | _, _, p, u, .ins q rr, h, r => by simp [D.py] at h
  | _, _, p, u, .exc _ _ _ _, h, r => by simp [D.py] at h
theorem reps_reads (I : Inv X pins σ H s) (e : Same F H) : ∀ {vs : List V} {ds : List D} {ps : List PyData} {us : List Value}, Reps X.K F vs ds → D.pys ds = some ps → Vals vs us → ∃ as, ReadsAll s.heap us ps as
  | _, _, ps, us, .nil, h, r => by
    rw [D.pys] at h; cases h
    cases r
    exact ⟨_, .nil⟩
  | _, _, ps, us, .cons (d := d) (ds := ds) r1 r2, h, r => by
    rw [D.pys] at h
    cases r with
    | cons q1 q2 =>
      cases e1 : d.py with
      | none => rw [e1] at h; cases h
      | some p =>
        rw [e1] at h
        cases e2 : D.pys ds with
        | none => rw [e2] at h; cases h
        | some qs =>
          rw [e2] at h; cases h
          obtain ⟨as, k1⟩ := rep_reads I e r1 e1 q1
          obtain ⟨bs, k2⟩ := reps_reads I e r2 e2 q2
          exact ⟨_, .cons k1 k2⟩
end
end
mutual
theorem py_plain : ∀ {d : D} {p : PyData}, d.py = some p → p.hasDict = false
  | .non, p, h => by rw [D.py] at h; cases h; rfl
  | .bl _, p, h => by rw [D.py] at h; cases h; rfl
  | .int _, p, h => by rw [D.py] at h; cases h; rfl
  | .str _, p, h => by rw [D.py] at h; cases h; rfl
  | .tup ds, p, h => by
    rw [D.py] at h
    obtain ⟨ps, e, h⟩ := Option.map_eq_some_iff.mp h
    subst h
    rw [PyData.hasDict]
    exact pys_plain e
  | .ktu ds, p, h => by
    rw [D.py] at h
    obtain ⟨ps, e, h⟩ := Option.map_eq_some_iff.mp h
    subst h
    rw [PyData.hasDict]
    exact pys_plain e
  | .lst ds, p, h => by
    rw [D.py] at h
    obtain ⟨ps, e, h⟩ := Option.map_eq_some_iff.mp h
    subst h
    rw [PyData.hasDict]
    exact pys_plain e
  | .ty _, p, h => by simp [D.py] at h
  | .cls _, p, h => by simp [D.py] at h
  | .scr _, p, h => by simp [D.py] at h
  | .dic _ _ _, p, h => by simp [D.py] at h
  | .ins _ _ _, p, h => by simp [D.py] at h
  | .exc _ _ _, p, h => by simp [D.py] at h
theorem pys_plain : ∀ {ds : List D} {ps : List PyData}, D.pys ds = some ps → PyData.hasDictAll ps = false
  | [], ps, h => by rw [D.pys] at h; cases h; rfl
  | d :: ds, ps, h => by
    rw [D.pys] at h
    obtain ⟨p, e1, h⟩ := Option.bind_eq_some_iff.mp h
    obtain ⟨qs, e2, h⟩ := Option.map_eq_some_iff.mp h
    subst h
    rw [PyData.hasDictAll, py_plain e1, pys_plain e2]
    rfl
end
noncomputable def dRepr : List D → Option D
  | [d] => d.py.bind fun p => if p.showable = true ∧ p.depth ≤ 40 ∧ p.shown.length ≤ 16777216 then some (.str p.shown) else none
  | _ => none
noncomputable def rRepr (K : PySem.W.Frag) : List V → Hp → VK → Prop := fun xs H Q => ∃ (v : V) (F : Hp) (d : D) (p : PyData), xs = [v] ∧ Same F H ∧ Rep K F v d ∧ d.py = some p ∧ p.showable = true ∧ p.depth ≤ 40 ∧ p.shown.length ≤ 16777216 ∧ Q (.str p.shown) H
theorem call_reprX {X : Cx} (g : X.A.guards = some []) (hu : X.A.units + 64 < cLine) : CallR X (.builtin "repr") (rRepr X.K) := by
  intro pins s σ H xs us Q I rv ⟨v, F, d, p, exs, e, r, hp, h1, h2, h3, q⟩
  subst exs
  obtain ⟨u, rfl, ru⟩ := rv.one
  have h3 : p.shown.length ≤ sizeLine := by rw [sizeLine_eq]; exact h3
  have fin : ∀ (h' : Heap) (t : Tok) (tk : Nat), (∀ b o, s.heap.get? b = some o → h'.get? b = some o) → EP X pins σ Q (.str p.shown t) { s with heap := h', toks := tk } := fun h' t tk k => ⟨.str p.shown, H, I.kept k, ⟨t, rfl⟩, q⟩
  obtain ⟨as, rd⟩ := rep_reads I e r hp ru
  cases u with
  | ref a => exact repr_of_reads' rd h1 (fun z => by rw [py_plain hp] at z; cases z) g (by omega) (fun _ _ x => x) (fun h' t tk k => fin h' t tk k) h3
  | none => cases rd; exact P.repr_of_none (fin s.heap _ _ fun _ _ x => x)
  | bool b => cases rd; exact P.repr_of_bool (fin s.heap _ _ fun _ _ x => x)
  | int i t =>
    cases rd
    have : i.natAbs.log2 < 1920 := by simpa [PyData.showable] using h1
    exact P.repr_of_int this (fin s.heap _ _ fun _ _ x => x)
  | str x t => cases rd; exact P.repr_of_str (fin s.heap _ _ fun _ _ x => x) h3
  | _ => cases rd
theorem f_repr {K : PySem.W.Frag} : CallS K (rRepr K) dRepr := by
  intro H xs ds c r h
  unfold dRepr at h
  split at h
  · rename_i d
    obtain ⟨v, rfl, r1⟩ := reps1 r
    obtain ⟨p, hp, h⟩ := Option.bind_eq_some_iff.mp h
    split at h
    · rename_i hc
      cases h
      exact ⟨_, rfl, fun Q q => ⟨v, H, d, p, rfl, Same.refl _, r1, hp, hc.1, hc.2.1, hc.2.2, q⟩⟩
    · cases h
  · cases h
end DL
namespace DL
open PySem PySem.Spec L2
/-- a method as it stands in its class -/
structure Fm (K : PySem.W.Frag) (x q : Str) (st : Stmt) (f : Addr) (fd : FuncData) (ps : List Str) : Prop where
  F : Fun K x q st f fd
  b : Binds K fd ps []
noncomputable def rInt1 : List V → Hp → VK → Prop := fun xs H Q => (∃ i, xs = [.int i] ∧ Q (.int i) H) ∨ ∃ k, xs = [.bl k] ∧ Q (.int (if k then 1 else 0)) H
theorem call_int1X {X : Cx} : CallR X (.type "int") rInt1 := call_int1
noncomputable def sPar3 (i j l : Nat) (ma mb mc : SD → ER OT) : SD → Fl := fun sd => (ma sd).stm fun t sd1 => (mb sd1).stm fun u sd2 => (mc sd2).stm fun w sd3 => if i < sd3.sl.length ∧ j < sd3.sl.length ∧ l < sd3.sl.length then .nx { sd3 with sl := ((sd3.sl.set i (.ow t)).set j (.ow u)).set l (.ow w) } else .bad
section
variable {X : Cx} {pv : List V} {W : WX} {p q r k l : Bool} {e a b c : Expr} {es : List Expr} {pos : Pos}
/-- a constant of the module -/
theorem dx_const {x : Str} {v : V} {d : D} {pp : Pos} (hg : Gl X x) (hm : ∃ u, X.mg x = some u ∧ RelV v u) (hr : ∀ F, Rep X.K F v d) (hd : (x == ("__debug__" : Str)) = false := by decide) : DX X pv W true true (.Name x pp) (mC d) := by
  obtain ⟨u, h1, h2⟩ := hm
  exact dx_glob hg h1 h2 hr hd
/-- an own class by its name -/
theorem dx_cls {x : Str} {C : Addr} {pp : Pos} (hg : Gl X x) (hm : X.mg x = some (.ref C)) (hd : (x == ("__debug__" : Str)) = false := by decide) : DX X pv W true true (.Name x pp) (mC (.cls C)) := dx_glob hg hm (v := .ref C) rfl (fun _ => .cls C) hd
end
theorem kit_sub {K : PySem.W.Frag} {C : Addr} {n : String} (h1 : PySem.W.isClsIn K C = true) (h2 : PySem.W.typeIn K (.ref C) = some (.type "type")) (h3 : PySem.W.subIn K (.type n) (.ref C) = some false) : PySem.W.kitOne K (.type n) (.ref C) = some false := by
  have e : (Value.type n == Value.ref C) = false := Bool.eq_false_iff.mpr fun q => by cases beq_iff_eq.mp q
  have h1 : (PySem.W.clsIn K C).isSome = true := h1
  unfold PySem.W.kitOne PySem.W.kitCls
  rw [e]
  simp [h1, h2, h3]
theorem kit_self {K : PySem.W.Frag} {C : Addr} : PySem.W.kitOne K (.ref C) (.ref C) = some true := by
  unfold PySem.W.kitOne
  rw [if_pos (by simp)]
theorem sub_ne {K : PySem.W.Frag} {C D : Addr} (h3 : PySem.W.subIn K (.ref D) (.ref C) = some false) (h4 : PySem.W.subIn K (.ref C) (.ref C) = some true) : (D == C) = false := Bool.eq_false_iff.mpr fun q => by
  have q := beq_iff_eq.mp q
  subst q
  rw [h3] at h4
  cases h4
theorem kit_oth {K : PySem.W.Frag} {C D : Addr} (h1 : PySem.W.isClsIn K C = true) (h2 : PySem.W.typeIn K (.ref C) = some (.type "type")) (h3 : PySem.W.subIn K (.ref D) (.ref C) = some false) (h4 : PySem.W.subIn K (.ref C) (.ref C) = some true) : PySem.W.kitOne K (.ref D) (.ref C) = some false := by
  have e : (Value.ref D == Value.ref C) = false := Bool.eq_false_iff.mpr fun q => by
    have q : D = C := by cases beq_iff_eq.mp q; rfl
    have z := sub_ne h3 h4
    rw [q] at z
    simp at z
  have h1 : (PySem.W.clsIn K C).isSome = true := h1
  unfold PySem.W.kitOne PySem.W.kitCls
  rw [e]
  simp [h1, h2, h3]
end DL
namespace DL
open PySem PySem.Spec L2
mutual
noncomputable def szP : PyData → Nat
  | .none => 5
  | .bool _ => 5
  | .int _ => 1921
  | .str x => (reprText x).length
  | .list xs => szA xs + 4
  | .tuple xs => szA xs + 4
  | .dict kvs => (PyData.shown (.dict kvs)).length
noncomputable def szA : List PyData → Nat
  | [] => 0
  | x :: xs => szP x + 2 + szA xs
end
noncomputable def szT : List Str → Nat
  | [] => 0
  | t :: r => t.length + 2 + szT r
theorem textFrom_sz : ∀ (ts : List Str) (k : Nat) (acc : Str), (textFrom k acc ts).length ≤ acc.length + szT ts
  | [], k, acc => Nat.le_refl _
  | t :: r, k, acc => by
    have h := textFrom_sz r (k + 1) (acc ++ (if k > 0 then ", " else "" : String) ++ t)
    have e : (acc ++ (if k > 0 then ", " else "" : String) ++ t).length = acc.length + (if k > 0 then 2 else 0) + t.length := by
      rw [strLen_append, strLen_append]
      by_cases hk : k > 0
      · rw [if_pos hk, if_pos hk]; rfl
      · rw [if_neg hk, if_neg hk]; rfl
    rw [e] at h
    show (textFrom (k + 1) (acc ++ (if k > 0 then ", " else "" : String) ++ t) r).length ≤ _
    rw [szT]
    have : (if k > 0 then 2 else 0) ≤ 2 := by split <;> omega
    omega
theorem listText_sz (ts : List Str) : (listText ts).length ≤ szT ts + 2 := by
  unfold listText
  rw [strLen_append]
  have h := textFrom_sz ts 0 "["
  have e1 : (("[" : String) : Str).length = 1 := rfl
  have e2 : (("]" : String) : Str).length = 1 := rfl
  rw [e1] at h
  rw [e2]
  omega
theorem piled_sz : ∀ ts : List Str, piled ts ≤ szT ts
  | [] => by simp [piled]
  | t :: r => by
    have := piled_sz r
    rw [szT]
    simp [piled] at this ⊢
    omega
theorem tupleText_sz (ts : List Str) : (tupleText ts).length ≤ szT ts + 4 := by
  unfold tupleText
  rw [strLen_append, strLen_append]
  have e1 : (("(" : String) : Str).length = 1 := rfl
  have e2 : (((if ts.length == 1 then ",)" else ")" : String)) : Str).length ≤ 2 := by
    split
    · exact Nat.le_refl 2
    · exact Nat.le_succ 1
  rw [e1]
  cases ts with
  | nil =>
    have e3 : (Str.join ", " []).length = 0 := rfl
    omega
  | cons t r =>
    have h := join_length_add (t :: r) (by simp)
    have := piled_sz (t :: r)
    omega
mutual
theorem shown_sz : ∀ {d : PyData}, d.showable = true → d.shown.length ≤ szP d
  | .none, _ => by rw [PyData.shown, szP]; exact Nat.le_succ 4
  | .bool b, _ => by
    rw [PyData.shown, szP]
    cases b
    · exact Nat.le_refl 5
    · exact Nat.le_succ 4
  | .int i, h => by
    rw [PyData.showable] at h
    rw [PyData.shown, szP]
    exact PyProof.Rows.int_text_len_1921 (of_decide_eq_true h)
  | .str x, _ => by rw [PyData.shown, szP]; exact Nat.le_refl _
  | .list xs, h => by
    rw [PyData.showable] at h
    rw [PyData.shown, szP]
    have := listText_sz (PyData.shownAll xs)
    have := shownAll_sz h
    omega
  | .tuple xs, h => by
    rw [PyData.showable] at h
    rw [PyData.shown, szP]
    have := tupleText_sz (PyData.shownAll xs)
    have := shownAll_sz h
    omega
  | .dict kvs, _ => by rw [szP]; exact Nat.le_refl _
theorem shownAll_sz : ∀ {ds : List PyData}, PyData.showableAll ds = true → szT (PyData.shownAll ds) ≤ szA ds
  | [], _ => by rw [PyData.shownAll, szT, szA]; exact Nat.le_refl 0
  | d :: ds, h => by
    rw [PyData.showableAll] at h
    have h := (Bool.and_eq_true _ _).mp h
    have h1 := shown_sz h.1
    have h2 := shownAll_sz h.2
    rw [PyData.shownAll, szT, szA]
    omega
end
theorem dRepr_of {d : D} {p : PyData} (h : d.py = some p) (h1 : p.showable = true) (h2 : p.depth ≤ 40) (h3 : szP p ≤ 16777216) : dRepr [d] = some (.str p.shown) := by
  have := shown_sz h1
  show d.py.bind _ = _
  rw [h]
  show (if p.showable = true ∧ p.depth ≤ 40 ∧ p.shown.length ≤ 16777216 then some (D.str p.shown) else none) = _
  rw [if_pos ⟨h1, h2, by omega⟩]
noncomputable def tI (ns : List Int) : D := .tup (ns.map .int)
theorem pys_int : ∀ ns : List Int, D.pys (ns.map D.int) = some (ns.map PyData.int)
  | [] => rfl
  | n :: r => by rw [List.map_cons, D.pys, pys_int r]; rfl
theorem lay_int : ∀ ns : List Int, PyData.canLayAll0 (ns.map PyData.int) = true
  | [] => rfl
  | n :: r => by rw [List.map_cons, PyData.canLayAll0, lay_int r]; rfl
theorem dep_int : ∀ ns : List Int, PyData.depthAll (ns.map PyData.int) = 0
  | [] => rfl
  | n :: r => by rw [List.map_cons, PyData.depthAll, dep_int r]; rfl
theorem eqv_int : ∀ ns ms : List Int, PyData.eqvAll (ns.map PyData.int) (ms.map PyData.int) = decide (ns = ms)
  | [], [] => by simp [PyData.eqvAll]
  | [], _ :: _ => by simp [PyData.eqvAll]
  | _ :: _, [] => by simp [PyData.eqvAll]
  | n :: ns, m :: ms => by
    rw [List.map_cons, List.map_cons, PyData.eqvAll, eqv_int ns ms, PyData.eqv]
    by_cases h : n = m <;> simp [h]
theorem tI_py (ns : List Int) : (tI ns).py = some (.tuple (ns.map PyData.int)) := by
  unfold tI
  rw [D.py, pys_int]
  rfl
theorem tI_shaped (ns : List Int) : SeqAt.shaped (.tuple (ns.map PyData.int)) = true := by
  have h1 : PyData.canLay0 (.tuple (ns.map PyData.int)) = true := lay_int ns
  have h2 : PyData.depth (.tuple (ns.map PyData.int)) = 1 := by rw [PyData.depth, dep_int]
  unfold SeqAt.shaped
  rw [h1, h2]
  rfl
theorem eq_tI (ns ms : List Int) : dEqB (tI ns) (tI ms) = some (decide (ns = ms)) := by
  have z : dEqB (tI ns) (tI ms) = match (tI ns).py, (tI ms).py with
    | some p, some q => if (SeqAt.shaped p && SeqAt.shaped q) = true then some (PyData.eqv p q) else none
    | _, _ => none := rfl
  rw [z, tI_py, tI_py]
  dsimp only
  rw [tI_shaped, tI_shaped]
  show some (PyData.eqvAll _ _) = _
  rw [eqv_int]
theorem eqB_int (i j : Int) : dEqB (.int i) (.int j) = some (decide (i = j)) := rfl
theorem eqB_str (i j : Str) : dEqB (.str i) (.str j) = some (decide (i = j)) := rfl
theorem eqB_bl (i j : Bool) : dEqB (.bl i) (.bl j) = some (decide (i = j)) := rfl
theorem eq_2 (a b c d : Int) : dEqB (.tup [.int a, .int b]) (.tup [.int c, .int d]) = some (decide (a = c) && decide (b = d)) := by
  have := eq_tI [a, b] [c, d]
  simpa [tI] using this
theorem eq_3 (a b c d e f : Int) : dEqB (.tup [.int a, .int b, .int c]) (.tup [.int d, .int e, .int f]) = some (decide (a = d) && (decide (b = e) && decide (c = f))) := by
  have := eq_tI [a, b, c] [d, e, f]
  simpa [tI] using this
end DL
namespace DL
open PySem PySem.Spec L2 PyProof.Rows
end DL
namespace DL
open PySem PySem.Spec L2 PyProof.Rows
set_option maxHeartbeats 3200000
end DL
set_option maxHeartbeats 3200000
namespace DL
open PySem PySem.Spec L2 PyProof.Rows
end DL
namespace DL
open PySem PySem.Spec L2 PyProof.Rows
/-- the different ones, in order -/
noncomputable def dd : List Int → List Int
  | [] => []
  | x :: r => if x ∈ dd r then dd r else x :: dd r
end DL
namespace DL
open PySem PySem.Spec L2 PyProof.Rows
noncomputable def CallM (K : PySem.W.Frag) (r : V → List V → Hp → VK → Prop) (f : D → List D → Option D) : Prop := ∀ H x xs d ds c, Rep K H x d → Reps K H xs ds → f d ds = some c → ∃ v, c.sc = some v ∧ ∀ Q : VK, Q v H → r x xs H Q
noncomputable def TyD (K : PySem.W.Frag) (T : String) (t : D → Bool) : Prop := ∀ H x d, Rep K H x d → t d = true → tyV K T x H
noncomputable def mBm (t : D → Bool) (f : D → List D → Option D) (a : SD → ER D) (b : SD → ER (List D)) : SD → ER D := fun sd => (a sd).bind fun d sd1 => if t d = true then (b sd1).bind fun ds sd2 => ER.opt (f d ds) sd2 else .bad
noncomputable def D.isL : D → Bool
  | .lst _ => true
  | _ => false
noncomputable def D.isS : D → Bool
  | .str _ => true
  | _ => false
theorem ty_lst {K : PySem.W.Frag} : TyD K "list" D.isL := fun H x d r h => by
  cases r with
  | lst s t => exact .inl ⟨rfl, _, .inl s⟩
  | _ => cases h
theorem ty_str {K : PySem.W.Frag} : TyD K "str" D.isS := fun H x d r h => by
  cases r with
  | str => exact (rfl : "str" = "str")
  | _ => cases h
section
variable {X : Cx} {pv : List V} {W : WX} {p q k l : Bool} {o e a b : Expr} {es : List Expr} {apos cpos pos : Pos} {name : Str} {T id : String}
theorem tr_bm {r : V → List V → Hp → VK → Prop} {t : D → Bool} {f : D → List D → Option D} {to : TE} {ta : TA} {mo : SD → ER D} {ma : SD → ER (List D)} (ht : TyD X.K T t) (hf : CallM X.K r f) (ho : TrX X.K pv W p k to mo) (ha : TrA X.K pv W q l ta ma) (hk : (k || q) = true) :
    TrX X.K pv W (p && q) true (tBM X.K T r to ta) (mBm t f mo ma) := by
  intro G F sd σ H Q s
  refine Meets.bind (ho G F sd σ H _ s) fun x F1 H1 d sd1 s1 s2 s3 s4 => ?_
  have hq : q = (q && true) := by cases q <;> rfl
  rw [hq]
  by_cases tt : t d = true
  · rw [if_pos tt]
    have ty := ht H1 x d (RSx.see s3 s2) tt
    refine Meets.to ?_ fun z => ⟨ty, z⟩
    refine Meets.bind (ha G F1 sd1 σ H1 _ s2) fun xs F2 H2 ds sd2 t1 t2 t3 t4 => ?_
    have rx : Rep X.K H2 x d := by
      cases k with
      | true => exact Rep.mono t2.fh (Rep.mono t1 s3)
      | false => exact Rep.mono (t4 (by simpa using hk)).1 s3
    cases e : f d ds with
    | none => exact True.intro
    | some c =>
      obtain ⟨v, h1, h2⟩ := hf H2 x xs d ds c rx (RSl.see t3 t2) e
      exact Meets.here t2 (show RSx X.K true G F2 sd2 H2 σ v c from Rep.sc h1) (h2 Q)
  · rw [if_neg tt]
    exact True.intro
theorem dx_bm {r : V → List V → Hp → VK → Prop} {t : D → Bool} {f : D → List D → Option D} {mo : SD → ER D} {ma : SD → ER (List D)} (pa : PlainAttrs T) (slot : Slot T name id) (hty : typeOf (.builtin id) = pure (.type "method_descriptor")) (hm : MtR X id r) (ht : TyD X.K T t) (hf : CallM X.K r f) (ho : DX X pv W p k o mo) (ha : DA X pv W q l (e :: es) ma) (hk : (k || q) = true := by rfl)
    (hbase : attributeBase o name X.env (eval o X.env) = eval o X.env := by rfl)
    (hfew : ((backTo cpos (starEach (e :: es) X.env)).all (fun x => !x.1) && (backToKw cpos (keywordEach [] X.env)).all (fun x => x.1.isSome) && decide ((e :: es).length + ([] : List Keyword).length + (if ([] : List Keyword).isEmpty then 0 else 1) < 30)) = true := by rfl)
    (hline : (apos.endLine == cpos.line) = true := by rfl) (hs : starEach (e :: es) X.env = (false, eval e X.env) :: starEach es X.env := by rfl) (hplain : (backTo cpos (starEach es X.env)).any (·.1) = false := by rfl) :
    DX X pv W (p && q) true (.Call (.Attribute o name apos) (e :: es) [] cpos) (mBm t f mo ma) := by
  obtain ⟨to, o1, o2⟩ := ho
  obtain ⟨ta, a1, a2⟩ := ha
  exact ⟨_, pe_bm pa slot hty hm o1 a1 hbase hfew hline hs hplain, tr_bm ht hf o2 a2 hk⟩
end
end DL
namespace DL
open PySem PySem.Spec L2
noncomputable def mAtS (i : Nat) (b : SD → ER D) : SD → ER D := fun sd => match sd.tree i with
  | some _ => (b sd).bind fun y sd1 => match y with
    | .int k => ER.opt (((sd1.tree i).bind OT.items).bind fun ds => atI ds k) sd1
    | _ => .bad
  | none => .bad
end DL
namespace DL
open PySem PySem.Spec L2
theorem atI_of {α : Type} {xs : List α} {k : Nat} {v : α} (h : xs[k]? = some v) : atI xs (k : Int) = some v := by
  have hk := (List.getElem?_eq_some_iff.mp h).1
  unfold atI ixN
  rw [if_pos (by omega), if_pos (by omega)]
  exact h
theorem log2_lt {n k : Nat} (h : n < 2 ^ k) : n.log2 < k + 1 := by
  by_cases e : n = 0
  · subst e; rw [Nat.log2_zero]; omega
  · have := (Nat.log2_lt e).mpr h; omega
end DL
namespace DL
open PySem PySem.Spec L2
noncomputable def ins {α : Type} (le : α → α → Bool) (a : α) : List α → List α
  | [] => [a]
  | b :: r => if le a b = true then a :: b :: r else b :: ins le a r
end DL
namespace DL
open PySem PySem.Spec L2
noncomputable def strsOf : List D → Option (List Str)
  | [] => some []
  | .str x :: r => (strsOf r).map (x :: ·)
  | _ => none
theorem reps_strs {K : PySem.W.Frag} {F : Hp} : ∀ {ds : List D} {vs : List V} {ys : List Str}, Reps K F vs ds → strsOf ds = some ys → vs = ys.map V.str ∧ ds = ys.map D.str
  | [], _, _, .nil, h => by cases h; exact ⟨rfl, rfl⟩
  | d :: ds, _, ys, .cons r t, h => by
    cases d with
    | str x =>
      obtain ⟨zs, e, h⟩ := Option.map_eq_some_iff.mp h
      subst h
      obtain ⟨h1, h2⟩ := reps_strs t e
      cases r
      rw [h1, h2]
      exact ⟨rfl, rfl⟩
    | _ => cases h
theorem Reps.strs {K : PySem.W.Frag} {F : Hp} : ∀ ys : List Str, Reps K F (ys.map V.str) (ys.map D.str)
  | [] => .nil
  | y :: r => .cons (.str y) (Reps.strs r)
noncomputable def seqOf : D → Option (List D)
  | .lst ds => some ds
  | .tup ds => some ds
  | .ktu ds => some ds
  | _ => none
/-- a list or a tuple that stands there -/
theorem seq_rep {K : PySem.W.Frag} {F : Hp} {v : V} {d : D} {ds : List D} (r : Rep K F v d) (h : seqOf d = some ds) : ∃ a vs, v = .ref a ∧ (SqL K F a vs ∨ SqT K F a vs) ∧ Reps K F vs ds := by
  cases r with
  | lst s t => cases h; exact ⟨_, _, rfl, .inl (.inl s), t⟩
  | tup s t => cases h; exact ⟨_, _, rfl, .inr (.inl (.inl s)), t⟩
  | ktu s t => cases h; exact ⟨_, _, rfl, .inr s, t⟩
  | _ => cases h
noncomputable def rJoin (K : PySem.W.Frag) : V → List V → Hp → VK → Prop := fun x xs H Q => ∃ a p, ∃ ys : List Str, x = .str a ∧ xs = [.ref p] ∧ (SqL K H p (ys.map V.str) ∨ SqT K H p (ys.map V.str)) ∧ (ys.map (·.length)).sum + ys.length * a.length ≤ 16777216 ∧ Q (.str (Txt.join a ys)) H
noncomputable def dJoin : D → List D → Option D
  | .str a, [d] => (seqOf d).bind fun ds => (strsOf ds).bind fun ys => if (ys.map (·.length)).sum + ys.length * a.length ≤ 16777216 then some (.str (Txt.join a ys)) else none
  | _, _ => none
theorem f_join {K : PySem.W.Frag} : CallM K (rJoin K) dJoin := by
  intro H x xs d ds c r rs h
  unfold dJoin at h
  split at h
  · rename_i a e
    obtain ⟨zs, e1, h⟩ := Option.bind_eq_some_iff.mp h
    obtain ⟨ys, e2, h⟩ := Option.bind_eq_some_iff.mp h
    split at h
    · rename_i hl
      cases h
      obtain ⟨v, rfl, r1⟩ := reps1 rs
      obtain ⟨p, vs, rfl, sq, rr⟩ := seq_rep r1 e1
      obtain ⟨h1, _⟩ := reps_strs rr e2
      subst h1
      cases r
      exact ⟨_, rfl, fun Q q => ⟨a, p, ys, rfl, rfl, sq, hl, q⟩⟩
    · cases h
  · cases h
noncomputable def CallML (K : PySem.W.Frag) (r : V → List V → Hp → VK → Prop) (f : D → List D → Option (List D)) : Prop := ∀ F H x xs d ds cs, Same F H → Rep K F x d → Reps K F xs ds → f d ds = some cs → ∀ Q : VK, (∀ p vs, H p = none → Reps K F vs cs → Q (.ref p) (upd H p (.lst vs))) → r x xs H Q
noncomputable def mBmL (t : D → Bool) (f : D → List D → Option (List D)) (a : SD → ER D) (b : SD → ER (List D)) : SD → ER OT := fun sd => (a sd).bind fun d sd1 => if t d = true then (b sd1).bind fun ds sd2 => ER.opt ((f d ds).map fun cs => .ol (cs.map .fz)) sd2 else .bad
noncomputable def dSplit : D → List D → Option (List D)
  | .str a, [.str b] => if (b.length == 0) = false ∧ a.length + 2 ≤ 16777216 then some ((Txt.split a b).map .str) else none
  | _, _ => none
noncomputable def rSplit : V → List V → Hp → VK → Prop := fun x xs H Q => ∃ a b, x = .str a ∧ xs = [.str b] ∧ (b.length == 0) = false ∧ a.length + 2 ≤ sizeLine ∧ rNewStrs (Txt.split a b) H Q
theorem f_split {K : PySem.W.Frag} : CallML K rSplit dSplit := by
  intro F H x xs d ds cs hF r rs h Q hQ
  unfold dSplit at h
  split at h
  · rename_i a b
    split at h
    · rename_i hl
      cases h
      obtain ⟨v, rfl, r1⟩ := reps1 rs
      cases r1
      cases r
      exact ⟨a, b, rfl, rfl, hl.1, by rw [sizeLine_eq]; exact hl.2, fun p hp => hQ p _ hp (Reps.strs _)⟩
    · cases h
  · cases h
noncomputable def dStr1 : List D → Option D
  | [.int i] => if i.natAbs.log2 < 1920 then some (.str (toString i)) else none
  | [.str a] => some (.str a)
  | _ => none
noncomputable def rStr1 : List V → Hp → VK → Prop := fun xs H Q => (∃ i, xs = [.int i] ∧ i.natAbs.log2 < 1920 ∧ Q (.str (toString i)) H) ∨ ∃ a, xs = [.str a] ∧ Q (.str a) H
theorem call_str1 {X : Cx} : CallR X (.type "str") rStr1 := call_str_int.or SkE.call_str_str
theorem f_str1 {K : PySem.W.Frag} : CallS K rStr1 dStr1 := by
  intro H xs ds c rs h
  unfold dStr1 at h
  split at h
  · split at h
    · rename_i i hl
      cases h
      obtain ⟨v, rfl, r1⟩ := reps1 rs
      cases r1
      exact ⟨_, rfl, fun Q q => .inl ⟨_, rfl, hl, q⟩⟩
    · cases h
  · cases h
    obtain ⟨v, rfl, r1⟩ := reps1 rs
    cases r1
    exact ⟨_, rfl, fun Q q => .inr ⟨_, rfl, q⟩⟩
  · cases h
noncomputable def dInt2 : List D → Option D
  | [.int i] => some (.int i)
  | [.bl b] => some (.int (if b then 1 else 0))
  | [.str a] => if a.length ≤ 640 then (PySem.intText? a).map .int else none
  | _ => none
noncomputable def rInt2 : List V → Hp → VK → Prop := fun xs H Q => rInt1 xs H Q ∨ ∃ a n, xs = [.str a] ∧ PySem.intText? a = some n ∧ a.length ≤ 640 ∧ Q (.int n) H
theorem call_int2 {X : Cx} : CallR X (.type "int") rInt2 := call_int1X.or call_int_str
theorem f_int2 {K : PySem.W.Frag} : CallS K rInt2 dInt2 := by
  intro H xs ds c rs h
  unfold dInt2 at h
  split at h
  · cases h
    obtain ⟨v, rfl, r1⟩ := reps1 rs
    cases r1
    exact ⟨_, rfl, fun Q q => .inl (.inl ⟨_, rfl, q⟩)⟩
  · cases h
    obtain ⟨v, rfl, r1⟩ := reps1 rs
    cases r1
    exact ⟨_, rfl, fun Q q => .inl (.inr ⟨_, rfl, q⟩)⟩
  · split at h
    · rename_i a hl
      obtain ⟨n, e, h⟩ := Option.map_eq_some_iff.mp h
      subst h
      obtain ⟨v, rfl, r1⟩ := reps1 rs
      cases r1
      exact ⟨_, rfl, fun Q q => .inr ⟨a, n, rfl, e, hl, q⟩⟩
    · cases h
  · cases h
noncomputable def D.fl : D → Option V
  | .non => some .non
  | .bl b => some (.bl b)
  | .int i => some (.int i)
  | .str x => some (.str x)
  | _ => none
noncomputable def flsOf : List D → Option (List V)
  | [] => some []
  | d :: r => d.fl.bind fun v => (flsOf r).map (v :: ·)
theorem fl_rep {K : PySem.W.Frag} {F : Hp} {v w : V} {d : D} (r : Rep K F v d) (h : d.fl = some w) : v = w ∧ flatV v = true := by
  cases r <;> simp only [D.fl, Option.some.injEq, reduceCtorEq] at h <;> subst h <;> exact ⟨rfl, rfl⟩
theorem fls_rep {K : PySem.W.Frag} {F : Hp} : ∀ {ds : List D} {vs ws : List V}, Reps K F vs ds → flsOf ds = some ws → vs = ws ∧ vs.all flatV = true
  | [], _, _, .nil, h => by cases h; exact ⟨rfl, rfl⟩
  | d :: ds, _, ws, .cons r t, h => by
    obtain ⟨w, e1, h⟩ := Option.bind_eq_some_iff.mp h
    obtain ⟨us, e2, h⟩ := Option.map_eq_some_iff.mp h
    subst h
    obtain ⟨h1, h2⟩ := fl_rep r e1
    obtain ⟨k1, k2⟩ := fls_rep t e2
    subst h1 k1
    refine ⟨rfl, ?_⟩
    rw [List.all_cons, h2, k2]; rfl
/-- a text in another one; of one sign: by the signs -/
noncomputable def inS (x z : Str) : Bool := match x with
  | ⟨⟨[c]⟩⟩ => decide (c ∈ z.cps.toList)
  | x => !(Builtin.Str.occurrences z x 0 z.length 1).isEmpty
noncomputable def dIn (neg : Bool) : D → D → Option D
  | .str i, .str j => some (.bl (inS i j != neg))
  | x, d => x.fl.bind fun v => (seqOf d).bind fun ds => (flsOf ds).map fun vs => .bl (inV v vs != neg)
noncomputable def rIn2S (K : PySem.W.Frag) : R2 := fun x y H Q => (∃ (c : Nat) (z : Str), x = .str ⟨#[c]⟩ ∧ y = .str z ∧ Q (.bl (decide (c ∈ z.cps.toList))) H) ∨ ((∃ i j, x = .str i ∧ y = .str j ∧ Q (.bl (!(Builtin.Str.occurrences j i 0 j.length 1).isEmpty)) H) ∨ rIn K false x y H Q)
theorem op_in2 {X : Cx} : OpR X (compareOp .In) (rIn2S X.K) := op_in_sign.or (op_in_str.or op_in_seq)
theorem in_go {K : PySem.W.Frag} {H : Hp} {x y : V} {a b c : D} {neg : Bool} (ra : Rep K H x a) (rb : Rep K H y b) (h : dIn neg a b = some c) : (∃ i j, x = .str i ∧ y = .str j ∧ c = .bl (inS i j != neg)) ∨ ∃ p xs, y = .ref p ∧ (SqL K H p xs ∨ SqT K H p xs) ∧ flatV x = true ∧ xs.all flatV = true ∧ c = .bl (inV x xs != neg) := by
  have gen : (a.fl.bind fun v => (seqOf b).bind fun ds => (flsOf ds).map fun vs => D.bl (inV v vs != neg)) = some c → ∃ p xs, y = .ref p ∧ (SqL K H p xs ∨ SqT K H p xs) ∧ flatV x = true ∧ xs.all flatV = true ∧ c = .bl (inV x xs != neg) := fun h => by
    obtain ⟨v, e1, h⟩ := Option.bind_eq_some_iff.mp h
    obtain ⟨ds, e2, h⟩ := Option.bind_eq_some_iff.mp h
    obtain ⟨vs, e3, h⟩ := Option.map_eq_some_iff.mp h
    obtain ⟨h1, h2⟩ := fl_rep ra e1
    obtain ⟨p, ws, rfl, sq, rr⟩ := seq_rep rb e2
    obtain ⟨k1, k2⟩ := fls_rep rr e3
    subst h1 k1
    exact ⟨p, ws, rfl, sq, h2, k2, h.symm⟩
  unfold dIn at h
  split at h
  · cases h
    cases ra
    cases rb
    exact .inl ⟨_, _, rfl, rfl, rfl⟩
  · exact .inr (gen h)
theorem inS_cases (x z : Str) : (∃ c, x = ⟨#[c]⟩ ∧ inS x z = decide (c ∈ z.cps.toList)) ∨ inS x z = !(Builtin.Str.occurrences z x 0 z.length 1).isEmpty := by
  unfold inS
  split
  · exact .inl ⟨_, rfl, rfl⟩
  · exact .inr rfl
theorem f_in2 {K : PySem.W.Frag} : Op2S K (rIn2S K) (dIn false) := by
  intro H x y a b c ra rb h
  rcases in_go ra rb h with ⟨i, j, rfl, rfl, rfl⟩ | ⟨p, xs, rfl, sq, f1, f2, rfl⟩
  · refine ⟨_, rfl, fun Q q => ?_⟩
    rw [Bool.bne_false] at q
    rcases inS_cases i j with ⟨k, rfl, e⟩ | e
    · rw [e] at q; exact .inl ⟨k, j, rfl, rfl, q⟩
    · rw [e] at q; exact .inr (.inl ⟨i, j, rfl, rfl, q⟩)
  · refine ⟨_, rfl, fun Q q => .inr (.inr ⟨p, xs, rfl, sq, f1, f2, ?_⟩)⟩
    rw [Bool.bne_false] at q
    exact q
noncomputable def CallT (K : PySem.W.Frag) (r : List V → Hp → VK → Prop) (f : List D → Option (List D)) : Prop := ∀ F H xs ds cs, Same F H → Reps K F xs ds → f ds = some cs → ∀ Q : VK, (∀ p vs, H p = none → Reps K F vs cs → Q (.ref p) (upd H p (.tup vs))) → r xs H Q
noncomputable def mCallT (f : List D → Option (List D)) (a : SD → ER (List D)) : SD → ER D := fun sd => (a sd).bind fun xs sd1 => ER.opt ((f xs).map .tup) sd1
noncomputable def dTupOf : List D → Option (List D)
  | [.lst ds] => some ds
  | _ => none
noncomputable def rTupOf (K : PySem.W.Frag) : List V → Hp → VK → Prop := fun xs H Q => ∃ p ys, xs = [.ref p] ∧ ((SqL K H p ys ∧ ∀ l, H l = none → Q (.ref l) (upd H l (.tup ys))) ∨ (SqT K H p ys ∧ Q (.ref p) H))
theorem f_tupOf {K : PySem.W.Frag} : CallT K (rTupOf K) dTupOf := by
  intro F H xs ds cs hF rs h Q hQ
  unfold dTupOf at h
  split at h
  · cases h
    obtain ⟨v, rfl, r1⟩ := reps1 rs
    cases r1 with
    | lst s t => exact ⟨_, _, rfl, .inl ⟨.inl (Same.rd hF s), fun l hl => hQ l _ hl t⟩⟩
  · cases h
section
variable {X : Cx} {pv : List V} {W : WX} {p q k l : Bool} {tg o e a b : Expr} {es : List Expr} {apos cpos pos pp : Pos} {name : Str} {T id : String}
theorem tr_callT {r : List V → Hp → VK → Prop} {f : List D → Option (List D)} {ta : TA} {m : SD → ER (List D)} (hf : CallT X.K r f) (h : TrA X.K pv W p true ta m) : TrX X.K pv W p true (tCB r ta) (mCallT f m) := by
  intro G F sd σ H Q s
  refine Meets.bindL (h G F sd σ H _ s) fun xs F1 H1 ds sd1 s1 s2 s3 s4 => ?_
  cases e : f ds with
  | none => exact True.intro
  | some cs =>
    intro hQ
    refine hf F1 H1 xs ds cs s2.fh s3 e Q fun p vs hp hr => ?_
    exact hQ _ _ _ (s2.sameNew hp) (s2.new hp) (.tup upd_same (hr.mono (s2.sameNew hp))) fun _ => ⟨Same.upd hp, rfl⟩
theorem dx_callTyT {x : Str} {T : String} {pp : Pos} {r : List V → Hp → VK → Prop} {f : List D → Option (List D)} {m : SD → ER (List D)} (hc : CallR X (.type T) r) (hf : CallT X.K r f) (hg : Gl X x) (hm : X.mg x = none) (hv : bootBuiltins x = some (.type T)) (ha : DA X pv W p true (e :: es) m)
    (hn : x ≠ "__name__" := by decide) (hdb : (x == ("__debug__" : Str)) = false := by decide) (he : starEach (e :: es) X.env = (false, eval e X.env) :: starEach es X.env := by rfl) (hpl : (backTo pos (starEach es X.env)).any (·.1) = false := by rfl) :
    DX X pv W p true (.Call (.Name x pp) (e :: es) [] pos) (mCallT f m) := by
  obtain ⟨ta, a1, a2⟩ := ha
  exact ⟨_, pe_callTy hc hg hm hv a1 hn hdb he hpl, tr_callT hf a2⟩
theorem tr_bmL {r : V → List V → Hp → VK → Prop} {t : D → Bool} {f : D → List D → Option (List D)} {to : TE} {ta : TA} {mo : SD → ER D} {ma : SD → ER (List D)} (ht : TyD X.K T t) (hf : CallML X.K r f) (ho : TrX X.K pv W p true to mo) (ha : TrA X.K pv W q true ta ma) :
    TrO X.K pv W (p && q) (tBM X.K T r to ta) (mBmL t f mo ma) := by
  intro G F sd σ H Q s
  refine Meets.bind (ho G F sd σ H _ s) fun x F1 H1 d sd1 s1 s2 s3 s4 => ?_
  have hq : q = (q && true) := by cases q <;> rfl
  rw [hq]
  by_cases tt : t d = true
  · rw [if_pos tt]
    have ty := ht H1 x d (RSx.see s3 s2) tt
    refine Meets.to ?_ fun z => ⟨ty, z⟩
    refine Meets.bind (ha G F1 sd1 σ H1 _ s2) fun xs F2 H2 ds sd2 t1 t2 t3 t4 => ?_
    cases e : f d ds with
    | none => exact True.intro
    | some cs =>
      intro hQ
      refine hf F2 H2 x xs d ds cs t2.fh (Rep.mono t1 s3) t3 e Q fun p vs hp hr => ?_
      have z := t2.newL hp hr
      exact hQ _ _ _ (Same.refl _) z.drop z fun _ => ⟨Same.upd hp, rfl⟩
  · rw [if_neg tt]
    exact True.intro
theorem do_split {mo : SD → ER D} {ma : SD → ER (List D)} (ho : DX X pv W p true o mo) (ha : DA X pv W q true [e] ma) (hbase : attributeBase o "split" X.env (eval o X.env) = eval o X.env := by rfl)
    (hfew : ((backTo cpos (starEach [e] X.env)).all (fun x => !x.1) && (backToKw cpos (keywordEach [] X.env)).all (fun x => x.1.isSome) && decide ([e].length + ([] : List Keyword).length + (if ([] : List Keyword).isEmpty then 0 else 1) < 30)) = true := by rfl)
    (hline : (apos.endLine == cpos.line) = true := by rfl) (hs : starEach [e] X.env = (false, eval e X.env) :: starEach [] X.env := by rfl) (hplain : (backTo cpos (starEach [] X.env)).any (·.1) = false := by rfl) :
    DO X pv W (p && q) (.Call (.Attribute o "split" apos) [e] [] cpos) (mBmL D.isS dSplit mo ma) := by
  obtain ⟨to, o1, o2⟩ := ho
  obtain ⟨ta, a1, a2⟩ := ha
  exact ⟨_, pe_bm PySem.F.plainAttrs_str PySem.F.slot_str_split PySem.F.type_str_split mt_split o1 a1 hbase hfew hline hs hplain, tr_bmL ty_str f_split o2 a2⟩
theorem dx_join {mo : SD → ER D} {ma : SD → ER (List D)} (ho : DX X pv W p k o mo) (ha : DA X pv W q l [e] ma) (hk : (k || q) = true := by rfl) (hbase : attributeBase o "join" X.env (eval o X.env) = eval o X.env := by rfl)
    (hfew : ((backTo cpos (starEach [e] X.env)).all (fun x => !x.1) && (backToKw cpos (keywordEach [] X.env)).all (fun x => x.1.isSome) && decide ([e].length + ([] : List Keyword).length + (if ([] : List Keyword).isEmpty then 0 else 1) < 30)) = true := by rfl)
    (hline : (apos.endLine == cpos.line) = true := by rfl) (hs : starEach [e] X.env = (false, eval e X.env) :: starEach [] X.env := by rfl) (hplain : (backTo cpos (starEach [] X.env)).any (·.1) = false := by rfl) :
    DX X pv W (p && q) true (.Call (.Attribute o "join" apos) [e] [] cpos) (mBm D.isS dJoin mo ma) :=
  dx_bm PySem.F.plainAttrs_str PySem.F.slot_str_join PySem.F.type_str_join mt_join ty_str f_join ho ha hk hbase hfew hline hs hplain
noncomputable def iStrD (a : SD → ER D) : SD → ER (List D) := fun sd => (a sd).bind fun x sd1 => match x with
  | .str x => .ok (x.cps.toList.map fun c => .str ⟨#[c]⟩) sd1
  | _ => .bad
theorem walk_str {K : PySem.W.Frag} {F : Hp} {x : Str} : Walk K (Its x) F (x.cps.toList.map fun c => .str ⟨#[c]⟩) where
  stop := fun F' H' e1 e2 => by
    show x.cps.size ≤ _
    rw [List.length_map, Array.length_toList]
    exact Nat.le_refl _
  go := fun F' H' i d e1 e2 hd => by
    rw [List.getElem?_map] at hd
    obtain ⟨c, h1, _⟩ := Option.map_eq_some_iff.mp hd
    have := (List.getElem?_eq_some_iff.mp h1).1
    rwa [Array.length_toList] at this
  yld := fun F' H' i d z H'' e1 e2 hd ⟨hH, c, hc, hz⟩ => by
    rw [List.getElem?_map, Array.getElem?_toList, hc] at hd
    cases hd
    subst hz
    exact .inl ⟨hH, .str _⟩
theorem di_str {m : SD → ER D} (h : DX X pv W p true e m) : DI X pv W p tg e (iStrD m) := by
  obtain ⟨te, a1, a2⟩ := h
  refine ⟨_, pi_str a1, fun G F sd σ H R s => ?_⟩
  refine Meets.bindL (a2 G F sd σ H _ s) fun x F1 H1 dx sd1 s1 s2 s3 s4 => ?_
  have s3 : Rep X.K F1 x dx := s3
  cases dx with
  | str z =>
    cases s3
    exact Meets.here s2 (show RSw X.K G F1 sd1 H1 σ (Its z) _ from walk_str) fun q => ⟨z, rfl, q⟩
  | _ => exact True.intro
end
theorem fn_bad {P : Program} {w : World} {K : PySem.W.Frag} {mg : Str → Option Value} {base : Heap} {k n : Nat} {f : Addr} {fd : FuncData} {ps : List Str} : FnG P w K mg base (L2.CX P w) k f fd ps (spD K n fun _ => .bad) where
  len := fun vs H Q E h => by
    obtain ⟨_, _, _, _, _, _, h⟩ := h
    exact h.elim
  run := fun A out s H args us vs Q E x e0 bd rel h => by
    obtain ⟨_, _, _, _, _, _, h⟩ := h
    exact h.elim
end DL
namespace DL
open PySem PySem.Spec L2
end DL
namespace DL
open PySem PySem.Spec L2
theorem fldO_rep {K : PySem.W.Frag} {F H : Hp} {f : Str} {d : D} : ∀ {fs : List (Str × V)} {ts : List OT} {P : Addr → Prop}, RepOs K F H ts (fs.map (·.2)) P → fldD f (fs.map (·.1)) ts = some (.fz d) → ∃ v, fs.lookup f = some v ∧ Rep K F v d
  | [], ts, P, _, h => by cases ts <;> cases h
  | (n, v) :: fs, [], P, r, _ => by
    unfold RepOs at r
    cases r
  | (n, v) :: fs, t :: ts, P, r, h => by
    unfold RepOs at r
    obtain ⟨v', ws, P1, P2, e, _, _, r1, r2⟩ := r
    rw [List.map_cons] at e
    injection e with e1 e2
    subst e1 e2
    rw [List.map_cons, fldD] at h
    rw [lookup_head]
    by_cases q : n = f
    · rw [if_pos q] at h ⊢
      cases h
      unfold RepO at r1
      exact ⟨_, rfl, r1⟩
    · rw [if_neg q] at h ⊢
      exact fldO_rep r2 h
noncomputable def mFldO (ok : Addr → Bool) (i : Nat) (f : Str) : SD → ER D := fun sd => match sd.tree i with
  | some (.oi C ns ts) => if ok C = true then (match fldD f ns ts with
    | some (.fz d) => .ok d sd
    | _ => .bad) else .bad
  | _ => .bad
section
variable {X : Cx} {pv : List V} {W : WX}
theorem dx_fldO {ok : Addr → Bool} {f x : Str} {i : Nat} {pp pos : Pos} (hx : PE X (.Name x pp) (tVar i)) (hf : ∀ C, ok C = true → Cls X.K C ∧ NoAttr X.K C f) (hb : attributeBase (.Name x pp) f X.env (eval (.Name x pp) X.env) = eval (.Name x pp) X.env := by rfl) : DX X pv W true true (.Attribute (.Name x pp) f pos) (mFldO ok i f) := by
  refine ⟨_, pe_fld hx hb, fun G F sd σ H Q s => ?_⟩
  unfold mFldO
  split
  · rename_i C ns ts e0
    split
    · rename_i hok
      obtain ⟨c1, c2⟩ := hf C hok
      split
      · rename_i d e1
        obtain ⟨v, P, h1, h2⟩ := s.tree e0
        unfold RepO at h2
        obtain ⟨a, dx, fvs, rfl, _, ha, rfl, r⟩ := h2
        obtain ⟨u, k1, k2⟩ := fldO_rep r e1
        exact Meets.here s (show RSx X.K true G F sd H σ u d from k2) fun q => ⟨.ref a, h1, a, C, dx, fvs, u, rfl, ha, c1, c2, k1, q⟩
      · exact True.intro
    · exact True.intro
  · exact True.intro
end
end DL
namespace DL
open PySem PySem.Spec L2
end DL
namespace DL
open PySem PySem.Spec L2 PyProof.Rows
section
variable {X : Cx} {pins : List (Addr × Obj)} {σ : L2.St} {H : Hp} {s : Shared}
theorem inv_track {a : Addr} {o : HO} (I : Inv X pins σ H s) (hn : H a = none) (n0 : X.s_0.heap.get? a = none) (nL : a ≠ X.env.locals) (nC : ∀ x c, X.env.cells.lookup x = some c → c ≠ a)
    (nP : ∀ p ∈ X.pn ++ pins, p.1 ≠ a) (new : ObjOk X.prog X.w (upd H a o) s.heap a o) : Inv X pins σ (upd H a o) s := by
  have n1 : ∀ b ob, X.s_0.heap.get? b = some ob → b ≠ a := fun b ob e z => by rw [z, n0] at e; cases e
  refine ⟨I.ok, I.os, I.bare, ⟨I.base.keep, I.base.slot, fun b ob e n hx => ?_, I.base.there, fun b xs q => ?_, fun b ob y q => ?_, fun b qs q => ?_⟩, I.loc, I.cell, ?_, fun x c e => ?_, fun p hp => ?_, fun b u e => ?_, I.len⟩
  · rw [upd_ne (n1 b ob e)]; exact I.base.free b ob e n hx
  · have q2 := I.base.tups b xs q
    rw [upd_ne (ne_of_none q2 hn)]; exact q2
  · have q2 := I.base.frzs b ob y q
    rw [upd_ne (ne_of_none q2 hn)]; exact q2
  · obtain ⟨more, q2⟩ := I.base.tbls b qs q
    exact ⟨more, by rw [upd_ne (ne_of_none q2 hn)]; exact q2⟩
  · rw [upd_ne (Ne.symm nL)]; exact I.free
  · rw [upd_ne (nC x c e)]; exact I.freeC x c e
  · obtain ⟨h1, h2, h3⟩ := I.pin p hp
    exact ⟨h1, by rw [upd_ne (nP p hp)]; exact h2, h3⟩
  · by_cases hb : b = a
    · subst hb
      rw [upd_same] at e
      cases e
      exact new
    · rw [upd_ne hb] at e
      exact (I.hok b u e).stay (fun c v _ q => q) (fun c q => by rw [upd_ne (ne_of_none q hn)]; exact q) fun c xs q => by rw [upd_ne (ne_of_none q hn)]; exact q
theorem exT_ok {P : Program} {w : World} {H : Hp} {h : Heap} {a : Addr} {cls : Value} {d : Option Addr} {oe : Obj} {vs : Array Value} (e : h.get? a = some oe) (z : Zc cls d oe) (hd : oe.data = .fields vs) : ObjOk P w H h a (ExT cls d a) :=
  ⟨⟨oe, e, z, vs, hd⟩, ⟨oe, e⟩, fun _ _ ⟨o, q, r⟩ k => ⟨o, k o q, r⟩⟩
/-- into an except suite, and out of it -/
theorem inv_suite {a : Addr} (I : Inv X pins σ H s) : Inv (X.suite a (X.pn ++ pins)) [] σ H s :=
  ⟨I.ok.suite _ _, I.os, I.bare, I.base, I.loc, I.cell, I.free, I.freeC, fun p hp => I.pin p (by rw [List.append_nil] at hp; exact hp), I.hok, I.len⟩
theorem inv_unsuite {a : Addr} {pn' : List (Addr × Obj)} (I : Inv (X.suite a (X.pn ++ pins)) pn' σ H s) (ok : X.Ok) : Inv X pins σ H s :=
  ⟨ok, I.os, I.bare, I.base, I.loc, I.cell, I.free, I.freeC, fun p hp => I.pin p (List.mem_append_left _ hp), I.hok, I.len⟩
end
/-- the ends of a suite: the clause's name goes -/
noncomputable def sEnd (D : Ends) (i : Nat) : Ends := { nx := fun σ' H' => D.nx (σ'.set i none) H', rt := D.rt, bk := fun σ' H' => D.bk (σ'.set i none) H', ct := fun σ' H' => D.ct (σ'.set i none) H' }
/-- what an exception of the body must be: of the class that the clause names, and good for the suite -/
noncomputable def wKeep (X : Cx) (c : Value) (i : Nat) (suite : List Stmt) (D : Ends) : WX := fun cls d σ H =>
  PySem.W.exmOne X.K cls c = some true ∧ ∀ a pn, H a = none → ∃ ts, PSs (X.suite a pn) suite ts ∧ ts (sEnd D i) (σ.set i (some (.ref a))) (upd H a (ExT cls d a))
/-- an exception of the body, in the hands of the frame: sI, the state without it, is one of ours -/
structure Caught (X : Cx) (pins : List (Addr × Obj)) (B : Heap) (a : Addr) (cls : Value) (d : Option Addr) (σ : L2.St) (H : Hp) (z : Shared) : Prop where
  fly : HandSPX.FlyingZ B (X.env :: X.outer) a (Zc cls d) z.heap
  was : ∃ y : Shared, Inv X pins σ H y ∧ (∀ b o, y.heap.get? b = some o → b ∉ frs X.stack → B.get? b = some o) ∧ y.heap.UpToSlots z.heap ∧ z.os = y.os
  bare : AllBare z.gens
  new : H a = none
section
variable {X : Cx} {pins : List (Addr × Obj)} {B : Heap} {a : Addr} {cls : Value} {d : Option Addr} {σ : L2.St} {H : Hp} {z : Shared}
theorem Caught.move {h : Heap} (c : Caught X pins B a cls d σ H z) (f : HandSPX.FlyingZ B (X.env :: X.outer) a (Zc cls d) h) (u : z.heap.UpToSlots h) : Caught X pins B a cls d σ H { z with heap := h } :=
  let ⟨y, i, n, v, o⟩ := c.was
  ⟨f, ⟨y, i, n, v.trans u, o⟩, c.bare, c.new⟩
theorem Caught.inv (c : Caught X pins B a cls d σ H z) : Inv X pins σ H z :=
  let ⟨_, i, n, v, o⟩ := c.was
  i.landed n c.fly.1 v o c.bare
/-- no frame is an exception -/
theorem Caught.noframe (c : Caught X pins B a cls d σ H z) : a ∉ frs (X.env :: X.outer) := fun m => by
  obtain ⟨oe, vs, e1, _, e2⟩ := c.fly.there
  obtain ⟨_, o2, e3, n⟩ := c.fly.2.2.1.mem m
  exact n vs (by rw [e1] at e3; cases e3; exact e2)
/-- and from here on it is tracked -/
theorem Caught.kept (hs : X.stack = X.env :: X.outer) (hf : X.env.frame = some X.env.locals) (hex : X.ex = []) (c : Caught X pins B a cls d σ H z) : Inv X pins σ (upd H a (ExT cls d a)) z := by
  obtain ⟨y, i, n, v, o⟩ := c.was
  have nf := c.noframe
  have ny : y.heap.get? a = none := by
    cases e : y.heap.get? a with
    | none => rfl
    | some u => exact nomatch c.fly.2.1.symm.trans (n a u e (by rw [hs]; exact nf))
  have n0 : X.s_0.heap.get? a = none := by
    cases e : X.s_0.heap.get? a with
    | none => rfl
    | some u =>
      obtain ⟨w, ew⟩ := i.base.there a u e (by rw [hex]; exact fun q => nomatch q)
      exact nomatch ny.symm.trans ew
  obtain ⟨oe, vs, e1, e2, e3⟩ := c.fly.there
  refine inv_track c.inv c.new n0 (fun q => nf (List.mem_filterMap.mpr ⟨X.env, List.mem_cons_self, hf.trans (congrArg some q.symm)⟩)) (fun x k e q => ?_) (fun p m q => ?_) (exT_ok e1 e2 e3)
  · obtain ⟨_, u, eu, _⟩ := i.cell x k e
    rw [q] at eu
    exact nomatch ny.symm.trans eu
  · have eu := (i.pin p m).1
    rw [q] at eu
    exact nomatch ny.symm.trans eu
end
section
variable {X : Cx} {x n : Str} {c : Value} {i : Nat} {body suite : List Stmt} {b₀ : Stmt} {np pos pos' : Pos}
/-- the clause takes it -/
theorem Caught.handle {pins : List (Addr × Obj)} {B : Heap} {a : Addr} {cls : Value} {d : Option Addr} {σ : L2.St} {H : Hp} {z : Shared} {D : Ends} (hs : X.stack = X.env :: X.outer) (hf : X.env.frame = some X.env.locals) (hex : X.ex = [])
    (hN : X.N.Nodup) (hi : X.N[i]? = some n) (hln : X.env.kindOf n = some .local) (hc : Names X x c) (k : Caught X pins B a cls d σ H z) (w : wKeep X c i (b₀ :: suite) D cls d σ H) :
    wpAny (model X.prog X.w) X.A (handleBy (.ref a) X.env [.ExceptHandler (some (.Name x np)) (some n) (b₀ :: suite) pos']) (SP X pins D) X.xe z := by
  have ok := k.inv.ok
  obtain ⟨w1, w2⟩ := w
  obtain ⟨oe, vs, e1, e2, e3⟩ := k.fly.there
  have T : Inv (X.suite a (X.pn ++ pins)) [] σ H z := inv_suite k.inv
  have cl : PySem.W.Looks (model X.prog X.w) z.heap (typeOf (.ref a)) cls := fun _ _ _ _ keep q => wpAny_typeOf_ref (keep _ _ e1) (e2.1 ▸ q)
  have yes := PySem.W.exm_one (M := model X.prog X.w) k.inv.kIn cl w1
  refine wpAny_handleBy_cons (codeAny_handlers_test ?_) (fun q => nomatch q)
  have found : ∀ {R : Value → Shared → Prop} {E : Value → Shared → Prop}, R c z → wpAny (model X.prog X.w) (X.suite a (X.pn ++ pins)).A (eval (.Name x np) X.env) R E z := fun {R E} r => by
    rcases hc.2.2 with m | ⟨m, v, nn⟩
    · exact ld_glob (X := X.suite a (X.pn ++ pins)) T hc.1 m r hc.2.1
    · exact ld_blt (X := X.suite a (X.pn ++ pins)) T hc.1 m v r nn hc.2.1
  refine found (yes.here (codeAny_handlers_suite_as (HandSPX.lands_againZ k.fly fun h f u => ?_)))
  have k2 := k.move f u
  obtain ⟨ts, p, q⟩ := w2 a (X.pn ++ pins) k.new
  have gone : ∀ {σ6 : L2.St} {H6 : Hp} {y : Shared} {R : Shared → Prop}, Inv (X.suite a (X.pn ++ pins)) [] σ6 H6 y → (∀ y', Inv X pins (σ6.set i none) H6 y' → R y') →
      wpAny (model X.prog X.w) X.A (do bindName X.env n .none; unbindBehindTheSuite X.env n pos') (fun _ y' => R y') X.xe y := fun J r => gone_ok (inv_unsuite J ok) hN hi hln r
  refine store_ok (X := X.suite a (X.pn ++ pins)) (v := .ref a) (inv_suite (k2.kept hs hf hex)) hN hi (.inl hln) rfl (fun y J => ?_) (.inr hln)
  refine wpAny_mono (p.run [] y _ _ _ J q) (fun fl y2 g => ?_) fun _ _ g => g.elim
  rcases fl with _ | _ | _ | u
  all_goals first
    | (obtain ⟨σ6, H6, J6, g⟩ := g
       exact gone J6 fun y3 J7 => ⟨_, _, J7, g⟩)
    | (obtain ⟨v6, σ6, H6, J6, r6, g⟩ := g
       exact gone J6 fun y3 J7 => ⟨_, _, _, J7, r6, g⟩)
/-- try .. except X as n: the exception stays a value behind the suite. What the body lets out is caught -/
theorem ps_try_keep (hs : X.stack = X.env :: X.outer) (hf : X.env.frame = some X.env.locals) (hex : X.ex = []) (hN : X.N.Nodup) (hi : X.N[i]? = some n) (hln : X.env.kindOf n = some .local) (hc : Names X x c) :
    PS X (.Try body [.ExceptHandler (some (.Name x np)) (some n) (b₀ :: suite) pos'] [] [] pos) (fun D σ H => ∀ pn xe, Takes (X.tr pn xe) (wKeep X c i (b₀ :: suite) D) → PassesOwn (model X.prog X.w) X.A X.env xe → ∃ ts, PSs (X.tr pn xe) body ts ∧ ts D σ H) := by
  refine ⟨fun pins s σ H D I h => wpAny_Try_except ?_⟩
  have hfr : X.A.frames = some (X.env :: X.outer) := I.ok.frames.trans (congrArg some hs)
  obtain ⟨tb, hb, h⟩ := h (X.pn ++ pins) (fun e y => wpAny (model X.prog X.w) X.A (noteFrame e X.env) (fun _ y2 => wpAny (model X.prog X.w) X.A (setFlight e none) (fun _ y3 => wpAny (model X.prog X.w) X.A (handleBy e X.env [.ExceptHandler (some (.Name x np)) (some n) (b₀ :: suite) pos']) (SP X pins D) X.xe y3) X.xe y2) X.xe y) (fun u z q => by
    obtain ⟨a, B, y, _, σ2, H2, cls, d, rfl, J, n1, up, sky, na, os, ag, w⟩ := q
    have sky : Sky B (X.env :: X.outer) a (Zc cls d) X.env.locals z.heap := hs ▸ sky
    exact Sky.land Zc.steady hfr hf sky fun hh f u => Caught.handle (z := { z with heap := hh }) hs hf hex hN hi hln hc ⟨f, ⟨y, J.ofTry I.ok, n1, up.trans u, os⟩, ag, na⟩ w) PassesOwn.looking
  refine wpAny_mono (hb.run [] s σ H D (I.toTry _) h) (fun fl y g => ?_) fun _ _ g => g
  rcases fl with _ | _ | _ | u
  · obtain ⟨σ2, H2, J, g⟩ := g
    exact wpAny_execs_nil ⟨σ2, H2, J.ofTry I.ok, g⟩
  all_goals first
    | (obtain ⟨σ2, H2, J, g⟩ := g
       exact ⟨σ2, H2, J.ofTry I.ok, g⟩)
    | (obtain ⟨v, σ2, H2, J, r, g⟩ := g
       exact ⟨v, σ2, H2, J.ofTry I.ok, r, g⟩)
end
noncomputable def Exn.okB (x : Exn) : Bool := match x.fs with
  | some [] => false
  | _ => true
noncomputable def Exn.toD (x : Exn) : D := .exc x.C ((x.fs.getD []).map (·.1)) ((x.fs.getD []).map (·.2))
noncomputable def SD.unset (sd : SD) (i : Nat) : SD := { sd with sl := sd.sl.set i .un }
noncomputable def Fl.unset (i : Nat) (r : Fl) : Fl := match r with
  | .nx sd => .nx (sd.unset i)
  | .bk sd => .bk (sd.unset i)
  | .ct sd => .ct (sd.unset i)
  | .rt t sd => .rt t sd
  | _ => .bad
noncomputable def sTry (test : Addr → Bool) (i : Nat) (body suite : SD → Fl) : SD → Fl := fun sd => match body sd with
  | .rz x sd1 => if test x.C = true ∧ i < sd1.sl.length ∧ x.okB = true then (suite { sd1 with sl := sd1.sl.set i (.ow (.fz x.toD)) }).unset i else .bad
  | r => r
theorem StR.unset {K : PySem.W.Frag} {pv : List V} {G F H : Hp} {sd : SD} {σ : L2.St} (s : StR K pv G F sd σ H) (i : Nat) : StR K pv G F (sd.unset i) (σ.set i none) H := by
  obtain ⟨o, W⟩ := s
  have ne : ∀ (j : Nat) (z : S), (sd.sl.set i .un)[j]? = some z → z ≠ .un → i ≠ j ∧ sd.sl[j]? = some z := fun j z e hz => by
    by_cases h : i = j
    · subst h
      by_cases hl : i < sd.sl.length
      · rw [List.getElem?_set_self hl] at e; cases e; exact absurd rfl hz
      · rw [List.getElem?_eq_none (by simpa using hl)] at e; cases e
    · rw [List.getElem?_set_ne h] at e; exact ⟨h, e⟩
  refine ⟨o, W.fh, W.gh, W.fg, W.oh, W.oo, ?_, fun j t e => ?_, fun j l e => ?_, W.pr⟩
  · show (σ.set i none).length = (sd.sl.set i .un).length
    rw [List.length_set, List.length_set]; exact W.len
  · obtain ⟨h, e⟩ := ne j _ e (fun z => by cases z)
    obtain ⟨v, h1, h2⟩ := W.sl j t e
    exact ⟨v, by rw [List.getElem?_set_ne h]; exact h1, h2⟩
  · obtain ⟨h, e⟩ := ne j _ e (fun z => by cases z)
    obtain ⟨v, h1, h2⟩ := W.sp j l e
    exact ⟨v, h1, by rw [List.getElem?_set_ne h]; exact h2⟩
theorem RepX.value {K : PySem.W.Frag} {F F' : Hp} {cls : Value} {d : Option Addr} {x : Exn} {a : Addr} (r : RepX K F cls d x) (ok : x.okB = true) (e : Same F F') (h : F' a = some (ExT cls d a)) : Rep K F' (.ref a) x.toD := by
  obtain ⟨C, fs⟩ := x
  obtain ⟨h1, h2⟩ := r
  subst h1
  cases fs with
  | none =>
    have h2 : d = none := h2
    subst h2
    exact .exc (fvs := []) h (fun dx z => nomatch z) ⟨fun _ => rfl, fun _ => rfl⟩ .nil
  | some l =>
    obtain ⟨dx, fvs, rfl, hx, hn, rs⟩ := h2
    show Rep K F' (.ref a) (.exc C (l.map (·.1)) (l.map (·.2)))
    rw [← hn]
    refine .exc h (fun d z => by cases z; exact e _ _ hx) ⟨(fun z => by cases z), fun z => ?_⟩ (rs.mono e)
    subst z
    cases l with
    | nil => cases ok
    | cons _ _ => cases hn
section
variable {X : Cx} {pv : List V} {W : WX} {x n : Str} {c : Value} {i : Nat} {body suite : List Stmt} {b₀ : Stmt} {np pos pos' : Pos} {mb ms : SD → Fl} {test : Addr → Bool}
theorem ds_try (hs : X.stack = X.env :: X.outer) (hf : X.env.frame = some X.env.locals) (hex : X.ex = []) (hN : X.N.Nodup) (hi : X.N[i]? = some n) (hln : X.env.kindOf n = some .local) (hc : Names X x c)
    (ht : ∀ C, test C = true → PySem.W.exmOne X.K (.ref C) c = some true)
    (hb : ∀ (W' : WX) (pn : List (Addr × Obj)) (xe : Value → Shared → Prop), Takes (X.tr pn xe) W' → PassesOwn (model X.prog X.w) X.A X.env xe → DSs (X.tr pn xe) pv W' body mb)
    (hsu : ∀ (a : Addr) (pn : List (Addr × Obj)), DSs (X.suite a pn) pv (fun _ _ _ _ => False) (b₀ :: suite) ms) :
    DS X pv W (.Try body [.ExceptHandler (some (.Name x np)) (some n) (b₀ :: suite) pos'] [] [] pos) (sTry test i mb ms) := by
  refine ⟨_, ps_try_keep hs hf hex hN hi hln hc, fun G F sd σ H D s => ?_⟩
  have key : ∀ pn xe, Takes (X.tr pn xe) (wKeep X c i (b₀ :: suite) D) → PassesOwn (model X.prog X.w) X.A X.env xe → ∃ ts, PSs (X.tr pn xe) body ts ∧ MeetsS X.K pv (wKeep X c i (b₀ :: suite) D) G F (mb sd) D (ts D σ H) := fun pn xe t po => by
    obtain ⟨ts, p, tr⟩ := hb _ pn xe t po
    exact ⟨ts, p, tr G F sd σ H D s⟩
  unfold sTry
  revert key
  cases mb sd with
  | bad => exact fun _ => True.intro
  | nx sd1 => exact fun key hQ pn xe t po => let ⟨ts, p, m⟩ := key pn xe t po; ⟨ts, p, m hQ⟩
  | rt v sd1 => exact fun key hQ pn xe t po => let ⟨ts, p, m⟩ := key pn xe t po; ⟨ts, p, m hQ⟩
  | bk sd1 => exact fun key hQ pn xe t po => let ⟨ts, p, m⟩ := key pn xe t po; ⟨ts, p, m hQ⟩
  | ct sd1 => exact fun key hQ pn xe t po => let ⟨ts, p, m⟩ := key pn xe t po; ⟨ts, p, m hQ⟩
  | rz y sd1 =>
    intro key
    show MeetsS X.K pv W G F (if test y.C = true ∧ i < sd1.sl.length ∧ y.okB = true then (ms { sd1 with sl := sd1.sl.set i (.ow (.fz y.toD)) }).unset i else .bad) D _
    split
    · rename_i hil
      obtain ⟨htc, hil, hok⟩ := hil
      have su : ∀ cls dd F' σ' H' a pn, Same F F' → StR X.K pv G F' sd1 σ' H' → RepX X.K F' cls dd y → H' a = none → ∃ ts, PSs (X.suite a pn) (b₀ :: suite) ts ∧ Same F (upd F' a (ExT cls dd a)) ∧
          MeetsS X.K pv (fun _ _ _ _ => False) G (upd F' a (ExT cls dd a)) (ms { sd1 with sl := sd1.sl.set i (.ow (.fz y.toD)) }) (sEnd D i) (ts (sEnd D i) (σ'.set i (some (.ref a))) (upd H' a (ExT cls dd a))) := fun cls dd F' σ' H' a pn s1 s2 s3 hn => by
        obtain ⟨ts, p, tr⟩ := hsu a pn
        have sn := s2.sameNew (u := ExT cls dd a) hn
        have r := s3.value (a := a) hok sn upd_same
        exact ⟨ts, p, s1.trans sn, tr G _ _ _ _ (sEnd D i) ((StR1.fz (s2.new hn) r).store hil)⟩
      have wrap : (∀ cls dd F' σ' H', Same F F' → StR X.K pv G F' sd1 σ' H' → RepX X.K F' cls dd y → ∀ a pn, H' a = none → ∃ ts, PSs (X.suite a pn) (b₀ :: suite) ts ∧ ts (sEnd D i) (σ'.set i (some (.ref a))) (upd H' a (ExT cls dd a))) →
          ∀ pn xe, Takes (X.tr pn xe) (wKeep X c i (b₀ :: suite) D) → PassesOwn (model X.prog X.w) X.A X.env xe → ∃ ts, PSs (X.tr pn xe) body ts ∧ ts D σ H := fun h pn xe t po => by
        obtain ⟨ts, p, m⟩ := key pn xe t po
        refine ⟨ts, p, m fun cls dd F' σ' H' s1 s2 s3 => ?_⟩
        obtain ⟨e1, _⟩ := id s3
        exact ⟨by rw [e1]; exact ht _ htc, fun a pn hn => h cls dd F' σ' H' s1 s2 s3 a pn hn⟩
      revert su
      cases ms { sd1 with sl := sd1.sl.set i (.ow (.fz y.toD)) } with
      | bad => exact fun _ => True.intro
      | rz _ _ => exact fun _ => True.intro
      | nx sd2 =>
        intro su hQ
        refine wrap fun cls dd F' σ' H' s1 s2 s3 a pn hn => ?_
        obtain ⟨ts, p, sm, m⟩ := su cls dd F' σ' H' a pn s1 s2 s3 hn
        exact ⟨ts, p, m fun F2 σ2 H2 t1 t2 => hQ F2 _ H2 (sm.trans t1) (t2.unset i)⟩
      | bk sd2 =>
        intro su hQ
        refine wrap fun cls dd F' σ' H' s1 s2 s3 a pn hn => ?_
        obtain ⟨ts, p, sm, m⟩ := su cls dd F' σ' H' a pn s1 s2 s3 hn
        exact ⟨ts, p, m fun F2 σ2 H2 t1 t2 => hQ F2 _ H2 (sm.trans t1) (t2.unset i)⟩
      | ct sd2 =>
        intro su hQ
        refine wrap fun cls dd F' σ' H' s1 s2 s3 a pn hn => ?_
        obtain ⟨ts, p, sm, m⟩ := su cls dd F' σ' H' a pn s1 s2 s3 hn
        exact ⟨ts, p, m fun F2 σ2 H2 t1 t2 => hQ F2 _ H2 (sm.trans t1) (t2.unset i)⟩
      | rt v sd2 =>
        intro su hQ
        refine wrap fun cls dd F' σ' H' s1 s2 s3 a pn hn => ?_
        obtain ⟨ts, p, sm, m⟩ := su cls dd F' σ' H' a pn s1 s2 s3 hn
        exact ⟨ts, p, m fun v2 F2 σ2 H2 t1 t2 => hQ v2 F2 σ2 H2 (sm.trans t1) t2⟩
    · exact True.intro
noncomputable def sRaise (C : Addr) : SD → Fl := fun sd => .rz ⟨C, none⟩ sd
/-- what of an own exception class without own __init__ is asked to make one -/
structure XMk (K : PySem.W.Frag) (C : Addr) : Prop where
  q : PySem.W.excIn K C [.type "ValueError", .type "Exception", .type "BaseException", .type "object"] "ValueError.__new__" = true
  k : PySem.W.keepIn K (.ref C) = true
  b : PySem.W.subIn K (.ref C) (.type "BaseException") = some true
  t : PySem.W.typeIn K (.ref C) = some (.type "type")
theorem ds_raise {C : Addr} {m : Str} {j : Nat} {p p2 : Pos} (hc : X.calm = true) (tk : Takes X W) (f : XMk X.K C) (hg : Gl X x) (gC : X.mg x = some (.ref C)) (hdb : (x == ("__debug__" : Str)) = false := by decide) :
    DS X pv W (.Raise (some (.Call (.Name x p) [.Constant (.str m) j p2] [] pos')) none pos) (sRaise C) := by
  refine ⟨_, ps_raise hc tk (pmk_own PySem.F.excBase_ValueError f.q gC f.k (raises_own f.b f.t) hg hdb), fun G F sd σ H D s => ?_⟩
  exact fun hW => hW (.ref C) none F σ H (Same.refl _) s ⟨rfl, rfl⟩
end
/-- is an exception of the class C one of the class u? -/
noncomputable abbrev XRel := Addr → Value → Option Bool
structure XRelOk (K : PySem.W.Frag) (rel : XRel) : Prop where
  c : ∀ C u b, rel C u = some b → ExcC K C
  r : ∀ C u b, rel C u = some b → PySem.W.kitOne K (.ref C) u = some b
noncomputable def clsD : D → Option Value
  | .cls N => some (.ref N)
  | .ty n => some (.type n)
  | _ => none
noncomputable def relAny (rel : XRel) (C : Addr) : List D → Option Bool
  | [] => some false
  | d :: ds => (clsD d).bind fun u => match rel C u with
    | some true => (relAny rel C ds).map fun _ => true
    | some false => relAny rel C ds
    | none => none
theorem clsD_v {K : PySem.W.Frag} {H : Hp} {v : V} {d : D} {u : Value} (r : Rep K H v d) (h : clsD d = some u) : ClsV v u := by
  cases r <;> cases h
  · exact .ty _
  · exact .own _
theorem relAny_ok {K : PySem.W.Frag} {rel : XRel} (o : XRelOk K rel) {H : Hp} {C : Addr} : ∀ {ds : List D} {vs : List V} {b : Bool}, Reps K H vs ds → relAny rel C ds = some b → ∃ us, Paired ClsV vs us ∧ PySem.W.kitAny K (.ref C) us = some b ∧ (ds ≠ [] → ExcC K C)
  | [], vs, b, r, h => by
    cases r
    cases h
    exact ⟨[], .nil, rfl, fun z => absurd rfl z⟩
  | d :: ds, vs, b, r, h => by
    cases r with
    | cons r1 r2 =>
      obtain ⟨u, e1, h⟩ := Option.bind_eq_some_iff.mp h
      have cv := clsD_v r1 e1
      have h : (match rel C u with
        | some true => (relAny rel C ds).map fun _ => true
        | some false => relAny rel C ds
        | none => none) = some b := h
      cases e : rel C u with
      | none => rw [e] at h; cases h
      | some t =>
        rw [e] at h
        cases t with
        | true =>
          obtain ⟨b', e2, h⟩ := Option.map_eq_some_iff.mp h
          subst h
          obtain ⟨us, k1, k2, k3⟩ := relAny_ok o r2 e2
          exact ⟨u :: us, .cons cv k1, kitAny_cons (o.r _ _ _ e) (fun z => by cases z) (fun _ => rfl), fun _ => o.c _ _ _ e⟩
        | false =>
          obtain ⟨us, k1, k2, k3⟩ := relAny_ok o r2 h
          exact ⟨u :: us, .cons cv k1, kitAny_cons (o.r _ _ _ e) (fun _ => k2) (fun z => by cases z), fun _ => o.c _ _ _ e⟩
end DL
namespace DL
open PySem PySem.Spec L2 PyProof.Rows
section
variable {X : Cx} {pv : List V} {W : WX} {pos : Pos}
noncomputable def mDict0 : SD → ER D := fun sd => .ok (.dic false [] []) sd
theorem dx_dict0 : DX X pv W true true (.Dict [] [] pos) mDict0 := by
  refine ⟨_, pe_dnewK, fun G F sd σ H Q s => ?_⟩
  intro hQ
  intro p hp
  exact hQ _ _ _ (s.sameNew hp) (s.new hp) (Rep.dicK (kvs := []) (.inl upd_same) .nil) fun _ => ⟨Same.upd hp, rfl⟩
end
noncomputable def ixOf (cs : Nat → Addr) (N : Nat) (C : Addr) : Option Nat := (List.range N).find? fun i => cs i == C
theorem ixOf_some {cs : Nat → Addr} {N : Nat} {C : Addr} {i : Nat} (h : ixOf cs N C = some i) : i < N ∧ cs i = C := by
  unfold ixOf at h
  have h1 := List.mem_of_find?_eq_some h
  have h2 := List.find?_some h
  exact ⟨List.mem_range.mp h1, beq_iff_eq.mp h2⟩
theorem ixOf_cs {cs : Nat → Addr} {N : Nat} (hc : ∀ i j, i < N → j < N → cs i = cs j → i = j) {i : Nat} (hi : i < N) : ixOf cs N (cs i) = some i := by
  cases h : ixOf cs N (cs i) with
  | none =>
    unfold ixOf at h
    have z := List.find?_eq_none.mp h i (List.mem_range.mpr hi)
    simp at z
  | some j =>
    obtain ⟨h1, h2⟩ := ixOf_some h
    rw [hc j i h1 hi h2]
noncomputable def xTest (cs : Nat → Addr) (N : Nat) (R : List Nat) : Addr → Bool := fun C => match ixOf cs N C with
  | some i => R.contains i
  | none => false
theorem fa_nil {α : Type} {p : α → Prop} : ∀ x ∈ ([] : List α), p x := fun x h => nomatch h
theorem fa_cons {α : Type} {p : α → Prop} {a : α} {l : List α} (h : p a) (r : ∀ x ∈ l, p x) : ∀ x ∈ a :: l, p x := fun x hx => by
  rcases List.mem_cons.mp hx with e | e
  · rw [e]; exact h
  · exact r x e
theorem kit_true {K : PySem.W.Frag} {C : Addr} {t : Value} (h1 : PySem.W.isClsIn K C = true) (h2 : PySem.W.typeIn K (.ref C) = some (.type "type")) (h3 : PySem.W.subIn K t (.ref C) = some true) : PySem.W.kitOne K t (.ref C) = some true := by
  have h1 : (PySem.W.clsIn K C).isSome = true := h1
  unfold PySem.W.kitOne PySem.W.kitCls
  by_cases e : (t == Value.ref C) = true
  · rw [if_pos e]
  · rw [if_neg e]; simp [h1, h2, h3]
theorem kit_ve {K : PySem.W.Frag} {C : Addr} (h3 : PySem.W.subIn K (.ref C) (.type "ValueError") = some true) : PySem.W.kitOne K (.ref C) (.type "ValueError") = some true := by
  have hm : PySem.W.kitMeta "ValueError" = true := by decide +kernel
  unfold PySem.W.kitOne PySem.W.kitCls
  by_cases e : (Value.ref C == Value.type "ValueError") = true
  · rw [if_pos e]
  · rw [if_neg e]; simp [hm, h3]
theorem xTest_ok {K : PySem.W.Frag} {cs : Nat → Addr} {N : Nat} {R : List Nat} {c : Value} (m : ∀ i ∈ R, PySem.W.exmOne K (.ref (cs i)) c = some true) : ∀ C, xTest cs N R C = true → PySem.W.exmOne K (.ref C) c = some true := fun C h => by
  unfold xTest at h
  cases e : ixOf cs N C with
  | none => rw [e] at h; cases h
  | some i =>
    rw [e] at h
    rw [← (ixOf_some e).2]
    exact m i (List.contains_iff_mem.mp h)
/-- one of the classes of different addresses -/
theorem cs_inj {cs : Nat → Addr} {N : Nat} {l : List Addr} (h : ∀ i, i < N → l[i]? = some (cs i)) (nd : l.Nodup) : ∀ i j, i < N → j < N → cs i = cs j → i = j := fun i j hi hj e => by
  have h1 := h i hi
  have h2 := h j hj
  rw [e, ← h2] at h1
  have hl : i < l.length := by
    rcases Nat.lt_or_ge i l.length with z | z
    · exact z
    · rw [List.getElem?_eq_none z] at h1; rw [h2] at h1; cases h1
  exact (List.getElem?_inj hl nd).mp h1
end DL
namespace DL
open PySem PySem.Spec L2 PyProof.Rows
noncomputable def rCntD (K : PySem.W.Frag) : V → List V → Hp → VK → Prop := fun x xs H Q => ∃ (a : Addr) (y : V) (d : PyData) (ds : List PyData), x = V.ref a ∧ xs = [y] ∧ Dp K H (V.ref a) (.list ds) ∧ Dp K H y d ∧
  SeqAt.shaped (.list ds) = true ∧ SeqAt.shaped d = true ∧ Q (.int (ds.countP (fun z => PyData.eqv z d) : Nat)) H
theorem mt_cntD {X : Cx} (hu : X.A.units + 65 < cLine) : MtR X "list.count" (rCntD X.K) := by
  intro pins s σ H x xs v us Q I rx rxs h
  obtain ⟨a, y, d, ds, rfl, rfl, hl, hy, sl, sd, q⟩ := h
  cases rx
  obtain ⟨uy, rfl, ry⟩ := rxs.one
  obtain ⟨bs, r1⟩ := Dp.reads I d y uy hy ry
  have hxs : PyData.canLayAll0 ds = true := SeqAt.canLay_of_shaped sl
  have hroom : X.A.units + 1 + min (PyData.depthAll ds) d.depth < cLine := room_in_shaped sd hu
  cases hl with
  | lst hs ha =>
    obtain ⟨its, rv, ⟨⟨cls, dd, data, sls⟩, n, ho, hc, hdn, hdt⟩, hlen⟩ := I.list hs
    simp only at hc hdt
    subst hc hdt
    obtain ⟨as, h4⟩ := Dp.readsAll I ds _ its ha rv
    have hmap : its.map (SeqAt.readOf s.heap) = ds := SeqAt.readsAll_map ds its as hxs h4
    refine call_meets PySem.F.slot_list_count ⟨_, ho, rfl⟩ PySem.F.entry_list_count (PySem.F.args_list_count_2 _ _)
      (SeqAt.list_countAt a its.toArray n dd sls uy (fun u => PyData.eqv (SeqAt.readOf s.heap u) d)) ⟨ho, SeqAt.items_eqAt (vs := its.toArray) (show ReadsAll s.heap its.toArray.toList ds as from h4) r1 hxs (SeqAt.canLay_of_shaped sd) hroom, ?_⟩
    have ec : its.toArray.toList.countP (fun u => PyData.eqv (SeqAt.readOf s.heap u) d) = ds.countP (fun z => PyData.eqv z d) := by
      rw [← hmap, List.countP_map]; rfl
    refine ⟨.int (ds.countP (fun z => PyData.eqv z d) : Nat), H, I.tok _, ⟨s.toks, ?_⟩, q⟩
    show Value.int ((its.toArray.toList.countP (fun u => PyData.eqv (SeqAt.readOf s.heap u) d) : Nat) : Int) s.toks = Value.int _ s.toks
    rw [ec]
noncomputable def dCountD : D → List D → Option D
  | .lst ds, [d] => (D.pys ds).bind fun ps => d.py.bind fun p => if (SeqAt.shaped (.list ps) && SeqAt.shaped p) = true then some (.int (ps.countP (fun z => PyData.eqv z p) : Nat)) else none
  | _, _ => none
noncomputable def dIndexD : D → List D → Option D
  | .lst ds, [d] => (D.pys ds).bind fun ps => d.py.bind fun p => if (SeqAt.shaped (.list ps) && SeqAt.shaped p) = true then (ps.findIdx? (fun z => PyData.eqv z p)).map fun j => .int (j : Nat) else none
  | _, _ => none
theorem f_countD {K : PySem.W.Frag} : CallM K (rCntD K) dCountD := by
  intro H x xs d ds c r rs h
  unfold dCountD at h
  split at h
  · rename_i es d1
    obtain ⟨ps, e1, h⟩ := Option.bind_eq_some_iff.mp h
    obtain ⟨p, e2, h⟩ := Option.bind_eq_some_iff.mp h
    split at h
    · rename_i hc
      rw [Bool.and_eq_true] at hc
      cases h
      obtain ⟨v, rfl, r1⟩ := reps1 rs
      have rd : Dp K H x (.list ps) := Rep.dp r (by rw [D.py, e1]; rfl)
      cases r with
      | @lst a vs _ s t => exact ⟨_, rfl, fun Q q => ⟨a, v, p, ps, rfl, rfl, rd, Rep.dp r1 e2, hc.1, hc.2, q⟩⟩
    · cases h
  · cases h
theorem f_indexD {K : PySem.W.Frag} : CallM K (rIndexD K) dIndexD := by
  intro H x xs d ds c r rs h
  unfold dIndexD at h
  split at h
  · rename_i es d1
    obtain ⟨ps, e1, h⟩ := Option.bind_eq_some_iff.mp h
    obtain ⟨p, e2, h⟩ := Option.bind_eq_some_iff.mp h
    split at h
    · rename_i hc
      rw [Bool.and_eq_true] at hc
      obtain ⟨j, e3, h⟩ := Option.map_eq_some_iff.mp h
      subst h
      obtain ⟨v, rfl, r1⟩ := reps1 rs
      have rd : Dp K H x (.list ps) := Rep.dp r (by rw [D.py, e1]; rfl)
      obtain ⟨hj, hz, hno⟩ := List.findIdx?_eq_some_iff_getElem.mp e3
      cases r with
      | @lst a vs _ s t =>
        refine ⟨_, rfl, fun Q q => ⟨a, v, p, ps, j, ps[j], rfl, rfl, rd, Rep.dp r1 e2, hc.1, hc.2, List.getElem?_eq_getElem hj, hz, fun m z' hm hz' => ?_, q⟩⟩
        have hml : m < ps.length := by omega
        rw [List.getElem?_eq_getElem hml] at hz'
        cases hz'
        exact Bool.eq_false_iff.mpr (hno m hm)
    · cases h
  · cases h
section
variable {X : Cx} {pv : List V} {W : WX} {p q k l : Bool} {o e : Expr} {apos cpos pos : Pos}
theorem dx_countD {mo : SD → ER D} {ma : SD → ER (List D)} (hu : X.A.units + 65 < cLine) (ho : DX X pv W p k o mo) (ha : DA X pv W q l [e] ma) (hk : (k || q) = true := by rfl) (hbase : attributeBase o "count" X.env (eval o X.env) = eval o X.env := by rfl)
    (hfew : ((backTo cpos (starEach [e] X.env)).all (fun x => !x.1) && (backToKw cpos (keywordEach [] X.env)).all (fun x => x.1.isSome) && decide ([e].length + ([] : List Keyword).length + (if ([] : List Keyword).isEmpty then 0 else 1) < 30)) = true := by rfl)
    (hline : (apos.endLine == cpos.line) = true := by rfl) (hs : starEach [e] X.env = (false, eval e X.env) :: starEach [] X.env := by rfl) (hplain : (backTo cpos (starEach [] X.env)).any (·.1) = false := by rfl) :
    DX X pv W (p && q) true (.Call (.Attribute o "count" apos) [e] [] cpos) (mBm D.isL dCountD mo ma) :=
  dx_bm PySem.F.plainAttrs_list PySem.F.slot_list_count PySem.F.type_list_count (mt_cntD hu) ty_lst f_countD ho ha hk hbase hfew hline hs hplain
theorem dx_indexD {mo : SD → ER D} {ma : SD → ER (List D)} (hu : X.A.units + 65 < cLine) (ho : DX X pv W p k o mo) (ha : DA X pv W q l [e] ma) (hk : (k || q) = true := by rfl) (hbase : attributeBase o "index" X.env (eval o X.env) = eval o X.env := by rfl)
    (hfew : ((backTo cpos (starEach [e] X.env)).all (fun x => !x.1) && (backToKw cpos (keywordEach [] X.env)).all (fun x => x.1.isSome) && decide ([e].length + ([] : List Keyword).length + (if ([] : List Keyword).isEmpty then 0 else 1) < 30)) = true := by rfl)
    (hline : (apos.endLine == cpos.line) = true := by rfl) (hs : starEach [e] X.env = (false, eval e X.env) :: starEach [] X.env := by rfl) (hplain : (backTo cpos (starEach [] X.env)).any (·.1) = false := by rfl) :
    DX X pv W (p && q) true (.Call (.Attribute o "index" apos) [e] [] cpos) (mBm D.isL dIndexD mo ma) :=
  dx_bm PySem.F.plainAttrs_list PySem.F.slot_list_index PySem.F.type_list_index (mt_indexD hu) ty_lst f_indexD ho ha hk hbase hfew hline hs hplain
end
end DL
namespace DL
open PySem PySem.Spec L2 PyProof.Rows
noncomputable def fzs : List OT → Option (List D)
  | [] => some []
  | .fz d :: ts => (fzs ts).map (d :: ·)
  | _ :: _ => none
theorem fzs_eq : ∀ {ts : List OT} {ds : List D}, fzs ts = some ds → ts = ds.map .fz
  | [], ds, h => by cases h; rfl
  | .fz d :: ts, ds, h => by
    obtain ⟨es, e, h⟩ := Option.map_eq_some_iff.mp (show (fzs ts).map (d :: ·) = some ds from h)
    subst h
    rw [List.map_cons, fzs_eq e]
  | .ol _ :: _, ds, h => by cases h
  | .od _ _ _ :: _, ds, h => by cases h
  | .oi _ _ _ :: _, ds, h => by cases h
theorem reps_some {K : PySem.W.Frag} {F : Hp} {vs : List V} {ds : List D} (r : Reps K F vs ds) : ∀ n : Nat, Reps K F (List.replicate n vs).flatten (List.replicate n ds).flatten
  | 0 => .nil
  | n + 1 => by
    rw [List.replicate_succ, List.replicate_succ, List.flatten_cons, List.flatten_cons]
    exact r.append (reps_some r n)
end DL
namespace PySem.W
open PySem PySem.Spec PySem.Calls PyProof.Rows
section
variable {prog : Program} {w : World} {A : Around} {E : Value → Shared → Prop} {K : Frag} {x C L f : Addr} {h₀ : Heap} {m : Str → Option Value} {ox : Obj} {od : Option Obj} {n : String} {op : Operator}
/-- the right operand is of a built-in type that knows nothing of the class -/
theorem own_bin_blt {s : Shared} {b : Value} {fo ro rc : Option Value} {Q : Value → Shared → Prop} (F : Fr h₀ L s.heap m) (kin : K.In h₀) (I : InstAt s.heap x ox C od) (tb : Looks (model prog w) s.heap (typeOf b) (.type n)) (first : selfFirst K C = true)
    (fn : isFn K (.ref f) = true) (at_ : findIn K (.ref C) (PySem.dunder op.info.2) = some (some (.ref f))) (hr : findIn K (.ref C) (dunderR op.info.2) = some rc) (hp : rc = none ∨ ∃ g : Addr, rc = some (.ref g))
    (b1 : findIn K (.type n) (PySem.dunder op.info.2) = some fo) (b2 : findIn K (.type n) (dunderR op.info.2) = some ro) (b3 : subIn K (.type n) (.ref C) = some false)
    (go : wpAny (model prog w) A (call (.ref f) [.ref x, b]) (CmpBack Q) E s) : wpAny (model prog w) A (binaryOp op (.ref x) b) Q E s := by
  have kh := kin.keeps F.keep
  have tried := ksp_try kh I at_ fn go
  obtain ⟨cd, r, e1, e2⟩ := ksp_first first
  obtain ⟨H, g, d, tk, os⟩ := s
  rcases hop : op.info with ⟨sym, nm⟩
  rw [hop] at at_ hr b1 b2 tried
  have k1 : Looks (model prog w) H (typeOf (.ref x)) (.ref C) := I.type
  have k2 : Looks (model prog w) H (typeOf b) (.type n) := tb
  have k3 : Looks (model prog w) H (fillsNumberSlot (.ref C) nm) true := fills_K kh e1 e2 at_
  have k4 := ksp_fillsT (M := model prog w) kh b1 b2
  have k5 : Looks (model prog w) H (numberSlotInPython (.ref C) nm) true := ksp_inPy kh at_ hr hp
  have k6 : Looks (model prog w) H (numberSlotInPython (.type n) nm) false := Looks.of_pure rfl
  have k7 : Looks (model prog w) H (isSubtype (.type n) (.ref C)) false := looks_subIn kh b3
  have k8 : Looks (model prog w) H (typeLookup (.type n) (dunderR nm)) ro := looks_findIn kh b2
  have ne : (Value.ref C == Value.type n) = false := Bool.eq_false_iff.mpr fun q => nomatch beq_iff_eq.mp q
  have fin : ∀ (r : Option Value) (s' : Shared), (∃ v, r = some v ∧ Q v s') → ∃ v, r = some v ∧ Q v s' := fun _ _ q => q
  revert k4
  generalize ((fo.isSome && !isSeqSlot fo) || (ro.isSome && !isSeqSlot ro)) = filled
  intro k4
  simp only [binaryOp, hop]
  refine wpAny_holding (wpAny_bind ?_)
  unfold binaryOp1
  refine wpAny_bind (k1.at (wpAny_bind (k2.at (wpAny_bind (k3.at ?_)))))
  simp only [ne, Bool.false_eq_true, if_false]
  cases filled
  all_goals
    ksp_lk
    refine wpAny_mono tried (fun r s' q => ?_) fun _ _ q => q
    obtain ⟨v, e, q⟩ := q
    subst e
    ksp_lk
    exact q
end
end PySem.W
namespace DL
open PySem PySem.Spec L2
/-- .. the right one of a built-in type -/
structure BinA (K : PySem.W.Frag) (C g : Addr) (nm : String) : Prop where
  S : BinS K C g nm
  r : ∃ rc, PySem.W.findIn K (.ref C) (dunderR nm) = some rc ∧ (rc = none ∨ ∃ g' : Addr, rc = some (.ref g'))
  b : ∀ n ∈ bltTys, ∃ fo ro, PySem.W.findIn K (.type n) (PySem.dunder nm) = some fo ∧ PySem.W.findIn K (.type n) (dunderR nm) = some ro ∧ PySem.W.subIn K (.type n) (.ref C) = some false
noncomputable def D.isBlt : D → Bool
  | .non => true
  | .bl _ => true
  | .int _ => true
  | .str _ => true
  | .tup _ => true
  | .ktu _ => true
  | .lst _ => true
  | .scr _ => true
  | .dic false _ _ => true
  | _ => false
noncomputable def cAny (C : Addr) : D → D → Bool := fun x y => x.isIns C && (y.isIns C || y.isBlt)
noncomputable def RAny (K : PySem.W.Frag) (C : Addr) : V → V → Hp → Prop := fun x y H => InsR C x H ∧ (InsR C y H ∨ ∃ n ∈ bltTys, TyX K H y (.type n))
theorem isBlt_rep {K : PySem.W.Frag} {H : Hp} {v : V} {d : D} (r : Rep K H v d) (h : d.isBlt = true) : ∃ n ∈ bltTys, TyX K H v (.type n) := by
  have go : ∀ t, d.tyv (fun _ => false) = some t → TyX K H v t := fun t e => tyv_rep (ok := fun _ => false) (fun _ z => by cases z) r e
  cases d with
  | dic tk ks vs =>
    cases tk with
    | false => exact ⟨"dict", by decide, go _ rfl⟩
    | true => cases h
  | ty _ => cases h
  | cls _ => cases h
  | ins _ _ _ => cases h
  | exc _ _ _ => cases h
  | non => exact ⟨"NoneType", by decide, go _ rfl⟩
  | bl _ => exact ⟨"bool", by decide, go _ rfl⟩
  | int _ => exact ⟨"int", by decide, go _ rfl⟩
  | str _ => exact ⟨"str", by decide, go _ rfl⟩
  | tup _ => exact ⟨"tuple", by decide, go _ rfl⟩
  | ktu _ => exact ⟨"tuple", by decide, go _ rfl⟩
  | lst _ => exact ⟨"list", by decide, go _ rfl⟩
  | scr _ => exact ⟨"list", by decide, go _ rfl⟩
theorem isR_any {K : PySem.W.Frag} {C : Addr} : IsR K (cAny C) (RAny K C) := fun F H x y dx dy e r1 r2 h => by
  obtain ⟨h1, h2⟩ := (Bool.and_eq_true _ _).mp h
  refine ⟨isIns_rep e r1 h1, ?_⟩
  rcases (Bool.or_eq_true _ _).mp h2 with q | q
  · exact .inl (isIns_rep e r2 q)
  · exact .inr (isBlt_rep (r2.mono e) q)
section
variable {X : Cx} {pv : List V} {W : WX} {p q : Bool} {a b : Expr} {pos : Pos}
theorem do_binA {op : Operator} {C g : Addr} {fd : FuncData} {ps : List Str} {j : Nat} {gm : List OT → ER OT} {ma mb : SD → ER D} (h : BinA X.K C g op.info.2) (F : FnG X.prog X.w X.K X.mg X.base (L2.CX X.prog X.w) j g fd ps (spD X.K 2 gm)) (hr : RoomG j X.A) (hb : Binds X.K fd ps []) (tk : Takes X W)
    (h1 : DX X pv W p true a ma) (h2 : DX X pv W q true b mb) : DO X pv W (p && q) (.BinOp a op b pos) (mOwn2 (cAny C) gm ma mb) := by
  obtain ⟨ta, a1, a2⟩ := h1
  obtain ⟨tb, b1, b2⟩ := h2
  refine ⟨_, ⟨fun pins s σ H Q I hq => ?_⟩, tr_own2 isR_any a2 b2⟩
  refine wpAny_BinOp (binT a1 b1 I hq fun v u s2 x y H2 I2 rx ry z => ?_)
  obtain ⟨⟨⟨xa, dx, fs, rfl, ex⟩, hy⟩, z⟩ := z
  cases (show v = Value.ref xa from rx)
  obtain ⟨ox, od, J⟩ := ins_at I2 ex
  obtain ⟨m, hF⟩ := I2.fr
  have back : wpAny (model X.prog X.w) X.A (call (.ref g) [.ref xa, u]) (PySem.W.CmpBack (EP X pins σ Q)) X.xe s2 :=
    wpAny_mono (run_G (us := [.ref xa, u]) (vs := [.ref xa, y]) F hr hb (passAt tk σ) I2 (.cons rfl (.cons ry .nil)) z) (fun w s' ⟨z', H', I', rz, qz⟩ => SlX.cmpback rz ⟨z', H', I', rz, qz⟩) fun _ _ x => x
  rcases hy with ⟨ya, dy, gs, rfl, ey⟩ | ⟨n, hn, ty⟩
  · cases (show u = Value.ref ya from ry)
    obtain ⟨oy, od', J'⟩ := ins_at I2 ey
    exact PySem.W.binop_K hF I2.ok.mod.kin J J'.type h.S.first h.S.at_ h.S.fn back
  · obtain ⟨P, Z, hp, _⟩ := kit_of I2 ry ty
    obtain ⟨rc, r1, r2⟩ := h.r
    obtain ⟨fo, ro, c1, c2, c3⟩ := h.b n hn
    exact PySem.W.own_bin_blt hF I2.ok.mod.kin J (Z.ty _ _ I2.kIn hp) h.S.first h.S.fn h.S.at_ r1 r2 c1 c2 c3 back
end
end DL
namespace DL
open PySem PySem.Spec L2 GenW
section
variable {X : Cx}
/-- the iterator's own objects: what does not change in the loop -/
noncomputable def Free (X : Cx) (S : Addr) (ip : List (Addr × Obj)) (b : Addr) : Prop :=
  b ≠ X.env.locals ∧ b ∉ X.fs ∧ (b ∈ X.ex ∨ X.s_0.heap.objs.size ≤ b) ∧ (∀ x c, X.env.cells.lookup x = some c → c ≠ b) ∧ (∀ p ∈ X.pn, p.1 ≠ b) ∧ S ≠ b ∧ ∀ p ∈ ip, p.1 ≠ b
theorem Free.ok {X : Cx} {S : Addr} {o : Obj} {ip : List (Addr × Obj)} {H : Hp} {b : Addr} (h : Free X S ip b) (hn : H b = none) : FpOk X ((S, o) :: ip) H b := by
  obtain ⟨a, b', c, d, e, f, g⟩ := h
  refine ⟨hn, a, b', c, d, fun p hp => ?_⟩
  rcases List.mem_append.mp hp with k | k
  · exact e p k
  · rcases List.mem_cons.mp k with k | k
    · rw [k]; exact f
    · exact g p k
end
end DL
namespace DL
open PySem PySem.Spec L2 PyProof.Rows
end DL
namespace DL
open PySem PySem.Spec L2 PyProof.Rows
end DL
namespace DL
open PySem PySem.Spec L2 PyProof.Rows
end DL
namespace DL
open PySem PySem.Spec L2 PyProof.Rows
/-- the arguments behind self become the fields ns, in order -/
noncomputable def spI (K : PySem.W.Frag) (ns : List Str) : Sp := fun vs H Q _ => ∃ (a C : Addr) (ws : List V), vs = .ref a :: ws ∧ ws.length = ns.length ∧ OexC K C ∧ (∀ f ∈ ns, PySem.W.findIn K (.ref C) f = some none) ∧ H a = some (exo a C none) ∧
  ∀ dx, H dx = none → dx ≠ a → Q .non (upd (upd H dx (exd dx (ns.zip ws).reverse)) a (exo a C (some dx)))
section
variable {P : Program} {w : World} {K : PySem.W.Frag} {mg : Str → Option Value} {base : Heap} {x qual : Str} {st : Stmt} {f : Addr} {fd : FuncData}
theorem vis_par {N ps : List Str} {sc : Scope} (S : FnScope N ps sc) {y : Str} (h : y ∈ ps) : Vis sc y := (S.par y h).elim .inl fun z => .inr (.inl z)
theorem init1 {n : Str} {p1 p2 p3 pos : Pos} (F : Fun K x qual st f fd) (S : FnScope ["self", n] ["self", n] (defScope st)) (hb : defBody st = [.Assign [.Attribute (.Name "self" p1) n p2] (.Name n p3) pos])
    (hd : (n == ("__debug__" : Str)) = false := by decide) (hcd : (n == ("__classdict__" : Str)) = false := by decide) : FnOk P w K mg base (L2.CX P w) 1 f fd ["self", n] (spI K [n]) := by
  refine F.okX S (fun vs H Q E z => ?_) fun cdv A outer s H vs Q E hr hs => ?_
  · obtain ⟨a, C, ws, rfl, hl, _⟩ := z
    simpa using hl
  · obtain ⟨a, C, ws, rfl, hl, T, hno, ha, q⟩ := hs
    obtain ⟨y, rfl⟩ : ∃ y, ws = [y] := List.length_eq_one_iff.mp hl
    rw [hb]
    refine ⟨_, pss_one (ps_ost (pe_var (i := 0) rfl (vis_par S (by simp))) (pe_var (i := 1) rfl (vis_par S (by simp)) hd hcd) rfl), ?_⟩
    exact ⟨y, rfl, .ref a, rfl, a, C, rfl, T, hno n (by simp), .inl ⟨ha, q⟩⟩
theorem init2 {n m : Str} {p1 p2 p3 pos q1 q2 q3 qos : Pos} (F : Fun K x qual st f fd) (S : FnScope ["self", n, m] ["self", n, m] (defScope st)) (hb : defBody st = [.Assign [.Attribute (.Name "self" p1) n p2] (.Name n p3) pos, .Assign [.Attribute (.Name "self" q1) m q2] (.Name m q3) qos])
    (hd : (n == ("__debug__" : Str)) = false := by decide) (hcd : (n == ("__classdict__" : Str)) = false := by decide) (hd2 : (m == ("__debug__" : Str)) = false := by decide) (hcd2 : (m == ("__classdict__" : Str)) = false := by decide) : FnOk P w K mg base (L2.CX P w) 1 f fd ["self", n, m] (spI K [n, m]) := by
  refine F.okX S (fun vs H Q E z => ?_) fun cdv A outer s H vs Q E hr hs => ?_
  · obtain ⟨a, C, ws, rfl, hl, _⟩ := z
    simpa using hl
  · obtain ⟨a, C, ws, rfl, hl, T, hno, ha, q⟩ := hs
    obtain ⟨y, z, rfl⟩ : ∃ y z, ws = [y, z] := by
      match ws, hl with
      | [y, z], _ => exact ⟨y, z, rfl⟩
    rw [hb]
    refine ⟨_, pss_cons (ps_ost (pe_var (i := 0) rfl (vis_par S (by simp))) (pe_var (i := 1) rfl (vis_par S (by simp)) hd hcd) rfl) (pss_one (ps_ost (pe_var (i := 0) rfl (vis_par S (by simp))) (pe_var (i := 2) rfl (vis_par S (by simp)) hd2 hcd2) rfl)), ?_⟩
    refine ⟨y, rfl, .ref a, rfl, a, C, rfl, T, hno n (by simp), .inl ⟨ha, fun dx hn ne => ?_⟩⟩
    refine ⟨z, rfl, .ref a, rfl, a, C, rfl, T, hno m (by simp), .inr ⟨dx, [(n, y)], upd_same, by rw [upd_ne ne, upd_same], by simp, ?_⟩⟩
    have e : upd (upd (upd H dx (exd dx [(n, y)])) a (exo a C (some dx))) dx (exd dx [(m, z), (n, y)]) = upd (upd H dx (exd dx [(m, z), (n, y)])) a (exo a C (some dx)) := by
      funext b
      by_cases h1 : b = dx
      · subst h1; rw [upd_same, upd_ne ne, upd_same]
      · rw [upd_ne h1]
        by_cases h2 : b = a
        · subst h2; rw [upd_same, upd_same]
        · rw [upd_ne h2, upd_ne h2, upd_ne h1, upd_ne h1]
    show Q .non (upd (upd (upd H dx (exd dx [(n, y)])) a (exo a C (some dx))) dx (exd dx [(m, z), (n, y)]))
    rw [e]
    exact q dx hn ne
end
noncomputable def sRaiseX (C : Addr) (ns : List Str) (m : SD → ER (List D)) : SD → Fl := fun sd => (m sd).stm fun ds sd1 => if ds.length = ns.length ∧ ns.length ≤ 900 then .rz ⟨C, some (ns.zip ds).reverse⟩ sd1 else .bad
/-- what is asked of the class -/
structure XMkI (K : PySem.W.Frag) (C fI : Addr) (ns : List Str) : Prop where
  o : OexC K C
  i : PySem.W.findIn K (.ref C) "__init__" = some (some (.ref fI))
  t : PySem.W.typeIn K (.ref fI) = some (.type "function")
  n : ∀ f ∈ ns, PySem.W.findIn K (.ref C) f = some none
/-- what is asked of the class object -/
noncomputable def oexB (C : Addr) (cd : ClassData) (sl : Array (Option Value)) : Bool := match cd.mro, sl.toList with
  | .ref C' :: bm, [_, _, _, _, some (.builtin n), _] => C' == C && (n == "ValueError.__new__" && (!cd.hasDel && (cd.hasDict && PySem.HandSPX.refsVE bm)))
  | _, _ => false
theorem oex_mk {K : PySem.W.Frag} {C : Addr} {d : Option Addr} {cd : ClassData} {sl : Array (Option Value)} (h : K.lookup C = some ⟨.type "type", d, .cls cd, sl⟩) (q : oexB C cd sl = true) (sa : PySem.W.findIn K (.ref C) "__setattr__" = some (some (.builtin "object.__setattr__")))
    (b : PySem.W.subIn K (.ref C) (.type "BaseException") = some true) (t : PySem.W.typeIn K (.ref C) = some (.type "type")) (k : PySem.W.keepIn K (.ref C) = true) : OexC K C := by
  refine ⟨?_, sa, b, t, k⟩
  unfold oexB at q
  split at q
  · rename_i C' bm k0 k1 k2 k3 n k5 hm hs
    simp only [Bool.and_eq_true, beq_iff_eq, Bool.not_eq_true'] at q
    obtain ⟨q1, q2, q3, q4, q5⟩ := q
    subst q1 q2
    obtain ⟨nm, bs, mro, ns, qn, hd, sn, sub, ab, col, del⟩ := cd
    dsimp only at hm q3 q4
    subst hm q3 q4
    have hsl : sl = #[k0, k1, k2, k3, some (.builtin "ValueError.__new__"), k5] := by
      cases sl
      exact congrArg Array.mk hs
    subst hsl
    exact ⟨nm, qn, ns, bs, bm, sn, sub, ab, col, d, k0, k1, k2, k3, k5, h, q5⟩
  · cases q
theorem fst_zip {α β : Type} : ∀ (ns : List α) (ds : List β), ds.length = ns.length → (ns.zip ds).map (·.1) = ns
  | [], _, _ => rfl
  | n :: ns, [], h => by cases h
  | n :: ns, d :: ds, h => by rw [List.zip_cons_cons, List.map_cons, fst_zip ns ds (by simpa using h)]
theorem snd_zip {α β : Type} : ∀ (ns : List α) (ds : List β), ds.length = ns.length → (ns.zip ds).map (·.2) = ds
  | [], [], _ => rfl
  | [], d :: ds, h => by cases h
  | n :: ns, [], h => by cases h
  | n :: ns, d :: ds, h => by rw [List.zip_cons_cons, List.map_cons, snd_zip ns ds (by simpa using h)]
section
variable {X : Cx} {pv : List V} {W : WX} {p : Bool} {e : Expr} {es : List Expr} {x : Str} {pos pos' pp : Pos}
theorem ds_raiseX {C fI : Addr} {k : Nat} {fd : FuncData} {ps ns : List Str} {m : SD → ER (List D)} (hc : X.calm = true) (tk : Takes X W) (M : XMkI X.K C fI ns) (F : FnOk X.prog X.w X.K X.mg X.base (L2.CX X.prog X.w) k fI fd ps (spI X.K ns)) (hr : RoomG (k + 1) X.A) (hb : Binds X.K fd ps [])
    (hg : Gl X x) (hm : X.mg x = some (.ref C)) (ha : DA X pv W p true (e :: es) m)
    (hdb : (x == ("__debug__" : Str)) = false := by decide) (he : starEach (e :: es) X.env = (false, eval e X.env) :: starEach es X.env := by rfl) (hpl : (backTo pos' (starEach es X.env)).any (·.1) = false := by rfl) :
    DS X pv W (.Raise (some (.Call (.Name x pp) (e :: es) [] pos')) none pos) (sRaiseX C ns m) := by
  obtain ⟨ta, a1, a2⟩ := ha
  refine ⟨_, ps_raise hc tk (pmk_oex M.o M.i M.t F hr.r hb .nil (fun _ _ _ _ _ _ _ z => (cx_none z).elim) hg hm a1 hdb he hpl), fun G F sd σ H D s => ?_⟩
  unfold sRaiseX
  refine Meets.stm (a2 G F sd σ H _ s) fun vs F1 H1 ds sd1 s1 s2 s3 => ?_
  have s3 : Reps X.K F1 vs ds := s3
  split
  · rename_i hl
    obtain ⟨hl, hl2⟩ := hl
    intro hW
    refine ⟨by rw [s3.length]; omega, fun a hn => ?_⟩
    rw [List.append_nil]
    refine ⟨a, C, vs, rfl, by rw [s3.length, hl], M.o, M.n, upd_same, fun dx hdx ne => ?_⟩
    have hdx1 : H1 dx = none := by rw [upd_ne ne] at hdx; exact hdx
    refine ⟨rfl, dx, (ns.zip vs).reverse, upd_same, by rw [upd_ne ne, upd_same], hdx1, ?_⟩
    have e : upd (del (upd (upd (upd H1 a (exo a C none)) dx (exd dx (ns.zip vs).reverse)) a (exo a C (some dx))) a) dx (.xd (ns.zip vs).reverse) = upd H1 dx (.xd (ns.zip vs).reverse) := by
      funext b
      by_cases h1 : b = dx
      · subst h1; rw [upd_same, upd_same]
      · rw [upd_ne h1, upd_ne h1]
        by_cases h2 : b = a
        · subst h2; rw [del_same, hn]
        · rw [del_ne h2, upd_ne h2, upd_ne h1, upd_ne h2]
    rw [e]
    have hv : vs.length = ns.length := by rw [s3.length, hl]
    refine hW (.ref C) (some dx) (upd F1 dx (.xd (ns.zip vs).reverse)) σ _ (s2.sameNew hdx1) (s2.new hdx1) ⟨rfl, dx, _, rfl, upd_same, ?_, ?_⟩
    · rw [List.map_reverse, List.map_reverse, fst_zip _ _ hv, fst_zip _ _ hl]
    · rw [List.map_reverse, List.map_reverse, snd_zip _ _ hv, snd_zip _ _ hl]
      exact (s3.mono (s2.sameNew hdx1)).reverse
  · exact True.intro
end
end DL
namespace DL
open PySem PySem.Spec L2 PyProof.Rows
/-- a value's type, exceptions with or without fields too -/
noncomputable def TyF (K : PySem.W.Frag) (H : Hp) (v : V) (t : Value) : Prop := TyX K H v t ∨ ∃ (a C : Addr) (d : Option Addr), v = .ref a ∧ t = .ref C ∧ H a = some (ExT (.ref C) d a) ∧ (∀ dx, d = some dx → ∃ fvs, H dx = some (.xd fvs)) ∧ ExcC K C
section
variable {X : Cx} {pins : List (Addr × Obj)} {σ : L2.St} {H : Hp} {s : Shared}
/-- the object of an exception -/
theorem inst_exc {a C : Addr} {d : Option Addr} (I : Inv X pins σ H s) (e : H a = some (ExT (.ref C) d a)) (hx : ∀ dx, d = some dx → ∃ fvs, H dx = some (.xd fvs)) : ∃ oe od, PySem.W.InstAt s.heap a oe C od := by
  obtain ⟨⟨oe, he, hz, vs, hd⟩, _, _⟩ := I.hok a _ e
  have nc : PySem.W.notCls oe = true := by unfold PySem.W.notCls; rw [hd]
  cases d with
  | none => exact ⟨oe, none, he, hz.1, nc, by rw [hz.2]; exact True.intro⟩
  | some dx =>
    obtain ⟨fvs, hf⟩ := hx dx rfl
    have hk : ObjOk X.prog X.w H s.heap dx (.xd fvs) := I.hok dx _ hf
    obtain ⟨mA, hns, _⟩ := hk
    obtain ⟨od, ho, _⟩ := lookIn_ns hns
    exact ⟨oe, some od, he, hz.1, nc, by rw [hz.2]; exact ho⟩
theorem kit_ofF {x : V} {u t : Value} (I : Inv X pins σ H s) (rx : RelV x u) (ty : TyF X.K H x t) : ∃ P : Heap → Prop, PySem.W.KitX X.K u t P ∧ P s.heap ∧ u ≠ .builtin "__main__.__loader__#opaque" := by
  rcases ty with ty | ⟨a, C, d, ex, et, e, hx, c⟩
  · exact kit_of I rx ty
  · subst ex et
    cases (show u = Value.ref a from rx)
    obtain ⟨oe, od, J⟩ := inst_exc I e hx
    obtain ⟨cd, hcd, _⟩ := PySem.W.any_some c.hd
    exact ⟨_, PySem.W.kitx_exc (by rw [hcd]; rfl) c.hg c.hk c.hs c.ha c.hn c.ht c.hm, J, fun z => nomatch z⟩
end
noncomputable def rIsiF (K : PySem.W.Frag) : List V → Hp → VK → Prop := fun xs H Q => ∃ (x c : V) (t u : Value) (b : Bool), xs = [x, c] ∧ ClsV c u ∧ TyF K H x t ∧ PySem.W.kitOne K t u = some b ∧ Q (.bl b) H
noncomputable def rIsiTF (K : PySem.W.Frag) : List V → Hp → VK → Prop := fun xs H Q => ∃ (x : V) (tp : Addr) (cs : List V) (t : Value) (us : List Value) (b : Bool), xs = [x, .ref tp] ∧ H tp = some (.tup cs) ∧ Paired ClsV cs us ∧ TyF K H x t ∧ PySem.W.kitAny K t us = some b ∧ Q (.bl b) H
section
variable {X : Cx}
theorem call_isiF : CallR X (.builtin "isinstance") (fun xs H Q => rIsiF X.K xs H Q ∨ rIsiTF X.K xs H Q) := by
  intro pins s σ H xs us Q I r h
  rcases h with ⟨x, c, t, u, b, rfl, k, ty, e, q⟩ | ⟨x, tp, cs, t, ws, b, rfl, hT, k, ty, e, q⟩
  · obtain ⟨u1, u2, rfl, r1, r2⟩ := vals2 r
    have e2 := k.eq r2
    subst e2
    obtain ⟨P, Z, p, hx⟩ := kit_ofF I r1 ty
    exact PySem.W.kia_one Z I.kIn p e hx fun tk => ⟨.bl b, H, I.tok tk, rfl, q⟩
  · obtain ⟨u1, u2, rfl, r1, r2⟩ := vals2 r
    cases (show u2 = Value.ref tp from r2)
    obtain ⟨P, Z, p, hx⟩ := kit_ofF I r1 ty
    obtain ⟨_, its, rv, o, h1, h2, n, h3⟩ := (show ObjOk X.prog X.w H s.heap tp (.tup cs) from I.hok tp _ hT)
    have e3 := ClsV.all k rv
    subst e3
    obtain ⟨oc, od, dt, sl⟩ := o
    simp only at h2 h3
    subst h2 h3
    exact PySem.W.kia_tup Z I.kIn p h1 e hx fun tk => ⟨.bl b, H, I.tok tk, rfl, q⟩
end
noncomputable def dIsF (rel : XRel) : List D → Option D
  | [.exc C _ _, .tup ds] => if ds = [] then none else (relAny rel C ds).map .bl
  | [.exc C _ _, d] => ((clsD d).bind (rel C)).map .bl
  | _ => none
theorem rep_exc1 {K : PySem.W.Frag} {H : Hp} {v : V} {C : Addr} {ns : List Str} {vs : List D} (r : Rep K H v (.exc C ns vs)) : ∃ (a : Addr) (d : Option Addr) (fvs : List (Str × V)), v = .ref a ∧ H a = some (ExT (.ref C) d a) ∧ (∀ dx, d = some dx → H dx = some (.xd fvs)) ∧ (d = none ↔ fvs = []) ∧ fvs.map (·.1) = ns ∧ Reps K H (fvs.map (·.2)) vs := by
  generalize hd : D.exc C ns vs = x at r
  cases r with
  | @exc a C' d fvs ds h k n rr =>
    injection hd with e1 e2 e3
    subst e1 e2 e3
    exact ⟨a, d, fvs, rfl, h, k, n, rfl, rr⟩
  | _ => cases hd
theorem f_isF {K : PySem.W.Frag} {rel : XRel} (o : XRelOk K rel) : CallS K (fun xs H Q => rIsiF K xs H Q ∨ rIsiTF K xs H Q) (dIsF rel) := by
  intro H xs ds c r h
  unfold dIsF at h
  split at h
  · rename_i C ns vs ds
    obtain ⟨v, v', rfl, r1, r2⟩ := reps2 r
    split at h
    · cases h
    · rename_i hne
      obtain ⟨b, e, h⟩ := Option.map_eq_some_iff.mp h
      subst h
      obtain ⟨a, d, fvs, rfl, ea, ex, _⟩ := rep_exc1 r1
      cases r2 with
      | @tup tp vs _ ht rr =>
        obtain ⟨us, k1, k2, k3⟩ := relAny_ok o rr e
        exact ⟨_, rfl, fun Q q => .inr ⟨_, tp, vs, .ref C, us, b, rfl, ht, k1, .inr ⟨a, C, d, rfl, rfl, ea, fun dx z => ⟨_, ex dx z⟩, k3 hne⟩, k2, q⟩⟩
  · rename_i C ns vs d hd
    obtain ⟨v, v', rfl, r1, r2⟩ := reps2 r
    obtain ⟨b, e, h⟩ := Option.map_eq_some_iff.mp h
    subst h
    obtain ⟨u, e1, e2⟩ := Option.bind_eq_some_iff.mp e
    obtain ⟨a, dd, fvs, rfl, ea, ex, _⟩ := rep_exc1 r1
    exact ⟨_, rfl, fun Q q => .inl ⟨_, v', .ref C, u, b, rfl, clsD_v r2 e1, .inr ⟨a, C, dd, rfl, rfl, ea, fun dx z => ⟨_, ex dx z⟩, o.c _ _ _ e2⟩, o.r _ _ _ e2, q⟩⟩
  · cases h
noncomputable def mFldX (ok : Addr → Bool) (f : Str) (a : SD → ER D) : SD → ER D := fun sd => (a sd).bind fun x sd1 => match x with
  | .exc C ns vs => if ok C = true then ER.opt (fldD f ns vs) sd1 else .bad
  | _ => .bad
section
variable {X : Cx} {pv : List V} {W : WX} {p q k l : Bool} {e a b : Expr} {es : List Expr} {pos : Pos}
theorem pe_fldX {ok : Addr → Bool} {f : Str} {te : TE} (he : PE X e te) (hf : ∀ C, ok C = true → XfC X.K C ∧ PySem.W.findIn X.K (.ref C) f = some none) (hb : attributeBase e f X.env (eval e X.env) = eval e X.env := by rfl) :
    PE X (.Attribute e f pos) (fun σ H Q => te σ H fun x H1 => ∃ (a C dd : Addr) (fs : List (Str × V)) (v : V), x = .ref a ∧ ok C = true ∧ H1 a = some (ExT (.ref C) (some dd) a) ∧ H1 dd = some (.xd fs) ∧ fs.lookup f = some v ∧ Q v H1) := by
  refine ⟨fun pins s σ H Q I h => attr_of hb (thn (he.run pins s σ H _ I h) fun u s1 ⟨x, H1, I1, rx, a, C, dd, fs, v, ex, hok, ea, ed, hl, q⟩ => ?_)⟩
  subst ex
  cases (show u = Value.ref a from rx)
  obtain ⟨T, hno⟩ := hf C hok
  obtain ⟨⟨oe, ho, hz, vs, hd⟩, _, _⟩ := I1.hok a _ ea
  have hx : ObjOk X.prog X.w H1 s1.heap dd (.xd fs) := I1.hok dd _ ed
  obtain ⟨mA, hns, hr⟩ := hx
  obtain ⟨od, hod, hlk⟩ := lookIn_ns hns
  obtain ⟨u, hu, ru⟩ := RelO.some_of (v := v) (o := mA f) (hl ▸ hr f)
  have nc : PySem.W.notCls oe = true := by unfold PySem.W.notCls; rw [hd]
  exact HandSPX.exc_get I1.kIn (⟨ho, hz.1, nc, by rw [hz.2]; exact hod⟩ : PySem.W.InstAt s1.heap a oe C (some od)) T.ga T.gg T.exC (PySem.W.findObj_own T.hdC hno rfl ((hlk f).trans (congrArg some hu))) (handed_of ru) ⟨v, H1, I1.tok _, ru, q⟩
theorem dx_fldX {ok : Addr → Bool} {f : Str} {m : SD → ER D} (h : DX X pv W p true e m) (hf : ∀ C, ok C = true → XfC X.K C ∧ PySem.W.findIn X.K (.ref C) f = some none) (hb : attributeBase e f X.env (eval e X.env) = eval e X.env := by rfl) : DX X pv W p true (.Attribute e f pos) (mFldX ok f m) := by
  obtain ⟨te, a1, a2⟩ := h
  refine ⟨_, pe_fldX a1 hf hb, fun G F sd σ H Q s => ?_⟩
  refine Meets.bindL (a2 G F sd σ H _ s) fun x F1 H1 dx sd1 s1 s2 s3 s4 => ?_
  have s5 : Rep X.K F1 x dx := s3
  clear s3
  split
  · rename_i C ns vs
    split
    · rename_i hok
      cases e1 : fldD f ns vs with
      | none => exact True.intro
      | some d =>
        obtain ⟨a, dd, fvs, rfl, ea, ex, en, rfl, rr⟩ := rep_exc1 s5
        obtain ⟨v, k1, k2⟩ := fldD_rep rr e1
        cases dd with
        | none =>
          rw [en.mp rfl] at k1
          cases k1
        | some dd => exact Meets.here s2 (show RSx X.K true G F1 sd1 H1 σ v d from k2) fun q => ⟨a, C, dd, fvs, v, rfl, hok, s2.fh _ _ ea, s2.fh _ _ (ex dd rfl), k1, q⟩
    · exact True.intro
  · exact True.intro
end
end DL
namespace DL
open PySem PySem.Spec L2 PyProof.Rows
end DL
namespace DL
open PySem PySem.Spec L2 PyProof.Rows
noncomputable def mRepO (a : SD → ER OT) (b : SD → ER D) : SD → ER OT := fun sd => (a sd).bind fun t sd1 => (b sd1).bind fun y sd2 => match t, y with
  | .ol ts, .int k => match fzs ts with
    | some ds => if 0 ≤ k ∧ k < 2 ^ 63 ∧ ds.length * k.toNat ≤ 16777216 then .ok (.ol ((List.replicate k.toNat ds).flatten.map .fz)) sd2 else .bad
    | none => .bad
  | _, _ => .bad
section
variable {X : Cx} {pv : List V} {W : WX} {p q k l : Bool} {e a b e1 e2 o : Expr} {pos : Pos}
theorem do_repO {ma : SD → ER OT} {mb : SD → ER D} (ha : DO X pv W p a ma) (hb : DX X pv W q true b mb) : DO X pv W (p && q) (.BinOp a .Mult b pos) (mRepO ma mb) := by
  obtain ⟨ta, a1, a2⟩ := ha
  obtain ⟨tb, b1, b2⟩ := hb
  refine ⟨_, pe_op op_rep a1 b1, fun G F sd σ H Q s => ?_⟩
  refine Meets.bind (a2 G F sd σ H _ s) fun v F1 H1 t sd1 s1 s2 s3 s4 => ?_
  obtain ⟨G', g1, g2, g3⟩ := StR1.hide s3
  have z := fun Q => (b2 G' F1 sd1 σ H1 Q g2).unhide g3
  have hq : q = (q && true) := by cases q <;> rfl
  rw [hq]
  refine Meets.bind (z _) fun y F2 H2 d sd2 t1 t2 t3 t4 => ?_
  have t5 : Rep X.K F2 y d := t3.2
  have t6 := t3.1
  clear t3 t4
  split
  · rename_i ts k
    cases t5
    split
    · rename_i ds e
      have et := fzs_eq e
      subst et
      split
      · rename_i hk
        obtain ⟨o, P, w, r, _⟩ := (show StR1 X.K pv G F2 sd2 σ H2 v (.ol (ds.map .fz)) from t6)
        unfold RepO at r
        obtain ⟨l, vs, rfl, _, hl, rr⟩ := r
        have rr := repOs_fz rr
        intro hQ
        refine ⟨l, k, vs, rfl, rfl, hl, by omega, hk.2.1, by rw [rr.length, sizeLine_eq]; exact hk.2.2, fun q hq => ?_⟩
        have z := t2.newL hq (reps_some rr k.toNat)
        exact hQ _ _ _ (Same.refl _) z.drop z fun y => ⟨Same.upd hq, rfl⟩
      · exact True.intro
    · exact True.intro
  · exact True.intro
end
end DL
namespace DL
open PySem PySem.Spec L2
noncomputable def dIsiI (ok : Addr → Bool) (n : String) : List D → Option D
  | [.ins C ns vs, .ty m] => if m = n then ((D.ins C ns vs).tyv ok).map fun _ => .bl false else none
  | ds => dIsi ds
theorem kit_tyno {K : PySem.W.Frag} {C : Addr} {n : String} (hm : PySem.W.kitMeta n = true) (h3 : PySem.W.subIn K (.ref C) (.type n) = some false) : PySem.W.kitOne K (.ref C) (.type n) = some false := by
  have e : (Value.ref C == Value.type n) = false := Bool.eq_false_iff.mpr fun q => by cases beq_iff_eq.mp q
  unfold PySem.W.kitOne PySem.W.kitCls
  rw [e]
  simp [hm, h3]
theorem f_isiI {K : PySem.W.Frag} {ok : Addr → Bool} {n : String} (hC : ∀ C, ok C = true → CF K C) (f : ∀ C, ok C = true → PySem.W.kitOne K (.ref C) (.type n) = some false) : CallS K (rIsi K) (dIsiI ok n) := by
  intro H xs ds c r h
  unfold dIsiI at h
  split at h
  · rename_i C ns vs m
    obtain ⟨v, v', rfl, r1, r2⟩ := reps2 r
    cases r2
    split at h
    · rename_i hm
      subst hm
      obtain ⟨t, e, h⟩ := Option.map_eq_some_iff.mp h
      subst h
      refine ⟨_, rfl, fun Q q => ⟨v, _, t, _, _, rfl, .ty _, tyv_rep hC r1 e, ?_, q⟩⟩
      have e : (if ok C = true then some (Value.ref C) else none) = some t := e
      split at e
      · rename_i hok
        cases e
        exact f C hok
      · cases e
    · cases h
  · exact f_isi _ _ _ _ r h
end DL
namespace DL
open PySem PySem.Spec L2
@[elab_as_elim] theorem ul0 {α : Type} {us : List α} {P : List α → Prop} (h : us.length = 0) (hp : P []) : P us := by
  cases us with
  | nil => exact hp
  | cons _ _ => cases h
theorem ulS {α : Type} {us : List α} {n : Nat} {P : List α → Prop} (h : us.length = n + 1) (hp : ∀ a r, r.length = n → P (a :: r)) : P us := by
  cases us with
  | nil => cases h
  | cons a r => exact hp a r (Nat.succ.inj h)
@[elab_as_elim] theorem ul1 {α : Type} {us : List α} {P : List α → Prop} (h : us.length = 1) (hp : ∀ a, P [a]) : P us := ulS h fun a r h => ul0 (P := fun r => P (a :: r)) h (hp a)
@[elab_as_elim] theorem ul2 {α : Type} {us : List α} {P : List α → Prop} (h : us.length = 2) (hp : ∀ a b, P [a, b]) : P us := ulS h fun a r h => ul1 (P := fun r => P (a :: r)) h (hp a)
@[elab_as_elim] theorem ul3 {α : Type} {us : List α} {P : List α → Prop} (h : us.length = 3) (hp : ∀ a b c, P [a, b, c]) : P us := ulS h fun a r h => ul2 (P := fun r => P (a :: r)) h (hp a)
@[elab_as_elim] theorem ul4 {α : Type} {us : List α} {P : List α → Prop} (h : us.length = 4) (hp : ∀ a b c d, P [a, b, c, d]) : P us := ulS h fun a r h => ul3 (P := fun r => P (a :: r)) h (hp a)
@[elab_as_elim] theorem ul5 {α : Type} {us : List α} {P : List α → Prop} (h : us.length = 5) (hp : ∀ a b c d e, P [a, b, c, d, e]) : P us := ulS h fun a r h => ul4 (P := fun r => P (a :: r)) h (hp a)
theorem cs_getD {l : List Addr} {i : Nat} (h : i < l.length) : l[i]? = some (l.getD i 0) := by
  rw [List.getD_eq_getElem?_getD, List.getElem?_eq_getElem h]
  rfl
section
variable {X : Cx} {pv : List V} {W : WX} {p q k l : Bool} {e a b : Expr} {es : List Expr} {pos : Pos}
noncomputable def mCutS (a : SD → ER D) (lo hi : SD → ER (Option Int)) : SD → ER OT := fun sd => (a sd).bind fun x sd1 => (lo sd1).bind fun i sd2 => (hi sd2).bind fun j sd3 => match x with
  | .scr ns => .ok (.ol ((cutL (ns.map D.int) i j).map .fz)) sd3
  | _ => .bad
theorem do_cutS {lo hi : Option Expr} {p2 : Pos} {ma : SD → ER D} {ml mh : SD → ER (Option Int)} {q1 q2 : Bool} (ha : DX X pv W p true a ma) (hl : DP X pv W q1 lo ml) (hh : DP X pv W q2 hi mh) :
    DO X pv W (p && (q1 && q2)) (.Subscript a (.Slice lo hi none p2) pos) (mCutS ma ml mh) := by
  obtain ⟨ta, a1, a2⟩ := ha
  obtain ⟨tl, b1, b2⟩ := hl
  obtain ⟨th, c1, c2⟩ := hh
  refine ⟨_, pe_slice sl_list a1 b1 c1, fun G F sd σ H Q s => ?_⟩
  refine Meets.bind (a2 G F sd σ H _ s) fun x F1 H1 dx sd1 s1 s2 s3 s4 => ?_
  refine Meets.bind (b2 G F1 sd1 σ H1 _ s2) fun i F2 H2 i' sd2 t1 t2 t3 t4 => ?_
  refine Meets.bindL (c2 G F2 sd2 σ H2 _ t2) fun j F3 H3 j' sd3 u1 u2 u3 u4 => ?_
  have t3 : i = i' := t3
  have u3 : j = j' := u3
  subst t3 u3
  have rx : Rep X.K F3 x dx := Rep.mono (t1.trans u1) (show Rep X.K F1 x dx from s3)
  cases dx with
  | scr ns =>
    intro hQ
    cases rx with
    | @scr aa _ h1 =>
      refine ⟨aa, ns.map V.int, rfl, u2.fh.seq h1, fun hp hp2 => ?_⟩
      have z := u2.newL hp2 (reps_cut i j (Reps.ints ns))
      exact hQ _ _ _ (Same.refl _) z.drop z fun _ => ⟨Same.upd hp2, rfl⟩
  | _ => exact True.intro
end
end DL
namespace DL
open PySem PySem.Spec L2 PyProof.Rows
section
variable {X : Cx} {pins : List (Addr × Obj)} {σ : L2.St} {H : Hp} {sI z : Shared} {a : Addr} {oe : Obj} {vs : Array Value} {cls : Value} {d : Option Addr}
theorem inv_made (hx : X.ex = []) (J : Inv X pins σ H sI) (k : ∀ b o, sI.heap.get? b = some o → z.heap.get? b = some o) (hn : sI.heap.get? a = none) (ha : z.heap.get? a = some oe) (hz : Zc cls d oe) (hd : oe.data = .fields vs) (na : H a = none) (os : z.os = sI.os) (ag : AllBare z.gens) :
    Inv X pins σ (upd H a (ExT cls d a)) z := by
  have no : ∀ b o, sI.heap.get? b = some o → b ≠ a := fun b o e w => by rw [w, hn] at e; cases e
  have K0 := J.kept (t' := z.toks) k
  have I : Inv X pins σ H z := ⟨K0.ok, os.trans J.os, ag, K0.base, K0.loc, K0.cell, K0.free, K0.freeC, K0.pin, K0.hok, K0.len⟩
  refine inv_track I na ?_ ?_ (fun x c e => ?_) (fun p hp => ?_) (exT_ok ha hz hd)
  · cases e : X.s_0.heap.get? a with
    | none => rfl
    | some o =>
      obtain ⟨o2, q⟩ := J.base.there a o e (by rw [hx]; exact fun z => nomatch z)
      rw [hn] at q
      cases q
  · obtain ⟨m, ⟨o, es, ep, ho, _⟩, _⟩ := J.loc
    exact (no _ _ ho).symm
  · obtain ⟨v, o, ho, _⟩ := J.cell x c e
    exact no _ _ ho
  · exact no _ _ (J.pin p hp).1
end
section
variable {X : Cx} {pv : List V} {W : WX} {p : Bool} {e : Expr} {es : List Expr} {x : Str} {pos pp : Pos}
/-- what makes an exception, as a value -/
theorem pe_exv {t : L2.St → Hp → XK → Prop} (hx : X.ex = []) (h : PMk X e t) : PE X e (fun σ H Q => t σ H fun cls d H1 => ∀ a, H1 a = none → Q (.ref a) (upd H1 a (ExT cls d a))) := by
  refine ⟨fun pins s σ H Q I q => ?_⟩
  refine wpAny_mono (h pins s σ H _ I q) (fun u s1 hu => ?_) fun _ _ x => x
  obtain ⟨a, oe, vs, sI, H1, cls, d, rfl, J, k, hn, ha, hz, hd, _, na, os, ag, _, q⟩ := hu
  exact ⟨.ref a, _, inv_made hx J k hn ha hz hd na os ag, rfl, q a na⟩
noncomputable def mExc (C : Addr) (m : SD → ER (List D)) : SD → ER D := fun sd => (m sd).bind fun ds sd1 => if ds.length ≤ 900 then .ok (.exc C [] []) sd1 else .bad
theorem dx_exc {C : Addr} {m : SD → ER (List D)} (hx : X.ex = []) (f : XMk X.K C) (hg : Gl X x) (gC : X.mg x = some (.ref C)) (ha : DA X pv W p true (e :: es) m)
    (hdb : (x == ("__debug__" : Str)) = false := by decide) (he : starEach (e :: es) X.env = (false, eval e X.env) :: starEach es X.env := by rfl) (hpl : (backTo pos (starEach es X.env)).any (·.1) = false := by rfl) :
    DX X pv W p true (.Call (.Name x pp) (e :: es) [] pos) (mExc C m) := by
  obtain ⟨ta, a1, a2⟩ := ha
  refine ⟨_, pe_exv hx (pmk_ownA PySem.F.excBase_ValueError f.q gC f.k (raises_own f.b f.t) hg a1 hdb he hpl), fun G F sd σ H Q s => ?_⟩
  refine Meets.bindL (a2 G F sd σ H _ s) fun vs F1 H1 ds sd1 s1 s2 s3 s4 => ?_
  have s3 : Reps X.K F1 vs ds := s3
  show Meets X.K pv W G σ (RSx X.K true) true sd1 F1 H1 (if ds.length ≤ 900 then .ok (.exc C [] []) sd1 else .bad) Q _
  split
  · rename_i hl
    intro hQ
    refine ⟨by rw [s3.length, sizeLine_eq]; omega, fun a hn => ?_⟩
    exact hQ (.ref a) _ _ (s2.sameNew hn) (s2.new hn) (.exc (fvs := []) upd_same (fun dx z => nomatch z) ⟨fun _ => rfl, fun _ => rfl⟩ .nil) fun _ => ⟨Same.upd hn, rfl⟩
  · exact True.intro
noncomputable def mExcX (C : Addr) (ns : List Str) (m : SD → ER (List D)) : SD → ER D := fun sd => (m sd).bind fun ds sd1 => if ds.length = ns.length ∧ 0 < ns.length ∧ ns.length ≤ 900 then .ok (.exc C ((ns.zip ds).reverse.map (·.1)) ((ns.zip ds).reverse.map (·.2))) sd1 else .bad
theorem dx_excX {C fI : Addr} {k : Nat} {fd : FuncData} {ps ns : List Str} {m : SD → ER (List D)} (hx : X.ex = []) (M : XMkI X.K C fI ns) (F : FnOk X.prog X.w X.K X.mg X.base (L2.CX X.prog X.w) k fI fd ps (spI X.K ns)) (hr : RoomG (k + 1) X.A) (hb : Binds X.K fd ps [])
    (hg : Gl X x) (hm : X.mg x = some (.ref C)) (ha : DA X pv W p true (e :: es) m)
    (hdb : (x == ("__debug__" : Str)) = false := by decide) (he : starEach (e :: es) X.env = (false, eval e X.env) :: starEach es X.env := by rfl) (hpl : (backTo pos (starEach es X.env)).any (·.1) = false := by rfl) :
    DX X pv W p true (.Call (.Name x pp) (e :: es) [] pos) (mExcX C ns m) := by
  obtain ⟨ta, a1, a2⟩ := ha
  refine ⟨_, pe_exv hx (pmk_oex M.o M.i M.t F hr.r hb .nil (fun _ _ _ _ _ _ _ z => (cx_none z).elim) hg hm a1 hdb he hpl), fun G F sd σ H Q s => ?_⟩
  refine Meets.bindL (a2 G F sd σ H _ s) fun vs F1 H1 ds sd1 s1 s2 s3 s4 => ?_
  have s3 : Reps X.K F1 vs ds := s3
  show Meets X.K pv W G σ (RSx X.K true) true sd1 F1 H1 (if ds.length = ns.length ∧ 0 < ns.length ∧ ns.length ≤ 900 then .ok (.exc C ((ns.zip ds).reverse.map (·.1)) ((ns.zip ds).reverse.map (·.2))) sd1 else .bad) Q _
  split
  · rename_i hl
    obtain ⟨hl, hl0, hl2⟩ := hl
    intro hQ
    refine ⟨by rw [s3.length]; omega, fun a hn => ?_⟩
    rw [List.append_nil]
    have hv : vs.length = ns.length := by rw [s3.length, hl]
    refine ⟨a, C, vs, rfl, hv, M.o, M.n, upd_same, fun dx hdx ne => ?_⟩
    have hdx1 : H1 dx = none := by rw [upd_ne ne] at hdx; exact hdx
    refine ⟨rfl, dx, (ns.zip vs).reverse, upd_same, by rw [upd_ne ne, upd_same], hdx1, fun b hb => ?_⟩
    -- the object itself is forgotten, its dict stays
    have e : upd (del (upd (upd (upd H1 a (exo a C none)) dx (exd dx (ns.zip vs).reverse)) a (exo a C (some dx))) a) dx (.xd (ns.zip vs).reverse) = upd H1 dx (.xd (ns.zip vs).reverse) := by
      funext b
      by_cases h1 : b = dx
      · rw [h1, upd_same, upd_same]
      · rw [upd_ne h1, upd_ne h1]
        by_cases h2 : b = a
        · rw [h2, del_same, hn]
        · rw [del_ne h2, upd_ne h2, upd_ne h1, upd_ne h2]
    rw [e] at hb ⊢
    have t1 := s2.new (u := .xd (ns.zip vs).reverse) hdx1
    have t2 := s2.sameNew (u := .xd (ns.zip vs).reverse) hdx1
    have u2 := t1.sameNew (u := ExT (.ref C) (some dx) b) hb
    refine hQ (.ref b) _ _ (t2.trans u2) (t1.new hb) ?_ fun _ => ⟨(Same.upd hdx1).trans (Same.upd hb), rfl⟩
    have nb : dx ≠ b := fun z => by rw [← z, upd_same] at hb; cases hb
    have ez : (ns.zip vs).reverse.map (·.1) = (ns.zip ds).reverse.map (·.1) := by rw [List.map_reverse, List.map_reverse, fst_zip _ _ hv, fst_zip _ _ hl]
    have z : Rep X.K (upd (upd F1 dx (.xd (ns.zip vs).reverse)) b (ExT (.ref C) (some dx) b)) (.ref b) (.exc C ((ns.zip vs).reverse.map (·.1)) ((ns.zip ds).reverse.map (·.2))) := by
      refine .exc upd_same (fun d z => by cases z; rw [upd_ne nb, upd_same]) ⟨(fun z => by cases z), fun z => ?_⟩ ?_
      · have := congrArg List.length z
        rw [List.length_reverse, List.length_zip, hv, Nat.min_self, List.length_nil] at this
        omega
      · rw [List.map_reverse, List.map_reverse, snd_zip _ _ hv, snd_zip _ _ hl]
        exact (s3.mono (t2.trans u2)).reverse
    rw [ez] at z
    exact z
  · exact True.intro
/-- ~x -/
theorem do_invO {q : Bool} {a : Expr} {C g : Addr} {fd : FuncData} {ps : List Str} {j : Nat} {gm : List OT → ER OT} {ma : SD → ER D} (hs : PySem.W.findIn X.K (.ref C) "__invert__" = some (some (.ref g))) (hf : PySem.W.isFn X.K (.ref g) = true) (F : FnG X.prog X.w X.K X.mg X.base (L2.CX X.prog X.w) j g fd ps (spD X.K 1 gm)) (hr : RoomG j X.A)
    (hb : Binds X.K fd ps []) (tk : Takes X W) (h1 : DX X pv W q true a ma) : DO X pv W q (.UnaryOp .Invert a pos) (mOwn1 C gm ma) := by
  obtain ⟨ta, a1, a2⟩ := h1
  refine ⟨fun σ H Q => ta σ H fun x H1 => InsR C x H1 ∧ spD X.K 1 gm [x] H1 Q (WE W σ), ⟨fun pins s σ H Q I hq => ?_⟩, fun G Fz sd σ H Q s => ?_⟩
  · refine PyProof.Rows.UnaryOp_ (thn (a1.run pins s σ H _ I hq) fun v s1 ⟨x, H1, I1, r1, q1⟩ => ?_)
    obtain ⟨⟨xa, dx, fs, rfl, ex⟩, q1⟩ := q1
    cases (show v = Value.ref xa from r1)
    obtain ⟨ox, od, J⟩ := ins_at I1 ex
    obtain ⟨m, hF⟩ := I1.fr
    exact PySem.W.ksp_inv hF I1.ok.mod.kin J hs hf (run_G (us := [.ref xa]) (vs := [.ref xa]) F hr hb (passAt tk σ) I1 (.cons rfl .nil) q1)
  · refine Meets.bindL (a2 G Fz sd σ H _ s) fun x F1 H1 dx sd1 s1 s2 s3 s4 => ?_
    have s3 : Rep X.K F1 x dx := s3
    split
    · rename_i h
      exact Meets.to (meets_call s2 (.one s3) rfl) fun z => ⟨isIns_rep s2.fh s3 h, z⟩
    · exact True.intro
end
noncomputable def relT2 (cs : Nat → Addr) (N B : Nat) (R Nn R1 : List Nat) (i : Nat) : Value → Option Bool
  | .ref E => (ixOf cs N E).bind fun j => if (R.contains i && Nn.contains j) = true then some (i == j || j == B) else if (R1.contains i && j == B) = true then some true else none
  | .type n => if ((R.contains i || R1.contains i) && n == "ValueError") = true then some true else none
  | _ => none
noncomputable def relX2 (cs : Nat → Addr) (N B : Nat) (R Nn R1 : List Nat) : XRel := fun C u => (ixOf cs N C).bind fun i => relT2 cs N B R Nn R1 i u
theorem relX2_ok {K : PySem.W.Frag} {cs : Nat → Addr} {N B : Nat} {R Nn R1 : List Nat} (c : ∀ i ∈ R, ExcC K (cs i)) (r : ∀ i ∈ R, ∀ j ∈ Nn, PySem.W.kitOne K (.ref (cs i)) (.ref (cs j)) = some (i == j || j == B))
    (v : ∀ i ∈ R, PySem.W.kitOne K (.ref (cs i)) (.type "ValueError") = some true) (c1 : ∀ i ∈ R1, ExcC K (cs i)) (r1 : ∀ i ∈ R1, PySem.W.kitOne K (.ref (cs i)) (.ref (cs B)) = some true)
    (v1 : ∀ i ∈ R1, PySem.W.kitOne K (.ref (cs i)) (.type "ValueError") = some true) : XRelOk K (relX2 cs N B R Nn R1) := by
  have go : ∀ C u b, relX2 cs N B R Nn R1 C u = some b → ExcC K C ∧ PySem.W.kitOne K (.ref C) u = some b := fun C u b h => by
    obtain ⟨i, hi, h2⟩ := Option.bind_eq_some_iff.mp (show (ixOf cs N C).bind (fun i => relT2 cs N B R Nn R1 i u) = some b from h)
    rw [← (ixOf_some hi).2]
    cases u with
    | ref E =>
      obtain ⟨j, hj, h3⟩ := Option.bind_eq_some_iff.mp (show (ixOf cs N E).bind (fun j => if (R.contains i && Nn.contains j) = true then some (i == j || j == B) else if (R1.contains i && j == B) = true then some true else none) = some b from h2)
      rw [← (ixOf_some hj).2]
      split at h3
      · rename_i hc
        obtain ⟨q1, q2⟩ := Bool.and_eq_true_iff.mp hc
        injection h3 with h3
        rw [← h3]
        exact ⟨c i (List.contains_iff_mem.mp q1), r i (List.contains_iff_mem.mp q1) j (List.contains_iff_mem.mp q2)⟩
      · split at h3
        · rename_i hc
          obtain ⟨q1, q2⟩ := Bool.and_eq_true_iff.mp hc
          injection h3 with h3
          rw [← h3, beq_iff_eq.mp q2]
          exact ⟨c1 i (List.contains_iff_mem.mp q1), r1 i (List.contains_iff_mem.mp q1)⟩
        · cases h3
    | type n =>
      have h3 : (if ((R.contains i || R1.contains i) && n == "ValueError") = true then some true else none) = some b := h2
      split at h3
      · rename_i hc
        obtain ⟨q1, q2⟩ := Bool.and_eq_true_iff.mp hc
        injection h3 with h3
        rw [← h3, beq_iff_eq.mp q2]
        rcases Bool.or_eq_true_iff.mp q1 with q1 | q1
        · exact ⟨c i (List.contains_iff_mem.mp q1), v i (List.contains_iff_mem.mp q1)⟩
        · exact ⟨c1 i (List.contains_iff_mem.mp q1), v1 i (List.contains_iff_mem.mp q1)⟩
      · cases h3
    | _ => cases h2
  exact ⟨fun C u b h => (go C u b h).1, fun C u b h => (go C u b h).2⟩
end DL
namespace DL
open PySem PySem.Spec L2 PyProof.Rows
theorem back_places (n : Nat) : Builtin.Slice.slicePlaces ((n : Int) - 1) (-1) (-1) = n := by
  unfold Builtin.Slice.slicePlaces
  rw [if_neg (by decide)]
  by_cases h : n = 0
  · subst h; rfl
  · rw [if_pos (by omega), show -(-1 : Int) = 1 from rfl, Int.ediv_one]
    omega
theorem fm_same {α β : Type} {f g : α → Option β} : ∀ (l : List α), (∀ a ∈ l, f a = g a) → l.filterMap f = l.filterMap g
  | [], _ => rfl
  | a :: r, h => by
    rw [List.filterMap_cons, List.filterMap_cons, h a List.mem_cons_self, fm_same r fun b hb => h b (List.mem_cons_of_mem _ hb)]
theorem back_pick (its : Array Value) : ((List.range its.size).filterMap fun (m : Nat) => its[(((its.size : Int) - 1) + (m : Int) * (-1)).toNat]?).toArray = its.toList.reverse.toArray := by
  have e := HT.pick_gen its.toList.reverse.toArray 0 its.size
  have l : its.toList.reverse.length = its.size := by rw [List.length_reverse, Array.length_toList]
  have r : ((its.toList.reverse.toArray.toList.drop 0).take its.size).toArray = its.toList.reverse.toArray := by
    rw [List.drop_zero, List.take_of_length_le (by rw [List.toList_toArray, l]; exact Nat.le_refl _)]
  rw [r] at e
  rw [← e]
  congr 1
  refine fm_same _ fun m hm => ?_
  have hm := List.mem_range.mp hm
  have i1 : (((its.size : Int) - 1) + (m : Int) * (-1)).toNat = its.size - 1 - m := by omega
  have i2 : (((0 : Nat) : Int) + (m : Int) * 1).toNat = m := by omega
  have i3 : its.toList.reverse.toArray[m]? = its.toList.reverse[m]? := by simp
  rw [i1, i2, i3, List.getElem?_reverse (by rw [Array.length_toList]; exact hm), Array.length_toList, Array.getElem?_toList]
section
variable {prog : Program} {w : World} {A : Around} {E : Value → Shared → Prop} {s : Shared}
theorem back_item {t sl : Addr} {its : Array Value} {vm : Value} {Q : Value → Shared → Prop} (ht : IsTup s.heap t its) (hsl : s.heap.IsSliceOf sl .none .none vm) (pm : IsPart vm (some (-1)))
    (h : Q (.ref s.heap.objs.size) { s with heap := s.heap.push { cls := .type "tuple", data := .seq its.toList.reverse.toArray } }) (hz : its.size ≤ sizeLine) : wpAny (model prog w) A (getItem (.ref t) (.ref sl)) Q E s := by
  have hok : sizeOk (.seq its.toList.reverse.toArray) := by
    show its.toList.reverse.toArray.size ≤ sizeLine
    rw [List.size_toArray, List.length_reverse, Array.length_toList]
    exact hz
  obtain ⟨ob, hob, hcl, hdt⟩ := id hsl
  have hT2 : s.TypeIs (.ref sl) "slice" := ⟨ob, hob, hcl⟩
  have parts : ∀ {B : Around} {R : Int × Int × Nat → Shared → Prop}, R ((its.size : Int) - 1, -1, its.size) s → wpAny (model prog w) B (Builtin.Slice.sliceApplied (.ref sl) (pure (its.size : Int))) R E s := fun {B R} hR => by
    unfold Builtin.Slice.sliceApplied Builtin.Slice.sliceFields
    refine wpAny_bind (wpAny_bind (wpAny_field hob hdt (x := .none) rfl (wpAny_bind (wpAny_field hob hdt (x := .none) rfl (wpAny_bind (wpAny_field hob hdt (x := vm) rfl (wpAny_pure ?_)))))))
    refine wpAny_bind (HT.slicePart_ pm ?_)
    show wpAny _ _ (if ((-1 : Int) == 0) = true then _ else _) _ _ s
    rw [if_neg (by decide)]
    refine wpAny_bind (slicePart_none (wpAny_bind (slicePart_none (wpAny_bind (wpAny_pure ?_)))))
    show wpAny _ _ (pure ((its.size : Int) - 1, (-1 : Int), Builtin.Slice.slicePlaces ((its.size : Int) - 1) (-1) (-1))) _ _ s
    rw [back_places]
    exact wpAny_pure hR
  unfold getItem
  try with_reducible refine wpAny_holding ?_
  first | (refine wpAny_bind (wpAny_pure ?_)) | skip
  refine wpAny_bind (wpAny_sequenceKey ht.typeIs (by decide) (wpAny_bind (wpAny_callSpecial?_slot (name := Str.ofString "__getitem__") ht.typeIs slot_tuple_getitem (wpAny_call_entry slot_tuple_getitem ht.typeIs entry_tuple_getitem ?_ (args_tuple_getitem _ _)))))
  show wpAny _ _ (Builtin.Tuple.tupleItemsOf (.ref t) >>= _) _ _ s
  refine wpAny_bind (tupleItemsOf_ ht (wpAny_bind (wpAny_typeOf hT2 ?_)))
  rw [if_pos (by decide)]
  refine wpAny_bind (parts ?_)
  show wpAny _ _ (if (((its.size : Int) - 1) == 0 && (-1 : Int) == 1 && its.size == its.size) = true then _ else _) _ _ s
  rw [if_neg (by simp), back_pick]
  first
    | exact wpAny_bind (m := Builtin.Tuple.tupleExact _) (wpAny_newObj_type (wpAny_pure ⟨_, rfl, wpAny_pure h⟩) hok)
    | exact wpAny_bind (m := Builtin.Tuple.tupleExact _) (wpAny_newObj_type (wpAny_bind (wpAny_pure (wpAny_pure ⟨_, rfl, wpAny_pure h⟩))) hok)
    | exact wpAny_bind (wpAny_bind (m := Builtin.Tuple.tupleExact _) (wpAny_newObj_type (wpAny_pure (wpAny_pure ⟨_, rfl, wpAny_pure h⟩)) hok))
    | exact wpAny_bind (wpAny_bind (m := Builtin.Tuple.tupleExact _) (wpAny_newObj_type (wpAny_pure ⟨_, rfl, wpAny_pure h⟩) hok))
end
section
variable {X : Cx} {pv : List V} {W : WX} {p : Bool} {a st : Expr} {p3 pos : Pos}
/-- t[::-1] of a tuple: a new one -/
theorem pe_back {e : Expr} {te : TE} {st : Expr} {ts : TO} (he : PE X e te) (hst : PO X (some st) ts) : PE X (.Subscript e (.Slice none none (some st) p3) pos) (fun σ H Q => te σ H fun x H1 => ts σ H1 fun o H4 => o = some (-1) ∧ ∃ b xs, x = .ref b ∧ SqT X.K H4 b xs ∧ ∀ q, H4 q = none → Q (.ref q) (upd H4 q (.tup xs.reverse))) := by
  refine ⟨fun pins s σ H Q I h => ?_⟩
  refine Subscript_ (thn (he.run pins s σ H _ I h) fun v s1 ⟨x, H1, I1, r1, q1⟩ => ?_)
  refine wpAny_Slice (thn (po_none.run pins s1 σ H1 (fun l H2 => l = none ∧ H2 = H1) I1 ⟨rfl, rfl⟩) fun vl s2 ⟨l, H2, I2, pl, el, eH⟩ => ?_)
  subst el eH
  refine thn (po_none.run pins s2 σ H2 (fun l H3 => l = none ∧ H3 = H2) I2 ⟨rfl, rfl⟩) fun vu s3 ⟨u, H3, I3, pu, eu, eH⟩ => ?_
  subst eu eH
  refine thn (hst.run pins s3 σ H3 _ I3 q1) fun vs s4 ⟨o, H4, I4, ps, q4⟩ => ?_
  obtain ⟨eo, b, xs, ex, hx, q⟩ := q4
  subst eo ex
  cases r1
  cases pl
  cases pu
  have I5 : Inv X pins σ H4 { s4 with heap := s4.heap.push { cls := .type "slice", data := .fields #[.none, .none, vs] } } := I4.kept (t' := s4.toks) fun c oc w => Heap.get?_push_of_some _ w
  obtain ⟨its, r, ht, hz⟩ := I5.tuple hx
  have hlen := r.length
  show wpAny (model X.prog X.w) X.A (PyProof.Rows.subscriptTail e (.Slice none none (some st) p3) (.ref b) (.ref s4.heap.objs.size)) (EP X pins σ Q) X.xe { s4 with heap := s4.heap.push { cls := .type "slice", data := .fields #[.none, .none, vs] } }
  refine tail_any (ops := [.ref b, .ref s4.heap.objs.size]) ht.typeIs slot_tuple_getitem.lookup ?_ (by with_unfolding_all rfl)
  refine back_item ht (Heap.IsSliceOf.new _ .none .none vs) ps ?_ (by rw [List.size_toArray]; omega)
  refine ⟨.ref _, _, I5.laid (t' := s4.toks) (o := .tup xs.reverse) (fun c oc w => Heap.get?_push_of_some _ w) (Nat.le_refl _) ?_, rfl, q _ (I5.hok.fresh (Nat.le_refl _))⟩
  exact ⟨by rw [List.length_reverse]; exact hz, _, r.reverse, IsTup.new _ _⟩
noncomputable def mBack (m : SD → ER D) (ms : SD → ER (Option Int)) : SD → ER D := fun sd => (m sd).bind fun x sd1 => (ms sd1).bind fun o sd2 => match x, o with
  | .tup ds, some i => if i = -1 then .ok (.tup ds.reverse) sd2 else .bad
  | _, _ => .bad
theorem dx_back {q1 : Bool} {m : SD → ER D} {ms : SD → ER (Option Int)} (ha : DX X pv W p true a m) (hst : DP X pv W q1 (some st) ms) : DX X pv W (p && q1) true (.Subscript a (.Slice none none (some st) p3) pos) (mBack m ms) := by
  obtain ⟨ta, a1, a2⟩ := ha
  obtain ⟨ts, d1, d2⟩ := hst
  refine ⟨_, pe_back a1 d1, fun G F sd σ H Q s => ?_⟩
  refine Meets.bind (a2 G F sd σ H _ s) fun x F1 H1 dx sd1 s1 s2 s3 s4 => ?_
  refine Meets.bindL (d2 G F1 sd1 σ H1 _ s2) fun o F4 H4 o' sd4 v1 v2 v3 v4 => ?_
  have v3 : o = o' := v3
  subst v3
  have rx : Rep X.K F4 x dx := Rep.mono v1 (show Rep X.K F1 x dx from s3)
  cases dx with
  | tup ds =>
    cases o with
    | none => exact True.intro
    | some i =>
      show Meets X.K pv W G σ (RSx X.K true) true sd4 F4 H4 (if i = -1 then .ok (.tup ds.reverse) sd4 else .bad) Q _
      split
      · rename_i hi
        subst hi
        intro hQ
        cases rx with
        | @tup b vs _ h1 h2 =>
          refine ⟨rfl, b, vs, rfl, .inl (.inl (v2.fh _ _ h1)), fun q hq => ?_⟩
          exact hQ _ _ _ (v2.sameNew hq) (v2.new hq) (.tup upd_same (h2.mono (v2.sameNew hq)).reverse) fun _ => ⟨Same.upd hq, rfl⟩
      · exact True.intro
  | _ => exact True.intro
end
end DL
namespace DL
open PySem PySem.Spec L2 PyProof.Rows
noncomputable def mKd (tab : List (Str × Str)) (m : SD → ER D) : SD → ER D := fun sd => (m sd).bind fun x sd1 => match x with
  | .str z => ER.opt ((tab.lookup z).map .str) sd1
  | _ => .bad
theorem kd_cons {K : PySem.W.Frag} {w : World} {A : Addr} {k v : Str} {r : List (Str × Str)} (h : KDct K w A k (.str v)) (hr : ∀ z u, r.lookup z = some u → KDct K w A z (.str u)) : ∀ z u, ((k, v) :: r).lookup z = some u → KDct K w A z (.str u) := fun z u e => by
  rw [List.lookup_cons] at e
  cases q : z == k with
  | true =>
    rw [q] at e
    cases e
    rw [beq_iff_eq.mp q]
    exact h
  | false =>
    rw [q] at e
    exact hr z u e
theorem kd_nil {K : PySem.W.Frag} {w : World} {A : Addr} : ∀ z u, ([] : List (Str × Str)).lookup z = some u → KDct K w A z (.str u) := fun z u e => by cases e
theorem kd_one {K : PySem.W.Frag} {w : World} {A : Addr} {es : Array DictEntry} {n : Nat} {ks : List Str} {k v : Str} {t : Tok} (h1 : K.lookup A = some ⟨.type "dict", none, .dict es n, #[]⟩) (h2 : es.toList.map He.keyOf = He.keysIn w.params ks) (h3 : PySem.W.nsIn K A k = some (some (.str v t))) : KDct K w A k (.str v) :=
  ⟨es, n, _, h1, He.keysLit_of h2, h3, t, rfl⟩
section
variable {X : Cx} {pv : List V} {W : WX} {q : Bool} {b : Expr} {x : Str} {pp pos : Pos}
theorem dx_kd {A : Addr} {tab : List (Str × Str)} {m : SD → ER D} (hg : Gl X x) (hm : X.mg x = some (.ref A)) (ht : ∀ z v, tab.lookup z = some v → KDct X.K X.w A z (.str v)) (hb : DX X pv W q true b m)
    (hd : (x == ("__debug__" : Str)) = false := by decide) (hs : PlainIx b := by exact fun _ _ => rfl) : DX X pv W q true (.Subscript (.Name x pp) b pos) (mKd tab m) := by
  obtain ⟨tb, b1, b2⟩ := hb
  refine ⟨_, pe_ix ix_kdict (pe_glob (v := .ref A) hg hm rfl hd) b1 hs, fun G F sd σ H Q s => ?_⟩
  refine Meets.bindL (b2 G F sd σ H _ s) fun y F1 H1 dy sd1 s1 s2 s3 s4 => ?_
  have r : Rep X.K F1 y dy := s3
  cases dy with
  | str z =>
    cases r
    show Meets X.K pv W G σ (RSx X.K true) true sd1 F1 H1 (ER.opt ((tab.lookup z).map .str) sd1) Q _
    cases e : tab.lookup z with
    | none => exact True.intro
    | some v =>
      intro hQ
      exact ⟨A, z, .str v, rfl, rfl, ht z v e, hQ _ _ _ (Same.refl _) s2 (.str v) fun _ => ⟨Same.refl _, rfl⟩⟩
  | _ => exact True.intro
theorem pe_call00 {k : Nat} {f : Addr} {fd : FuncData} {ps : List Str} {sp : Sp} (F : FnG X.prog X.w X.K X.mg X.base (L2.CX X.prog X.w) k f fd ps sp) (hr : RoomG k X.A) (hg : Gl X x) (hm : X.mg x = some (.ref f)) (hk : PySem.W.keepIn X.K (.ref f) = true) (hb : Binds X.K fd ps []) (tk : Takes X W)
    (hd : (x == ("__debug__" : Str)) = false := by decide) : PE X (.Call (.Name x pp) [] [] pos) (fun σ H Q => tNil σ H fun vs H1 => sp vs H1 Q (WE W σ)) :=
  ⟨fun pins s σ H Q I h => wpAny_Call_Name_kw (ld_glob I hg hm (PySem.W.callWith_K0 I.kIn hk (run_G (us := []) (vs := []) F hr hb (passAt tk σ) I .nil h)) hd)⟩
/-- f() -/
theorem do_call00 {j : Nat} {f : Addr} {fd : FuncData} {ps : List Str} {g : List OT → ER OT} (F : FnG X.prog X.w X.K X.mg X.base (L2.CX X.prog X.w) j f fd ps (spD X.K 0 g)) (hr : RoomG j X.A) (hg : Gl X x) (hm : X.mg x = some (.ref f)) (hk : PySem.W.keepIn X.K (.ref f) = true) (hb : Binds X.K fd ps []) (tk : Takes X W)
    (hd : (x == ("__debug__" : Str)) = false := by decide) : DO X pv W true (.Call (.Name x pp) [] [] pos) (mCall0 g mNil) :=
  ⟨_, pe_call00 F hr hg hm hk hb tk hd, tr_call0 rfl len_nil fun G F sd σ H Q s => Meets.here (p := true) s (show RSl X.K true G F sd H σ [] [] from .nil) id⟩
end
end DL
namespace Lw
open PySem PySem.Spec L2 DL
/-- the classes of which instances are made -/
noncomputable def okC (cs : Nat → Addr) (C : Addr) : Bool := C == cs 0
noncomputable def CsOk (cs : Nat → Addr) : Prop := ∀ i j, i < 31 → j < 31 → cs i = cs j → i = j
/-- which exception is of which class -/
noncomputable def relC (cs : Nat → Addr) : XRel := relX2 cs 31 1 [11, 6, 5, 7, 4, 1] [2, 11, 1, 29, 30, 25, 15, 18, 19, 22, 12, 27, 16, 23, 14, 13, 17, 26, 21, 24, 20, 28, 3, 6, 7, 8, 9, 10, 4, 5] [2, 8, 9, 10, 16, 12, 13, 14, 15, 17, 18, 19, 20, 21, 28, 22, 23, 24, 25, 26, 27, 29, 30, 3]
noncomputable def xT (cs : Nat → Addr) : Addr → Bool := xTest cs 31 [2, 11, 6, 5, 7, 4]
noncomputable def m__law_made_right_1 (cs : Nat → Addr) : SD → Fl := sSet 0 (mLst (mCons (mExc (cs 6) (mCons (mC (.str "x")) (mNil))) (mCons (mExc (cs 7) (mCons (mC (.str "x")) (mNil))) (mCons (mExc (cs 8) (mCons (mC (.str "x")) (mNil))) (mCons (mExc (cs 9) (mCons (mC (.str "x")) (mNil))) (mCons (mExc (cs 10) (mCons (mC (.str "x")) (mNil))) (mNil)))))))
noncomputable def m__law_made_right_2 (cs : Nat → Addr) : SD → Fl := sSet 0 (mCat (qSee 0) (qNew (mLst (mCons (mExc (cs 11) (mCons (mC (.str "x")) (mNil))) (mCons (mExc (cs 12) (mCons (mC (.str "x")) (mNil))) (mCons (mExc (cs 13) (mCons (mC (.str "x")) (mNil))) (mCons (mExc (cs 14) (mCons (mC (.str "x")) (mNil))) (mCons (mExc (cs 15) (mCons (mC (.str "x")) (mNil))) (mNil)))))))))
noncomputable def m__law_made_right_3 (cs : Nat → Addr) : SD → Fl := sApp 0 (mOwn (mExc (cs 16) (mCons (mC (.str "x")) (mNil))))
noncomputable def m__law_made_right_4 (cs : Nat → Addr) : SD → Fl := sSet 0 (mCat (qSee 0) (qNew (mLst (mCons (mExc (cs 17) (mCons (mC (.str "x")) (mNil))) (mCons (mExc (cs 18) (mCons (mC (.str "x")) (mNil))) (mCons (mExc (cs 19) (mCons (mC (.str "x")) (mNil))) (mCons (mExc (cs 20) (mCons (mC (.str "x")) (mNil))) (mCons (mExc (cs 21) (mCons (mC (.str "x")) (mNil))) (mCons (mExc (cs 28) (mCons (mC (.str "x")) (mNil))) (mNil))))))))))
noncomputable def m__law_made_right_5 (cs : Nat → Addr) : SD → Fl := sSet 0 (mCat (qSee 0) (qNew (mLst (mCons (mExc (cs 22) (mCons (mC (.str "x")) (mNil))) (mCons (mExc (cs 23) (mCons (mC (.str "x")) (mNil))) (mCons (mExc (cs 24) (mCons (mC (.str "x")) (mNil))) (mCons (mExc (cs 25) (mCons (mC (.str "x")) (mNil))) (mCons (mExc (cs 26) (mCons (mC (.str "x")) (mNil))) (mNil)))))))))
noncomputable def m__law_made_right_6 (cs : Nat → Addr) : SD → Fl := sSet 0 (mCat (qSee 0) (qNew (mLst (mCons (mExc (cs 27) (mCons (mC (.str "x")) (mNil))) (mCons (mExc (cs 29) (mCons (mC (.str "x")) (mNil))) (mCons (mExc (cs 30) (mCons (mC (.str "x")) (mNil))) (mCons (mExcX (cs 2) ["index"] (mCons (mC (.int 3)) (mNil))) (mCons (mExcX (cs 3) ["line", "index"] (mCons (mC (.int 1)) (mCons (mC (.int 2)) (mNil)))) (mNil)))))))))
noncomputable def m__law_made_right_7 (cs : Nat → Addr) : SD → Fl := sRet (mOwn (mC (.bl false)))
noncomputable def m__law_made_right_8 (cs : Nat → Addr) : SD → Fl := sIf (mOr (mNot (mTest (mCall (dIsF (relC cs)) (mCons (mVar 1) (mCons (mC (.cls (cs 1))) (mNil)))))) (mNot (mTest (mCall (dIsF (relC cs)) (mCons (mVar 1) (mCons (mC (.ty "ValueError")) (mNil))))))) ((m__law_made_right_7 cs)) (sNil)
noncomputable def m__law_made_right_b1 (cs : Nat → Addr) : SD → Fl := (m__law_made_right_8 cs)
noncomputable def m__law_made_right_9 (cs : Nat → Addr) : SD → Fl := sFor (iLst (mView (mCat (qSee 0) (qNew (mLst (mCons (mExcX (cs 4) ["limit"] (mCons (mC (.int 12)) (mNil))) (mCons (mExcX (cs 5) ["limit"] (mCons (mC (.int 60)) (mNil))) (mNil)))))))) (tgN 1) ((m__law_made_right_b1 cs))
noncomputable def m__law_made_right_10 (cs : Nat → Addr) : SD → Fl := sSet 2 (mFz (mLst (mCons (mFldX (fun C => C == cs 2 || C == cs 3) "index" (mExcX (cs 2) ["index"] (mCons (mC (.int 3)) (mNil)))) (mCons (mFldX (fun C => C == cs 3) "line" (mExcX (cs 3) ["line", "index"] (mCons (mC (.int 1)) (mCons (mC (.int 2)) (mNil))))) (mCons (mFldX (fun C => C == cs 2 || C == cs 3) "index" (mExcX (cs 3) ["line", "index"] (mCons (mC (.int 1)) (mCons (mC (.int 2)) (mNil))))) (mCons (mFldX (fun C => C == cs 4 || C == cs 5) "limit" (mExcX (cs 4) ["limit"] (mCons (mC (.int 12)) (mNil)))) (mNil)))))))
noncomputable def m__law_made_right_11 (cs : Nat → Addr) : SD → Fl := sRet (mOwn (mAndV (mOp dEq (mView (mCat (qFz (mVar 2)) (qNew (mLst (mCons (mFldX (fun C => C == cs 4 || C == cs 5) "limit" (mExcX (cs 5) ["limit"] (mCons (mC (.int 60)) (mNil)))) (mNil)))))) (mView (mLst (mCons (mC (.int 3)) (mCons (mC (.int 1)) (mCons (mC (.int 2)) (mCons (mC (.int 12)) (mCons (mC (.int 60)) (mNil))))))))) (mNotV (mCall (dIsF (relC cs)) (mCons (mExc (cs 1) (mCons (mC (.str "x")) (mNil))) (mCons (mTup (mCons (mC (.cls (cs 2))) (mCons (mC (.cls (cs 11))) (mNil)))) (mNil)))))))
noncomputable def m__law_made_right (cs : Nat → Addr) : List OT → ER OT := asDef 3 (
    sSeq ((m__law_made_right_1 cs))
    (sSeq ((m__law_made_right_2 cs))
    (sSeq ((m__law_made_right_3 cs))
    (sSeq ((m__law_made_right_4 cs))
    (sSeq ((m__law_made_right_5 cs))
    (sSeq ((m__law_made_right_6 cs))
    (sSeq ((m__law_made_right_9 cs))
    (sSeq ((m__law_made_right_10 cs))
    ((m__law_made_right_11 cs))))))))))
noncomputable def m__law_bag_1 (cs : Nat → Addr) : SD → Fl := sRet (mLst (mCons (mCall dMax (mCons (mC (.int 0)) (mCons (mOp dSub (mVar 0) (mOp dPow (mC (.int 10)) (mC (.int 18)))) (mNil)))) (mCons (mVar 0) (mCons (mC (.int 0)) (mNil)))))
noncomputable def m__law_bag (cs : Nat → Addr) : List OT → ER OT := asDef 1 (
    (m__law_bag_1 cs))
noncomputable def m__law_pick_1 (cs : Nat → Addr) : SD → Fl := sSetAt 0 (mC (.int 2)) (mOwn (mOp dAdd (mAt (qSee 0) (mC (.int 2))) (mC (.int 1))))
noncomputable def m__law_pick_2 (cs : Nat → Addr) : SD → Fl := sSet 2 (mOwn (mOp dMod (mAt (qSee 0) (mC (.int 0))) (mVar 1)))
noncomputable def m__law_pick_3 (cs : Nat → Addr) : SD → Fl := sSetAt 0 (mC (.int 0)) (mOwn (mOp dDiv (mAt (qSee 0) (mC (.int 0))) (mVar 1)))
noncomputable def m__law_pick_4 (cs : Nat → Addr) : SD → Fl := sRet (mOwn (mVar 2))
noncomputable def m__law_pick_5 (cs : Nat → Addr) : SD → Fl := sIf (mTest (mOp dGt (mAt (qSee 0) (mC (.int 0))) (mC (.int 0)))) (sSeq ((m__law_pick_2 cs)) (sSeq ((m__law_pick_3 cs)) ((m__law_pick_4 cs)))) (sNil)
noncomputable def m__law_pick_6 (cs : Nat → Addr) : SD → Fl := sSet 3 (mOwn (mOp dMod (mOp dAdd (mOp dAdd (mOp dMul (mOp dMod (mAt (qSee 0) (mC (.int 1))) (mC (.int 2147483629))) (mC (.int 48271))) (mOp dMul (mAt (qSee 0) (mC (.int 2))) (mC (.int 69621)))) (mC (.int 12345))) (mC (.int 2147483647))))
noncomputable def m__law_pick_7 (cs : Nat → Addr) : SD → Fl := sSet 4 (mOwn (mOp dMod (mOp dAdd (mOp dMul (mVar 3) (mVar 3)) (mOp dMul (mAt (qSee 0) (mC (.int 2))) (mC (.int 40692)))) (mC (.int 2147483587))))
noncomputable def m__law_pick_8 (cs : Nat → Addr) : SD → Fl := sRet (mOwn (mOp dMod (mOp dDiv (mOp dAdd (mOp dMul (mVar 3) (mC (.int 2147483587))) (mVar 4)) (mC (.int 32))) (mVar 1)))
noncomputable def m__law_pick (cs : Nat → Addr) : List OT → ER OT := asDef 5 (
    sSeq ((m__law_pick_1 cs))
    (sSeq ((m__law_pick_5 cs))
    (sSeq ((m__law_pick_6 cs))
    (sSeq ((m__law_pick_7 cs))
    ((m__law_pick_8 cs))))))
noncomputable def m__law_number_1 (cs : Nat → Addr) : SD → Fl := sRet (mOwn (mCall dStr1 (mCons (mOp dAdd (mC (.int 2)) (mView (mCall1 (m__law_pick cs) (rSlot 0 (rFz (mOp dIx (mView (mLst (mCons (mC (.int 2)) (mCons (mC (.int 3)) (mCons (mC (.int 9)) (mCons (mC (.int 60)) (mCons (mOp dSub (mOp dPow (mC (.int 10)) (mC (.int 30))) (mC (.int 1))) (mNil)))))))) (mView (mCall1 (m__law_pick cs) (rSlot 0 (rFz (mOp dAdd (mC (.int 2)) (mOp dMul (mC (.int 3)) (mVar 1))) (rNil)))))) (rNil)))))) (mNil))))
noncomputable def m__law_number (cs : Nat → Addr) : List OT → ER OT := asDef 2 (
    (m__law_number_1 cs))
noncomputable def m__law_words_1 (cs : Nat → Addr) (rec : List OT → ER OT) : SD → Fl := sSet 5 (mLst (mNil))
noncomputable def m__law_words_2 (cs : Nat → Addr) (rec : List OT → ER OT) : SD → Fl := sSet 6 (mOwn (mOp dAdd (mC (.int 1)) (mView (mCall1 (m__law_pick cs) (rSlot 0 (rFz (mVar 1) (rNil)))))))
noncomputable def m__law_words_3 (cs : Nat → Addr) (rec : List OT → ER OT) : SD → Fl := sSet 7 (mFz (mCall1 (m__law_pick cs) (rSlot 0 (rFz (mC (.int 5)) (rNil)))))
noncomputable def m__law_words_4 (cs : Nat → Addr) (rec : List OT → ER OT) : SD → Fl := sSet 8 (mOwn (mOp dSub (mVar 6) (mCall dLen (mCons (mSee 5) (mNil)))))
noncomputable def m__law_words_5 (cs : Nat → Addr) (rec : List OT → ER OT) : SD → Fl := sSet 9 (mFz (mCall1 (rec) (rSlot 0 (rFz (mOp dSub (mVar 8) (mC (.int 2))) (rFz (mOp dSub (mVar 2) (mC (.int 1))) (rFz (mVar 3) (rFz (mVar 4) (rNil))))))))
noncomputable def m__law_words_6 (cs : Nat → Addr) (rec : List OT → ER OT) : SD → Fl := sSet 5 (mCat (qFz (mView (mCat (qNew (mCat (qSee 5) (qNew (mLst (mCons (mC (.str "(")) (mNil)))))) (qFz (mVar 9))))) (qNew (mLst (mCons (mOp dAdd (mC (.str ")")) (mView (mCall1 (m__law_number cs) (rSlot 0 (rFz (mVar 4) (rNil)))))) (mNil)))))
noncomputable def m__law_words_7 (cs : Nat → Addr) (rec : List OT → ER OT) : SD → Fl := sApp 5 (mOwn (mOp dAdd (mOp dIx (mVar 3) (mView (mCall1 (m__law_pick cs) (rSlot 0 (rFz (mCall dLen (mCons (mVar 3) (mNil))) (rNil)))))) (mOp dIx (mView (mLst (mCons (mC (.str "")) (mCons (mView (mCall1 (m__law_number cs) (rSlot 0 (rFz (mVar 4) (rNil))))) (mNil))))) (mCall dInt2 (mCons (mOp dEq (mVar 7) (mC (.int 1))) (mNil))))))
noncomputable def m__law_words_8 (cs : Nat → Addr) (rec : List OT → ER OT) : SD → Fl := sIf (mAnd (mTest (mOp dEq (mVar 7) (mC (.int 0)))) (mAnd (mTest (mOp dGt (mVar 2) (mC (.int 0)))) (mTest (mOp dGt (mVar 8) (mC (.int 2)))))) (sSeq ((m__law_words_5 cs rec)) ((m__law_words_6 cs rec))) ((m__law_words_7 cs rec))
noncomputable def m__law_words_b1 (cs : Nat → Addr) (rec : List OT → ER OT) : SD → Fl := sSeq ((m__law_words_3 cs rec)) (sSeq ((m__law_words_4 cs rec)) ((m__law_words_8 cs rec)))
noncomputable def m__law_words_9 (cs : Nat → Addr) (rec : List OT → ER OT) : SD → Fl := sWhile (fun _ => 100000) (mTest (mOp dLt (mCall dLen (mCons (mSee 5) (mNil))) (mVar 6))) ((m__law_words_b1 cs rec))
noncomputable def m__law_words_10 (cs : Nat → Addr) (rec : List OT → ER OT) : SD → Fl := sRet (mTake 5)
noncomputable def m__law_words_r (cs : Nat → Addr) (rec : List OT → ER OT) : List OT → ER OT := asDef 10 (
    sSeq ((m__law_words_1 cs rec))
    (sSeq ((m__law_words_2 cs rec))
    (sSeq ((m__law_words_9 cs rec))
    ((m__law_words_10 cs rec)))))
noncomputable def m__law_words (cs : Nat → Addr) : Nat → List OT → ER OT
  | 0 => fun _ => .bad
  | n + 1 => m__law_words_r cs (m__law_words cs n)
noncomputable def m_words_of_1 (cs : Nat → Addr) : SD → Fl := sRet (mOwn (mIf (mTest (mOp dNe (mVar 0) (mC (.str "")))) (mView (mBmL D.isS dSplit (mVar 0) (mCons (mC (.str " ")) (mNil)))) (mView (mLst (mNil)))))
noncomputable def m_words_of (cs : Nat → Addr) : List OT → ER OT := asDef 1 (
    (m_words_of_1 cs))
noncomputable def m_is_number_1 (cs : Nat → Addr) : SD → Fl := sRet (mOwn (mC (.bl false)))
noncomputable def m_is_number_2 (cs : Nat → Addr) : SD → Fl := sIf (mOr (mNot (mTest (mChain dLe dLe (mC (.int 1)) (mCall dLen (mCons (mVar 0) (mNil))) (mC (.int 31))))) (mTest (mOp dEq (mOp dIx (mVar 0) (mC (.int 0))) (mC (.str "0"))))) ((m_is_number_1 cs)) (sNil)
noncomputable def m_is_number_c1 (cs : Nat → Addr) : SD → ER OT := mComp (iStrD (mVar 0)) (tgN 1) (mYes) (mOp (dIn false) (mVar 1) (mC (.str "0123456789"))) [1]
noncomputable def m_is_number_3 (cs : Nat → Addr) : SD → Fl := sRet (mOwn (mAndV (mCall dAll (mCons (mView ((m_is_number_c1 cs))) (mNil))) (mChain dLe dLe (mC (.int 2)) (mCall dInt2 (mCons (mVar 0) (mNil))) (mC (.int 1000000000000000000000000000000)))))
noncomputable def m_is_number (cs : Nat → Addr) : List OT → ER OT := asDef 2 (
    sSeq ((m_is_number_2 cs))
    ((m_is_number_3 cs)))
noncomputable def m_is_step_word_1 (cs : Nat → Addr) : SD → Fl := sRet (mOwn (mAndV (mOp dNe (mCutX (mVar 0) (oNone) (oSome (mC (.int 1)))) (mC (.str ""))) (mAndV (mOp (dIn false) (mCutX (mVar 0) (oNone) (oSome (mC (.int 1)))) (mC (.str "fblrud"))) (mOrV (mOp dEq (mCall dLen (mCons (mVar 0) (mNil))) (mC (.int 1))) (mView (mCall0 (m_is_number cs) (mCons (mCutX (mVar 0) (oSome (mC (.int 1))) (oNone)) (mNil))))))))
noncomputable def m_is_step_word (cs : Nat → Addr) : List OT → ER OT := asDef 1 (
    (m_is_step_word_1 cs))
noncomputable def m_first_wrong_1 (cs : Nat → Addr) : SD → Fl := sSet 2 (mOwn (mC (.int 0)))
noncomputable def m_first_wrong_2 (cs : Nat → Addr) : SD → Fl := sSet 3 (mOwn (mC (.bl false)))
noncomputable def m_first_wrong_3 (cs : Nat → Addr) : SD → Fl := sSet 2 (mOwn (mOp dAdd (mVar 2) (mC (.int 1))))
noncomputable def m_first_wrong_4 (cs : Nat → Addr) : SD → Fl := sSet 3 (mOwn (mC (.bl true)))
noncomputable def m_first_wrong_5 (cs : Nat → Addr) : SD → Fl := sRet (mOwn (mVar 4))
noncomputable def m_first_wrong_6 (cs : Nat → Addr) : SD → Fl := sIf (mTest (mOp dGt (mVar 2) (mC (.int 12)))) ((m_first_wrong_5 cs)) (sNil)
noncomputable def m_first_wrong_7 (cs : Nat → Addr) : SD → Fl := sRet (mOwn (mVar 4))
noncomputable def m_first_wrong_8 (cs : Nat → Addr) : SD → Fl := sIf (mOr (mTest (mOp dEq (mVar 2) (mC (.int 0)))) (mOr (mTest (mVar 3)) (mNot (mTest (mView (mCall0 (m_is_number cs) (mCons (mCutX (mVar 5) (oSome (mC (.int 1))) (oNone)) (mNil)))))))) ((m_first_wrong_7 cs)) (sNil)
noncomputable def m_first_wrong_9 (cs : Nat → Addr) : SD → Fl := sSet 2 (mOwn (mOp dSub (mVar 2) (mC (.int 1))))
noncomputable def m_first_wrong_10 (cs : Nat → Addr) : SD → Fl := sSet 3 (mOwn (mC (.bl false)))
noncomputable def m_first_wrong_11 (cs : Nat → Addr) : SD → Fl := sRet (mOwn (mVar 4))
noncomputable def m_first_wrong_12 (cs : Nat → Addr) : SD → Fl := sIf (mOr (mTest (mView (mCall0 (m_is_step_word cs) (mCons (mVar 5) (mNil))))) (mTest (mOp (dIn false) (mVar 5) (mVar 1)))) ((m_first_wrong_10 cs)) ((m_first_wrong_11 cs))
noncomputable def m_first_wrong_13 (cs : Nat → Addr) : SD → Fl := sIf (mTest (mOp dEq (mCutX (mVar 5) (oNone) (oSome (mC (.int 1)))) (mC (.str ")")))) (sSeq ((m_first_wrong_8 cs)) ((m_first_wrong_9 cs))) ((m_first_wrong_12 cs))
noncomputable def m_first_wrong_14 (cs : Nat → Addr) : SD → Fl := sIf (mTest (mOp dEq (mVar 5) (mC (.str "(")))) (sSeq ((m_first_wrong_3 cs)) (sSeq ((m_first_wrong_4 cs)) ((m_first_wrong_6 cs)))) ((m_first_wrong_13 cs))
noncomputable def m_first_wrong_15 (cs : Nat → Addr) : SD → Fl := sRet (mOwn (mVar 4))
noncomputable def m_first_wrong_16 (cs : Nat → Addr) : SD → Fl := sIf (mTest (mOp dGt (mOp dAdd (mOp dAdd (mOp dAdd (mVar 4) (mC (.int 1))) (mVar 2)) (mCall dInt2 (mCons (mVar 3) (mNil)))) (mC (.int 1000)))) ((m_first_wrong_15 cs)) (sNil)
noncomputable def m_first_wrong_b1 (cs : Nat → Addr) : SD → Fl := sSeq ((m_first_wrong_14 cs)) ((m_first_wrong_16 cs))
noncomputable def m_first_wrong_17 (cs : Nat → Addr) : SD → Fl := sFor (iEnumL (mCons (mVar 0) (mNil))) (tgT 2 (tgCons (tgN 4) (tgCons (tgN 5) (tgNil)))) ((m_first_wrong_b1 cs))
noncomputable def m_first_wrong_18 (cs : Nat → Addr) : SD → Fl := sRet (mOwn (mIf (mTest (mOp dEq (mVar 2) (mC (.int 0)))) (mC .non) (mCall dLen (mCons (mVar 0) (mNil)))))
noncomputable def m_first_wrong (cs : Nat → Addr) : List OT → ER OT := asDef 6 (
    sSeq ((m_first_wrong_1 cs))
    (sSeq ((m_first_wrong_2 cs))
    (sSeq ((m_first_wrong_17 cs))
    ((m_first_wrong_18 cs)))))
noncomputable def m_nodes_from_1 (cs : Nat → Addr) (rec : List OT → ER OT) : SD → Fl := sSet 2 (mLst (mNil))
noncomputable def m_nodes_from_2 (cs : Nat → Addr) (rec : List OT → ER OT) : SD → Fl := sSet 3 (mOwn (mOp dIx (mVar 0) (mVar 1)))
noncomputable def m_nodes_from_3 (cs : Nat → Addr) (rec : List OT → ER OT) : SD → Fl := sAsg (mView (mCall0 (rec) (mCons (mVar 0) (mCons (mOp dAdd (mVar 1) (mC (.int 1))) (mNil))))) (tgT 2 (tgCons (tgN 4) (tgCons (tgN 1) (tgNil))))
noncomputable def m_nodes_from_4 (cs : Nat → Addr) (rec : List OT → ER OT) : SD → Fl := sApp 2 (mOwn (mTup (mCons (mVar 4) (mCons (mCall dInt2 (mCons (mCutX (mOp dIx (mVar 0) (mVar 1)) (oSome (mC (.int 1))) (oNone)) (mNil))) (mNil)))))
noncomputable def m_nodes_from_5 (cs : Nat → Addr) (rec : List OT → ER OT) : SD → Fl := sApp 2 (mOwn (mTup (mCons (mOp dIx (mVar 3) (mC (.int 0))) (mCons (mIf (mTest (mOp dGt (mCall dLen (mCons (mVar 3) (mNil))) (mC (.int 1)))) (mCall dInt2 (mCons (mCutX (mVar 3) (oSome (mC (.int 1))) (oNone)) (mNil))) (mC (.int 1))) (mNil)))))
noncomputable def m_nodes_from_6 (cs : Nat → Addr) (rec : List OT → ER OT) : SD → Fl := sIf (mTest (mOp dEq (mVar 3) (mC (.str "(")))) (sSeq ((m_nodes_from_3 cs rec)) ((m_nodes_from_4 cs rec))) ((m_nodes_from_5 cs rec))
noncomputable def m_nodes_from_7 (cs : Nat → Addr) (rec : List OT → ER OT) : SD → Fl := sSet 1 (mOwn (mOp dAdd (mVar 1) (mC (.int 1))))
noncomputable def m_nodes_from_b1 (cs : Nat → Addr) (rec : List OT → ER OT) : SD → Fl := sSeq ((m_nodes_from_2 cs rec)) (sSeq ((m_nodes_from_6 cs rec)) ((m_nodes_from_7 cs rec)))
noncomputable def m_nodes_from_8 (cs : Nat → Addr) (rec : List OT → ER OT) : SD → Fl := sWhile (fun _ => 100000) (mAnd (mTest (mOp dLt (mVar 1) (mCall dLen (mCons (mVar 0) (mNil))))) (mTest (mOp dNe (mOp dIx (mOp dIx (mVar 0) (mVar 1)) (mC (.int 0))) (mC (.str ")"))))) ((m_nodes_from_b1 cs rec))
noncomputable def m_nodes_from_9 (cs : Nat → Addr) (rec : List OT → ER OT) : SD → Fl := sRet (mOwn (mTup (mCons (mCallT dTupOf (mCons (mFrz 2) (mNil))) (mCons (mVar 1) (mNil)))))
noncomputable def m_nodes_from_r (cs : Nat → Addr) (rec : List OT → ER OT) : List OT → ER OT := asDef 5 (
    sSeq ((m_nodes_from_1 cs rec))
    (sSeq ((m_nodes_from_8 cs rec))
    ((m_nodes_from_9 cs rec))))
noncomputable def m_nodes_from (cs : Nat → Addr) : Nat → List OT → ER OT
  | 0 => fun _ => .bad
  | n + 1 => m_nodes_from_r cs (m_nodes_from cs n)
noncomputable def m_nodes_in_1 (cs : Nat → Addr) : SD → Fl := sRet (mOwn (mOp dIx (mView (mCall0 (m_nodes_from cs 16) (mCons (mVar 0) (mCons (mC (.int 0)) (mNil))))) (mC (.int 0))))
noncomputable def m_nodes_in (cs : Nat → Addr) : List OT → ER OT := asDef 1 (
    (m_nodes_in_1 cs))
noncomputable def m_length_in_1 (cs : Nat → Addr) (rec : List OT → ER OT) : SD → Fl := sSet 1 (mOwn (mC (.int 0)))
noncomputable def m_length_in_2 (cs : Nat → Addr) (rec : List OT → ER OT) : SD → Fl := sSet 1 (mOwn (mOp dAdd (mVar 1) (mOp dMul (mVar 3) (mIf (mTest (mCall dIsi (mCons (mVar 2) (mCons (mC (.ty "str")) (mNil))))) (mC (.int 1)) (mView (mCall0 (rec) (mCons (mVar 2) (mNil))))))))
noncomputable def m_length_in_b1 (cs : Nat → Addr) (rec : List OT → ER OT) : SD → Fl := (m_length_in_2 cs rec)
noncomputable def m_length_in_3 (cs : Nat → Addr) (rec : List OT → ER OT) : SD → Fl := sFor (iTuP (mVar 0)) (tgT 2 (tgCons (tgN 2) (tgCons (tgN 3) (tgNil)))) ((m_length_in_b1 cs rec))
noncomputable def m_length_in_4 (cs : Nat → Addr) (rec : List OT → ER OT) : SD → Fl := sRet (mOwn (mVar 1))
noncomputable def m_length_in_r (cs : Nat → Addr) (rec : List OT → ER OT) : List OT → ER OT := asDef 4 (
    sSeq ((m_length_in_1 cs rec))
    (sSeq ((m_length_in_3 cs rec))
    ((m_length_in_4 cs rec))))
noncomputable def m_length_in (cs : Nat → Addr) : Nat → List OT → ER OT
  | 0 => fun _ => .bad
  | n + 1 => m_length_in_r cs (m_length_in cs n)
noncomputable def m_depth_in_c1 (cs : Nat → Addr) (rec : List OT → ER OT) : SD → ER OT := mComp (iTuP (mVar 0)) (tgT 2 (tgCons (tgN 1) (tgCons (tgN 2) (tgNil)))) (mNot (mTest (mCall dIsi (mCons (mVar 1) (mCons (mC (.ty "str")) (mNil)))))) (mOp dAdd (mC (.int 1)) (mView (mCall0 (rec) (mCons (mVar 1) (mNil))))) [1, 2]
noncomputable def m_depth_in_1 (cs : Nat → Addr) (rec : List OT → ER OT) : SD → Fl := sRet (mOwn (mCall dMax (mCons (mView (mCat (qNew (mLst (mCons (mC (.int 0)) (mNil)))) (qNew ((m_depth_in_c1 cs rec))))) (mNil))))
noncomputable def m_depth_in_r (cs : Nat → Addr) (rec : List OT → ER OT) : List OT → ER OT := asDef 3 (
    (m_depth_in_1 cs rec))
noncomputable def m_depth_in (cs : Nat → Addr) : Nat → List OT → ER OT
  | 0 => fun _ => .bad
  | n + 1 => m_depth_in_r cs (m_depth_in cs n)
noncomputable def m_Program___init___1 (cs : Nat → Addr) : SD → Fl := sRaiseX (cs 2) ["index"] (mCons (mC .non) (mNil))
noncomputable def m_Program___init___2 (cs : Nat → Addr) : SD → Fl := sIf (mNot (mTest (mCall dIsi (mCons (mVar 1) (mCons (mC (.ty "str")) (mNil)))))) ((m_Program___init___1 cs)) (sNil)
noncomputable def m_Program___init___3 (cs : Nat → Addr) : SD → Fl := sSet 2 (mFz (mCall0 (m_words_of cs) (mCons (mVar 1) (mNil))))
noncomputable def m_Program___init___4 (cs : Nat → Addr) : SD → Fl := sSet 3 (mFz (mCall0 (m_first_wrong cs) (mCons (mVar 2) (mCons (mView (mLst (mNil))) (mNil)))))
noncomputable def m_Program___init___5 (cs : Nat → Addr) : SD → Fl := sRaiseX (cs 2) ["index"] (mCons (mVar 3) (mNil))
noncomputable def m_Program___init___6 (cs : Nat → Addr) : SD → Fl := sIf (mTest (mOp dNotN (mVar 3) (mC .non))) ((m_Program___init___5 cs)) (sNil)
noncomputable def m_Program___init___7 (cs : Nat → Addr) : SD → Fl := sFldSet (fun C => C == cs 0) 0 "own_text" (mOwn (mVar 1))
noncomputable def m_Program___init___8 (cs : Nat → Addr) : SD → Fl := sFldSet (fun C => C == cs 0) 0 "own_words" (mOwn (mCallT dTupOf (mCons (mVar 2) (mNil))))
noncomputable def m_Program___init___9 (cs : Nat → Addr) : SD → Fl := sFldSet (fun C => C == cs 0) 0 "own_nodes" (mFz (mCall0 (m_nodes_in cs) (mCons (mVar 2) (mNil))))
noncomputable def m_Program___init___10 (cs : Nat → Addr) : SD → Fl := sFldSet (fun C => C == cs 0) 0 "own_length" (mFz (mCall0 (m_length_in cs 16) (mCons (mFldO (fun C => C == cs 0) 0 "own_nodes") (mNil))))
noncomputable def m_Program___init___11 (cs : Nat → Addr) : SD → Fl := sFldSet (fun C => C == cs 0) 0 "own_depth" (mFz (mCall0 (m_depth_in cs 16) (mCons (mFldO (fun C => C == cs 0) 0 "own_nodes") (mNil))))
noncomputable def m_Program___init__ (cs : Nat → Addr) : List OT → ER OT := asDef 4 (
    sSeq ((m_Program___init___2 cs))
    (sSeq ((m_Program___init___3 cs))
    (sSeq ((m_Program___init___4 cs))
    (sSeq ((m_Program___init___6 cs))
    (sSeq ((m_Program___init___7 cs))
    (sSeq ((m_Program___init___8 cs))
    (sSeq ((m_Program___init___9 cs))
    (sSeq ((m_Program___init___10 cs))
    ((m_Program___init___11 cs))))))))))
noncomputable def m__law_class_1 (cs : Nat → Addr) : SD → Fl := sSet 1 (mFz (mLst (mCons (mCall (dIsF (relC cs)) (mCons (mVar 0) (mCons (mC (.cls (cs 2))) (mNil)))) (mCons (mCall (dIsF (relC cs)) (mCons (mVar 0) (mCons (mC (.cls (cs 3))) (mNil)))) (mCons (mCall (dIsF (relC cs)) (mCons (mVar 0) (mCons (mC (.cls (cs 6))) (mNil)))) (mNil))))))
noncomputable def m__law_class_2 (cs : Nat → Addr) : SD → Fl := sSet 1 (mFz (mCat (qFz (mVar 1)) (qNew (mLst (mCons (mCall (dIsF (relC cs)) (mCons (mVar 0) (mCons (mC (.cls (cs 7))) (mNil)))) (mCons (mCall (dIsF (relC cs)) (mCons (mVar 0) (mCons (mC (.cls (cs 8))) (mNil)))) (mNil)))))))
noncomputable def m__law_class_3 (cs : Nat → Addr) : SD → Fl := sSet 1 (mFz (mCat (qFz (mVar 1)) (qNew (mLst (mCons (mCall (dIsF (relC cs)) (mCons (mVar 0) (mCons (mC (.cls (cs 9))) (mNil)))) (mCons (mCall (dIsF (relC cs)) (mCons (mVar 0) (mCons (mC (.cls (cs 10))) (mNil)))) (mCons (mCall (dIsF (relC cs)) (mCons (mVar 0) (mCons (mC (.cls (cs 11))) (mNil)))) (mNil))))))))
noncomputable def m__law_class_4 (cs : Nat → Addr) : SD → Fl := sSet 1 (mFz (mCat (qFz (mVar 1)) (qNew (mLst (mCons (mCall (dIsF (relC cs)) (mCons (mVar 0) (mCons (mC (.cls (cs 4))) (mNil)))) (mCons (mCall (dIsF (relC cs)) (mCons (mVar 0) (mCons (mC (.cls (cs 5))) (mNil)))) (mNil)))))))
noncomputable def m__law_class_5 (cs : Nat → Addr) : SD → Fl := sSet 2 (mFz (mLst (mCons (mC (.str "InvalidText")) (mCons (mC (.str "InvalidSource")) (mCons (mC (.str "InvalidProgram")) (mCons (mC (.str "InvalidTimes")) (mCons (mC (.str "InvalidIndex")) (mCons (mC (.str "InvalidLetter")) (mNil)))))))))
noncomputable def m__law_class_6 (cs : Nat → Addr) : SD → Fl := sSet 2 (mFz (mCat (qFz (mVar 2)) (qNew (mLst (mCons (mC (.str "InvalidName")) (mCons (mC (.str "HasPen")) (mCons (mC (.str "TooDeep")) (mCons (mC (.str "TooLarge")) (mNil)))))))))
noncomputable def m__law_class_7 (cs : Nat → Addr) : SD → Fl := sRet (mOwn (mC (.str "odd")))
noncomputable def m__law_class_8 (cs : Nat → Addr) : SD → Fl := sIf (mTest (mCall (dIsF (relC cs)) (mCons (mVar 0) (mCons (mTup (mCons (mC (.cls (cs 29))) (mCons (mC (.cls (cs 30))) (mCons (mC (.cls (cs 25))) (mCons (mC (.cls (cs 15))) (mCons (mC (.cls (cs 18))) (mCons (mC (.cls (cs 19))) (mNil)))))))) (mNil))))) ((m__law_class_7 cs)) (sNil)
noncomputable def m__law_class_9 (cs : Nat → Addr) : SD → Fl := sRet (mOwn (mC (.str "odd")))
noncomputable def m__law_class_10 (cs : Nat → Addr) : SD → Fl := sIf (mTest (mCall (dIsF (relC cs)) (mCons (mVar 0) (mCons (mTup (mCons (mC (.cls (cs 22))) (mCons (mC (.cls (cs 12))) (mCons (mC (.cls (cs 27))) (mCons (mC (.cls (cs 16))) (mCons (mC (.cls (cs 23))) (mNil))))))) (mNil))))) ((m__law_class_9 cs)) (sNil)
noncomputable def m__law_class_11 (cs : Nat → Addr) : SD → Fl := sRet (mOwn (mC (.str "odd")))
noncomputable def m__law_class_12 (cs : Nat → Addr) : SD → Fl := sIf (mTest (mCall (dIsF (relC cs)) (mCons (mVar 0) (mCons (mTup (mCons (mC (.cls (cs 14))) (mCons (mC (.cls (cs 13))) (mCons (mC (.cls (cs 17))) (mCons (mC (.cls (cs 26))) (mCons (mC (.cls (cs 21))) (mCons (mC (.cls (cs 24))) (mCons (mC (.cls (cs 20))) (mCons (mC (.cls (cs 28))) (mNil)))))))))) (mNil))))) ((m__law_class_11 cs)) (sNil)
noncomputable def m__law_class_13 (cs : Nat → Addr) : SD → Fl := sRet (mOwn (mC (.str "odd")))
noncomputable def m__law_class_14 (cs : Nat → Addr) : SD → Fl := sIf (mOr (mTest (mOp dNe (mBm D.isL dCountD (mVar 1) (mCons (mC (.bl true)) (mNil))) (mC (.int 1)))) (mNot (mTest (mCall (dIsF (relC cs)) (mCons (mVar 0) (mCons (mC (.ty "ValueError")) (mNil))))))) ((m__law_class_13 cs)) (sNil)
noncomputable def m__law_class_15 (cs : Nat → Addr) : SD → Fl := sSet 3 (mOwn (mOp dIx (mVar 2) (mBm D.isL dIndexD (mVar 1) (mCons (mC (.bl true)) (mNil)))))
noncomputable def m__law_class_16 (cs : Nat → Addr) : SD → Fl := sRet (mOwn (mOp dAdd (mOp dAdd (mVar 3) (mC (.str " "))) (mCall dRepr (mCons (mFldX (fun C => C == cs 2 || C == cs 3) "index" (mVar 0)) (mNil)))))
noncomputable def m__law_class_17 (cs : Nat → Addr) : SD → Fl := sIf (mTest (mOp dEq (mVar 3) (mC (.str "InvalidText")))) ((m__law_class_16 cs)) (sNil)
noncomputable def m__law_class_18 (cs : Nat → Addr) : SD → Fl := sRet (mOwn (mOp dAdd (mOp dAdd (mOp dAdd (mOp dAdd (mVar 3) (mC (.str " "))) (mCall dRepr (mCons (mFldX (fun C => C == cs 3) "line" (mVar 0)) (mNil)))) (mC (.str " "))) (mCall dRepr (mCons (mFldX (fun C => C == cs 2 || C == cs 3) "index" (mVar 0)) (mNil)))))
noncomputable def m__law_class_19 (cs : Nat → Addr) : SD → Fl := sIf (mTest (mOp dEq (mVar 3) (mC (.str "InvalidSource")))) ((m__law_class_18 cs)) (sNil)
noncomputable def m__law_class_20 (cs : Nat → Addr) : SD → Fl := sRet (mOwn (mOp dAdd (mVar 3) (mIf (mTest (mOp (dIn false) (mVar 3) (mView (mLst (mCons (mC (.str "TooDeep")) (mCons (mC (.str "TooLarge")) (mNil))))))) (mOp dAdd (mC (.str " ")) (mCall dRepr (mCons (mFldX (fun C => C == cs 4 || C == cs 5) "limit" (mVar 0)) (mNil)))) (mC (.str "")))))
noncomputable def m__law_class (cs : Nat → Addr) : List OT → ER OT := asDef 4 (
    sSeq ((m__law_class_1 cs))
    (sSeq ((m__law_class_2 cs))
    (sSeq ((m__law_class_3 cs))
    (sSeq ((m__law_class_4 cs))
    (sSeq ((m__law_class_5 cs))
    (sSeq ((m__law_class_6 cs))
    (sSeq ((m__law_class_8 cs))
    (sSeq ((m__law_class_10 cs))
    (sSeq ((m__law_class_12 cs))
    (sSeq ((m__law_class_14 cs))
    (sSeq ((m__law_class_15 cs))
    (sSeq ((m__law_class_17 cs))
    (sSeq ((m__law_class_19 cs))
    ((m__law_class_20 cs)))))))))))))))
noncomputable def m_reversed_text_1 (cs : Nat → Addr) (rec : List OT → ER OT) : SD → Fl := sSet 1 (mLst (mNil))
noncomputable def m_reversed_text_2 (cs : Nat → Addr) (rec : List OT → ER OT) : SD → Fl := sApp 1 (mOwn (mOp dAdd (mKd [("f", "b"), ("b", "f"), ("l", "r"), ("r", "l")] (mVar 2)) (mIf (mTest (mOp dGt (mVar 3) (mC (.int 1)))) (mCall dStr1 (mCons (mVar 3) (mNil))) (mC (.str "")))))
noncomputable def m_reversed_text_3 (cs : Nat → Addr) (rec : List OT → ER OT) : SD → Fl := sApp 1 (mOwn (mOp dAdd (mOp dAdd (mOp dAdd (mC (.str "( ")) (mView (mCall0 (rec) (mCons (mVar 2) (mNil))))) (mC (.str " )"))) (mCall dStr1 (mCons (mVar 3) (mNil)))))
noncomputable def m_reversed_text_4 (cs : Nat → Addr) (rec : List OT → ER OT) : SD → Fl := sIf (mTest (mCall dIsi (mCons (mVar 2) (mCons (mC (.ty "str")) (mNil))))) ((m_reversed_text_2 cs rec)) ((m_reversed_text_3 cs rec))
noncomputable def m_reversed_text_b1 (cs : Nat → Addr) (rec : List OT → ER OT) : SD → Fl := (m_reversed_text_4 cs rec)
noncomputable def m_reversed_text_5 (cs : Nat → Addr) (rec : List OT → ER OT) : SD → Fl := sFor (iTuP (mBack (mVar 0) (oSome (mUn dNeg (mC (.int 1)))))) (tgT 2 (tgCons (tgN 2) (tgCons (tgN 3) (tgNil)))) ((m_reversed_text_b1 cs rec))
noncomputable def m_reversed_text_6 (cs : Nat → Addr) (rec : List OT → ER OT) : SD → Fl := sRet (mOwn (mBm D.isS dJoin (mC (.str " ")) (mCons (mSee 1) (mNil))))
noncomputable def m_reversed_text_r (cs : Nat → Addr) (rec : List OT → ER OT) : List OT → ER OT := asDef 4 (
    sSeq ((m_reversed_text_1 cs rec))
    (sSeq ((m_reversed_text_5 cs rec))
    ((m_reversed_text_6 cs rec))))
noncomputable def m_reversed_text (cs : Nat → Addr) : Nat → List OT → ER OT
  | 0 => fun _ => .bad
  | n + 1 => m_reversed_text_r cs (m_reversed_text cs n)
noncomputable def m_Program___invert___1 (cs : Nat → Addr) : SD → Fl := sRaise (cs 11)
noncomputable def m_Program___invert___2 (cs : Nat → Addr) : SD → Fl := sIf (mOr (mTest (mOp (dIn false) (mC (.str "u")) (mFld (fun C => C == cs 0) "own_text" (mVar 0)))) (mTest (mOp (dIn false) (mC (.str "d")) (mFld (fun C => C == cs 0) "own_text" (mVar 0))))) ((m_Program___invert___1 cs)) (sNil)
noncomputable def m_Program___invert___3 (cs : Nat → Addr) : SD → Fl := sRet (mMake (cs 0) (m_Program___init__ cs) (mCons (mView (mCall0 (m_reversed_text cs 16) (mCons (mFld (fun C => C == cs 0) "own_nodes" (mVar 0)) (mNil)))) (mNil)))
noncomputable def m_Program___invert__ (cs : Nat → Addr) : List OT → ER OT := asDef 1 (
    sSeq ((m_Program___invert___2 cs))
    ((m_Program___invert___3 cs)))
noncomputable def m_joined_text_1 (cs : Nat → Addr) : SD → Fl := sRet (mOwn (mIf (mTest (mOp (dIn false) (mC (.str "")) (mView (mLst (mCons (mVar 0) (mCons (mVar 1) (mNil))))))) (mOp dAdd (mVar 0) (mVar 1)) (mOp dAdd (mOp dAdd (mVar 0) (mC (.str " "))) (mVar 1))))
noncomputable def m_joined_text (cs : Nat → Addr) : List OT → ER OT := asDef 2 (
    (m_joined_text_1 cs))
noncomputable def m_Program___add___1 (cs : Nat → Addr) : SD → Fl := sRaise (cs 6)
noncomputable def m_Program___add___2 (cs : Nat → Addr) : SD → Fl := sIf (mNot (mTest (mCall (dIsO (okC cs) (cs 0)) (mCons (mVar 1) (mCons (mC (.cls (cs 0))) (mNil)))))) ((m_Program___add___1 cs)) (sNil)
noncomputable def m_Program___add___3 (cs : Nat → Addr) : SD → Fl := sRaiseX (cs 5) ["limit"] (mCons (mC (.int 1000)) (mNil))
noncomputable def m_Program___add___4 (cs : Nat → Addr) : SD → Fl := sIf (mTest (mOp dGt (mOp dAdd (mCall dLen (mCons (mFld (fun C => C == cs 0) "own_words" (mVar 0)) (mNil))) (mCall dLen (mCons (mFld (fun C => C == cs 0) "own_words" (mVar 1)) (mNil)))) (mC (.int 1000)))) ((m_Program___add___3 cs)) (sNil)
noncomputable def m_Program___add___5 (cs : Nat → Addr) : SD → Fl := sRet (mMake (cs 0) (m_Program___init__ cs) (mCons (mView (mCall0 (m_joined_text cs) (mCons (mFld (fun C => C == cs 0) "own_text" (mVar 0)) (mCons (mFld (fun C => C == cs 0) "own_text" (mVar 1)) (mNil))))) (mNil)))
noncomputable def m_Program___add__ (cs : Nat → Addr) : List OT → ER OT := asDef 2 (
    sSeq ((m_Program___add___2 cs))
    (sSeq ((m_Program___add___4 cs))
    ((m_Program___add___5 cs))))
noncomputable def m_is_int_1 (cs : Nat → Addr) : SD → Fl := sRet (mOwn (mAndV (mCall (dIsiI (okC cs) "int") (mCons (mVar 0) (mCons (mC (.ty "int")) (mNil)))) (mNotV (mCall dIsi (mCons (mVar 0) (mCons (mC (.ty "bool")) (mNil)))))))
noncomputable def m_is_int (cs : Nat → Addr) : List OT → ER OT := asDef 1 (
    (m_is_int_1 cs))
noncomputable def m_in_range_1 (cs : Nat → Addr) : SD → Fl := sRet (mOwn (mAndV (mView (mCall0 (m_is_int cs) (mCons (mVar 0) (mNil)))) (mChain dLe dLe (mVar 1) (mVar 0) (mVar 2))))
noncomputable def m_in_range (cs : Nat → Addr) : List OT → ER OT := asDef 3 (
    (m_in_range_1 cs))
noncomputable def m_Program___mul___1 (cs : Nat → Addr) : SD → Fl := sRaise (cs 7)
noncomputable def m_Program___mul___2 (cs : Nat → Addr) : SD → Fl := sIf (mNot (mTest (mView (mCall0 (m_in_range cs) (mCons (mVar 1) (mCons (mC (.int 0)) (mCons (mC (.int 1000000000000000000000000000000)) (mNil)))))))) ((m_Program___mul___1 cs)) (sNil)
noncomputable def m_Program___mul___3 (cs : Nat → Addr) : SD → Fl := sRet (mMake (cs 0) (m_Program___init__ cs) (mCons (mC (.str "")) (mNil)))
noncomputable def m_Program___mul___4 (cs : Nat → Addr) : SD → Fl := sIf (mTest (mOp dEq (mVar 1) (mC (.int 0)))) ((m_Program___mul___3 cs)) (sNil)
noncomputable def m_Program___mul___5 (cs : Nat → Addr) : SD → Fl := sRet (mMake (cs 0) (m_Program___init__ cs) (mCons (mFld (fun C => C == cs 0) "own_text" (mVar 0)) (mNil)))
noncomputable def m_Program___mul___6 (cs : Nat → Addr) : SD → Fl := sIf (mOr (mTest (mOp dEq (mVar 1) (mC (.int 1)))) (mTest (mOp dEq (mFld (fun C => C == cs 0) "own_text" (mVar 0)) (mC (.str ""))))) ((m_Program___mul___5 cs)) (sNil)
noncomputable def m_Program___mul___7 (cs : Nat → Addr) : SD → Fl := sRaiseX (cs 5) ["limit"] (mCons (mC (.int 1000)) (mNil))
noncomputable def m_Program___mul___8 (cs : Nat → Addr) : SD → Fl := sIf (mTest (mOp dGt (mOp dAdd (mCall dLen (mCons (mFld (fun C => C == cs 0) "own_words" (mVar 0)) (mNil))) (mC (.int 2))) (mC (.int 1000)))) ((m_Program___mul___7 cs)) (sNil)
noncomputable def m_Program___mul___9 (cs : Nat → Addr) : SD → Fl := sRaiseX (cs 4) ["limit"] (mCons (mC (.int 12)) (mNil))
noncomputable def m_Program___mul___10 (cs : Nat → Addr) : SD → Fl := sIf (mTest (mOp dGt (mOp dAdd (mFld (fun C => C == cs 0) "own_depth" (mVar 0)) (mC (.int 1))) (mC (.int 12)))) ((m_Program___mul___9 cs)) (sNil)
noncomputable def m_Program___mul___11 (cs : Nat → Addr) : SD → Fl := sRet (mMake (cs 0) (m_Program___init__ cs) (mCons (mOp dAdd (mOp dAdd (mOp dAdd (mC (.str "( ")) (mFld (fun C => C == cs 0) "own_text" (mVar 0))) (mC (.str " )"))) (mCall dStr1 (mCons (mVar 1) (mNil)))) (mNil)))
noncomputable def m_Program___mul__ (cs : Nat → Addr) : List OT → ER OT := asDef 2 (
    sSeq ((m_Program___mul___2 cs))
    (sSeq ((m_Program___mul___4 cs))
    (sSeq ((m_Program___mul___6 cs))
    (sSeq ((m_Program___mul___8 cs))
    (sSeq ((m_Program___mul___10 cs))
    ((m_Program___mul___11 cs)))))))
noncomputable def m__law_told_1 (cs : Nat → Addr) : SD → Fl := sAsg (mTup (mCons (mC .non) (mCons (mC .non) (mNil)))) (tgT 2 (tgCons (tgN 3) (tgCons (tgN 4) (tgNil))))
noncomputable def m__law_told_2 (cs : Nat → Addr) : SD → Fl := sSet 4 (mOwn (mIf (mTest (mOp dEq (mVar 0) (mC (.int 2)))) (mView (mOwn1 (cs 0) (m_Program___invert__ cs) (mVar 1))) (mIf (mTest (mOp dEq (mVar 0) (mC (.int 0)))) (mView (mOwn2 (cAny (cs 0)) (m_Program___add__ cs) (mVar 1) (mVar 2))) (mView (mOwn2 (cAny (cs 0)) (m_Program___mul__ cs) (mVar 1) (mVar 2))))))
noncomputable def m__law_told_t1 (cs : Nat → Addr) : SD → Fl := (m__law_told_2 cs)
noncomputable def m__law_told_3 (cs : Nat → Addr) : SD → Fl := sSet 3 (mOwn (mVar 5))
noncomputable def m__law_told_x1 (cs : Nat → Addr) : SD → Fl := (m__law_told_3 cs)
noncomputable def m__law_told_4 (cs : Nat → Addr) : SD → Fl := sTry (xT cs) 5 ((m__law_told_t1 cs)) ((m__law_told_x1 cs))
noncomputable def m__law_told_5 (cs : Nat → Addr) : SD → Fl := sRet (mOwn (mIf (mAnd (mTest (mOp dIsN (mVar 3) (mC .non))) (mTest (mCall (dIsO (okC cs) (cs 0)) (mCons (mVar 4) (mCons (mC (.cls (cs 0))) (mNil)))))) (mC (.str "fine")) (mView (mCall0 (m__law_class cs) (mCons (mVar 3) (mNil))))))
noncomputable def m__law_told (cs : Nat → Addr) : List OT → ER OT := asDef 6 (
    sSeq ((m__law_told_1 cs))
    (sSeq ((m__law_told_4 cs))
    ((m__law_told_5 cs))))
noncomputable def m_Program___len___1 (cs : Nat → Addr) : SD → Fl := sRet (mOwn (mCall dLen (mCons (mFld (fun C => C == cs 0) "own_words" (mVar 0)) (mNil))))
noncomputable def m_Program___len__ (cs : Nat → Addr) : List OT → ER OT := asDef 1 (
    (m_Program___len___1 cs))
noncomputable def m__law_sizes_right_1 (cs : Nat → Addr) : SD → Fl := sSet 1 (mOwn (mOp dAdd (mC (.int 490)) (mView (mCall1 (m__law_pick cs) (rSlot 0 (rFz (mC (.int 20)) (rNil)))))))
noncomputable def m__law_sizes_right_2 (cs : Nat → Addr) : SD → Fl := sSet 2 (mFz (mMake (cs 0) (m_Program___init__ cs) (mCons (mBm D.isS dJoin (mC (.str " ")) (mCons (mView (mRepO (mLst (mCons (mC (.str "f")) (mNil))) (mVar 1))) (mNil))) (mNil))))
noncomputable def m__law_sizes_right_3 (cs : Nat → Addr) : SD → Fl := sSet 3 (mFz (mMake (cs 0) (m_Program___init__ cs) (mCons (mBm D.isS dJoin (mC (.str " ")) (mCons (mView (mRepO (mLst (mCons (mC (.str "l")) (mNil))) (mOp dAdd (mOp dSub (mC (.int 1000)) (mVar 1)) (mView (mCall1 (m__law_pick cs) (rSlot 0 (rFz (mC (.int 3)) (rNil)))))))) (mNil))) (mNil))))
noncomputable def m__law_sizes_right_4 (cs : Nat → Addr) : SD → Fl := sSet 4 (mOwn (mIf (mTest (mOp dLt (mOp dAdd (mLenO (cs 0) (m_Program___len__ cs) (mCons (mVar 2) (mNil))) (mLenO (cs 0) (m_Program___len__ cs) (mCons (mVar 3) (mNil)))) (mC (.int 1001)))) (mC (.str "fine")) (mC (.str "TooLarge 1000"))))
noncomputable def m__law_sizes_right_5 (cs : Nat → Addr) : SD → Fl := sRet (mOwn (mC (.bl false)))
noncomputable def m__law_sizes_right_6 (cs : Nat → Addr) : SD → Fl := sIf (mOr (mTest (mOp dNe (mView (mCall0 (m__law_told cs) (mCons (mC (.int 0)) (mCons (mVar 2) (mCons (mVar 3) (mNil)))))) (mVar 4))) (mTest (mOp dNe (mView (mCall0 (m__law_told cs) (mCons (mC (.int 0)) (mCons (mVar 3) (mCons (mVar 2) (mNil)))))) (mVar 4)))) ((m__law_sizes_right_5 cs)) (sNil)
noncomputable def m__law_sizes_right_7 (cs : Nat → Addr) : SD → Fl := sSet 5 (mOwn (mOp dAdd (mC (.int 996)) (mView (mCall1 (m__law_pick cs) (rSlot 0 (rFz (mC (.int 5)) (rNil)))))))
noncomputable def m__law_sizes_right_8 (cs : Nat → Addr) : SD → Fl := sSet 6 (mFz (mMake (cs 0) (m_Program___init__ cs) (mCons (mBm D.isS dJoin (mC (.str " ")) (mCons (mView (mRepO (mLst (mCons (mC (.str "f")) (mNil))) (mVar 5))) (mNil))) (mNil))))
noncomputable def m__law_sizes_right_9 (cs : Nat → Addr) : SD → Fl := sRet (mOwn (mC (.bl false)))
noncomputable def m__law_sizes_right_10 (cs : Nat → Addr) : SD → Fl := sIf (mTest (mOp dNe (mView (mCall0 (m__law_told cs) (mCons (mC (.int 1)) (mCons (mVar 6) (mCons (mC (.int 2)) (mNil)))))) (mIf (mTest (mOp dLt (mVar 5) (mC (.int 999)))) (mC (.str "fine")) (mC (.str "TooLarge 1000"))))) ((m__law_sizes_right_9 cs)) (sNil)
noncomputable def m__law_sizes_right_11 (cs : Nat → Addr) : SD → Fl := sSet 7 (mOwn (mOp dAdd (mC (.int 10)) (mView (mCall1 (m__law_pick cs) (rSlot 0 (rFz (mC (.int 3)) (rNil)))))))
noncomputable def m__law_sizes_right_12 (cs : Nat → Addr) : SD → Fl := sSet 8 (mFz (mCat (qNew (mCat (qNew (mRepO (mLst (mCons (mC (.str "(")) (mNil))) (mVar 7))) (qNew (mLst (mCons (mC (.str "f")) (mNil)))))) (qNew (mRepO (mLst (mCons (mC (.str ")2")) (mNil))) (mVar 7)))))
noncomputable def m__law_sizes_right_13 (cs : Nat → Addr) : SD → Fl := sRet (mOwn (mC (.bl false)))
noncomputable def m__law_sizes_right_14 (cs : Nat → Addr) : SD → Fl := sIf (mTest (mOp dNe (mView (mCall0 (m__law_told cs) (mCons (mC (.int 1)) (mCons (mView (mMake (cs 0) (m_Program___init__ cs) (mCons (mBm D.isS dJoin (mC (.str " ")) (mCons (mVar 8) (mNil))) (mNil)))) (mCons (mOp dPow (mC (.int 10)) (mC (.int 30))) (mNil)))))) (mIf (mTest (mOp dLt (mVar 7) (mC (.int 12)))) (mC (.str "fine")) (mC (.str "TooDeep 12"))))) ((m__law_sizes_right_13 cs)) (sNil)
noncomputable def m__law_sizes_right_15 (cs : Nat → Addr) : SD → Fl := sSet 9 (mFz (mMake (cs 0) (m_Program___init__ cs) (mCons (mBm D.isS dJoin (mC (.str " ")) (mCons (mView (mCat (qFz (mVar 8)) (qNew (mRepO (mLst (mCons (mC (.str "f")) (mNil))) (mOp dAdd (mOp dSub (mC (.int 998)) (mCall dLen (mCons (mVar 8) (mNil)))) (mC (.int 1))))))) (mNil))) (mNil))))
noncomputable def m__law_sizes_right_16 (cs : Nat → Addr) : SD → Fl := sRet (mOwn (mC (.bl false)))
noncomputable def m__law_sizes_right_17 (cs : Nat → Addr) : SD → Fl := sIf (mTest (mOp dNe (mView (mCall0 (m__law_told cs) (mCons (mC (.int 1)) (mCons (mVar 9) (mCons (mC (.int 5)) (mNil)))))) (mC (.str "TooLarge 1000")))) ((m__law_sizes_right_16 cs)) (sNil)
noncomputable def m__law_sizes_right_18 (cs : Nat → Addr) : SD → Fl := sRet (mOwn (mOp dEq (mView (mLst (mCons (mView (mCall0 (m__law_told cs) (mCons (mC (.int 1)) (mCons (mVar 9) (mCons (mC (.int 1)) (mNil)))))) (mCons (mView (mCall0 (m__law_told cs) (mCons (mC (.int 1)) (mCons (mVar 9) (mCons (mC (.int 0)) (mNil)))))) (mCons (mView (mCall0 (m__law_told cs) (mCons (mC (.int 1)) (mCons (mVar 9) (mCons (mC (.bl true)) (mNil)))))) (mNil)))))) (mView (mLst (mCons (mC (.str "fine")) (mCons (mC (.str "fine")) (mCons (mC (.str "InvalidTimes")) (mNil))))))))
noncomputable def m__law_sizes_right (cs : Nat → Addr) : List OT → ER OT := asDef 10 (
    sSeq ((m__law_sizes_right_1 cs))
    (sSeq ((m__law_sizes_right_2 cs))
    (sSeq ((m__law_sizes_right_3 cs))
    (sSeq ((m__law_sizes_right_4 cs))
    (sSeq ((m__law_sizes_right_6 cs))
    (sSeq ((m__law_sizes_right_7 cs))
    (sSeq ((m__law_sizes_right_8 cs))
    (sSeq ((m__law_sizes_right_10 cs))
    (sSeq ((m__law_sizes_right_11 cs))
    (sSeq ((m__law_sizes_right_12 cs))
    (sSeq ((m__law_sizes_right_14 cs))
    (sSeq ((m__law_sizes_right_15 cs))
    (sSeq ((m__law_sizes_right_17 cs))
    ((m__law_sizes_right_18 cs)))))))))))))))
noncomputable def m_Program_text_1 (cs : Nat → Addr) : SD → Fl := sRet (mOwn (mFld (fun C => C == cs 0) "own_text" (mVar 0)))
noncomputable def m_Program_text (cs : Nat → Addr) : List OT → ER OT := asDef 1 (
    (m_Program_text_1 cs))
noncomputable def m_law_1 (cs : Nat → Addr) : SD → Fl := sRet (mOwn (mC (.bl false)))
noncomputable def m_law_2 (cs : Nat → Addr) : SD → Fl := sIf (mNot (mTest (mView (mCall0 (m__law_made_right cs) (mNil))))) ((m_law_1 cs)) (sNil)
noncomputable def m_law_3 (cs : Nat → Addr) : SD → Fl := sSet 2 (mCall0 (m__law_bag cs) (mCons (mVar 1) (mNil)))
noncomputable def m_law_4 (cs : Nat → Addr) : SD → Fl := sSet 3 (mOwn (mOp dIx (mView (mLst (mCons (mC (.str "fblrud")) (mCons (mC (.str "fblr")) (mCons (mC (.str "fu")) (mCons (mC (.str "ld")) (mNil))))))) (mView (mCall1 (m__law_pick cs) (rSlot 2 (rFz (mC (.int 4)) (rNil)))))))
noncomputable def m_law_5 (cs : Nat → Addr) : SD → Fl := sSet 4 (mFz (mCall1 (m__law_words cs 16) (rSlot 2 (rFz (mC (.int 40)) (rFz (mC (.int 11)) (rFz (mVar 3) (rFz (mC (.int 1)) (rNil))))))))
noncomputable def m_law_6 (cs : Nat → Addr) : SD → Fl := sSet 5 (mFz (mMake (cs 0) (m_Program___init__ cs) (mCons (mBm D.isS dJoin (mC (.str " ")) (mCons (mVar 4) (mNil))) (mNil))))
noncomputable def m_law_7 (cs : Nat → Addr) : SD → Fl := sRet (mOwn (mC (.bl false)))
noncomputable def m_law_8 (cs : Nat → Addr) : SD → Fl := sIf (mOr (mTest (mOp dNe (mView (mCall0 (m__law_told cs) (mCons (mC (.int 0)) (mCons (mVar 5) (mCons (mVar 6) (mNil)))))) (mC (.str "InvalidProgram")))) (mTest (mOp dNe (mView (mCall0 (m__law_told cs) (mCons (mC (.int 0)) (mCons (mView (mMake (cs 0) (m_Program___init__ cs) (mCons (mC (.str "")) (mNil)))) (mCons (mVar 6) (mNil)))))) (mC (.str "InvalidProgram"))))) ((m_law_7 cs)) (sNil)
noncomputable def m_law_b1 (cs : Nat → Addr) : SD → Fl := (m_law_8 cs)
noncomputable def m_law_9 (cs : Nat → Addr) : SD → Fl := sFor (iLst (mView (mLst (mCons (mC .non) (mCons (mC (.str "f")) (mCons (mC (.str "")) (mCons (mC (.int 0)) (mCons (mC (.int 1)) (mCons (mC (.bl true)) (mCons (mView (mLst (mCons (mC (.str "f")) (mNil)))) (mCons (mTup (mCons (mC (.str "f")) (mNil))) (mCons (mDict0) (mCons (mVar 4) (mNil)))))))))))))) (tgN 6) ((m_law_b1 cs))
noncomputable def m_law_10 (cs : Nat → Addr) : SD → Fl := sRet (mOwn (mC (.bl false)))
noncomputable def m_law_11 (cs : Nat → Addr) : SD → Fl := sIf (mOr (mTest (mOp dNe (mView (mCall0 (m__law_told cs) (mCons (mC (.int 1)) (mCons (mVar 5) (mCons (mVar 6) (mNil)))))) (mC (.str "InvalidTimes")))) (mTest (mOp dNe (mView (mCall0 (m__law_told cs) (mCons (mC (.int 1)) (mCons (mView (mMake (cs 0) (m_Program___init__ cs) (mCons (mC (.str "")) (mNil)))) (mCons (mVar 6) (mNil)))))) (mC (.str "InvalidTimes"))))) ((m_law_10 cs)) (sNil)
noncomputable def m_law_b2 (cs : Nat → Addr) : SD → Fl := (m_law_11 cs)
noncomputable def m_law_12 (cs : Nat → Addr) : SD → Fl := sFor (iLst (mView (mLst (mCons (mC .non) (mCons (mUn dNeg (mC (.int 1))) (mCons (mUn dNeg (mC (.int 2))) (mCons (mOp dSub (mC (.int 0)) (mOp dPow (mC (.int 10)) (mC (.int 30)))) (mCons (mOp dAdd (mOp dPow (mC (.int 10)) (mC (.int 30))) (mC (.int 1))) (mCons (mOp dPow (mC (.int 10)) (mC (.int 60))) (mCons (mC (.bl true)) (mCons (mC (.bl false)) (mCons (mC (.str "2")) (mCons (mTup (mCons (mC (.int 2)) (mNil))) (mCons (mView (mLst (mNil))) (mCons (mDict0) (mCons (mVar 5) (mNil))))))))))))))))) (tgN 6) ((m_law_b2 cs))
noncomputable def m_law_13 (cs : Nat → Addr) : SD → Fl := sRet (mOwn (mC (.bl false)))
noncomputable def m_law_14 (cs : Nat → Addr) : SD → Fl := sIf (mTest (mOp dNe (mView (mCall0 (m__law_told cs) (mCons (mC (.int 2)) (mCons (mVar 5) (mCons (mC .non) (mNil)))))) (mIf (mOr (mTest (mOp (dIn false) (mC (.str "u")) (mView (mProp (cs 0) (m_Program_text cs) (mVar 5))))) (mTest (mOp (dIn false) (mC (.str "d")) (mView (mProp (cs 0) (m_Program_text cs) (mVar 5)))))) (mC (.str "HasPen")) (mC (.str "fine"))))) ((m_law_13 cs)) (sNil)
noncomputable def m_law_15 (cs : Nat → Addr) : SD → Fl := sRet (mOwn (mC (.bl false)))
noncomputable def m_law_16 (cs : Nat → Addr) : SD → Fl := sIf (mNot (mTest (mView (mCall1 (m__law_sizes_right cs) (rSlot 2 (rNil)))))) ((m_law_15 cs)) (sNil)
noncomputable def m_law_b3 (cs : Nat → Addr) : SD → Fl := sSeq ((m_law_3 cs)) (sSeq ((m_law_4 cs)) (sSeq ((m_law_5 cs)) (sSeq ((m_law_6 cs)) (sSeq ((m_law_9 cs)) (sSeq ((m_law_12 cs)) (sSeq ((m_law_14 cs)) ((m_law_16 cs))))))))
noncomputable def m_law_17 (cs : Nat → Addr) : SD → Fl := sFor (iLst (mView (mCat (qNew (mCutS (mVar 0) (oNone) (oSome (mC (.int 8))))) (qNew (mLst (mCons (mC (.int 0)) (mNil))))))) (tgN 1) ((m_law_b3 cs))
noncomputable def m_law_18 (cs : Nat → Addr) : SD → Fl := sRet (mOwn (mC (.bl true)))
noncomputable def m_law (cs : Nat → Addr) : List OT → ER OT := asDef 7 (
    sSeq ((m_law_2 cs))
    (sSeq ((m_law_17 cs))
    ((m_law_18 cs))))
noncomputable def top (i : Nat) : Stmt := PySem.Challenge.pw_plotpens_k04_operator_errors.main.body.getD i (.Pass ⟨0, 0, 0, 0⟩)
noncomputable abbrev s_InvalidText___init__ : Stmt := inClass (top 3) 0
theorem sc_InvalidText___init__ : FnScope ["self", "index"] ["self", "index"] (defScope s_InvalidText___init__) := ⟨rfl, rfl, rfl, by decide +kernel, rfl, by decide +kernel, by decide +kernel⟩
noncomputable abbrev s_InvalidSource___init__ : Stmt := inClass (top 4) 0
theorem sc_InvalidSource___init__ : FnScope ["self", "line", "index"] ["self", "line", "index"] (defScope s_InvalidSource___init__) := ⟨rfl, rfl, rfl, by decide +kernel, rfl, by decide +kernel, by decide +kernel⟩
noncomputable abbrev s_TooDeep___init__ : Stmt := inClass (top 5) 0
theorem sc_TooDeep___init__ : FnScope ["self", "limit"] ["self", "limit"] (defScope s_TooDeep___init__) := ⟨rfl, rfl, rfl, by decide +kernel, rfl, by decide +kernel, by decide +kernel⟩
noncomputable abbrev s_TooLarge___init__ : Stmt := inClass (top 6) 0
theorem sc_TooLarge___init__ : FnScope ["self", "limit"] ["self", "limit"] (defScope s_TooLarge___init__) := ⟨rfl, rfl, rfl, by decide +kernel, rfl, by decide +kernel, by decide +kernel⟩
noncomputable abbrev s__law_made_right : Stmt := top 64
noncomputable abbrev sc__law_made_right_N : List Str := ["made", "one", "fields"]
theorem sc__law_made_right : FnScope ["made", "one", "fields"] [] (defScope s__law_made_right) := ⟨rfl, rfl, rfl, by decide +kernel, rfl, by decide +kernel, by decide +kernel⟩
noncomputable abbrev s__law_bag : Stmt := top 55
noncomputable abbrev sc__law_bag_N : List Str := ["cell"]
theorem sc__law_bag : FnScope ["cell"] ["cell"] (defScope s__law_bag) := ⟨rfl, rfl, rfl, by decide +kernel, rfl, by decide +kernel, by decide +kernel⟩
noncomputable abbrev s__law_pick : Stmt := top 56
noncomputable abbrev sc__law_pick_N : List Str := ["bag", "many", "told", "first", "second"]
theorem sc__law_pick : FnScope ["bag", "many", "told", "first", "second"] ["bag", "many"] (defScope s__law_pick) := ⟨rfl, rfl, rfl, by decide +kernel, rfl, by decide +kernel, by decide +kernel⟩
noncomputable abbrev s__law_number : Stmt := top 57
noncomputable abbrev sc__law_number_N : List Str := ["bag", "far"]
theorem sc__law_number : FnScope ["bag", "far"] ["bag", "far"] (defScope s__law_number) := ⟨rfl, rfl, rfl, by decide +kernel, rfl, by decide +kernel, by decide +kernel⟩
noncomputable abbrev s__law_words : Stmt := top 58
noncomputable abbrev sc__law_words_N : List Str := ["bag", "most", "deep", "letters", "far", "found", "many", "way", "room", "part"]
theorem sc__law_words : FnScope ["bag", "most", "deep", "letters", "far", "found", "many", "way", "room", "part"] ["bag", "most", "deep", "letters", "far"] (defScope s__law_words) := ⟨rfl, rfl, rfl, by decide +kernel, rfl, by decide +kernel, by decide +kernel⟩
noncomputable abbrev s_words_of : Stmt := top 45
noncomputable abbrev sc_words_of_N : List Str := ["text"]
theorem sc_words_of : FnScope ["text"] ["text"] (defScope s_words_of) := ⟨rfl, rfl, rfl, by decide +kernel, rfl, by decide +kernel, by decide +kernel⟩
noncomputable abbrev s_is_number : Stmt := top 43
noncomputable abbrev sc_is_number_N : List Str := ["signs", "sign"]
theorem sc_is_number : FnScope ["signs", "sign"] ["signs"] (defScope s_is_number) := ⟨rfl, rfl, rfl, by decide +kernel, rfl, by decide +kernel, by decide +kernel⟩
noncomputable abbrev s_is_step_word : Stmt := top 44
noncomputable abbrev sc_is_step_word_N : List Str := ["word"]
theorem sc_is_step_word : FnScope ["word"] ["word"] (defScope s_is_step_word) := ⟨rfl, rfl, rfl, by decide +kernel, rfl, by decide +kernel, by decide +kernel⟩
noncomputable abbrev s_first_wrong : Stmt := top 46
noncomputable abbrev sc_first_wrong_N : List Str := ["words", "names", "depth", "empty", "index", "word"]
theorem sc_first_wrong : FnScope ["words", "names", "depth", "empty", "index", "word"] ["words", "names"] (defScope s_first_wrong) := ⟨rfl, rfl, rfl, by decide +kernel, rfl, by decide +kernel, by decide +kernel⟩
noncomputable abbrev s_nodes_from : Stmt := top 47
noncomputable abbrev sc_nodes_from_N : List Str := ["words", "place", "found", "word", "body"]
theorem sc_nodes_from : FnScope ["words", "place", "found", "word", "body"] ["words", "place"] (defScope s_nodes_from) := ⟨rfl, rfl, rfl, by decide +kernel, rfl, by decide +kernel, by decide +kernel⟩
noncomputable abbrev s_nodes_in : Stmt := top 48
noncomputable abbrev sc_nodes_in_N : List Str := ["words"]
theorem sc_nodes_in : FnScope ["words"] ["words"] (defScope s_nodes_in) := ⟨rfl, rfl, rfl, by decide +kernel, rfl, by decide +kernel, by decide +kernel⟩
noncomputable abbrev s_length_in : Stmt := top 49
noncomputable abbrev sc_length_in_N : List Str := ["nodes", "found", "body", "number"]
theorem sc_length_in : FnScope ["nodes", "found", "body", "number"] ["nodes"] (defScope s_length_in) := ⟨rfl, rfl, rfl, by decide +kernel, rfl, by decide +kernel, by decide +kernel⟩
noncomputable abbrev s_depth_in : Stmt := top 50
noncomputable abbrev sc_depth_in_N : List Str := ["nodes", "body", "number"]
theorem sc_depth_in : FnScope ["nodes", "body", "number"] ["nodes"] (defScope s_depth_in) := ⟨rfl, rfl, rfl, by decide +kernel, rfl, by decide +kernel, by decide +kernel⟩
noncomputable abbrev s_Program___init__ : Stmt := inClass (top 53) 0
noncomputable abbrev sc_Program___init___N : List Str := ["self", "text", "words", "wrong"]
theorem sc_Program___init__ : FnScope ["self", "text", "words", "wrong"] ["self", "text"] (defScope s_Program___init__) := ⟨rfl, rfl, rfl, by decide +kernel, rfl, by decide +kernel, by decide +kernel⟩
noncomputable abbrev s__law_class : Stmt := top 62
noncomputable abbrev sc__law_class_N : List Str := ["caught", "some", "names", "name"]
theorem sc__law_class : FnScope ["caught", "some", "names", "name"] ["caught"] (defScope s__law_class) := ⟨rfl, rfl, rfl, by decide +kernel, rfl, by decide +kernel, by decide +kernel⟩
noncomputable abbrev s_reversed_text : Stmt := top 51
noncomputable abbrev sc_reversed_text_N : List Str := ["nodes", "found", "body", "number"]
theorem sc_reversed_text : FnScope ["nodes", "found", "body", "number"] ["nodes"] (defScope s_reversed_text) := ⟨rfl, rfl, rfl, by decide +kernel, rfl, by decide +kernel, by decide +kernel⟩
noncomputable abbrev s_Program___invert__ : Stmt := inClass (top 53) 10
noncomputable abbrev sc_Program___invert___N : List Str := ["self"]
theorem sc_Program___invert__ : FnScope ["self"] ["self"] (defScope s_Program___invert__) := ⟨rfl, rfl, rfl, by decide +kernel, rfl, by decide +kernel, by decide +kernel⟩
noncomputable abbrev s_joined_text : Stmt := top 52
noncomputable abbrev sc_joined_text_N : List Str := ["text", "other"]
theorem sc_joined_text : FnScope ["text", "other"] ["text", "other"] (defScope s_joined_text) := ⟨rfl, rfl, rfl, by decide +kernel, rfl, by decide +kernel, by decide +kernel⟩
noncomputable abbrev s_Program___add__ : Stmt := inClass (top 53) 7
noncomputable abbrev sc_Program___add___N : List Str := ["self", "other"]
theorem sc_Program___add__ : FnScope ["self", "other"] ["self", "other"] (defScope s_Program___add__) := ⟨rfl, rfl, rfl, by decide +kernel, rfl, by decide +kernel, by decide +kernel⟩
noncomputable abbrev s_is_int : Stmt := top 41
noncomputable abbrev sc_is_int_N : List Str := ["value"]
theorem sc_is_int : FnScope ["value"] ["value"] (defScope s_is_int) := ⟨rfl, rfl, rfl, by decide +kernel, rfl, by decide +kernel, by decide +kernel⟩
noncomputable abbrev s_in_range : Stmt := top 42
noncomputable abbrev sc_in_range_N : List Str := ["value", "low", "high"]
theorem sc_in_range : FnScope ["value", "low", "high"] ["value", "low", "high"] (defScope s_in_range) := ⟨rfl, rfl, rfl, by decide +kernel, rfl, by decide +kernel, by decide +kernel⟩
noncomputable abbrev s_Program___mul__ : Stmt := inClass (top 53) 8
noncomputable abbrev sc_Program___mul___N : List Str := ["self", "times"]
theorem sc_Program___mul__ : FnScope ["self", "times"] ["self", "times"] (defScope s_Program___mul__) := ⟨rfl, rfl, rfl, by decide +kernel, rfl, by decide +kernel, by decide +kernel⟩
noncomputable abbrev s__law_told : Stmt := top 63
noncomputable abbrev sc__law_told_N : List Str := ["way", "one", "other", "caught", "made", "e"]
theorem sc__law_told : FnScope ["way", "one", "other", "caught", "made", "e"] ["way", "one", "other"] (defScope s__law_told) := ⟨rfl, rfl, rfl, by decide +kernel, rfl, by decide +kernel, by decide +kernel⟩
noncomputable abbrev s_Program___len__ : Stmt := inClass (top 53) 4
noncomputable abbrev sc_Program___len___N : List Str := ["self"]
theorem sc_Program___len__ : FnScope ["self"] ["self"] (defScope s_Program___len__) := ⟨rfl, rfl, rfl, by decide +kernel, rfl, by decide +kernel, by decide +kernel⟩
noncomputable abbrev s__law_sizes_right : Stmt := top 65
noncomputable abbrev sc__law_sizes_right_N : List Str := ["bag", "many", "one", "other", "due", "size", "long_program", "deep", "words", "both"]
theorem sc__law_sizes_right : FnScope ["bag", "many", "one", "other", "due", "size", "long_program", "deep", "words", "both"] ["bag"] (defScope s__law_sizes_right) := ⟨rfl, rfl, rfl, by decide +kernel, rfl, by decide +kernel, by decide +kernel⟩
noncomputable abbrev s_Program_text : Stmt := inClass (top 53) 1
noncomputable abbrev sc_Program_text_N : List Str := ["self"]
theorem sc_Program_text : FnScope ["self"] ["self"] (defScope s_Program_text) := ⟨rfl, rfl, rfl, by decide +kernel, rfl, by decide +kernel, by decide +kernel⟩
noncomputable abbrev s_law : Stmt := top 66
noncomputable abbrev sc_law_N : List Str := ["script", "cell", "bag", "letters", "words", "one", "bad"]
theorem sc_law : FnScope ["script", "cell", "bag", "letters", "words", "one", "bad"] ["script"] (defScope s_law) := ⟨rfl, rfl, rfl, by decide +kernel, rfl, by decide +kernel, by decide +kernel⟩
/-- what the top has written -/
structure Tx (K : PySem.W.Frag) (mg : Str → Option Value) (ad : Nat → Addr) (fs : Nat → FuncData) (cs : Nat → Addr) (w : World) : Prop where
  f_InvalidText___init__ : Fm K "__init__" "InvalidText.__init__" s_InvalidText___init__ (ad 0) (fs 0) ["self", "index"]
  f_InvalidSource___init__ : Fm K "__init__" "InvalidSource.__init__" s_InvalidSource___init__ (ad 1) (fs 1) ["self", "line", "index"]
  f_TooDeep___init__ : Fm K "__init__" "TooDeep.__init__" s_TooDeep___init__ (ad 2) (fs 2) ["self", "limit"]
  f_TooLarge___init__ : Fm K "__init__" "TooLarge.__init__" s_TooLarge___init__ (ad 3) (fs 3) ["self", "limit"]
  f__law_made_right : Fd K mg "_law_made_right" s__law_made_right (ad 4) (fs 4) []
  f__law_bag : Fd K mg "_law_bag" s__law_bag (ad 5) (fs 5) ["cell"]
  f__law_pick : Fd K mg "_law_pick" s__law_pick (ad 6) (fs 6) ["bag", "many"]
  f__law_number : Fd K mg "_law_number" s__law_number (ad 7) (fs 7) ["bag", "far"]
  f__law_words : Fd K mg "_law_words" s__law_words (ad 8) (fs 8) ["bag", "most", "deep", "letters", "far"]
  f_words_of : Fd K mg "words_of" s_words_of (ad 9) (fs 9) ["text"]
  f_is_number : Fd K mg "is_number" s_is_number (ad 10) (fs 10) ["signs"]
  f_is_step_word : Fd K mg "is_step_word" s_is_step_word (ad 11) (fs 11) ["word"]
  f_first_wrong : Fd K mg "first_wrong" s_first_wrong (ad 12) (fs 12) ["words", "names"]
  f_nodes_from : Fd K mg "nodes_from" s_nodes_from (ad 13) (fs 13) ["words", "place"]
  f_nodes_in : Fd K mg "nodes_in" s_nodes_in (ad 14) (fs 14) ["words"]
  f_length_in : Fd K mg "length_in" s_length_in (ad 15) (fs 15) ["nodes"]
  f_depth_in : Fd K mg "depth_in" s_depth_in (ad 16) (fs 16) ["nodes"]
  f_Program___init__ : Fm K "__init__" "Program.__init__" s_Program___init__ (ad 17) (fs 17) ["self", "text"]
  f__law_class : Fd K mg "_law_class" s__law_class (ad 18) (fs 18) ["caught"]
  f_reversed_text : Fd K mg "reversed_text" s_reversed_text (ad 19) (fs 19) ["nodes"]
  f_Program___invert__ : Fm K "__invert__" "Program.__invert__" s_Program___invert__ (ad 20) (fs 20) ["self"]
  f_joined_text : Fd K mg "joined_text" s_joined_text (ad 21) (fs 21) ["text", "other"]
  f_Program___add__ : Fm K "__add__" "Program.__add__" s_Program___add__ (ad 22) (fs 22) ["self", "other"]
  f_is_int : Fd K mg "is_int" s_is_int (ad 23) (fs 23) ["value"]
  f_in_range : Fd K mg "in_range" s_in_range (ad 24) (fs 24) ["value", "low", "high"]
  f_Program___mul__ : Fm K "__mul__" "Program.__mul__" s_Program___mul__ (ad 25) (fs 25) ["self", "times"]
  f__law_told : Fd K mg "_law_told" s__law_told (ad 26) (fs 26) ["way", "one", "other"]
  f_Program___len__ : Fm K "__len__" "Program.__len__" s_Program___len__ (ad 27) (fs 27) ["self"]
  f__law_sizes_right : Fd K mg "_law_sizes_right" s__law_sizes_right (ad 28) (fs 28) ["bag"]
  f_Program_text : Fm K "text" "Program.text" s_Program_text (ad 29) (fs 29) ["self"]
  f_law : Fd K mg "law" s_law (ad 30) (fs 30) ["script"]
  z_ValueError : mg "ValueError" = none
  z_all : mg "all" = none
  z_bool : mg "bool" = none
  z_enumerate : mg "enumerate" = none
  z_int : mg "int" = none
  z_isinstance : mg "isinstance" = none
  z_len : mg "len" = none
  z_max : mg "max" = none
  z_repr : mg "repr" = none
  z_str : mg "str" = none
  z_tuple : mg "tuple" = none
  v_DIGITS : ∃ u, mg "DIGITS" = some u ∧ RelV (.str "0123456789") u
  v_LETTERS : ∃ u, mg "LETTERS" = some u ∧ RelV (.str "fblrud") u
  v_MOST_DEPTH : ∃ u, mg "MOST_DEPTH" = some u ∧ RelV (.int 12) u
  v_MOST_DIGITS : ∃ u, mg "MOST_DIGITS" = some u ∧ RelV (.int 31) u
  v_MOST_TIMES : ∃ u, mg "MOST_TIMES" = some u ∧ RelV (.int 1000000000000000000000000000000) u
  v_MOST_WORDS : ∃ u, mg "MOST_WORDS" = some u ∧ RelV (.int 1000) u
  g_Program : mg "Program" = some (.ref (cs 0))
  c_Program : CF K (cs 0)
  m_Program : Mk K (cs 0) (ad 17)
  g_PlotError : mg "PlotError" = some (.ref (cs 1))
  g_InvalidText : mg "InvalidText" = some (.ref (cs 2))
  g_InvalidSource : mg "InvalidSource" = some (.ref (cs 3))
  g_TooDeep : mg "TooDeep" = some (.ref (cs 4))
  g_TooLarge : mg "TooLarge" = some (.ref (cs 5))
  g_InvalidProgram : mg "InvalidProgram" = some (.ref (cs 6))
  g_InvalidTimes : mg "InvalidTimes" = some (.ref (cs 7))
  g_InvalidIndex : mg "InvalidIndex" = some (.ref (cs 8))
  g_InvalidLetter : mg "InvalidLetter" = some (.ref (cs 9))
  g_InvalidName : mg "InvalidName" = some (.ref (cs 10))
  g_HasPen : mg "HasPen" = some (.ref (cs 11))
  g_InvalidMotion : mg "InvalidMotion" = some (.ref (cs 12))
  g_InvalidPose : mg "InvalidPose" = some (.ref (cs 13))
  g_InvalidPoint : mg "InvalidPoint" = some (.ref (cs 14))
  g_InvalidEdge : mg "InvalidEdge" = some (.ref (cs 15))
  g_InvalidPicture : mg "InvalidPicture" = some (.ref (cs 16))
  g_InvalidTurn : mg "InvalidTurn" = some (.ref (cs 17))
  g_InvalidFace : mg "InvalidFace" = some (.ref (cs 18))
  g_InvalidFaces : mg "InvalidFaces" = some (.ref (cs 19))
  g_NotEven : mg "NotEven" = some (.ref (cs 20))
  g_NotClosed : mg "NotClosed" = some (.ref (cs 21))
  g_InvalidIntervals : mg "InvalidIntervals" = some (.ref (cs 22))
  g_InvalidPlace : mg "InvalidPlace" = some (.ref (cs 23))
  g_NotDrifting : mg "NotDrifting" = some (.ref (cs 24))
  g_InvalidCount : mg "InvalidCount" = some (.ref (cs 25))
  g_NoSteps : mg "NoSteps" = some (.ref (cs 26))
  g_InvalidOperation : mg "InvalidOperation" = some (.ref (cs 27))
  g_Nothing : mg "Nothing" = some (.ref (cs 28))
  g_InvalidArt : mg "InvalidArt" = some (.ref (cs 29))
  g_InvalidCommand : mg "InvalidCommand" = some (.ref (cs 30))
  xi_InvalidText : XMkI K (cs 2) (ad 0) ["index"]
  xf_InvalidText : XfC K (cs 2)
  xn_InvalidText_index : PySem.W.findIn K (.ref (cs 2)) "index" = some none
  xi_InvalidSource : XMkI K (cs 3) (ad 1) ["line", "index"]
  xf_InvalidSource : XfC K (cs 3)
  xn_InvalidSource_line : PySem.W.findIn K (.ref (cs 3)) "line" = some none
  xn_InvalidSource_index : PySem.W.findIn K (.ref (cs 3)) "index" = some none
  xi_TooDeep : XMkI K (cs 4) (ad 2) ["limit"]
  xf_TooDeep : XfC K (cs 4)
  xn_TooDeep_limit : PySem.W.findIn K (.ref (cs 4)) "limit" = some none
  xi_TooLarge : XMkI K (cs 5) (ad 3) ["limit"]
  xf_TooLarge : XfC K (cs 5)
  xn_TooLarge_limit : PySem.W.findIn K (.ref (cs 5)) "limit" = some none
  xm_HasPen : XMk K (cs 11)
  xm_InvalidProgram : XMk K (cs 6)
  xm_InvalidTimes : XMk K (cs 7)
  xm_InvalidIndex : XMk K (cs 8)
  xm_InvalidLetter : XMk K (cs 9)
  xm_InvalidName : XMk K (cs 10)
  xm_InvalidPicture : XMk K (cs 16)
  xm_InvalidMotion : XMk K (cs 12)
  xm_InvalidPose : XMk K (cs 13)
  xm_InvalidPoint : XMk K (cs 14)
  xm_InvalidEdge : XMk K (cs 15)
  xm_InvalidTurn : XMk K (cs 17)
  xm_InvalidFace : XMk K (cs 18)
  xm_InvalidFaces : XMk K (cs 19)
  xm_NotEven : XMk K (cs 20)
  xm_NotClosed : XMk K (cs 21)
  xm_Nothing : XMk K (cs 28)
  xm_InvalidIntervals : XMk K (cs 22)
  xm_InvalidPlace : XMk K (cs 23)
  xm_NotDrifting : XMk K (cs 24)
  xm_InvalidCount : XMk K (cs 25)
  xm_NoSteps : XMk K (cs 26)
  xm_InvalidOperation : XMk K (cs 27)
  xm_InvalidArt : XMk K (cs 29)
  xm_InvalidCommand : XMk K (cs 30)
  xm_PlotError : XMk K (cs 1)
  xrel : XRelOk K (relC cs)
  xt : ∀ C, xT cs C = true → PySem.W.exmOne K (.ref C) (.ref (cs 1)) = some true
  n_Program_own_depth : NoAttr K (cs 0) "own_depth"
  n_Program_own_length : NoAttr K (cs 0) "own_length"
  n_Program_own_nodes : NoAttr K (cs 0) "own_nodes"
  n_Program_own_text : NoAttr K (cs 0) "own_text"
  n_Program_own_words : NoAttr K (cs 0) "own_words"
  a_InvalidText___init__ : PySem.W.findIn K (.ref (cs 2)) "__init__" = some (some (.ref (ad 0)))
  i_InvalidText___init__ : PySem.W.isFn K (.ref (ad 0)) = true
  a_InvalidSource___init__ : PySem.W.findIn K (.ref (cs 3)) "__init__" = some (some (.ref (ad 1)))
  i_InvalidSource___init__ : PySem.W.isFn K (.ref (ad 1)) = true
  a_TooDeep___init__ : PySem.W.findIn K (.ref (cs 4)) "__init__" = some (some (.ref (ad 2)))
  i_TooDeep___init__ : PySem.W.isFn K (.ref (ad 2)) = true
  a_TooLarge___init__ : PySem.W.findIn K (.ref (cs 5)) "__init__" = some (some (.ref (ad 3)))
  i_TooLarge___init__ : PySem.W.isFn K (.ref (ad 3)) = true
  a_Program___init__ : PySem.W.findIn K (.ref (cs 0)) "__init__" = some (some (.ref (ad 17)))
  i_Program___init__ : PySem.W.isFn K (.ref (ad 17)) = true
  a_Program___invert__ : PySem.W.findIn K (.ref (cs 0)) "__invert__" = some (some (.ref (ad 20)))
  i_Program___invert__ : PySem.W.isFn K (.ref (ad 20)) = true
  a_Program___add__ : PySem.W.findIn K (.ref (cs 0)) "__add__" = some (some (.ref (ad 22)))
  i_Program___add__ : PySem.W.isFn K (.ref (ad 22)) = true
  a_Program___mul__ : PySem.W.findIn K (.ref (cs 0)) "__mul__" = some (some (.ref (ad 25)))
  i_Program___mul__ : PySem.W.isFn K (.ref (ad 25)) = true
  a_Program___len__ : PySem.W.findIn K (.ref (cs 0)) "__len__" = some (some (.ref (ad 27)))
  i_Program___len__ : PySem.W.isFn K (.ref (ad 27)) = true
  p_Program_text : ∃ pa, PropOf K (cs 0) "text" pa (ad 29)
  sf_Program___add__ : PySem.W.selfFirst K (cs 0) = true
  s_Program___add__ : BinS K (cs 0) (ad 22) (Operator.Add).info.2
  u_Program___add__ : BinA K (cs 0) (ad 22) (Operator.Add).info.2
  sf_Program___mul__ : PySem.W.selfFirst K (cs 0) = true
  s_Program___mul__ : BinS K (cs 0) (ad 25) (Operator.Mult).info.2
  u_Program___mul__ : BinA K (cs 0) (ad 25) (Operator.Mult).info.2
  is_Program : IsF K (okC cs) (cs 0)
  kd_REVERSED : ∃ A, mg "REVERSED" = some (.ref A) ∧ ∀ z v, ([("f", "b"), ("b", "f"), ("l", "r"), ("r", "l")] : List (Str × Str)).lookup z = some v → KDct K w A z (.str v)
  iy_int : ∀ C, okC cs C = true → PySem.W.kitOne K (.ref C) (.type "int") = some false
theorem Tx.cf {w : World} {K : PySem.W.Frag} {mg : Str → Option Value} {ad : Nat → Addr} {fs : Nat → FuncData} {cs : Nat → Addr} (T : Tx K mg ad fs cs w) : ∀ C, okC cs C = true → CF K C := fun C h => by
  simp only [okC, Bool.or_eq_true, beq_iff_eq, or_assoc] at h
  rcases h with rfl
  exact T.c_Program
section
variable {P : Program} {w : World} {K : PySem.W.Frag} {mg : Str → Option Value} {base : Heap} {ad : Nat → Addr} {fs : Nat → FuncData} {cs : Nat → Addr}
theorem kx_InvalidText_ (T : Tx K mg ad fs cs w) : FnOk P w K mg base (L2.CX P w) 1 (ad 0) (fs 0) ["self", "index"] (spI K ["index"]) := init1 T.f_InvalidText___init__.F sc_InvalidText___init__ rfl
theorem kx_InvalidSource_ (T : Tx K mg ad fs cs w) : FnOk P w K mg base (L2.CX P w) 1 (ad 1) (fs 1) ["self", "line", "index"] (spI K ["line", "index"]) := init2 T.f_InvalidSource___init__.F sc_InvalidSource___init__ rfl
theorem kx_TooDeep_ (T : Tx K mg ad fs cs w) : FnOk P w K mg base (L2.CX P w) 1 (ad 2) (fs 2) ["self", "limit"] (spI K ["limit"]) := init1 T.f_TooDeep___init__.F sc_TooDeep___init__ rfl
theorem kx_TooLarge_ (T : Tx K mg ad fs cs w) : FnOk P w K mg base (L2.CX P w) 1 (ad 3) (fs 3) ["self", "limit"] (spI K ["limit"]) := init1 T.f_TooLarge___init__.F sc_TooLarge___init__ rfl
theorem k__law_made_right_ (T : Tx K mg ad fs cs w) : FnG P w K mg base (L2.CX P w) 3 (ad 4) (fs 4) [] (spD K 0 (m__law_made_right cs)) := by
  refine fn_mirror (N := sc__law_made_right_N) T.f__law_made_right.F sc__law_made_right fun X pvs W cdv A outer s H E hX tk hr => ?_
  subst hX
  have hu := hr.units
  have kx_InvalidText := kx_InvalidText_ (P := P) (w := w) (base := base) T
  have kx_InvalidSource := kx_InvalidSource_ (P := P) (w := w) (base := base) T
  have kx_TooDeep := kx_TooDeep_ (P := P) (w := w) (base := base) T
  have kx_TooLarge := kx_TooLarge_ (P := P) (w := w) (base := base) T
  exact (dss_cons (ds_set (i := 0) sc__law_made_right.nd rfl (by first | exact Or.inl rfl | exact Or.inr rfl) (do_lst (da_cons (dx_exc rfl T.xm_InvalidProgram (by rfl) T.g_InvalidProgram (da_cons dx_str da_nil)) (da_cons (dx_exc rfl T.xm_InvalidTimes (by rfl) T.g_InvalidTimes (da_cons dx_str da_nil)) (da_cons (dx_exc rfl T.xm_InvalidIndex (by rfl) T.g_InvalidIndex (da_cons dx_str da_nil)) (da_cons (dx_exc rfl T.xm_InvalidLetter (by rfl) T.g_InvalidLetter (da_cons dx_str da_nil)) (da_cons (dx_exc rfl T.xm_InvalidName (by rfl) T.g_InvalidName (da_cons dx_str da_nil)) da_nil)))))))
    (dss_cons (ds_set (i := 0) sc__law_made_right.nd rfl (by first | exact Or.inl rfl | exact Or.inr rfl) (do_cat (dq_see (pv 0)) (DO.dq (do_lst (da_cons (dx_exc rfl T.xm_HasPen (by rfl) T.g_HasPen (da_cons dx_str da_nil)) (da_cons (dx_exc rfl T.xm_InvalidMotion (by rfl) T.g_InvalidMotion (da_cons dx_str da_nil)) (da_cons (dx_exc rfl T.xm_InvalidPose (by rfl) T.g_InvalidPose (da_cons dx_str da_nil)) (da_cons (dx_exc rfl T.xm_InvalidPoint (by rfl) T.g_InvalidPoint (da_cons dx_str da_nil)) (da_cons (dx_exc rfl T.xm_InvalidEdge (by rfl) T.g_InvalidEdge (da_cons dx_str da_nil)) da_nil)))))))))
    (dss_cons (ds_app (pv 0) (DX.own (dx_exc rfl T.xm_InvalidPicture (by rfl) T.g_InvalidPicture (da_cons dx_str da_nil))))
    (dss_cons (ds_set (i := 0) sc__law_made_right.nd rfl (by first | exact Or.inl rfl | exact Or.inr rfl) (do_cat (dq_see (pv 0)) (DO.dq (do_lst (da_cons (dx_exc rfl T.xm_InvalidTurn (by rfl) T.g_InvalidTurn (da_cons dx_str da_nil)) (da_cons (dx_exc rfl T.xm_InvalidFace (by rfl) T.g_InvalidFace (da_cons dx_str da_nil)) (da_cons (dx_exc rfl T.xm_InvalidFaces (by rfl) T.g_InvalidFaces (da_cons dx_str da_nil)) (da_cons (dx_exc rfl T.xm_NotEven (by rfl) T.g_NotEven (da_cons dx_str da_nil)) (da_cons (dx_exc rfl T.xm_NotClosed (by rfl) T.g_NotClosed (da_cons dx_str da_nil)) (da_cons (dx_exc rfl T.xm_Nothing (by rfl) T.g_Nothing (da_cons dx_str da_nil)) da_nil))))))))))
    (dss_cons (ds_set (i := 0) sc__law_made_right.nd rfl (by first | exact Or.inl rfl | exact Or.inr rfl) (do_cat (dq_see (pv 0)) (DO.dq (do_lst (da_cons (dx_exc rfl T.xm_InvalidIntervals (by rfl) T.g_InvalidIntervals (da_cons dx_str da_nil)) (da_cons (dx_exc rfl T.xm_InvalidPlace (by rfl) T.g_InvalidPlace (da_cons dx_str da_nil)) (da_cons (dx_exc rfl T.xm_NotDrifting (by rfl) T.g_NotDrifting (da_cons dx_str da_nil)) (da_cons (dx_exc rfl T.xm_InvalidCount (by rfl) T.g_InvalidCount (da_cons dx_str da_nil)) (da_cons (dx_exc rfl T.xm_NoSteps (by rfl) T.g_NoSteps (da_cons dx_str da_nil)) da_nil)))))))))
    (dss_cons (ds_set (i := 0) sc__law_made_right.nd rfl (by first | exact Or.inl rfl | exact Or.inr rfl) (do_cat (dq_see (pv 0)) (DO.dq (do_lst (da_cons (dx_exc rfl T.xm_InvalidOperation (by rfl) T.g_InvalidOperation (da_cons dx_str da_nil)) (da_cons (dx_exc rfl T.xm_InvalidArt (by rfl) T.g_InvalidArt (da_cons dx_str da_nil)) (da_cons (dx_exc rfl T.xm_InvalidCommand (by rfl) T.g_InvalidCommand (da_cons dx_str da_nil)) (da_cons (dx_excX rfl T.xi_InvalidText kx_InvalidText (hr.mono (by decide)) T.f_InvalidText___init__.b (by rfl) T.g_InvalidText (da_cons dx_int da_nil)) (da_cons (dx_excX rfl T.xi_InvalidSource kx_InvalidSource (hr.mono (by decide)) T.f_InvalidSource___init__.b (by rfl) T.g_InvalidSource (da_cons dx_int (da_cons dx_int da_nil))) da_nil)))))))))
    (dss_cons (ds_for (passes_of rfl) rfl (di_list (DO.frz (do_cat (dq_see (pv 0)) (DO.dq (do_lst (da_cons (dx_excX rfl T.xi_TooDeep kx_TooDeep (hr.mono (by decide)) T.f_TooDeep___init__.b (by rfl) T.g_TooDeep (da_cons dx_int da_nil)) (da_cons (dx_excX rfl T.xi_TooLarge kx_TooLarge (hr.mono (by decide)) T.f_TooLarge___init__.b (by rfl) T.g_TooLarge (da_cons dx_int da_nil)) da_nil))))))) (dg_name (i := 1) sc__law_made_right.nd rfl (by first | exact Or.inl rfl | exact Or.inr rfl)) (dss_one (ds_if (DW.dt (dw_or (dt_not (dt_val (dx_callB call_isiF (f_isF T.xrel) (by rfl) T.z_isinstance bo_isinstance (da_cons (dx_var (pv 1)) (da_cons (dx_cls (by rfl) T.g_PlotError) da_nil))))) (dw_or1 (dt_not (dt_val (dx_callB call_isiF (f_isF T.xrel) (by rfl) T.z_isinstance bo_isinstance (da_cons (dx_var (pv 1)) (da_cons (dx_ty (by rfl) T.z_ValueError bo_ValueError) da_nil)))))))) (dss_one (ds_ret (DX.own dx_bl))) dss_nil)))
    (dss_cons (ds_set (i := 2) sc__law_made_right.nd rfl (by first | exact Or.inl rfl | exact Or.inr rfl) (DO.fz (do_lst (da_cons (dx_fldX (ok := (fun C => C == cs 2 || C == cs 3)) (dx_excX rfl T.xi_InvalidText kx_InvalidText (hr.mono (by decide)) T.f_InvalidText___init__.b (by rfl) T.g_InvalidText (da_cons dx_int da_nil)) (fun C h => by simp only [Bool.or_eq_true] at h; rcases h with h | h <;> first | (cases beq_iff_eq.mp h; exact ⟨T.xf_InvalidText, T.xn_InvalidText_index⟩) | (cases beq_iff_eq.mp h; exact ⟨T.xf_InvalidSource, T.xn_InvalidSource_index⟩))) (da_cons (dx_fldX (ok := (fun C => C == cs 3)) (dx_excX rfl T.xi_InvalidSource kx_InvalidSource (hr.mono (by decide)) T.f_InvalidSource___init__.b (by rfl) T.g_InvalidSource (da_cons dx_int (da_cons dx_int da_nil))) (fun C h => by cases beq_iff_eq.mp h; exact ⟨T.xf_InvalidSource, T.xn_InvalidSource_line⟩)) (da_cons (dx_fldX (ok := (fun C => C == cs 2 || C == cs 3)) (dx_excX rfl T.xi_InvalidSource kx_InvalidSource (hr.mono (by decide)) T.f_InvalidSource___init__.b (by rfl) T.g_InvalidSource (da_cons dx_int (da_cons dx_int da_nil))) (fun C h => by simp only [Bool.or_eq_true] at h; rcases h with h | h <;> first | (cases beq_iff_eq.mp h; exact ⟨T.xf_InvalidText, T.xn_InvalidText_index⟩) | (cases beq_iff_eq.mp h; exact ⟨T.xf_InvalidSource, T.xn_InvalidSource_index⟩))) (da_cons (dx_fldX (ok := (fun C => C == cs 4 || C == cs 5)) (dx_excX rfl T.xi_TooDeep kx_TooDeep (hr.mono (by decide)) T.f_TooDeep___init__.b (by rfl) T.g_TooDeep (da_cons dx_int da_nil)) (fun C h => by simp only [Bool.or_eq_true] at h; rcases h with h | h <;> first | (cases beq_iff_eq.mp h; exact ⟨T.xf_TooDeep, T.xn_TooDeep_limit⟩) | (cases beq_iff_eq.mp h; exact ⟨T.xf_TooLarge, T.xn_TooLarge_limit⟩))) da_nil)))))))
    (dss_one (ds_ret (DX.own (dx_and (dx_cmp (op_eqX hu) f_eq (DO.frz (do_cat (DX.dq (dx_var (pv 2))) (DO.dq (do_lst (da_cons (dx_fldX (ok := (fun C => C == cs 4 || C == cs 5)) (dx_excX rfl T.xi_TooLarge kx_TooLarge (hr.mono (by decide)) T.f_TooLarge___init__.b (by rfl) T.g_TooLarge (da_cons dx_int da_nil)) (fun C h => by simp only [Bool.or_eq_true] at h; rcases h with h | h <;> first | (cases beq_iff_eq.mp h; exact ⟨T.xf_TooDeep, T.xn_TooDeep_limit⟩) | (cases beq_iff_eq.mp h; exact ⟨T.xf_TooLarge, T.xn_TooLarge_limit⟩))) da_nil))))) (DO.frz (do_lst (da_cons dx_int (da_cons dx_int (da_cons dx_int (da_cons dx_int (da_cons dx_int da_nil))))))) (nomark _)) (dx_and1 (dx_not (dx_callB call_isiF (f_isF T.xrel) (by rfl) T.z_isinstance bo_isinstance (da_cons (dx_exc rfl T.xm_PlotError (by rfl) T.g_PlotError (da_cons dx_str da_nil)) (da_cons (dx_tup (da_cons (dx_cls (by rfl) T.g_InvalidText) (da_cons (dx_cls (by rfl) T.g_HasPen) da_nil))) da_nil)))))))))))))))))
theorem k__law_bag_ (T : Tx K mg ad fs cs w) : FnG P w K mg base (L2.CX P w) 1 (ad 5) (fs 5) ["cell"] (spD K 1 (m__law_bag cs)) := by
  refine fn_mirror (N := sc__law_bag_N) T.f__law_bag.F sc__law_bag fun X pvs W cdv A outer s H E hX tk hr => ?_
  subst hX
  have hu := hr.units
  exact (dss_one (ds_ret (do_lst (da_cons (dx_callB (call_maxX rfl) f_max (by rfl) T.z_max bo_max (da_cons dx_int (da_cons (dx_op2 op_sub f_sub (dx_var (pv 0)) (dx_op2 op_powX f_pow dx_int dx_int)) da_nil))) (da_cons (dx_var (pv 0)) (da_cons dx_int da_nil))))))
theorem k__law_pick_ (T : Tx K mg ad fs cs w) : FnG P w K mg base (L2.CX P w) 1 (ad 6) (fs 6) ["bag", "many"] (spD K 2 (m__law_pick cs)) := by
  refine fn_mirror (N := sc__law_pick_N) T.f__law_pick.F sc__law_pick fun X pvs W cdv A outer s H E hX tk hr => ?_
  subst hX
  have hu := hr.units
  exact (dss_cons (ds_setAt (pv 0) dx_int (DX.own (dx_op2 op_addX f_add (dx_at (dq_see (pv 0)) dx_int) dx_int)))
    (dss_cons (ds_if (dt_cmp op_gt f_gt (dx_at (dq_see (pv 0)) dx_int) dx_int (nomark _)) (dss_cons (ds_set (i := 2) sc__law_pick.nd rfl (by first | exact Or.inl rfl | exact Or.inr rfl) (DX.own (dx_op2 op_modN f_mod (dx_at (dq_see (pv 0)) dx_int) (dx_var (pv 1))))) (dss_cons (ds_setAt (pv 0) dx_int (DX.own (dx_op2 op_divX f_div (dx_at (dq_see (pv 0)) dx_int) (dx_var (pv 1))))) (dss_one (ds_ret (DX.own (dx_var (pv 2))))))) dss_nil)
    (dss_cons (ds_set (i := 3) sc__law_pick.nd rfl (by first | exact Or.inl rfl | exact Or.inr rfl) (DX.own (dx_op2 op_modN f_mod (dx_op2 op_addX f_add (dx_op2 op_addX f_add (dx_op2 op_mulW f_mul (dx_op2 op_modN f_mod (dx_at (dq_see (pv 0)) dx_int) dx_int) dx_int) (dx_op2 op_mulW f_mul (dx_at (dq_see (pv 0)) dx_int) dx_int)) dx_int) dx_int)))
    (dss_cons (ds_set (i := 4) sc__law_pick.nd rfl (by first | exact Or.inl rfl | exact Or.inr rfl) (DX.own (dx_op2 op_modN f_mod (dx_op2 op_addX f_add (dx_op2 op_mulW f_mul (dx_var (pv 3)) (dx_var (pv 3))) (dx_op2 op_mulW f_mul (dx_at (dq_see (pv 0)) dx_int) dx_int)) dx_int)))
    (dss_one (ds_ret (DX.own (dx_op2 op_modN f_mod (dx_op2 op_divX f_div (dx_op2 op_addX f_add (dx_op2 op_mulW f_mul (dx_var (pv 3)) dx_int) (dx_var (pv 4))) dx_int) (dx_var (pv 1))))))))))
theorem k__law_number_ (T : Tx K mg ad fs cs w) : FnG P w K mg base (L2.CX P w) 2 (ad 7) (fs 7) ["bag", "far"] (spD K 2 (m__law_number cs)) := by
  refine fn_mirror (N := sc__law_number_N) T.f__law_number.F sc__law_number fun X pvs W cdv A outer s H E hX tk hr => ?_
  subst hX
  have hu := hr.units
  have k__law_pick := k__law_pick_ (P := P) (w := w) (base := base) T
  exact (dss_one (ds_ret (DX.own (dx_callTy call_str1 f_str1 (by rfl) T.z_str bo_str (da_cons (dx_op2 op_addX f_add dx_int (DO.frz (do_call1 k__law_pick (hr.mono (by decide)) (by rfl) T.f__law_pick.g T.f__law_pick.F.kp T.f__law_pick.b tk (dr_slot (pv 0) (dr_fz (dx_ix (DO.frz (do_lst (da_cons dx_int (da_cons dx_int (da_cons dx_int (da_cons dx_int (da_cons (dx_op2 op_sub f_sub (dx_op2 op_powX f_pow dx_int dx_int) dx_int) da_nil))))))) (DO.frz (do_call1 k__law_pick (hr.mono (by decide)) (by rfl) T.f__law_pick.g T.f__law_pick.F.kp T.f__law_pick.b tk (dr_slot (pv 0) (dr_fz (dx_op2 op_addX f_add dx_int (dx_op2 op_mulW f_mul dx_int (dx_var (pv 1)))) dr_nil)) (lenr_slot (lenr_fz lenr_nil))))) dr_nil)) (lenr_slot (lenr_fz lenr_nil))))) da_nil)))))
theorem k__law_words_ (T : Tx K mg ad fs cs w) : ∀ n : Nat, FnG P w K mg base (L2.CX P w) (n + 3) (ad 8) (fs 8) ["bag", "most", "deep", "letters", "far"] (spD K 5 (m__law_words cs n))
  | 0 => fn_bad
  | n + 1 => by
    have k__law_words := k__law_words_ T n
    refine fn_mirror (N := sc__law_words_N) T.f__law_words.F sc__law_words fun X pvs W cdv A outer s H E hX tk hr => ?_
    subst hX
    have hu := hr.units
    have k__law_pick := k__law_pick_ (P := P) (w := w) (base := base) T
    have k__law_number := k__law_number_ (P := P) (w := w) (base := base) T
    exact (dss_cons (ds_set (i := 5) sc__law_words.nd rfl (by first | exact Or.inl rfl | exact Or.inr rfl) (do_lst da_nil))
      (dss_cons (ds_set (i := 6) sc__law_words.nd rfl (by first | exact Or.inl rfl | exact Or.inr rfl) (DX.own (dx_op2 op_addX f_add dx_int (DO.frz (do_call1 k__law_pick (hr.mono (by omega)) (by rfl) T.f__law_pick.g T.f__law_pick.F.kp T.f__law_pick.b tk (dr_slot (pv 0) (dr_fz (dx_var (pv 1)) dr_nil)) (lenr_slot (lenr_fz lenr_nil)))))))
      (dss_cons (ds_while (fun _ => 100000) (passes_of rfl) (dt_cmp op_ltX f_lt (dx_callB call_len f_len (by rfl) T.z_len bo_len (da_cons (dx_see (pv 5)) da_nil)) (dx_var (pv 6)) (nomark _)) (dss_cons (ds_set (i := 7) sc__law_words.nd rfl (by first | exact Or.inl rfl | exact Or.inr rfl) (DO.fz (do_call1 k__law_pick (hr.mono (by omega)) (by rfl) T.f__law_pick.g T.f__law_pick.F.kp T.f__law_pick.b tk (dr_slot (pv 0) (dr_fz dx_int dr_nil)) (lenr_slot (lenr_fz lenr_nil))))) (dss_cons (ds_set (i := 8) sc__law_words.nd rfl (by first | exact Or.inl rfl | exact Or.inr rfl) (DX.own (dx_op2 op_sub f_sub (dx_var (pv 6)) (dx_callB call_len f_len (by rfl) T.z_len bo_len (da_cons (dx_see (pv 5)) da_nil))))) (dss_one (ds_if (DW.dt (dw_and (dt_cmp (op_eqX hu) f_eq (dx_var (pv 7)) dx_int (nomark _)) (dw_and (dt_cmp op_gt f_gt (dx_var (pv 2)) dx_int (nomark _)) (dw_and1 (dt_cmp op_gt f_gt (dx_var (pv 8)) dx_int (nomark _)))))) (dss_cons (ds_set (i := 9) sc__law_words.nd rfl (by first | exact Or.inl rfl | exact Or.inr rfl) (DO.fz (do_call1 k__law_words (hr.mono (by omega)) (by rfl) T.f__law_words.g T.f__law_words.F.kp T.f__law_words.b tk (dr_slot (pv 0) (dr_fz (dx_op2 op_sub f_sub (dx_var (pv 8)) dx_int) (dr_fz (dx_op2 op_sub f_sub (dx_var (pv 2)) dx_int) (dr_fz (dx_var (pv 3)) (dr_fz (dx_var (pv 4)) dr_nil))))) (lenr_slot (lenr_fz (lenr_fz (lenr_fz (lenr_fz lenr_nil)))))))) (dss_one (ds_set (i := 5) sc__law_words.nd rfl (by first | exact Or.inl rfl | exact Or.inr rfl) (do_cat (DX.dq (DO.frz (do_cat (DO.dq (do_cat (dq_see (pv 5)) (DO.dq (do_lst (da_cons dx_str da_nil))))) (DX.dq (dx_var (pv 9)))))) (DO.dq (do_lst (da_cons (dx_op2 op_addX f_add dx_str (DO.frz (do_call1 k__law_number (hr.mono (by omega)) (by rfl) T.f__law_number.g T.f__law_number.F.kp T.f__law_number.b tk (dr_slot (pv 0) (dr_fz (dx_var (pv 4)) dr_nil)) (lenr_slot (lenr_fz lenr_nil))))) da_nil))))))) (dss_one (ds_app (pv 5) (DX.own (dx_op2 op_addX f_add (dx_ix (dx_var (pv 3)) (DO.frz (do_call1 k__law_pick (hr.mono (by omega)) (by rfl) T.f__law_pick.g T.f__law_pick.F.kp T.f__law_pick.b tk (dr_slot (pv 0) (dr_fz (dx_callB call_len f_len (by rfl) T.z_len bo_len (da_cons (dx_var (pv 3)) da_nil)) dr_nil)) (lenr_slot (lenr_fz lenr_nil))))) (dx_ix (DO.frz (do_lst (da_cons dx_str (da_cons (DO.frz (do_call1 k__law_number (hr.mono (by omega)) (by rfl) T.f__law_number.g T.f__law_number.F.kp T.f__law_number.b tk (dr_slot (pv 0) (dr_fz (dx_var (pv 4)) dr_nil)) (lenr_slot (lenr_fz lenr_nil)))) da_nil)))) (dx_callTy call_int2 f_int2 (by rfl) T.z_int bo_int (da_cons (dx_cmp (op_eqX hu) f_eq (dx_var (pv 7)) dx_int (nomark _)) da_nil))))))))))))
      (dss_one (ds_ret (do_take (pv 5)))))))
theorem k_words_of_ (T : Tx K mg ad fs cs w) : FnG P w K mg base (L2.CX P w) 1 (ad 9) (fs 9) ["text"] (spD K 1 (m_words_of cs)) := by
  refine fn_mirror (N := sc_words_of_N) T.f_words_of.F sc_words_of fun X pvs W cdv A outer s H E hX tk hr => ?_
  subst hX
  have hu := hr.units
  exact (dss_one (ds_ret (DX.own (dx_if (dt_cmp (op_neX hu) f_ne (dx_var (pv 0)) dx_str (nomark _)) (DO.frz (do_split (dx_var (pv 0)) (da_cons dx_str da_nil))) (DO.frz (do_lst da_nil))))))
theorem k_is_number_ (T : Tx K mg ad fs cs w) : FnG P w K mg base (L2.CX P w) 1 (ad 10) (fs 10) ["signs"] (spD K 1 (m_is_number cs)) := by
  refine fn_mirror (N := sc_is_number_N) T.f_is_number.F sc_is_number fun X pvs W cdv A outer s H E hX tk hr => ?_
  subst hX
  have hu := hr.units
  exact (dss_cons (ds_if (DW.dt (dw_or (dt_not (dt_chain op_le op_le f_le f_le dx_int (dx_callB call_len f_len (by rfl) T.z_len bo_len (da_cons (dx_var (pv 0)) da_nil)) (dx_const (v := .int 31) (by rfl) T.v_MOST_DIGITS fun _ => .int _))) (dw_or1 (dt_cmp (op_eqX hu) f_eq (dx_ix (dx_var (pv 0)) dx_int) dx_str (nomark _))))) (dss_one (ds_ret (DX.own dx_bl))) dss_nil)
    (dss_one (ds_ret (DX.own (dx_and (dx_callB (cr_all rfl) f_all (by rfl) T.z_all bo_all (da_cons (DO.frz (do_comp (own := [("sign", 1)]) rfl sc_is_number.nd (di_str (dx_var (pv 0))) (blkOk_by (N := sc_is_number_N) (sc := defScope s_is_number) (own := [("sign", 1)]) (by decide +kernel)) (fun _ _ _ _ _ => (dg_name (i := 1) sc_is_number.nd rfl (by first | exact Or.inl rfl | exact Or.inr rfl))) (fun _ _ _ _ _ => dts_nil) (fun _ _ _ _ _ => (dx_cmp op_in2 f_in2 (dx_var (pv 1)) (dx_const (v := .str "0123456789") (by rfl) T.v_DIGITS fun _ => .str _) (by with_unfolding_all rfl))) (by decide) (wip_name))) da_nil)) (dx_and1 (dx_chain op_le op_le f_le f_le dx_int (dx_callTy call_int2 f_int2 (by rfl) T.z_int bo_int (da_cons (dx_var (pv 0)) da_nil)) (dx_const (v := .int 1000000000000000000000000000000) (by rfl) T.v_MOST_TIMES fun _ => .int _))))))))
theorem k_is_step_word_ (T : Tx K mg ad fs cs w) : FnG P w K mg base (L2.CX P w) 2 (ad 11) (fs 11) ["word"] (spD K 1 (m_is_step_word cs)) := by
  refine fn_mirror (N := sc_is_step_word_N) T.f_is_step_word.F sc_is_step_word fun X pvs W cdv A outer s H E hX tk hr => ?_
  subst hX
  have hu := hr.units
  have k_is_number := k_is_number_ (P := P) (w := w) (base := base) T
  exact (dss_one (ds_ret (DX.own (dx_and (dx_cmp (op_neX hu) f_ne (dx_cut (dx_var (pv 0)) dp_none (dp_some dx_int)) dx_str (nomark _)) (dx_and (dx_cmp op_in2 f_in2 (dx_cut (dx_var (pv 0)) dp_none (dp_some dx_int)) (dx_const (v := .str "fblrud") (by rfl) T.v_LETTERS fun _ => .str _) (by with_unfolding_all rfl)) (dx_and1 (dx_or (dx_cmp (op_eqX hu) f_eq (dx_callB call_len f_len (by rfl) T.z_len bo_len (da_cons (dx_var (pv 0)) da_nil)) dx_int (nomark _)) (dx_or1 (DO.frz (do_call0 k_is_number (hr.mono (by decide)) (by rfl) T.f_is_number.g T.f_is_number.F.kp T.f_is_number.b tk (da_cons (dx_cut (dx_var (pv 0)) (dp_some dx_int) dp_none) da_nil) (len_cons len_nil)))))))))))
theorem k_first_wrong_ (T : Tx K mg ad fs cs w) : FnG P w K mg base (L2.CX P w) 3 (ad 12) (fs 12) ["words", "names"] (spD K 2 (m_first_wrong cs)) := by
  refine fn_mirror (N := sc_first_wrong_N) T.f_first_wrong.F sc_first_wrong fun X pvs W cdv A outer s H E hX tk hr => ?_
  subst hX
  have hu := hr.units
  have k_is_step_word := k_is_step_word_ (P := P) (w := w) (base := base) T
  have k_is_number := k_is_number_ (P := P) (w := w) (base := base) T
  exact (dss_cons (ds_set (i := 2) sc_first_wrong.nd rfl (by first | exact Or.inl rfl | exact Or.inr rfl) (DX.own dx_int))
    (dss_cons (ds_set (i := 3) sc_first_wrong.nd rfl (by first | exact Or.inl rfl | exact Or.inr rfl) (DX.own dx_bl))
    (dss_cons (ds_for (passes_of rfl) rfl (di_enum (by rfl) T.z_enumerate (da_cons (dx_var (pv 0)) da_nil)) (dg_tup rfl (dgs_cons (dg_name (i := 4) sc_first_wrong.nd rfl (by first | exact Or.inl rfl | exact Or.inr rfl)) (dgs_cons (dg_name (i := 5) sc_first_wrong.nd rfl (by first | exact Or.inl rfl | exact Or.inr rfl)) dgs_nil))) (dss_cons (ds_if (dt_cmp (op_eqX hu) f_eq (dx_var (pv 5)) dx_str (nomark _)) (dss_cons (ds_set (i := 2) sc_first_wrong.nd rfl (by first | exact Or.inl rfl | exact Or.inr rfl) (DX.own (dx_op2 op_addX f_add (dx_var (pv 2)) dx_int))) (dss_cons (ds_set (i := 3) sc_first_wrong.nd rfl (by first | exact Or.inl rfl | exact Or.inr rfl) (DX.own dx_bl)) (dss_one (ds_if (dt_cmp op_gt f_gt (dx_var (pv 2)) (dx_const (v := .int 12) (by rfl) T.v_MOST_DEPTH fun _ => .int _) (nomark _)) (dss_one (ds_ret (DX.own (dx_var (pv 4))))) dss_nil)))) (dss_one (ds_if (dt_cmp (op_eqX hu) f_eq (dx_cut (dx_var (pv 5)) dp_none (dp_some dx_int)) dx_str (nomark _)) (dss_cons (ds_if (DW.dt (dw_or (dt_cmp (op_eqX hu) f_eq (dx_var (pv 2)) dx_int (nomark _)) (dw_or (dt_val (dx_var (pv 3))) (dw_or1 (dt_not (dt_val (DO.frz (do_call0 k_is_number (hr.mono (by decide)) (by rfl) T.f_is_number.g T.f_is_number.F.kp T.f_is_number.b tk (da_cons (dx_cut (dx_var (pv 5)) (dp_some dx_int) dp_none) da_nil) (len_cons len_nil))))))))) (dss_one (ds_ret (DX.own (dx_var (pv 4))))) dss_nil) (dss_one (ds_set (i := 2) sc_first_wrong.nd rfl (by first | exact Or.inl rfl | exact Or.inr rfl) (DX.own (dx_op2 op_sub f_sub (dx_var (pv 2)) dx_int))))) (dss_one (ds_if (DW.dt (dw_or (dt_val (DO.frz (do_call0 k_is_step_word (hr.mono (by decide)) (by rfl) T.f_is_step_word.g T.f_is_step_word.F.kp T.f_is_step_word.b tk (da_cons (dx_var (pv 5)) da_nil) (len_cons len_nil)))) (dw_or1 (dt_cmp op_in2 f_in2 (dx_var (pv 5)) (dx_var (pv 1)) (by with_unfolding_all rfl))))) (dss_one (ds_set (i := 3) sc_first_wrong.nd rfl (by first | exact Or.inl rfl | exact Or.inr rfl) (DX.own dx_bl))) (dss_one (ds_ret (DX.own (dx_var (pv 4)))))))))) (dss_one (ds_if (dt_cmp op_gt f_gt (dx_op2 op_addX f_add (dx_op2 op_addX f_add (dx_op2 op_addX f_add (dx_var (pv 4)) dx_int) (dx_var (pv 2))) (dx_callTy call_int2 f_int2 (by rfl) T.z_int bo_int (da_cons (dx_var (pv 3)) da_nil))) (dx_const (v := .int 1000) (by rfl) T.v_MOST_WORDS fun _ => .int _) (nomark _)) (dss_one (ds_ret (DX.own (dx_var (pv 4))))) dss_nil))))
    (dss_one (ds_ret (DX.own (dx_if (dt_cmp (op_eqX hu) f_eq (dx_var (pv 2)) dx_int (nomark _)) dx_non (dx_callB call_len f_len (by rfl) T.z_len bo_len (da_cons (dx_var (pv 0)) da_nil)))))))))
theorem k_nodes_from_ (T : Tx K mg ad fs cs w) : ∀ n : Nat, FnG P w K mg base (L2.CX P w) (n + 1) (ad 13) (fs 13) ["words", "place"] (spD K 2 (m_nodes_from cs n))
  | 0 => fn_bad
  | n + 1 => by
    have k_nodes_from := k_nodes_from_ T n
    refine fn_mirror (N := sc_nodes_from_N) T.f_nodes_from.F sc_nodes_from fun X pvs W cdv A outer s H E hX tk hr => ?_
    subst hX
    have hu := hr.units
    exact (dss_cons (ds_set (i := 2) sc_nodes_from.nd rfl (by first | exact Or.inl rfl | exact Or.inr rfl) (do_lst da_nil))
      (dss_cons (ds_while (fun _ => 100000) (passes_of rfl) (DW.dt (dw_and (dt_cmp op_ltX f_lt (dx_var (pv 1)) (dx_callB call_len f_len (by rfl) T.z_len bo_len (da_cons (dx_var (pv 0)) da_nil)) (nomark _)) (dw_and1 (dt_cmp (op_neX hu) f_ne (dx_ix (dx_ix (dx_var (pv 0)) (dx_var (pv 1))) dx_int) dx_str (nomark _))))) (dss_cons (ds_set (i := 3) sc_nodes_from.nd rfl (by first | exact Or.inl rfl | exact Or.inr rfl) (DX.own (dx_ix (dx_var (pv 0)) (dx_var (pv 1))))) (dss_cons (ds_if (dt_cmp (op_eqX hu) f_eq (dx_var (pv 3)) dx_str (nomark _)) (dss_cons (ds_asg (DO.frz (do_call0 k_nodes_from (hr.mono (by omega)) (by rfl) T.f_nodes_from.g T.f_nodes_from.F.kp T.f_nodes_from.b tk (da_cons (dx_var (pv 0)) (da_cons (dx_op2 op_addX f_add (dx_var (pv 1)) dx_int) da_nil)) (len_cons (len_cons len_nil)))) (dg_tup rfl (dgs_cons (dg_name (i := 4) sc_nodes_from.nd rfl (by first | exact Or.inl rfl | exact Or.inr rfl)) (dgs_cons (dg_name (i := 1) sc_nodes_from.nd rfl (by first | exact Or.inl rfl | exact Or.inr rfl)) dgs_nil)))) (dss_one (ds_app (pv 2) (DX.own (dx_tup (da_cons (dx_var (pv 4)) (da_cons (dx_callTy call_int2 f_int2 (by rfl) T.z_int bo_int (da_cons (dx_cut (dx_ix (dx_var (pv 0)) (dx_var (pv 1))) (dp_some dx_int) dp_none) da_nil)) da_nil))))))) (dss_one (ds_app (pv 2) (DX.own (dx_tup (da_cons (dx_ix (dx_var (pv 3)) dx_int) (da_cons (dx_if (dt_cmp op_gt f_gt (dx_callB call_len f_len (by rfl) T.z_len bo_len (da_cons (dx_var (pv 3)) da_nil)) dx_int (nomark _)) (dx_callTy call_int2 f_int2 (by rfl) T.z_int bo_int (da_cons (dx_cut (dx_var (pv 3)) (dp_some dx_int) dp_none) da_nil)) dx_int) da_nil))))))) (dss_one (ds_set (i := 1) sc_nodes_from.nd rfl (by first | exact Or.inl rfl | exact Or.inr rfl) (DX.own (dx_op2 op_addX f_add (dx_var (pv 1)) dx_int)))))))
      (dss_one (ds_ret (DX.own (dx_tup (da_cons (dx_callTyT call_tuple_of f_tupOf (by rfl) T.z_tuple bo_tuple (da_cons (dx_frz (pv 2)) da_nil)) (da_cons (dx_var (pv 1)) da_nil))))))))
theorem k_nodes_in_ (T : Tx K mg ad fs cs w) : FnG P w K mg base (L2.CX P w) 18 (ad 14) (fs 14) ["words"] (spD K 1 (m_nodes_in cs)) := by
  refine fn_mirror (N := sc_nodes_in_N) T.f_nodes_in.F sc_nodes_in fun X pvs W cdv A outer s H E hX tk hr => ?_
  subst hX
  have hu := hr.units
  have k_nodes_from := k_nodes_from_ (P := P) (w := w) (base := base) T 16
  exact (dss_one (ds_ret (DX.own (dx_ix (DO.frz (do_call0 k_nodes_from (hr.mono (by decide)) (by rfl) T.f_nodes_from.g T.f_nodes_from.F.kp T.f_nodes_from.b tk (da_cons (dx_var (pv 0)) (da_cons dx_int da_nil)) (len_cons (len_cons len_nil)))) dx_int))))
theorem k_length_in_ (T : Tx K mg ad fs cs w) : ∀ n : Nat, FnG P w K mg base (L2.CX P w) (n + 1) (ad 15) (fs 15) ["nodes"] (spD K 1 (m_length_in cs n))
  | 0 => fn_bad
  | n + 1 => by
    have k_length_in := k_length_in_ T n
    refine fn_mirror (N := sc_length_in_N) T.f_length_in.F sc_length_in fun X pvs W cdv A outer s H E hX tk hr => ?_
    subst hX
    have hu := hr.units
    exact (dss_cons (ds_set (i := 1) sc_length_in.nd rfl (by first | exact Or.inl rfl | exact Or.inr rfl) (DX.own dx_int))
      (dss_cons (ds_for (passes_of rfl) rfl (di_tup (dx_var (pv 0))) (dg_tup rfl (dgs_cons (dg_name (i := 2) sc_length_in.nd rfl (by first | exact Or.inl rfl | exact Or.inr rfl)) (dgs_cons (dg_name (i := 3) sc_length_in.nd rfl (by first | exact Or.inl rfl | exact Or.inr rfl)) dgs_nil))) (dss_one (ds_set (i := 1) sc_length_in.nd rfl (by first | exact Or.inl rfl | exact Or.inr rfl) (DX.own (dx_op2 op_addX f_add (dx_var (pv 1)) (dx_op2 op_mulW f_mul (dx_var (pv 3)) (dx_if (dt_val (dx_callB call_isi f_isi (by rfl) T.z_isinstance bo_isinstance (da_cons (dx_var (pv 2)) (da_cons (dx_ty (by rfl) T.z_str bo_str) da_nil)))) dx_int (DO.frz (do_call0 k_length_in (hr.mono (by omega)) (by rfl) T.f_length_in.g T.f_length_in.F.kp T.f_length_in.b tk (da_cons (dx_var (pv 2)) da_nil) (len_cons len_nil))))))))))
      (dss_one (ds_ret (DX.own (dx_var (pv 1)))))))
theorem k_depth_in_ (T : Tx K mg ad fs cs w) : ∀ n : Nat, FnG P w K mg base (L2.CX P w) (n + 1) (ad 16) (fs 16) ["nodes"] (spD K 1 (m_depth_in cs n))
  | 0 => fn_bad
  | n + 1 => by
    have k_depth_in := k_depth_in_ T n
    refine fn_mirror (N := sc_depth_in_N) T.f_depth_in.F sc_depth_in fun X pvs W cdv A outer s H E hX tk hr => ?_
    subst hX
    have hu := hr.units
    exact (dss_one (ds_ret (DX.own (dx_callB (call_maxX rfl) f_max (by rfl) T.z_max bo_max (da_cons (DO.frz (do_cat (DO.dq (do_lst (da_cons dx_int da_nil))) (DO.dq (do_comp (own := [("body", 1), ("number", 2)]) rfl sc_depth_in.nd (di_tup (dx_var (pv 0))) (blkOk_by (N := sc_depth_in_N) (sc := defScope s_depth_in) (own := [("body", 1), ("number", 2)]) (by decide +kernel)) (fun _ _ _ _ _ => (dg_tup rfl (dgs_cons (dg_name (i := 1) sc_depth_in.nd rfl (by first | exact Or.inl rfl | exact Or.inr rfl)) (dgs_cons (dg_name (i := 2) sc_depth_in.nd rfl (by first | exact Or.inl rfl | exact Or.inr rfl)) dgs_nil)))) (fun _ _ _ _ _ => (dts_one (dt_not (dt_val (dx_callB call_isi f_isi (by rfl) T.z_isinstance bo_isinstance (da_cons (dx_var (pv 1)) (da_cons (dx_ty (by rfl) T.z_str bo_str) da_nil))))))) (fun _ _ _ _ _ => (dx_op2 op_addX f_add dx_int (DO.frz (do_call0 k_depth_in (hr.mono (by omega)) (by rfl) T.f_depth_in.g T.f_depth_in.F.kp T.f_depth_in.b takes0 (da_cons (dx_var (pv 1)) da_nil) (len_cons len_nil))))) (by decide) (wip_tup (wip_cons (wip_name) (wip_cons (wip_name) wip_nil))))))) da_nil)))))
theorem k_Program___init___ (T : Tx K mg ad fs cs w) : FnG P w K mg base (L2.CX P w) 20 (ad 17) (fs 17) ["self", "text"] (spD K 2 (m_Program___init__ cs)) := by
  refine fn_mirror (N := sc_Program___init___N) T.f_Program___init__.F sc_Program___init__ fun X pvs W cdv A outer s H E hX tk hr => ?_
  subst hX
  have hu := hr.units
  have kx_InvalidText := kx_InvalidText_ (P := P) (w := w) (base := base) T
  have k_words_of := k_words_of_ (P := P) (w := w) (base := base) T
  have k_first_wrong := k_first_wrong_ (P := P) (w := w) (base := base) T
  have k_nodes_in := k_nodes_in_ (P := P) (w := w) (base := base) T
  have k_length_in := k_length_in_ (P := P) (w := w) (base := base) T 16
  have k_depth_in := k_depth_in_ (P := P) (w := w) (base := base) T 16
  exact (dss_cons (ds_if (dt_not (dt_val (dx_callB call_isi f_isi (by rfl) T.z_isinstance bo_isinstance (da_cons (dx_var (pv 1)) (da_cons (dx_ty (by rfl) T.z_str bo_str) da_nil))))) (dss_one (ds_raiseX rfl tk T.xi_InvalidText kx_InvalidText (hr.mono (by decide)) T.f_InvalidText___init__.b (by rfl) T.g_InvalidText (da_cons dx_non da_nil))) dss_nil)
    (dss_cons (ds_set (i := 2) sc_Program___init__.nd rfl (by first | exact Or.inl rfl | exact Or.inr rfl) (DO.fz (do_call0 k_words_of (hr.mono (by decide)) (by rfl) T.f_words_of.g T.f_words_of.F.kp T.f_words_of.b tk (da_cons (dx_var (pv 1)) da_nil) (len_cons len_nil))))
    (dss_cons (ds_set (i := 3) sc_Program___init__.nd rfl (by first | exact Or.inl rfl | exact Or.inr rfl) (DO.fz (do_call0 k_first_wrong (hr.mono (by decide)) (by rfl) T.f_first_wrong.g T.f_first_wrong.F.kp T.f_first_wrong.b tk (da_cons (dx_var (pv 2)) (da_cons (DO.frz (do_lst da_nil)) da_nil)) (len_cons (len_cons len_nil)))))
    (dss_cons (ds_if (dt_cmp op_notN f_notN (dx_var (pv 3)) dx_non (nomark _)) (dss_one (ds_raiseX rfl tk T.xi_InvalidText kx_InvalidText (hr.mono (by decide)) T.f_InvalidText___init__.b (by rfl) T.g_InvalidText (da_cons (dx_var (pv 3)) da_nil))) dss_nil)
    (dss_cons (ds_fld (ok := (fun C => C == cs 0)) (pv 0) (DX.own (dx_var (pv 1))) (fun C h => by cases beq_iff_eq.mp h; exact ⟨T.c_Program.cl, T.n_Program_own_text⟩))
    (dss_cons (ds_fld (ok := (fun C => C == cs 0)) (pv 0) (DX.own (dx_callTyT call_tuple_of f_tupOf (by rfl) T.z_tuple bo_tuple (da_cons (dx_var (pv 2)) da_nil))) (fun C h => by cases beq_iff_eq.mp h; exact ⟨T.c_Program.cl, T.n_Program_own_words⟩))
    (dss_cons (ds_fld (ok := (fun C => C == cs 0)) (pv 0) (DO.fz (do_call0 k_nodes_in (hr.mono (by decide)) (by rfl) T.f_nodes_in.g T.f_nodes_in.F.kp T.f_nodes_in.b tk (da_cons (dx_var (pv 2)) da_nil) (len_cons len_nil))) (fun C h => by cases beq_iff_eq.mp h; exact ⟨T.c_Program.cl, T.n_Program_own_nodes⟩))
    (dss_cons (ds_fld (ok := (fun C => C == cs 0)) (pv 0) (DO.fz (do_call0 k_length_in (hr.mono (by decide)) (by rfl) T.f_length_in.g T.f_length_in.F.kp T.f_length_in.b tk (da_cons (dx_fldO (ok := (fun C => C == cs 0)) (pv 0) (fun C h => by cases beq_iff_eq.mp h; exact ⟨T.c_Program.cl, T.n_Program_own_nodes⟩)) da_nil) (len_cons len_nil))) (fun C h => by cases beq_iff_eq.mp h; exact ⟨T.c_Program.cl, T.n_Program_own_length⟩))
    (dss_one (ds_fld (ok := (fun C => C == cs 0)) (pv 0) (DO.fz (do_call0 k_depth_in (hr.mono (by decide)) (by rfl) T.f_depth_in.g T.f_depth_in.F.kp T.f_depth_in.b tk (da_cons (dx_fldO (ok := (fun C => C == cs 0)) (pv 0) (fun C h => by cases beq_iff_eq.mp h; exact ⟨T.c_Program.cl, T.n_Program_own_nodes⟩)) da_nil) (len_cons len_nil))) (fun C h => by cases beq_iff_eq.mp h; exact ⟨T.c_Program.cl, T.n_Program_own_depth⟩)))))))))))
theorem k__law_class_ (T : Tx K mg ad fs cs w) : FnG P w K mg base (L2.CX P w) 1 (ad 18) (fs 18) ["caught"] (spD K 1 (m__law_class cs)) := by
  refine fn_mirror (N := sc__law_class_N) T.f__law_class.F sc__law_class fun X pvs W cdv A outer s H E hX tk hr => ?_
  subst hX
  have hu := hr.units
  exact (dss_cons (ds_set (i := 1) sc__law_class.nd rfl (by first | exact Or.inl rfl | exact Or.inr rfl) (DO.fz (do_lst (da_cons (dx_callB call_isiF (f_isF T.xrel) (by rfl) T.z_isinstance bo_isinstance (da_cons (dx_var (pv 0)) (da_cons (dx_cls (by rfl) T.g_InvalidText) da_nil))) (da_cons (dx_callB call_isiF (f_isF T.xrel) (by rfl) T.z_isinstance bo_isinstance (da_cons (dx_var (pv 0)) (da_cons (dx_cls (by rfl) T.g_InvalidSource) da_nil))) (da_cons (dx_callB call_isiF (f_isF T.xrel) (by rfl) T.z_isinstance bo_isinstance (da_cons (dx_var (pv 0)) (da_cons (dx_cls (by rfl) T.g_InvalidProgram) da_nil))) da_nil))))))
    (dss_cons (ds_set (i := 1) sc__law_class.nd rfl (by first | exact Or.inl rfl | exact Or.inr rfl) (DO.fz (do_cat (DX.dq (dx_var (pv 1))) (DO.dq (do_lst (da_cons (dx_callB call_isiF (f_isF T.xrel) (by rfl) T.z_isinstance bo_isinstance (da_cons (dx_var (pv 0)) (da_cons (dx_cls (by rfl) T.g_InvalidTimes) da_nil))) (da_cons (dx_callB call_isiF (f_isF T.xrel) (by rfl) T.z_isinstance bo_isinstance (da_cons (dx_var (pv 0)) (da_cons (dx_cls (by rfl) T.g_InvalidIndex) da_nil))) da_nil)))))))
    (dss_cons (ds_set (i := 1) sc__law_class.nd rfl (by first | exact Or.inl rfl | exact Or.inr rfl) (DO.fz (do_cat (DX.dq (dx_var (pv 1))) (DO.dq (do_lst (da_cons (dx_callB call_isiF (f_isF T.xrel) (by rfl) T.z_isinstance bo_isinstance (da_cons (dx_var (pv 0)) (da_cons (dx_cls (by rfl) T.g_InvalidLetter) da_nil))) (da_cons (dx_callB call_isiF (f_isF T.xrel) (by rfl) T.z_isinstance bo_isinstance (da_cons (dx_var (pv 0)) (da_cons (dx_cls (by rfl) T.g_InvalidName) da_nil))) (da_cons (dx_callB call_isiF (f_isF T.xrel) (by rfl) T.z_isinstance bo_isinstance (da_cons (dx_var (pv 0)) (da_cons (dx_cls (by rfl) T.g_HasPen) da_nil))) da_nil))))))))
    (dss_cons (ds_set (i := 1) sc__law_class.nd rfl (by first | exact Or.inl rfl | exact Or.inr rfl) (DO.fz (do_cat (DX.dq (dx_var (pv 1))) (DO.dq (do_lst (da_cons (dx_callB call_isiF (f_isF T.xrel) (by rfl) T.z_isinstance bo_isinstance (da_cons (dx_var (pv 0)) (da_cons (dx_cls (by rfl) T.g_TooDeep) da_nil))) (da_cons (dx_callB call_isiF (f_isF T.xrel) (by rfl) T.z_isinstance bo_isinstance (da_cons (dx_var (pv 0)) (da_cons (dx_cls (by rfl) T.g_TooLarge) da_nil))) da_nil)))))))
    (dss_cons (ds_set (i := 2) sc__law_class.nd rfl (by first | exact Or.inl rfl | exact Or.inr rfl) (DO.fz (do_lst (da_cons dx_str (da_cons dx_str (da_cons dx_str (da_cons dx_str (da_cons dx_str (da_cons dx_str da_nil)))))))))
    (dss_cons (ds_set (i := 2) sc__law_class.nd rfl (by first | exact Or.inl rfl | exact Or.inr rfl) (DO.fz (do_cat (DX.dq (dx_var (pv 2))) (DO.dq (do_lst (da_cons dx_str (da_cons dx_str (da_cons dx_str (da_cons dx_str da_nil)))))))))
    (dss_cons (ds_if (dt_val (dx_callB call_isiF (f_isF T.xrel) (by rfl) T.z_isinstance bo_isinstance (da_cons (dx_var (pv 0)) (da_cons (dx_tup (da_cons (dx_cls (by rfl) T.g_InvalidArt) (da_cons (dx_cls (by rfl) T.g_InvalidCommand) (da_cons (dx_cls (by rfl) T.g_InvalidCount) (da_cons (dx_cls (by rfl) T.g_InvalidEdge) (da_cons (dx_cls (by rfl) T.g_InvalidFace) (da_cons (dx_cls (by rfl) T.g_InvalidFaces) da_nil))))))) da_nil)))) (dss_one (ds_ret (DX.own dx_str))) dss_nil)
    (dss_cons (ds_if (dt_val (dx_callB call_isiF (f_isF T.xrel) (by rfl) T.z_isinstance bo_isinstance (da_cons (dx_var (pv 0)) (da_cons (dx_tup (da_cons (dx_cls (by rfl) T.g_InvalidIntervals) (da_cons (dx_cls (by rfl) T.g_InvalidMotion) (da_cons (dx_cls (by rfl) T.g_InvalidOperation) (da_cons (dx_cls (by rfl) T.g_InvalidPicture) (da_cons (dx_cls (by rfl) T.g_InvalidPlace) da_nil)))))) da_nil)))) (dss_one (ds_ret (DX.own dx_str))) dss_nil)
    (dss_cons (ds_if (dt_val (dx_callB call_isiF (f_isF T.xrel) (by rfl) T.z_isinstance bo_isinstance (da_cons (dx_var (pv 0)) (da_cons (dx_tup (da_cons (dx_cls (by rfl) T.g_InvalidPoint) (da_cons (dx_cls (by rfl) T.g_InvalidPose) (da_cons (dx_cls (by rfl) T.g_InvalidTurn) (da_cons (dx_cls (by rfl) T.g_NoSteps) (da_cons (dx_cls (by rfl) T.g_NotClosed) (da_cons (dx_cls (by rfl) T.g_NotDrifting) (da_cons (dx_cls (by rfl) T.g_NotEven) (da_cons (dx_cls (by rfl) T.g_Nothing) da_nil))))))))) da_nil)))) (dss_one (ds_ret (DX.own dx_str))) dss_nil)
    (dss_cons (ds_if (DW.dt (dw_or (dt_cmp (op_neX hu) f_ne (dx_countD (by have := hr.un; omega) (dx_var (pv 1)) (da_cons dx_bl da_nil)) dx_int (nomark _)) (dw_or1 (dt_not (dt_val (dx_callB call_isiF (f_isF T.xrel) (by rfl) T.z_isinstance bo_isinstance (da_cons (dx_var (pv 0)) (da_cons (dx_ty (by rfl) T.z_ValueError bo_ValueError) da_nil)))))))) (dss_one (ds_ret (DX.own dx_str))) dss_nil)
    (dss_cons (ds_set (i := 3) sc__law_class.nd rfl (by first | exact Or.inl rfl | exact Or.inr rfl) (DX.own (dx_ix (dx_var (pv 2)) (dx_indexD (by have := hr.un; omega) (dx_var (pv 1)) (da_cons dx_bl da_nil)))))
    (dss_cons (ds_if (dt_cmp (op_eqX hu) f_eq (dx_var (pv 3)) dx_str (nomark _)) (dss_one (ds_ret (DX.own (dx_op2 op_addX f_add (dx_op2 op_addX f_add (dx_var (pv 3)) dx_str) (dx_callB (call_reprX hr.g hu) f_repr (by rfl) T.z_repr bo_repr (da_cons (dx_fldX (ok := (fun C => C == cs 2 || C == cs 3)) (dx_var (pv 0)) (fun C h => by simp only [Bool.or_eq_true] at h; rcases h with h | h <;> first | (cases beq_iff_eq.mp h; exact ⟨T.xf_InvalidText, T.xn_InvalidText_index⟩) | (cases beq_iff_eq.mp h; exact ⟨T.xf_InvalidSource, T.xn_InvalidSource_index⟩))) da_nil)))))) dss_nil)
    (dss_cons (ds_if (dt_cmp (op_eqX hu) f_eq (dx_var (pv 3)) dx_str (nomark _)) (dss_one (ds_ret (DX.own (dx_op2 op_addX f_add (dx_op2 op_addX f_add (dx_op2 op_addX f_add (dx_op2 op_addX f_add (dx_var (pv 3)) dx_str) (dx_callB (call_reprX hr.g hu) f_repr (by rfl) T.z_repr bo_repr (da_cons (dx_fldX (ok := (fun C => C == cs 3)) (dx_var (pv 0)) (fun C h => by cases beq_iff_eq.mp h; exact ⟨T.xf_InvalidSource, T.xn_InvalidSource_line⟩)) da_nil))) dx_str) (dx_callB (call_reprX hr.g hu) f_repr (by rfl) T.z_repr bo_repr (da_cons (dx_fldX (ok := (fun C => C == cs 2 || C == cs 3)) (dx_var (pv 0)) (fun C h => by simp only [Bool.or_eq_true] at h; rcases h with h | h <;> first | (cases beq_iff_eq.mp h; exact ⟨T.xf_InvalidText, T.xn_InvalidText_index⟩) | (cases beq_iff_eq.mp h; exact ⟨T.xf_InvalidSource, T.xn_InvalidSource_index⟩))) da_nil)))))) dss_nil)
    (dss_one (ds_ret (DX.own (dx_op2 op_addX f_add (dx_var (pv 3)) (dx_if (dt_cmp op_in2 f_in2 (dx_var (pv 3)) (DO.frz (do_lst (da_cons dx_str (da_cons dx_str da_nil)))) (by with_unfolding_all rfl)) (dx_op2 op_addX f_add dx_str (dx_callB (call_reprX hr.g hu) f_repr (by rfl) T.z_repr bo_repr (da_cons (dx_fldX (ok := (fun C => C == cs 4 || C == cs 5)) (dx_var (pv 0)) (fun C h => by simp only [Bool.or_eq_true] at h; rcases h with h | h <;> first | (cases beq_iff_eq.mp h; exact ⟨T.xf_TooDeep, T.xn_TooDeep_limit⟩) | (cases beq_iff_eq.mp h; exact ⟨T.xf_TooLarge, T.xn_TooLarge_limit⟩))) da_nil))) dx_str))))))))))))))))))
theorem k_reversed_text_ (T : Tx K mg ad fs cs w) : ∀ n : Nat, FnG P w K mg base (L2.CX P w) (n + 1) (ad 19) (fs 19) ["nodes"] (spD K 1 (m_reversed_text cs n))
  | 0 => fn_bad
  | n + 1 => by
    have k_reversed_text := k_reversed_text_ T n
    refine fn_mirror (N := sc_reversed_text_N) T.f_reversed_text.F sc_reversed_text fun X pvs W cdv A outer s H E hX tk hr => ?_
    subst hX
    have hu := hr.units
    exact (dss_cons (ds_set (i := 1) sc_reversed_text.nd rfl (by first | exact Or.inl rfl | exact Or.inr rfl) (do_lst da_nil))
      (dss_cons (ds_for (passes_of rfl) rfl (di_tup (dx_back (dx_var (pv 0)) (dp_some (dx_neg dx_int)))) (dg_tup rfl (dgs_cons (dg_name (i := 2) sc_reversed_text.nd rfl (by first | exact Or.inl rfl | exact Or.inr rfl)) (dgs_cons (dg_name (i := 3) sc_reversed_text.nd rfl (by first | exact Or.inl rfl | exact Or.inr rfl)) dgs_nil))) (dss_one (ds_if (dt_val (dx_callB call_isi f_isi (by rfl) T.z_isinstance bo_isinstance (da_cons (dx_var (pv 2)) (da_cons (dx_ty (by rfl) T.z_str bo_str) da_nil)))) (dss_one (ds_app (pv 1) (DX.own (dx_op2 op_addX f_add (dx_kd (by rfl) T.kd_REVERSED.choose_spec.1 T.kd_REVERSED.choose_spec.2 (dx_var (pv 2))) (dx_if (dt_cmp op_gt f_gt (dx_var (pv 3)) dx_int (nomark _)) (dx_callTy call_str1 f_str1 (by rfl) T.z_str bo_str (da_cons (dx_var (pv 3)) da_nil)) dx_str))))) (dss_one (ds_app (pv 1) (DX.own (dx_op2 op_addX f_add (dx_op2 op_addX f_add (dx_op2 op_addX f_add dx_str (DO.frz (do_call0 k_reversed_text (hr.mono (by omega)) (by rfl) T.f_reversed_text.g T.f_reversed_text.F.kp T.f_reversed_text.b tk (da_cons (dx_var (pv 2)) da_nil) (len_cons len_nil)))) dx_str) (dx_callTy call_str1 f_str1 (by rfl) T.z_str bo_str (da_cons (dx_var (pv 3)) da_nil)))))))))
      (dss_one (ds_ret (DX.own (dx_join dx_str (da_cons (dx_see (pv 1)) da_nil)))))))
theorem k_Program___invert___ (T : Tx K mg ad fs cs w) : FnG P w K mg base (L2.CX P w) 22 (ad 20) (fs 20) ["self"] (spD K 1 (m_Program___invert__ cs)) := by
  refine fn_mirror (N := sc_Program___invert___N) T.f_Program___invert__.F sc_Program___invert__ fun X pvs W cdv A outer s H E hX tk hr => ?_
  subst hX
  have hu := hr.units
  have k_Program___init__ := k_Program___init___ (P := P) (w := w) (base := base) T
  have k_reversed_text := k_reversed_text_ (P := P) (w := w) (base := base) T 16
  exact (dss_cons (ds_if (DW.dt (dw_or (dt_cmp op_in2 f_in2 dx_str (dx_fld (ok := (fun C => C == cs 0)) (dx_var (pv 0)) (fun C h => by cases beq_iff_eq.mp h; exact ⟨T.c_Program.cl, T.n_Program_own_text⟩)) (by with_unfolding_all rfl)) (dw_or1 (dt_cmp op_in2 f_in2 dx_str (dx_fld (ok := (fun C => C == cs 0)) (dx_var (pv 0)) (fun C h => by cases beq_iff_eq.mp h; exact ⟨T.c_Program.cl, T.n_Program_own_text⟩)) (by with_unfolding_all rfl))))) (dss_one (ds_raise rfl tk T.xm_HasPen (by rfl) T.g_HasPen)) dss_nil)
    (dss_one (ds_ret (do_make T.m_Program k_Program___init__ (hr.mono (by decide)) (by rfl) T.g_Program T.f_Program___init__.b tk (da_cons (DO.frz (do_call0 k_reversed_text (hr.mono (by decide)) (by rfl) T.f_reversed_text.g T.f_reversed_text.F.kp T.f_reversed_text.b tk (da_cons (dx_fld (ok := (fun C => C == cs 0)) (dx_var (pv 0)) (fun C h => by cases beq_iff_eq.mp h; exact ⟨T.c_Program.cl, T.n_Program_own_nodes⟩)) da_nil) (len_cons len_nil))) da_nil) (len_cons len_nil)))))
theorem k_joined_text_ (T : Tx K mg ad fs cs w) : FnG P w K mg base (L2.CX P w) 1 (ad 21) (fs 21) ["text", "other"] (spD K 2 (m_joined_text cs)) := by
  refine fn_mirror (N := sc_joined_text_N) T.f_joined_text.F sc_joined_text fun X pvs W cdv A outer s H E hX tk hr => ?_
  subst hX
  have hu := hr.units
  exact (dss_one (ds_ret (DX.own (dx_if (dt_cmp op_in2 f_in2 dx_str (DO.frz (do_lst (da_cons (dx_var (pv 0)) (da_cons (dx_var (pv 1)) da_nil)))) (by with_unfolding_all rfl)) (dx_op2 op_addX f_add (dx_var (pv 0)) (dx_var (pv 1))) (dx_op2 op_addX f_add (dx_op2 op_addX f_add (dx_var (pv 0)) dx_str) (dx_var (pv 1)))))))
theorem k_Program___add___ (T : Tx K mg ad fs cs w) : FnG P w K mg base (L2.CX P w) 22 (ad 22) (fs 22) ["self", "other"] (spD K 2 (m_Program___add__ cs)) := by
  refine fn_mirror (N := sc_Program___add___N) T.f_Program___add__.F sc_Program___add__ fun X pvs W cdv A outer s H E hX tk hr => ?_
  subst hX
  have hu := hr.units
  have kx_TooLarge := kx_TooLarge_ (P := P) (w := w) (base := base) T
  have k_Program___init__ := k_Program___init___ (P := P) (w := w) (base := base) T
  have k_joined_text := k_joined_text_ (P := P) (w := w) (base := base) T
  exact (dss_cons (ds_if (dt_not (dt_val (dx_callB call_isi (f_isO T.cf T.is_Program) (by rfl) T.z_isinstance bo_isinstance (da_cons (dx_var (pv 1)) (da_cons (dx_cls (by rfl) T.g_Program) da_nil))))) (dss_one (ds_raise rfl tk T.xm_InvalidProgram (by rfl) T.g_InvalidProgram)) dss_nil)
    (dss_cons (ds_if (dt_cmp op_gt f_gt (dx_op2 op_addX f_add (dx_callB call_len f_len (by rfl) T.z_len bo_len (da_cons (dx_fld (ok := (fun C => C == cs 0)) (dx_var (pv 0)) (fun C h => by cases beq_iff_eq.mp h; exact ⟨T.c_Program.cl, T.n_Program_own_words⟩)) da_nil)) (dx_callB call_len f_len (by rfl) T.z_len bo_len (da_cons (dx_fld (ok := (fun C => C == cs 0)) (dx_var (pv 1)) (fun C h => by cases beq_iff_eq.mp h; exact ⟨T.c_Program.cl, T.n_Program_own_words⟩)) da_nil))) (dx_const (v := .int 1000) (by rfl) T.v_MOST_WORDS fun _ => .int _) (nomark _)) (dss_one (ds_raiseX rfl tk T.xi_TooLarge kx_TooLarge (hr.mono (by decide)) T.f_TooLarge___init__.b (by rfl) T.g_TooLarge (da_cons (dx_const (v := .int 1000) (by rfl) T.v_MOST_WORDS fun _ => .int _) da_nil))) dss_nil)
    (dss_one (ds_ret (do_make T.m_Program k_Program___init__ (hr.mono (by decide)) (by rfl) T.g_Program T.f_Program___init__.b tk (da_cons (DO.frz (do_call0 k_joined_text (hr.mono (by decide)) (by rfl) T.f_joined_text.g T.f_joined_text.F.kp T.f_joined_text.b tk (da_cons (dx_fld (ok := (fun C => C == cs 0)) (dx_var (pv 0)) (fun C h => by cases beq_iff_eq.mp h; exact ⟨T.c_Program.cl, T.n_Program_own_text⟩)) (da_cons (dx_fld (ok := (fun C => C == cs 0)) (dx_var (pv 1)) (fun C h => by cases beq_iff_eq.mp h; exact ⟨T.c_Program.cl, T.n_Program_own_text⟩)) da_nil)) (len_cons (len_cons len_nil)))) da_nil) (len_cons len_nil))))))
theorem k_is_int_ (T : Tx K mg ad fs cs w) : FnG P w K mg base (L2.CX P w) 1 (ad 23) (fs 23) ["value"] (spD K 1 (m_is_int cs)) := by
  refine fn_mirror (N := sc_is_int_N) T.f_is_int.F sc_is_int fun X pvs W cdv A outer s H E hX tk hr => ?_
  subst hX
  have hu := hr.units
  exact (dss_one (ds_ret (DX.own (dx_and (dx_callB call_isi (f_isiI T.cf T.iy_int) (by rfl) T.z_isinstance bo_isinstance (da_cons (dx_var (pv 0)) (da_cons (dx_ty (by rfl) T.z_int bo_int) da_nil))) (dx_and1 (dx_not (dx_callB call_isi f_isi (by rfl) T.z_isinstance bo_isinstance (da_cons (dx_var (pv 0)) (da_cons (dx_ty (by rfl) T.z_bool bo_bool) da_nil)))))))))
theorem k_in_range_ (T : Tx K mg ad fs cs w) : FnG P w K mg base (L2.CX P w) 2 (ad 24) (fs 24) ["value", "low", "high"] (spD K 3 (m_in_range cs)) := by
  refine fn_mirror (N := sc_in_range_N) T.f_in_range.F sc_in_range fun X pvs W cdv A outer s H E hX tk hr => ?_
  subst hX
  have hu := hr.units
  have k_is_int := k_is_int_ (P := P) (w := w) (base := base) T
  exact (dss_one (ds_ret (DX.own (dx_and (DO.frz (do_call0 k_is_int (hr.mono (by decide)) (by rfl) T.f_is_int.g T.f_is_int.F.kp T.f_is_int.b tk (da_cons (dx_var (pv 0)) da_nil) (len_cons len_nil))) (dx_and1 (dx_chain op_le op_le f_le f_le (dx_var (pv 1)) (dx_var (pv 0)) (dx_var (pv 2))))))))
theorem k_Program___mul___ (T : Tx K mg ad fs cs w) : FnG P w K mg base (L2.CX P w) 22 (ad 25) (fs 25) ["self", "times"] (spD K 2 (m_Program___mul__ cs)) := by
  refine fn_mirror (N := sc_Program___mul___N) T.f_Program___mul__.F sc_Program___mul__ fun X pvs W cdv A outer s H E hX tk hr => ?_
  subst hX
  have hu := hr.units
  have kx_TooLarge := kx_TooLarge_ (P := P) (w := w) (base := base) T
  have kx_TooDeep := kx_TooDeep_ (P := P) (w := w) (base := base) T
  have k_Program___init__ := k_Program___init___ (P := P) (w := w) (base := base) T
  have k_in_range := k_in_range_ (P := P) (w := w) (base := base) T
  exact (dss_cons (ds_if (dt_not (dt_val (DO.frz (do_call0 k_in_range (hr.mono (by decide)) (by rfl) T.f_in_range.g T.f_in_range.F.kp T.f_in_range.b tk (da_cons (dx_var (pv 1)) (da_cons dx_int (da_cons (dx_const (v := .int 1000000000000000000000000000000) (by rfl) T.v_MOST_TIMES fun _ => .int _) da_nil))) (len_cons (len_cons (len_cons len_nil))))))) (dss_one (ds_raise rfl tk T.xm_InvalidTimes (by rfl) T.g_InvalidTimes)) dss_nil)
    (dss_cons (ds_if (dt_cmp (op_eqX hu) f_eq (dx_var (pv 1)) dx_int (nomark _)) (dss_one (ds_ret (do_make T.m_Program k_Program___init__ (hr.mono (by decide)) (by rfl) T.g_Program T.f_Program___init__.b tk (da_cons dx_str da_nil) (len_cons len_nil)))) dss_nil)
    (dss_cons (ds_if (DW.dt (dw_or (dt_cmp (op_eqX hu) f_eq (dx_var (pv 1)) dx_int (nomark _)) (dw_or1 (dt_cmp (op_eqX hu) f_eq (dx_fld (ok := (fun C => C == cs 0)) (dx_var (pv 0)) (fun C h => by cases beq_iff_eq.mp h; exact ⟨T.c_Program.cl, T.n_Program_own_text⟩)) dx_str (nomark _))))) (dss_one (ds_ret (do_make T.m_Program k_Program___init__ (hr.mono (by decide)) (by rfl) T.g_Program T.f_Program___init__.b tk (da_cons (dx_fld (ok := (fun C => C == cs 0)) (dx_var (pv 0)) (fun C h => by cases beq_iff_eq.mp h; exact ⟨T.c_Program.cl, T.n_Program_own_text⟩)) da_nil) (len_cons len_nil)))) dss_nil)
    (dss_cons (ds_if (dt_cmp op_gt f_gt (dx_op2 op_addX f_add (dx_callB call_len f_len (by rfl) T.z_len bo_len (da_cons (dx_fld (ok := (fun C => C == cs 0)) (dx_var (pv 0)) (fun C h => by cases beq_iff_eq.mp h; exact ⟨T.c_Program.cl, T.n_Program_own_words⟩)) da_nil)) dx_int) (dx_const (v := .int 1000) (by rfl) T.v_MOST_WORDS fun _ => .int _) (nomark _)) (dss_one (ds_raiseX rfl tk T.xi_TooLarge kx_TooLarge (hr.mono (by decide)) T.f_TooLarge___init__.b (by rfl) T.g_TooLarge (da_cons (dx_const (v := .int 1000) (by rfl) T.v_MOST_WORDS fun _ => .int _) da_nil))) dss_nil)
    (dss_cons (ds_if (dt_cmp op_gt f_gt (dx_op2 op_addX f_add (dx_fld (ok := (fun C => C == cs 0)) (dx_var (pv 0)) (fun C h => by cases beq_iff_eq.mp h; exact ⟨T.c_Program.cl, T.n_Program_own_depth⟩)) dx_int) (dx_const (v := .int 12) (by rfl) T.v_MOST_DEPTH fun _ => .int _) (nomark _)) (dss_one (ds_raiseX rfl tk T.xi_TooDeep kx_TooDeep (hr.mono (by decide)) T.f_TooDeep___init__.b (by rfl) T.g_TooDeep (da_cons (dx_const (v := .int 12) (by rfl) T.v_MOST_DEPTH fun _ => .int _) da_nil))) dss_nil)
    (dss_one (ds_ret (do_make T.m_Program k_Program___init__ (hr.mono (by decide)) (by rfl) T.g_Program T.f_Program___init__.b tk (da_cons (dx_op2 op_addX f_add (dx_op2 op_addX f_add (dx_op2 op_addX f_add dx_str (dx_fld (ok := (fun C => C == cs 0)) (dx_var (pv 0)) (fun C h => by cases beq_iff_eq.mp h; exact ⟨T.c_Program.cl, T.n_Program_own_text⟩))) dx_str) (dx_callTy call_str1 f_str1 (by rfl) T.z_str bo_str (da_cons (dx_var (pv 1)) da_nil))) da_nil) (len_cons len_nil)))))))))
theorem k__law_told_ (T : Tx K mg ad fs cs w) : FnG P w K mg base (L2.CX P w) 24 (ad 26) (fs 26) ["way", "one", "other"] (spD K 3 (m__law_told cs)) := by
  refine fn_mirror (N := sc__law_told_N) T.f__law_told.F sc__law_told fun X pvs W cdv A outer s H E hX tk hr => ?_
  subst hX
  have hu := hr.units
  have k__law_class := k__law_class_ (P := P) (w := w) (base := base) T
  have k_Program___invert__ := k_Program___invert___ (P := P) (w := w) (base := base) T
  have k_Program___add__ := k_Program___add___ (P := P) (w := w) (base := base) T
  have k_Program___mul__ := k_Program___mul___ (P := P) (w := w) (base := base) T
  exact (dss_cons (ds_asg (dx_tup (da_cons dx_non (da_cons dx_non da_nil))) (dg_tup rfl (dgs_cons (dg_name (i := 3) sc__law_told.nd rfl (by first | exact Or.inl rfl | exact Or.inr rfl)) (dgs_cons (dg_name (i := 4) sc__law_told.nd rfl (by first | exact Or.inl rfl | exact Or.inr rfl)) dgs_nil))))
    (dss_cons (ds_try (i := 5) rfl rfl rfl sc__law_told.nd rfl rfl ⟨rfl, by decide, .inl T.g_PlotError⟩ T.xt (fun W9 pn9 xe9 tk9 po9 => (dss_one (ds_set (i := 4) sc__law_told.nd rfl (by first | exact Or.inl rfl | exact Or.inr rfl) (DX.own (dx_if (dt_cmp (op_eqX hu) f_eq (dx_var (pv 0)) dx_int (nomark _)) (DO.frz (do_invO T.a_Program___invert__ T.i_Program___invert__ k_Program___invert__ (hr.mono (by decide)) T.f_Program___invert__.b tk9 (dx_var (pv 1)))) (dx_if (dt_cmp (op_eqX hu) f_eq (dx_var (pv 0)) dx_int (nomark _)) (DO.frz (do_binA T.u_Program___add__ k_Program___add__ (hr.mono (by decide)) T.f_Program___add__.b tk9 (dx_var (pv 1)) (dx_var (pv 2)))) (DO.frz (do_binA T.u_Program___mul__ k_Program___mul__ (hr.mono (by decide)) T.f_Program___mul__.b tk9 (dx_var (pv 1)) (dx_var (pv 2)))))))))) (fun a9 pn9 => (dss_one (ds_set (i := 3) sc__law_told.nd rfl (by first | exact Or.inl rfl | exact Or.inr rfl) (DX.own (dx_var (pv 5)))))))
    (dss_one (ds_ret (DX.own (dx_if (DW.dt (dw_and (dt_cmp op_isN f_isN (dx_var (pv 3)) dx_non (nomark _)) (dw_and1 (dt_val (dx_callB call_isi (f_isO T.cf T.is_Program) (by rfl) T.z_isinstance bo_isinstance (da_cons (dx_var (pv 4)) (da_cons (dx_cls (by rfl) T.g_Program) da_nil))))))) dx_str (DO.frz (do_call0 k__law_class (hr.mono (by decide)) (by rfl) T.f__law_class.g T.f__law_class.F.kp T.f__law_class.b tk (da_cons (dx_var (pv 3)) da_nil) (len_cons len_nil)))))))))
theorem k_Program___len___ (T : Tx K mg ad fs cs w) : FnG P w K mg base (L2.CX P w) 1 (ad 27) (fs 27) ["self"] (spD K 1 (m_Program___len__ cs)) := by
  refine fn_mirror (N := sc_Program___len___N) T.f_Program___len__.F sc_Program___len__ fun X pvs W cdv A outer s H E hX tk hr => ?_
  subst hX
  have hu := hr.units
  exact (dss_one (ds_ret (DX.own (dx_callB call_len f_len (by rfl) T.z_len bo_len (da_cons (dx_fld (ok := (fun C => C == cs 0)) (dx_var (pv 0)) (fun C h => by cases beq_iff_eq.mp h; exact ⟨T.c_Program.cl, T.n_Program_own_words⟩)) da_nil)))))
theorem k__law_sizes_right_ (T : Tx K mg ad fs cs w) : FnG P w K mg base (L2.CX P w) 26 (ad 28) (fs 28) ["bag"] (spD K 1 (m__law_sizes_right cs)) := by
  refine fn_mirror (N := sc__law_sizes_right_N) T.f__law_sizes_right.F sc__law_sizes_right fun X pvs W cdv A outer s H E hX tk hr => ?_
  subst hX
  have hu := hr.units
  have k_Program___init__ := k_Program___init___ (P := P) (w := w) (base := base) T
  have k__law_pick := k__law_pick_ (P := P) (w := w) (base := base) T
  have k__law_told := k__law_told_ (P := P) (w := w) (base := base) T
  have k_Program___len__ := k_Program___len___ (P := P) (w := w) (base := base) T
  exact (dss_cons (ds_set (i := 1) sc__law_sizes_right.nd rfl (by first | exact Or.inl rfl | exact Or.inr rfl) (DX.own (dx_op2 op_addX f_add dx_int (DO.frz (do_call1 k__law_pick (hr.mono (by decide)) (by rfl) T.f__law_pick.g T.f__law_pick.F.kp T.f__law_pick.b tk (dr_slot (pv 0) (dr_fz dx_int dr_nil)) (lenr_slot (lenr_fz lenr_nil)))))))
    (dss_cons (ds_set (i := 2) sc__law_sizes_right.nd rfl (by first | exact Or.inl rfl | exact Or.inr rfl) (DO.fz (do_make T.m_Program k_Program___init__ (hr.mono (by decide)) (by rfl) T.g_Program T.f_Program___init__.b tk (da_cons (dx_join dx_str (da_cons (DO.frz (do_repO (do_lst (da_cons dx_str da_nil)) (dx_var (pv 1)))) da_nil)) da_nil) (len_cons len_nil))))
    (dss_cons (ds_set (i := 3) sc__law_sizes_right.nd rfl (by first | exact Or.inl rfl | exact Or.inr rfl) (DO.fz (do_make T.m_Program k_Program___init__ (hr.mono (by decide)) (by rfl) T.g_Program T.f_Program___init__.b tk (da_cons (dx_join dx_str (da_cons (DO.frz (do_repO (do_lst (da_cons dx_str da_nil)) (dx_op2 op_addX f_add (dx_op2 op_sub f_sub dx_int (dx_var (pv 1))) (DO.frz (do_call1 k__law_pick (hr.mono (by decide)) (by rfl) T.f__law_pick.g T.f__law_pick.F.kp T.f__law_pick.b tk (dr_slot (pv 0) (dr_fz dx_int dr_nil)) (lenr_slot (lenr_fz lenr_nil))))))) da_nil)) da_nil) (len_cons len_nil))))
    (dss_cons (ds_set (i := 4) sc__law_sizes_right.nd rfl (by first | exact Or.inl rfl | exact Or.inr rfl) (DX.own (dx_if (dt_cmp op_ltX f_lt (dx_op2 op_addX f_add (dx_lenO T.a_Program___len__ T.i_Program___len__ k_Program___len__ (hr.mono (by decide)) T.f_Program___len__.b (by rfl) T.z_len (da_cons (dx_var (pv 2)) da_nil)) (dx_lenO T.a_Program___len__ T.i_Program___len__ k_Program___len__ (hr.mono (by decide)) T.f_Program___len__.b (by rfl) T.z_len (da_cons (dx_var (pv 3)) da_nil))) dx_int (nomark _)) dx_str dx_str)))
    (dss_cons (ds_if (DW.dt (dw_or (dt_cmp (op_neX hu) f_ne (DO.frz (do_call0 k__law_told (hr.mono (by decide)) (by rfl) T.f__law_told.g T.f__law_told.F.kp T.f__law_told.b tk (da_cons dx_int (da_cons (dx_var (pv 2)) (da_cons (dx_var (pv 3)) da_nil))) (len_cons (len_cons (len_cons len_nil))))) (dx_var (pv 4)) (nomark _)) (dw_or1 (dt_cmp (op_neX hu) f_ne (DO.frz (do_call0 k__law_told (hr.mono (by decide)) (by rfl) T.f__law_told.g T.f__law_told.F.kp T.f__law_told.b tk (da_cons dx_int (da_cons (dx_var (pv 3)) (da_cons (dx_var (pv 2)) da_nil))) (len_cons (len_cons (len_cons len_nil))))) (dx_var (pv 4)) (nomark _))))) (dss_one (ds_ret (DX.own dx_bl))) dss_nil)
    (dss_cons (ds_set (i := 5) sc__law_sizes_right.nd rfl (by first | exact Or.inl rfl | exact Or.inr rfl) (DX.own (dx_op2 op_addX f_add dx_int (DO.frz (do_call1 k__law_pick (hr.mono (by decide)) (by rfl) T.f__law_pick.g T.f__law_pick.F.kp T.f__law_pick.b tk (dr_slot (pv 0) (dr_fz dx_int dr_nil)) (lenr_slot (lenr_fz lenr_nil)))))))
    (dss_cons (ds_set (i := 6) sc__law_sizes_right.nd rfl (by first | exact Or.inl rfl | exact Or.inr rfl) (DO.fz (do_make T.m_Program k_Program___init__ (hr.mono (by decide)) (by rfl) T.g_Program T.f_Program___init__.b tk (da_cons (dx_join dx_str (da_cons (DO.frz (do_repO (do_lst (da_cons dx_str da_nil)) (dx_var (pv 5)))) da_nil)) da_nil) (len_cons len_nil))))
    (dss_cons (ds_if (dt_cmp (op_neX hu) f_ne (DO.frz (do_call0 k__law_told (hr.mono (by decide)) (by rfl) T.f__law_told.g T.f__law_told.F.kp T.f__law_told.b tk (da_cons dx_int (da_cons (dx_var (pv 6)) (da_cons dx_int da_nil))) (len_cons (len_cons (len_cons len_nil))))) (dx_if (dt_cmp op_ltX f_lt (dx_var (pv 5)) dx_int (nomark _)) dx_str dx_str) (nomark _)) (dss_one (ds_ret (DX.own dx_bl))) dss_nil)
    (dss_cons (ds_set (i := 7) sc__law_sizes_right.nd rfl (by first | exact Or.inl rfl | exact Or.inr rfl) (DX.own (dx_op2 op_addX f_add dx_int (DO.frz (do_call1 k__law_pick (hr.mono (by decide)) (by rfl) T.f__law_pick.g T.f__law_pick.F.kp T.f__law_pick.b tk (dr_slot (pv 0) (dr_fz dx_int dr_nil)) (lenr_slot (lenr_fz lenr_nil)))))))
    (dss_cons (ds_set (i := 8) sc__law_sizes_right.nd rfl (by first | exact Or.inl rfl | exact Or.inr rfl) (DO.fz (do_cat (DO.dq (do_cat (DO.dq (do_repO (do_lst (da_cons dx_str da_nil)) (dx_var (pv 7)))) (DO.dq (do_lst (da_cons dx_str da_nil))))) (DO.dq (do_repO (do_lst (da_cons dx_str da_nil)) (dx_var (pv 7)))))))
    (dss_cons (ds_if (dt_cmp (op_neX hu) f_ne (DO.frz (do_call0 k__law_told (hr.mono (by decide)) (by rfl) T.f__law_told.g T.f__law_told.F.kp T.f__law_told.b tk (da_cons dx_int (da_cons (DO.frz (do_make T.m_Program k_Program___init__ (hr.mono (by decide)) (by rfl) T.g_Program T.f_Program___init__.b tk (da_cons (dx_join dx_str (da_cons (dx_var (pv 8)) da_nil)) da_nil) (len_cons len_nil))) (da_cons (dx_op2 op_powX f_pow dx_int dx_int) da_nil))) (len_cons (len_cons (len_cons len_nil))))) (dx_if (dt_cmp op_ltX f_lt (dx_var (pv 7)) dx_int (nomark _)) dx_str dx_str) (nomark _)) (dss_one (ds_ret (DX.own dx_bl))) dss_nil)
    (dss_cons (ds_set (i := 9) sc__law_sizes_right.nd rfl (by first | exact Or.inl rfl | exact Or.inr rfl) (DO.fz (do_make T.m_Program k_Program___init__ (hr.mono (by decide)) (by rfl) T.g_Program T.f_Program___init__.b tk (da_cons (dx_join dx_str (da_cons (DO.frz (do_cat (DX.dq (dx_var (pv 8))) (DO.dq (do_repO (do_lst (da_cons dx_str da_nil)) (dx_op2 op_addX f_add (dx_op2 op_sub f_sub dx_int (dx_callB call_len f_len (by rfl) T.z_len bo_len (da_cons (dx_var (pv 8)) da_nil))) dx_int))))) da_nil)) da_nil) (len_cons len_nil))))
    (dss_cons (ds_if (dt_cmp (op_neX hu) f_ne (DO.frz (do_call0 k__law_told (hr.mono (by decide)) (by rfl) T.f__law_told.g T.f__law_told.F.kp T.f__law_told.b tk (da_cons dx_int (da_cons (dx_var (pv 9)) (da_cons dx_int da_nil))) (len_cons (len_cons (len_cons len_nil))))) dx_str (nomark _)) (dss_one (ds_ret (DX.own dx_bl))) dss_nil)
    (dss_one (ds_ret (DX.own (dx_cmp (op_eqX hu) f_eq (DO.frz (do_lst (da_cons (DO.frz (do_call0 k__law_told (hr.mono (by decide)) (by rfl) T.f__law_told.g T.f__law_told.F.kp T.f__law_told.b tk (da_cons dx_int (da_cons (dx_var (pv 9)) (da_cons dx_int da_nil))) (len_cons (len_cons (len_cons len_nil))))) (da_cons (DO.frz (do_call0 k__law_told (hr.mono (by decide)) (by rfl) T.f__law_told.g T.f__law_told.F.kp T.f__law_told.b tk (da_cons dx_int (da_cons (dx_var (pv 9)) (da_cons dx_int da_nil))) (len_cons (len_cons (len_cons len_nil))))) (da_cons (DO.frz (do_call0 k__law_told (hr.mono (by decide)) (by rfl) T.f__law_told.g T.f__law_told.F.kp T.f__law_told.b tk (da_cons dx_int (da_cons (dx_var (pv 9)) (da_cons dx_bl da_nil))) (len_cons (len_cons (len_cons len_nil))))) da_nil))))) (DO.frz (do_lst (da_cons dx_str (da_cons dx_str (da_cons dx_str da_nil))))) (nomark _))))))))))))))))))
theorem k_Program_text_ (T : Tx K mg ad fs cs w) : FnG P w K mg base (L2.CX P w) 1 (ad 29) (fs 29) ["self"] (spD K 1 (m_Program_text cs)) := by
  refine fn_mirror (N := sc_Program_text_N) T.f_Program_text.F sc_Program_text fun X pvs W cdv A outer s H E hX tk hr => ?_
  subst hX
  have hu := hr.units
  exact (dss_one (ds_ret (DX.own (dx_fld (ok := (fun C => C == cs 0)) (dx_var (pv 0)) (fun C h => by cases beq_iff_eq.mp h; exact ⟨T.c_Program.cl, T.n_Program_own_text⟩)))))
theorem k_law_ (T : Tx K mg ad fs cs w) : FnG P w K mg base (L2.CX P w) 28 (ad 30) (fs 30) ["script"] (spD K 1 (m_law cs)) := by
  refine fn_mirror (N := sc_law_N) T.f_law.F sc_law fun X pvs W cdv A outer s H E hX tk hr => ?_
  subst hX
  have hu := hr.units
  have k__law_made_right := k__law_made_right_ (P := P) (w := w) (base := base) T
  have k__law_bag := k__law_bag_ (P := P) (w := w) (base := base) T
  have k__law_words := k__law_words_ (P := P) (w := w) (base := base) T 16
  have k_Program___init__ := k_Program___init___ (P := P) (w := w) (base := base) T
  have k__law_pick := k__law_pick_ (P := P) (w := w) (base := base) T
  have k__law_told := k__law_told_ (P := P) (w := w) (base := base) T
  have k__law_sizes_right := k__law_sizes_right_ (P := P) (w := w) (base := base) T
  have k_Program_text := k_Program_text_ (P := P) (w := w) (base := base) T
  obtain ⟨pa_Program_text, p_Program_text⟩ := T.p_Program_text
  exact (dss_cons (ds_if (dt_not (dt_val (DO.frz (do_call00 k__law_made_right (hr.mono (by decide)) (by rfl) T.f__law_made_right.g T.f__law_made_right.F.kp T.f__law_made_right.b tk)))) (dss_one (ds_ret (DX.own dx_bl))) dss_nil)
    (dss_cons (ds_for (passes_of rfl) rfl (di_list (DO.frz (do_cat (DO.dq (do_cutS (dx_var (pv 0)) dp_none (dp_some dx_int))) (DO.dq (do_lst (da_cons dx_int da_nil)))))) (dg_name (i := 1) sc_law.nd rfl (by first | exact Or.inl rfl | exact Or.inr rfl)) (dss_cons (ds_set (i := 2) sc_law.nd rfl (by first | exact Or.inl rfl | exact Or.inr rfl) (do_call0 k__law_bag (hr.mono (by decide)) (by rfl) T.f__law_bag.g T.f__law_bag.F.kp T.f__law_bag.b tk (da_cons (dx_var (pv 1)) da_nil) (len_cons len_nil))) (dss_cons (ds_set (i := 3) sc_law.nd rfl (by first | exact Or.inl rfl | exact Or.inr rfl) (DX.own (dx_ix (DO.frz (do_lst (da_cons dx_str (da_cons dx_str (da_cons dx_str (da_cons dx_str da_nil)))))) (DO.frz (do_call1 k__law_pick (hr.mono (by decide)) (by rfl) T.f__law_pick.g T.f__law_pick.F.kp T.f__law_pick.b tk (dr_slot (pv 2) (dr_fz dx_int dr_nil)) (lenr_slot (lenr_fz lenr_nil))))))) (dss_cons (ds_set (i := 4) sc_law.nd rfl (by first | exact Or.inl rfl | exact Or.inr rfl) (DO.fz (do_call1 k__law_words (hr.mono (by decide)) (by rfl) T.f__law_words.g T.f__law_words.F.kp T.f__law_words.b tk (dr_slot (pv 2) (dr_fz dx_int (dr_fz dx_int (dr_fz (dx_var (pv 3)) (dr_fz dx_int dr_nil))))) (lenr_slot (lenr_fz (lenr_fz (lenr_fz (lenr_fz lenr_nil)))))))) (dss_cons (ds_set (i := 5) sc_law.nd rfl (by first | exact Or.inl rfl | exact Or.inr rfl) (DO.fz (do_make T.m_Program k_Program___init__ (hr.mono (by decide)) (by rfl) T.g_Program T.f_Program___init__.b tk (da_cons (dx_join dx_str (da_cons (dx_var (pv 4)) da_nil)) da_nil) (len_cons len_nil)))) (dss_cons (ds_for (passes_of rfl) rfl (di_list (DO.frz (do_lst (da_cons dx_non (da_cons dx_str (da_cons dx_str (da_cons dx_int (da_cons dx_int (da_cons dx_bl (da_cons (DO.frz (do_lst (da_cons dx_str da_nil))) (da_cons (dx_tup (da_cons dx_str da_nil)) (da_cons dx_dict0 (da_cons (dx_var (pv 4)) da_nil))))))))))))) (dg_name (i := 6) sc_law.nd rfl (by first | exact Or.inl rfl | exact Or.inr rfl)) (dss_one (ds_if (DW.dt (dw_or (dt_cmp (op_neX hu) f_ne (DO.frz (do_call0 k__law_told (hr.mono (by decide)) (by rfl) T.f__law_told.g T.f__law_told.F.kp T.f__law_told.b tk (da_cons dx_int (da_cons (dx_var (pv 5)) (da_cons (dx_var (pv 6)) da_nil))) (len_cons (len_cons (len_cons len_nil))))) dx_str (nomark _)) (dw_or1 (dt_cmp (op_neX hu) f_ne (DO.frz (do_call0 k__law_told (hr.mono (by decide)) (by rfl) T.f__law_told.g T.f__law_told.F.kp T.f__law_told.b tk (da_cons dx_int (da_cons (DO.frz (do_make T.m_Program k_Program___init__ (hr.mono (by decide)) (by rfl) T.g_Program T.f_Program___init__.b tk (da_cons dx_str da_nil) (len_cons len_nil))) (da_cons (dx_var (pv 6)) da_nil))) (len_cons (len_cons (len_cons len_nil))))) dx_str (nomark _))))) (dss_one (ds_ret (DX.own dx_bl))) dss_nil))) (dss_cons (ds_for (passes_of rfl) rfl (di_list (DO.frz (do_lst (da_cons dx_non (da_cons (dx_neg dx_int) (da_cons (dx_neg dx_int) (da_cons (dx_op2 op_sub f_sub dx_int (dx_op2 op_powX f_pow dx_int dx_int)) (da_cons (dx_op2 op_addX f_add (dx_op2 op_powX f_pow dx_int dx_int) dx_int) (da_cons (dx_op2 op_powX f_pow dx_int dx_int) (da_cons dx_bl (da_cons dx_bl (da_cons dx_str (da_cons (dx_tup (da_cons dx_int da_nil)) (da_cons (DO.frz (do_lst da_nil)) (da_cons dx_dict0 (da_cons (dx_var (pv 5)) da_nil)))))))))))))))) (dg_name (i := 6) sc_law.nd rfl (by first | exact Or.inl rfl | exact Or.inr rfl)) (dss_one (ds_if (DW.dt (dw_or (dt_cmp (op_neX hu) f_ne (DO.frz (do_call0 k__law_told (hr.mono (by decide)) (by rfl) T.f__law_told.g T.f__law_told.F.kp T.f__law_told.b tk (da_cons dx_int (da_cons (dx_var (pv 5)) (da_cons (dx_var (pv 6)) da_nil))) (len_cons (len_cons (len_cons len_nil))))) dx_str (nomark _)) (dw_or1 (dt_cmp (op_neX hu) f_ne (DO.frz (do_call0 k__law_told (hr.mono (by decide)) (by rfl) T.f__law_told.g T.f__law_told.F.kp T.f__law_told.b tk (da_cons dx_int (da_cons (DO.frz (do_make T.m_Program k_Program___init__ (hr.mono (by decide)) (by rfl) T.g_Program T.f_Program___init__.b tk (da_cons dx_str da_nil) (len_cons len_nil))) (da_cons (dx_var (pv 6)) da_nil))) (len_cons (len_cons (len_cons len_nil))))) dx_str (nomark _))))) (dss_one (ds_ret (DX.own dx_bl))) dss_nil))) (dss_cons (ds_if (dt_cmp (op_neX hu) f_ne (DO.frz (do_call0 k__law_told (hr.mono (by decide)) (by rfl) T.f__law_told.g T.f__law_told.F.kp T.f__law_told.b tk (da_cons dx_int (da_cons (dx_var (pv 5)) (da_cons dx_non da_nil))) (len_cons (len_cons (len_cons len_nil))))) (dx_if (DW.dt (dw_or (dt_cmp op_in2 f_in2 dx_str (DO.frz (do_prop (dx_var (pv 5)) T.c_Program.cl p_Program_text k_Program_text (hr.mono (by decide)) T.f_Program_text.b)) (by with_unfolding_all rfl)) (dw_or1 (dt_cmp op_in2 f_in2 dx_str (DO.frz (do_prop (dx_var (pv 5)) T.c_Program.cl p_Program_text k_Program_text (hr.mono (by decide)) T.f_Program_text.b)) (by with_unfolding_all rfl))))) dx_str dx_str) (nomark _)) (dss_one (ds_ret (DX.own dx_bl))) dss_nil) (dss_one (ds_if (dt_not (dt_val (DO.frz (do_call1 k__law_sizes_right (hr.mono (by decide)) (by rfl) T.f__law_sizes_right.g T.f__law_sizes_right.F.kp T.f__law_sizes_right.b tk (dr_slot (pv 2) dr_nil) (lenr_slot lenr_nil))))) (dss_one (ds_ret (DX.own dx_bl))) dss_nil))))))))))
    (dss_one (ds_ret (DX.own dx_bl)))))
end
set_option maxHeartbeats 0 in
theorem all_mk {l : PySem.W.OpenLaw} {w : World} {K : PySem.W.Frag} {h : Heap} {mg : Str → Option Value} {fa f1 f2 f3 f4 f5 f6 f7 f8 f9 f10 f11 f12 f13 f14 f15 f16 f17 f18 f19 f20 f21 f22 f23 f24 f25 f26 f27 f28 f29 f30 f31 C0 C1 C2 C3 C4 C5 C6 C7 C8 C9 C10 C11 C12 C13 C14 C15 C16 C17 C18 C19 C20 C21 C22 C23 C24 C25 C26 C27 C28 C29 C30 : Addr} {tk_DIGITS : Tok} {tk_LETTERS : Tok} {tk_MOST_DEPTH : Tok} {tk_MOST_DIGITS : Tok} {tk_MOST_TIMES : Tok} {tk_MOST_WORDS : Tok} {xld_InvalidText : Option Addr} {xlc_InvalidText : ClassData} {xls_InvalidText : Array (Option Value)} {xld_InvalidSource : Option Addr} {xlc_InvalidSource : ClassData} {xls_InvalidSource : Array (Option Value)} {xld_TooDeep : Option Addr} {xlc_TooDeep : ClassData} {xls_TooDeep : Array (Option Value)} {xld_TooLarge : Option Addr} {xlc_TooLarge : ClassData} {xls_TooLarge : Array (Option Value)} {pp30 : Addr} {pr30 : List Value} {fo_Program___add___NoneType ro_Program___add___NoneType : Option Value} {fo_Program___add___bool ro_Program___add___bool : Option Value} {fo_Program___add___int ro_Program___add___int : Option Value} {fo_Program___add___str ro_Program___add___str : Option Value} {fo_Program___add___tuple ro_Program___add___tuple : Option Value} {fo_Program___add___list ro_Program___add___list : Option Value} {fo_Program___add___dict ro_Program___add___dict : Option Value} {fo_Program___mul___NoneType ro_Program___mul___NoneType : Option Value} {fo_Program___mul___bool ro_Program___mul___bool : Option Value} {fo_Program___mul___int ro_Program___mul___int : Option Value} {fo_Program___mul___str ro_Program___mul___str : Option Value} {fo_Program___mul___tuple ro_Program___mul___tuple : Option Value} {fo_Program___mul___list ro_Program___mul___list : Option Value} {fo_Program___mul___dict ro_Program___mul___dict : Option Value} {kd_REVERSED : Addr} {kde_REVERSED : Array DictEntry} {kdn_REVERSED : Nat} {kt_REVERSED_0 : Tok} {kt_REVERSED_1 : Tok} {kt_REVERSED_2 : Tok} {kt_REVERSED_3 : Tok} (X : K.In h) (G : h.Ns mainGlobals mg) (hfa : mg "law" = some (.ref fa))
    {od1 an1 od2 an2 od3 an3 od4 an4 od5 an5 od6 an6 od7 an7 od8 an8 od9 an9 od10 an10 od11 an11 od12 an12 od13 an13 od14 an14 od15 an15 od16 an16 od17 an17 od18 an18 od19 an19 od20 an20 od21 an21 od22 an22 od23 an23 od24 an24 od25 an25 od26 an26 od27 an27 od28 an28 od29 an29 od30 an30 od31 an31 : Option Addr} {sl1 sl2 sl3 sl4 sl5 sl6 sl7 sl8 sl9 sl10 sl11 sl12 sl13 sl14 sl15 sl16 sl17 sl18 sl19 sl20 sl21 sl22 sl23 sl24 sl25 sl26 sl27 sl28 sl29 sl30 sl31 : Array (Option Value)} {oc1 dc1 pm1 cd1 ct1 kV1 oc2 dc2 pm2 cd2 ct2 kV2 oc3 dc3 pm3 cd3 ct3 kV3 oc4 dc4 pm4 cd4 ct4 kV4 oc5 dc5 pm5 cd5 ct5 kV5 oc6 dc6 pm6 cd6 ct6 kV6 oc7 dc7 pm7 cd7 ct7 kV7 oc8 dc8 pm8 cd8 ct8 kV8 oc9 dc9 pm9 cd9 ct9 kV9 oc10 dc10 pm10 cd10 ct10 kV10 oc11 dc11 pm11 cd11 ct11 kV11 oc12 dc12 pm12 cd12 ct12 kV12 oc13 dc13 pm13 cd13 ct13 kV13 oc14 dc14 pm14 cd14 ct14 kV14 oc15 dc15 pm15 cd15 ct15 kV15 oc16 dc16 pm16 cd16 ct16 kV16 oc17 dc17 pm17 cd17 ct17 kV17 oc18 dc18 pm18 cd18 ct18 kV18 oc19 dc19 pm19 cd19 ct19 kV19 oc20 dc20 pm20 cd20 ct20 kV20 oc21 dc21 pm21 cd21 ct21 kV21 oc22 dc22 pm22 cd22 ct22 kV22 oc23 dc23 pm23 cd23 ct23 kV23 oc24 dc24 pm24 cd24 ct24 kV24 oc25 dc25 pm25 cd25 ct25 kV25 oc26 dc26 pm26 cd26 ct26 kV26 oc27 dc27 pm27 cd27 ct27 kV27 oc28 dc28 pm28 cd28 ct28 kV28 oc29 dc29 pm29 cd29 ct29 kV29 oc30 dc30 pm30 cd30 ct30 kV30 oc31 dc31 pm31 cd31 ct31 kV31 : Value}
    (g_Program : PySem.W.nsIn K mainGlobals "Program" = some (some (.ref C0)))
    (g_PlotError : PySem.W.nsIn K mainGlobals "PlotError" = some (some (.ref C1)))
    (g_InvalidText : PySem.W.nsIn K mainGlobals "InvalidText" = some (some (.ref C2)))
    (g_InvalidSource : PySem.W.nsIn K mainGlobals "InvalidSource" = some (some (.ref C3)))
    (g_TooDeep : PySem.W.nsIn K mainGlobals "TooDeep" = some (some (.ref C4)))
    (g_TooLarge : PySem.W.nsIn K mainGlobals "TooLarge" = some (some (.ref C5)))
    (g_InvalidProgram : PySem.W.nsIn K mainGlobals "InvalidProgram" = some (some (.ref C6)))
    (g_InvalidTimes : PySem.W.nsIn K mainGlobals "InvalidTimes" = some (some (.ref C7)))
    (g_InvalidIndex : PySem.W.nsIn K mainGlobals "InvalidIndex" = some (some (.ref C8)))
    (g_InvalidLetter : PySem.W.nsIn K mainGlobals "InvalidLetter" = some (some (.ref C9)))
    (g_InvalidName : PySem.W.nsIn K mainGlobals "InvalidName" = some (some (.ref C10)))
    (g_HasPen : PySem.W.nsIn K mainGlobals "HasPen" = some (some (.ref C11)))
    (g_InvalidMotion : PySem.W.nsIn K mainGlobals "InvalidMotion" = some (some (.ref C12)))
    (g_InvalidPose : PySem.W.nsIn K mainGlobals "InvalidPose" = some (some (.ref C13)))
    (g_InvalidPoint : PySem.W.nsIn K mainGlobals "InvalidPoint" = some (some (.ref C14)))
    (g_InvalidEdge : PySem.W.nsIn K mainGlobals "InvalidEdge" = some (some (.ref C15)))
    (g_InvalidPicture : PySem.W.nsIn K mainGlobals "InvalidPicture" = some (some (.ref C16)))
    (g_InvalidTurn : PySem.W.nsIn K mainGlobals "InvalidTurn" = some (some (.ref C17)))
    (g_InvalidFace : PySem.W.nsIn K mainGlobals "InvalidFace" = some (some (.ref C18)))
    (g_InvalidFaces : PySem.W.nsIn K mainGlobals "InvalidFaces" = some (some (.ref C19)))
    (g_NotEven : PySem.W.nsIn K mainGlobals "NotEven" = some (some (.ref C20)))
    (g_NotClosed : PySem.W.nsIn K mainGlobals "NotClosed" = some (some (.ref C21)))
    (g_InvalidIntervals : PySem.W.nsIn K mainGlobals "InvalidIntervals" = some (some (.ref C22)))
    (g_InvalidPlace : PySem.W.nsIn K mainGlobals "InvalidPlace" = some (some (.ref C23)))
    (g_NotDrifting : PySem.W.nsIn K mainGlobals "NotDrifting" = some (some (.ref C24)))
    (g_InvalidCount : PySem.W.nsIn K mainGlobals "InvalidCount" = some (some (.ref C25)))
    (g_NoSteps : PySem.W.nsIn K mainGlobals "NoSteps" = some (some (.ref C26)))
    (g_InvalidOperation : PySem.W.nsIn K mainGlobals "InvalidOperation" = some (some (.ref C27)))
    (g_Nothing : PySem.W.nsIn K mainGlobals "Nothing" = some (some (.ref C28)))
    (g_InvalidArt : PySem.W.nsIn K mainGlobals "InvalidArt" = some (some (.ref C29)))
    (g_InvalidCommand : PySem.W.nsIn K mainGlobals "InvalidCommand" = some (some (.ref C30)))
    (a1 : PySem.W.findIn K (.ref C2) "__init__" = some (some (.ref f1)))
    (i1 : PySem.W.isFn K (.ref f1) = true)
    (l1 : K.lookup f1 = some ⟨oc1, od1, .func (PySem.W.fnOf "__init__" "InvalidText.__init__" (defArgs s_InvalidText___init__) (defBody s_InvalidText___init__) (defScope s_InvalidText___init__) .none kV1 dc1 pm1 an1 cd1 ct1), sl1⟩)
    (c1 : PySem.W.codeIn K cd1 "InvalidText.__init__" = true)
    (k1 : PySem.W.keepIn K (.ref f1) = true)
    (a2 : PySem.W.findIn K (.ref C3) "__init__" = some (some (.ref f2)))
    (i2 : PySem.W.isFn K (.ref f2) = true)
    (l2 : K.lookup f2 = some ⟨oc2, od2, .func (PySem.W.fnOf "__init__" "InvalidSource.__init__" (defArgs s_InvalidSource___init__) (defBody s_InvalidSource___init__) (defScope s_InvalidSource___init__) .none kV2 dc2 pm2 an2 cd2 ct2), sl2⟩)
    (c2 : PySem.W.codeIn K cd2 "InvalidSource.__init__" = true)
    (k2 : PySem.W.keepIn K (.ref f2) = true)
    (a3 : PySem.W.findIn K (.ref C4) "__init__" = some (some (.ref f3)))
    (i3 : PySem.W.isFn K (.ref f3) = true)
    (l3 : K.lookup f3 = some ⟨oc3, od3, .func (PySem.W.fnOf "__init__" "TooDeep.__init__" (defArgs s_TooDeep___init__) (defBody s_TooDeep___init__) (defScope s_TooDeep___init__) .none kV3 dc3 pm3 an3 cd3 ct3), sl3⟩)
    (c3 : PySem.W.codeIn K cd3 "TooDeep.__init__" = true)
    (k3 : PySem.W.keepIn K (.ref f3) = true)
    (a4 : PySem.W.findIn K (.ref C5) "__init__" = some (some (.ref f4)))
    (i4 : PySem.W.isFn K (.ref f4) = true)
    (l4 : K.lookup f4 = some ⟨oc4, od4, .func (PySem.W.fnOf "__init__" "TooLarge.__init__" (defArgs s_TooLarge___init__) (defBody s_TooLarge___init__) (defScope s_TooLarge___init__) .none kV4 dc4 pm4 an4 cd4 ct4), sl4⟩)
    (c4 : PySem.W.codeIn K cd4 "TooLarge.__init__" = true)
    (k4 : PySem.W.keepIn K (.ref f4) = true)
    (a5 : PySem.W.nsIn K mainGlobals "_law_made_right" = some (some (.ref f5)))
    (l5 : K.lookup f5 = some ⟨oc5, od5, .func (PySem.W.fnOf "_law_made_right" "_law_made_right" (defArgs s__law_made_right) (defBody s__law_made_right) (defScope s__law_made_right) .none kV5 dc5 pm5 an5 cd5 ct5), sl5⟩)
    (c5 : PySem.W.codeIn K cd5 "_law_made_right" = true)
    (k5 : PySem.W.keepIn K (.ref f5) = true)
    (a6 : PySem.W.nsIn K mainGlobals "_law_bag" = some (some (.ref f6)))
    (l6 : K.lookup f6 = some ⟨oc6, od6, .func (PySem.W.fnOf "_law_bag" "_law_bag" (defArgs s__law_bag) (defBody s__law_bag) (defScope s__law_bag) .none kV6 dc6 pm6 an6 cd6 ct6), sl6⟩)
    (c6 : PySem.W.codeIn K cd6 "_law_bag" = true)
    (k6 : PySem.W.keepIn K (.ref f6) = true)
    (a7 : PySem.W.nsIn K mainGlobals "_law_pick" = some (some (.ref f7)))
    (l7 : K.lookup f7 = some ⟨oc7, od7, .func (PySem.W.fnOf "_law_pick" "_law_pick" (defArgs s__law_pick) (defBody s__law_pick) (defScope s__law_pick) .none kV7 dc7 pm7 an7 cd7 ct7), sl7⟩)
    (c7 : PySem.W.codeIn K cd7 "_law_pick" = true)
    (k7 : PySem.W.keepIn K (.ref f7) = true)
    (a8 : PySem.W.nsIn K mainGlobals "_law_number" = some (some (.ref f8)))
    (l8 : K.lookup f8 = some ⟨oc8, od8, .func (PySem.W.fnOf "_law_number" "_law_number" (defArgs s__law_number) (defBody s__law_number) (defScope s__law_number) .none kV8 dc8 pm8 an8 cd8 ct8), sl8⟩)
    (c8 : PySem.W.codeIn K cd8 "_law_number" = true)
    (k8 : PySem.W.keepIn K (.ref f8) = true)
    (a9 : PySem.W.nsIn K mainGlobals "_law_words" = some (some (.ref f9)))
    (l9 : K.lookup f9 = some ⟨oc9, od9, .func (PySem.W.fnOf "_law_words" "_law_words" (defArgs s__law_words) (defBody s__law_words) (defScope s__law_words) .none kV9 dc9 pm9 an9 cd9 ct9), sl9⟩)
    (c9 : PySem.W.codeIn K cd9 "_law_words" = true)
    (k9 : PySem.W.keepIn K (.ref f9) = true)
    (a10 : PySem.W.nsIn K mainGlobals "words_of" = some (some (.ref f10)))
    (l10 : K.lookup f10 = some ⟨oc10, od10, .func (PySem.W.fnOf "words_of" "words_of" (defArgs s_words_of) (defBody s_words_of) (defScope s_words_of) .none kV10 dc10 pm10 an10 cd10 ct10), sl10⟩)
    (c10 : PySem.W.codeIn K cd10 "words_of" = true)
    (k10 : PySem.W.keepIn K (.ref f10) = true)
    (a11 : PySem.W.nsIn K mainGlobals "is_number" = some (some (.ref f11)))
    (l11 : K.lookup f11 = some ⟨oc11, od11, .func (PySem.W.fnOf "is_number" "is_number" (defArgs s_is_number) (defBody s_is_number) (defScope s_is_number) .none kV11 dc11 pm11 an11 cd11 ct11), sl11⟩)
    (c11 : PySem.W.codeIn K cd11 "is_number" = true)
    (k11 : PySem.W.keepIn K (.ref f11) = true)
    (a12 : PySem.W.nsIn K mainGlobals "is_step_word" = some (some (.ref f12)))
    (l12 : K.lookup f12 = some ⟨oc12, od12, .func (PySem.W.fnOf "is_step_word" "is_step_word" (defArgs s_is_step_word) (defBody s_is_step_word) (defScope s_is_step_word) .none kV12 dc12 pm12 an12 cd12 ct12), sl12⟩)
    (c12 : PySem.W.codeIn K cd12 "is_step_word" = true)
    (k12 : PySem.W.keepIn K (.ref f12) = true)
    (a13 : PySem.W.nsIn K mainGlobals "first_wrong" = some (some (.ref f13)))
    (l13 : K.lookup f13 = some ⟨oc13, od13, .func (PySem.W.fnOf "first_wrong" "first_wrong" (defArgs s_first_wrong) (defBody s_first_wrong) (defScope s_first_wrong) .none kV13 dc13 pm13 an13 cd13 ct13), sl13⟩)
    (c13 : PySem.W.codeIn K cd13 "first_wrong" = true)
    (k13 : PySem.W.keepIn K (.ref f13) = true)
    (a14 : PySem.W.nsIn K mainGlobals "nodes_from" = some (some (.ref f14)))
    (l14 : K.lookup f14 = some ⟨oc14, od14, .func (PySem.W.fnOf "nodes_from" "nodes_from" (defArgs s_nodes_from) (defBody s_nodes_from) (defScope s_nodes_from) .none kV14 dc14 pm14 an14 cd14 ct14), sl14⟩)
    (c14 : PySem.W.codeIn K cd14 "nodes_from" = true)
    (k14 : PySem.W.keepIn K (.ref f14) = true)
    (a15 : PySem.W.nsIn K mainGlobals "nodes_in" = some (some (.ref f15)))
    (l15 : K.lookup f15 = some ⟨oc15, od15, .func (PySem.W.fnOf "nodes_in" "nodes_in" (defArgs s_nodes_in) (defBody s_nodes_in) (defScope s_nodes_in) .none kV15 dc15 pm15 an15 cd15 ct15), sl15⟩)
    (c15 : PySem.W.codeIn K cd15 "nodes_in" = true)
    (k15 : PySem.W.keepIn K (.ref f15) = true)
    (a16 : PySem.W.nsIn K mainGlobals "length_in" = some (some (.ref f16)))
    (l16 : K.lookup f16 = some ⟨oc16, od16, .func (PySem.W.fnOf "length_in" "length_in" (defArgs s_length_in) (defBody s_length_in) (defScope s_length_in) .none kV16 dc16 pm16 an16 cd16 ct16), sl16⟩)
    (c16 : PySem.W.codeIn K cd16 "length_in" = true)
    (k16 : PySem.W.keepIn K (.ref f16) = true)
    (a17 : PySem.W.nsIn K mainGlobals "depth_in" = some (some (.ref f17)))
    (l17 : K.lookup f17 = some ⟨oc17, od17, .func (PySem.W.fnOf "depth_in" "depth_in" (defArgs s_depth_in) (defBody s_depth_in) (defScope s_depth_in) .none kV17 dc17 pm17 an17 cd17 ct17), sl17⟩)
    (c17 : PySem.W.codeIn K cd17 "depth_in" = true)
    (k17 : PySem.W.keepIn K (.ref f17) = true)
    (a18 : PySem.W.findIn K (.ref C0) "__init__" = some (some (.ref f18)))
    (i18 : PySem.W.isFn K (.ref f18) = true)
    (l18 : K.lookup f18 = some ⟨oc18, od18, .func (PySem.W.fnOf "__init__" "Program.__init__" (defArgs s_Program___init__) (defBody s_Program___init__) (defScope s_Program___init__) .none kV18 dc18 pm18 an18 cd18 ct18), sl18⟩)
    (c18 : PySem.W.codeIn K cd18 "Program.__init__" = true)
    (k18 : PySem.W.keepIn K (.ref f18) = true)
    (a19 : PySem.W.nsIn K mainGlobals "_law_class" = some (some (.ref f19)))
    (l19 : K.lookup f19 = some ⟨oc19, od19, .func (PySem.W.fnOf "_law_class" "_law_class" (defArgs s__law_class) (defBody s__law_class) (defScope s__law_class) .none kV19 dc19 pm19 an19 cd19 ct19), sl19⟩)
    (c19 : PySem.W.codeIn K cd19 "_law_class" = true)
    (k19 : PySem.W.keepIn K (.ref f19) = true)
    (a20 : PySem.W.nsIn K mainGlobals "reversed_text" = some (some (.ref f20)))
    (l20 : K.lookup f20 = some ⟨oc20, od20, .func (PySem.W.fnOf "reversed_text" "reversed_text" (defArgs s_reversed_text) (defBody s_reversed_text) (defScope s_reversed_text) .none kV20 dc20 pm20 an20 cd20 ct20), sl20⟩)
    (c20 : PySem.W.codeIn K cd20 "reversed_text" = true)
    (k20 : PySem.W.keepIn K (.ref f20) = true)
    (a21 : PySem.W.findIn K (.ref C0) "__invert__" = some (some (.ref f21)))
    (i21 : PySem.W.isFn K (.ref f21) = true)
    (l21 : K.lookup f21 = some ⟨oc21, od21, .func (PySem.W.fnOf "__invert__" "Program.__invert__" (defArgs s_Program___invert__) (defBody s_Program___invert__) (defScope s_Program___invert__) .none kV21 dc21 pm21 an21 cd21 ct21), sl21⟩)
    (c21 : PySem.W.codeIn K cd21 "Program.__invert__" = true)
    (k21 : PySem.W.keepIn K (.ref f21) = true)
    (a22 : PySem.W.nsIn K mainGlobals "joined_text" = some (some (.ref f22)))
    (l22 : K.lookup f22 = some ⟨oc22, od22, .func (PySem.W.fnOf "joined_text" "joined_text" (defArgs s_joined_text) (defBody s_joined_text) (defScope s_joined_text) .none kV22 dc22 pm22 an22 cd22 ct22), sl22⟩)
    (c22 : PySem.W.codeIn K cd22 "joined_text" = true)
    (k22 : PySem.W.keepIn K (.ref f22) = true)
    (a23 : PySem.W.findIn K (.ref C0) "__add__" = some (some (.ref f23)))
    (i23 : PySem.W.isFn K (.ref f23) = true)
    (l23 : K.lookup f23 = some ⟨oc23, od23, .func (PySem.W.fnOf "__add__" "Program.__add__" (defArgs s_Program___add__) (defBody s_Program___add__) (defScope s_Program___add__) .none kV23 dc23 pm23 an23 cd23 ct23), sl23⟩)
    (c23 : PySem.W.codeIn K cd23 "Program.__add__" = true)
    (k23 : PySem.W.keepIn K (.ref f23) = true)
    (a24 : PySem.W.nsIn K mainGlobals "is_int" = some (some (.ref f24)))
    (l24 : K.lookup f24 = some ⟨oc24, od24, .func (PySem.W.fnOf "is_int" "is_int" (defArgs s_is_int) (defBody s_is_int) (defScope s_is_int) .none kV24 dc24 pm24 an24 cd24 ct24), sl24⟩)
    (c24 : PySem.W.codeIn K cd24 "is_int" = true)
    (k24 : PySem.W.keepIn K (.ref f24) = true)
    (a25 : PySem.W.nsIn K mainGlobals "in_range" = some (some (.ref f25)))
    (l25 : K.lookup f25 = some ⟨oc25, od25, .func (PySem.W.fnOf "in_range" "in_range" (defArgs s_in_range) (defBody s_in_range) (defScope s_in_range) .none kV25 dc25 pm25 an25 cd25 ct25), sl25⟩)
    (c25 : PySem.W.codeIn K cd25 "in_range" = true)
    (k25 : PySem.W.keepIn K (.ref f25) = true)
    (a26 : PySem.W.findIn K (.ref C0) "__mul__" = some (some (.ref f26)))
    (i26 : PySem.W.isFn K (.ref f26) = true)
    (l26 : K.lookup f26 = some ⟨oc26, od26, .func (PySem.W.fnOf "__mul__" "Program.__mul__" (defArgs s_Program___mul__) (defBody s_Program___mul__) (defScope s_Program___mul__) .none kV26 dc26 pm26 an26 cd26 ct26), sl26⟩)
    (c26 : PySem.W.codeIn K cd26 "Program.__mul__" = true)
    (k26 : PySem.W.keepIn K (.ref f26) = true)
    (a27 : PySem.W.nsIn K mainGlobals "_law_told" = some (some (.ref f27)))
    (l27 : K.lookup f27 = some ⟨oc27, od27, .func (PySem.W.fnOf "_law_told" "_law_told" (defArgs s__law_told) (defBody s__law_told) (defScope s__law_told) .none kV27 dc27 pm27 an27 cd27 ct27), sl27⟩)
    (c27 : PySem.W.codeIn K cd27 "_law_told" = true)
    (k27 : PySem.W.keepIn K (.ref f27) = true)
    (a28 : PySem.W.findIn K (.ref C0) "__len__" = some (some (.ref f28)))
    (i28 : PySem.W.isFn K (.ref f28) = true)
    (l28 : K.lookup f28 = some ⟨oc28, od28, .func (PySem.W.fnOf "__len__" "Program.__len__" (defArgs s_Program___len__) (defBody s_Program___len__) (defScope s_Program___len__) .none kV28 dc28 pm28 an28 cd28 ct28), sl28⟩)
    (c28 : PySem.W.codeIn K cd28 "Program.__len__" = true)
    (k28 : PySem.W.keepIn K (.ref f28) = true)
    (a29 : PySem.W.nsIn K mainGlobals "_law_sizes_right" = some (some (.ref f29)))
    (l29 : K.lookup f29 = some ⟨oc29, od29, .func (PySem.W.fnOf "_law_sizes_right" "_law_sizes_right" (defArgs s__law_sizes_right) (defBody s__law_sizes_right) (defScope s__law_sizes_right) .none kV29 dc29 pm29 an29 cd29 ct29), sl29⟩)
    (c29 : PySem.W.codeIn K cd29 "_law_sizes_right" = true)
    (k29 : PySem.W.keepIn K (.ref f29) = true)
    (pa30 : PySem.W.findIn K (.ref C0) "text" = some (some (.ref pp30)))
    (pb30 : PySem.W.specialIn K (.ref pp30) "__get__" = some (some (.builtin "property.__get__")))
    (pc30 : PySem.W.takesIn K (.ref pp30) = some true)
    (pd30 : PySem.W.recIn K pp30 "property" = some (.ref f30 :: pr30))
    (l30 : K.lookup f30 = some ⟨oc30, od30, .func (PySem.W.fnOf "text" "Program.text" (defArgs s_Program_text) (defBody s_Program_text) (defScope s_Program_text) .none kV30 dc30 pm30 an30 cd30 ct30), sl30⟩)
    (c30 : PySem.W.codeIn K cd30 "Program.text" = true)
    (k30 : PySem.W.keepIn K (.ref f30) = true)
    (a31 : PySem.W.nsIn K mainGlobals "law" = some (some (.ref f31)))
    (l31 : K.lookup f31 = some ⟨oc31, od31, .func (PySem.W.fnOf "law" "law" (defArgs s_law) (defBody s_law) (defScope s_law) .none kV31 dc31 pm31 an31 cd31 ct31), sl31⟩)
    (c31 : PySem.W.codeIn K cd31 "law" = true)
    (k31 : PySem.W.keepIn K (.ref f31) = true)
    (nd : ([C0, C1, C2, C3, C4, C5, C6, C7, C8, C9, C10, C11, C12, C13, C14, C15, C16, C17, C18, C19, C20, C21, C22, C23, C24, C25, C26, C27, C28, C29, C30] : List Addr).Nodup)
    (z_ValueError : PySem.W.nsIn K mainGlobals "ValueError" = some none)
    (z_all : PySem.W.nsIn K mainGlobals "all" = some none)
    (z_bool : PySem.W.nsIn K mainGlobals "bool" = some none)
    (z_enumerate : PySem.W.nsIn K mainGlobals "enumerate" = some none)
    (z_int : PySem.W.nsIn K mainGlobals "int" = some none)
    (z_isinstance : PySem.W.nsIn K mainGlobals "isinstance" = some none)
    (z_len : PySem.W.nsIn K mainGlobals "len" = some none)
    (z_max : PySem.W.nsIn K mainGlobals "max" = some none)
    (z_repr : PySem.W.nsIn K mainGlobals "repr" = some none)
    (z_str : PySem.W.nsIn K mainGlobals "str" = some none)
    (z_tuple : PySem.W.nsIn K mainGlobals "tuple" = some none)
    (v_DIGITS : PySem.W.nsIn K mainGlobals "DIGITS" = some (some (.str "0123456789" tk_DIGITS)))
    (v_LETTERS : PySem.W.nsIn K mainGlobals "LETTERS" = some (some (.str "fblrud" tk_LETTERS)))
    (v_MOST_DEPTH : PySem.W.nsIn K mainGlobals "MOST_DEPTH" = some (some (.int 12 tk_MOST_DEPTH)))
    (v_MOST_DIGITS : PySem.W.nsIn K mainGlobals "MOST_DIGITS" = some (some (.int 31 tk_MOST_DIGITS)))
    (v_MOST_TIMES : PySem.W.nsIn K mainGlobals "MOST_TIMES" = some (some (.int 1000000000000000000000000000000 tk_MOST_TIMES)))
    (v_MOST_WORDS : PySem.W.nsIn K mainGlobals "MOST_WORDS" = some (some (.int 1000 tk_MOST_WORDS)))
    (pg_Program : PySem.W.plainGet K C0 Str.empty = true)
    (hd_Program : PySem.W.hasDictIn K C0 = true)
    (po_Program : PySem.W.plainOver K C0 = true)
    (sa_Program : PySem.W.findIn K (.ref C0) "__setattr__" = some (some (.builtin "object.__setattr__")))
    (ha_Program : PySem.W.findIn K (.ref C0) "__class__" = some (some (.builtin "object.__class__")))
    (hn_Program : PySem.W.specialIn K (.builtin "object.__class__") "__get__" = some (some (.builtin "getset_descriptor.__get__")))
    (ht_Program : PySem.W.takesIn K (.builtin "object.__class__") = some true)
    (hm_Program : PySem.W.mroIn K C0 (.type "object") = some true)
    (mk_Program : PySem.W.makesIn K C0 = true)
    (kc_Program : PySem.W.keepIn K (.ref C0) = true)
    (xl_InvalidText : K.lookup C2 = some ⟨.type "type", xld_InvalidText, .cls xlc_InvalidText, xls_InvalidText⟩)
    (xe_InvalidText : oexB C2 xlc_InvalidText xls_InvalidText = true)
    (xw_InvalidText : PySem.W.findIn K (.ref C2) "__setattr__" = some (some (.builtin "object.__setattr__")))
    (xk_InvalidText : PySem.W.keepIn K (.ref C2) = true)
    (xb_InvalidText : PySem.W.subIn K (.ref C2) (.type "BaseException") = some true)
    (xt_InvalidText : PySem.W.typeIn K (.ref C2) = some (.type "type"))
    (xn_InvalidText_index : PySem.W.findIn K (.ref C2) "index" = some none)
    (xl_InvalidSource : K.lookup C3 = some ⟨.type "type", xld_InvalidSource, .cls xlc_InvalidSource, xls_InvalidSource⟩)
    (xe_InvalidSource : oexB C3 xlc_InvalidSource xls_InvalidSource = true)
    (xw_InvalidSource : PySem.W.findIn K (.ref C3) "__setattr__" = some (some (.builtin "object.__setattr__")))
    (xk_InvalidSource : PySem.W.keepIn K (.ref C3) = true)
    (xb_InvalidSource : PySem.W.subIn K (.ref C3) (.type "BaseException") = some true)
    (xt_InvalidSource : PySem.W.typeIn K (.ref C3) = some (.type "type"))
    (xn_InvalidSource_line : PySem.W.findIn K (.ref C3) "line" = some none)
    (xn_InvalidSource_index : PySem.W.findIn K (.ref C3) "index" = some none)
    (xl_TooDeep : K.lookup C4 = some ⟨.type "type", xld_TooDeep, .cls xlc_TooDeep, xls_TooDeep⟩)
    (xe_TooDeep : oexB C4 xlc_TooDeep xls_TooDeep = true)
    (xw_TooDeep : PySem.W.findIn K (.ref C4) "__setattr__" = some (some (.builtin "object.__setattr__")))
    (xk_TooDeep : PySem.W.keepIn K (.ref C4) = true)
    (xb_TooDeep : PySem.W.subIn K (.ref C4) (.type "BaseException") = some true)
    (xt_TooDeep : PySem.W.typeIn K (.ref C4) = some (.type "type"))
    (xn_TooDeep_limit : PySem.W.findIn K (.ref C4) "limit" = some none)
    (xl_TooLarge : K.lookup C5 = some ⟨.type "type", xld_TooLarge, .cls xlc_TooLarge, xls_TooLarge⟩)
    (xe_TooLarge : oexB C5 xlc_TooLarge xls_TooLarge = true)
    (xw_TooLarge : PySem.W.findIn K (.ref C5) "__setattr__" = some (some (.builtin "object.__setattr__")))
    (xk_TooLarge : PySem.W.keepIn K (.ref C5) = true)
    (xb_TooLarge : PySem.W.subIn K (.ref C5) (.type "BaseException") = some true)
    (xt_TooLarge : PySem.W.typeIn K (.ref C5) = some (.type "type"))
    (xn_TooLarge_limit : PySem.W.findIn K (.ref C5) "limit" = some none)
    (xq_HasPen : PySem.W.excIn K C11 [.type "ValueError", .type "Exception", .type "BaseException", .type "object"] "ValueError.__new__" = true)
    (xk_HasPen : PySem.W.keepIn K (.ref C11) = true)
    (xb_HasPen : PySem.W.subIn K (.ref C11) (.type "BaseException") = some true)
    (xt_HasPen : PySem.W.typeIn K (.ref C11) = some (.type "type"))
    (xq_InvalidProgram : PySem.W.excIn K C6 [.type "ValueError", .type "Exception", .type "BaseException", .type "object"] "ValueError.__new__" = true)
    (xk_InvalidProgram : PySem.W.keepIn K (.ref C6) = true)
    (xb_InvalidProgram : PySem.W.subIn K (.ref C6) (.type "BaseException") = some true)
    (xt_InvalidProgram : PySem.W.typeIn K (.ref C6) = some (.type "type"))
    (xq_InvalidTimes : PySem.W.excIn K C7 [.type "ValueError", .type "Exception", .type "BaseException", .type "object"] "ValueError.__new__" = true)
    (xk_InvalidTimes : PySem.W.keepIn K (.ref C7) = true)
    (xb_InvalidTimes : PySem.W.subIn K (.ref C7) (.type "BaseException") = some true)
    (xt_InvalidTimes : PySem.W.typeIn K (.ref C7) = some (.type "type"))
    (xq_InvalidIndex : PySem.W.excIn K C8 [.type "ValueError", .type "Exception", .type "BaseException", .type "object"] "ValueError.__new__" = true)
    (xk_InvalidIndex : PySem.W.keepIn K (.ref C8) = true)
    (xb_InvalidIndex : PySem.W.subIn K (.ref C8) (.type "BaseException") = some true)
    (xt_InvalidIndex : PySem.W.typeIn K (.ref C8) = some (.type "type"))
    (xq_InvalidLetter : PySem.W.excIn K C9 [.type "ValueError", .type "Exception", .type "BaseException", .type "object"] "ValueError.__new__" = true)
    (xk_InvalidLetter : PySem.W.keepIn K (.ref C9) = true)
    (xb_InvalidLetter : PySem.W.subIn K (.ref C9) (.type "BaseException") = some true)
    (xt_InvalidLetter : PySem.W.typeIn K (.ref C9) = some (.type "type"))
    (xq_InvalidName : PySem.W.excIn K C10 [.type "ValueError", .type "Exception", .type "BaseException", .type "object"] "ValueError.__new__" = true)
    (xk_InvalidName : PySem.W.keepIn K (.ref C10) = true)
    (xb_InvalidName : PySem.W.subIn K (.ref C10) (.type "BaseException") = some true)
    (xt_InvalidName : PySem.W.typeIn K (.ref C10) = some (.type "type"))
    (xq_InvalidPicture : PySem.W.excIn K C16 [.type "ValueError", .type "Exception", .type "BaseException", .type "object"] "ValueError.__new__" = true)
    (xk_InvalidPicture : PySem.W.keepIn K (.ref C16) = true)
    (xb_InvalidPicture : PySem.W.subIn K (.ref C16) (.type "BaseException") = some true)
    (xt_InvalidPicture : PySem.W.typeIn K (.ref C16) = some (.type "type"))
    (xq_InvalidMotion : PySem.W.excIn K C12 [.type "ValueError", .type "Exception", .type "BaseException", .type "object"] "ValueError.__new__" = true)
    (xk_InvalidMotion : PySem.W.keepIn K (.ref C12) = true)
    (xb_InvalidMotion : PySem.W.subIn K (.ref C12) (.type "BaseException") = some true)
    (xt_InvalidMotion : PySem.W.typeIn K (.ref C12) = some (.type "type"))
    (xq_InvalidPose : PySem.W.excIn K C13 [.type "ValueError", .type "Exception", .type "BaseException", .type "object"] "ValueError.__new__" = true)
    (xk_InvalidPose : PySem.W.keepIn K (.ref C13) = true)
    (xb_InvalidPose : PySem.W.subIn K (.ref C13) (.type "BaseException") = some true)
    (xt_InvalidPose : PySem.W.typeIn K (.ref C13) = some (.type "type"))
    (xq_InvalidPoint : PySem.W.excIn K C14 [.type "ValueError", .type "Exception", .type "BaseException", .type "object"] "ValueError.__new__" = true)
    (xk_InvalidPoint : PySem.W.keepIn K (.ref C14) = true)
    (xb_InvalidPoint : PySem.W.subIn K (.ref C14) (.type "BaseException") = some true)
    (xt_InvalidPoint : PySem.W.typeIn K (.ref C14) = some (.type "type"))
    (xq_InvalidEdge : PySem.W.excIn K C15 [.type "ValueError", .type "Exception", .type "BaseException", .type "object"] "ValueError.__new__" = true)
    (xk_InvalidEdge : PySem.W.keepIn K (.ref C15) = true)
    (xb_InvalidEdge : PySem.W.subIn K (.ref C15) (.type "BaseException") = some true)
    (xt_InvalidEdge : PySem.W.typeIn K (.ref C15) = some (.type "type"))
    (xq_InvalidTurn : PySem.W.excIn K C17 [.type "ValueError", .type "Exception", .type "BaseException", .type "object"] "ValueError.__new__" = true)
    (xk_InvalidTurn : PySem.W.keepIn K (.ref C17) = true)
    (xb_InvalidTurn : PySem.W.subIn K (.ref C17) (.type "BaseException") = some true)
    (xt_InvalidTurn : PySem.W.typeIn K (.ref C17) = some (.type "type"))
    (xq_InvalidFace : PySem.W.excIn K C18 [.type "ValueError", .type "Exception", .type "BaseException", .type "object"] "ValueError.__new__" = true)
    (xk_InvalidFace : PySem.W.keepIn K (.ref C18) = true)
    (xb_InvalidFace : PySem.W.subIn K (.ref C18) (.type "BaseException") = some true)
    (xt_InvalidFace : PySem.W.typeIn K (.ref C18) = some (.type "type"))
    (xq_InvalidFaces : PySem.W.excIn K C19 [.type "ValueError", .type "Exception", .type "BaseException", .type "object"] "ValueError.__new__" = true)
    (xk_InvalidFaces : PySem.W.keepIn K (.ref C19) = true)
    (xb_InvalidFaces : PySem.W.subIn K (.ref C19) (.type "BaseException") = some true)
    (xt_InvalidFaces : PySem.W.typeIn K (.ref C19) = some (.type "type"))
    (xq_NotEven : PySem.W.excIn K C20 [.type "ValueError", .type "Exception", .type "BaseException", .type "object"] "ValueError.__new__" = true)
    (xk_NotEven : PySem.W.keepIn K (.ref C20) = true)
    (xb_NotEven : PySem.W.subIn K (.ref C20) (.type "BaseException") = some true)
    (xt_NotEven : PySem.W.typeIn K (.ref C20) = some (.type "type"))
    (xq_NotClosed : PySem.W.excIn K C21 [.type "ValueError", .type "Exception", .type "BaseException", .type "object"] "ValueError.__new__" = true)
    (xk_NotClosed : PySem.W.keepIn K (.ref C21) = true)
    (xb_NotClosed : PySem.W.subIn K (.ref C21) (.type "BaseException") = some true)
    (xt_NotClosed : PySem.W.typeIn K (.ref C21) = some (.type "type"))
    (xq_Nothing : PySem.W.excIn K C28 [.type "ValueError", .type "Exception", .type "BaseException", .type "object"] "ValueError.__new__" = true)
    (xk_Nothing : PySem.W.keepIn K (.ref C28) = true)
    (xb_Nothing : PySem.W.subIn K (.ref C28) (.type "BaseException") = some true)
    (xt_Nothing : PySem.W.typeIn K (.ref C28) = some (.type "type"))
    (xq_InvalidIntervals : PySem.W.excIn K C22 [.type "ValueError", .type "Exception", .type "BaseException", .type "object"] "ValueError.__new__" = true)
    (xk_InvalidIntervals : PySem.W.keepIn K (.ref C22) = true)
    (xb_InvalidIntervals : PySem.W.subIn K (.ref C22) (.type "BaseException") = some true)
    (xt_InvalidIntervals : PySem.W.typeIn K (.ref C22) = some (.type "type"))
    (xq_InvalidPlace : PySem.W.excIn K C23 [.type "ValueError", .type "Exception", .type "BaseException", .type "object"] "ValueError.__new__" = true)
    (xk_InvalidPlace : PySem.W.keepIn K (.ref C23) = true)
    (xb_InvalidPlace : PySem.W.subIn K (.ref C23) (.type "BaseException") = some true)
    (xt_InvalidPlace : PySem.W.typeIn K (.ref C23) = some (.type "type"))
    (xq_NotDrifting : PySem.W.excIn K C24 [.type "ValueError", .type "Exception", .type "BaseException", .type "object"] "ValueError.__new__" = true)
    (xk_NotDrifting : PySem.W.keepIn K (.ref C24) = true)
    (xb_NotDrifting : PySem.W.subIn K (.ref C24) (.type "BaseException") = some true)
    (xt_NotDrifting : PySem.W.typeIn K (.ref C24) = some (.type "type"))
    (xq_InvalidCount : PySem.W.excIn K C25 [.type "ValueError", .type "Exception", .type "BaseException", .type "object"] "ValueError.__new__" = true)
    (xk_InvalidCount : PySem.W.keepIn K (.ref C25) = true)
    (xb_InvalidCount : PySem.W.subIn K (.ref C25) (.type "BaseException") = some true)
    (xt_InvalidCount : PySem.W.typeIn K (.ref C25) = some (.type "type"))
    (xq_NoSteps : PySem.W.excIn K C26 [.type "ValueError", .type "Exception", .type "BaseException", .type "object"] "ValueError.__new__" = true)
    (xk_NoSteps : PySem.W.keepIn K (.ref C26) = true)
    (xb_NoSteps : PySem.W.subIn K (.ref C26) (.type "BaseException") = some true)
    (xt_NoSteps : PySem.W.typeIn K (.ref C26) = some (.type "type"))
    (xq_InvalidOperation : PySem.W.excIn K C27 [.type "ValueError", .type "Exception", .type "BaseException", .type "object"] "ValueError.__new__" = true)
    (xk_InvalidOperation : PySem.W.keepIn K (.ref C27) = true)
    (xb_InvalidOperation : PySem.W.subIn K (.ref C27) (.type "BaseException") = some true)
    (xt_InvalidOperation : PySem.W.typeIn K (.ref C27) = some (.type "type"))
    (xq_InvalidArt : PySem.W.excIn K C29 [.type "ValueError", .type "Exception", .type "BaseException", .type "object"] "ValueError.__new__" = true)
    (xk_InvalidArt : PySem.W.keepIn K (.ref C29) = true)
    (xb_InvalidArt : PySem.W.subIn K (.ref C29) (.type "BaseException") = some true)
    (xt_InvalidArt : PySem.W.typeIn K (.ref C29) = some (.type "type"))
    (xq_InvalidCommand : PySem.W.excIn K C30 [.type "ValueError", .type "Exception", .type "BaseException", .type "object"] "ValueError.__new__" = true)
    (xk_InvalidCommand : PySem.W.keepIn K (.ref C30) = true)
    (xb_InvalidCommand : PySem.W.subIn K (.ref C30) (.type "BaseException") = some true)
    (xt_InvalidCommand : PySem.W.typeIn K (.ref C30) = some (.type "type"))
    (xq_PlotError : PySem.W.excIn K C1 [.type "ValueError", .type "Exception", .type "BaseException", .type "object"] "ValueError.__new__" = true)
    (xk_PlotError : PySem.W.keepIn K (.ref C1) = true)
    (xb_PlotError : PySem.W.subIn K (.ref C1) (.type "BaseException") = some true)
    (xt_PlotError : PySem.W.typeIn K (.ref C1) = some (.type "type"))
    (xs : PySem.W.specialIn K (.builtin "object.__class__") "__get__" = some (some (.builtin "getset_descriptor.__get__")))
    (xz : PySem.W.takesIn K (.builtin "object.__class__") = some true)
    (xg_InvalidText : PySem.W.findIn K (.ref C2) "__getattribute__" = some (some (.builtin "BaseException.__getattribute__")))
    (xn_InvalidText : PySem.W.findIn K (.ref C2) "__getattr__" = some none)
    (xd_InvalidText : PySem.W.hasDictIn K C2 = true)
    (xa_InvalidText : PySem.W.findIn K (.ref C2) "__class__" = some (some (.builtin "object.__class__")))
    (xo_InvalidText : PySem.W.mroIn K C2 (.type "object") = some true)
    (xv_InvalidText : PySem.W.subIn K (.ref C2) (.type "ValueError") = some true)
    (xg_HasPen : PySem.W.findIn K (.ref C11) "__getattribute__" = some (some (.builtin "BaseException.__getattribute__")))
    (xn_HasPen : PySem.W.findIn K (.ref C11) "__getattr__" = some none)
    (xd_HasPen : PySem.W.hasDictIn K C11 = true)
    (xa_HasPen : PySem.W.findIn K (.ref C11) "__class__" = some (some (.builtin "object.__class__")))
    (xo_HasPen : PySem.W.mroIn K C11 (.type "object") = some true)
    (xv_HasPen : PySem.W.subIn K (.ref C11) (.type "ValueError") = some true)
    (xg_InvalidProgram : PySem.W.findIn K (.ref C6) "__getattribute__" = some (some (.builtin "BaseException.__getattribute__")))
    (xn_InvalidProgram : PySem.W.findIn K (.ref C6) "__getattr__" = some none)
    (xd_InvalidProgram : PySem.W.hasDictIn K C6 = true)
    (xa_InvalidProgram : PySem.W.findIn K (.ref C6) "__class__" = some (some (.builtin "object.__class__")))
    (xo_InvalidProgram : PySem.W.mroIn K C6 (.type "object") = some true)
    (xv_InvalidProgram : PySem.W.subIn K (.ref C6) (.type "ValueError") = some true)
    (xg_TooLarge : PySem.W.findIn K (.ref C5) "__getattribute__" = some (some (.builtin "BaseException.__getattribute__")))
    (xn_TooLarge : PySem.W.findIn K (.ref C5) "__getattr__" = some none)
    (xd_TooLarge : PySem.W.hasDictIn K C5 = true)
    (xa_TooLarge : PySem.W.findIn K (.ref C5) "__class__" = some (some (.builtin "object.__class__")))
    (xo_TooLarge : PySem.W.mroIn K C5 (.type "object") = some true)
    (xv_TooLarge : PySem.W.subIn K (.ref C5) (.type "ValueError") = some true)
    (xg_InvalidTimes : PySem.W.findIn K (.ref C7) "__getattribute__" = some (some (.builtin "BaseException.__getattribute__")))
    (xn_InvalidTimes : PySem.W.findIn K (.ref C7) "__getattr__" = some none)
    (xd_InvalidTimes : PySem.W.hasDictIn K C7 = true)
    (xa_InvalidTimes : PySem.W.findIn K (.ref C7) "__class__" = some (some (.builtin "object.__class__")))
    (xo_InvalidTimes : PySem.W.mroIn K C7 (.type "object") = some true)
    (xv_InvalidTimes : PySem.W.subIn K (.ref C7) (.type "ValueError") = some true)
    (xg_TooDeep : PySem.W.findIn K (.ref C4) "__getattribute__" = some (some (.builtin "BaseException.__getattribute__")))
    (xn_TooDeep : PySem.W.findIn K (.ref C4) "__getattr__" = some none)
    (xd_TooDeep : PySem.W.hasDictIn K C4 = true)
    (xa_TooDeep : PySem.W.findIn K (.ref C4) "__class__" = some (some (.builtin "object.__class__")))
    (xo_TooDeep : PySem.W.mroIn K C4 (.type "object") = some true)
    (xv_TooDeep : PySem.W.subIn K (.ref C4) (.type "ValueError") = some true)
    (xg_InvalidIndex : PySem.W.findIn K (.ref C8) "__getattribute__" = some (some (.builtin "BaseException.__getattribute__")))
    (xn_InvalidIndex : PySem.W.findIn K (.ref C8) "__getattr__" = some none)
    (xd_InvalidIndex : PySem.W.hasDictIn K C8 = true)
    (xa_InvalidIndex : PySem.W.findIn K (.ref C8) "__class__" = some (some (.builtin "object.__class__")))
    (xo_InvalidIndex : PySem.W.mroIn K C8 (.type "object") = some true)
    (xv_InvalidIndex : PySem.W.subIn K (.ref C8) (.type "ValueError") = some true)
    (xg_InvalidLetter : PySem.W.findIn K (.ref C9) "__getattribute__" = some (some (.builtin "BaseException.__getattribute__")))
    (xn_InvalidLetter : PySem.W.findIn K (.ref C9) "__getattr__" = some none)
    (xd_InvalidLetter : PySem.W.hasDictIn K C9 = true)
    (xa_InvalidLetter : PySem.W.findIn K (.ref C9) "__class__" = some (some (.builtin "object.__class__")))
    (xo_InvalidLetter : PySem.W.mroIn K C9 (.type "object") = some true)
    (xv_InvalidLetter : PySem.W.subIn K (.ref C9) (.type "ValueError") = some true)
    (xg_InvalidName : PySem.W.findIn K (.ref C10) "__getattribute__" = some (some (.builtin "BaseException.__getattribute__")))
    (xn_InvalidName : PySem.W.findIn K (.ref C10) "__getattr__" = some none)
    (xd_InvalidName : PySem.W.hasDictIn K C10 = true)
    (xa_InvalidName : PySem.W.findIn K (.ref C10) "__class__" = some (some (.builtin "object.__class__")))
    (xo_InvalidName : PySem.W.mroIn K C10 (.type "object") = some true)
    (xv_InvalidName : PySem.W.subIn K (.ref C10) (.type "ValueError") = some true)
    (xg_InvalidPicture : PySem.W.findIn K (.ref C16) "__getattribute__" = some (some (.builtin "BaseException.__getattribute__")))
    (xn_InvalidPicture : PySem.W.findIn K (.ref C16) "__getattr__" = some none)
    (xd_InvalidPicture : PySem.W.hasDictIn K C16 = true)
    (xa_InvalidPicture : PySem.W.findIn K (.ref C16) "__class__" = some (some (.builtin "object.__class__")))
    (xo_InvalidPicture : PySem.W.mroIn K C16 (.type "object") = some true)
    (xv_InvalidPicture : PySem.W.subIn K (.ref C16) (.type "ValueError") = some true)
    (xg_InvalidMotion : PySem.W.findIn K (.ref C12) "__getattribute__" = some (some (.builtin "BaseException.__getattribute__")))
    (xn_InvalidMotion : PySem.W.findIn K (.ref C12) "__getattr__" = some none)
    (xd_InvalidMotion : PySem.W.hasDictIn K C12 = true)
    (xa_InvalidMotion : PySem.W.findIn K (.ref C12) "__class__" = some (some (.builtin "object.__class__")))
    (xo_InvalidMotion : PySem.W.mroIn K C12 (.type "object") = some true)
    (xv_InvalidMotion : PySem.W.subIn K (.ref C12) (.type "ValueError") = some true)
    (xg_InvalidPose : PySem.W.findIn K (.ref C13) "__getattribute__" = some (some (.builtin "BaseException.__getattribute__")))
    (xn_InvalidPose : PySem.W.findIn K (.ref C13) "__getattr__" = some none)
    (xd_InvalidPose : PySem.W.hasDictIn K C13 = true)
    (xa_InvalidPose : PySem.W.findIn K (.ref C13) "__class__" = some (some (.builtin "object.__class__")))
    (xo_InvalidPose : PySem.W.mroIn K C13 (.type "object") = some true)
    (xv_InvalidPose : PySem.W.subIn K (.ref C13) (.type "ValueError") = some true)
    (xg_InvalidPoint : PySem.W.findIn K (.ref C14) "__getattribute__" = some (some (.builtin "BaseException.__getattribute__")))
    (xn_InvalidPoint : PySem.W.findIn K (.ref C14) "__getattr__" = some none)
    (xd_InvalidPoint : PySem.W.hasDictIn K C14 = true)
    (xa_InvalidPoint : PySem.W.findIn K (.ref C14) "__class__" = some (some (.builtin "object.__class__")))
    (xo_InvalidPoint : PySem.W.mroIn K C14 (.type "object") = some true)
    (xv_InvalidPoint : PySem.W.subIn K (.ref C14) (.type "ValueError") = some true)
    (xg_InvalidEdge : PySem.W.findIn K (.ref C15) "__getattribute__" = some (some (.builtin "BaseException.__getattribute__")))
    (xn_InvalidEdge : PySem.W.findIn K (.ref C15) "__getattr__" = some none)
    (xd_InvalidEdge : PySem.W.hasDictIn K C15 = true)
    (xa_InvalidEdge : PySem.W.findIn K (.ref C15) "__class__" = some (some (.builtin "object.__class__")))
    (xo_InvalidEdge : PySem.W.mroIn K C15 (.type "object") = some true)
    (xv_InvalidEdge : PySem.W.subIn K (.ref C15) (.type "ValueError") = some true)
    (xg_InvalidTurn : PySem.W.findIn K (.ref C17) "__getattribute__" = some (some (.builtin "BaseException.__getattribute__")))
    (xn_InvalidTurn : PySem.W.findIn K (.ref C17) "__getattr__" = some none)
    (xd_InvalidTurn : PySem.W.hasDictIn K C17 = true)
    (xa_InvalidTurn : PySem.W.findIn K (.ref C17) "__class__" = some (some (.builtin "object.__class__")))
    (xo_InvalidTurn : PySem.W.mroIn K C17 (.type "object") = some true)
    (xv_InvalidTurn : PySem.W.subIn K (.ref C17) (.type "ValueError") = some true)
    (xg_InvalidFace : PySem.W.findIn K (.ref C18) "__getattribute__" = some (some (.builtin "BaseException.__getattribute__")))
    (xn_InvalidFace : PySem.W.findIn K (.ref C18) "__getattr__" = some none)
    (xd_InvalidFace : PySem.W.hasDictIn K C18 = true)
    (xa_InvalidFace : PySem.W.findIn K (.ref C18) "__class__" = some (some (.builtin "object.__class__")))
    (xo_InvalidFace : PySem.W.mroIn K C18 (.type "object") = some true)
    (xv_InvalidFace : PySem.W.subIn K (.ref C18) (.type "ValueError") = some true)
    (xg_InvalidFaces : PySem.W.findIn K (.ref C19) "__getattribute__" = some (some (.builtin "BaseException.__getattribute__")))
    (xn_InvalidFaces : PySem.W.findIn K (.ref C19) "__getattr__" = some none)
    (xd_InvalidFaces : PySem.W.hasDictIn K C19 = true)
    (xa_InvalidFaces : PySem.W.findIn K (.ref C19) "__class__" = some (some (.builtin "object.__class__")))
    (xo_InvalidFaces : PySem.W.mroIn K C19 (.type "object") = some true)
    (xv_InvalidFaces : PySem.W.subIn K (.ref C19) (.type "ValueError") = some true)
    (xg_NotEven : PySem.W.findIn K (.ref C20) "__getattribute__" = some (some (.builtin "BaseException.__getattribute__")))
    (xn_NotEven : PySem.W.findIn K (.ref C20) "__getattr__" = some none)
    (xd_NotEven : PySem.W.hasDictIn K C20 = true)
    (xa_NotEven : PySem.W.findIn K (.ref C20) "__class__" = some (some (.builtin "object.__class__")))
    (xo_NotEven : PySem.W.mroIn K C20 (.type "object") = some true)
    (xv_NotEven : PySem.W.subIn K (.ref C20) (.type "ValueError") = some true)
    (xg_NotClosed : PySem.W.findIn K (.ref C21) "__getattribute__" = some (some (.builtin "BaseException.__getattribute__")))
    (xn_NotClosed : PySem.W.findIn K (.ref C21) "__getattr__" = some none)
    (xd_NotClosed : PySem.W.hasDictIn K C21 = true)
    (xa_NotClosed : PySem.W.findIn K (.ref C21) "__class__" = some (some (.builtin "object.__class__")))
    (xo_NotClosed : PySem.W.mroIn K C21 (.type "object") = some true)
    (xv_NotClosed : PySem.W.subIn K (.ref C21) (.type "ValueError") = some true)
    (xg_Nothing : PySem.W.findIn K (.ref C28) "__getattribute__" = some (some (.builtin "BaseException.__getattribute__")))
    (xn_Nothing : PySem.W.findIn K (.ref C28) "__getattr__" = some none)
    (xd_Nothing : PySem.W.hasDictIn K C28 = true)
    (xa_Nothing : PySem.W.findIn K (.ref C28) "__class__" = some (some (.builtin "object.__class__")))
    (xo_Nothing : PySem.W.mroIn K C28 (.type "object") = some true)
    (xv_Nothing : PySem.W.subIn K (.ref C28) (.type "ValueError") = some true)
    (xg_InvalidIntervals : PySem.W.findIn K (.ref C22) "__getattribute__" = some (some (.builtin "BaseException.__getattribute__")))
    (xn_InvalidIntervals : PySem.W.findIn K (.ref C22) "__getattr__" = some none)
    (xd_InvalidIntervals : PySem.W.hasDictIn K C22 = true)
    (xa_InvalidIntervals : PySem.W.findIn K (.ref C22) "__class__" = some (some (.builtin "object.__class__")))
    (xo_InvalidIntervals : PySem.W.mroIn K C22 (.type "object") = some true)
    (xv_InvalidIntervals : PySem.W.subIn K (.ref C22) (.type "ValueError") = some true)
    (xg_InvalidPlace : PySem.W.findIn K (.ref C23) "__getattribute__" = some (some (.builtin "BaseException.__getattribute__")))
    (xn_InvalidPlace : PySem.W.findIn K (.ref C23) "__getattr__" = some none)
    (xd_InvalidPlace : PySem.W.hasDictIn K C23 = true)
    (xa_InvalidPlace : PySem.W.findIn K (.ref C23) "__class__" = some (some (.builtin "object.__class__")))
    (xo_InvalidPlace : PySem.W.mroIn K C23 (.type "object") = some true)
    (xv_InvalidPlace : PySem.W.subIn K (.ref C23) (.type "ValueError") = some true)
    (xg_NotDrifting : PySem.W.findIn K (.ref C24) "__getattribute__" = some (some (.builtin "BaseException.__getattribute__")))
    (xn_NotDrifting : PySem.W.findIn K (.ref C24) "__getattr__" = some none)
    (xd_NotDrifting : PySem.W.hasDictIn K C24 = true)
    (xa_NotDrifting : PySem.W.findIn K (.ref C24) "__class__" = some (some (.builtin "object.__class__")))
    (xo_NotDrifting : PySem.W.mroIn K C24 (.type "object") = some true)
    (xv_NotDrifting : PySem.W.subIn K (.ref C24) (.type "ValueError") = some true)
    (xg_InvalidCount : PySem.W.findIn K (.ref C25) "__getattribute__" = some (some (.builtin "BaseException.__getattribute__")))
    (xn_InvalidCount : PySem.W.findIn K (.ref C25) "__getattr__" = some none)
    (xd_InvalidCount : PySem.W.hasDictIn K C25 = true)
    (xa_InvalidCount : PySem.W.findIn K (.ref C25) "__class__" = some (some (.builtin "object.__class__")))
    (xo_InvalidCount : PySem.W.mroIn K C25 (.type "object") = some true)
    (xv_InvalidCount : PySem.W.subIn K (.ref C25) (.type "ValueError") = some true)
    (xg_NoSteps : PySem.W.findIn K (.ref C26) "__getattribute__" = some (some (.builtin "BaseException.__getattribute__")))
    (xn_NoSteps : PySem.W.findIn K (.ref C26) "__getattr__" = some none)
    (xd_NoSteps : PySem.W.hasDictIn K C26 = true)
    (xa_NoSteps : PySem.W.findIn K (.ref C26) "__class__" = some (some (.builtin "object.__class__")))
    (xo_NoSteps : PySem.W.mroIn K C26 (.type "object") = some true)
    (xv_NoSteps : PySem.W.subIn K (.ref C26) (.type "ValueError") = some true)
    (xg_InvalidOperation : PySem.W.findIn K (.ref C27) "__getattribute__" = some (some (.builtin "BaseException.__getattribute__")))
    (xn_InvalidOperation : PySem.W.findIn K (.ref C27) "__getattr__" = some none)
    (xd_InvalidOperation : PySem.W.hasDictIn K C27 = true)
    (xa_InvalidOperation : PySem.W.findIn K (.ref C27) "__class__" = some (some (.builtin "object.__class__")))
    (xo_InvalidOperation : PySem.W.mroIn K C27 (.type "object") = some true)
    (xv_InvalidOperation : PySem.W.subIn K (.ref C27) (.type "ValueError") = some true)
    (xg_InvalidArt : PySem.W.findIn K (.ref C29) "__getattribute__" = some (some (.builtin "BaseException.__getattribute__")))
    (xn_InvalidArt : PySem.W.findIn K (.ref C29) "__getattr__" = some none)
    (xd_InvalidArt : PySem.W.hasDictIn K C29 = true)
    (xa_InvalidArt : PySem.W.findIn K (.ref C29) "__class__" = some (some (.builtin "object.__class__")))
    (xo_InvalidArt : PySem.W.mroIn K C29 (.type "object") = some true)
    (xv_InvalidArt : PySem.W.subIn K (.ref C29) (.type "ValueError") = some true)
    (xg_InvalidCommand : PySem.W.findIn K (.ref C30) "__getattribute__" = some (some (.builtin "BaseException.__getattribute__")))
    (xn_InvalidCommand : PySem.W.findIn K (.ref C30) "__getattr__" = some none)
    (xd_InvalidCommand : PySem.W.hasDictIn K C30 = true)
    (xa_InvalidCommand : PySem.W.findIn K (.ref C30) "__class__" = some (some (.builtin "object.__class__")))
    (xo_InvalidCommand : PySem.W.mroIn K C30 (.type "object") = some true)
    (xv_InvalidCommand : PySem.W.subIn K (.ref C30) (.type "ValueError") = some true)
    (xg_InvalidSource : PySem.W.findIn K (.ref C3) "__getattribute__" = some (some (.builtin "BaseException.__getattribute__")))
    (xn_InvalidSource : PySem.W.findIn K (.ref C3) "__getattr__" = some none)
    (xd_InvalidSource : PySem.W.hasDictIn K C3 = true)
    (xa_InvalidSource : PySem.W.findIn K (.ref C3) "__class__" = some (some (.builtin "object.__class__")))
    (xo_InvalidSource : PySem.W.mroIn K C3 (.type "object") = some true)
    (xv_InvalidSource : PySem.W.subIn K (.ref C3) (.type "ValueError") = some true)
    (xg_PlotError : PySem.W.findIn K (.ref C1) "__getattribute__" = some (some (.builtin "BaseException.__getattribute__")))
    (xn_PlotError : PySem.W.findIn K (.ref C1) "__getattr__" = some none)
    (xd_PlotError : PySem.W.hasDictIn K C1 = true)
    (xa_PlotError : PySem.W.findIn K (.ref C1) "__class__" = some (some (.builtin "object.__class__")))
    (xo_PlotError : PySem.W.mroIn K C1 (.type "object") = some true)
    (xv_PlotError : PySem.W.subIn K (.ref C1) (.type "ValueError") = some true)
    (yc_InvalidText : PySem.W.isClsIn K C2 = true)
    (yt_InvalidText : PySem.W.typeIn K (.ref C2) = some (.type "type"))
    (ys_InvalidText : PySem.W.subIn K (.ref C2) (.ref C2) = some true)
    (yc_HasPen : PySem.W.isClsIn K C11 = true)
    (yt_HasPen : PySem.W.typeIn K (.ref C11) = some (.type "type"))
    (ys_HasPen : PySem.W.subIn K (.ref C11) (.ref C11) = some true)
    (yc_PlotError : PySem.W.isClsIn K C1 = true)
    (yt_PlotError : PySem.W.typeIn K (.ref C1) = some (.type "type"))
    (ys_PlotError : PySem.W.subIn K (.ref C1) (.ref C1) = some true)
    (yc_InvalidArt : PySem.W.isClsIn K C29 = true)
    (yt_InvalidArt : PySem.W.typeIn K (.ref C29) = some (.type "type"))
    (ys_InvalidArt : PySem.W.subIn K (.ref C29) (.ref C29) = some true)
    (yc_InvalidCommand : PySem.W.isClsIn K C30 = true)
    (yt_InvalidCommand : PySem.W.typeIn K (.ref C30) = some (.type "type"))
    (ys_InvalidCommand : PySem.W.subIn K (.ref C30) (.ref C30) = some true)
    (yc_InvalidCount : PySem.W.isClsIn K C25 = true)
    (yt_InvalidCount : PySem.W.typeIn K (.ref C25) = some (.type "type"))
    (ys_InvalidCount : PySem.W.subIn K (.ref C25) (.ref C25) = some true)
    (yc_InvalidEdge : PySem.W.isClsIn K C15 = true)
    (yt_InvalidEdge : PySem.W.typeIn K (.ref C15) = some (.type "type"))
    (ys_InvalidEdge : PySem.W.subIn K (.ref C15) (.ref C15) = some true)
    (yc_InvalidFace : PySem.W.isClsIn K C18 = true)
    (yt_InvalidFace : PySem.W.typeIn K (.ref C18) = some (.type "type"))
    (ys_InvalidFace : PySem.W.subIn K (.ref C18) (.ref C18) = some true)
    (yc_InvalidFaces : PySem.W.isClsIn K C19 = true)
    (yt_InvalidFaces : PySem.W.typeIn K (.ref C19) = some (.type "type"))
    (ys_InvalidFaces : PySem.W.subIn K (.ref C19) (.ref C19) = some true)
    (yc_InvalidIntervals : PySem.W.isClsIn K C22 = true)
    (yt_InvalidIntervals : PySem.W.typeIn K (.ref C22) = some (.type "type"))
    (ys_InvalidIntervals : PySem.W.subIn K (.ref C22) (.ref C22) = some true)
    (yc_InvalidMotion : PySem.W.isClsIn K C12 = true)
    (yt_InvalidMotion : PySem.W.typeIn K (.ref C12) = some (.type "type"))
    (ys_InvalidMotion : PySem.W.subIn K (.ref C12) (.ref C12) = some true)
    (yc_InvalidOperation : PySem.W.isClsIn K C27 = true)
    (yt_InvalidOperation : PySem.W.typeIn K (.ref C27) = some (.type "type"))
    (ys_InvalidOperation : PySem.W.subIn K (.ref C27) (.ref C27) = some true)
    (yc_InvalidPicture : PySem.W.isClsIn K C16 = true)
    (yt_InvalidPicture : PySem.W.typeIn K (.ref C16) = some (.type "type"))
    (ys_InvalidPicture : PySem.W.subIn K (.ref C16) (.ref C16) = some true)
    (yc_InvalidPlace : PySem.W.isClsIn K C23 = true)
    (yt_InvalidPlace : PySem.W.typeIn K (.ref C23) = some (.type "type"))
    (ys_InvalidPlace : PySem.W.subIn K (.ref C23) (.ref C23) = some true)
    (yc_InvalidPoint : PySem.W.isClsIn K C14 = true)
    (yt_InvalidPoint : PySem.W.typeIn K (.ref C14) = some (.type "type"))
    (ys_InvalidPoint : PySem.W.subIn K (.ref C14) (.ref C14) = some true)
    (yc_InvalidPose : PySem.W.isClsIn K C13 = true)
    (yt_InvalidPose : PySem.W.typeIn K (.ref C13) = some (.type "type"))
    (ys_InvalidPose : PySem.W.subIn K (.ref C13) (.ref C13) = some true)
    (yc_InvalidTurn : PySem.W.isClsIn K C17 = true)
    (yt_InvalidTurn : PySem.W.typeIn K (.ref C17) = some (.type "type"))
    (ys_InvalidTurn : PySem.W.subIn K (.ref C17) (.ref C17) = some true)
    (yc_NoSteps : PySem.W.isClsIn K C26 = true)
    (yt_NoSteps : PySem.W.typeIn K (.ref C26) = some (.type "type"))
    (ys_NoSteps : PySem.W.subIn K (.ref C26) (.ref C26) = some true)
    (yc_NotClosed : PySem.W.isClsIn K C21 = true)
    (yt_NotClosed : PySem.W.typeIn K (.ref C21) = some (.type "type"))
    (ys_NotClosed : PySem.W.subIn K (.ref C21) (.ref C21) = some true)
    (yc_NotDrifting : PySem.W.isClsIn K C24 = true)
    (yt_NotDrifting : PySem.W.typeIn K (.ref C24) = some (.type "type"))
    (ys_NotDrifting : PySem.W.subIn K (.ref C24) (.ref C24) = some true)
    (yc_NotEven : PySem.W.isClsIn K C20 = true)
    (yt_NotEven : PySem.W.typeIn K (.ref C20) = some (.type "type"))
    (ys_NotEven : PySem.W.subIn K (.ref C20) (.ref C20) = some true)
    (yc_Nothing : PySem.W.isClsIn K C28 = true)
    (yt_Nothing : PySem.W.typeIn K (.ref C28) = some (.type "type"))
    (ys_Nothing : PySem.W.subIn K (.ref C28) (.ref C28) = some true)
    (yc_InvalidSource : PySem.W.isClsIn K C3 = true)
    (yt_InvalidSource : PySem.W.typeIn K (.ref C3) = some (.type "type"))
    (ys_InvalidSource : PySem.W.subIn K (.ref C3) (.ref C3) = some true)
    (yc_InvalidProgram : PySem.W.isClsIn K C6 = true)
    (yt_InvalidProgram : PySem.W.typeIn K (.ref C6) = some (.type "type"))
    (ys_InvalidProgram : PySem.W.subIn K (.ref C6) (.ref C6) = some true)
    (yc_InvalidTimes : PySem.W.isClsIn K C7 = true)
    (yt_InvalidTimes : PySem.W.typeIn K (.ref C7) = some (.type "type"))
    (ys_InvalidTimes : PySem.W.subIn K (.ref C7) (.ref C7) = some true)
    (yc_InvalidIndex : PySem.W.isClsIn K C8 = true)
    (yt_InvalidIndex : PySem.W.typeIn K (.ref C8) = some (.type "type"))
    (ys_InvalidIndex : PySem.W.subIn K (.ref C8) (.ref C8) = some true)
    (yc_InvalidLetter : PySem.W.isClsIn K C9 = true)
    (yt_InvalidLetter : PySem.W.typeIn K (.ref C9) = some (.type "type"))
    (ys_InvalidLetter : PySem.W.subIn K (.ref C9) (.ref C9) = some true)
    (yc_InvalidName : PySem.W.isClsIn K C10 = true)
    (yt_InvalidName : PySem.W.typeIn K (.ref C10) = some (.type "type"))
    (ys_InvalidName : PySem.W.subIn K (.ref C10) (.ref C10) = some true)
    (yc_TooDeep : PySem.W.isClsIn K C4 = true)
    (yt_TooDeep : PySem.W.typeIn K (.ref C4) = some (.type "type"))
    (ys_TooDeep : PySem.W.subIn K (.ref C4) (.ref C4) = some true)
    (yc_TooLarge : PySem.W.isClsIn K C5 = true)
    (yt_TooLarge : PySem.W.typeIn K (.ref C5) = some (.type "type"))
    (ys_TooLarge : PySem.W.subIn K (.ref C5) (.ref C5) = some true)
    (yp_HasPen_InvalidText : PySem.W.subIn K (.ref C11) (.ref C2) = some false)
    (yp_HasPen_PlotError : PySem.W.subIn K (.ref C11) (.ref C1) = some true)
    (yp_HasPen_InvalidArt : PySem.W.subIn K (.ref C11) (.ref C29) = some false)
    (yp_HasPen_InvalidCommand : PySem.W.subIn K (.ref C11) (.ref C30) = some false)
    (yp_HasPen_InvalidCount : PySem.W.subIn K (.ref C11) (.ref C25) = some false)
    (yp_HasPen_InvalidEdge : PySem.W.subIn K (.ref C11) (.ref C15) = some false)
    (yp_HasPen_InvalidFace : PySem.W.subIn K (.ref C11) (.ref C18) = some false)
    (yp_HasPen_InvalidFaces : PySem.W.subIn K (.ref C11) (.ref C19) = some false)
    (yp_HasPen_InvalidIntervals : PySem.W.subIn K (.ref C11) (.ref C22) = some false)
    (yp_HasPen_InvalidMotion : PySem.W.subIn K (.ref C11) (.ref C12) = some false)
    (yp_HasPen_InvalidOperation : PySem.W.subIn K (.ref C11) (.ref C27) = some false)
    (yp_HasPen_InvalidPicture : PySem.W.subIn K (.ref C11) (.ref C16) = some false)
    (yp_HasPen_InvalidPlace : PySem.W.subIn K (.ref C11) (.ref C23) = some false)
    (yp_HasPen_InvalidPoint : PySem.W.subIn K (.ref C11) (.ref C14) = some false)
    (yp_HasPen_InvalidPose : PySem.W.subIn K (.ref C11) (.ref C13) = some false)
    (yp_HasPen_InvalidTurn : PySem.W.subIn K (.ref C11) (.ref C17) = some false)
    (yp_HasPen_NoSteps : PySem.W.subIn K (.ref C11) (.ref C26) = some false)
    (yp_HasPen_NotClosed : PySem.W.subIn K (.ref C11) (.ref C21) = some false)
    (yp_HasPen_NotDrifting : PySem.W.subIn K (.ref C11) (.ref C24) = some false)
    (yp_HasPen_NotEven : PySem.W.subIn K (.ref C11) (.ref C20) = some false)
    (yp_HasPen_Nothing : PySem.W.subIn K (.ref C11) (.ref C28) = some false)
    (yp_HasPen_InvalidSource : PySem.W.subIn K (.ref C11) (.ref C3) = some false)
    (yp_HasPen_InvalidProgram : PySem.W.subIn K (.ref C11) (.ref C6) = some false)
    (yp_HasPen_InvalidTimes : PySem.W.subIn K (.ref C11) (.ref C7) = some false)
    (yp_HasPen_InvalidIndex : PySem.W.subIn K (.ref C11) (.ref C8) = some false)
    (yp_HasPen_InvalidLetter : PySem.W.subIn K (.ref C11) (.ref C9) = some false)
    (yp_HasPen_InvalidName : PySem.W.subIn K (.ref C11) (.ref C10) = some false)
    (yp_HasPen_TooDeep : PySem.W.subIn K (.ref C11) (.ref C4) = some false)
    (yp_HasPen_TooLarge : PySem.W.subIn K (.ref C11) (.ref C5) = some false)
    (yp_InvalidProgram_InvalidText : PySem.W.subIn K (.ref C6) (.ref C2) = some false)
    (yp_InvalidProgram_HasPen : PySem.W.subIn K (.ref C6) (.ref C11) = some false)
    (yp_InvalidProgram_PlotError : PySem.W.subIn K (.ref C6) (.ref C1) = some true)
    (yp_InvalidProgram_InvalidArt : PySem.W.subIn K (.ref C6) (.ref C29) = some false)
    (yp_InvalidProgram_InvalidCommand : PySem.W.subIn K (.ref C6) (.ref C30) = some false)
    (yp_InvalidProgram_InvalidCount : PySem.W.subIn K (.ref C6) (.ref C25) = some false)
    (yp_InvalidProgram_InvalidEdge : PySem.W.subIn K (.ref C6) (.ref C15) = some false)
    (yp_InvalidProgram_InvalidFace : PySem.W.subIn K (.ref C6) (.ref C18) = some false)
    (yp_InvalidProgram_InvalidFaces : PySem.W.subIn K (.ref C6) (.ref C19) = some false)
    (yp_InvalidProgram_InvalidIntervals : PySem.W.subIn K (.ref C6) (.ref C22) = some false)
    (yp_InvalidProgram_InvalidMotion : PySem.W.subIn K (.ref C6) (.ref C12) = some false)
    (yp_InvalidProgram_InvalidOperation : PySem.W.subIn K (.ref C6) (.ref C27) = some false)
    (yp_InvalidProgram_InvalidPicture : PySem.W.subIn K (.ref C6) (.ref C16) = some false)
    (yp_InvalidProgram_InvalidPlace : PySem.W.subIn K (.ref C6) (.ref C23) = some false)
    (yp_InvalidProgram_InvalidPoint : PySem.W.subIn K (.ref C6) (.ref C14) = some false)
    (yp_InvalidProgram_InvalidPose : PySem.W.subIn K (.ref C6) (.ref C13) = some false)
    (yp_InvalidProgram_InvalidTurn : PySem.W.subIn K (.ref C6) (.ref C17) = some false)
    (yp_InvalidProgram_NoSteps : PySem.W.subIn K (.ref C6) (.ref C26) = some false)
    (yp_InvalidProgram_NotClosed : PySem.W.subIn K (.ref C6) (.ref C21) = some false)
    (yp_InvalidProgram_NotDrifting : PySem.W.subIn K (.ref C6) (.ref C24) = some false)
    (yp_InvalidProgram_NotEven : PySem.W.subIn K (.ref C6) (.ref C20) = some false)
    (yp_InvalidProgram_Nothing : PySem.W.subIn K (.ref C6) (.ref C28) = some false)
    (yp_InvalidProgram_InvalidSource : PySem.W.subIn K (.ref C6) (.ref C3) = some false)
    (yp_InvalidProgram_InvalidTimes : PySem.W.subIn K (.ref C6) (.ref C7) = some false)
    (yp_InvalidProgram_InvalidIndex : PySem.W.subIn K (.ref C6) (.ref C8) = some false)
    (yp_InvalidProgram_InvalidLetter : PySem.W.subIn K (.ref C6) (.ref C9) = some false)
    (yp_InvalidProgram_InvalidName : PySem.W.subIn K (.ref C6) (.ref C10) = some false)
    (yp_InvalidProgram_TooDeep : PySem.W.subIn K (.ref C6) (.ref C4) = some false)
    (yp_InvalidProgram_TooLarge : PySem.W.subIn K (.ref C6) (.ref C5) = some false)
    (yp_TooLarge_InvalidText : PySem.W.subIn K (.ref C5) (.ref C2) = some false)
    (yp_TooLarge_HasPen : PySem.W.subIn K (.ref C5) (.ref C11) = some false)
    (yp_TooLarge_PlotError : PySem.W.subIn K (.ref C5) (.ref C1) = some true)
    (yp_TooLarge_InvalidArt : PySem.W.subIn K (.ref C5) (.ref C29) = some false)
    (yp_TooLarge_InvalidCommand : PySem.W.subIn K (.ref C5) (.ref C30) = some false)
    (yp_TooLarge_InvalidCount : PySem.W.subIn K (.ref C5) (.ref C25) = some false)
    (yp_TooLarge_InvalidEdge : PySem.W.subIn K (.ref C5) (.ref C15) = some false)
    (yp_TooLarge_InvalidFace : PySem.W.subIn K (.ref C5) (.ref C18) = some false)
    (yp_TooLarge_InvalidFaces : PySem.W.subIn K (.ref C5) (.ref C19) = some false)
    (yp_TooLarge_InvalidIntervals : PySem.W.subIn K (.ref C5) (.ref C22) = some false)
    (yp_TooLarge_InvalidMotion : PySem.W.subIn K (.ref C5) (.ref C12) = some false)
    (yp_TooLarge_InvalidOperation : PySem.W.subIn K (.ref C5) (.ref C27) = some false)
    (yp_TooLarge_InvalidPicture : PySem.W.subIn K (.ref C5) (.ref C16) = some false)
    (yp_TooLarge_InvalidPlace : PySem.W.subIn K (.ref C5) (.ref C23) = some false)
    (yp_TooLarge_InvalidPoint : PySem.W.subIn K (.ref C5) (.ref C14) = some false)
    (yp_TooLarge_InvalidPose : PySem.W.subIn K (.ref C5) (.ref C13) = some false)
    (yp_TooLarge_InvalidTurn : PySem.W.subIn K (.ref C5) (.ref C17) = some false)
    (yp_TooLarge_NoSteps : PySem.W.subIn K (.ref C5) (.ref C26) = some false)
    (yp_TooLarge_NotClosed : PySem.W.subIn K (.ref C5) (.ref C21) = some false)
    (yp_TooLarge_NotDrifting : PySem.W.subIn K (.ref C5) (.ref C24) = some false)
    (yp_TooLarge_NotEven : PySem.W.subIn K (.ref C5) (.ref C20) = some false)
    (yp_TooLarge_Nothing : PySem.W.subIn K (.ref C5) (.ref C28) = some false)
    (yp_TooLarge_InvalidSource : PySem.W.subIn K (.ref C5) (.ref C3) = some false)
    (yp_TooLarge_InvalidProgram : PySem.W.subIn K (.ref C5) (.ref C6) = some false)
    (yp_TooLarge_InvalidTimes : PySem.W.subIn K (.ref C5) (.ref C7) = some false)
    (yp_TooLarge_InvalidIndex : PySem.W.subIn K (.ref C5) (.ref C8) = some false)
    (yp_TooLarge_InvalidLetter : PySem.W.subIn K (.ref C5) (.ref C9) = some false)
    (yp_TooLarge_InvalidName : PySem.W.subIn K (.ref C5) (.ref C10) = some false)
    (yp_TooLarge_TooDeep : PySem.W.subIn K (.ref C5) (.ref C4) = some false)
    (yp_InvalidTimes_InvalidText : PySem.W.subIn K (.ref C7) (.ref C2) = some false)
    (yp_InvalidTimes_HasPen : PySem.W.subIn K (.ref C7) (.ref C11) = some false)
    (yp_InvalidTimes_PlotError : PySem.W.subIn K (.ref C7) (.ref C1) = some true)
    (yp_InvalidTimes_InvalidArt : PySem.W.subIn K (.ref C7) (.ref C29) = some false)
    (yp_InvalidTimes_InvalidCommand : PySem.W.subIn K (.ref C7) (.ref C30) = some false)
    (yp_InvalidTimes_InvalidCount : PySem.W.subIn K (.ref C7) (.ref C25) = some false)
    (yp_InvalidTimes_InvalidEdge : PySem.W.subIn K (.ref C7) (.ref C15) = some false)
    (yp_InvalidTimes_InvalidFace : PySem.W.subIn K (.ref C7) (.ref C18) = some false)
    (yp_InvalidTimes_InvalidFaces : PySem.W.subIn K (.ref C7) (.ref C19) = some false)
    (yp_InvalidTimes_InvalidIntervals : PySem.W.subIn K (.ref C7) (.ref C22) = some false)
    (yp_InvalidTimes_InvalidMotion : PySem.W.subIn K (.ref C7) (.ref C12) = some false)
    (yp_InvalidTimes_InvalidOperation : PySem.W.subIn K (.ref C7) (.ref C27) = some false)
    (yp_InvalidTimes_InvalidPicture : PySem.W.subIn K (.ref C7) (.ref C16) = some false)
    (yp_InvalidTimes_InvalidPlace : PySem.W.subIn K (.ref C7) (.ref C23) = some false)
    (yp_InvalidTimes_InvalidPoint : PySem.W.subIn K (.ref C7) (.ref C14) = some false)
    (yp_InvalidTimes_InvalidPose : PySem.W.subIn K (.ref C7) (.ref C13) = some false)
    (yp_InvalidTimes_InvalidTurn : PySem.W.subIn K (.ref C7) (.ref C17) = some false)
    (yp_InvalidTimes_NoSteps : PySem.W.subIn K (.ref C7) (.ref C26) = some false)
    (yp_InvalidTimes_NotClosed : PySem.W.subIn K (.ref C7) (.ref C21) = some false)
    (yp_InvalidTimes_NotDrifting : PySem.W.subIn K (.ref C7) (.ref C24) = some false)
    (yp_InvalidTimes_NotEven : PySem.W.subIn K (.ref C7) (.ref C20) = some false)
    (yp_InvalidTimes_Nothing : PySem.W.subIn K (.ref C7) (.ref C28) = some false)
    (yp_InvalidTimes_InvalidSource : PySem.W.subIn K (.ref C7) (.ref C3) = some false)
    (yp_InvalidTimes_InvalidProgram : PySem.W.subIn K (.ref C7) (.ref C6) = some false)
    (yp_InvalidTimes_InvalidIndex : PySem.W.subIn K (.ref C7) (.ref C8) = some false)
    (yp_InvalidTimes_InvalidLetter : PySem.W.subIn K (.ref C7) (.ref C9) = some false)
    (yp_InvalidTimes_InvalidName : PySem.W.subIn K (.ref C7) (.ref C10) = some false)
    (yp_InvalidTimes_TooDeep : PySem.W.subIn K (.ref C7) (.ref C4) = some false)
    (yp_InvalidTimes_TooLarge : PySem.W.subIn K (.ref C7) (.ref C5) = some false)
    (yp_TooDeep_InvalidText : PySem.W.subIn K (.ref C4) (.ref C2) = some false)
    (yp_TooDeep_HasPen : PySem.W.subIn K (.ref C4) (.ref C11) = some false)
    (yp_TooDeep_PlotError : PySem.W.subIn K (.ref C4) (.ref C1) = some true)
    (yp_TooDeep_InvalidArt : PySem.W.subIn K (.ref C4) (.ref C29) = some false)
    (yp_TooDeep_InvalidCommand : PySem.W.subIn K (.ref C4) (.ref C30) = some false)
    (yp_TooDeep_InvalidCount : PySem.W.subIn K (.ref C4) (.ref C25) = some false)
    (yp_TooDeep_InvalidEdge : PySem.W.subIn K (.ref C4) (.ref C15) = some false)
    (yp_TooDeep_InvalidFace : PySem.W.subIn K (.ref C4) (.ref C18) = some false)
    (yp_TooDeep_InvalidFaces : PySem.W.subIn K (.ref C4) (.ref C19) = some false)
    (yp_TooDeep_InvalidIntervals : PySem.W.subIn K (.ref C4) (.ref C22) = some false)
    (yp_TooDeep_InvalidMotion : PySem.W.subIn K (.ref C4) (.ref C12) = some false)
    (yp_TooDeep_InvalidOperation : PySem.W.subIn K (.ref C4) (.ref C27) = some false)
    (yp_TooDeep_InvalidPicture : PySem.W.subIn K (.ref C4) (.ref C16) = some false)
    (yp_TooDeep_InvalidPlace : PySem.W.subIn K (.ref C4) (.ref C23) = some false)
    (yp_TooDeep_InvalidPoint : PySem.W.subIn K (.ref C4) (.ref C14) = some false)
    (yp_TooDeep_InvalidPose : PySem.W.subIn K (.ref C4) (.ref C13) = some false)
    (yp_TooDeep_InvalidTurn : PySem.W.subIn K (.ref C4) (.ref C17) = some false)
    (yp_TooDeep_NoSteps : PySem.W.subIn K (.ref C4) (.ref C26) = some false)
    (yp_TooDeep_NotClosed : PySem.W.subIn K (.ref C4) (.ref C21) = some false)
    (yp_TooDeep_NotDrifting : PySem.W.subIn K (.ref C4) (.ref C24) = some false)
    (yp_TooDeep_NotEven : PySem.W.subIn K (.ref C4) (.ref C20) = some false)
    (yp_TooDeep_Nothing : PySem.W.subIn K (.ref C4) (.ref C28) = some false)
    (yp_TooDeep_InvalidSource : PySem.W.subIn K (.ref C4) (.ref C3) = some false)
    (yp_TooDeep_InvalidProgram : PySem.W.subIn K (.ref C4) (.ref C6) = some false)
    (yp_TooDeep_InvalidTimes : PySem.W.subIn K (.ref C4) (.ref C7) = some false)
    (yp_TooDeep_InvalidIndex : PySem.W.subIn K (.ref C4) (.ref C8) = some false)
    (yp_TooDeep_InvalidLetter : PySem.W.subIn K (.ref C4) (.ref C9) = some false)
    (yp_TooDeep_InvalidName : PySem.W.subIn K (.ref C4) (.ref C10) = some false)
    (yp_TooDeep_TooLarge : PySem.W.subIn K (.ref C4) (.ref C5) = some false)
    (yp_PlotError_InvalidText : PySem.W.subIn K (.ref C1) (.ref C2) = some false)
    (yp_PlotError_HasPen : PySem.W.subIn K (.ref C1) (.ref C11) = some false)
    (yp_PlotError_InvalidArt : PySem.W.subIn K (.ref C1) (.ref C29) = some false)
    (yp_PlotError_InvalidCommand : PySem.W.subIn K (.ref C1) (.ref C30) = some false)
    (yp_PlotError_InvalidCount : PySem.W.subIn K (.ref C1) (.ref C25) = some false)
    (yp_PlotError_InvalidEdge : PySem.W.subIn K (.ref C1) (.ref C15) = some false)
    (yp_PlotError_InvalidFace : PySem.W.subIn K (.ref C1) (.ref C18) = some false)
    (yp_PlotError_InvalidFaces : PySem.W.subIn K (.ref C1) (.ref C19) = some false)
    (yp_PlotError_InvalidIntervals : PySem.W.subIn K (.ref C1) (.ref C22) = some false)
    (yp_PlotError_InvalidMotion : PySem.W.subIn K (.ref C1) (.ref C12) = some false)
    (yp_PlotError_InvalidOperation : PySem.W.subIn K (.ref C1) (.ref C27) = some false)
    (yp_PlotError_InvalidPicture : PySem.W.subIn K (.ref C1) (.ref C16) = some false)
    (yp_PlotError_InvalidPlace : PySem.W.subIn K (.ref C1) (.ref C23) = some false)
    (yp_PlotError_InvalidPoint : PySem.W.subIn K (.ref C1) (.ref C14) = some false)
    (yp_PlotError_InvalidPose : PySem.W.subIn K (.ref C1) (.ref C13) = some false)
    (yp_PlotError_InvalidTurn : PySem.W.subIn K (.ref C1) (.ref C17) = some false)
    (yp_PlotError_NoSteps : PySem.W.subIn K (.ref C1) (.ref C26) = some false)
    (yp_PlotError_NotClosed : PySem.W.subIn K (.ref C1) (.ref C21) = some false)
    (yp_PlotError_NotDrifting : PySem.W.subIn K (.ref C1) (.ref C24) = some false)
    (yp_PlotError_NotEven : PySem.W.subIn K (.ref C1) (.ref C20) = some false)
    (yp_PlotError_Nothing : PySem.W.subIn K (.ref C1) (.ref C28) = some false)
    (yp_PlotError_InvalidSource : PySem.W.subIn K (.ref C1) (.ref C3) = some false)
    (yp_PlotError_InvalidProgram : PySem.W.subIn K (.ref C1) (.ref C6) = some false)
    (yp_PlotError_InvalidTimes : PySem.W.subIn K (.ref C1) (.ref C7) = some false)
    (yp_PlotError_InvalidIndex : PySem.W.subIn K (.ref C1) (.ref C8) = some false)
    (yp_PlotError_InvalidLetter : PySem.W.subIn K (.ref C1) (.ref C9) = some false)
    (yp_PlotError_InvalidName : PySem.W.subIn K (.ref C1) (.ref C10) = some false)
    (yp_PlotError_TooDeep : PySem.W.subIn K (.ref C1) (.ref C4) = some false)
    (yp_PlotError_TooLarge : PySem.W.subIn K (.ref C1) (.ref C5) = some false)
    (yp_InvalidText_PlotError : PySem.W.subIn K (.ref C2) (.ref C1) = some true)
    (yp_InvalidIndex_PlotError : PySem.W.subIn K (.ref C8) (.ref C1) = some true)
    (yp_InvalidLetter_PlotError : PySem.W.subIn K (.ref C9) (.ref C1) = some true)
    (yp_InvalidName_PlotError : PySem.W.subIn K (.ref C10) (.ref C1) = some true)
    (yp_InvalidPicture_PlotError : PySem.W.subIn K (.ref C16) (.ref C1) = some true)
    (yp_InvalidMotion_PlotError : PySem.W.subIn K (.ref C12) (.ref C1) = some true)
    (yp_InvalidPose_PlotError : PySem.W.subIn K (.ref C13) (.ref C1) = some true)
    (yp_InvalidPoint_PlotError : PySem.W.subIn K (.ref C14) (.ref C1) = some true)
    (yp_InvalidEdge_PlotError : PySem.W.subIn K (.ref C15) (.ref C1) = some true)
    (yp_InvalidTurn_PlotError : PySem.W.subIn K (.ref C17) (.ref C1) = some true)
    (yp_InvalidFace_PlotError : PySem.W.subIn K (.ref C18) (.ref C1) = some true)
    (yp_InvalidFaces_PlotError : PySem.W.subIn K (.ref C19) (.ref C1) = some true)
    (yp_NotEven_PlotError : PySem.W.subIn K (.ref C20) (.ref C1) = some true)
    (yp_NotClosed_PlotError : PySem.W.subIn K (.ref C21) (.ref C1) = some true)
    (yp_Nothing_PlotError : PySem.W.subIn K (.ref C28) (.ref C1) = some true)
    (yp_InvalidIntervals_PlotError : PySem.W.subIn K (.ref C22) (.ref C1) = some true)
    (yp_InvalidPlace_PlotError : PySem.W.subIn K (.ref C23) (.ref C1) = some true)
    (yp_NotDrifting_PlotError : PySem.W.subIn K (.ref C24) (.ref C1) = some true)
    (yp_InvalidCount_PlotError : PySem.W.subIn K (.ref C25) (.ref C1) = some true)
    (yp_NoSteps_PlotError : PySem.W.subIn K (.ref C26) (.ref C1) = some true)
    (yp_InvalidOperation_PlotError : PySem.W.subIn K (.ref C27) (.ref C1) = some true)
    (yp_InvalidArt_PlotError : PySem.W.subIn K (.ref C29) (.ref C1) = some true)
    (yp_InvalidCommand_PlotError : PySem.W.subIn K (.ref C30) (.ref C1) = some true)
    (yp_InvalidSource_PlotError : PySem.W.subIn K (.ref C3) (.ref C1) = some true)
    (zd : PySem.W.hasDictIn K C1 = true)
    (zb : PySem.W.subIn K (.ref C1) (.type "BaseException") = some true)
    (zt : PySem.W.typeIn K (.ref C1) = some (.type "type"))
    (zp_InvalidText : PySem.W.subIn K (.ref C2) (.ref C1) = some true)
    (zp_HasPen : PySem.W.subIn K (.ref C11) (.ref C1) = some true)
    (zp_InvalidProgram : PySem.W.subIn K (.ref C6) (.ref C1) = some true)
    (zp_TooLarge : PySem.W.subIn K (.ref C5) (.ref C1) = some true)
    (zp_InvalidTimes : PySem.W.subIn K (.ref C7) (.ref C1) = some true)
    (zp_TooDeep : PySem.W.subIn K (.ref C4) (.ref C1) = some true)
    (n_Program_own_depth : PySem.W.findIn K (.ref C0) "own_depth" = some none)
    (n_Program_own_length : PySem.W.findIn K (.ref C0) "own_length" = some none)
    (n_Program_own_nodes : PySem.W.findIn K (.ref C0) "own_nodes" = some none)
    (n_Program_own_text : PySem.W.findIn K (.ref C0) "own_text" = some none)
    (n_Program_own_words : PySem.W.findIn K (.ref C0) "own_words" = some none)
    (sf_Program___add__ : PySem.W.selfFirst K C0 = true)
    (r_Program___add__ : PySem.W.findIn K (.ref C0) (dunderR (Operator.Add).info.2) = some none)
    (u_Program___add___NoneType : PySem.W.findIn K (.type "NoneType") (PySem.dunder (Operator.Add).info.2) = some fo_Program___add___NoneType)
    (w_Program___add___NoneType : PySem.W.findIn K (.type "NoneType") (dunderR (Operator.Add).info.2) = some ro_Program___add___NoneType)
    (qq_Program_NoneType : PySem.W.subIn K (.type "NoneType") (.ref C0) = some false)
    (u_Program___add___bool : PySem.W.findIn K (.type "bool") (PySem.dunder (Operator.Add).info.2) = some fo_Program___add___bool)
    (w_Program___add___bool : PySem.W.findIn K (.type "bool") (dunderR (Operator.Add).info.2) = some ro_Program___add___bool)
    (qq_Program_bool : PySem.W.subIn K (.type "bool") (.ref C0) = some false)
    (u_Program___add___int : PySem.W.findIn K (.type "int") (PySem.dunder (Operator.Add).info.2) = some fo_Program___add___int)
    (w_Program___add___int : PySem.W.findIn K (.type "int") (dunderR (Operator.Add).info.2) = some ro_Program___add___int)
    (qq_Program_int : PySem.W.subIn K (.type "int") (.ref C0) = some false)
    (u_Program___add___str : PySem.W.findIn K (.type "str") (PySem.dunder (Operator.Add).info.2) = some fo_Program___add___str)
    (w_Program___add___str : PySem.W.findIn K (.type "str") (dunderR (Operator.Add).info.2) = some ro_Program___add___str)
    (qq_Program_str : PySem.W.subIn K (.type "str") (.ref C0) = some false)
    (u_Program___add___tuple : PySem.W.findIn K (.type "tuple") (PySem.dunder (Operator.Add).info.2) = some fo_Program___add___tuple)
    (w_Program___add___tuple : PySem.W.findIn K (.type "tuple") (dunderR (Operator.Add).info.2) = some ro_Program___add___tuple)
    (qq_Program_tuple : PySem.W.subIn K (.type "tuple") (.ref C0) = some false)
    (u_Program___add___list : PySem.W.findIn K (.type "list") (PySem.dunder (Operator.Add).info.2) = some fo_Program___add___list)
    (w_Program___add___list : PySem.W.findIn K (.type "list") (dunderR (Operator.Add).info.2) = some ro_Program___add___list)
    (qq_Program_list : PySem.W.subIn K (.type "list") (.ref C0) = some false)
    (u_Program___add___dict : PySem.W.findIn K (.type "dict") (PySem.dunder (Operator.Add).info.2) = some fo_Program___add___dict)
    (w_Program___add___dict : PySem.W.findIn K (.type "dict") (dunderR (Operator.Add).info.2) = some ro_Program___add___dict)
    (qq_Program_dict : PySem.W.subIn K (.type "dict") (.ref C0) = some false)
    (sf_Program___mul__ : PySem.W.selfFirst K C0 = true)
    (r_Program___mul__ : PySem.W.findIn K (.ref C0) (dunderR (Operator.Mult).info.2) = some none)
    (u_Program___mul___NoneType : PySem.W.findIn K (.type "NoneType") (PySem.dunder (Operator.Mult).info.2) = some fo_Program___mul___NoneType)
    (w_Program___mul___NoneType : PySem.W.findIn K (.type "NoneType") (dunderR (Operator.Mult).info.2) = some ro_Program___mul___NoneType)
    (u_Program___mul___bool : PySem.W.findIn K (.type "bool") (PySem.dunder (Operator.Mult).info.2) = some fo_Program___mul___bool)
    (w_Program___mul___bool : PySem.W.findIn K (.type "bool") (dunderR (Operator.Mult).info.2) = some ro_Program___mul___bool)
    (u_Program___mul___int : PySem.W.findIn K (.type "int") (PySem.dunder (Operator.Mult).info.2) = some fo_Program___mul___int)
    (w_Program___mul___int : PySem.W.findIn K (.type "int") (dunderR (Operator.Mult).info.2) = some ro_Program___mul___int)
    (u_Program___mul___str : PySem.W.findIn K (.type "str") (PySem.dunder (Operator.Mult).info.2) = some fo_Program___mul___str)
    (w_Program___mul___str : PySem.W.findIn K (.type "str") (dunderR (Operator.Mult).info.2) = some ro_Program___mul___str)
    (u_Program___mul___tuple : PySem.W.findIn K (.type "tuple") (PySem.dunder (Operator.Mult).info.2) = some fo_Program___mul___tuple)
    (w_Program___mul___tuple : PySem.W.findIn K (.type "tuple") (dunderR (Operator.Mult).info.2) = some ro_Program___mul___tuple)
    (u_Program___mul___list : PySem.W.findIn K (.type "list") (PySem.dunder (Operator.Mult).info.2) = some fo_Program___mul___list)
    (w_Program___mul___list : PySem.W.findIn K (.type "list") (dunderR (Operator.Mult).info.2) = some ro_Program___mul___list)
    (u_Program___mul___dict : PySem.W.findIn K (.type "dict") (PySem.dunder (Operator.Mult).info.2) = some fo_Program___mul___dict)
    (w_Program___mul___dict : PySem.W.findIn K (.type "dict") (dunderR (Operator.Mult).info.2) = some ro_Program___mul___dict)
    (ic_Program : PySem.W.isClsIn K C0 = true)
    (tc_Program : PySem.W.typeIn K (.ref C0) = some (.type "type"))
    (is_Program_NoneType : PySem.W.subIn K (.type "NoneType") (.ref C0) = some false)
    (is_Program_bool : PySem.W.subIn K (.type "bool") (.ref C0) = some false)
    (is_Program_int : PySem.W.subIn K (.type "int") (.ref C0) = some false)
    (is_Program_str : PySem.W.subIn K (.type "str") (.ref C0) = some false)
    (is_Program_tuple : PySem.W.subIn K (.type "tuple") (.ref C0) = some false)
    (is_Program_list : PySem.W.subIn K (.type "list") (.ref C0) = some false)
    (is_Program_dict : PySem.W.subIn K (.type "dict") (.ref C0) = some false)
    (it_Program_Program : PySem.W.subIn K (.ref C0) (.ref C0) = some true)
    (kg_REVERSED : PySem.W.nsIn K mainGlobals "REVERSED" = some (some (.ref kd_REVERSED)))
    (kl_REVERSED : K.lookup kd_REVERSED = some ⟨.type "dict", none, .dict kde_REVERSED kdn_REVERSED, #[]⟩)
    (kk_REVERSED : kde_REVERSED.toList.map He.keyOf = He.keysIn w.params ["f", "b", "l", "r"])
    (kv_REVERSED_0 : PySem.W.nsIn K kd_REVERSED "f" = some (some (.str "b" kt_REVERSED_0)))
    (kv_REVERSED_1 : PySem.W.nsIn K kd_REVERSED "b" = some (some (.str "f" kt_REVERSED_1)))
    (kv_REVERSED_2 : PySem.W.nsIn K kd_REVERSED "l" = some (some (.str "r" kt_REVERSED_2)))
    (kv_REVERSED_3 : PySem.W.nsIn K kd_REVERSED "r" = some (some (.str "l" kt_REVERSED_3)))
    (iy_Program_int : PySem.W.subIn K (.ref C0) (.type "int") = some false) :
    ∃ fd : FuncData, (∀ (s : Shared) (v : Value), BindsTo s fd ⟨[v], []⟩ [("script", v)]) ∧ ∀ base : Heap, K.In base → base.Ns mainGlobals mg → ∃ cs : Nat → Addr, CsOk cs ∧ FnG l.prog w K mg base (L2.CX l.prog w) 28 fa fd ["script"] (spD K 1 (m_law cs)) := by
  have e := hfa.symm.trans (PySem.W.mg_of X G a31)
  cases e
  have F1 := fun_mk (st := s_InvalidText___init__) l1 c1 k1
  have b1 := F1.binds (ps := ["self", "index"]) fun _ _ _ _ _ _ us hl => ul2 hl fun _ _ => rfl
  have F2 := fun_mk (st := s_InvalidSource___init__) l2 c2 k2
  have b2 := F2.binds (ps := ["self", "line", "index"]) fun _ _ _ _ _ _ us hl => ul3 hl fun _ _ _ => rfl
  have F3 := fun_mk (st := s_TooDeep___init__) l3 c3 k3
  have b3 := F3.binds (ps := ["self", "limit"]) fun _ _ _ _ _ _ us hl => ul2 hl fun _ _ => rfl
  have F4 := fun_mk (st := s_TooLarge___init__) l4 c4 k4
  have b4 := F4.binds (ps := ["self", "limit"]) fun _ _ _ _ _ _ us hl => ul2 hl fun _ _ => rfl
  have F5 := fun_mk (st := s__law_made_right) l5 c5 k5
  have b5 := F5.binds (ps := []) fun _ _ _ _ _ _ us hl => ul0 hl rfl
  have F6 := fun_mk (st := s__law_bag) l6 c6 k6
  have b6 := F6.binds (ps := ["cell"]) fun _ _ _ _ _ _ us hl => ul1 hl fun _ => rfl
  have F7 := fun_mk (st := s__law_pick) l7 c7 k7
  have b7 := F7.binds (ps := ["bag", "many"]) fun _ _ _ _ _ _ us hl => ul2 hl fun _ _ => rfl
  have F8 := fun_mk (st := s__law_number) l8 c8 k8
  have b8 := F8.binds (ps := ["bag", "far"]) fun _ _ _ _ _ _ us hl => ul2 hl fun _ _ => rfl
  have F9 := fun_mk (st := s__law_words) l9 c9 k9
  have b9 := F9.binds (ps := ["bag", "most", "deep", "letters", "far"]) fun _ _ _ _ _ _ us hl => ul5 hl fun _ _ _ _ _ => rfl
  have F10 := fun_mk (st := s_words_of) l10 c10 k10
  have b10 := F10.binds (ps := ["text"]) fun _ _ _ _ _ _ us hl => ul1 hl fun _ => rfl
  have F11 := fun_mk (st := s_is_number) l11 c11 k11
  have b11 := F11.binds (ps := ["signs"]) fun _ _ _ _ _ _ us hl => ul1 hl fun _ => rfl
  have F12 := fun_mk (st := s_is_step_word) l12 c12 k12
  have b12 := F12.binds (ps := ["word"]) fun _ _ _ _ _ _ us hl => ul1 hl fun _ => rfl
  have F13 := fun_mk (st := s_first_wrong) l13 c13 k13
  have b13 := F13.binds (ps := ["words", "names"]) fun _ _ _ _ _ _ us hl => ul2 hl fun _ _ => rfl
  have F14 := fun_mk (st := s_nodes_from) l14 c14 k14
  have b14 := F14.binds (ps := ["words", "place"]) fun _ _ _ _ _ _ us hl => ul2 hl fun _ _ => rfl
  have F15 := fun_mk (st := s_nodes_in) l15 c15 k15
  have b15 := F15.binds (ps := ["words"]) fun _ _ _ _ _ _ us hl => ul1 hl fun _ => rfl
  have F16 := fun_mk (st := s_length_in) l16 c16 k16
  have b16 := F16.binds (ps := ["nodes"]) fun _ _ _ _ _ _ us hl => ul1 hl fun _ => rfl
  have F17 := fun_mk (st := s_depth_in) l17 c17 k17
  have b17 := F17.binds (ps := ["nodes"]) fun _ _ _ _ _ _ us hl => ul1 hl fun _ => rfl
  have F18 := fun_mk (st := s_Program___init__) l18 c18 k18
  have b18 := F18.binds (ps := ["self", "text"]) fun _ _ _ _ _ _ us hl => ul2 hl fun _ _ => rfl
  have F19 := fun_mk (st := s__law_class) l19 c19 k19
  have b19 := F19.binds (ps := ["caught"]) fun _ _ _ _ _ _ us hl => ul1 hl fun _ => rfl
  have F20 := fun_mk (st := s_reversed_text) l20 c20 k20
  have b20 := F20.binds (ps := ["nodes"]) fun _ _ _ _ _ _ us hl => ul1 hl fun _ => rfl
  have F21 := fun_mk (st := s_Program___invert__) l21 c21 k21
  have b21 := F21.binds (ps := ["self"]) fun _ _ _ _ _ _ us hl => ul1 hl fun _ => rfl
  have F22 := fun_mk (st := s_joined_text) l22 c22 k22
  have b22 := F22.binds (ps := ["text", "other"]) fun _ _ _ _ _ _ us hl => ul2 hl fun _ _ => rfl
  have F23 := fun_mk (st := s_Program___add__) l23 c23 k23
  have b23 := F23.binds (ps := ["self", "other"]) fun _ _ _ _ _ _ us hl => ul2 hl fun _ _ => rfl
  have F24 := fun_mk (st := s_is_int) l24 c24 k24
  have b24 := F24.binds (ps := ["value"]) fun _ _ _ _ _ _ us hl => ul1 hl fun _ => rfl
  have F25 := fun_mk (st := s_in_range) l25 c25 k25
  have b25 := F25.binds (ps := ["value", "low", "high"]) fun _ _ _ _ _ _ us hl => ul3 hl fun _ _ _ => rfl
  have F26 := fun_mk (st := s_Program___mul__) l26 c26 k26
  have b26 := F26.binds (ps := ["self", "times"]) fun _ _ _ _ _ _ us hl => ul2 hl fun _ _ => rfl
  have F27 := fun_mk (st := s__law_told) l27 c27 k27
  have b27 := F27.binds (ps := ["way", "one", "other"]) fun _ _ _ _ _ _ us hl => ul3 hl fun _ _ _ => rfl
  have F28 := fun_mk (st := s_Program___len__) l28 c28 k28
  have b28 := F28.binds (ps := ["self"]) fun _ _ _ _ _ _ us hl => ul1 hl fun _ => rfl
  have F29 := fun_mk (st := s__law_sizes_right) l29 c29 k29
  have b29 := F29.binds (ps := ["bag"]) fun _ _ _ _ _ _ us hl => ul1 hl fun _ => rfl
  have F30 := fun_mk (st := s_Program_text) l30 c30 k30
  have b30 := F30.binds (ps := ["self"]) fun _ _ _ _ _ _ us hl => ul1 hl fun _ => rfl
  have F31 := fun_mk (st := s_law) l31 c31 k31
  have b31 := F31.binds (ps := ["script"]) fun _ _ _ _ _ _ us hl => ul1 hl fun _ => rfl
  have T : Tx K mg (fun i => ([f1, f2, f3, f4, f5, f6, f7, f8, f9, f10, f11, f12, f13, f14, f15, f16, f17, f18, f19, f20, f21, f22, f23, f24, f25, f26, f27, f28, f29, f30, fa] : List Addr).getD i 0) (fun i => ([PySem.W.fnOf "__init__" "InvalidText.__init__" (defArgs s_InvalidText___init__) (defBody s_InvalidText___init__) (defScope s_InvalidText___init__) .none kV1 dc1 pm1 an1 cd1 ct1, PySem.W.fnOf "__init__" "InvalidSource.__init__" (defArgs s_InvalidSource___init__) (defBody s_InvalidSource___init__) (defScope s_InvalidSource___init__) .none kV2 dc2 pm2 an2 cd2 ct2, PySem.W.fnOf "__init__" "TooDeep.__init__" (defArgs s_TooDeep___init__) (defBody s_TooDeep___init__) (defScope s_TooDeep___init__) .none kV3 dc3 pm3 an3 cd3 ct3, PySem.W.fnOf "__init__" "TooLarge.__init__" (defArgs s_TooLarge___init__) (defBody s_TooLarge___init__) (defScope s_TooLarge___init__) .none kV4 dc4 pm4 an4 cd4 ct4, PySem.W.fnOf "_law_made_right" "_law_made_right" (defArgs s__law_made_right) (defBody s__law_made_right) (defScope s__law_made_right) .none kV5 dc5 pm5 an5 cd5 ct5, PySem.W.fnOf "_law_bag" "_law_bag" (defArgs s__law_bag) (defBody s__law_bag) (defScope s__law_bag) .none kV6 dc6 pm6 an6 cd6 ct6, PySem.W.fnOf "_law_pick" "_law_pick" (defArgs s__law_pick) (defBody s__law_pick) (defScope s__law_pick) .none kV7 dc7 pm7 an7 cd7 ct7, PySem.W.fnOf "_law_number" "_law_number" (defArgs s__law_number) (defBody s__law_number) (defScope s__law_number) .none kV8 dc8 pm8 an8 cd8 ct8, PySem.W.fnOf "_law_words" "_law_words" (defArgs s__law_words) (defBody s__law_words) (defScope s__law_words) .none kV9 dc9 pm9 an9 cd9 ct9, PySem.W.fnOf "words_of" "words_of" (defArgs s_words_of) (defBody s_words_of) (defScope s_words_of) .none kV10 dc10 pm10 an10 cd10 ct10, PySem.W.fnOf "is_number" "is_number" (defArgs s_is_number) (defBody s_is_number) (defScope s_is_number) .none kV11 dc11 pm11 an11 cd11 ct11, PySem.W.fnOf "is_step_word" "is_step_word" (defArgs s_is_step_word) (defBody s_is_step_word) (defScope s_is_step_word) .none kV12 dc12 pm12 an12 cd12 ct12, PySem.W.fnOf "first_wrong" "first_wrong" (defArgs s_first_wrong) (defBody s_first_wrong) (defScope s_first_wrong) .none kV13 dc13 pm13 an13 cd13 ct13, PySem.W.fnOf "nodes_from" "nodes_from" (defArgs s_nodes_from) (defBody s_nodes_from) (defScope s_nodes_from) .none kV14 dc14 pm14 an14 cd14 ct14, PySem.W.fnOf "nodes_in" "nodes_in" (defArgs s_nodes_in) (defBody s_nodes_in) (defScope s_nodes_in) .none kV15 dc15 pm15 an15 cd15 ct15, PySem.W.fnOf "length_in" "length_in" (defArgs s_length_in) (defBody s_length_in) (defScope s_length_in) .none kV16 dc16 pm16 an16 cd16 ct16, PySem.W.fnOf "depth_in" "depth_in" (defArgs s_depth_in) (defBody s_depth_in) (defScope s_depth_in) .none kV17 dc17 pm17 an17 cd17 ct17, PySem.W.fnOf "__init__" "Program.__init__" (defArgs s_Program___init__) (defBody s_Program___init__) (defScope s_Program___init__) .none kV18 dc18 pm18 an18 cd18 ct18, PySem.W.fnOf "_law_class" "_law_class" (defArgs s__law_class) (defBody s__law_class) (defScope s__law_class) .none kV19 dc19 pm19 an19 cd19 ct19, PySem.W.fnOf "reversed_text" "reversed_text" (defArgs s_reversed_text) (defBody s_reversed_text) (defScope s_reversed_text) .none kV20 dc20 pm20 an20 cd20 ct20, PySem.W.fnOf "__invert__" "Program.__invert__" (defArgs s_Program___invert__) (defBody s_Program___invert__) (defScope s_Program___invert__) .none kV21 dc21 pm21 an21 cd21 ct21, PySem.W.fnOf "joined_text" "joined_text" (defArgs s_joined_text) (defBody s_joined_text) (defScope s_joined_text) .none kV22 dc22 pm22 an22 cd22 ct22, PySem.W.fnOf "__add__" "Program.__add__" (defArgs s_Program___add__) (defBody s_Program___add__) (defScope s_Program___add__) .none kV23 dc23 pm23 an23 cd23 ct23, PySem.W.fnOf "is_int" "is_int" (defArgs s_is_int) (defBody s_is_int) (defScope s_is_int) .none kV24 dc24 pm24 an24 cd24 ct24, PySem.W.fnOf "in_range" "in_range" (defArgs s_in_range) (defBody s_in_range) (defScope s_in_range) .none kV25 dc25 pm25 an25 cd25 ct25, PySem.W.fnOf "__mul__" "Program.__mul__" (defArgs s_Program___mul__) (defBody s_Program___mul__) (defScope s_Program___mul__) .none kV26 dc26 pm26 an26 cd26 ct26, PySem.W.fnOf "_law_told" "_law_told" (defArgs s__law_told) (defBody s__law_told) (defScope s__law_told) .none kV27 dc27 pm27 an27 cd27 ct27, PySem.W.fnOf "__len__" "Program.__len__" (defArgs s_Program___len__) (defBody s_Program___len__) (defScope s_Program___len__) .none kV28 dc28 pm28 an28 cd28 ct28, PySem.W.fnOf "_law_sizes_right" "_law_sizes_right" (defArgs s__law_sizes_right) (defBody s__law_sizes_right) (defScope s__law_sizes_right) .none kV29 dc29 pm29 an29 cd29 ct29, PySem.W.fnOf "text" "Program.text" (defArgs s_Program_text) (defBody s_Program_text) (defScope s_Program_text) .none kV30 dc30 pm30 an30 cd30 ct30, PySem.W.fnOf "law" "law" (defArgs s_law) (defBody s_law) (defScope s_law) .none kV31 dc31 pm31 an31 cd31 ct31] : List FuncData).getD i (PySem.W.fnOf "__init__" "InvalidText.__init__" (defArgs s_InvalidText___init__) (defBody s_InvalidText___init__) (defScope s_InvalidText___init__) .none kV1 dc1 pm1 an1 cd1 ct1)) (fun i => ([C0, C1, C2, C3, C4, C5, C6, C7, C8, C9, C10, C11, C12, C13, C14, C15, C16, C17, C18, C19, C20, C21, C22, C23, C24, C25, C26, C27, C28, C29, C30] : List Addr).getD i 0) w := by
    constructor
    · exact ⟨F1, b1⟩
    · exact ⟨F2, b2⟩
    · exact ⟨F3, b3⟩
    · exact ⟨F4, b4⟩
    · exact ⟨F5, PySem.W.mg_of X G a5, b5⟩
    · exact ⟨F6, PySem.W.mg_of X G a6, b6⟩
    · exact ⟨F7, PySem.W.mg_of X G a7, b7⟩
    · exact ⟨F8, PySem.W.mg_of X G a8, b8⟩
    · exact ⟨F9, PySem.W.mg_of X G a9, b9⟩
    · exact ⟨F10, PySem.W.mg_of X G a10, b10⟩
    · exact ⟨F11, PySem.W.mg_of X G a11, b11⟩
    · exact ⟨F12, PySem.W.mg_of X G a12, b12⟩
    · exact ⟨F13, PySem.W.mg_of X G a13, b13⟩
    · exact ⟨F14, PySem.W.mg_of X G a14, b14⟩
    · exact ⟨F15, PySem.W.mg_of X G a15, b15⟩
    · exact ⟨F16, PySem.W.mg_of X G a16, b16⟩
    · exact ⟨F17, PySem.W.mg_of X G a17, b17⟩
    · exact ⟨F18, b18⟩
    · exact ⟨F19, PySem.W.mg_of X G a19, b19⟩
    · exact ⟨F20, PySem.W.mg_of X G a20, b20⟩
    · exact ⟨F21, b21⟩
    · exact ⟨F22, PySem.W.mg_of X G a22, b22⟩
    · exact ⟨F23, b23⟩
    · exact ⟨F24, PySem.W.mg_of X G a24, b24⟩
    · exact ⟨F25, PySem.W.mg_of X G a25, b25⟩
    · exact ⟨F26, b26⟩
    · exact ⟨F27, PySem.W.mg_of X G a27, b27⟩
    · exact ⟨F28, b28⟩
    · exact ⟨F29, PySem.W.mg_of X G a29, b29⟩
    · exact ⟨F30, b30⟩
    · exact ⟨F31, PySem.W.mg_of X G a31, b31⟩
    · exact PySem.W.mg_none_of X G z_ValueError
    · exact PySem.W.mg_none_of X G z_all
    · exact PySem.W.mg_none_of X G z_bool
    · exact PySem.W.mg_none_of X G z_enumerate
    · exact PySem.W.mg_none_of X G z_int
    · exact PySem.W.mg_none_of X G z_isinstance
    · exact PySem.W.mg_none_of X G z_len
    · exact PySem.W.mg_none_of X G z_max
    · exact PySem.W.mg_none_of X G z_repr
    · exact PySem.W.mg_none_of X G z_str
    · exact PySem.W.mg_none_of X G z_tuple
    · exact ⟨_, PySem.W.mg_of X G v_DIGITS, _, rfl⟩
    · exact ⟨_, PySem.W.mg_of X G v_LETTERS, _, rfl⟩
    · exact ⟨_, PySem.W.mg_of X G v_MOST_DEPTH, _, rfl⟩
    · exact ⟨_, PySem.W.mg_of X G v_MOST_DIGITS, _, rfl⟩
    · exact ⟨_, PySem.W.mg_of X G v_MOST_TIMES, _, rfl⟩
    · exact ⟨_, PySem.W.mg_of X G v_MOST_WORDS, _, rfl⟩
    · exact PySem.W.mg_of X G g_Program
    · exact ⟨⟨pg_Program, hd_Program, po_Program, sa_Program⟩, ha_Program, hn_Program, ht_Program, hm_Program⟩
    · exact ⟨mk_Program, a18, i18, kc_Program⟩
    · exact PySem.W.mg_of X G g_PlotError
    · exact PySem.W.mg_of X G g_InvalidText
    · exact PySem.W.mg_of X G g_InvalidSource
    · exact PySem.W.mg_of X G g_TooDeep
    · exact PySem.W.mg_of X G g_TooLarge
    · exact PySem.W.mg_of X G g_InvalidProgram
    · exact PySem.W.mg_of X G g_InvalidTimes
    · exact PySem.W.mg_of X G g_InvalidIndex
    · exact PySem.W.mg_of X G g_InvalidLetter
    · exact PySem.W.mg_of X G g_InvalidName
    · exact PySem.W.mg_of X G g_HasPen
    · exact PySem.W.mg_of X G g_InvalidMotion
    · exact PySem.W.mg_of X G g_InvalidPose
    · exact PySem.W.mg_of X G g_InvalidPoint
    · exact PySem.W.mg_of X G g_InvalidEdge
    · exact PySem.W.mg_of X G g_InvalidPicture
    · exact PySem.W.mg_of X G g_InvalidTurn
    · exact PySem.W.mg_of X G g_InvalidFace
    · exact PySem.W.mg_of X G g_InvalidFaces
    · exact PySem.W.mg_of X G g_NotEven
    · exact PySem.W.mg_of X G g_NotClosed
    · exact PySem.W.mg_of X G g_InvalidIntervals
    · exact PySem.W.mg_of X G g_InvalidPlace
    · exact PySem.W.mg_of X G g_NotDrifting
    · exact PySem.W.mg_of X G g_InvalidCount
    · exact PySem.W.mg_of X G g_NoSteps
    · exact PySem.W.mg_of X G g_InvalidOperation
    · exact PySem.W.mg_of X G g_Nothing
    · exact PySem.W.mg_of X G g_InvalidArt
    · exact PySem.W.mg_of X G g_InvalidCommand
    · exact ⟨oex_mk xl_InvalidText xe_InvalidText xw_InvalidText xb_InvalidText xt_InvalidText xk_InvalidText, a1, beq_iff_eq.mp i1, fun f hf => by simp only [List.mem_cons, List.not_mem_nil, or_false] at hf; rcases hf with rfl; exact xn_InvalidText_index⟩
    · exact ⟨xg_InvalidText, xn_InvalidText, xb_InvalidText, xd_InvalidText⟩
    · exact xn_InvalidText_index
    · exact ⟨oex_mk xl_InvalidSource xe_InvalidSource xw_InvalidSource xb_InvalidSource xt_InvalidSource xk_InvalidSource, a2, beq_iff_eq.mp i2, fun f hf => by simp only [List.mem_cons, List.not_mem_nil, or_false] at hf; rcases hf with rfl | rfl; exact xn_InvalidSource_line; exact xn_InvalidSource_index⟩
    · exact ⟨xg_InvalidSource, xn_InvalidSource, xb_InvalidSource, xd_InvalidSource⟩
    · exact xn_InvalidSource_line
    · exact xn_InvalidSource_index
    · exact ⟨oex_mk xl_TooDeep xe_TooDeep xw_TooDeep xb_TooDeep xt_TooDeep xk_TooDeep, a3, beq_iff_eq.mp i3, fun f hf => by simp only [List.mem_cons, List.not_mem_nil, or_false] at hf; rcases hf with rfl; exact xn_TooDeep_limit⟩
    · exact ⟨xg_TooDeep, xn_TooDeep, xb_TooDeep, xd_TooDeep⟩
    · exact xn_TooDeep_limit
    · exact ⟨oex_mk xl_TooLarge xe_TooLarge xw_TooLarge xb_TooLarge xt_TooLarge xk_TooLarge, a4, beq_iff_eq.mp i4, fun f hf => by simp only [List.mem_cons, List.not_mem_nil, or_false] at hf; rcases hf with rfl; exact xn_TooLarge_limit⟩
    · exact ⟨xg_TooLarge, xn_TooLarge, xb_TooLarge, xd_TooLarge⟩
    · exact xn_TooLarge_limit
    · exact ⟨xq_HasPen, xk_HasPen, xb_HasPen, xt_HasPen⟩
    · exact ⟨xq_InvalidProgram, xk_InvalidProgram, xb_InvalidProgram, xt_InvalidProgram⟩
    · exact ⟨xq_InvalidTimes, xk_InvalidTimes, xb_InvalidTimes, xt_InvalidTimes⟩
    · exact ⟨xq_InvalidIndex, xk_InvalidIndex, xb_InvalidIndex, xt_InvalidIndex⟩
    · exact ⟨xq_InvalidLetter, xk_InvalidLetter, xb_InvalidLetter, xt_InvalidLetter⟩
    · exact ⟨xq_InvalidName, xk_InvalidName, xb_InvalidName, xt_InvalidName⟩
    · exact ⟨xq_InvalidPicture, xk_InvalidPicture, xb_InvalidPicture, xt_InvalidPicture⟩
    · exact ⟨xq_InvalidMotion, xk_InvalidMotion, xb_InvalidMotion, xt_InvalidMotion⟩
    · exact ⟨xq_InvalidPose, xk_InvalidPose, xb_InvalidPose, xt_InvalidPose⟩
    · exact ⟨xq_InvalidPoint, xk_InvalidPoint, xb_InvalidPoint, xt_InvalidPoint⟩
    · exact ⟨xq_InvalidEdge, xk_InvalidEdge, xb_InvalidEdge, xt_InvalidEdge⟩
    · exact ⟨xq_InvalidTurn, xk_InvalidTurn, xb_InvalidTurn, xt_InvalidTurn⟩
    · exact ⟨xq_InvalidFace, xk_InvalidFace, xb_InvalidFace, xt_InvalidFace⟩
    · exact ⟨xq_InvalidFaces, xk_InvalidFaces, xb_InvalidFaces, xt_InvalidFaces⟩
    · exact ⟨xq_NotEven, xk_NotEven, xb_NotEven, xt_NotEven⟩
    · exact ⟨xq_NotClosed, xk_NotClosed, xb_NotClosed, xt_NotClosed⟩
    · exact ⟨xq_Nothing, xk_Nothing, xb_Nothing, xt_Nothing⟩
    · exact ⟨xq_InvalidIntervals, xk_InvalidIntervals, xb_InvalidIntervals, xt_InvalidIntervals⟩
    · exact ⟨xq_InvalidPlace, xk_InvalidPlace, xb_InvalidPlace, xt_InvalidPlace⟩
    · exact ⟨xq_NotDrifting, xk_NotDrifting, xb_NotDrifting, xt_NotDrifting⟩
    · exact ⟨xq_InvalidCount, xk_InvalidCount, xb_InvalidCount, xt_InvalidCount⟩
    · exact ⟨xq_NoSteps, xk_NoSteps, xb_NoSteps, xt_NoSteps⟩
    · exact ⟨xq_InvalidOperation, xk_InvalidOperation, xb_InvalidOperation, xt_InvalidOperation⟩
    · exact ⟨xq_InvalidArt, xk_InvalidArt, xb_InvalidArt, xt_InvalidArt⟩
    · exact ⟨xq_InvalidCommand, xk_InvalidCommand, xb_InvalidCommand, xt_InvalidCommand⟩
    · exact ⟨xq_PlotError, xk_PlotError, xb_PlotError, xt_PlotError⟩
    · exact relX2_ok (fa_cons (⟨xg_HasPen, xn_HasPen, xb_HasPen, xd_HasPen, xa_HasPen, xs, xz, xo_HasPen⟩) (fa_cons (⟨xg_InvalidProgram, xn_InvalidProgram, xb_InvalidProgram, xd_InvalidProgram, xa_InvalidProgram, xs, xz, xo_InvalidProgram⟩) (fa_cons (⟨xg_TooLarge, xn_TooLarge, xb_TooLarge, xd_TooLarge, xa_TooLarge, xs, xz, xo_TooLarge⟩) (fa_cons (⟨xg_InvalidTimes, xn_InvalidTimes, xb_InvalidTimes, xd_InvalidTimes, xa_InvalidTimes, xs, xz, xo_InvalidTimes⟩) (fa_cons (⟨xg_TooDeep, xn_TooDeep, xb_TooDeep, xd_TooDeep, xa_TooDeep, xs, xz, xo_TooDeep⟩) (fa_cons (⟨xg_PlotError, xn_PlotError, xb_PlotError, xd_PlotError, xa_PlotError, xs, xz, xo_PlotError⟩) fa_nil)))))) (fa_cons ((fa_cons (kit_oth yc_InvalidText yt_InvalidText yp_HasPen_InvalidText ys_InvalidText) (fa_cons (kit_self) (fa_cons (kit_true yc_PlotError yt_PlotError yp_HasPen_PlotError) (fa_cons (kit_oth yc_InvalidArt yt_InvalidArt yp_HasPen_InvalidArt ys_InvalidArt) (fa_cons (kit_oth yc_InvalidCommand yt_InvalidCommand yp_HasPen_InvalidCommand ys_InvalidCommand) (fa_cons (kit_oth yc_InvalidCount yt_InvalidCount yp_HasPen_InvalidCount ys_InvalidCount) (fa_cons (kit_oth yc_InvalidEdge yt_InvalidEdge yp_HasPen_InvalidEdge ys_InvalidEdge) (fa_cons (kit_oth yc_InvalidFace yt_InvalidFace yp_HasPen_InvalidFace ys_InvalidFace) (fa_cons (kit_oth yc_InvalidFaces yt_InvalidFaces yp_HasPen_InvalidFaces ys_InvalidFaces) (fa_cons (kit_oth yc_InvalidIntervals yt_InvalidIntervals yp_HasPen_InvalidIntervals ys_InvalidIntervals) (fa_cons (kit_oth yc_InvalidMotion yt_InvalidMotion yp_HasPen_InvalidMotion ys_InvalidMotion) (fa_cons (kit_oth yc_InvalidOperation yt_InvalidOperation yp_HasPen_InvalidOperation ys_InvalidOperation) (fa_cons (kit_oth yc_InvalidPicture yt_InvalidPicture yp_HasPen_InvalidPicture ys_InvalidPicture) (fa_cons (kit_oth yc_InvalidPlace yt_InvalidPlace yp_HasPen_InvalidPlace ys_InvalidPlace) (fa_cons (kit_oth yc_InvalidPoint yt_InvalidPoint yp_HasPen_InvalidPoint ys_InvalidPoint) (fa_cons (kit_oth yc_InvalidPose yt_InvalidPose yp_HasPen_InvalidPose ys_InvalidPose) (fa_cons (kit_oth yc_InvalidTurn yt_InvalidTurn yp_HasPen_InvalidTurn ys_InvalidTurn) (fa_cons (kit_oth yc_NoSteps yt_NoSteps yp_HasPen_NoSteps ys_NoSteps) (fa_cons (kit_oth yc_NotClosed yt_NotClosed yp_HasPen_NotClosed ys_NotClosed) (fa_cons (kit_oth yc_NotDrifting yt_NotDrifting yp_HasPen_NotDrifting ys_NotDrifting) (fa_cons (kit_oth yc_NotEven yt_NotEven yp_HasPen_NotEven ys_NotEven) (fa_cons (kit_oth yc_Nothing yt_Nothing yp_HasPen_Nothing ys_Nothing) (fa_cons (kit_oth yc_InvalidSource yt_InvalidSource yp_HasPen_InvalidSource ys_InvalidSource) (fa_cons (kit_oth yc_InvalidProgram yt_InvalidProgram yp_HasPen_InvalidProgram ys_InvalidProgram) (fa_cons (kit_oth yc_InvalidTimes yt_InvalidTimes yp_HasPen_InvalidTimes ys_InvalidTimes) (fa_cons (kit_oth yc_InvalidIndex yt_InvalidIndex yp_HasPen_InvalidIndex ys_InvalidIndex) (fa_cons (kit_oth yc_InvalidLetter yt_InvalidLetter yp_HasPen_InvalidLetter ys_InvalidLetter) (fa_cons (kit_oth yc_InvalidName yt_InvalidName yp_HasPen_InvalidName ys_InvalidName) (fa_cons (kit_oth yc_TooDeep yt_TooDeep yp_HasPen_TooDeep ys_TooDeep) (fa_cons (kit_oth yc_TooLarge yt_TooLarge yp_HasPen_TooLarge ys_TooLarge) fa_nil))))))))))))))))))))))))))))))) (fa_cons ((fa_cons (kit_oth yc_InvalidText yt_InvalidText yp_InvalidProgram_InvalidText ys_InvalidText) (fa_cons (kit_oth yc_HasPen yt_HasPen yp_InvalidProgram_HasPen ys_HasPen) (fa_cons (kit_true yc_PlotError yt_PlotError yp_InvalidProgram_PlotError) (fa_cons (kit_oth yc_InvalidArt yt_InvalidArt yp_InvalidProgram_InvalidArt ys_InvalidArt) (fa_cons (kit_oth yc_InvalidCommand yt_InvalidCommand yp_InvalidProgram_InvalidCommand ys_InvalidCommand) (fa_cons (kit_oth yc_InvalidCount yt_InvalidCount yp_InvalidProgram_InvalidCount ys_InvalidCount) (fa_cons (kit_oth yc_InvalidEdge yt_InvalidEdge yp_InvalidProgram_InvalidEdge ys_InvalidEdge) (fa_cons (kit_oth yc_InvalidFace yt_InvalidFace yp_InvalidProgram_InvalidFace ys_InvalidFace) (fa_cons (kit_oth yc_InvalidFaces yt_InvalidFaces yp_InvalidProgram_InvalidFaces ys_InvalidFaces) (fa_cons (kit_oth yc_InvalidIntervals yt_InvalidIntervals yp_InvalidProgram_InvalidIntervals ys_InvalidIntervals) (fa_cons (kit_oth yc_InvalidMotion yt_InvalidMotion yp_InvalidProgram_InvalidMotion ys_InvalidMotion) (fa_cons (kit_oth yc_InvalidOperation yt_InvalidOperation yp_InvalidProgram_InvalidOperation ys_InvalidOperation) (fa_cons (kit_oth yc_InvalidPicture yt_InvalidPicture yp_InvalidProgram_InvalidPicture ys_InvalidPicture) (fa_cons (kit_oth yc_InvalidPlace yt_InvalidPlace yp_InvalidProgram_InvalidPlace ys_InvalidPlace) (fa_cons (kit_oth yc_InvalidPoint yt_InvalidPoint yp_InvalidProgram_InvalidPoint ys_InvalidPoint) (fa_cons (kit_oth yc_InvalidPose yt_InvalidPose yp_InvalidProgram_InvalidPose ys_InvalidPose) (fa_cons (kit_oth yc_InvalidTurn yt_InvalidTurn yp_InvalidProgram_InvalidTurn ys_InvalidTurn) (fa_cons (kit_oth yc_NoSteps yt_NoSteps yp_InvalidProgram_NoSteps ys_NoSteps) (fa_cons (kit_oth yc_NotClosed yt_NotClosed yp_InvalidProgram_NotClosed ys_NotClosed) (fa_cons (kit_oth yc_NotDrifting yt_NotDrifting yp_InvalidProgram_NotDrifting ys_NotDrifting) (fa_cons (kit_oth yc_NotEven yt_NotEven yp_InvalidProgram_NotEven ys_NotEven) (fa_cons (kit_oth yc_Nothing yt_Nothing yp_InvalidProgram_Nothing ys_Nothing) (fa_cons (kit_oth yc_InvalidSource yt_InvalidSource yp_InvalidProgram_InvalidSource ys_InvalidSource) (fa_cons (kit_self) (fa_cons (kit_oth yc_InvalidTimes yt_InvalidTimes yp_InvalidProgram_InvalidTimes ys_InvalidTimes) (fa_cons (kit_oth yc_InvalidIndex yt_InvalidIndex yp_InvalidProgram_InvalidIndex ys_InvalidIndex) (fa_cons (kit_oth yc_InvalidLetter yt_InvalidLetter yp_InvalidProgram_InvalidLetter ys_InvalidLetter) (fa_cons (kit_oth yc_InvalidName yt_InvalidName yp_InvalidProgram_InvalidName ys_InvalidName) (fa_cons (kit_oth yc_TooDeep yt_TooDeep yp_InvalidProgram_TooDeep ys_TooDeep) (fa_cons (kit_oth yc_TooLarge yt_TooLarge yp_InvalidProgram_TooLarge ys_TooLarge) fa_nil))))))))))))))))))))))))))))))) (fa_cons ((fa_cons (kit_oth yc_InvalidText yt_InvalidText yp_TooLarge_InvalidText ys_InvalidText) (fa_cons (kit_oth yc_HasPen yt_HasPen yp_TooLarge_HasPen ys_HasPen) (fa_cons (kit_true yc_PlotError yt_PlotError yp_TooLarge_PlotError) (fa_cons (kit_oth yc_InvalidArt yt_InvalidArt yp_TooLarge_InvalidArt ys_InvalidArt) (fa_cons (kit_oth yc_InvalidCommand yt_InvalidCommand yp_TooLarge_InvalidCommand ys_InvalidCommand) (fa_cons (kit_oth yc_InvalidCount yt_InvalidCount yp_TooLarge_InvalidCount ys_InvalidCount) (fa_cons (kit_oth yc_InvalidEdge yt_InvalidEdge yp_TooLarge_InvalidEdge ys_InvalidEdge) (fa_cons (kit_oth yc_InvalidFace yt_InvalidFace yp_TooLarge_InvalidFace ys_InvalidFace) (fa_cons (kit_oth yc_InvalidFaces yt_InvalidFaces yp_TooLarge_InvalidFaces ys_InvalidFaces) (fa_cons (kit_oth yc_InvalidIntervals yt_InvalidIntervals yp_TooLarge_InvalidIntervals ys_InvalidIntervals) (fa_cons (kit_oth yc_InvalidMotion yt_InvalidMotion yp_TooLarge_InvalidMotion ys_InvalidMotion) (fa_cons (kit_oth yc_InvalidOperation yt_InvalidOperation yp_TooLarge_InvalidOperation ys_InvalidOperation) (fa_cons (kit_oth yc_InvalidPicture yt_InvalidPicture yp_TooLarge_InvalidPicture ys_InvalidPicture) (fa_cons (kit_oth yc_InvalidPlace yt_InvalidPlace yp_TooLarge_InvalidPlace ys_InvalidPlace) (fa_cons (kit_oth yc_InvalidPoint yt_InvalidPoint yp_TooLarge_InvalidPoint ys_InvalidPoint) (fa_cons (kit_oth yc_InvalidPose yt_InvalidPose yp_TooLarge_InvalidPose ys_InvalidPose) (fa_cons (kit_oth yc_InvalidTurn yt_InvalidTurn yp_TooLarge_InvalidTurn ys_InvalidTurn) (fa_cons (kit_oth yc_NoSteps yt_NoSteps yp_TooLarge_NoSteps ys_NoSteps) (fa_cons (kit_oth yc_NotClosed yt_NotClosed yp_TooLarge_NotClosed ys_NotClosed) (fa_cons (kit_oth yc_NotDrifting yt_NotDrifting yp_TooLarge_NotDrifting ys_NotDrifting) (fa_cons (kit_oth yc_NotEven yt_NotEven yp_TooLarge_NotEven ys_NotEven) (fa_cons (kit_oth yc_Nothing yt_Nothing yp_TooLarge_Nothing ys_Nothing) (fa_cons (kit_oth yc_InvalidSource yt_InvalidSource yp_TooLarge_InvalidSource ys_InvalidSource) (fa_cons (kit_oth yc_InvalidProgram yt_InvalidProgram yp_TooLarge_InvalidProgram ys_InvalidProgram) (fa_cons (kit_oth yc_InvalidTimes yt_InvalidTimes yp_TooLarge_InvalidTimes ys_InvalidTimes) (fa_cons (kit_oth yc_InvalidIndex yt_InvalidIndex yp_TooLarge_InvalidIndex ys_InvalidIndex) (fa_cons (kit_oth yc_InvalidLetter yt_InvalidLetter yp_TooLarge_InvalidLetter ys_InvalidLetter) (fa_cons (kit_oth yc_InvalidName yt_InvalidName yp_TooLarge_InvalidName ys_InvalidName) (fa_cons (kit_oth yc_TooDeep yt_TooDeep yp_TooLarge_TooDeep ys_TooDeep) (fa_cons (kit_self) fa_nil))))))))))))))))))))))))))))))) (fa_cons ((fa_cons (kit_oth yc_InvalidText yt_InvalidText yp_InvalidTimes_InvalidText ys_InvalidText) (fa_cons (kit_oth yc_HasPen yt_HasPen yp_InvalidTimes_HasPen ys_HasPen) (fa_cons (kit_true yc_PlotError yt_PlotError yp_InvalidTimes_PlotError) (fa_cons (kit_oth yc_InvalidArt yt_InvalidArt yp_InvalidTimes_InvalidArt ys_InvalidArt) (fa_cons (kit_oth yc_InvalidCommand yt_InvalidCommand yp_InvalidTimes_InvalidCommand ys_InvalidCommand) (fa_cons (kit_oth yc_InvalidCount yt_InvalidCount yp_InvalidTimes_InvalidCount ys_InvalidCount) (fa_cons (kit_oth yc_InvalidEdge yt_InvalidEdge yp_InvalidTimes_InvalidEdge ys_InvalidEdge) (fa_cons (kit_oth yc_InvalidFace yt_InvalidFace yp_InvalidTimes_InvalidFace ys_InvalidFace) (fa_cons (kit_oth yc_InvalidFaces yt_InvalidFaces yp_InvalidTimes_InvalidFaces ys_InvalidFaces) (fa_cons (kit_oth yc_InvalidIntervals yt_InvalidIntervals yp_InvalidTimes_InvalidIntervals ys_InvalidIntervals) (fa_cons (kit_oth yc_InvalidMotion yt_InvalidMotion yp_InvalidTimes_InvalidMotion ys_InvalidMotion) (fa_cons (kit_oth yc_InvalidOperation yt_InvalidOperation yp_InvalidTimes_InvalidOperation ys_InvalidOperation) (fa_cons (kit_oth yc_InvalidPicture yt_InvalidPicture yp_InvalidTimes_InvalidPicture ys_InvalidPicture) (fa_cons (kit_oth yc_InvalidPlace yt_InvalidPlace yp_InvalidTimes_InvalidPlace ys_InvalidPlace) (fa_cons (kit_oth yc_InvalidPoint yt_InvalidPoint yp_InvalidTimes_InvalidPoint ys_InvalidPoint) (fa_cons (kit_oth yc_InvalidPose yt_InvalidPose yp_InvalidTimes_InvalidPose ys_InvalidPose) (fa_cons (kit_oth yc_InvalidTurn yt_InvalidTurn yp_InvalidTimes_InvalidTurn ys_InvalidTurn) (fa_cons (kit_oth yc_NoSteps yt_NoSteps yp_InvalidTimes_NoSteps ys_NoSteps) (fa_cons (kit_oth yc_NotClosed yt_NotClosed yp_InvalidTimes_NotClosed ys_NotClosed) (fa_cons (kit_oth yc_NotDrifting yt_NotDrifting yp_InvalidTimes_NotDrifting ys_NotDrifting) (fa_cons (kit_oth yc_NotEven yt_NotEven yp_InvalidTimes_NotEven ys_NotEven) (fa_cons (kit_oth yc_Nothing yt_Nothing yp_InvalidTimes_Nothing ys_Nothing) (fa_cons (kit_oth yc_InvalidSource yt_InvalidSource yp_InvalidTimes_InvalidSource ys_InvalidSource) (fa_cons (kit_oth yc_InvalidProgram yt_InvalidProgram yp_InvalidTimes_InvalidProgram ys_InvalidProgram) (fa_cons (kit_self) (fa_cons (kit_oth yc_InvalidIndex yt_InvalidIndex yp_InvalidTimes_InvalidIndex ys_InvalidIndex) (fa_cons (kit_oth yc_InvalidLetter yt_InvalidLetter yp_InvalidTimes_InvalidLetter ys_InvalidLetter) (fa_cons (kit_oth yc_InvalidName yt_InvalidName yp_InvalidTimes_InvalidName ys_InvalidName) (fa_cons (kit_oth yc_TooDeep yt_TooDeep yp_InvalidTimes_TooDeep ys_TooDeep) (fa_cons (kit_oth yc_TooLarge yt_TooLarge yp_InvalidTimes_TooLarge ys_TooLarge) fa_nil))))))))))))))))))))))))))))))) (fa_cons ((fa_cons (kit_oth yc_InvalidText yt_InvalidText yp_TooDeep_InvalidText ys_InvalidText) (fa_cons (kit_oth yc_HasPen yt_HasPen yp_TooDeep_HasPen ys_HasPen) (fa_cons (kit_true yc_PlotError yt_PlotError yp_TooDeep_PlotError) (fa_cons (kit_oth yc_InvalidArt yt_InvalidArt yp_TooDeep_InvalidArt ys_InvalidArt) (fa_cons (kit_oth yc_InvalidCommand yt_InvalidCommand yp_TooDeep_InvalidCommand ys_InvalidCommand) (fa_cons (kit_oth yc_InvalidCount yt_InvalidCount yp_TooDeep_InvalidCount ys_InvalidCount) (fa_cons (kit_oth yc_InvalidEdge yt_InvalidEdge yp_TooDeep_InvalidEdge ys_InvalidEdge) (fa_cons (kit_oth yc_InvalidFace yt_InvalidFace yp_TooDeep_InvalidFace ys_InvalidFace) (fa_cons (kit_oth yc_InvalidFaces yt_InvalidFaces yp_TooDeep_InvalidFaces ys_InvalidFaces) (fa_cons (kit_oth yc_InvalidIntervals yt_InvalidIntervals yp_TooDeep_InvalidIntervals ys_InvalidIntervals) (fa_cons (kit_oth yc_InvalidMotion yt_InvalidMotion yp_TooDeep_InvalidMotion ys_InvalidMotion) (fa_cons (kit_oth yc_InvalidOperation yt_InvalidOperation yp_TooDeep_InvalidOperation ys_InvalidOperation) (fa_cons (kit_oth yc_InvalidPicture yt_InvalidPicture yp_TooDeep_InvalidPicture ys_InvalidPicture) (fa_cons (kit_oth yc_InvalidPlace yt_InvalidPlace yp_TooDeep_InvalidPlace ys_InvalidPlace) (fa_cons (kit_oth yc_InvalidPoint yt_InvalidPoint yp_TooDeep_InvalidPoint ys_InvalidPoint) (fa_cons (kit_oth yc_InvalidPose yt_InvalidPose yp_TooDeep_InvalidPose ys_InvalidPose) (fa_cons (kit_oth yc_InvalidTurn yt_InvalidTurn yp_TooDeep_InvalidTurn ys_InvalidTurn) (fa_cons (kit_oth yc_NoSteps yt_NoSteps yp_TooDeep_NoSteps ys_NoSteps) (fa_cons (kit_oth yc_NotClosed yt_NotClosed yp_TooDeep_NotClosed ys_NotClosed) (fa_cons (kit_oth yc_NotDrifting yt_NotDrifting yp_TooDeep_NotDrifting ys_NotDrifting) (fa_cons (kit_oth yc_NotEven yt_NotEven yp_TooDeep_NotEven ys_NotEven) (fa_cons (kit_oth yc_Nothing yt_Nothing yp_TooDeep_Nothing ys_Nothing) (fa_cons (kit_oth yc_InvalidSource yt_InvalidSource yp_TooDeep_InvalidSource ys_InvalidSource) (fa_cons (kit_oth yc_InvalidProgram yt_InvalidProgram yp_TooDeep_InvalidProgram ys_InvalidProgram) (fa_cons (kit_oth yc_InvalidTimes yt_InvalidTimes yp_TooDeep_InvalidTimes ys_InvalidTimes) (fa_cons (kit_oth yc_InvalidIndex yt_InvalidIndex yp_TooDeep_InvalidIndex ys_InvalidIndex) (fa_cons (kit_oth yc_InvalidLetter yt_InvalidLetter yp_TooDeep_InvalidLetter ys_InvalidLetter) (fa_cons (kit_oth yc_InvalidName yt_InvalidName yp_TooDeep_InvalidName ys_InvalidName) (fa_cons (kit_self) (fa_cons (kit_oth yc_TooLarge yt_TooLarge yp_TooDeep_TooLarge ys_TooLarge) fa_nil))))))))))))))))))))))))))))))) (fa_cons ((fa_cons (kit_oth yc_InvalidText yt_InvalidText yp_PlotError_InvalidText ys_InvalidText) (fa_cons (kit_oth yc_HasPen yt_HasPen yp_PlotError_HasPen ys_HasPen) (fa_cons (kit_self) (fa_cons (kit_oth yc_InvalidArt yt_InvalidArt yp_PlotError_InvalidArt ys_InvalidArt) (fa_cons (kit_oth yc_InvalidCommand yt_InvalidCommand yp_PlotError_InvalidCommand ys_InvalidCommand) (fa_cons (kit_oth yc_InvalidCount yt_InvalidCount yp_PlotError_InvalidCount ys_InvalidCount) (fa_cons (kit_oth yc_InvalidEdge yt_InvalidEdge yp_PlotError_InvalidEdge ys_InvalidEdge) (fa_cons (kit_oth yc_InvalidFace yt_InvalidFace yp_PlotError_InvalidFace ys_InvalidFace) (fa_cons (kit_oth yc_InvalidFaces yt_InvalidFaces yp_PlotError_InvalidFaces ys_InvalidFaces) (fa_cons (kit_oth yc_InvalidIntervals yt_InvalidIntervals yp_PlotError_InvalidIntervals ys_InvalidIntervals) (fa_cons (kit_oth yc_InvalidMotion yt_InvalidMotion yp_PlotError_InvalidMotion ys_InvalidMotion) (fa_cons (kit_oth yc_InvalidOperation yt_InvalidOperation yp_PlotError_InvalidOperation ys_InvalidOperation) (fa_cons (kit_oth yc_InvalidPicture yt_InvalidPicture yp_PlotError_InvalidPicture ys_InvalidPicture) (fa_cons (kit_oth yc_InvalidPlace yt_InvalidPlace yp_PlotError_InvalidPlace ys_InvalidPlace) (fa_cons (kit_oth yc_InvalidPoint yt_InvalidPoint yp_PlotError_InvalidPoint ys_InvalidPoint) (fa_cons (kit_oth yc_InvalidPose yt_InvalidPose yp_PlotError_InvalidPose ys_InvalidPose) (fa_cons (kit_oth yc_InvalidTurn yt_InvalidTurn yp_PlotError_InvalidTurn ys_InvalidTurn) (fa_cons (kit_oth yc_NoSteps yt_NoSteps yp_PlotError_NoSteps ys_NoSteps) (fa_cons (kit_oth yc_NotClosed yt_NotClosed yp_PlotError_NotClosed ys_NotClosed) (fa_cons (kit_oth yc_NotDrifting yt_NotDrifting yp_PlotError_NotDrifting ys_NotDrifting) (fa_cons (kit_oth yc_NotEven yt_NotEven yp_PlotError_NotEven ys_NotEven) (fa_cons (kit_oth yc_Nothing yt_Nothing yp_PlotError_Nothing ys_Nothing) (fa_cons (kit_oth yc_InvalidSource yt_InvalidSource yp_PlotError_InvalidSource ys_InvalidSource) (fa_cons (kit_oth yc_InvalidProgram yt_InvalidProgram yp_PlotError_InvalidProgram ys_InvalidProgram) (fa_cons (kit_oth yc_InvalidTimes yt_InvalidTimes yp_PlotError_InvalidTimes ys_InvalidTimes) (fa_cons (kit_oth yc_InvalidIndex yt_InvalidIndex yp_PlotError_InvalidIndex ys_InvalidIndex) (fa_cons (kit_oth yc_InvalidLetter yt_InvalidLetter yp_PlotError_InvalidLetter ys_InvalidLetter) (fa_cons (kit_oth yc_InvalidName yt_InvalidName yp_PlotError_InvalidName ys_InvalidName) (fa_cons (kit_oth yc_TooDeep yt_TooDeep yp_PlotError_TooDeep ys_TooDeep) (fa_cons (kit_oth yc_TooLarge yt_TooLarge yp_PlotError_TooLarge ys_TooLarge) fa_nil))))))))))))))))))))))))))))))) fa_nil)))))) (fa_cons (kit_ve xv_HasPen) (fa_cons (kit_ve xv_InvalidProgram) (fa_cons (kit_ve xv_TooLarge) (fa_cons (kit_ve xv_InvalidTimes) (fa_cons (kit_ve xv_TooDeep) (fa_cons (kit_ve xv_PlotError) fa_nil)))))) (fa_cons (⟨xg_InvalidText, xn_InvalidText, xb_InvalidText, xd_InvalidText, xa_InvalidText, xs, xz, xo_InvalidText⟩) (fa_cons (⟨xg_InvalidIndex, xn_InvalidIndex, xb_InvalidIndex, xd_InvalidIndex, xa_InvalidIndex, xs, xz, xo_InvalidIndex⟩) (fa_cons (⟨xg_InvalidLetter, xn_InvalidLetter, xb_InvalidLetter, xd_InvalidLetter, xa_InvalidLetter, xs, xz, xo_InvalidLetter⟩) (fa_cons (⟨xg_InvalidName, xn_InvalidName, xb_InvalidName, xd_InvalidName, xa_InvalidName, xs, xz, xo_InvalidName⟩) (fa_cons (⟨xg_InvalidPicture, xn_InvalidPicture, xb_InvalidPicture, xd_InvalidPicture, xa_InvalidPicture, xs, xz, xo_InvalidPicture⟩) (fa_cons (⟨xg_InvalidMotion, xn_InvalidMotion, xb_InvalidMotion, xd_InvalidMotion, xa_InvalidMotion, xs, xz, xo_InvalidMotion⟩) (fa_cons (⟨xg_InvalidPose, xn_InvalidPose, xb_InvalidPose, xd_InvalidPose, xa_InvalidPose, xs, xz, xo_InvalidPose⟩) (fa_cons (⟨xg_InvalidPoint, xn_InvalidPoint, xb_InvalidPoint, xd_InvalidPoint, xa_InvalidPoint, xs, xz, xo_InvalidPoint⟩) (fa_cons (⟨xg_InvalidEdge, xn_InvalidEdge, xb_InvalidEdge, xd_InvalidEdge, xa_InvalidEdge, xs, xz, xo_InvalidEdge⟩) (fa_cons (⟨xg_InvalidTurn, xn_InvalidTurn, xb_InvalidTurn, xd_InvalidTurn, xa_InvalidTurn, xs, xz, xo_InvalidTurn⟩) (fa_cons (⟨xg_InvalidFace, xn_InvalidFace, xb_InvalidFace, xd_InvalidFace, xa_InvalidFace, xs, xz, xo_InvalidFace⟩) (fa_cons (⟨xg_InvalidFaces, xn_InvalidFaces, xb_InvalidFaces, xd_InvalidFaces, xa_InvalidFaces, xs, xz, xo_InvalidFaces⟩) (fa_cons (⟨xg_NotEven, xn_NotEven, xb_NotEven, xd_NotEven, xa_NotEven, xs, xz, xo_NotEven⟩) (fa_cons (⟨xg_NotClosed, xn_NotClosed, xb_NotClosed, xd_NotClosed, xa_NotClosed, xs, xz, xo_NotClosed⟩) (fa_cons (⟨xg_Nothing, xn_Nothing, xb_Nothing, xd_Nothing, xa_Nothing, xs, xz, xo_Nothing⟩) (fa_cons (⟨xg_InvalidIntervals, xn_InvalidIntervals, xb_InvalidIntervals, xd_InvalidIntervals, xa_InvalidIntervals, xs, xz, xo_InvalidIntervals⟩) (fa_cons (⟨xg_InvalidPlace, xn_InvalidPlace, xb_InvalidPlace, xd_InvalidPlace, xa_InvalidPlace, xs, xz, xo_InvalidPlace⟩) (fa_cons (⟨xg_NotDrifting, xn_NotDrifting, xb_NotDrifting, xd_NotDrifting, xa_NotDrifting, xs, xz, xo_NotDrifting⟩) (fa_cons (⟨xg_InvalidCount, xn_InvalidCount, xb_InvalidCount, xd_InvalidCount, xa_InvalidCount, xs, xz, xo_InvalidCount⟩) (fa_cons (⟨xg_NoSteps, xn_NoSteps, xb_NoSteps, xd_NoSteps, xa_NoSteps, xs, xz, xo_NoSteps⟩) (fa_cons (⟨xg_InvalidOperation, xn_InvalidOperation, xb_InvalidOperation, xd_InvalidOperation, xa_InvalidOperation, xs, xz, xo_InvalidOperation⟩) (fa_cons (⟨xg_InvalidArt, xn_InvalidArt, xb_InvalidArt, xd_InvalidArt, xa_InvalidArt, xs, xz, xo_InvalidArt⟩) (fa_cons (⟨xg_InvalidCommand, xn_InvalidCommand, xb_InvalidCommand, xd_InvalidCommand, xa_InvalidCommand, xs, xz, xo_InvalidCommand⟩) (fa_cons (⟨xg_InvalidSource, xn_InvalidSource, xb_InvalidSource, xd_InvalidSource, xa_InvalidSource, xs, xz, xo_InvalidSource⟩) fa_nil)))))))))))))))))))))))) (fa_cons (kit_true yc_PlotError yt_PlotError yp_InvalidText_PlotError) (fa_cons (kit_true yc_PlotError yt_PlotError yp_InvalidIndex_PlotError) (fa_cons (kit_true yc_PlotError yt_PlotError yp_InvalidLetter_PlotError) (fa_cons (kit_true yc_PlotError yt_PlotError yp_InvalidName_PlotError) (fa_cons (kit_true yc_PlotError yt_PlotError yp_InvalidPicture_PlotError) (fa_cons (kit_true yc_PlotError yt_PlotError yp_InvalidMotion_PlotError) (fa_cons (kit_true yc_PlotError yt_PlotError yp_InvalidPose_PlotError) (fa_cons (kit_true yc_PlotError yt_PlotError yp_InvalidPoint_PlotError) (fa_cons (kit_true yc_PlotError yt_PlotError yp_InvalidEdge_PlotError) (fa_cons (kit_true yc_PlotError yt_PlotError yp_InvalidTurn_PlotError) (fa_cons (kit_true yc_PlotError yt_PlotError yp_InvalidFace_PlotError) (fa_cons (kit_true yc_PlotError yt_PlotError yp_InvalidFaces_PlotError) (fa_cons (kit_true yc_PlotError yt_PlotError yp_NotEven_PlotError) (fa_cons (kit_true yc_PlotError yt_PlotError yp_NotClosed_PlotError) (fa_cons (kit_true yc_PlotError yt_PlotError yp_Nothing_PlotError) (fa_cons (kit_true yc_PlotError yt_PlotError yp_InvalidIntervals_PlotError) (fa_cons (kit_true yc_PlotError yt_PlotError yp_InvalidPlace_PlotError) (fa_cons (kit_true yc_PlotError yt_PlotError yp_NotDrifting_PlotError) (fa_cons (kit_true yc_PlotError yt_PlotError yp_InvalidCount_PlotError) (fa_cons (kit_true yc_PlotError yt_PlotError yp_NoSteps_PlotError) (fa_cons (kit_true yc_PlotError yt_PlotError yp_InvalidOperation_PlotError) (fa_cons (kit_true yc_PlotError yt_PlotError yp_InvalidArt_PlotError) (fa_cons (kit_true yc_PlotError yt_PlotError yp_InvalidCommand_PlotError) (fa_cons (kit_true yc_PlotError yt_PlotError yp_InvalidSource_PlotError) fa_nil)))))))))))))))))))))))) (fa_cons (kit_ve xv_InvalidText) (fa_cons (kit_ve xv_InvalidIndex) (fa_cons (kit_ve xv_InvalidLetter) (fa_cons (kit_ve xv_InvalidName) (fa_cons (kit_ve xv_InvalidPicture) (fa_cons (kit_ve xv_InvalidMotion) (fa_cons (kit_ve xv_InvalidPose) (fa_cons (kit_ve xv_InvalidPoint) (fa_cons (kit_ve xv_InvalidEdge) (fa_cons (kit_ve xv_InvalidTurn) (fa_cons (kit_ve xv_InvalidFace) (fa_cons (kit_ve xv_InvalidFaces) (fa_cons (kit_ve xv_NotEven) (fa_cons (kit_ve xv_NotClosed) (fa_cons (kit_ve xv_Nothing) (fa_cons (kit_ve xv_InvalidIntervals) (fa_cons (kit_ve xv_InvalidPlace) (fa_cons (kit_ve xv_NotDrifting) (fa_cons (kit_ve xv_InvalidCount) (fa_cons (kit_ve xv_NoSteps) (fa_cons (kit_ve xv_InvalidOperation) (fa_cons (kit_ve xv_InvalidArt) (fa_cons (kit_ve xv_InvalidCommand) (fa_cons (kit_ve xv_InvalidSource) fa_nil))))))))))))))))))))))))
    · exact xTest_ok (fa_cons (PySem.W.exm_ref zb zd zt zp_InvalidText) (fa_cons (PySem.W.exm_ref zb zd zt zp_HasPen) (fa_cons (PySem.W.exm_ref zb zd zt zp_InvalidProgram) (fa_cons (PySem.W.exm_ref zb zd zt zp_TooLarge) (fa_cons (PySem.W.exm_ref zb zd zt zp_InvalidTimes) (fa_cons (PySem.W.exm_ref zb zd zt zp_TooDeep) fa_nil))))))
    · exact n_Program_own_depth
    · exact n_Program_own_length
    · exact n_Program_own_nodes
    · exact n_Program_own_text
    · exact n_Program_own_words
    · exact a1
    · exact i1
    · exact a2
    · exact i2
    · exact a3
    · exact i3
    · exact a4
    · exact i4
    · exact a18
    · exact i18
    · exact a21
    · exact i21
    · exact a23
    · exact i23
    · exact a26
    · exact i26
    · exact a28
    · exact i28
    · exact ⟨_, pa30, pb30, pc30, _, pd30⟩
    · exact sf_Program___add__
    · exact ⟨sf_Program___add__, a23, i23⟩
    · exact ⟨⟨sf_Program___add__, a23, i23⟩, ⟨_, r_Program___add__, .inl rfl⟩, fun n hn => by simp only [bltTys, List.mem_cons, List.not_mem_nil, or_false] at hn; rcases hn with rfl | rfl | rfl | rfl | rfl | rfl | rfl; exact ⟨_, _, u_Program___add___NoneType, w_Program___add___NoneType, qq_Program_NoneType⟩; exact ⟨_, _, u_Program___add___bool, w_Program___add___bool, qq_Program_bool⟩; exact ⟨_, _, u_Program___add___int, w_Program___add___int, qq_Program_int⟩; exact ⟨_, _, u_Program___add___str, w_Program___add___str, qq_Program_str⟩; exact ⟨_, _, u_Program___add___tuple, w_Program___add___tuple, qq_Program_tuple⟩; exact ⟨_, _, u_Program___add___list, w_Program___add___list, qq_Program_list⟩; exact ⟨_, _, u_Program___add___dict, w_Program___add___dict, qq_Program_dict⟩⟩
    · exact sf_Program___mul__
    · exact ⟨sf_Program___mul__, a26, i26⟩
    · exact ⟨⟨sf_Program___mul__, a26, i26⟩, ⟨_, r_Program___mul__, .inl rfl⟩, fun n hn => by simp only [bltTys, List.mem_cons, List.not_mem_nil, or_false] at hn; rcases hn with rfl | rfl | rfl | rfl | rfl | rfl | rfl; exact ⟨_, _, u_Program___mul___NoneType, w_Program___mul___NoneType, qq_Program_NoneType⟩; exact ⟨_, _, u_Program___mul___bool, w_Program___mul___bool, qq_Program_bool⟩; exact ⟨_, _, u_Program___mul___int, w_Program___mul___int, qq_Program_int⟩; exact ⟨_, _, u_Program___mul___str, w_Program___mul___str, qq_Program_str⟩; exact ⟨_, _, u_Program___mul___tuple, w_Program___mul___tuple, qq_Program_tuple⟩; exact ⟨_, _, u_Program___mul___list, w_Program___mul___list, qq_Program_list⟩; exact ⟨_, _, u_Program___mul___dict, w_Program___mul___dict, qq_Program_dict⟩⟩
    · exact ⟨fun n hn => by simp only [bltTys, List.mem_cons, List.not_mem_nil, or_false] at hn; rcases hn with rfl | rfl | rfl | rfl | rfl | rfl | rfl; exact kit_sub ic_Program tc_Program is_Program_NoneType; exact kit_sub ic_Program tc_Program is_Program_bool; exact kit_sub ic_Program tc_Program is_Program_int; exact kit_sub ic_Program tc_Program is_Program_str; exact kit_sub ic_Program tc_Program is_Program_tuple; exact kit_sub ic_Program tc_Program is_Program_list; exact kit_sub ic_Program tc_Program is_Program_dict, fun D hD => by simp only [okC, Bool.or_eq_true, beq_iff_eq, or_assoc] at hD; rcases hD with hD <;> rw [hD]; exact (kit_self.trans (show some true = some (C0 == C0) by rw [beq_self_eq_true]))⟩
    · exact ⟨_, PySem.W.mg_of X G kg_REVERSED, (kd_cons (kd_one kl_REVERSED kk_REVERSED kv_REVERSED_0) (kd_cons (kd_one kl_REVERSED kk_REVERSED kv_REVERSED_1) (kd_cons (kd_one kl_REVERSED kk_REVERSED kv_REVERSED_2) (kd_cons (kd_one kl_REVERSED kk_REVERSED kv_REVERSED_3) kd_nil))))⟩
    · exact fun D hD => by simp only [okC, Bool.or_eq_true, beq_iff_eq, or_assoc] at hD; rcases hD with hD <;> rw [hD]; exact kit_tyno (by decide +kernel) iy_Program_int
  exact ⟨PySem.W.fnOf "law" "law" (defArgs s_law) (defBody s_law) (defScope s_law) .none kV31 dc31 pm31 an31 cd31 ct31, fun s v => .of_eq rfl, fun base _ _ => ⟨fun i => ([C0, C1, C2, C3, C4, C5, C6, C7, C8, C9, C10, C11, C12, C13, C14, C15, C16, C17, C18, C19, C20, C21, C22, C23, C24, C25, C26, C27, C28, C29, C30] : List Addr).getD i 0, (cs_inj (l := [C0, C1, C2, C3, C4, C5, C6, C7, C8, C9, C10, C11, C12, C13, C14, C15, C16, C17, C18, C19, C20, C21, C22, C23, C24, C25, C26, C27, C28, C29, C30]) (fun i hi => cs_getD hi) nd), k_law_ (P := l.prog) (w := w) (base := base) T⟩⟩
noncomputable def W (l : List Nat) : Str := ⟨l.toArray⟩
theorem W_cps (l : List Nat) : (W l).cps.toList = l := rfl
theorem W_len (l : List Nat) : (W l).length = l.length := by show l.toArray.size = _; rw [List.size_toArray]
theorem W_tl (l : List Nat) : TL.tl (W l) = l := rfl
theorem W_iff (l m : List Nat) : (W l = W m) ↔ l = m := ⟨fun h => by have := congrArg (fun s => s.cps.toList) h; exact this, fun h => by rw [h]⟩
theorem cutS_W (l : List Nat) (lo hi : Option Int) : cutS (W l) lo hi = W (cutL l lo hi) := by
  unfold cutS cutL
  rw [W_len]
  rfl
theorem W_tail (l : List Nat) : cutS (W l) (some 1) none = W (l.drop 1) := by rw [cutS_W, cut_from1]
theorem W_head (l : List Nat) : cutS (W l) none (some 1) = W (l.take 1) := by rw [cutS_W, cut_to1]
theorem W_app (l m : List Nat) : W l ++ W m = W (l ++ m) := TL.ext_tl (by rw [TL.tl_append]; rfl)
theorem inS_W (c : Nat) (z : Str) : inS (W [c]) z = decide (c ∈ z.cps.toList) := rfl
theorem lit_ (s : String) (l : List Nat) (h : s.toList.map Char.toNat = l) : (Str.ofString s) = W l := TL.ext_tl (by rw [TL.tl_ofString, h]; rfl)
theorem lit_open : Str.ofString "(" = W [40] := lit_ _ _ rfl
theorem lit_close : Str.ofString ")" = W [41] := lit_ _ _ rfl
theorem lit_0 : Str.ofString "0" = W [48] := lit_ _ _ rfl
theorem lit_nil : Str.ofString "" = W [] := lit_ _ _ rfl
theorem lit_sp : Str.ofString " " = W [32] := lit_ _ _ rfl
theorem lit_dig : Str.ofString "0123456789" = W [48, 49, 50, 51, 52, 53, 54, 55, 56, 57] := lit_ _ _ rfl
theorem mem_dig (c : Nat) : c ∈ ([48, 49, 50, 51, 52, 53, 54, 55, 56, 57] : List Nat) ↔ 48 ≤ c ∧ c ≤ 57 := ⟨fun h => (by decide : ∀ x ∈ ([48, 49, 50, 51, 52, 53, 54, 55, 56, 57] : List Nat), 48 ≤ x ∧ x ≤ 57) c h, fun h => by
  have := (by decide : ∀ k < 10, 48 + k ∈ ([48, 49, 50, 51, 52, 53, 54, 55, 56, 57] : List Nat)) (c - 48) (by omega)
  rwa [show 48 + (c - 48) = c by omega] at this⟩
theorem lit_let : Str.ofString "fblrud" = W [102, 98, 108, 114, 117, 100] := lit_ _ _ rfl
theorem W_str (n : Nat) : (Str.ofString (toString ((n : Nat) : Int))) = W (TL.numL n) := TL.ext_tl (by rw [TL.tl_num]; rfl)
theorem str_num {n : Nat} (h : n < 2 ^ 1000) : dStr1 [.int (n : Int)] = some (.str (W (TL.numL n))) := by
  have h1 := log2_lt h
  show (if ((n : Int)).natAbs.log2 < 1920 then some (D.str (Str.ofString (toString (n : Int)))) else none) = _
  rw [if_pos (by rw [Int.natAbs_natCast]; omega), W_str]
theorem num_head : ∀ n : Nat, ∃ c r, TL.numL n = c :: r ∧ (1 ≤ n → c ≠ 48) := fun n => by
  induction n using Nat.strongRecOn with
  | ind n ih =>
    by_cases h : n < 10
    · exact ⟨_, [], TL.numL_lt h, by omega⟩
    · obtain ⟨c, r, e, q⟩ := ih (n / 10) (by omega)
      refine ⟨c, r ++ [48 + n % 10], by rw [TL.numL_step (by omega), e]; rfl, fun _ => q (by omega)⟩
theorem num_dig (n : Nat) : ∀ c ∈ TL.numL n, 48 ≤ c ∧ c ≤ 57 := fun c hc => by
  have := TL.numL_digits n
  exact this c hc
theorem int_W {n : Nat} (h : n < 10 ^ 600) : dInt2 [.str (W (TL.numL n))] = some (.int n) := by
  have hl := TL.numL_len (n := n) (k := 600) (by decide) h
  show (if (W (TL.numL n)).length ≤ 640 then (PySem.intText? (W (TL.numL n))).map D.int else none) = _
  rw [if_pos (by rw [W_len]; omega), ← W_str, TL.int_num (by omega)]
  rfl
inductive Nd where
  | st (c : Nat) (n : Nat)
  | rp (b : List Nd) (n : Nat)
noncomputable def letters : List Nat := [102, 98, 108, 114, 117, 100]
noncomputable def lw (c n : Nat) : List Nat := c :: if n = 1 then [] else TL.numL n
mutual
noncomputable def wd : Nd → List (List Nat)
  | .st c n => [lw c n]
  | .rp b n => [40] :: (wds b ++ [41 :: TL.numL n])
noncomputable def wds : List Nd → List (List Nat)
  | [] => []
  | a :: r => wd a ++ wds r
end
mutual
noncomputable def enc : Nd → D
  | .st c n => .tup [.str (W [c]), .int n]
  | .rp b n => .tup [.tup (encs b), .int n]
noncomputable def encs : List Nd → List D
  | [] => []
  | a :: r => enc a :: encs r
end
mutual
noncomputable def nlen : Nd → Nat
  | .st _ n => n
  | .rp b n => n * nlens b
noncomputable def nlens : List Nd → Nat
  | [] => 0
  | a :: r => nlen a + nlens r
end
mutual
noncomputable def ndp : Nd → Nat
  | .st _ _ => 0
  | .rp b _ => 1 + ndps b
noncomputable def ndps : List Nd → Nat
  | [] => 0
  | a :: r => max (ndp a) (ndps r)
end
mutual
noncomputable def nok : Nd → Prop
  | .st c n => c ∈ letters ∧ 1 ≤ n ∧ n ≤ 1000000000000000000000000000000
  | .rp b n => b ≠ [] ∧ 2 ≤ n ∧ n ≤ 1000000000000000000000000000000 ∧ noks b
noncomputable def noks : List Nd → Prop
  | [] => True
  | a :: r => nok a ∧ noks r
end
theorem wds_app : ∀ a b : List Nd, wds (a ++ b) = wds a ++ wds b
  | [], b => rfl
  | x :: r, b => by rw [List.cons_append, wds, wds, wds_app r b, List.append_assoc]
theorem ndps_app : ∀ a b : List Nd, ndps (a ++ b) = max (ndps a) (ndps b)
  | [], b => by rw [ndps, List.nil_append]; omega
  | x :: r, b => by rw [List.cons_append, ndps, ndps, ndps_app r b, Nat.max_assoc]
theorem noks_app : ∀ a b : List Nd, noks (a ++ b) ↔ noks a ∧ noks b
  | [], b => by rw [noks, List.nil_append]; simp
  | x :: r, b => by rw [List.cons_append, noks, noks, noks_app r b, and_assoc]
theorem wd_pos : ∀ a : Nd, 1 ≤ (wd a).length
  | .st c n => by rw [wd]; simp
  | .rp b n => by rw [wd]; simp
theorem len_wds : ∀ a : List Nd, a.length ≤ (wds a).length
  | [] => Nat.zero_le _
  | x :: r => by
    have := len_wds r
    have := wd_pos x
    rw [wds, List.length_cons, List.length_append]; omega
mutual
theorem nlen_lt : ∀ a : Nd, nok a → nlen a ≤ 2 ^ (100 * (wd a).length)
  | .st c n, h => by
    rw [nok] at h
    rw [nlen, wd]
    have : (2 : Nat) ^ 100 = 1267650600228229401496703205376 := by decide
    show n ≤ 2 ^ (100 * 1)
    omega
  | .rp b n, h => by
    rw [nok] at h
    have ih := nlens_lt b h.2.2.2
    rw [nlen, wd, List.length_cons, List.length_append, List.length_singleton]
    have e : 100 * ((wds b).length + 1 + 1) = 100 + (100 * (wds b).length + 100) := by omega
    rw [e, Nat.pow_add]
    have h1 : n ≤ 2 ^ 100 := by have : (2 : Nat) ^ 100 = 1267650600228229401496703205376 := by decide
                                omega
    refine Nat.le_trans (Nat.mul_le_mul h1 ih) (Nat.mul_le_mul_left _ ?_)
    exact Nat.pow_le_pow_right (by decide) (by omega)
theorem nlens_lt : ∀ a : List Nd, noks a → nlens a ≤ 2 ^ (100 * (wds a).length)
  | [], _ => by rw [nlens]; exact Nat.zero_le _
  | a :: r, h => by
    rw [noks] at h
    have h1 := nlen_lt a h.1
    have h2 := nlens_lt r h.2
    have hp := wd_pos a
    rw [nlens, wds, List.length_append]
    cases r with
    | nil =>
      rw [nlens, wds, List.length_nil, Nat.add_zero, Nat.add_zero]; exact h1
    | cons b r =>
      have hq := wd_pos b
      have hq2 : 1 ≤ (wds (b :: r)).length := by rw [wds, List.length_append]; omega
      have e1 : 2 ^ (100 * (wd a).length) ≤ 2 ^ (100 * ((wd a).length + (wds (b :: r)).length) - 1) := Nat.pow_le_pow_right (by decide) (by omega)
      have e2 : 2 ^ (100 * (wds (b :: r)).length) ≤ 2 ^ (100 * ((wd a).length + (wds (b :: r)).length) - 1) := Nat.pow_le_pow_right (by decide) (by omega)
      have e3 : 2 ^ (100 * ((wd a).length + (wds (b :: r)).length)) = 2 ^ (100 * ((wd a).length + (wds (b :: r)).length) - 1) * 2 := by
        rw [← Nat.pow_succ]; congr 1; omega
      omega
end
theorem chain_le {a b c : SD → ER D} {sd : SD} {i j k : Int} (h1 : a sd = .ok (.int i) sd) (h2 : b sd = .ok (.int j) sd) (h3 : c sd = .ok (.int k) sd) : mChain dLe dLe a b c sd = .ok (.bl (decide (i ≤ j) && decide (j ≤ k))) sd := by
  unfold mChain
  simp only [h1, h2, h3, ER.bind, dLe, ER.opt]
  by_cases h : i ≤ j <;> simp [h]
theorem bools_map {α : Type} (f : α → Bool) : ∀ l : List α, boolsOf (l.map fun x => D.bl (f x)) = some (l.map f)
  | [] => rfl
  | x :: r => by rw [List.map_cons, boolsOf, bools_map f r]; rfl
theorem is_number_ok (cs : Nat → Addr) {n : Nat} (h1 : 2 ≤ n) (h2 : n ≤ 1000000000000000000000000000000) : m_is_number cs [.fz (.str (W (TL.numL n)))] = .ok (.fz (.bl true)) ⟨[], [.fz (.str (W (TL.numL n)))]⟩ := by
  obtain ⟨c, r, e, hc⟩ := num_head n
  have hl := TL.numL_len (n := n) (k := 31) (by decide) (by omega)
  have hd := num_dig n
  have hi := int_W (n := n) (by
    have : (10 : Nat) ^ 31 ≤ 10 ^ 600 := Nat.pow_le_pow_right (by decide) (by decide)
    omega)
  generalize TL.numL n = l at *
  have hl1 : 1 ≤ l.length := by rw [e]; simp
  have dl : dLen [.str (W l)] = some (.int l.length) := by
    show (if (W l).length ≤ 16777216 then some (D.int (W l).length) else none) = _
    rw [W_len, if_pos (by omega)]
  have d0 : dIx (.str (W l)) (.int 0) = some (.str (W [c])) := by
    show (if (W l).length ≤ 16777216 then (atI l 0).map (fun c => D.str ⟨#[c]⟩) else none) = _
    rw [W_len, if_pos (by omega), e, show atI (c :: r) (0 : Int) = some c from atI_of (k := 0) rfl]
    rfl
  have q0 : dEq (.str (W [c])) (.str (Str.ofString "0")) = some (.bl false) := by
    have : ¬ W [c] = W [48] := fun z => by rw [W_iff] at z; simp at z; exact hc (by omega) z
    rw [lit_0]
    simp [dEq, eqB_str, this]
  have s2 : m_is_number_2 cs ⟨[.ow (.fz (.str (W l))), .un], [.fz (.str (W l))]⟩ = .nx ⟨[.ow (.fz (.str (W l))), .un], [.fz (.str (W l))]⟩ := by
    have ch := chain_le (a := mC (.int 1)) (b := mCall dLen (mCons (mVar 0) mNil)) (c := mC (.int 31)) (sd := ⟨[.ow (.fz (.str (W l))), .un], [.fz (.str (W l))]⟩) (i := 1) (j := l.length) (k := 31) rfl (by simp [mCall, mCons, mVar, mNil, ER.bind, dl, ER.opt]) rfl
    have z1 : (1 : Int) ≤ l.length := by omega
    have z2 : (l.length : Int) ≤ 31 := by omega
    simp only [z1, z2, decide_true, Bool.and_self] at ch
    simp only [m_is_number_2, sIf, mOr, mNot, mTest, ch, ER.bind, Bool.not_true, Bool.false_eq_true, if_false, mOp, mVar, List.getElem?_cons_zero, mC, d0, ER.opt, q0, ER.stm, sNil]
  have c1 : m_is_number_c1 cs ⟨[.ow (.fz (.str (W l))), .un], [.fz (.str (W l))]⟩ = .ok (.ol ((l.map fun _ => D.bl true).map .fz)) ⟨[.ow (.fz (.str (W l))), .un], [.fz (.str (W l))]⟩ :=
    mComp_map l (fun c => D.str (W [c])) (fun _ => D.bl true) rfl (by omega) fun c hc => ⟨⟨[.ow (.fz (.str (W l))), .ow (.fz (.str (W [c])))], [.fz (.str (W l))]⟩, rfl, rfl, by
      have hh := hd c hc
      have q : inS (W [c]) (Str.ofString "0123456789") = true := by
        rw [lit_dig, inS_W, W_cps]
        exact decide_eq_true ((mem_dig c).mpr hh)
      show ER.opt (dIn false (.str (W [c])) (.str (Str.ofString "0123456789"))) _ = _
      show ER.opt (some (D.bl (inS (W [c]) (Str.ofString "0123456789") != false))) _ = _
      rw [q]; rfl⟩
  have v1 : OT.views ((l.map fun _ => D.bl true).map .fz) = l.map fun _ => D.bl true := views_fz _
  have a1 : dAll [.lst (l.map fun _ => D.bl true)] = some (.bl true) := by
    show (boolsOf _).map _ = _
    rw [bools_map (fun _ => true)]
    simp
  have ch := chain_le (a := mC (.int 2)) (b := mCall dInt2 (mCons (mVar 0) mNil)) (c := mC (.int 1000000000000000000000000000000)) (sd := ⟨[.ow (.fz (.str (W l))), .un], [.fz (.str (W l))]⟩) (i := 2) (j := n) (k := 1000000000000000000000000000000) rfl (by simp [mCall, mCons, mVar, mNil, ER.bind, hi, ER.opt]) rfl
  have z1 : (2 : Int) ≤ n := by omega
  have z2 : (n : Int) ≤ 1000000000000000000000000000000 := by omega
  simp only [z1, z2, decide_true, Bool.and_self] at ch
  have s3 : m_is_number_3 cs ⟨[.ow (.fz (.str (W l))), .un], [.fz (.str (W l))]⟩ = .rt (.fz (.bl true)) ⟨[.ow (.fz (.str (W l))), .un], [.fz (.str (W l))]⟩ := by
    have a2 : mCall dAll (mCons (mView (m_is_number_c1 cs)) mNil) ⟨[.ow (.fz (.str (W l))), .un], [.fz (.str (W l))]⟩ = .ok (.bl true) ⟨[.ow (.fz (.str (W l))), .un], [.fz (.str (W l))]⟩ := by
      simp only [mCall, mCons, mView, c1, mNil, ER.bind, OT.view, v1, a1, ER.opt]
    simp only [m_is_number_3, sRet, mOwn, mAndV, a2, ch, ER.bind, ER.stm]
  have ent : entry 2 [.fz (.str (W l))] = ⟨[.ow (.fz (.str (W l))), .un], [.fz (.str (W l))]⟩ := rfl
  simp only [m_is_number, asDef, ent, sSeq, s2, s3, Fl.seq]
theorem step_word_ok (cs : Nat → Addr) {c n : Nat} (hc : c ∈ letters) (h1 : 1 ≤ n) (h2 : n ≤ 1000000000000000000000000000000) : m_is_step_word cs [.fz (.str (W (lw c n)))] = .ok (.fz (.bl true)) ⟨[], [.fz (.str (W (lw c n)))]⟩ := by
  have hh : cutS (W (lw c n)) none (some 1) = W [c] := by rw [W_head]; rfl
  have ht : cutS (W (lw c n)) (some 1) none = W (if n = 1 then [] else TL.numL n) := by rw [W_tail]; rfl
  have hl : (W (lw c n)).length ≤ 16777216 := by
    have hl := TL.numL_len (n := n) (k := 31) (by decide) (by omega)
    rw [W_len]
    unfold lw
    rw [List.length_cons]
    split <;> simp <;> omega
  have q1 : dNe (.str (W [c])) (.str (Str.ofString "")) = some (.bl true) := by
    have : ¬ W [c] = W [] := fun z => by rw [W_iff] at z; simp at z
    rw [lit_nil]
    simp [dNe, eqB_str, this]
  have q2 : dIn false (.str (W [c])) (.str (Str.ofString "fblrud")) = some (.bl true) := by
    show some (D.bl (inS (W [c]) (Str.ofString "fblrud") != false)) = _
    have : inS (W [c]) (Str.ofString "fblrud") = true := by
      rw [lit_let, inS_W, W_cps]
      exact decide_eq_true hc
    rw [this]; rfl
  have q3 : dLen [.str (W (lw c n))] = some (.int (lw c n).length) := by
    show (if (W (lw c n)).length ≤ 16777216 then some (D.int (W (lw c n)).length) else none) = _
    rw [if_pos hl, W_len]
  generalize hw : lw c n = w at *
  by_cases e : n = 1
  · subst e
    have e1 : w.length = 1 := by rw [← hw]; rfl
    rw [e1] at q3
    simp [m_is_step_word, m_is_step_word_1, -List.map_map, -List.map_take, -List.map_drop, -List.map_append, -List.map_reverse, asDef, entry, slotsOf, sSeq, sSet, sRet, sIf, sDrop, sNil, sBreak, sCont, sApp, sSetAt, setEnd, sAug, sAsg, sPar, mVar, mSee, mFrz, mTake, mC, mUn, mOp, mNil, mCons, mCall, mCallL, mTup, mLst, mView, mOwn, mFz, mTest, mAnd, mOr, mNot, mIf, mAndV, mOrV, mNotV, mChain, mAt, qSee, qFz, qNew, oNone, oSome, rNil, rSlot, rFz, mCall0, mCall1, oneSlot, noSlot, treesOf, SD.tree, SD.put, SD.putFz, tgN, tgNil, tgCons, tgT, ER.bind, ER.opt, ER.stm, Fl.seq, OT.view, OT.views, OT.items, fzOf, iLst, iTuP, iRange1, iRange2, iZip2, iEnumL, dIx, atI, ixN, dAdd, dSub, dNeg, dLt, dLe, dGt, dGe, dIsN, dNotN, isNonD, dEq, dNe, eqB_int, eqB_str, eqB_bl, eq_2, eq_3, dLen, dIsi, D.isA, tyName, dMod, dMax, dMin, mAtS, mBm, D.isL, D.isS, mCutX, hl, hh, ht, q1, q2, q3, -dNe, -dLen]
  · rw [if_neg e] at ht
    have e1 : ¬ ((w.length : Int) = 1) := by
      rw [← hw]
      unfold lw
      rw [if_neg e]
      obtain ⟨d, r, z, _⟩ := num_head n
      rw [z]
      simp
      omega
    have num := is_number_ok cs (n := n) (by omega) h2
    have q4 : dEq (.int w.length) (.int 1) = some (.bl false) := by simp [dEq, eqB_int]; omega
    simp [m_is_step_word, m_is_step_word_1, -List.map_map, -List.map_take, -List.map_drop, -List.map_append, -List.map_reverse, asDef, entry, slotsOf, sSeq, sSet, sRet, sIf, sDrop, sNil, sBreak, sCont, sApp, sSetAt, setEnd, sAug, sAsg, sPar, mVar, mSee, mFrz, mTake, mC, mUn, mOp, mNil, mCons, mCall, mCallL, mTup, mLst, mView, mOwn, mFz, mTest, mAnd, mOr, mNot, mIf, mAndV, mOrV, mNotV, mChain, mAt, qSee, qFz, qNew, oNone, oSome, rNil, rSlot, rFz, mCall0, mCall1, oneSlot, noSlot, treesOf, SD.tree, SD.put, SD.putFz, tgN, tgNil, tgCons, tgT, ER.bind, ER.opt, ER.stm, Fl.seq, OT.view, OT.views, OT.items, fzOf, iLst, iTuP, iRange1, iRange2, iZip2, iEnumL, dIx, atI, ixN, dAdd, dSub, dNeg, dLt, dLe, dGt, dGe, dIsN, dNotN, isNonD, dEq, dNe, eqB_int, eqB_str, eqB_bl, eq_2, eq_3, dLen, dIsi, D.isA, tyName, dMod, dMax, dMin, mAtS, mBm, D.isL, D.isS, mCutX, hl, hh, ht, q1, q2, q3, q4, num, -dNe, -dLen, -dEq]
noncomputable def Runs (g : D → SD → Option SD) (body : SD → Fl) (xs : List D) (a b : SD) : Prop := ∀ ys, goFor g body (xs ++ ys) a = goFor g body ys b
theorem Runs.nil {g : D → SD → Option SD} {body : SD → Fl} {a : SD} : Runs g body [] a a := fun _ => rfl
theorem Runs.one {g : D → SD → Option SD} {body : SD → Fl} {d : D} {a a1 b : SD} (h1 : g d a = some a1) (h2 : body a1 = .nx b) : Runs g body [d] a b := fun ys => by
  show (match g d a with
    | none => Fl.bad
    | some sd1 => match body sd1 with
      | .nx sd2 => goFor g body ys sd2
      | .ct sd2 => goFor g body ys sd2
      | .bk sd2 => .nx sd2
      | r => r) = _
  rw [h1]
  dsimp only
  rw [h2]
theorem Runs.app {g : D → SD → Option SD} {body : SD → Fl} {xs ys : List D} {a b c : SD} (h1 : Runs g body xs a b) (h2 : Runs g body ys b c) : Runs g body (xs ++ ys) a c := fun zs => by
  rw [List.append_assoc, h1, h2]
theorem Runs.all {g : D → SD → Option SD} {body : SD → Fl} {xs : List D} {a b : SD} (h : Runs g body xs a b) : goFor g body xs a = .nx b := by
  have := h []
  rw [List.append_nil] at this
  rw [this, goFor]
/-- numbered from i on -/
noncomputable def enD (i : Nat) (ws : List D) : List D := (ws.zipIdx i).map fun p => .tup [.int (p.2 : Int), p.1]
theorem enD_app (i : Nat) (a b : List D) : enD i (a ++ b) = enD i a ++ enD (i + a.length) b := by
  unfold enD
  rw [List.zipIdx_append, List.map_append]
theorem enD_cons (i : Nat) (x : D) (r : List D) : enD i (x :: r) = .tup [.int (i : Int), x] :: enD (i + 1) r := by
  unfold enD
  rw [List.zipIdx_cons]; rfl
noncomputable def WsD (ws : List (List Nat)) : List D := ws.map fun w => .str (W w)
theorem WsD_app (a b : List (List Nat)) : WsD (a ++ b) = WsD a ++ WsD b := List.map_append
theorem WsD_len (a : List (List Nat)) : (WsD a).length = a.length := List.length_map ..
noncomputable def fwSD (ws : D) (d : Nat) (e : Bool) (x4 x5 : S) : SD := ⟨[.ow (.fz ws), .ow (.fz (.lst [])), .ow (.fz (.int d)), .ow (.fz (.bl e)), x4, x5], [.fz ws, .fz (.lst [])]⟩
noncomputable abbrev fwG : D → SD → Option SD := tgT 2 (tgCons (tgN 4) (tgCons (tgN 5) (tgNil)))
theorem fw_open (cs : Nat → Addr) {ws : D} {d i : Nat} {e : Bool} (h1 : d + 1 ≤ 12) (h2 : i + 1 + (d + 1) + 1 ≤ 1000) : m_first_wrong_b1 cs (fwSD ws d e (.ow (.fz (.int i))) (.ow (.fz (.str (W [40]))))) = .nx (fwSD ws (d + 1) true (.ow (.fz (.int i))) (.ow (.fz (.str (W [40]))))) := by
  have z1 : ¬ (12 : Int) < (d : Int) + 1 := by omega
  have z2 : ¬ (1000 : Int) < (i : Int) + 1 + ((d : Int) + 1) + 1 := by omega
  have lo := lit_open
  simp [m_first_wrong_b1, m_first_wrong_14, m_first_wrong_3, m_first_wrong_4, m_first_wrong_6, m_first_wrong_16, fwSD, -List.map_map, -List.map_take, -List.map_drop, -List.map_append, -List.map_reverse, asDef, entry, slotsOf, sSeq, sSet, sRet, sIf, sDrop, sNil, sBreak, sCont, sApp, sSetAt, setEnd, sAug, sAsg, sPar, mVar, mSee, mFrz, mTake, mC, mUn, mOp, mNil, mCons, mCall, mCallL, mTup, mLst, mView, mOwn, mFz, mTest, mAnd, mOr, mNot, mIf, mAndV, mOrV, mNotV, mChain, mAt, qSee, qFz, qNew, oNone, oSome, rNil, rSlot, rFz, mCall0, mCall1, oneSlot, noSlot, treesOf, SD.tree, SD.put, SD.putFz, tgN, tgNil, tgCons, tgT, ER.bind, ER.opt, ER.stm, Fl.seq, OT.view, OT.views, OT.items, fzOf, iLst, iTuP, iRange1, iRange2, iZip2, iEnumL, dIx, atI, ixN, dAdd, dSub, dNeg, dLt, dLe, dGt, dGe, dIsN, dNotN, isNonD, dEq, dNe, eqB_int, eqB_str, eqB_bl, eq_2, eq_3, dLen, dIsi, D.isA, tyName, dMod, dMax, dMin, mAtS, mBm, D.isL, D.isS, lo, W_iff, z1, z2, dInt2]
theorem fw_close (cs : Nat → Addr) {ws : D} {d i n : Nat} (hn1 : 2 ≤ n) (hn2 : n ≤ 1000000000000000000000000000000) (h2 : i + 1 + d ≤ 1000) : m_first_wrong_b1 cs (fwSD ws (d + 1) false (.ow (.fz (.int i))) (.ow (.fz (.str (W (41 :: TL.numL n)))))) = .nx (fwSD ws d false (.ow (.fz (.int i))) (.ow (.fz (.str (W (41 :: TL.numL n)))))) := by
  have z1 : ¬ (d : Int) + 1 = 0 := by omega
  have z2 : ¬ (1000 : Int) < (i : Int) + 1 + (d : Int) := by omega
  have z3 : ¬ (1000 : Int) < (i : Int) + 1 + ((d : Int) + 1 - 1) := by omega
  have num := is_number_ok cs hn1 hn2
  have lo := lit_open
  have lc := lit_close
  have hh : cutS (W (41 :: TL.numL n)) none (some 1) = W [41] := by rw [W_head]; rfl
  have ht : cutS (W (41 :: TL.numL n)) (some 1) none = W (TL.numL n) := by rw [W_tail]; rfl
  have hl : (W (41 :: TL.numL n)).length ≤ 16777216 := by
    have hl := TL.numL_len (n := n) (k := 31) (by decide) (by omega)
    rw [W_len, List.length_cons]; omega
  have e1 : (d : Int) + 1 - 1 = d := by omega
  simp [m_first_wrong_b1, m_first_wrong_14, m_first_wrong_13, m_first_wrong_8, m_first_wrong_9, m_first_wrong_16, fwSD, -List.map_map, -List.map_take, -List.map_drop, -List.map_append, -List.map_reverse, asDef, entry, slotsOf, sSeq, sSet, sRet, sIf, sDrop, sNil, sBreak, sCont, sApp, sSetAt, setEnd, sAug, sAsg, sPar, mVar, mSee, mFrz, mTake, mC, mUn, mOp, mNil, mCons, mCall, mCallL, mTup, mLst, mView, mOwn, mFz, mTest, mAnd, mOr, mNot, mIf, mAndV, mOrV, mNotV, mChain, mAt, qSee, qFz, qNew, oNone, oSome, rNil, rSlot, rFz, mCall0, mCall1, oneSlot, noSlot, treesOf, SD.tree, SD.put, SD.putFz, tgN, tgNil, tgCons, tgT, ER.bind, ER.opt, ER.stm, Fl.seq, OT.view, OT.views, OT.items, fzOf, iLst, iTuP, iRange1, iRange2, iZip2, iEnumL, dIx, atI, ixN, dAdd, dSub, dNeg, dLt, dLe, dGt, dGe, dIsN, dNotN, isNonD, dEq, dNe, eqB_int, eqB_str, eqB_bl, eq_2, eq_3, dLen, dIsi, D.isA, tyName, dMod, dMax, dMin, mAtS, mBm, D.isL, D.isS, mCutX, lo, lc, W_iff, z1, z2, z3, dInt2, hh, ht, hl, num, e1]
theorem letter_ne {c : Nat} (h : c ∈ letters) : c ≠ 40 ∧ c ≠ 41 := by
  unfold letters at h
  simp at h
  omega
theorem fw_step (cs : Nat → Addr) {ws : D} {d i c n : Nat} {e : Bool} (hc : c ∈ letters) (hn1 : 1 ≤ n) (hn2 : n ≤ 1000000000000000000000000000000) (h2 : i + 1 + d ≤ 1000) : m_first_wrong_b1 cs (fwSD ws d e (.ow (.fz (.int i))) (.ow (.fz (.str (W (lw c n)))))) = .nx (fwSD ws d false (.ow (.fz (.int i))) (.ow (.fz (.str (W (lw c n)))))) := by
  have z2 : ¬ (1000 : Int) < (i : Int) + 1 + (d : Int) := by omega
  have sw := step_word_ok cs hc hn1 hn2
  have lo := lit_open
  have lc := lit_close
  have hh : cutS (W (lw c n)) none (some 1) = W [c] := by rw [W_head]; rfl
  have hl : (W (lw c n)).length ≤ 16777216 := by
    have hl := TL.numL_len (n := n) (k := 31) (by decide) (by omega)
    rw [W_len]
    unfold lw
    rw [List.length_cons]
    split <;> simp <;> omega
  obtain ⟨c1, c2⟩ := letter_ne hc
  have ne : ¬ lw c n = [40] := fun z => by
    unfold lw at z
    injection z with z1 z3
    exact c1 z1
  simp [m_first_wrong_b1, m_first_wrong_14, m_first_wrong_13, m_first_wrong_12, m_first_wrong_10, m_first_wrong_16, fwSD, -List.map_map, -List.map_take, -List.map_drop, -List.map_append, -List.map_reverse, asDef, entry, slotsOf, sSeq, sSet, sRet, sIf, sDrop, sNil, sBreak, sCont, sApp, sSetAt, setEnd, sAug, sAsg, sPar, mVar, mSee, mFrz, mTake, mC, mUn, mOp, mNil, mCons, mCall, mCallL, mTup, mLst, mView, mOwn, mFz, mTest, mAnd, mOr, mNot, mIf, mAndV, mOrV, mNotV, mChain, mAt, qSee, qFz, qNew, oNone, oSome, rNil, rSlot, rFz, mCall0, mCall1, oneSlot, noSlot, treesOf, SD.tree, SD.put, SD.putFz, tgN, tgNil, tgCons, tgT, ER.bind, ER.opt, ER.stm, Fl.seq, OT.view, OT.views, OT.items, fzOf, iLst, iTuP, iRange1, iRange2, iZip2, iEnumL, dIx, atI, ixN, dAdd, dSub, dNeg, dLt, dLe, dGt, dGe, dIsN, dNotN, isNonD, dEq, dNe, eqB_int, eqB_str, eqB_bl, eq_2, eq_3, dLen, dIsi, D.isA, tyName, dMod, dMax, dMin, mAtS, mBm, D.isL, D.isS, mCutX, lo, lc, W_iff, z2, dInt2, hh, hl, sw, ne, c2]
mutual
theorem fw_nd (cs : Nat → Addr) {ws : D} : ∀ (a : Nd) (i d : Nat) (e : Bool) (x4 x5 : S), nok a → d + ndp a ≤ 12 → i + (wd a).length + d ≤ 1000 → ∃ y4 y5, Runs fwG (m_first_wrong_b1 cs) (enD i (WsD (wd a))) (fwSD ws d e x4 x5) (fwSD ws d false y4 y5)
  | .st c n, i, d, e, x4, x5, h, _, hl => by
    rw [nok] at h
    rw [wd, List.length_singleton] at hl
    rw [wd]
    exact ⟨_, _, .one (a1 := fwSD ws d e (.ow (.fz (.int i))) (.ow (.fz (.str (W (lw c n)))))) rfl (fw_step cs h.1 h.2.1 h.2.2 (by omega))⟩
  | .rp b n, i, d, e, x4, x5, h, hd, hl => by
    rw [nok] at h
    rw [ndp] at hd
    rw [wd, List.length_cons, List.length_append, List.length_singleton] at hl
    rw [wd]
    have hb : 1 ≤ (wds b).length := by
      have := len_wds b
      cases b with
      | nil => exact absurd rfl h.1
      | cons _ _ => rw [List.length_cons] at this; omega
    obtain ⟨y4, y5, r1⟩ := fw_nds cs b (i + 1) (d + 1) true (.ow (.fz (.int i))) (.ow (.fz (.str (W [40])))) h.2.2.2 (by omega) (by omega)
    rw [if_neg h.1] at r1
    have o1 : Runs fwG (m_first_wrong_b1 cs) [.tup [.int (i : Int), .str (W [40])]] (fwSD ws d e x4 x5) (fwSD ws (d + 1) true (.ow (.fz (.int i))) (.ow (.fz (.str (W [40]))))) := .one (a1 := fwSD ws d e (.ow (.fz (.int i))) (.ow (.fz (.str (W [40]))))) rfl (fw_open cs (by omega) (by omega))
    have c1 : Runs fwG (m_first_wrong_b1 cs) [.tup [.int ((i + 1 + (wds b).length : Nat) : Int), .str (W (41 :: TL.numL n))]] (fwSD ws (d + 1) false y4 y5) (fwSD ws d false (.ow (.fz (.int (i + 1 + (wds b).length : Nat)))) (.ow (.fz (.str (W (41 :: TL.numL n)))))) := .one (a1 := fwSD ws (d + 1) false (.ow (.fz (.int (i + 1 + (wds b).length : Nat)))) (.ow (.fz (.str (W (41 :: TL.numL n)))))) rfl (fw_close cs h.2.1 h.2.2.1 (by omega))
    refine ⟨.ow (.fz (.int (i + 1 + (wds b).length : Nat))), .ow (.fz (.str (W (41 :: TL.numL n)))), ?_⟩
    have e0 : enD i (WsD ([40] :: (wds b ++ [41 :: TL.numL n]))) = [.tup [.int (i : Int), .str (W [40])]] ++ (enD (i + 1) (WsD (wds b)) ++ [.tup [.int ((i + 1 + (wds b).length : Nat) : Int), .str (W (41 :: TL.numL n))]]) := by
      show enD i (.str (W [40]) :: WsD (wds b ++ [41 :: TL.numL n])) = _
      rw [enD_cons, WsD_app, enD_app, WsD_len]
      rfl
    rw [e0]
    exact o1.app (r1.app c1)
theorem fw_nds (cs : Nat → Addr) {ws : D} : ∀ (l : List Nd) (i d : Nat) (e : Bool) (x4 x5 : S), noks l → d + ndps l ≤ 12 → i + (wds l).length + d ≤ 1000 → ∃ y4 y5, Runs fwG (m_first_wrong_b1 cs) (enD i (WsD (wds l))) (fwSD ws d e x4 x5) (fwSD ws d (if l = [] then e else false) y4 y5)
  | [], i, d, e, x4, x5, _, _, _ => ⟨x4, x5, by rw [if_pos rfl]; exact .nil⟩
  | a :: r, i, d, e, x4, x5, h, hd, hl => by
    rw [noks] at h
    rw [ndps] at hd
    rw [wds, List.length_append] at hl
    obtain ⟨y4, y5, r1⟩ := fw_nd cs a i d e x4 x5 h.1 (by omega) (by omega)
    obtain ⟨z4, z5, r2⟩ := fw_nds cs r (i + (wd a).length) d false y4 y5 h.2 (by omega) (by omega)
    refine ⟨z4, z5, ?_⟩
    rw [wds, WsD_app, enD_app, WsD_len, if_neg (by simp)]
    have e2 : (if r = [] then false else false) = false := by split <;> rfl
    rw [e2] at r2
    exact r1.app r2
end
theorem first_wrong_ok (cs : Nat → Addr) {l : List Nd} (h : noks l) (hd : ndps l ≤ 12) (hl : (wds l).length ≤ 1000) : m_first_wrong cs [.fz (.lst (WsD (wds l))), .fz (.lst [])] = .ok (.fz .non) ⟨[], [.fz (.lst (WsD (wds l))), .fz (.lst [])]⟩ := by
  obtain ⟨y4, y5, r⟩ := fw_nds cs (ws := .lst (WsD (wds l))) l 0 0 false .un .un h (by omega) (by omega)
  have e2 : (if l = [] then false else false) = false := by split <;> rfl
  rw [e2] at r
  have s1 : m_first_wrong_1 cs ⟨[.ow (.fz (.lst (WsD (wds l)))), .ow (.fz (.lst [])), .un, .un, .un, .un], [.fz (.lst (WsD (wds l))), .fz (.lst [])]⟩ = .nx ⟨[.ow (.fz (.lst (WsD (wds l)))), .ow (.fz (.lst [])), .ow (.fz (.int 0)), .un, .un, .un], [.fz (.lst (WsD (wds l))), .fz (.lst [])]⟩ := rfl
  have s2 : m_first_wrong_2 cs ⟨[.ow (.fz (.lst (WsD (wds l)))), .ow (.fz (.lst [])), .ow (.fz (.int 0)), .un, .un, .un], [.fz (.lst (WsD (wds l))), .fz (.lst [])]⟩ = .nx (fwSD (.lst (WsD (wds l))) 0 false .un .un) := rfl
  have s17 : m_first_wrong_17 cs (fwSD (.lst (WsD (wds l))) 0 false .un .un) = .nx (fwSD (.lst (WsD (wds l))) 0 false y4 y5) := r.all
  have s18 : m_first_wrong_18 cs (fwSD (.lst (WsD (wds l))) 0 false y4 y5) = .rt (.fz .non) (fwSD (.lst (WsD (wds l))) 0 false y4 y5) := by
    simp [m_first_wrong_18, fwSD, -List.map_map, -List.map_take, -List.map_drop, -List.map_append, -List.map_reverse, asDef, entry, slotsOf, sSeq, sSet, sRet, sIf, sDrop, sNil, sBreak, sCont, sApp, sSetAt, setEnd, sAug, sAsg, sPar, mVar, mSee, mFrz, mTake, mC, mUn, mOp, mNil, mCons, mCall, mCallL, mTup, mLst, mView, mOwn, mFz, mTest, mAnd, mOr, mNot, mIf, mAndV, mOrV, mNotV, mChain, mAt, qSee, qFz, qNew, oNone, oSome, rNil, rSlot, rFz, mCall0, mCall1, oneSlot, noSlot, treesOf, SD.tree, SD.put, SD.putFz, tgN, tgNil, tgCons, tgT, ER.bind, ER.opt, ER.stm, Fl.seq, OT.view, OT.views, OT.items, fzOf, iLst, iTuP, iRange1, iRange2, iZip2, iEnumL, dIx, atI, ixN, dAdd, dSub, dNeg, dLt, dLe, dGt, dGe, dIsN, dNotN, isNonD, dEq, dNe, eqB_int, eqB_str, eqB_bl, eq_2, eq_3, dLen, dIsi, D.isA, tyName, dMod, dMax, dMin, mAtS, mBm, D.isL, D.isS]
  have ent : entry 6 [.fz (.lst (WsD (wds l))), .fz (.lst [])] = ⟨[.ow (.fz (.lst (WsD (wds l)))), .ow (.fz (.lst [])), .un, .un, .un, .un], [.fz (.lst (WsD (wds l))), .fz (.lst [])]⟩ := rfl
  simp only [m_first_wrong, asDef, ent, sSeq, s1, s2, s17, s18, Fl.seq]
  rfl
noncomputable def nfSD (ws : List D) (p0 p : Nat) (found : List D) (x3 x4 : S) : SD := ⟨[.ow (.fz (.lst ws)), .ow (.fz (.int p)), .ow (.ol (found.map .fz)), x3, x4], [.fz (.lst ws), .fz (.int p0)]⟩
/-- a while that goes on -/
noncomputable def WGo (c : SD → ER Bool) (body : SD → Fl) (k : Nat) (a b : SD) : Prop := ∀ n, goWhile c body (n + k) a = goWhile c body n b
theorem WGo.nil {c : SD → ER Bool} {body : SD → Fl} {a : SD} : WGo c body 0 a a := fun _ => rfl
theorem WGo.one {c : SD → ER Bool} {body : SD → Fl} {a b : SD} (h1 : c a = .ok true a) (h2 : body a = .nx b) : WGo c body 1 a b := fun n => by
  show (c a).stm _ = _
  rw [h1]
  show (if true = true then (match body a with
      | .nx sd2 => goWhile c body n sd2
      | .ct sd2 => goWhile c body n sd2
      | .bk sd2 => .nx sd2
      | r => r) else .nx a) = _
  rw [if_pos rfl, h2]
theorem WGo.app {c : SD → ER Bool} {body : SD → Fl} {k l : Nat} {a b d : SD} (h1 : WGo c body k a b) (h2 : WGo c body l b d) : WGo c body (l + k) a d := fun n => by
  rw [← Nat.add_assoc, h1, h2]
theorem at_mid (pre : List (List Nat)) (w : List Nat) (post : List (List Nat)) : dIx (.lst (WsD (pre ++ w :: post))) (.int pre.length) = some (.str (W w)) := by
  show atI (WsD (pre ++ w :: post)) (pre.length : Int) = _
  refine atI_of ?_
  unfold WsD
  rw [List.getElem?_map, List.getElem?_append_right (Nat.le_refl _), Nat.sub_self]
  rfl
theorem at_sign (c : Nat) (r : List Nat) (h : r.length ≤ 100) : dIx (.str (W (c :: r))) (.int 0) = some (.str (W [c])) := by
  show (if (W (c :: r)).length ≤ 16777216 then (atI (c :: r) 0).map (fun c => D.str ⟨#[c]⟩) else none) = _
  rw [W_len, if_pos (by rw [List.length_cons]; omega), show atI (c :: r) (0 : Int) = some c from atI_of (k := 0) rfl]
  rfl
theorem lw_len {n : Nat} (h : n ≤ 1000000000000000000000000000000) : (if n = 1 then ([] : List Nat) else TL.numL n).length ≤ 31 := by
  have hl := TL.numL_len (n := n) (k := 31) (by decide) (by omega)
  split
  · simp
  · exact hl
theorem lw_int {n : Nat} (h : n ≤ 1000000000000000000000000000000) : dInt2 [.str (W (TL.numL n))] = some (.int n) := int_W (by
  have : (10 : Nat) ^ 31 ≤ 10 ^ 600 := Nat.pow_le_pow_right (by decide) (by decide)
  omega)
noncomputable abbrev nfC : SD → ER Bool := mAnd (mTest (mOp dLt (mVar 1) (mCall dLen (mCons (mVar 0) (mNil))))) (mTest (mOp dNe (mOp dIx (mOp dIx (mVar 0) (mVar 1)) (mC (.int 0))) (mC (.str ")"))))
theorem nf_cond {pre post : List (List Nat)} {c : Nat} {r : List Nat} {p0 : Nat} {found : List D} {x3 x4 : S} (hc : c ≠ 41) (hr : r.length ≤ 100) : nfC (nfSD (WsD (pre ++ (c :: r) :: post)) p0 pre.length found x3 x4) = .ok true (nfSD (WsD (pre ++ (c :: r) :: post)) p0 pre.length found x3 x4) := by
  have h1 := at_mid pre (c :: r) post
  have h2 := at_sign c r hr
  have h3 : (pre.length : Int) < ((WsD (pre ++ (c :: r) :: post)).length : Int) := by rw [WsD_len, List.length_append, List.length_cons]; omega
  have lc := lit_close
  generalize WsD (pre ++ (c :: r) :: post) = ws at *
  simp [nfC, nfSD, -List.map_map, -List.map_take, -List.map_drop, -List.map_append, -List.map_reverse, asDef, entry, slotsOf, sSeq, sSet, sRet, sIf, sDrop, sNil, sBreak, sCont, sApp, sSetAt, setEnd, sAug, sAsg, sPar, mVar, mSee, mFrz, mTake, mC, mUn, mOp, mNil, mCons, mCall, mCallL, mTup, mLst, mView, mOwn, mFz, mTest, mAnd, mOr, mNot, mIf, mAndV, mOrV, mNotV, mChain, mAt, qSee, qFz, qNew, oNone, oSome, rNil, rSlot, rFz, mCall0, mCall1, oneSlot, noSlot, treesOf, SD.tree, SD.put, SD.putFz, tgN, tgNil, tgCons, tgT, ER.bind, ER.opt, ER.stm, Fl.seq, OT.view, OT.views, OT.items, fzOf, iLst, iTuP, iRange1, iRange2, iZip2, iEnumL, dAdd, dSub, dNeg, dLt, dLe, dGt, dGe, dIsN, dNotN, isNonD, dEq, dNe, eqB_int, eqB_str, eqB_bl, eq_2, eq_3, dLen, dIsi, D.isA, tyName, dMod, dMax, dMin, mAtS, mBm, D.isL, D.isS, h1, h2, h3, lc, W_iff, hc]
theorem nf_stop {pre post : List (List Nat)} {p0 : Nat} {found : List D} {x3 x4 : S} (h : post = [] ∨ ∃ r t, post = (41 :: r) :: t ∧ r.length ≤ 100) : nfC (nfSD (WsD (pre ++ post)) p0 pre.length found x3 x4) = .ok false (nfSD (WsD (pre ++ post)) p0 pre.length found x3 x4) := by
  rcases h with rfl | ⟨r, t, rfl, hr⟩
  · have h3 : ¬ (pre.length : Int) < ((WsD (pre ++ [])).length : Int) := by rw [WsD_len, List.append_nil]; omega
    generalize WsD (pre ++ []) = ws at *
    simp [nfC, nfSD, -List.map_map, -List.map_take, -List.map_drop, -List.map_append, -List.map_reverse, asDef, entry, slotsOf, sSeq, sSet, sRet, sIf, sDrop, sNil, sBreak, sCont, sApp, sSetAt, setEnd, sAug, sAsg, sPar, mVar, mSee, mFrz, mTake, mC, mUn, mOp, mNil, mCons, mCall, mCallL, mTup, mLst, mView, mOwn, mFz, mTest, mAnd, mOr, mNot, mIf, mAndV, mOrV, mNotV, mChain, mAt, qSee, qFz, qNew, oNone, oSome, rNil, rSlot, rFz, mCall0, mCall1, oneSlot, noSlot, treesOf, SD.tree, SD.put, SD.putFz, tgN, tgNil, tgCons, tgT, ER.bind, ER.opt, ER.stm, Fl.seq, OT.view, OT.views, OT.items, fzOf, iLst, iTuP, iRange1, iRange2, iZip2, iEnumL, dAdd, dSub, dNeg, dLt, dLe, dGt, dGe, dIsN, dNotN, isNonD, dEq, dNe, eqB_int, eqB_str, eqB_bl, eq_2, eq_3, dLen, dIsi, D.isA, tyName, dMod, dMax, dMin, mAtS, mBm, D.isL, D.isS, h3]
  · have h1 := at_mid pre (41 :: r) t
    have h2 := at_sign 41 r hr
    have h3 : (pre.length : Int) < ((WsD (pre ++ (41 :: r) :: t)).length : Int) := by rw [WsD_len, List.length_append, List.length_cons]; omega
    have lc := lit_close
    generalize WsD (pre ++ (41 :: r) :: t) = ws at *
    simp [nfC, nfSD, -List.map_map, -List.map_take, -List.map_drop, -List.map_append, -List.map_reverse, asDef, entry, slotsOf, sSeq, sSet, sRet, sIf, sDrop, sNil, sBreak, sCont, sApp, sSetAt, setEnd, sAug, sAsg, sPar, mVar, mSee, mFrz, mTake, mC, mUn, mOp, mNil, mCons, mCall, mCallL, mTup, mLst, mView, mOwn, mFz, mTest, mAnd, mOr, mNot, mIf, mAndV, mOrV, mNotV, mChain, mAt, qSee, qFz, qNew, oNone, oSome, rNil, rSlot, rFz, mCall0, mCall1, oneSlot, noSlot, treesOf, SD.tree, SD.put, SD.putFz, tgN, tgNil, tgCons, tgT, ER.bind, ER.opt, ER.stm, Fl.seq, OT.view, OT.views, OT.items, fzOf, iLst, iTuP, iRange1, iRange2, iZip2, iEnumL, dAdd, dSub, dNeg, dLt, dLe, dGt, dGe, dIsN, dNotN, isNonD, dEq, dNe, eqB_int, eqB_str, eqB_bl, eq_2, eq_3, dLen, dIsi, D.isA, tyName, dMod, dMax, dMin, mAtS, mBm, D.isL, D.isS, h1, h2, h3, lc, W_iff]
theorem nf_st (cs : Nat → Addr) (rec : List OT → ER OT) {pre post : List (List Nat)} {c n p0 : Nat} {found : List D} {x3 x4 : S} (hc : c ∈ letters) (h1 : 1 ≤ n) (h2 : n ≤ 1000000000000000000000000000000) (hf : found.length ≤ 2000) :
    ∃ y3 y4, m_nodes_from_b1 cs rec (nfSD (WsD (pre ++ lw c n :: post)) p0 pre.length found x3 x4) = .nx (nfSD (WsD (pre ++ lw c n :: post)) p0 (pre.length + 1) (found ++ [enc (.st c n)]) y3 y4) := by
  have g1 := at_mid pre (lw c n) post
  have g2 : dIx (.str (W (lw c n))) (.int 0) = some (.str (W [c])) := at_sign c _ (by have := lw_len h2; omega)
  have lo := lit_open
  have hl : (W (lw c n)).length ≤ 16777216 := by
    have := lw_len h2
    rw [W_len]; unfold lw; rw [List.length_cons]; omega
  have dl : dLen [.str (W (lw c n))] = some (.int (lw c n).length) := by
    show (if (W (lw c n)).length ≤ 16777216 then some (D.int (W (lw c n)).length) else none) = _
    rw [if_pos hl, W_len]
  have ht : cutS (W (lw c n)) (some 1) none = W (if n = 1 then [] else TL.numL n) := by rw [W_tail]; rfl
  have ne : ¬ lw c n = [40] := fun z => by
    unfold lw at z
    injection z with z1 z3
    exact (letter_ne hc).1 z1
  have hi := lw_int h2
  have hfl : found.length < 16777216 := by omega
  have hw : 1 < (lw c n).length ↔ n ≠ 1 := by
    unfold lw
    by_cases e : n = 1
    · rw [if_pos e]; simp [e]
    · rw [if_neg e]
      obtain ⟨d, r, z, _⟩ := num_head n
      rw [z]; simp [e]
  have hp : ((pre.length : Int) + 1) = ((pre.length + 1 : Nat) : Int) := by omega
  refine ⟨.ow (.fz (.str (W (lw c n)))), x4, ?_⟩
  rw [enc]
  generalize WsD (pre ++ lw c n :: post) = ws at *
  generalize hww : lw c n = w at *
  generalize pre.length = p at *
  have s2 : m_nodes_from_2 cs rec (nfSD ws p0 p found x3 x4) = .nx (nfSD ws p0 p found (.ow (.fz (.str (W w)))) x4) := by
    simp [m_nodes_from_2, nfSD, -List.map_map, -List.map_take, -List.map_drop, -List.map_append, -List.map_reverse, asDef, entry, slotsOf, sSeq, sSet, sRet, sIf, sDrop, sNil, sBreak, sCont, sApp, sSetAt, setEnd, sAug, sAsg, sPar, mVar, mSee, mFrz, mTake, mC, mUn, mOp, mNil, mCons, mCall, mCallL, mTup, mLst, mView, mOwn, mFz, mTest, mAnd, mOr, mNot, mIf, mAndV, mOrV, mNotV, mChain, mAt, qSee, qFz, qNew, oNone, oSome, rNil, rSlot, rFz, mCall0, mCall1, oneSlot, noSlot, treesOf, SD.tree, SD.put, SD.putFz, tgN, tgNil, tgCons, tgT, ER.bind, ER.opt, ER.stm, Fl.seq, OT.view, OT.views, OT.items, fzOf, iLst, iTuP, iRange1, iRange2, iZip2, iEnumL, dAdd, dSub, dNeg, dLt, dLe, dGt, dGe, dIsN, dNotN, isNonD, dEq, dNe, eqB_int, eqB_str, eqB_bl, eq_2, eq_3, dLen, dIsi, D.isA, tyName, dMod, dMax, dMin, mAtS, mBm, D.isL, D.isS, g1]
  have s7 : m_nodes_from_7 cs rec (nfSD ws p0 p (found ++ [.tup [.str (W [c]), .int n]]) (.ow (.fz (.str (W w)))) x4) = .nx (nfSD ws p0 (p + 1) (found ++ [.tup [.str (W [c]), .int n]]) (.ow (.fz (.str (W w)))) x4) := by
    simp [m_nodes_from_7, nfSD, -List.map_map, -List.map_take, -List.map_drop, -List.map_append, -List.map_reverse, asDef, entry, slotsOf, sSeq, sSet, sRet, sIf, sDrop, sNil, sBreak, sCont, sApp, sSetAt, setEnd, sAug, sAsg, sPar, mVar, mSee, mFrz, mTake, mC, mUn, mOp, mNil, mCons, mCall, mCallL, mTup, mLst, mView, mOwn, mFz, mTest, mAnd, mOr, mNot, mIf, mAndV, mOrV, mNotV, mChain, mAt, qSee, qFz, qNew, oNone, oSome, rNil, rSlot, rFz, mCall0, mCall1, oneSlot, noSlot, treesOf, SD.tree, SD.put, SD.putFz, tgN, tgNil, tgCons, tgT, ER.bind, ER.opt, ER.stm, Fl.seq, OT.view, OT.views, OT.items, fzOf, iLst, iTuP, iRange1, iRange2, iZip2, iEnumL, dAdd, dSub, dNeg, dLt, dLe, dGt, dGe, dIsN, dNotN, isNonD, dEq, dNe, eqB_int, eqB_str, eqB_bl, eq_2, eq_3, dLen, dIsi, D.isA, tyName, dMod, dMax, dMin, mAtS, mBm, D.isL, D.isS]
  have s6 : m_nodes_from_6 cs rec (nfSD ws p0 p found (.ow (.fz (.str (W w)))) x4) = .nx (nfSD ws p0 p (found ++ [.tup [.str (W [c]), .int n]]) (.ow (.fz (.str (W w)))) x4) := by
    by_cases e : n = 1
    · have z : ¬ (1 : Int) < (w.length : Int) := fun z => (hw.mp (by omega)) e
      simp [m_nodes_from_6, m_nodes_from_5, nfSD, -List.map_map, -List.map_take, -List.map_drop, -List.map_append, -List.map_reverse, asDef, entry, slotsOf, sSeq, sSet, sRet, sIf, sDrop, sNil, sBreak, sCont, sApp, sSetAt, setEnd, sAug, sAsg, sPar, mVar, mSee, mFrz, mTake, mC, mUn, mOp, mNil, mCons, mCall, mCallL, mTup, mLst, mView, mOwn, mFz, mTest, mAnd, mOr, mNot, mIf, mAndV, mOrV, mNotV, mChain, mAt, qSee, qFz, qNew, oNone, oSome, rNil, rSlot, rFz, mCall0, mCall1, oneSlot, noSlot, treesOf, SD.tree, SD.put, SD.putFz, tgN, tgNil, tgCons, tgT, ER.bind, ER.opt, ER.stm, Fl.seq, OT.view, OT.views, OT.items, fzOf, iLst, iTuP, iRange1, iRange2, iZip2, iEnumL, dAdd, dSub, dNeg, dLt, dLe, dGt, dGe, dIsN, dNotN, isNonD, dEq, dNe, eqB_int, eqB_str, eqB_bl, eq_2, eq_3, dLen, dIsi, D.isA, tyName, dMod, dMax, dMin, mAtS, mBm, D.isL, D.isS, lo, W_iff, ne, g2, dl, z, -dLen, hfl]
      rw [e, List.map_append]; rfl
    · have z : (1 : Int) < (w.length : Int) := by have := hw.mpr e; omega
      rw [if_neg e] at ht
      simp [m_nodes_from_6, m_nodes_from_5, nfSD, -List.map_map, -List.map_take, -List.map_drop, -List.map_append, -List.map_reverse, asDef, entry, slotsOf, sSeq, sSet, sRet, sIf, sDrop, sNil, sBreak, sCont, sApp, sSetAt, setEnd, sAug, sAsg, sPar, mVar, mSee, mFrz, mTake, mC, mUn, mOp, mNil, mCons, mCall, mCallL, mTup, mLst, mView, mOwn, mFz, mTest, mAnd, mOr, mNot, mIf, mAndV, mOrV, mNotV, mChain, mAt, qSee, qFz, qNew, oNone, oSome, rNil, rSlot, rFz, mCall0, mCall1, oneSlot, noSlot, treesOf, SD.tree, SD.put, SD.putFz, tgN, tgNil, tgCons, tgT, ER.bind, ER.opt, ER.stm, Fl.seq, OT.view, OT.views, OT.items, fzOf, iLst, iTuP, iRange1, iRange2, iZip2, iEnumL, dAdd, dSub, dNeg, dLt, dLe, dGt, dGe, dIsN, dNotN, isNonD, dEq, dNe, eqB_int, eqB_str, eqB_bl, eq_2, eq_3, dLen, dIsi, D.isA, tyName, dMod, dMax, dMin, mAtS, mBm, D.isL, D.isS, mCutX, lo, W_iff, ne, g2, dl, z, -dLen, hfl, ht, hl, hi, -dInt2]
      rw [List.map_append]; rfl
  simp only [m_nodes_from_b1, sSeq, s2, s6, s7, Fl.seq]
theorem nf_rp (cs : Nat → Addr) (rec : List OT → ER OT) {pre post : List (List Nat)} {n p0 q : Nat} {body : D} {found : List D} {x3 x4 : S} {mid : List (List Nat)} {sd : SD} (h2 : n ≤ 1000000000000000000000000000000) (hf : found.length ≤ 2000) (hq : q = (pre ++ [40] :: mid).length)
    (hr : rec [.fz (.lst (WsD (pre ++ [40] :: (mid ++ (41 :: TL.numL n) :: post)))), .fz (.int (pre.length + 1 : Nat))] = .ok (.fz (.tup [body, .int q])) sd) :
    ∃ y3 y4, m_nodes_from_b1 cs rec (nfSD (WsD (pre ++ [40] :: (mid ++ (41 :: TL.numL n) :: post))) p0 pre.length found x3 x4) = .nx (nfSD (WsD (pre ++ [40] :: (mid ++ (41 :: TL.numL n) :: post))) p0 (q + 1) (found ++ [.tup [body, .int n]]) y3 y4) := by
  have g1 := at_mid pre [40] (mid ++ (41 :: TL.numL n) :: post)
  have g2 := at_mid (pre ++ [40] :: mid) (41 :: TL.numL n) post
  rw [← hq] at g2
  rw [show (pre ++ [40] :: mid) ++ (41 :: TL.numL n) :: post = pre ++ [40] :: (mid ++ (41 :: TL.numL n) :: post) by simp] at g2
  have lo := lit_open
  have hl : (W (41 :: TL.numL n)).length ≤ 16777216 := by
    have hl := TL.numL_len (n := n) (k := 31) (by decide) (by omega)
    rw [W_len, List.length_cons]; omega
  have ht : cutS (W (41 :: TL.numL n)) (some 1) none = W (TL.numL n) := by rw [W_tail]; rfl
  have hi := lw_int h2
  have hfl : found.length < 16777216 := by omega
  refine ⟨.ow (.fz (.str (W [40]))), .ow (.fz body), ?_⟩
  have hp : ((pre.length + 1 : Nat) : Int) = (pre.length : Int) + 1 := by omega
  rw [hp] at hr
  generalize WsD (pre ++ [40] :: (mid ++ (41 :: TL.numL n) :: post)) = ws at *
  clear hq
  generalize pre.length = p at *
  have s2 : m_nodes_from_2 cs rec (nfSD ws p0 p found x3 x4) = .nx (nfSD ws p0 p found (.ow (.fz (.str (W [40])))) x4) := by
    simp [m_nodes_from_2, nfSD, -List.map_map, -List.map_take, -List.map_drop, -List.map_append, -List.map_reverse, asDef, entry, slotsOf, sSeq, sSet, sRet, sIf, sDrop, sNil, sBreak, sCont, sApp, sSetAt, setEnd, sAug, sAsg, sPar, mVar, mSee, mFrz, mTake, mC, mUn, mOp, mNil, mCons, mCall, mCallL, mTup, mLst, mView, mOwn, mFz, mTest, mAnd, mOr, mNot, mIf, mAndV, mOrV, mNotV, mChain, mAt, qSee, qFz, qNew, oNone, oSome, rNil, rSlot, rFz, mCall0, mCall1, oneSlot, noSlot, treesOf, SD.tree, SD.put, SD.putFz, tgN, tgNil, tgCons, tgT, ER.bind, ER.opt, ER.stm, Fl.seq, OT.view, OT.views, OT.items, fzOf, iLst, iTuP, iRange1, iRange2, iZip2, iEnumL, dAdd, dSub, dNeg, dLt, dLe, dGt, dGe, dIsN, dNotN, isNonD, dEq, dNe, eqB_int, eqB_str, eqB_bl, eq_2, eq_3, dLen, dIsi, D.isA, tyName, dMod, dMax, dMin, mAtS, mBm, D.isL, D.isS, g1]
  have s3 : m_nodes_from_3 cs rec (nfSD ws p0 p found (.ow (.fz (.str (W [40])))) x4) = .nx (nfSD ws p0 q found (.ow (.fz (.str (W [40])))) (.ow (.fz body))) := by
    simp [m_nodes_from_3, nfSD, -List.map_map, -List.map_take, -List.map_drop, -List.map_append, -List.map_reverse, asDef, entry, slotsOf, sSeq, sSet, sRet, sIf, sDrop, sNil, sBreak, sCont, sApp, sSetAt, setEnd, sAug, sAsg, sPar, mVar, mSee, mFrz, mTake, mC, mUn, mOp, mNil, mCons, mCall, mCallL, mTup, mLst, mView, mOwn, mFz, mTest, mAnd, mOr, mNot, mIf, mAndV, mOrV, mNotV, mChain, mAt, qSee, qFz, qNew, oNone, oSome, rNil, rSlot, rFz, mCall0, mCall1, oneSlot, noSlot, treesOf, SD.tree, SD.put, SD.putFz, tgN, tgNil, tgCons, tgT, ER.bind, ER.opt, ER.stm, Fl.seq, OT.view, OT.views, OT.items, fzOf, iLst, iTuP, iRange1, iRange2, iZip2, iEnumL, dAdd, dSub, dNeg, dLt, dLe, dGt, dGe, dIsN, dNotN, isNonD, dEq, dNe, eqB_int, eqB_str, eqB_bl, eq_2, eq_3, dLen, dIsi, D.isA, tyName, dMod, dMax, dMin, mAtS, mBm, D.isL, D.isS, hr]
  have s4 : m_nodes_from_4 cs rec (nfSD ws p0 q found (.ow (.fz (.str (W [40])))) (.ow (.fz body))) = .nx (nfSD ws p0 q (found ++ [.tup [body, .int n]]) (.ow (.fz (.str (W [40])))) (.ow (.fz body))) := by
    simp [m_nodes_from_4, nfSD, -List.map_map, -List.map_take, -List.map_drop, -List.map_append, -List.map_reverse, asDef, entry, slotsOf, sSeq, sSet, sRet, sIf, sDrop, sNil, sBreak, sCont, sApp, sSetAt, setEnd, sAug, sAsg, sPar, mVar, mSee, mFrz, mTake, mC, mUn, mOp, mNil, mCons, mCall, mCallL, mTup, mLst, mView, mOwn, mFz, mTest, mAnd, mOr, mNot, mIf, mAndV, mOrV, mNotV, mChain, mAt, qSee, qFz, qNew, oNone, oSome, rNil, rSlot, rFz, mCall0, mCall1, oneSlot, noSlot, treesOf, SD.tree, SD.put, SD.putFz, tgN, tgNil, tgCons, tgT, ER.bind, ER.opt, ER.stm, Fl.seq, OT.view, OT.views, OT.items, fzOf, iLst, iTuP, iRange1, iRange2, iZip2, iEnumL, dAdd, dSub, dNeg, dLt, dLe, dGt, dGe, dIsN, dNotN, isNonD, dEq, dNe, eqB_int, eqB_str, eqB_bl, eq_2, eq_3, dLen, dIsi, D.isA, tyName, dMod, dMax, dMin, mAtS, mBm, D.isL, D.isS, mCutX, g2, ht, hl, hi, -dInt2, hfl]
    rw [List.map_append]; rfl
  have s6 : m_nodes_from_6 cs rec (nfSD ws p0 p found (.ow (.fz (.str (W [40])))) x4) = .nx (nfSD ws p0 q (found ++ [.tup [body, .int n]]) (.ow (.fz (.str (W [40])))) (.ow (.fz body))) := by
    have t6 : mTest (mOp dEq (mVar 3) (mC (.str "("))) (nfSD ws p0 p found (.ow (.fz (.str (W [40])))) x4) = .ok true (nfSD ws p0 p found (.ow (.fz (.str (W [40])))) x4) := by
      simp [nfSD, -List.map_map, -List.map_take, -List.map_drop, -List.map_append, -List.map_reverse, asDef, entry, slotsOf, sSeq, sSet, sRet, sIf, sDrop, sNil, sBreak, sCont, sApp, sSetAt, setEnd, sAug, sAsg, sPar, mVar, mSee, mFrz, mTake, mC, mUn, mOp, mNil, mCons, mCall, mCallL, mTup, mLst, mView, mOwn, mFz, mTest, mAnd, mOr, mNot, mIf, mAndV, mOrV, mNotV, mChain, mAt, qSee, qFz, qNew, oNone, oSome, rNil, rSlot, rFz, mCall0, mCall1, oneSlot, noSlot, treesOf, SD.tree, SD.put, SD.putFz, tgN, tgNil, tgCons, tgT, ER.bind, ER.opt, ER.stm, Fl.seq, OT.view, OT.views, OT.items, fzOf, iLst, iTuP, iRange1, iRange2, iZip2, iEnumL, dAdd, dSub, dNeg, dLt, dLe, dGt, dGe, dIsN, dNotN, isNonD, dEq, dNe, eqB_int, eqB_str, eqB_bl, eq_2, eq_3, dLen, dIsi, D.isA, tyName, dMod, dMax, dMin, mAtS, mBm, D.isL, D.isS, lo]
    simp only [m_nodes_from_6, sIf, t6, ER.stm, if_true, sSeq, s3, s4, Fl.seq]
  have s7 : m_nodes_from_7 cs rec (nfSD ws p0 q (found ++ [.tup [body, .int n]]) (.ow (.fz (.str (W [40])))) (.ow (.fz body))) = .nx (nfSD ws p0 (q + 1) (found ++ [.tup [body, .int n]]) (.ow (.fz (.str (W [40])))) (.ow (.fz body))) := by
    simp [m_nodes_from_7, nfSD, -List.map_map, -List.map_take, -List.map_drop, -List.map_append, -List.map_reverse, asDef, entry, slotsOf, sSeq, sSet, sRet, sIf, sDrop, sNil, sBreak, sCont, sApp, sSetAt, setEnd, sAug, sAsg, sPar, mVar, mSee, mFrz, mTake, mC, mUn, mOp, mNil, mCons, mCall, mCallL, mTup, mLst, mView, mOwn, mFz, mTest, mAnd, mOr, mNot, mIf, mAndV, mOrV, mNotV, mChain, mAt, qSee, qFz, qNew, oNone, oSome, rNil, rSlot, rFz, mCall0, mCall1, oneSlot, noSlot, treesOf, SD.tree, SD.put, SD.putFz, tgN, tgNil, tgCons, tgT, ER.bind, ER.opt, ER.stm, Fl.seq, OT.view, OT.views, OT.items, fzOf, iLst, iTuP, iRange1, iRange2, iZip2, iEnumL, dAdd, dSub, dNeg, dLt, dLe, dGt, dGe, dIsN, dNotN, isNonD, dEq, dNe, eqB_int, eqB_str, eqB_bl, eq_2, eq_3, dLen, dIsi, D.isA, tyName, dMod, dMax, dMin, mAtS, mBm, D.isL, D.isS]
  simp only [m_nodes_from_b1, sSeq, s2, s6, s7, Fl.seq]
theorem nf_loop (cs : Nat → Addr) (f : Nat) (ih : ∀ (pre post : List (List Nat)) (l : List Nd), noks l → ndps l < f → (wds l).length ≤ 1000 → (post = [] ∨ ∃ r t, post = (41 :: r) :: t ∧ r.length ≤ 100) → ∃ sd, m_nodes_from cs f [.fz (.lst (WsD (pre ++ (wds l ++ post)))), .fz (.int pre.length)] = .ok (.fz (.tup [.tup (encs l), .int ((pre ++ wds l).length : Nat)])) sd) :
    ∀ (l : List Nd) (pre post : List (List Nat)) (p0 : Nat) (found : List D) (x3 x4 : S), noks l → ndps l < f + 1 → (wds l).length ≤ 1000 → found.length + l.length ≤ 1500 → (post = [] ∨ ∃ r t, post = (41 :: r) :: t ∧ r.length ≤ 100) →
      ∃ y3 y4, WGo nfC (m_nodes_from_b1 cs (m_nodes_from cs f)) l.length (nfSD (WsD (pre ++ (wds l ++ post))) p0 pre.length found x3 x4) (nfSD (WsD (pre ++ (wds l ++ post))) p0 (pre ++ wds l).length (found ++ encs l) y3 y4)
  | [], pre, post, p0, found, x3, x4, _, _, _, _, _ => ⟨x3, x4, by
    rw [wds, encs, List.append_nil, List.append_nil]
    exact .nil⟩
  | .st c n :: r, pre, post, p0, found, x3, x4, h, hd, hl, hf, hp => by
    rw [noks, nok] at h
    rw [ndps] at hd
    rw [wds, wd, List.length_append, List.length_singleton] at hl
    rw [List.length_cons] at hf
    obtain ⟨y3, y4, e⟩ := nf_st cs (m_nodes_from cs f) (pre := pre) (post := wds r ++ post) (p0 := p0) (found := found) (x3 := x3) (x4 := x4) h.1.1 h.1.2.1 h.1.2.2 (by omega)
    have hc := nf_cond (pre := pre) (post := wds r ++ post) (c := c) (r := if n = 1 then [] else TL.numL n) (p0 := p0) (found := found) (x3 := x3) (x4 := x4) (letter_ne h.1.1).2 (by have := lw_len h.1.2.2; omega)
    obtain ⟨z3, z4, g⟩ := nf_loop cs f ih r (pre ++ [lw c n]) post p0 (found ++ [enc (.st c n)]) y3 y4 h.2 (by omega) (by omega) (by rw [List.length_append, List.length_singleton]; omega) hp
    refine ⟨z3, z4, ?_⟩
    have e1 : pre ++ (wds (.st c n :: r) ++ post) = pre ++ lw c n :: (wds r ++ post) := by rw [wds, wd]; simp
    have e2 : (pre ++ [lw c n]) ++ (wds r ++ post) = pre ++ lw c n :: (wds r ++ post) := by simp
    have e3 : (pre ++ [lw c n]) ++ wds r = pre ++ wds (.st c n :: r) := by rw [wds, wd]; simp
    have e4 : (pre ++ [lw c n]).length = pre.length + 1 := by simp
    rw [e2, e3, e4, List.append_assoc] at g
    rw [e1, encs]
    exact (WGo.one hc e).app g
  | .rp b n :: r, pre, post, p0, found, x3, x4, h, hd, hl, hf, hp => by
    rw [noks, nok] at h
    rw [ndps, ndp] at hd
    rw [wds, wd, List.length_append, List.length_cons, List.length_append, List.length_singleton] at hl
    rw [List.length_cons] at hf
    have e1 : pre ++ (wds (.rp b n :: r) ++ post) = pre ++ [40] :: (wds b ++ (41 :: TL.numL n) :: (wds r ++ post)) := by rw [wds, wd]; simp
    have nl : (TL.numL n).length ≤ 100 := by
      have hl := TL.numL_len (n := n) (k := 31) (by decide) (by omega)
      omega
    obtain ⟨sd, hr⟩ := ih (pre ++ [[40]]) ((41 :: TL.numL n) :: (wds r ++ post)) b h.1.2.2.2 (by omega) (by omega) (.inr ⟨_, _, rfl, nl⟩)
    have e2 : (pre ++ [[40]]) ++ (wds b ++ (41 :: TL.numL n) :: (wds r ++ post)) = pre ++ [40] :: (wds b ++ (41 :: TL.numL n) :: (wds r ++ post)) := by simp
    have e3 : (pre ++ [[40]]).length = pre.length + 1 := by simp
    have e4 : (pre ++ [[40]]) ++ wds b = pre ++ [40] :: wds b := by simp
    rw [e2, e3, e4] at hr
    obtain ⟨y3, y4, e⟩ := nf_rp cs (m_nodes_from cs f) (pre := pre) (post := wds r ++ post) (p0 := p0) (mid := wds b) (found := found) (x3 := x3) (x4 := x4) h.1.2.2.1 (by omega) rfl hr
    have hc := nf_cond (pre := pre) (post := wds b ++ (41 :: TL.numL n) :: (wds r ++ post)) (c := 40) (r := []) (p0 := p0) (found := found) (x3 := x3) (x4 := x4) (by decide) (by simp)
    obtain ⟨z3, z4, g⟩ := nf_loop cs f ih r (pre ++ wd (.rp b n)) post p0 (found ++ [enc (.rp b n)]) y3 y4 h.2 (by omega) (by omega) (by rw [List.length_append, List.length_singleton]; omega) hp
    refine ⟨z3, z4, ?_⟩
    have e5 : (pre ++ wd (.rp b n)) ++ (wds r ++ post) = pre ++ [40] :: (wds b ++ (41 :: TL.numL n) :: (wds r ++ post)) := by rw [wd]; simp
    have e6 : (pre ++ wd (.rp b n)) ++ wds r = pre ++ wds (.rp b n :: r) := by rw [wds]; simp
    have e7 : (pre ++ wd (.rp b n)).length = (pre ++ [40] :: wds b).length + 1 := by rw [wd]; simp; omega
    rw [e5, e6, e7, List.append_assoc] at g
    rw [e1, encs]
    rw [enc] at g ⊢
    exact (WGo.one hc e).app g
theorem nodes_from_ok (cs : Nat → Addr) : ∀ (f : Nat) (pre post : List (List Nat)) (l : List Nd), noks l → ndps l < f → (wds l).length ≤ 1000 → (post = [] ∨ ∃ r t, post = (41 :: r) :: t ∧ r.length ≤ 100) → ∃ sd, m_nodes_from cs f [.fz (.lst (WsD (pre ++ (wds l ++ post)))), .fz (.int pre.length)] = .ok (.fz (.tup [.tup (encs l), .int ((pre ++ wds l).length : Nat)])) sd
  | 0, pre, post, l, _, hd, _, _ => by omega
  | f + 1, pre, post, l, h, hd, hl, hp => by
    have hll := len_wds l
    obtain ⟨y3, y4, g⟩ := nf_loop cs f (nodes_from_ok cs f) l pre post pre.length [] .un .un h hd hl (by rw [List.length_nil]; omega) hp
    rw [List.nil_append] at g
    have st := nf_stop (pre := pre ++ wds l) (post := post) (p0 := pre.length) (found := encs l) (x3 := y3) (x4 := y4) hp
    rw [List.append_assoc] at st
    generalize WsD (pre ++ (wds l ++ post)) = ws at *
    have s1 : m_nodes_from_1 cs (m_nodes_from cs f) ⟨[.ow (.fz (.lst ws)), .ow (.fz (.int pre.length)), .un, .un, .un], [.fz (.lst ws), .fz (.int pre.length)]⟩ = .nx (nfSD ws pre.length pre.length [] .un .un) := rfl
    have s8 : m_nodes_from_8 cs (m_nodes_from cs f) (nfSD ws pre.length pre.length [] .un .un) = .nx (nfSD ws pre.length (pre ++ wds l).length (encs l) y3 y4) := by
      show goWhile nfC (m_nodes_from_b1 cs (m_nodes_from cs f)) 100000 _ = _
      have := g (100000 - l.length)
      rw [show 100000 - l.length + l.length = 100000 by omega] at this
      rw [this, show 100000 - l.length = (99999 - l.length) + 1 by omega]
      show (nfC (nfSD ws pre.length (pre ++ wds l).length (encs l) y3 y4)).stm _ = _
      rw [st]
      rfl
    have v9 : OT.views ((encs l).map .fz) = encs l := views_fz _
    have s9 : m_nodes_from_9 cs (m_nodes_from cs f) (nfSD ws pre.length (pre ++ wds l).length (encs l) y3 y4) = .rt (.fz (.tup [.tup (encs l), .int ((pre ++ wds l).length : Nat)])) ⟨[.ow (.fz (.lst ws)), .ow (.fz (.int (pre ++ wds l).length)), .ow (.fz (.lst (encs l))), y3, y4], [.fz (.lst ws), .fz (.int pre.length)]⟩ := by
      simp [m_nodes_from_9, nfSD, -List.map_map, -List.map_take, -List.map_drop, -List.map_append, -List.map_reverse, asDef, entry, slotsOf, sSeq, sSet, sRet, sIf, sDrop, sNil, sBreak, sCont, sApp, sSetAt, setEnd, sAug, sAsg, sPar, mVar, mSee, mFrz, mTake, mC, mUn, mOp, mNil, mCons, mCall, mCallL, mTup, mLst, mView, mOwn, mFz, mTest, mAnd, mOr, mNot, mIf, mAndV, mOrV, mNotV, mChain, mAt, qSee, qFz, qNew, oNone, oSome, rNil, rSlot, rFz, mCall0, mCall1, oneSlot, noSlot, treesOf, SD.tree, SD.put, SD.putFz, tgN, tgNil, tgCons, tgT, ER.bind, ER.opt, ER.stm, Fl.seq, OT.view, OT.views, OT.items, fzOf, iLst, iTuP, iRange1, iRange2, iZip2, iEnumL, dAdd, dSub, dNeg, dLt, dLe, dGt, dGe, dIsN, dNotN, isNonD, dEq, dNe, eqB_int, eqB_str, eqB_bl, eq_2, eq_3, dLen, dIsi, D.isA, tyName, dMod, dMax, dMin, mAtS, mBm, D.isL, D.isS, mFrz, mCallT, dTupOf, v9]
    have ent : entry 5 [.fz (.lst ws), .fz (.int pre.length)] = ⟨[.ow (.fz (.lst ws)), .ow (.fz (.int pre.length)), .un, .un, .un], [.fz (.lst ws), .fz (.int pre.length)]⟩ := rfl
    refine ⟨⟨[], [.fz (.lst ws), .fz (.int pre.length)]⟩, ?_⟩
    show m_nodes_from_r cs (m_nodes_from cs f) _ = _
    simp only [m_nodes_from_r, asDef, ent, sSeq, s1, s8, s9, Fl.seq]
theorem nodes_in_ok (cs : Nat → Addr) {l : List Nd} (h : noks l) (hd : ndps l ≤ 12) (hl : (wds l).length ≤ 1000) : m_nodes_in cs [.fz (.lst (WsD (wds l)))] = .ok (.fz (.tup (encs l))) ⟨[], [.fz (.lst (WsD (wds l)))]⟩ := by
  obtain ⟨sd, e⟩ := nodes_from_ok cs 16 [] [] l h (by omega) hl (.inl rfl)
  rw [List.nil_append, List.append_nil, List.nil_append, List.length_nil] at e
  have e : m_nodes_from cs 16 [.fz (.lst (WsD (wds l))), .fz (.int 0)] = .ok (.fz (.tup [.tup (encs l), .int ((wds l).length : Nat)])) sd := e
  generalize WsD (wds l) = ws at *
  simp [m_nodes_in, m_nodes_in_1, -List.map_map, -List.map_take, -List.map_drop, -List.map_append, -List.map_reverse, asDef, entry, slotsOf, sSeq, sSet, sRet, sIf, sDrop, sNil, sBreak, sCont, sApp, sSetAt, setEnd, sAug, sAsg, sPar, mVar, mSee, mFrz, mTake, mC, mUn, mOp, mNil, mCons, mCall, mCallL, mTup, mLst, mView, mOwn, mFz, mTest, mAnd, mOr, mNot, mIf, mAndV, mOrV, mNotV, mChain, mAt, qSee, qFz, qNew, oNone, oSome, rNil, rSlot, rFz, mCall0, mCall1, oneSlot, noSlot, treesOf, SD.tree, SD.put, SD.putFz, tgN, tgNil, tgCons, tgT, ER.bind, ER.opt, ER.stm, Fl.seq, OT.view, OT.views, OT.items, fzOf, iLst, iTuP, iRange1, iRange2, iZip2, iEnumL, dIx, atI, ixN, dAdd, dSub, dNeg, dLt, dLe, dGt, dGe, dIsN, dNotN, isNonD, dEq, dNe, eqB_int, eqB_str, eqB_bl, eq_2, eq_3, dLen, dIsi, D.isA, tyName, dMod, dMax, dMin, mAtS, mBm, D.isL, D.isS, e]
theorem log2_lt {n k : Nat} (h : n < 2 ^ k) : n.log2 < k + 1 := by
  by_cases e : n = 0
  · subst e; rw [Nat.log2_zero]; omega
  · have := (Nat.log2_lt e).mpr h; omega
theorem mul_ok {i j : Int} {a b : Nat} (hi : i.natAbs < 2 ^ a) (hj : j.natAbs < 2 ^ b) (h : a + b + 1 < 1000000) : dMul (.int i) (.int j) = some (.int (i * j)) := by
  have h1 := log2_lt hi
  have h2 := log2_lt hj
  show (if i.natAbs.log2 + j.natAbs.log2 < 1000000 then some (D.int (i * j)) else none) = _
  rw [if_pos (by omega)]
theorem bits_lt {i : Int} {a : Nat} (hi : i.natAbs < 2 ^ a) : Builtin.Int.intBits i ≤ a + 1 := by
  unfold Builtin.Int.intBits
  have h1 := log2_lt hi
  by_cases e : (i == 0) = true
  · rw [if_pos e]; omega
  · rw [if_neg e]; omega
theorem pow_ok {i : Int} {k a : Nat} (hi : i.natAbs < 2 ^ a) (h : (a + 1) * k ≤ 134217728) : dPow (.int i) (.int k) = some (.int (i ^ k)) := by
  have h1 := bits_lt hi
  have h2 : Builtin.Int.intBits i * k ≤ (a + 1) * k := Nat.mul_le_mul_right k h1
  show (if (0 : Int) ≤ (k : Int) ∧ (Builtin.Int.intBits i : Int) * (k : Int) ≤ 134217728 then some (D.int (i ^ (k : Int).toNat)) else none) = _
  rw [if_pos ⟨Int.natCast_nonneg k, by rw [← Int.natCast_mul]; omega⟩]
  rfl
theorem div_ok {i j : Int} {a : Nat} (hj : j.natAbs < 2 ^ a) (h0 : j ≠ 0) (h : a < 8999) : dDiv (.int i) (.int j) = some (.int (i.fdiv j)) := by
  have h1 := log2_lt hj
  show (if j ≠ 0 ∧ j.natAbs.log2 < 9000 then some (D.int (i.fdiv j)) else none) = _
  rw [if_pos ⟨h0, by omega⟩]
/-- a tank after at most n turns of its wheel -/
theorem p10 {k : Nat} {m : Int} (h : (10 : Int) ^ k = m) (hk : 5 * k ≤ 134217728 := by decide) : dPow (.int 10) (.int k) = some (.int m) := by
  rw [pow_ok (a := 4) (by decide) (by omega), h]
theorem isi_str (c : Nat) : dIsi [.str (W [c]), .ty "str"] = some (.bl true) := rfl
theorem isi_tup (ds : List D) : dIsi [.tup ds, .ty "str"] = some (.bl false) := rfl
noncomputable def liSD (ns : D) (f : Int) (x2 x3 : S) : SD := ⟨[.ow (.fz ns), .ow (.fz (.int f)), x2, x3], [.fz ns]⟩
theorem pow_wide {k : Nat} (h : k ≤ 400000) {n : Nat} (hn : n ≤ 2 ^ k) : ((n : Int)).natAbs < 2 ^ (k + 1) := by
  rw [Int.natAbs_natCast]
  have : 2 ^ k < 2 ^ (k + 1) := Nat.pow_lt_pow_right (by decide) (by omega)
  omega
theorem e30_lt {n : Nat} (h : n ≤ 1000000000000000000000000000000) : n ≤ 2 ^ 100 := by
  have : (2 : Nat) ^ 100 = 1267650600228229401496703205376 := by decide
  omega
theorem length_ok (cs : Nat → Addr) : ∀ (f : Nat) (l : List Nd), noks l → ndps l < f → (wds l).length ≤ 1000 → m_length_in cs f [.fz (.tup (encs l))] = .ok (.fz (.int (nlens l))) ⟨[], [.fz (.tup (encs l))]⟩
  | 0, l, _, hd, _ => by omega
  | f + 1, l, h, hd, hl => by
    have step : ∀ (r : List Nd) (ns : D) (a : Nat) (x2 x3 : S), noks r → ndps r < f + 1 → (wds r).length ≤ 1000 → ∃ y2 y3, Runs (tgT 2 (tgCons (tgN 2) (tgCons (tgN 3) (tgNil)))) (m_length_in_b1 cs (m_length_in cs f)) (encs r) (liSD ns a x2 x3) (liSD ns ((a + nlens r : Nat) : Int) y2 y3) := fun r => by
      induction r with
      | nil => exact fun ns a x2 x3 _ _ _ => ⟨x2, x3, by rw [nlens, encs, Nat.add_zero]; exact .nil⟩
      | cons x r ihr =>
        intro ns a x2 x3 h hd hl
        rw [noks] at h
        rw [ndps] at hd
        rw [wds, List.length_append] at hl
        cases x with
        | st c n =>
          rw [nok] at h
          have mu : dMul (.int n) (.int 1) = some (.int (n * 1)) := mul_ok (a := 101) (b := 10) (pow_wide (k := 100) (by decide) (e30_lt (by omega))) (by decide) (by decide)
          obtain ⟨z2, z3, g⟩ := ihr ns (a + n) (.ow (.fz (.str (W [c])))) (.ow (.fz (.int n))) h.2 (by omega) (by omega)
          refine ⟨z2, z3, ?_⟩
          rw [encs, enc, nlens, nlen, ← Nat.add_assoc]
          refine Runs.app (xs := [_]) (.one (a1 := liSD ns a (.ow (.fz (.str (W [c])))) (.ow (.fz (.int n)))) rfl ?_) g
          simp [m_length_in_b1, m_length_in_2, liSD, -List.map_map, -List.map_take, -List.map_drop, -List.map_append, -List.map_reverse, asDef, entry, slotsOf, sSeq, sSet, sRet, sIf, sDrop, sNil, sBreak, sCont, sApp, sSetAt, setEnd, sAug, sAsg, sPar, mVar, mSee, mFrz, mTake, mC, mUn, mOp, mNil, mCons, mCall, mCallL, mTup, mLst, mView, mOwn, mFz, mTest, mAnd, mOr, mNot, mIf, mAndV, mOrV, mNotV, mChain, mAt, qSee, qFz, qNew, oNone, oSome, rNil, rSlot, rFz, mCall0, mCall1, oneSlot, noSlot, treesOf, SD.tree, SD.put, SD.putFz, tgN, tgNil, tgCons, tgT, ER.bind, ER.opt, ER.stm, Fl.seq, OT.view, OT.views, OT.items, fzOf, iLst, iTuP, iRange1, iRange2, iZip2, iEnumL, dIx, atI, ixN, dAdd, dSub, dNeg, dLt, dLe, dGt, dGe, dIsN, dNotN, isNonD, dEq, dNe, eqB_int, eqB_str, eqB_bl, eq_2, eq_3, dLen, dIsi, D.isA, tyName, dMod, dMax, dMin, mAtS, mBm, D.isL, D.isS, isi_str, mu, -dIsi]
        | rp b n =>
          rw [nok] at h
          rw [ndp] at hd
          rw [wd, List.length_cons, List.length_append, List.length_singleton] at hl
          have hrec := length_ok cs f b h.1.2.2.2 (by omega) (by omega)
          have hb := nlens_lt b h.1.2.2.2
          have mu : dMul (.int n) (.int (nlens b)) = some (.int (n * nlens b)) := mul_ok (a := 101) (b := 100 * (wds b).length + 1) (pow_wide (k := 100) (by decide) (e30_lt (by omega))) (pow_wide (by omega) hb) (by omega)
          obtain ⟨z2, z3, g⟩ := ihr ns (a + n * nlens b) (.ow (.fz (.tup (encs b)))) (.ow (.fz (.int n))) h.2 (by omega) (by omega)
          refine ⟨z2, z3, ?_⟩
          rw [encs, enc, nlens, nlen, ← Nat.add_assoc]
          refine Runs.app (xs := [_]) (.one (a1 := liSD ns a (.ow (.fz (.tup (encs b)))) (.ow (.fz (.int n)))) rfl ?_) g
          simp [m_length_in_b1, m_length_in_2, liSD, -List.map_map, -List.map_take, -List.map_drop, -List.map_append, -List.map_reverse, asDef, entry, slotsOf, sSeq, sSet, sRet, sIf, sDrop, sNil, sBreak, sCont, sApp, sSetAt, setEnd, sAug, sAsg, sPar, mVar, mSee, mFrz, mTake, mC, mUn, mOp, mNil, mCons, mCall, mCallL, mTup, mLst, mView, mOwn, mFz, mTest, mAnd, mOr, mNot, mIf, mAndV, mOrV, mNotV, mChain, mAt, qSee, qFz, qNew, oNone, oSome, rNil, rSlot, rFz, mCall0, mCall1, oneSlot, noSlot, treesOf, SD.tree, SD.put, SD.putFz, tgN, tgNil, tgCons, tgT, ER.bind, ER.opt, ER.stm, Fl.seq, OT.view, OT.views, OT.items, fzOf, iLst, iTuP, iRange1, iRange2, iZip2, iEnumL, dIx, atI, ixN, dAdd, dSub, dNeg, dLt, dLe, dGt, dGe, dIsN, dNotN, isNonD, dEq, dNe, eqB_int, eqB_str, eqB_bl, eq_2, eq_3, dLen, dIsi, D.isA, tyName, dMod, dMax, dMin, mAtS, mBm, D.isL, D.isS, isi_tup, mu, hrec, -dIsi]
    obtain ⟨y2, y3, g⟩ := step l (.tup (encs l)) 0 .un .un h hd hl
    rw [Nat.zero_add] at g
    have s1 : m_length_in_1 cs (m_length_in cs f) ⟨[.ow (.fz (.tup (encs l))), .un, .un, .un], [.fz (.tup (encs l))]⟩ = .nx (liSD (.tup (encs l)) (0 : Nat) .un .un) := rfl
    have s3 : m_length_in_3 cs (m_length_in cs f) (liSD (.tup (encs l)) (0 : Nat) .un .un) = .nx (liSD (.tup (encs l)) (nlens l) y2 y3) := g.all
    have s4 : m_length_in_4 cs (m_length_in cs f) (liSD (.tup (encs l)) (nlens l) y2 y3) = .rt (.fz (.int (nlens l))) (liSD (.tup (encs l)) (nlens l) y2 y3) := rfl
    have ent : entry 4 [.fz (.tup (encs l))] = ⟨[.ow (.fz (.tup (encs l))), .un, .un, .un], [.fz (.tup (encs l))]⟩ := rfl
    show m_length_in_r cs (m_length_in cs f) _ = _
    simp only [m_length_in_r, asDef, ent, sSeq, s1, s3, s4, Fl.seq]
    rfl
/-- the depths of the repeats -/
noncomputable def bodies : List Nd → List Int
  | [] => []
  | .st _ _ :: r => bodies r
  | .rp b _ :: r => (1 + (ndps b : Int)) :: bodies r
theorem bodies_max : ∀ (l : List Nd) (m : Nat), (bodies l).foldl max (m : Int) = ((max m (ndps l) : Nat) : Int)
  | [], m => by rw [bodies, ndps, Nat.max_zero]; rfl
  | .st _ _ :: r, m => by rw [bodies, ndps, ndp, bodies_max r m, Nat.zero_max]
  | .rp b _ :: r, m => by
    rw [bodies, ndps, ndp, List.foldl_cons]
    rw [show max (m : Int) (1 + (ndps b : Int)) = ((max m (1 + ndps b) : Nat) : Int) by omega, bodies_max r, Nat.max_assoc]
theorem bodies_len : ∀ l : List Nd, (bodies l).length ≤ l.length
  | [] => Nat.le_refl _
  | .st _ _ :: r => by have := bodies_len r; rw [bodies, List.length_cons]; omega
  | .rp b _ :: r => by have := bodies_len r; rw [bodies, List.length_cons, List.length_cons]; omega
noncomputable def isRp : Nd → Bool
  | .st _ _ => false
  | .rp _ _ => true
noncomputable def bodyI : Nd → Int
  | .st _ _ => 0
  | .rp b _ => 1 + (ndps b : Int)
theorem bodies_eq : ∀ l : List Nd, (l.filter isRp).map bodyI = bodies l
  | [] => rfl
  | .st _ _ :: r => by rw [bodies, ← bodies_eq r]; rfl
  | .rp b _ :: r => by rw [bodies, ← bodies_eq r]; rfl
theorem encs_map : ∀ l : List Nd, encs l = l.map enc
  | [] => rfl
  | a :: r => by rw [encs, encs_map r]; rfl
theorem mem_nok {l : List Nd} (h : noks l) {a : Nd} (ha : a ∈ l) : nok a := by
  induction l with
  | nil => cases ha
  | cons b r ih =>
    rw [noks] at h
    rcases List.mem_cons.mp ha with rfl | q
    · exact h.1
    · exact ih h.2 q
theorem mem_ndp {l : List Nd} {a : Nd} (ha : a ∈ l) : ndp a ≤ ndps l := by
  induction l with
  | nil => cases ha
  | cons b r ih =>
    rw [ndps]
    rcases List.mem_cons.mp ha with rfl | q
    · omega
    · have := ih q; omega
theorem mem_wd {l : List Nd} {a : Nd} (ha : a ∈ l) : (wd a).length ≤ (wds l).length := by
  induction l with
  | nil => cases ha
  | cons b r ih =>
    rw [wds, List.length_append]
    rcases List.mem_cons.mp ha with rfl | q
    · omega
    · have := ih q; omega
theorem depth_ok' (cs : Nat → Addr) : ∀ (f : Nat) (l : List Nd), noks l → ndps l < f → (wds l).length ≤ 1000 → m_depth_in cs f [.fz (.tup (encs l))] = .ok (.fz (.int (ndps l))) ⟨[], [.fz (.tup (encs l))]⟩
  | 0, l, _, hd, _ => by omega
  | f + 1, l, h, hd, hl => by
    have hll := len_wds l
    have c1 : m_depth_in_c1 cs (m_depth_in cs f) ⟨[.ow (.fz (.tup (encs l))), .un, .un], [.fz (.tup (encs l))]⟩ = .ok (.ol (((l.filter isRp).map fun a => D.int (bodyI a)).map .fz)) ⟨[.ow (.fz (.tup (encs l))), .un, .un], [.fz (.tup (encs l))]⟩ := by
      refine mComp_of l enc isRp (fun a => D.int (bodyI a)) (by rw [encs_map]; rfl) (by omega) fun a ha => ?_
      have hn := mem_nok h ha
      have hdp := mem_ndp ha
      have hw := mem_wd ha
      cases a with
      | st c n => exact ⟨⟨[.ow (.fz (.tup (encs l))), .ow (.fz (.str (W [c]))), .ow (.fz (.int n))], [.fz (.tup (encs l))]⟩, by rw [enc]; rfl, rfl, rfl, fun z => (by cases z)⟩
      | rp b n =>
        rw [nok] at hn
        rw [ndp] at hdp
        rw [wd, List.length_cons, List.length_append, List.length_singleton] at hw
        have hrec := depth_ok' cs f b hn.2.2.2 (by omega) (by omega)
        refine ⟨⟨[.ow (.fz (.tup (encs l))), .ow (.fz (.tup (encs b))), .ow (.fz (.int n))], [.fz (.tup (encs l))]⟩, by rw [enc]; rfl, rfl, rfl, fun _ => ?_⟩
        simp [mOp, mC, mView, mCall0, mCons, mVar, mNil, ER.bind, ER.opt, hrec, OT.view, dAdd, bodyI]
    have e1 : ((l.filter isRp).map fun a => D.int (bodyI a)) = (bodies l).map D.int := by rw [← bodies_eq, List.map_map]; rfl
    rw [e1] at c1
    have v1 : OT.views ((((0 : Int) :: bodies l).map D.int).map .fz) = ((0 : Int) :: bodies l).map D.int := views_fz _
    have mx : dMax [.lst (((0 : Int) :: bodies l).map D.int)] = some (.int (ndps l)) := by
      show (match intsOf (((0 : Int) :: bodies l).map D.int) with
        | some (n :: r) => some (D.int (maxI (n :: r)))
        | _ => none) = _
      rw [intsOf_map]
      show some (D.int ((bodies l).foldl max ((0 : Nat) : Int))) = _
      rw [bodies_max, Nat.zero_max]
    have bl := bodies_len l
    have s1 : m_depth_in_1 cs (m_depth_in cs f) ⟨[.ow (.fz (.tup (encs l))), .un, .un], [.fz (.tup (encs l))]⟩ = .rt (.fz (.int (ndps l))) ⟨[.ow (.fz (.tup (encs l))), .un, .un], [.fz (.tup (encs l))]⟩ := by
      have q0 : qNew (mLst (mCons (mC (.int 0)) mNil)) ⟨[.ow (.fz (.tup (encs l))), .un, .un], [.fz (.tup (encs l))]⟩ = .ok [.int 0] ⟨[.ow (.fz (.tup (encs l))), .un, .un], [.fz (.tup (encs l))]⟩ := rfl
      have q1 : qNew (m_depth_in_c1 cs (m_depth_in cs f)) ⟨[.ow (.fz (.tup (encs l))), .un, .un], [.fz (.tup (encs l))]⟩ = .ok ((bodies l).map D.int) ⟨[.ow (.fz (.tup (encs l))), .un, .un], [.fz (.tup (encs l))]⟩ := by
        unfold qNew; rw [c1]; simp only [ER.bind, OT.items, fzOf_map, ER.opt]
      simp only [m_depth_in_1, sRet, mOwn, mCall, mCons, mView, mCat, q0, q1, mNil, ER.bind]
      rw [if_pos (by rw [List.length_map]; simp; omega)]
      show ER.stm (((ER.opt (dMax [OT.view (.ol ((((0 : Int) :: bodies l).map D.int).map .fz))]) _ : ER D)).bind _) _ = _
      rw [OT.view, v1, mx]
      rfl
    have ent : entry 3 [.fz (.tup (encs l))] = ⟨[.ow (.fz (.tup (encs l))), .un, .un], [.fz (.tup (encs l))]⟩ := rfl
    show m_depth_in_r cs (m_depth_in cs f) _ = _
    simp only [m_depth_in_r, asDef, ent, s1]
noncomputable def textOf (ws : List (List Nat)) : Str := Txt.join (W [32]) (ws.map W)
noncomputable def PD (cs : Nat → Addr) (l : List Nd) : D := .ins (cs 0) ["own_text", "own_words", "own_nodes", "own_length", "own_depth"] [.str (textOf (wds l)), .tup (WsD (wds l)), .tup (encs l), .int (nlens l), .int (ndps l)]
noncomputable def PO (cs : Nat → Addr) (l : List Nd) : OT := .oi (cs 0) ["own_text", "own_words", "own_nodes", "own_length", "own_depth"] [.fz (.str (textOf (wds l))), .fz (.tup (WsD (wds l))), .fz (.tup (encs l)), .fz (.int (nlens l)), .fz (.int (ndps l))]
theorem num_free (n : Nat) : (32 : Nat) ∉ TL.numL n := TL.numL_free (.inl (by decide))
mutual
theorem wd_free : ∀ a : Nd, nok a → ∀ w ∈ wd a, (32 : Nat) ∉ w ∧ w ≠ []
  | .st c n, h, w, hw => by
    rw [nok] at h
    rw [wd, List.mem_singleton] at hw
    subst hw
    unfold lw
    refine ⟨fun z => ?_, by simp⟩
    rcases List.mem_cons.mp z with z | z
    · have := h.1
      unfold letters at this
      simp at this
      omega
    · split at z
      · cases z
      · exact num_free n z
  | .rp b n, h, w, hw => by
    rw [nok] at h
    rw [wd] at hw
    rcases List.mem_cons.mp hw with rfl | hw
    · simp
    · rcases List.mem_append.mp hw with hw | hw
      · exact wds_free b h.2.2.2 w hw
      · rw [List.mem_singleton] at hw
        subst hw
        refine ⟨fun z => ?_, by simp⟩
        rcases List.mem_cons.mp z with z | z
        · omega
        · exact num_free n z
theorem wds_free : ∀ l : List Nd, noks l → ∀ w ∈ wds l, (32 : Nat) ∉ w ∧ w ≠ []
  | [], _, w, hw => by rw [wds] at hw; cases hw
  | a :: r, h, w, hw => by
    rw [noks] at h
    rw [wds] at hw
    rcases List.mem_append.mp hw with hw | hw
    · exact wd_free a h.1 w hw
    · exact wds_free r h.2 w hw
end
mutual
theorem wd_len : ∀ a : Nd, nok a → ∀ w ∈ wd a, w.length ≤ 40
  | .st c n, h, w, hw => by
    rw [nok] at h
    rw [wd, List.mem_singleton] at hw
    subst hw
    have := lw_len h.2.2
    unfold lw
    rw [List.length_cons]; omega
  | .rp b n, h, w, hw => by
    rw [nok] at h
    rw [wd] at hw
    rcases List.mem_cons.mp hw with rfl | hw
    · simp
    · rcases List.mem_append.mp hw with hw | hw
      · exact wds_wlen b h.2.2.2 w hw
      · rw [List.mem_singleton] at hw
        subst hw
        have hl := TL.numL_len (n := n) (k := 31) (by decide) (by omega)
        rw [List.length_cons]; omega
theorem wds_wlen : ∀ l : List Nd, noks l → ∀ w ∈ wds l, w.length ≤ 40
  | [], _, w, hw => by rw [wds] at hw; cases hw
  | a :: r, h, w, hw => by
    rw [noks] at h
    rw [wds] at hw
    rcases List.mem_append.mp hw with hw | hw
    · exact wd_len a h.1 w hw
    · exact wds_wlen r h.2 w hw
end
@[simp] theorem isiI_str (ok : Addr → Bool) (n : String) (t : Str) (h : tyName n = true := by decide) : dIsiI ok n [.str t, .ty n] = some (.bl (n == "str")) := by
  show (if tyName n = true then ((D.str t).isA n).map D.bl else none) = _
  rw [if_pos h]
  rfl
theorem n_text_words : ¬ (Str.ofString "own_text" = Str.ofString "own_words") := by decide
theorem n_text_nodes : ¬ (Str.ofString "own_text" = Str.ofString "own_nodes") := by decide
theorem n_text_length : ¬ (Str.ofString "own_text" = Str.ofString "own_length") := by decide
theorem n_text_depth : ¬ (Str.ofString "own_text" = Str.ofString "own_depth") := by decide
theorem n_words_text : ¬ (Str.ofString "own_words" = Str.ofString "own_text") := by decide
theorem n_words_nodes : ¬ (Str.ofString "own_words" = Str.ofString "own_nodes") := by decide
theorem n_words_length : ¬ (Str.ofString "own_words" = Str.ofString "own_length") := by decide
theorem n_words_depth : ¬ (Str.ofString "own_words" = Str.ofString "own_depth") := by decide
theorem n_nodes_text : ¬ (Str.ofString "own_nodes" = Str.ofString "own_text") := by decide
theorem n_nodes_words : ¬ (Str.ofString "own_nodes" = Str.ofString "own_words") := by decide
theorem n_nodes_length : ¬ (Str.ofString "own_nodes" = Str.ofString "own_length") := by decide
theorem n_nodes_depth : ¬ (Str.ofString "own_nodes" = Str.ofString "own_depth") := by decide
theorem n_length_text : ¬ (Str.ofString "own_length" = Str.ofString "own_text") := by decide
theorem n_length_words : ¬ (Str.ofString "own_length" = Str.ofString "own_words") := by decide
theorem n_length_nodes : ¬ (Str.ofString "own_length" = Str.ofString "own_nodes") := by decide
theorem n_length_depth : ¬ (Str.ofString "own_length" = Str.ofString "own_depth") := by decide
theorem n_depth_text : ¬ (Str.ofString "own_depth" = Str.ofString "own_text") := by decide
theorem n_depth_words : ¬ (Str.ofString "own_depth" = Str.ofString "own_words") := by decide
theorem n_depth_nodes : ¬ (Str.ofString "own_depth" = Str.ofString "own_nodes") := by decide
theorem n_depth_length : ¬ (Str.ofString "own_depth" = Str.ofString "own_length") := by decide
theorem joinL_len : ∀ ws : List (List Nat), (∀ w ∈ ws, w.length ≤ 40) → (TL.joinL [32] ws).length ≤ 41 * ws.length
  | [], _ => by simp [TL.joinL]
  | [p], h => by
    have := h p (by simp)
    show p.length ≤ 41 * 1
    omega
  | p :: q :: r, h => by
    have ih := joinL_len (q :: r) fun w hw => h w (List.mem_cons_of_mem _ hw)
    have := h p (by simp)
    show (p ++ ([32] ++ TL.joinL [32] (q :: r))).length ≤ _
    rw [List.length_append, List.length_append, List.length_cons]
    simp at ih ⊢
    omega
theorem map_tl_W (ws : List (List Nat)) : (ws.map W).map TL.tl = ws := by
  rw [List.map_map]
  exact (List.map_congr_left fun w _ => rfl).trans (List.map_id _)
theorem textOf_tl (ws : List (List Nat)) : TL.tl (textOf ws) = TL.joinL [32] ws := by
  unfold textOf
  rw [TL.join_eq, TL.tl_join, map_tl_W]
  rfl
theorem textOf_len {ws : List (List Nat)} (h : ∀ w ∈ ws, w.length ≤ 40) : (textOf ws).length ≤ 41 * ws.length := by
  rw [TL.len_tl, textOf_tl]
  exact joinL_len ws h
theorem textOf_nil : textOf [] = W [] := TL.ext_tl (by rw [textOf_tl]; rfl)
theorem textOf_ne {ws : List (List Nat)} (h : ws ≠ []) (hw : ∀ w ∈ ws, w ≠ []) : textOf ws ≠ W [] := fun z => by
  have e := congrArg TL.tl z
  rw [textOf_tl] at e
  cases ws with
  | nil => exact h rfl
  | cons p r =>
    cases r with
    | nil => exact hw p (by simp) e
    | cons q r =>
      have e : p ++ ([32] ++ TL.joinL [32] (q :: r)) = [] := e
      simp at e
theorem textOf_split {ws : List (List Nat)} (h : ws ≠ []) (hw : ∀ w ∈ ws, (32 : Nat) ∉ w) : Txt.split (textOf ws) (W [32]) = ws.map W := by
  unfold textOf
  refine TL.split_join (s := 32) (S := []) rfl (by decide +kernel) (fun z => h (List.map_eq_nil_iff.mp z)) fun p hp => ?_
  obtain ⟨w, h1, rfl⟩ := List.mem_map.mp hp
  exact hw w h1
theorem words_of_ok (cs : Nat → Addr) {ws : List (List Nat)} (hl : ws.length ≤ 1000) (h1 : ∀ w ∈ ws, (32 : Nat) ∉ w ∧ w ≠ []) (h2 : ∀ w ∈ ws, w.length ≤ 40) : m_words_of cs [.fz (.str (textOf ws))] = .ok (.fz (.lst (WsD ws))) ⟨[], [.fz (.str (textOf ws))]⟩ := by
  have tl := textOf_len h2
  have ln := lit_nil
  have ls := lit_sp
  by_cases e : ws = []
  · subst e
    rw [textOf_nil]
    simp [m_words_of, m_words_of_1, -List.map_map, -List.map_take, -List.map_drop, -List.map_append, -List.map_reverse, asDef, entry, slotsOf, sSeq, sSet, sRet, sIf, sDrop, sNil, sBreak, sCont, sApp, sSetAt, setEnd, sAug, sAsg, sPar, mVar, mSee, mFrz, mTake, mC, mUn, mOp, mNil, mCons, mCall, mCallL, mTup, mLst, mView, mOwn, mFz, mTest, mAnd, mOr, mNot, mIf, mAndV, mOrV, mNotV, mChain, mAt, qSee, qFz, qNew, oNone, oSome, rNil, rSlot, rFz, mCall0, mCall1, oneSlot, noSlot, treesOf, SD.tree, SD.put, SD.putFz, tgN, tgNil, tgCons, tgT, ER.bind, ER.opt, ER.stm, Fl.seq, OT.view, OT.views, OT.items, fzOf, iLst, iTuP, iRange1, iRange2, iZip2, iEnumL, dIx, atI, ixN, dAdd, dSub, dNeg, dLt, dLe, dGt, dGe, dIsN, dNotN, isNonD, dEq, dNe, eqB_int, eqB_str, eqB_bl, eq_2, eq_3, dLen, dIsi, D.isA, tyName, dMod, dMax, dMin, mAtS, mBm, D.isL, D.isS, ln, W_iff]
    rfl
  · have ne := textOf_ne e fun w hw => (h1 w hw).2
    have sp := textOf_split e fun w hw => (h1 w hw).1
    have ds : dSplit (.str (textOf ws)) [.str (W [32])] = some (WsD ws) := by
      show (if ((W [32]).length == 0) = false ∧ (textOf ws).length + 2 ≤ 16777216 then some ((Txt.split (textOf ws) (W [32])).map D.str) else none) = _
      rw [if_pos ⟨rfl, by omega⟩, sp, List.map_map]
      rfl
    have v : OT.views ((WsD ws).map .fz) = WsD ws := views_fz _
    generalize textOf ws = t at *
    have q : dNe (.str t) (.str (W [])) = some (.bl true) := by simp [dNe, eqB_str, ne]
    simp [m_words_of, m_words_of_1, -List.map_map, -List.map_take, -List.map_drop, -List.map_append, -List.map_reverse, asDef, entry, slotsOf, sSeq, sSet, sRet, sIf, sDrop, sNil, sBreak, sCont, sApp, sSetAt, setEnd, sAug, sAsg, sPar, mVar, mSee, mFrz, mTake, mC, mUn, mOp, mNil, mCons, mCall, mCallL, mTup, mLst, mView, mOwn, mFz, mTest, mAnd, mOr, mNot, mIf, mAndV, mOrV, mNotV, mChain, mAt, qSee, qFz, qNew, oNone, oSome, rNil, rSlot, rFz, mCall0, mCall1, oneSlot, noSlot, treesOf, SD.tree, SD.put, SD.putFz, tgN, tgNil, tgCons, tgT, ER.bind, ER.opt, ER.stm, Fl.seq, OT.view, OT.views, OT.items, fzOf, iLst, iTuP, iRange1, iRange2, iZip2, iEnumL, dIx, atI, ixN, dAdd, dSub, dNeg, dLt, dLe, dGt, dGe, dIsN, dNotN, isNonD, dEq, dNe, eqB_int, eqB_str, eqB_bl, eq_2, eq_3, dLen, dIsi, D.isA, tyName, dMod, dMax, dMin, mAtS, mBm, D.isL, D.isS, ln, ls, q, -dNe, mBmL, ds, v]
/-- what is a program's tree -/
structure PrOk (l : List Nd) : Prop where
  ok : noks l
  dp : ndps l ≤ 12
  len : (wds l).length ≤ 1000
theorem PrOk.tree {l : List Nd} (h : PrOk l) : noks l := h.ok
theorem make_ok (cs : Nat → Addr) {l : List Nd} (h : PrOk l) : m_Program___init__ cs [.oi (cs 0) [] [], .fz (.str (textOf (wds l)))] = .ok (.fz .non) ⟨[], [PO cs l, .fz (.str (textOf (wds l)))]⟩ := by
  have w1 := words_of_ok cs h.len (wds_free l h.ok) (wds_wlen l h.ok)
  have w2 := first_wrong_ok cs h.ok h.dp h.len
  have w3 := nodes_in_ok cs h.ok h.dp h.len
  have w4 := length_ok cs 16 l h.ok (by have := h.dp; omega) h.len
  have w5 := depth_ok' cs 16 l h.ok (by have := h.dp; omega) h.len
  unfold PO
  generalize textOf (wds l) = t at *
  generalize WsD (wds l) = ws at *
  generalize encs l = es at *
  simp [m_Program___init__, m_Program___init___2, m_Program___init___3, m_Program___init___4, m_Program___init___6, m_Program___init___7, m_Program___init___8, m_Program___init___9, m_Program___init___10, m_Program___init___11, -List.map_map, -List.map_take, -List.map_drop, -List.map_append, -List.map_reverse, asDef, entry, slotsOf, sSeq, sSet, sRet, sIf, sDrop, sNil, sBreak, sCont, sApp, sSetAt, setEnd, sAug, sAsg, sPar, mVar, mSee, mFrz, mTake, mC, mUn, mOp, mNil, mCons, mCall, mCallL, mTup, mLst, mView, mOwn, mFz, mTest, mAnd, mOr, mNot, mIf, mAndV, mOrV, mNotV, mChain, mAt, qSee, qFz, qNew, oNone, oSome, rNil, rSlot, rFz, mCall0, mCall1, oneSlot, noSlot, treesOf, SD.tree, SD.put, SD.putFz, tgN, tgNil, tgCons, tgT, ER.bind, ER.opt, ER.stm, Fl.seq, OT.view, OT.views, OT.items, fzOf, iLst, iTuP, iRange1, iRange2, iZip2, iEnumL, dIx, atI, ixN, dAdd, dSub, dNeg, dLt, dLe, dGt, dGe, dIsN, dNotN, isNonD, dEq, dNe, eqB_int, eqB_str, eqB_bl, eq_2, eq_3, dLen, dIsi, D.isA, tyName, dMod, dMax, dMin, mAtS, mBm, D.isL, D.isS, mFld, fldD, mMake, mOwn2, mOwn1, mCallIns, mProp, mMeth, mB2, callFz, callFzQ, sFldSet, putO, idxN, cSame, cInt, D.isIns, D.isInt, dIsO, D.tyv, okC, sPar3, mCutX, mCat, dAll, boolsOf, sFor, goFor, rangeD, List.range, List.range.loop, sNever, mFldO, mCallT, dTupOf, n_text_words, n_text_nodes, n_text_length, n_text_depth, n_words_text, n_words_nodes, n_words_length, n_words_depth, n_nodes_text, n_nodes_words, n_nodes_length, n_nodes_depth, n_length_text, n_length_words, n_length_nodes, n_length_depth, n_depth_text, n_depth_words, n_depth_nodes, n_depth_length, w1, w2, w3, w4, w5]
theorem prog_make (cs : Nat → Addr) {l : List Nd} (h : PrOk l) {a : SD → ER (List D)} {sd sd1 : SD} (ha : a sd = .ok [.str (textOf (wds l))] sd1) : mMake (cs 0) (m_Program___init__ cs) a sd = .ok (PO cs l) sd1 := by
  have e := make_ok cs h
  unfold mMake
  rw [ha]
  simp only [ER.bind, List.map_cons, List.map_nil, e, List.getElem?_cons_zero]
theorem len_S {l : List Nat} (h : l.length ≤ 16777216) : dLen [.str (W l)] = some (.int l.length) := by
  show (if (W l).length ≤ 16777216 then some (D.int (W l).length) else none) = _
  rw [W_len, if_pos h]
theorem op_t {f : D → D → Option D} {a b : SD → ER D} {sd sd1 sd2 : SD} {x y : D} {v : Bool} (ha : a sd = .ok x sd1) (hb : b sd1 = .ok y sd2) (h : f x y = some (.bl v)) : mTest (mOp f a b) sd = .ok v sd2 := by
  unfold mTest mOp
  rw [ha]
  simp only [ER.bind]
  rw [hb]
  simp only [ER.bind, h, ER.opt]
theorem or_l {a b : SD → ER Bool} {sd sd1 : SD} (h : a sd = .ok true sd1) : mOr a b sd = .ok true sd1 := by
  unfold mOr; rw [h]; rfl
theorem or_r {a b : SD → ER Bool} {sd sd1 sd2 : SD} {v : Bool} (h : a sd = .ok false sd1) (h2 : b sd1 = .ok v sd2) : mOr a b sd = .ok v sd2 := by
  unfold mOr; rw [h]; exact h2
theorem or_b {a b : SD → ER Bool} {sd : SD} {u v : Bool} (h : a sd = .ok u sd) (h2 : b sd = .ok v sd) : mOr a b sd = .ok (u || v) sd := by
  cases u with
  | true => exact or_l h
  | false => exact or_r h h2
theorem and_b {a b : SD → ER Bool} {sd : SD} {u v : Bool} (h : a sd = .ok u sd) (h2 : b sd = .ok v sd) : mAnd a b sd = .ok (u && v) sd := by
  unfold mAnd
  rw [h]
  cases u with
  | true => exact h2
  | false => rfl
theorem not_b {a : SD → ER Bool} {sd sd1 : SD} {u : Bool} (h : a sd = .ok u sd1) : mNot a sd = .ok (!u) sd1 := by
  unfold mNot; rw [h]; rfl
theorem if_b {c : SD → ER Bool} {a b : SD → Fl} {sd sd1 : SD} {u : Bool} (h : c sd = .ok u sd1) : sIf c a b sd = if u = true then a sd1 else b sd1 := by
  unfold sIf; rw [h]; rfl
theorem op_v {f : D → D → Option D} {a b : SD → ER D} {sd sd1 sd2 : SD} {x y z : D} (ha : a sd = .ok x sd1) (hb : b sd1 = .ok y sd2) (h : f x y = some z) : mOp f a b sd = .ok z sd2 := by
  unfold mOp
  rw [ha]
  simp only [ER.bind]
  rw [hb]
  simp only [ER.bind, h, ER.opt]
theorem andv_t {a b : SD → ER D} {sd sd1 : SD} (h : a sd = .ok (.bl true) sd1) : mAndV a b sd = b sd1 := by
  unfold mAndV; rw [h]; rfl
theorem andv_f {a b : SD → ER D} {sd sd1 : SD} (h : a sd = .ok (.bl false) sd1) : mAndV a b sd = .ok (.bl false) sd1 := by
  unfold mAndV; rw [h]; rfl
theorem call1_v {f : List OT → ER OT} {a : SD → ER D} {sd sd1 s2 : SD} {x y : D} (ha : a sd = .ok x sd1) (hf : f [.fz x] = .ok (.fz y) s2) : mView (mCall0 f (mCons a mNil)) sd = .ok y sd1 := by
  unfold mView mCall0 mCons mNil
  rw [ha]
  simp only [ER.bind, List.map, hf, OT.view]
theorem ret_d {m : SD → ER D} {sd sd1 : SD} {d : D} (h : m sd = .ok d sd1) : sRet (mOwn m) sd = .rt (.fz d) sd1 := by
  unfold sRet mOwn; rw [h]; rfl
theorem set_d {k : Nat} {m : SD → ER D} {sd : SD} {d : D} {l : List S} {pa : List OT} (h : m sd = .ok d ⟨l, pa⟩) (hk : k < l.length) : sSet k (mOwn m) sd = .nx ⟨l.set k (.ow (.fz d)), pa⟩ := by
  unfold sSet mOwn
  rw [h]
  show (if k < l.length then _ else _) = _
  rw [if_pos hk]
theorem len_v {a : SD → ER D} {sd sd1 : SD} {w : List Nat} (hw : w.length ≤ 16777216) (h : a sd = .ok (.str (W w)) sd1) : mCall dLen (mCons a mNil) sd = .ok (.int w.length) sd1 := by
  unfold mCall mCons mNil
  rw [h]
  simp only [ER.bind, len_S hw, ER.opt]
theorem int2_bl (b : Bool) : dInt2 [.bl b] = some (.int (if b = true then 1 else 0)) := by cases b <;> rfl
theorem calld_v {f : List D → Option D} {a b : SD → ER D} {sd : SD} {x z y : D} (ha : a sd = .ok x sd) (hb : b sd = .ok z sd) (hf : f [x, z] = some y) : mCall f (mCons a (mCons b mNil)) sd = .ok y sd := by
  unfold mCall mCons mNil
  rw [ha]
  simp only [ER.bind]
  rw [hb]
  simp only [ER.bind, hf, ER.opt]
theorem wds_one (a : Nd) : wds [a] = wd a := by rw [wds, wds, List.append_nil]
theorem ndps_one (a : Nd) : ndps [a] = ndp a := by rw [ndps, ndps]; omega
theorem noks_one (a : Nd) : noks [a] ↔ nok a := by rw [noks, noks]; simp
theorem prog_isIns (cs : Nat → Addr) (l : List Nd) : (PD cs l).isIns (cs 0) = true := by simp [PD, D.isIns]
theorem prog_tyv (cs : Nat → Addr) (l : List Nd) : ∃ t, (PD cs l).tyv (okC cs) = some t := by simp [PD, D.tyv, okC]
noncomputable def IsI (cs : Nat → Addr) (d : D) (b : Bool) : Prop := m_is_int cs [.fz d] = .ok (.fz (.bl b)) ⟨[], [.fz d]⟩
theorem isI_of (cs : Nat → Addr) {d : D} {u v : Bool} (h1 : dIsiI (okC cs) "int" [d, .ty "int"] = some (.bl u)) (h2 : u = true → dIsi [d, .ty "bool"] = some (.bl v)) : IsI cs d (u && !v) := by
  unfold IsI m_is_int asDef
  have ent : entry 1 [.fz d] = ⟨[.ow (.fz d)], [.fz d]⟩ := rfl
  rw [ent]
  have c1 : mCall (dIsiI (okC cs) "int") (mCons (mVar 0) (mCons (mC (.ty "int")) mNil)) ⟨[.ow (.fz d)], [.fz d]⟩ = .ok (.bl u) ⟨[.ow (.fz d)], [.fz d]⟩ := calld_v (x := d) (z := .ty "int") rfl rfl h1
  have s1 : m_is_int_1 cs ⟨[.ow (.fz d)], [.fz d]⟩ = .rt (.fz (.bl (u && !v))) ⟨[.ow (.fz d)], [.fz d]⟩ := by
    refine ret_d ?_
    cases u with
    | false => exact andv_f c1
    | true =>
      rw [andv_t c1]
      have c2 : mCall dIsi (mCons (mVar 0) (mCons (mC (.ty "bool")) mNil)) ⟨[.ow (.fz d)], [.fz d]⟩ = .ok (.bl v) ⟨[.ow (.fz d)], [.fz d]⟩ := calld_v (x := d) (z := .ty "bool") rfl rfl (h2 rfl)
      unfold mNotV
      rw [c2]
      rfl
  rw [s1]
theorem isI_int (cs : Nat → Addr) (z : Int) : IsI cs (.int z) true := isI_of cs (u := true) (v := false) rfl fun _ => rfl
theorem isI_bl (cs : Nat → Addr) (b : Bool) : IsI cs (.bl b) false := isI_of cs (u := true) (v := true) rfl fun _ => rfl
theorem isI_no (cs : Nat → Addr) {d : D} (h : dIsiI (okC cs) "int" [d, .ty "int"] = some (.bl false)) : IsI cs d false := isI_of cs (u := false) (v := false) h fun z => by cases z
theorem call3_v {f : List OT → ER OT} {a b c : SD → ER D} {sd s2 : SD} {x z u y : D} (ha : a sd = .ok x sd) (hb : b sd = .ok z sd) (hc : c sd = .ok u sd) (hf : f [.fz x, .fz z, .fz u] = .ok (.fz y) s2) : mView (mCall0 f (mCons a (mCons b (mCons c mNil)))) sd = .ok y sd := by
  unfold mView mCall0 mCons mNil
  rw [ha]
  simp only [ER.bind]
  rw [hb]
  simp only [ER.bind]
  rw [hc]
  simp only [ER.bind, List.map, hf, OT.view]
theorem in_range_no (cs : Nat → Addr) {d : D} (h : IsI cs d false) (lo hi : Int) : m_in_range cs [.fz d, .fz (.int lo), .fz (.int hi)] = .ok (.fz (.bl false)) ⟨[], [.fz d, .fz (.int lo), .fz (.int hi)]⟩ := by
  have ent : entry 3 [.fz d, .fz (.int lo), .fz (.int hi)] = ⟨[.ow (.fz d), .ow (.fz (.int lo)), .ow (.fz (.int hi))], [.fz d, .fz (.int lo), .fz (.int hi)]⟩ := rfl
  unfold m_in_range asDef
  rw [ent, show m_in_range_1 cs _ = _ from ret_d (andv_f (call1_v (a := mVar 0) (x := d) rfl h))]
theorem in_range_ok (cs : Nat → Addr) (z lo hi : Int) : m_in_range cs [.fz (.int z), .fz (.int lo), .fz (.int hi)] = .ok (.fz (.bl (decide (lo ≤ z) && decide (z ≤ hi)))) ⟨[], [.fz (.int z), .fz (.int lo), .fz (.int hi)]⟩ := by
  have ent : entry 3 [.fz (.int z), .fz (.int lo), .fz (.int hi)] = ⟨[.ow (.fz (.int z)), .ow (.fz (.int lo)), .ow (.fz (.int hi))], [.fz (.int z), .fz (.int lo), .fz (.int hi)]⟩ := rfl
  unfold m_in_range asDef
  rw [ent, show m_in_range_1 cs _ = _ from ret_d ((andv_t (call1_v (a := mVar 0) (x := .int z) rfl (isI_int cs z))).trans (chain_le (i := lo) (j := z) (k := hi) rfl rfl rfl))]
theorem fld_text (cs : Nat → Addr) {l : List Nd} {a : SD → ER D} {sd sd1 : SD} (h : a sd = .ok (PD cs l) sd1) : mFld (fun C => C == (cs 0)) "own_text" a sd = .ok (.str (textOf (wds l))) sd1 := by
  unfold mFld
  rw [h]
  simp [PD, ER.bind, fldD, ER.opt]
theorem fld_words (cs : Nat → Addr) {l : List Nd} {a : SD → ER D} {sd sd1 : SD} (h : a sd = .ok (PD cs l) sd1) : mFld (fun C => C == (cs 0)) "own_words" a sd = .ok (.tup (WsD (wds l))) sd1 := by
  unfold mFld
  rw [h]
  simp [PD, ER.bind, fldD, ER.opt, n_text_words]
theorem fld_depth (cs : Nat → Addr) {l : List Nd} {a : SD → ER D} {sd sd1 : SD} (h : a sd = .ok (PD cs l) sd1) : mFld (fun C => C == (cs 0)) "own_depth" a sd = .ok (.int (ndps l)) sd1 := by
  unfold mFld
  rw [h]
  simp [PD, ER.bind, fldD, ER.opt, n_text_depth, n_words_depth, n_nodes_depth, n_length_depth]
theorem joinL_app : ∀ a b : List (List Nat), a ≠ [] → b ≠ [] → TL.joinL [32] (a ++ b) = TL.joinL [32] a ++ (32 :: TL.joinL [32] b)
  | [], _, h, _ => absurd rfl h
  | [p], [], _, h => absurd rfl h
  | [p], q :: r, _, _ => rfl
  | p :: q :: r, b, _, hb => by
    have ih := joinL_app (q :: r) b (by simp) hb
    show p ++ ([32] ++ TL.joinL [32] (q :: r ++ b)) = p ++ ([32] ++ TL.joinL [32] (q :: r)) ++ (32 :: TL.joinL [32] b)
    rw [ih]
    simp [List.append_assoc]
theorem tl_cat (a b : Str) : TL.tl (a ++ b) = TL.tl a ++ TL.tl b := TL.tl_append ..
theorem textOf_app {a b : List (List Nat)} (ha : a ≠ []) (hb : b ≠ []) : textOf a ++ W [32] ++ textOf b = textOf (a ++ b) := TL.ext_tl (by
  rw [tl_cat, tl_cat, textOf_tl, textOf_tl, textOf_tl, joinL_app a b ha hb, W_tl, List.append_assoc]
  rfl)
theorem textOf_rp {ws : List (List Nat)} (h : ws ≠ []) (k : List Nat) : W [40, 32] ++ textOf ws ++ W [32, 41] ++ W k = textOf ([40] :: (ws ++ [41 :: k])) := TL.ext_tl (by
  have e : [40] :: (ws ++ [41 :: k]) = [[40]] ++ (ws ++ [41 :: k]) := rfl
  rw [tl_cat, tl_cat, tl_cat, textOf_tl, textOf_tl, e, joinL_app _ _ (by simp) (by simp), joinL_app _ _ h (by simp), W_tl, W_tl, W_tl]
  simp [TL.joinL])
theorem wds_nil_iff : ∀ l : List Nd, wds l = [] ↔ l = []
  | [] => by rw [wds]; simp
  | a :: r => by
    have := wd_pos a
    rw [wds]
    constructor
    · intro h
      have := congrArg List.length h
      rw [List.length_append, List.length_nil] at this
      omega
    · intro h; cases h
theorem lit_o2 : Str.ofString "( " = W [40, 32] := lit_ _ _ rfl
theorem lit_c3 : Str.ofString " )" = W [32, 41] := lit_ _ _ rfl
theorem dAdd_S {a b : Str} (h : a.length + b.length ≤ 16777216) : dAdd (.str a) (.str b) = some (.str (a ++ b)) := by
  show (if a.length + b.length ≤ 16777216 then some (D.str (a ++ b)) else none) = _
  rw [if_pos h]
theorem len_cat (a b : Str) : (a ++ b).length = a.length + b.length := by
  rw [TL.len_tl, tl_cat, List.length_append, ← TL.len_tl, ← TL.len_tl]
noncomputable def timesT (l : List Nd) (n : Nat) : List Nd := if l = [] then [] else [.rp l n]
noncomputable def opSD (d e : D) : SD := ⟨[.ow (.fz d), .ow (.fz e)], [.fz d, .fz e]⟩
theorem timesT_ok {l : List Nd} {n : Nat} (h : PrOk l) (h1 : 2 ≤ n) (h2 : n ≤ 1000000000000000000000000000000) (hw : (wds l).length + 2 ≤ 1000) (hd : ndps l + 1 ≤ 12) : PrOk (timesT l n) := by
  unfold timesT
  by_cases e : l = []
  · rw [if_pos e]; subst e; exact h
  · rw [if_neg e]
    refine ⟨(noks_one _).mpr (by rw [nok]; exact ⟨e, h1, h2, h.ok⟩), by rw [ndps_one, ndp]; omega, ?_⟩
    rw [wds_one, wd, List.length_cons, List.length_append, List.length_singleton]; omega
theorem prog_mul (cs : Nat → Addr) {l : List Nd} {n : Nat} (h : PrOk l) (h1 : 2 ≤ n) (h2 : n ≤ 1000000000000000000000000000000) (hw : (wds l).length + 2 ≤ 1000) (hd : ndps l + 1 ≤ 12) : ∃ sd, m_Program___mul__ cs [.fz (PD cs l), .fz (.int n)] = .ok (PO cs (timesT l n)) sd := by
  have hp := timesT_ok h h1 h2 hw hd
  have ir := in_range_ok cs n 0 1000000000000000000000000000000
  have z1 : (0 : Int) ≤ n := by omega
  have z2 : (n : Int) ≤ 1000000000000000000000000000000 := by omega
  simp only [z1, z2, decide_true, Bool.and_self] at ir
  have v0 : mVar 0 (opSD (PD cs l) (.int n)) = .ok (PD cs l) (opSD (PD cs l) (.int n)) := rfl
  have v1 : mVar 1 (opSD (PD cs l) (.int n)) = .ok (.int n) (opSD (PD cs l) (.int n)) := rfl
  have ft := fld_text cs v0
  have fw := fld_words cs v0
  have fd := fld_depth cs v0
  have s2 : m_Program___mul___2 cs (opSD (PD cs l) (.int n)) = .nx (opSD (PD cs l) (.int n)) := by
    unfold opSD
    generalize PD cs l = P at *
    simp [m_Program___mul___2, -List.map_map, -List.map_take, -List.map_drop, -List.map_append, -List.map_reverse, asDef, entry, slotsOf, sSeq, sSet, sRet, sIf, sDrop, sNil, sBreak, sCont, sApp, sSetAt, setEnd, sAug, sAsg, sPar, mVar, mSee, mFrz, mTake, mC, mUn, mOp, mNil, mCons, mCall, mCallL, mTup, mLst, mView, mOwn, mFz, mTest, mAnd, mOr, mNot, mIf, mAndV, mOrV, mNotV, mChain, mAt, qSee, qFz, qNew, oNone, oSome, rNil, rSlot, rFz, mCall0, mCall1, oneSlot, noSlot, treesOf, SD.tree, SD.put, SD.putFz, tgN, tgNil, tgCons, tgT, ER.bind, ER.opt, ER.stm, Fl.seq, OT.view, OT.views, OT.items, fzOf, iLst, iTuP, iRange1, iRange2, iZip2, iEnumL, dIx, atI, ixN, dAdd, dSub, dNeg, dLt, dLe, dGt, dGe, dIsN, dNotN, isNonD, dEq, dNe, eqB_int, eqB_str, eqB_bl, eq_2, eq_3, dLen, dIsi, D.isA, tyName, dMod, dMax, dMin, mAtS, mBm, D.isL, D.isS, mFld, fldD, mMake, mOwn2, mOwn1, mCallIns, mProp, mMeth, mB2, callFz, callFzQ, sFldSet, putO, idxN, cSame, cInt, D.isIns, D.isInt, dIsO, D.tyv, okC, sPar3, mCutX, mCat, dAll, boolsOf, sFor, goFor, rangeD, List.range, List.range.loop, sNever, ir]
  have n0 : ¬ (n : Int) = 0 := by omega
  have n1 : ¬ (n : Int) = 1 := by omega
  have m0 : ¬ n = 0 := by omega
  have s4 : m_Program___mul___4 cs (opSD (PD cs l) (.int n)) = .nx (opSD (PD cs l) (.int n)) := by
    unfold opSD
    generalize PD cs l = P at *
    simp [m_Program___mul___4, -List.map_map, -List.map_take, -List.map_drop, -List.map_append, -List.map_reverse, asDef, entry, slotsOf, sSeq, sSet, sRet, sIf, sDrop, sNil, sBreak, sCont, sApp, sSetAt, setEnd, sAug, sAsg, sPar, mVar, mSee, mFrz, mTake, mC, mUn, mOp, mNil, mCons, mCall, mCallL, mTup, mLst, mView, mOwn, mFz, mTest, mAnd, mOr, mNot, mIf, mAndV, mOrV, mNotV, mChain, mAt, qSee, qFz, qNew, oNone, oSome, rNil, rSlot, rFz, mCall0, mCall1, oneSlot, noSlot, treesOf, SD.tree, SD.put, SD.putFz, tgN, tgNil, tgCons, tgT, ER.bind, ER.opt, ER.stm, Fl.seq, OT.view, OT.views, OT.items, fzOf, iLst, iTuP, iRange1, iRange2, iZip2, iEnumL, dIx, atI, ixN, dAdd, dSub, dNeg, dLt, dLe, dGt, dGe, dIsN, dNotN, isNonD, dEq, dNe, eqB_int, eqB_str, eqB_bl, eq_2, eq_3, dLen, dIsi, D.isA, tyName, dMod, dMax, dMin, mAtS, mBm, D.isL, D.isS, mFld, fldD, mMake, mOwn2, mOwn1, mCallIns, mProp, mMeth, mB2, callFz, callFzQ, sFldSet, putO, idxN, cSame, cInt, D.isIns, D.isInt, dIsO, D.tyv, okC, sPar3, mCutX, mCat, dAll, boolsOf, sFor, goFor, rangeD, List.range, List.range.loop, sNever, m0]
  have hx : entry 2 [.fz (PD cs l), .fz (.int n)] = opSD (PD cs l) (.int n) := rfl
  by_cases e : l = []
  · have t0 : textOf (wds l) = W [] := by rw [e, wds, textOf_nil]
    have tt : timesT l n = l := by unfold timesT; rw [if_pos e, e]
    have pm := prog_make cs h (a := mCons (mFld (fun C => C == (cs 0)) "own_text" (mVar 0)) mNil) (sd := opSD (PD cs l) (.int n)) (sd1 := opSD (PD cs l) (.int n)) (by unfold mCons mNil; rw [ft]; rfl)
    have s6 : m_Program___mul___6 cs (opSD (PD cs l) (.int n)) = .rt (PO cs l) (opSD (PD cs l) (.int n)) := by
      have d : ∀ A, A = mMake (cs 0) (m_Program___init__ cs) (mCons (mFld (fun C => C == (cs 0)) "own_text" (mVar 0)) mNil) → m_Program___mul___6 cs = sIf (mOr (mTest (mOp dEq (mVar 1) (mC (.int 1)))) (mTest (mOp dEq (mFld (fun C => C == (cs 0)) "own_text" (mVar 0)) (mC (.str ""))))) (sRet A) sNil := fun A hA => by rw [hA]; rfl
      generalize hA : mMake (cs 0) (m_Program___init__ cs) (mCons (mFld (fun C => C == (cs 0)) "own_text" (mVar 0)) mNil) = A at *
      rw [d A rfl]
      rw [t0] at ft
      unfold sIf mOr mTest mOp sRet
      simp only [v1, ft, mC, ER.bind, dEq, eqB_int, eqB_str, lit_nil, n1, decide_false, decide_true, Option.map_some, ER.opt, Bool.false_eq_true, if_false, if_true, ER.stm, pm]
    refine ⟨⟨[], [.fz (PD cs l), .fz (.int n)]⟩, ?_⟩
    rw [tt]
    simp only [m_Program___mul__, asDef, hx, sSeq, s2, s4, s6, Fl.seq]
    rfl
  · have tn : ¬ textOf (wds l) = W [] := textOf_ne (fun z => e ((wds_nil_iff l).mp z)) fun w hw => (wds_free l h.ok w hw).2
    have tt : timesT l n = [.rp l n] := if_neg e
    have s6 : m_Program___mul___6 cs (opSD (PD cs l) (.int n)) = .nx (opSD (PD cs l) (.int n)) := by
      unfold m_Program___mul___6 sIf mOr mTest mOp
      simp only [v1, ft, mC, ER.bind, dEq, eqB_int, eqB_str, lit_nil, n1, tn, decide_false, Option.map_some, ER.opt, Bool.false_eq_true, if_false, ER.stm, sNil]
    have lw : dLen [.tup (WsD (wds l))] = some (.int (wds l).length) := by
      show some (D.int (WsD (wds l)).length) = _
      rw [WsD_len]
    have w2 : ¬ (1000 : Int) < ((wds l).length : Int) + 2 := by omega
    have s8 : m_Program___mul___8 cs (opSD (PD cs l) (.int n)) = .nx (opSD (PD cs l) (.int n)) := by
      unfold m_Program___mul___8 sIf mTest mOp mCall mCons mNil
      simp only [fw, mC, ER.bind, lw, ER.opt, dAdd, dGt, w2, decide_false, Bool.false_eq_true, if_false, ER.stm, sNil]
    have d2 : ¬ (12 : Int) < (ndps l : Int) + 1 := by omega
    have s10 : m_Program___mul___10 cs (opSD (PD cs l) (.int n)) = .nx (opSD (PD cs l) (.int n)) := by
      unfold m_Program___mul___10 sIf mTest mOp
      simp only [fd, mC, ER.bind, ER.opt, dAdd, dGt, d2, decide_false, Bool.false_eq_true, if_false, ER.stm, sNil]
    have tl := textOf_len (wds_wlen l h.ok)
    have hlen := h.len
    have st := str_num (n := n) (Nat.lt_of_le_of_lt h2 (Nat.lt_of_lt_of_le (m := 2 ^ 100) (by decide) (Nat.pow_le_pow_right (by decide) (by decide))))
    have nl := TL.numL_len (n := n) (k := 31) (by decide) (by omega)
    have tx : W [40, 32] ++ textOf (wds l) ++ W [32, 41] ++ W (TL.numL n) = textOf (wds [.rp l n]) := by
      rw [textOf_rp (fun z => e ((wds_nil_iff l).mp z)), wds_one, wd]
    have a1 : dAdd (.str (W [40, 32])) (.str (textOf (wds l))) = some (.str (W [40, 32] ++ textOf (wds l))) := dAdd_S (by rw [W_len]; simp; omega)
    have a2 : dAdd (.str (W [40, 32] ++ textOf (wds l))) (.str (W [32, 41])) = some (.str (W [40, 32] ++ textOf (wds l) ++ W [32, 41])) := dAdd_S (by rw [len_cat, W_len, W_len]; simp; omega)
    have a3 : dAdd (.str (W [40, 32] ++ textOf (wds l) ++ W [32, 41])) (.str (W (TL.numL n))) = some (.str (textOf (wds [.rp l n]))) := by
      rw [dAdd_S (by rw [len_cat, len_cat, W_len, W_len, W_len]; simp; omega), tx]
    rw [tt] at hp
    have pm := prog_make cs hp (a := mCons (mOp dAdd (mOp dAdd (mOp dAdd (mC (.str "( ")) (mFld (fun C => C == (cs 0)) "own_text" (mVar 0))) (mC (.str " )"))) (mCall dStr1 (mCons (mVar 1) mNil))) mNil) (sd := opSD (PD cs l) (.int n)) (sd1 := opSD (PD cs l) (.int n)) (by
      unfold mOp mCall mCons mNil mC
      simp only [ft, v1, ER.bind, lit_o2, lit_c3, a1, a2, ER.opt, st, a3])
    refine ⟨⟨[], [.fz (PD cs l), .fz (.int n)]⟩, ?_⟩
    rw [tt]
    have s11 : m_Program___mul___11 cs (opSD (PD cs l) (.int n)) = .rt (PO cs [.rp l n]) (opSD (PD cs l) (.int n)) := by
      have d : m_Program___mul___11 cs = sRet (mMake (cs 0) (m_Program___init__ cs) (mCons (mOp dAdd (mOp dAdd (mOp dAdd (mC (.str "( ")) (mFld (fun C => C == (cs 0)) "own_text" (mVar 0))) (mC (.str " )"))) (mCall dStr1 (mCons (mVar 1) mNil))) mNil)) := rfl
      rw [d]
      unfold sRet
      rw [pm]; rfl
    simp only [m_Program___mul__, asDef, hx, sSeq, s2, s4, s6, s8, s10, s11, Fl.seq]
    rfl
theorem len_W_text {l : List Nd} (h : PrOk l) : (textOf (wds l)).length ≤ 41000 := by
  have := textOf_len (wds_wlen l h.ok)
  have := h.len
  omega
theorem joined_ok (cs : Nat → Addr) {a b : List Nd} (ha : PrOk a) (hb : PrOk b) : ∃ sd, m_joined_text cs [.fz (.str (textOf (wds a))), .fz (.str (textOf (wds b)))] = .ok (.fz (.str (textOf (wds (a ++ b))))) sd := by
  have la := len_W_text ha
  have lb := len_W_text hb
  have ln := lit_nil
  have ls := lit_sp
  by_cases e1 : a = []
  · have t0 : textOf (wds a) = W [] := by rw [e1, wds, textOf_nil]
    have tt : textOf (wds (a ++ b)) = textOf (wds b) := by rw [e1]; rfl
    rw [tt, t0]
    generalize textOf (wds b) = tb at *
    have i : dIn false (.str (W [])) (.lst [.str (W []), .str tb]) = some (.bl true) := by
      show some (D.bl (inV (.str (W [])) [.str (W []), .str tb] != false)) = _
      have : eqV (.str (W [])) (.str (W [])) = true := beq_self_eq_true (W [])
      simp [inV, this]
    have ad : dAdd (.str (W [])) (.str tb) = some (.str tb) := by
      rw [dAdd_S (by rw [W_len]; simp; omega), show W [] ++ tb = tb from TL.ext_tl (by rw [tl_cat]; rfl)]
    refine ⟨⟨[], [.fz (.str (W [])), .fz (.str tb)]⟩, ?_⟩
    simp [m_joined_text, m_joined_text_1, -List.map_map, -List.map_take, -List.map_drop, -List.map_append, -List.map_reverse, asDef, entry, slotsOf, sSeq, sSet, sRet, sIf, sDrop, sNil, sBreak, sCont, sApp, sSetAt, setEnd, sAug, sAsg, sPar, mVar, mSee, mFrz, mTake, mC, mUn, mOp, mNil, mCons, mCall, mCallL, mTup, mLst, mView, mOwn, mFz, mTest, mAnd, mOr, mNot, mIf, mAndV, mOrV, mNotV, mChain, mAt, qSee, qFz, qNew, oNone, oSome, rNil, rSlot, rFz, mCall0, mCall1, oneSlot, noSlot, treesOf, SD.tree, SD.put, SD.putFz, tgN, tgNil, tgCons, tgT, ER.bind, ER.opt, ER.stm, Fl.seq, OT.view, OT.views, OT.items, fzOf, iLst, iTuP, iRange1, iRange2, iZip2, iEnumL, dIx, atI, ixN, dAdd, dSub, dNeg, dLt, dLe, dGt, dGe, dIsN, dNotN, isNonD, dEq, dNe, eqB_int, eqB_str, eqB_bl, eq_2, eq_3, dLen, dIsi, D.isA, tyName, dMod, dMax, dMin, mAtS, mBm, D.isL, D.isS, mFld, fldD, mMake, mOwn2, mOwn1, mCallIns, mProp, mMeth, mB2, callFz, callFzQ, sFldSet, putO, idxN, cSame, cInt, D.isIns, D.isInt, dIsO, D.tyv, okC, sPar3, mCutX, mCat, dAll, boolsOf, sFor, goFor, rangeD, List.range, List.range.loop, sNever, ln, ls, i, ad, -dIn, -dAdd]
  · by_cases e2 : b = []
    · have t0 : textOf (wds b) = W [] := by rw [e2, wds, textOf_nil]
      have tt : textOf (wds (a ++ b)) = textOf (wds a) := by rw [e2, List.append_nil]
      rw [tt, t0]
      generalize textOf (wds a) = ta at *
      have i : dIn false (.str (W [])) (.lst [.str ta, .str (W [])]) = some (.bl true) := by
        show some (D.bl (inV (.str (W [])) [.str ta, .str (W [])] != false)) = _
        have : eqV (.str (W [])) (.str (W [])) = true := beq_self_eq_true (W [])
        simp [inV, this]
      have ad : dAdd (.str ta) (.str (W [])) = some (.str ta) := by
        rw [dAdd_S (by rw [W_len]; simp; omega), show ta ++ W [] = ta from TL.ext_tl (by rw [tl_cat, W_tl, List.append_nil])]
      refine ⟨⟨[], [.fz (.str ta), .fz (.str (W []))]⟩, ?_⟩
      simp [m_joined_text, m_joined_text_1, -List.map_map, -List.map_take, -List.map_drop, -List.map_append, -List.map_reverse, asDef, entry, slotsOf, sSeq, sSet, sRet, sIf, sDrop, sNil, sBreak, sCont, sApp, sSetAt, setEnd, sAug, sAsg, sPar, mVar, mSee, mFrz, mTake, mC, mUn, mOp, mNil, mCons, mCall, mCallL, mTup, mLst, mView, mOwn, mFz, mTest, mAnd, mOr, mNot, mIf, mAndV, mOrV, mNotV, mChain, mAt, qSee, qFz, qNew, oNone, oSome, rNil, rSlot, rFz, mCall0, mCall1, oneSlot, noSlot, treesOf, SD.tree, SD.put, SD.putFz, tgN, tgNil, tgCons, tgT, ER.bind, ER.opt, ER.stm, Fl.seq, OT.view, OT.views, OT.items, fzOf, iLst, iTuP, iRange1, iRange2, iZip2, iEnumL, dIx, atI, ixN, dAdd, dSub, dNeg, dLt, dLe, dGt, dGe, dIsN, dNotN, isNonD, dEq, dNe, eqB_int, eqB_str, eqB_bl, eq_2, eq_3, dLen, dIsi, D.isA, tyName, dMod, dMax, dMin, mAtS, mBm, D.isL, D.isS, mFld, fldD, mMake, mOwn2, mOwn1, mCallIns, mProp, mMeth, mB2, callFz, callFzQ, sFldSet, putO, idxN, cSame, cInt, D.isIns, D.isInt, dIsO, D.tyv, okC, sPar3, mCutX, mCat, dAll, boolsOf, sFor, goFor, rangeD, List.range, List.range.loop, sNever, ln, ls, i, ad, -dIn, -dAdd]
    · have tx : textOf (wds a) ++ W [32] ++ textOf (wds b) = textOf (wds (a ++ b)) := by
        rw [textOf_app (fun z => e1 ((wds_nil_iff a).mp z)) (fun z => e2 ((wds_nil_iff b).mp z)), wds_app]
      have na : ¬ textOf (wds a) = W [] := textOf_ne (fun z => e1 ((wds_nil_iff a).mp z)) fun w hw => (wds_free a ha.ok w hw).2
      have nb : ¬ textOf (wds b) = W [] := textOf_ne (fun z => e2 ((wds_nil_iff b).mp z)) fun w hw => (wds_free b hb.ok w hw).2
      have i : dIn false (.str (W [])) (.lst [.str (textOf (wds a)), .str (textOf (wds b))]) = some (.bl false) := by
        show some (D.bl (inV (.str (W [])) [.str (textOf (wds a)), .str (textOf (wds b))] != false)) = _
        have q1 : eqV (.str (textOf (wds a))) (.str (W [])) = false := by
          show (textOf (wds a) == W []) = false
          exact beq_eq_false_iff_ne.mpr na
        have q2 : eqV (.str (textOf (wds b))) (.str (W [])) = false := by
          show (textOf (wds b) == W []) = false
          exact beq_eq_false_iff_ne.mpr nb
        simp [inV, q1, q2]
      have a1 : dAdd (.str (textOf (wds a))) (.str (W [32])) = some (.str (textOf (wds a) ++ W [32])) := dAdd_S (by rw [W_len]; simp; omega)
      have a2 : dAdd (.str (textOf (wds a) ++ W [32])) (.str (textOf (wds b))) = some (.str (textOf (wds (a ++ b)))) := by
        rw [dAdd_S (by rw [len_cat, W_len]; simp; omega), tx]
      generalize textOf (wds (a ++ b)) = tab at *
      generalize textOf (wds a) ++ W [32] = ta1 at *
      generalize textOf (wds a) = ta at *
      generalize textOf (wds b) = tb at *
      refine ⟨⟨[], [.fz (.str ta), .fz (.str tb)]⟩, ?_⟩
      simp [m_joined_text, m_joined_text_1, -List.map_map, -List.map_take, -List.map_drop, -List.map_append, -List.map_reverse, asDef, entry, slotsOf, sSeq, sSet, sRet, sIf, sDrop, sNil, sBreak, sCont, sApp, sSetAt, setEnd, sAug, sAsg, sPar, mVar, mSee, mFrz, mTake, mC, mUn, mOp, mNil, mCons, mCall, mCallL, mTup, mLst, mView, mOwn, mFz, mTest, mAnd, mOr, mNot, mIf, mAndV, mOrV, mNotV, mChain, mAt, qSee, qFz, qNew, oNone, oSome, rNil, rSlot, rFz, mCall0, mCall1, oneSlot, noSlot, treesOf, SD.tree, SD.put, SD.putFz, tgN, tgNil, tgCons, tgT, ER.bind, ER.opt, ER.stm, Fl.seq, OT.view, OT.views, OT.items, fzOf, iLst, iTuP, iRange1, iRange2, iZip2, iEnumL, dIx, atI, ixN, dAdd, dSub, dNeg, dLt, dLe, dGt, dGe, dIsN, dNotN, isNonD, dEq, dNe, eqB_int, eqB_str, eqB_bl, eq_2, eq_3, dLen, dIsi, D.isA, tyName, dMod, dMax, dMin, mAtS, mBm, D.isL, D.isS, mFld, fldD, mMake, mOwn2, mOwn1, mCallIns, mProp, mMeth, mB2, callFz, callFzQ, sFldSet, putO, idxN, cSame, cInt, D.isIns, D.isInt, dIsO, D.tyv, okC, sPar3, mCutX, mCat, dAll, boolsOf, sFor, goFor, rangeD, List.range, List.range.loop, sNever, ln, ls, i, a1, a2, -dIn, -dAdd]
theorem PrOk.app {a b : List Nd} (ha : PrOk a) (hb : PrOk b) (hw : (wds a).length + (wds b).length ≤ 1000) : PrOk (a ++ b) :=
  ⟨(noks_app _ _).mpr ⟨ha.ok, hb.ok⟩, by rw [ndps_app]; have := ha.dp; have := hb.dp; omega, by rw [wds_app, List.length_append]; exact hw⟩
theorem prog_add (cs : Nat → Addr) {a b : List Nd} (ha : PrOk a) (hb : PrOk b) (hw : (wds a).length + (wds b).length ≤ 1000) : ∃ sd, m_Program___add__ cs [.fz (PD cs a), .fz (PD cs b)] = .ok (PO cs (a ++ b)) sd := by
  have hp := ha.app hb hw
  have v0 : mVar 0 (opSD (PD cs a) (PD cs b)) = .ok (PD cs a) (opSD (PD cs a) (PD cs b)) := rfl
  have v1 : mVar 1 (opSD (PD cs a) (PD cs b)) = .ok (PD cs b) (opSD (PD cs a) (PD cs b)) := rfl
  have t0 := fld_text cs v0
  have t1 := fld_text cs v1
  have w0 := fld_words cs v0
  have w1 := fld_words cs v1
  obtain ⟨sj, ej⟩ := joined_ok cs ha hb
  have hx : entry 2 [.fz (PD cs a), .fz (PD cs b)] = opSD (PD cs a) (PD cs b) := rfl
  have s2 : m_Program___add___2 cs (opSD (PD cs a) (PD cs b)) = .nx (opSD (PD cs a) (PD cs b)) := by
    obtain ⟨t, ht⟩ := prog_tyv cs b
    have h := prog_isIns cs b
    unfold m_Program___add___2 sIf mNot mTest mCall mCons mNil mC
    simp only [v1, ER.bind, ER.opt, dIsO, ht, Option.isSome_some, if_true, h, Bool.not_true, Bool.false_eq_true, if_false, ER.stm, sNil, Option.bind_some, beq_self_eq_true, Option.map_some]
  have l0 : dLen [.tup (WsD (wds a))] = some (.int (wds a).length) := by
    show some (D.int (WsD (wds a)).length) = _
    rw [WsD_len]
  have l1 : dLen [.tup (WsD (wds b))] = some (.int (wds b).length) := by
    show some (D.int (WsD (wds b)).length) = _
    rw [WsD_len]
  have w2 : ¬ (1000 : Int) < ((wds a).length : Int) + ((wds b).length : Int) := by omega
  have s4 : m_Program___add___4 cs (opSD (PD cs a) (PD cs b)) = .nx (opSD (PD cs a) (PD cs b)) := by
    unfold m_Program___add___4 sIf mTest mOp mCall mCons mNil
    simp only [w0, w1, mC, ER.bind, l0, l1, ER.opt, dAdd, dGt, w2, decide_false, Bool.false_eq_true, if_false, ER.stm, sNil]
  have pm := prog_make cs hp (a := mCons (mView (mCall0 (m_joined_text cs) (mCons (mFld (fun C => C == (cs 0)) "own_text" (mVar 0)) (mCons (mFld (fun C => C == (cs 0)) "own_text" (mVar 1)) mNil)))) mNil) (sd := opSD (PD cs a) (PD cs b)) (sd1 := opSD (PD cs a) (PD cs b)) (by
    unfold mView mCall0 mCons mNil
    simp only [t0, t1, ER.bind, List.map_cons, List.map_nil, ej, OT.view])
  have s5 : m_Program___add___5 cs (opSD (PD cs a) (PD cs b)) = .rt (PO cs (a ++ b)) (opSD (PD cs a) (PD cs b)) := by
    have d : m_Program___add___5 cs = sRet (mMake (cs 0) (m_Program___init__ cs) (mCons (mView (mCall0 (m_joined_text cs) (mCons (mFld (fun C => C == (cs 0)) "own_text" (mVar 0)) (mCons (mFld (fun C => C == (cs 0)) "own_text" (mVar 1)) mNil)))) mNil)) := rfl
    rw [d]
    unfold sRet
    rw [pm]; rfl
  refine ⟨⟨[], [.fz (PD cs a), .fz (PD cs b)]⟩, ?_⟩
  simp only [m_Program___add__, asDef, hx, sSeq, s2, s4, s5, Fl.seq]
  rfl
noncomputable def fullX : List Nat := [11, 6, 5, 7, 4, 1]
noncomputable def nonX : List Nat := [2, 11, 1, 29, 30, 25, 15, 18, 19, 22, 12, 27, 16, 23, 14, 13, 17, 26, 21, 24, 20, 28, 3, 6, 7, 8, 9, 10, 4, 5]
noncomputable def partX : List Nat := [2, 8, 9, 10, 16, 12, 13, 14, 15, 17, 18, 19, 20, 21, 28, 22, 23, 24, 25, 26, 27, 29, 30, 3]
theorem relC_ref (cs : Nat → Addr) (hc : CsOk cs) {i j : Nat} (hi : i < 31) (hj : j < 31) : relC cs (cs i) (.ref (cs j)) = if (fullX.contains i && nonX.contains j) = true then some (i == j || j == 1) else if (partX.contains i && j == 1) = true then some true else none := by
  show (ixOf cs 31 (cs i)).bind (fun i => relT2 cs 31 1 _ _ _ i (.ref (cs j))) = _
  rw [ixOf_cs hc hi]
  show (ixOf cs 31 (cs j)).bind (fun j => if (fullX.contains i && nonX.contains j) = true then some (i == j || j == 1) else if (partX.contains i && j == 1) = true then some true else none) = _
  rw [ixOf_cs hc hj]
  rfl
theorem relC_ty (cs : Nat → Addr) (hc : CsOk cs) {i : Nat} (hi : i < 31) : relC cs (cs i) (.type "ValueError") = if (fullX.contains i || partX.contains i) = true then some true else none := by
  show (ixOf cs 31 (cs i)).bind (fun i => relT2 cs 31 1 _ _ _ i (.type "ValueError")) = _
  rw [ixOf_cs hc hi]
  show (if ((fullX.contains i || partX.contains i) && ("ValueError" : String) == "ValueError") = true then some true else none) = _
  rw [show (("ValueError" : String) == "ValueError") = true from by decide, Bool.and_true]
theorem isF_cls (cs : Nat → Addr) (hc : CsOk cs) {i j : Nat} {ns : List Str} {vs : List D} (hi : fullX.contains i = true) (hj : nonX.contains j = true) : dIsF (relC cs) [.exc (cs i) ns vs, .cls (cs j)] = some (.bl (i == j || j == 1)) := by
  have h1 : i < 31 := (show ∀ i ∈ fullX, i < 31 by decide) i (List.contains_iff_mem.mp hi)
  have h2 : j < 31 := (show ∀ j ∈ nonX, j < 31 by decide) j (List.contains_iff_mem.mp hj)
  show (relC cs (cs i) (.ref (cs j))).map D.bl = _
  rw [relC_ref cs hc h1 h2, hi, hj]
  rfl
theorem relAny_cs (cs : Nat → Addr) (hc : CsOk cs) {i : Nat} (hi : fullX.contains i = true) : ∀ js : List Nat, (∀ j ∈ js, nonX.contains j = true ∧ (i == j || j == 1) = false) → relAny (relC cs) (cs i) (js.map fun j => D.cls (cs j)) = some false
  | [], _ => rfl
  | j :: r, h => by
    obtain ⟨h1, h2⟩ := h j List.mem_cons_self
    have i1 : i < 31 := (show ∀ i ∈ fullX, i < 31 by decide) i (List.contains_iff_mem.mp hi)
    have i2 : j < 31 := (show ∀ j ∈ nonX, j < 31 by decide) j (List.contains_iff_mem.mp h1)
    rw [List.map_cons]
    show (match relC cs (cs i) (.ref (cs j)) with
      | some true => (relAny (relC cs) (cs i) (r.map fun j => D.cls (cs j))).map fun _ => true
      | some false => relAny (relC cs) (cs i) (r.map fun j => D.cls (cs j))
      | none => none) = _
    rw [relC_ref cs hc i1 i2, hi, h1, h2]
    exact relAny_cs cs hc hi r fun k hk => h k (List.mem_cons_of_mem _ hk)
theorem isF_tup (cs : Nat → Addr) (hc : CsOk cs) {i : Nat} {ns : List Str} {vs : List D} (hi : fullX.contains i = true) (j : Nat) (js : List Nat) (h : ∀ k ∈ j :: js, nonX.contains k = true ∧ (i == k || k == 1) = false) : dIsF (relC cs) [.exc (cs i) ns vs, .tup (D.cls (cs j) :: js.map fun j => D.cls (cs j))] = some (.bl false) := by
  have e := relAny_cs cs hc hi (j :: js) h
  rw [List.map_cons] at e
  show (if D.cls (cs j) :: js.map (fun j => D.cls (cs j)) = [] then none else (relAny (relC cs) (cs i) (D.cls (cs j) :: js.map fun j => D.cls (cs j))).map D.bl) = _
  rw [if_neg (by simp), e]
  rfl
theorem isF_ve (cs : Nat → Addr) (hc : CsOk cs) {i : Nat} {ns : List Str} {vs : List D} (hi : (fullX.contains i || partX.contains i) = true) : dIsF (relC cs) [.exc (cs i) ns vs, .ty "ValueError"] = some (.bl true) := by
  have h1 : i < 31 := by
    rcases Bool.or_eq_true_iff.mp hi with h | h
    · exact (show ∀ i ∈ fullX, i < 31 by decide) i (List.contains_iff_mem.mp h)
    · exact (show ∀ i ∈ partX, i < 31 by decide) i (List.contains_iff_mem.mp h)
  show (relC cs (cs i) (.type "ValueError")).map D.bl = _
  rw [relC_ty cs hc h1, hi]
  rfl
theorem isF_base (cs : Nat → Addr) (hc : CsOk cs) {i : Nat} {ns : List Str} {vs : List D} (hi : (fullX.contains i || partX.contains i) = true) : dIsF (relC cs) [.exc (cs i) ns vs, .cls (cs 1)] = some (.bl true) := by
  have h1 : i < 31 := by
    rcases Bool.or_eq_true_iff.mp hi with h | h
    · exact (show ∀ i ∈ fullX, i < 31 by decide) i (List.contains_iff_mem.mp h)
    · exact (show ∀ i ∈ partX, i < 31 by decide) i (List.contains_iff_mem.mp h)
  show (relC cs (cs i) (.ref (cs 1))).map D.bl = _
  rw [relC_ref cs hc h1 (by decide)]
  cases hf : fullX.contains i with
  | true =>
    show (if (true && true) = true then some (i == 1 || true) else _).map D.bl = _
    rw [Bool.or_true]
    rfl
  | false =>
    rw [hf, Bool.false_or] at hi
    rw [hi]
    rfl
noncomputable def b10 (i : Nat) : List D := [2, 3, 6, 7, 8, 9, 10, 11, 4, 5].map fun j => D.bl (i == j || j == 1)
noncomputable def nam6 : List D := [.str "InvalidText", .str "InvalidSource", .str "InvalidProgram", .str "InvalidTimes", .str "InvalidIndex", .str "InvalidLetter"]
noncomputable def nam10 : List D := nam6 ++ [.str "InvalidName", .str "HasPen", .str "TooDeep", .str "TooLarge"]
noncomputable def kS (x : D) (x1 x2 x3 : S) : SD := ⟨[.ow (.fz x), x1, x2, x3], [.fz x]⟩
/-- what the law says of each -/
structure Say (cs : Nat → Addr) (i : Nat) (x : Exn) (s : Str) : Prop where
  c : x.C = cs i
  ii : ([6, 7, 11, 4, 5] : List Nat).contains i = true
  ok : x.okB = true
  n : ∃ k : Nat, ∃ z : Str, dIndexD (.lst (b10 i)) [.bl true] = some (.int k) ∧ atI nam10 k = some (.str z) ∧ z ≠ "InvalidText" ∧ z ≠ "InvalidSource" ∧
    mOp dAdd (mVar 3) (mIf (mTest (mOp (dIn false) (mVar 3) (mView (mLst (mCons (mC (.str "TooDeep")) (mCons (mC (.str "TooLarge")) (mNil))))))) (mOp dAdd (mC (.str " ")) (mCall dRepr (mCons (mFldX (fun C => C == cs 4 || C == cs 5) "limit" (mVar 0)) (mNil)))) (mC (.str ""))) (kS x.toD (.ow (.fz (.lst (b10 i)))) (.ow (.fz (.lst nam10))) (.ow (.fz (.str z)))) = .ok (.str s) (kS x.toD (.ow (.fz (.lst (b10 i)))) (.ow (.fz (.lst nam10))) (.ow (.fz (.str z))))
theorem class_ok (cs : Nat → Addr) (hc : CsOk cs) {i : Nat} {x : Exn} {s : Str} (h : Say cs i x s) : m__law_class cs [.fz x.toD] = .ok (.fz (.str s)) ⟨[], [.fz x.toD]⟩ := by
  obtain ⟨h1, h2, _, k, z, c2, c3, n1, n2, h20⟩ := h
  have hX : ∃ ns vs, x.toD = .exc (cs i) ns vs := ⟨_, _, by unfold Exn.toD; rw [h1]⟩
  obtain ⟨ns, vs, hX⟩ := hX
  have hf : fullX.contains i = true := (by decide : ∀ i ∈ ([6, 7, 11, 4, 5] : List Nat), fullX.contains i = true) i (List.contains_iff_mem.mp h2)
  have e := fun j (hj : nonX.contains j = true) => isF_cls cs hc (i := i) (j := j) (ns := ns) (vs := vs) hf hj
  have no : ∀ js : List Nat, (∀ i ∈ ([6, 7, 11, 4, 5] : List Nat), ∀ k ∈ js, nonX.contains k = true ∧ (i == k || k == 1) = false) → ∀ k ∈ js, nonX.contains k = true ∧ (i == k || k == 1) = false := fun js h => h i (List.contains_iff_mem.mp h2)
  have t1 := isF_tup cs hc (ns := ns) (vs := vs) hf 29 [30, 25, 15, 18, 19] (no _ (by decide))
  have t2 := isF_tup cs hc (ns := ns) (vs := vs) hf 22 [12, 27, 16, 23] (no _ (by decide))
  have t3 := isF_tup cs hc (ns := ns) (vs := vs) hf 14 [13, 17, 26, 21, 24, 20, 28] (no _ (by decide))
  have tv := isF_ve cs hc (ns := ns) (vs := vs) (i := i) (by rw [hf]; rfl)
  have e2 := e 2 rfl
  have e3 := e 3 rfl
  have e6 := e 6 rfl
  have e7 := e 7 rfl
  have e8 := e 8 rfl
  have e9 := e 9 rfl
  have e10 := e 10 rfl
  have e11 := e 11 rfl
  have e4 := e 4 rfl
  have e5 := e 5 rfl
  simp only [List.map] at t1 t2 t3
  rw [← hX] at t1 t2 t3 tv e2 e3 e4 e5 e6 e7 e8 e9 e10 e11
  generalize x.toD = X at *
  have s1 : m__law_class_1 cs (kS X .un .un .un) = .nx (kS X (.ow (.fz (.lst ((b10 i).take 3)))) .un .un) := by
    simp [m__law_class_1, -List.map_map, -List.map_take, -List.map_drop, -List.map_append, -List.map_reverse, asDef, entry, slotsOf, sSeq, sSet, sRet, sIf, sDrop, sNil, sBreak, sCont, sApp, sSetAt, setEnd, sAug, sAsg, sPar, mVar, mSee, mFrz, mTake, mC, mUn, mOp, mNil, mCons, mCall, mCallL, mTup, mLst, mView, mOwn, mFz, mTest, mAnd, mOr, mNot, mIf, mAndV, mOrV, mNotV, mChain, mAt, qSee, qFz, qNew, oNone, oSome, rNil, rSlot, rFz, mCall0, mCall1, oneSlot, noSlot, treesOf, SD.tree, SD.put, SD.putFz, tgN, tgNil, tgCons, tgT, ER.bind, ER.opt, ER.stm, Fl.seq, OT.view, OT.views, OT.items, fzOf, iLst, iTuP, iRange1, iRange2, iZip2, iEnumL, dIx, atI, ixN, dAdd, dSub, dNeg, dLt, dLe, dGt, dGe, dIsN, dNotN, isNonD, dEq, dNe, eqB_int, eqB_str, eqB_bl, eq_2, eq_3, dLen, dIsi, D.isA, tyName, dMod, dMax, dMin, mAtS, mBm, D.isL, D.isS, -dIsF, kS, e2, e3, e6, b10]
  have s2 : m__law_class_2 cs (kS X (.ow (.fz (.lst ((b10 i).take 3)))) .un .un) = .nx (kS X (.ow (.fz (.lst ((b10 i).take 5)))) .un .un) := by
    simp [m__law_class_2, -List.map_map, -List.map_take, -List.map_drop, -List.map_append, -List.map_reverse, asDef, entry, slotsOf, sSeq, sSet, sRet, sIf, sDrop, sNil, sBreak, sCont, sApp, sSetAt, setEnd, sAug, sAsg, sPar, mVar, mSee, mFrz, mTake, mC, mUn, mOp, mNil, mCons, mCall, mCallL, mTup, mLst, mView, mOwn, mFz, mTest, mAnd, mOr, mNot, mIf, mAndV, mOrV, mNotV, mChain, mAt, qSee, qFz, qNew, oNone, oSome, rNil, rSlot, rFz, mCall0, mCall1, oneSlot, noSlot, treesOf, SD.tree, SD.put, SD.putFz, tgN, tgNil, tgCons, tgT, ER.bind, ER.opt, ER.stm, Fl.seq, OT.view, OT.views, OT.items, fzOf, iLst, iTuP, iRange1, iRange2, iZip2, iEnumL, dIx, atI, ixN, dAdd, dSub, dNeg, dLt, dLe, dGt, dGe, dIsN, dNotN, isNonD, dEq, dNe, eqB_int, eqB_str, eqB_bl, eq_2, eq_3, dLen, dIsi, D.isA, tyName, dMod, dMax, dMin, mAtS, mBm, D.isL, D.isS, mCat, -dIsF, kS, e7, e8, b10]
  have s3 : m__law_class_3 cs (kS X (.ow (.fz (.lst ((b10 i).take 5)))) .un .un) = .nx (kS X (.ow (.fz (.lst ((b10 i).take 8)))) .un .un) := by
    simp [m__law_class_3, -List.map_map, -List.map_take, -List.map_drop, -List.map_append, -List.map_reverse, asDef, entry, slotsOf, sSeq, sSet, sRet, sIf, sDrop, sNil, sBreak, sCont, sApp, sSetAt, setEnd, sAug, sAsg, sPar, mVar, mSee, mFrz, mTake, mC, mUn, mOp, mNil, mCons, mCall, mCallL, mTup, mLst, mView, mOwn, mFz, mTest, mAnd, mOr, mNot, mIf, mAndV, mOrV, mNotV, mChain, mAt, qSee, qFz, qNew, oNone, oSome, rNil, rSlot, rFz, mCall0, mCall1, oneSlot, noSlot, treesOf, SD.tree, SD.put, SD.putFz, tgN, tgNil, tgCons, tgT, ER.bind, ER.opt, ER.stm, Fl.seq, OT.view, OT.views, OT.items, fzOf, iLst, iTuP, iRange1, iRange2, iZip2, iEnumL, dIx, atI, ixN, dAdd, dSub, dNeg, dLt, dLe, dGt, dGe, dIsN, dNotN, isNonD, dEq, dNe, eqB_int, eqB_str, eqB_bl, eq_2, eq_3, dLen, dIsi, D.isA, tyName, dMod, dMax, dMin, mAtS, mBm, D.isL, D.isS, mCat, -dIsF, kS, e9, e10, e11, b10]
  have s4 : m__law_class_4 cs (kS X (.ow (.fz (.lst ((b10 i).take 8)))) .un .un) = .nx (kS X (.ow (.fz (.lst (b10 i)))) .un .un) := by
    simp [m__law_class_4, -List.map_map, -List.map_take, -List.map_drop, -List.map_append, -List.map_reverse, asDef, entry, slotsOf, sSeq, sSet, sRet, sIf, sDrop, sNil, sBreak, sCont, sApp, sSetAt, setEnd, sAug, sAsg, sPar, mVar, mSee, mFrz, mTake, mC, mUn, mOp, mNil, mCons, mCall, mCallL, mTup, mLst, mView, mOwn, mFz, mTest, mAnd, mOr, mNot, mIf, mAndV, mOrV, mNotV, mChain, mAt, qSee, qFz, qNew, oNone, oSome, rNil, rSlot, rFz, mCall0, mCall1, oneSlot, noSlot, treesOf, SD.tree, SD.put, SD.putFz, tgN, tgNil, tgCons, tgT, ER.bind, ER.opt, ER.stm, Fl.seq, OT.view, OT.views, OT.items, fzOf, iLst, iTuP, iRange1, iRange2, iZip2, iEnumL, dIx, atI, ixN, dAdd, dSub, dNeg, dLt, dLe, dGt, dGe, dIsN, dNotN, isNonD, dEq, dNe, eqB_int, eqB_str, eqB_bl, eq_2, eq_3, dLen, dIsi, D.isA, tyName, dMod, dMax, dMin, mAtS, mBm, D.isL, D.isS, mCat, -dIsF, kS, e4, e5, b10]
  have s5 : m__law_class_5 cs (kS X (.ow (.fz (.lst (b10 i)))) .un .un) = .nx (kS X (.ow (.fz (.lst (b10 i)))) (.ow (.fz (.lst nam6))) .un) := rfl
  have s6 : m__law_class_6 cs (kS X (.ow (.fz (.lst (b10 i)))) (.ow (.fz (.lst nam6))) .un) = .nx (kS X (.ow (.fz (.lst (b10 i)))) (.ow (.fz (.lst nam10))) .un) := rfl
  have s8 : m__law_class_8 cs (kS X (.ow (.fz (.lst (b10 i)))) (.ow (.fz (.lst nam10))) .un) = .nx (kS X (.ow (.fz (.lst (b10 i)))) (.ow (.fz (.lst nam10))) .un) := by
    simp [m__law_class_8, -List.map_map, -List.map_take, -List.map_drop, -List.map_append, -List.map_reverse, asDef, entry, slotsOf, sSeq, sSet, sRet, sIf, sDrop, sNil, sBreak, sCont, sApp, sSetAt, setEnd, sAug, sAsg, sPar, mVar, mSee, mFrz, mTake, mC, mUn, mOp, mNil, mCons, mCall, mCallL, mTup, mLst, mView, mOwn, mFz, mTest, mAnd, mOr, mNot, mIf, mAndV, mOrV, mNotV, mChain, mAt, qSee, qFz, qNew, oNone, oSome, rNil, rSlot, rFz, mCall0, mCall1, oneSlot, noSlot, treesOf, SD.tree, SD.put, SD.putFz, tgN, tgNil, tgCons, tgT, ER.bind, ER.opt, ER.stm, Fl.seq, OT.view, OT.views, OT.items, fzOf, iLst, iTuP, iRange1, iRange2, iZip2, iEnumL, dIx, atI, ixN, dAdd, dSub, dNeg, dLt, dLe, dGt, dGe, dIsN, dNotN, isNonD, dEq, dNe, eqB_int, eqB_str, eqB_bl, eq_2, eq_3, dLen, dIsi, D.isA, tyName, dMod, dMax, dMin, mAtS, mBm, D.isL, D.isS, -dIsF, kS, t1]
  have s10 : m__law_class_10 cs (kS X (.ow (.fz (.lst (b10 i)))) (.ow (.fz (.lst nam10))) .un) = .nx (kS X (.ow (.fz (.lst (b10 i)))) (.ow (.fz (.lst nam10))) .un) := by
    simp [m__law_class_10, -List.map_map, -List.map_take, -List.map_drop, -List.map_append, -List.map_reverse, asDef, entry, slotsOf, sSeq, sSet, sRet, sIf, sDrop, sNil, sBreak, sCont, sApp, sSetAt, setEnd, sAug, sAsg, sPar, mVar, mSee, mFrz, mTake, mC, mUn, mOp, mNil, mCons, mCall, mCallL, mTup, mLst, mView, mOwn, mFz, mTest, mAnd, mOr, mNot, mIf, mAndV, mOrV, mNotV, mChain, mAt, qSee, qFz, qNew, oNone, oSome, rNil, rSlot, rFz, mCall0, mCall1, oneSlot, noSlot, treesOf, SD.tree, SD.put, SD.putFz, tgN, tgNil, tgCons, tgT, ER.bind, ER.opt, ER.stm, Fl.seq, OT.view, OT.views, OT.items, fzOf, iLst, iTuP, iRange1, iRange2, iZip2, iEnumL, dIx, atI, ixN, dAdd, dSub, dNeg, dLt, dLe, dGt, dGe, dIsN, dNotN, isNonD, dEq, dNe, eqB_int, eqB_str, eqB_bl, eq_2, eq_3, dLen, dIsi, D.isA, tyName, dMod, dMax, dMin, mAtS, mBm, D.isL, D.isS, -dIsF, kS, t2]
  have s12 : m__law_class_12 cs (kS X (.ow (.fz (.lst (b10 i)))) (.ow (.fz (.lst nam10))) .un) = .nx (kS X (.ow (.fz (.lst (b10 i)))) (.ow (.fz (.lst nam10))) .un) := by
    simp [m__law_class_12, -List.map_map, -List.map_take, -List.map_drop, -List.map_append, -List.map_reverse, asDef, entry, slotsOf, sSeq, sSet, sRet, sIf, sDrop, sNil, sBreak, sCont, sApp, sSetAt, setEnd, sAug, sAsg, sPar, mVar, mSee, mFrz, mTake, mC, mUn, mOp, mNil, mCons, mCall, mCallL, mTup, mLst, mView, mOwn, mFz, mTest, mAnd, mOr, mNot, mIf, mAndV, mOrV, mNotV, mChain, mAt, qSee, qFz, qNew, oNone, oSome, rNil, rSlot, rFz, mCall0, mCall1, oneSlot, noSlot, treesOf, SD.tree, SD.put, SD.putFz, tgN, tgNil, tgCons, tgT, ER.bind, ER.opt, ER.stm, Fl.seq, OT.view, OT.views, OT.items, fzOf, iLst, iTuP, iRange1, iRange2, iZip2, iEnumL, dIx, atI, ixN, dAdd, dSub, dNeg, dLt, dLe, dGt, dGe, dIsN, dNotN, isNonD, dEq, dNe, eqB_int, eqB_str, eqB_bl, eq_2, eq_3, dLen, dIsi, D.isA, tyName, dMod, dMax, dMin, mAtS, mBm, D.isL, D.isS, -dIsF, kS, t3]
  have c1 : dCountD (.lst (b10 i)) [.bl true] = some (.int 1) := by
    have := List.contains_iff_mem.mp h2
    simp only [List.mem_cons, List.not_mem_nil, or_false] at this
    rcases this with h | h | h | h | h <;> rw [h] <;> rfl
  have s14 : m__law_class_14 cs (kS X (.ow (.fz (.lst (b10 i)))) (.ow (.fz (.lst nam10))) .un) = .nx (kS X (.ow (.fz (.lst (b10 i)))) (.ow (.fz (.lst nam10))) .un) := by
    simp [m__law_class_14, -List.map_map, -List.map_take, -List.map_drop, -List.map_append, -List.map_reverse, asDef, entry, slotsOf, sSeq, sSet, sRet, sIf, sDrop, sNil, sBreak, sCont, sApp, sSetAt, setEnd, sAug, sAsg, sPar, mVar, mSee, mFrz, mTake, mC, mUn, mOp, mNil, mCons, mCall, mCallL, mTup, mLst, mView, mOwn, mFz, mTest, mAnd, mOr, mNot, mIf, mAndV, mOrV, mNotV, mChain, mAt, qSee, qFz, qNew, oNone, oSome, rNil, rSlot, rFz, mCall0, mCall1, oneSlot, noSlot, treesOf, SD.tree, SD.put, SD.putFz, tgN, tgNil, tgCons, tgT, ER.bind, ER.opt, ER.stm, Fl.seq, OT.view, OT.views, OT.items, fzOf, iLst, iTuP, iRange1, iRange2, iZip2, iEnumL, dIx, atI, ixN, dAdd, dSub, dNeg, dLt, dLe, dGt, dGe, dIsN, dNotN, isNonD, dEq, dNe, eqB_int, eqB_str, eqB_bl, eq_2, eq_3, dLen, dIsi, D.isA, tyName, dMod, dMax, dMin, mAtS, mBm, D.isL, D.isS, -dIsF, kS, tv, c1, D.isL]
  have s15 : m__law_class_15 cs (kS X (.ow (.fz (.lst (b10 i)))) (.ow (.fz (.lst nam10))) .un) = .nx (kS X (.ow (.fz (.lst (b10 i)))) (.ow (.fz (.lst nam10))) (.ow (.fz (.str z)))) := by
    refine set_d (l := (kS X (.ow (.fz (.lst (b10 i)))) (.ow (.fz (.lst nam10))) .un).sl) (op_v (a := mVar 2) (x := .lst nam10) (y := .int k) rfl ?_ c3) (by show 3 < 4; decide)
    unfold mBm
    show (if D.isL (.lst (b10 i)) = true then ER.opt (dIndexD (.lst (b10 i)) [.bl true]) (kS X (.ow (.fz (.lst (b10 i)))) (.ow (.fz (.lst nam10))) .un) else ER.bad) = _
    rw [if_pos (show D.isL (.lst (b10 i)) = true from rfl), c2]
    rfl
  have q : ∀ w : String, z ≠ Str.ofString w → mTest (mOp dEq (mVar 3) (mC (.str (Str.ofString w)))) (kS X (.ow (.fz (.lst (b10 i)))) (.ow (.fz (.lst nam10))) (.ow (.fz (.str z)))) = .ok false (kS X (.ow (.fz (.lst (b10 i)))) (.ow (.fz (.lst nam10))) (.ow (.fz (.str z)))) := fun w hw => op_t (x := .str z) rfl rfl (by
    unfold dEq
    rw [eqB_str, decide_eq_false hw]
    rfl)
  have s17 : m__law_class_17 cs (kS X (.ow (.fz (.lst (b10 i)))) (.ow (.fz (.lst nam10))) (.ow (.fz (.str z)))) = .nx (kS X (.ow (.fz (.lst (b10 i)))) (.ow (.fz (.lst nam10))) (.ow (.fz (.str z)))) := by
    unfold m__law_class_17
    exact (if_b (q _ n1)).trans rfl
  have s19 : m__law_class_19 cs (kS X (.ow (.fz (.lst (b10 i)))) (.ow (.fz (.lst nam10))) (.ow (.fz (.str z)))) = .nx (kS X (.ow (.fz (.lst (b10 i)))) (.ow (.fz (.lst nam10))) (.ow (.fz (.str z)))) := by
    unfold m__law_class_19
    exact (if_b (q _ n2)).trans rfl
  have s20 : m__law_class_20 cs (kS X (.ow (.fz (.lst (b10 i)))) (.ow (.fz (.lst nam10))) (.ow (.fz (.str z)))) = .rt (.fz (.str s)) (kS X (.ow (.fz (.lst (b10 i)))) (.ow (.fz (.lst nam10))) (.ow (.fz (.str z)))) := ret_d h20
  have ent : entry 4 [.fz X] = kS X .un .un .un := rfl
  unfold m__law_class asDef
  rw [ent, seq_nx s1 (seq_nx s2 (seq_nx s3 (seq_nx s4 (seq_nx s5 (seq_nx s6 (seq_nx s8 (seq_nx s10 (seq_nx s12 (seq_nx s14 (seq_nx s15 (seq_nx s17 (seq_nx s19 s20))))))))))))]
  rfl
noncomputable def xP (cs : Nat → Addr) : Exn := ⟨cs 6, none⟩
noncomputable def xN (cs : Nat → Addr) : Exn := ⟨cs 7, none⟩
noncomputable def xH (cs : Nat → Addr) : Exn := ⟨cs 11, none⟩
noncomputable def xL (cs : Nat → Addr) : Exn := ⟨cs 5, some [((Str.ofString "limit", D.int 1000) : Str × D)]⟩
noncomputable def xD (cs : Nat → Addr) : Exn := ⟨cs 4, some [((Str.ofString "limit", D.int 12) : Str × D)]⟩
theorem say_P (cs : Nat → Addr) : Say cs 6 (xP cs) "InvalidProgram" := ⟨rfl, rfl, rfl, 2, _, rfl, rfl, by decide, by decide, rfl⟩
theorem say_N (cs : Nat → Addr) : Say cs 7 (xN cs) "InvalidTimes" := ⟨rfl, rfl, rfl, 3, _, rfl, rfl, by decide, by decide, rfl⟩
theorem say_H (cs : Nat → Addr) : Say cs 11 (xH cs) "HasPen" := ⟨rfl, rfl, rfl, 7, _, rfl, rfl, by decide, by decide, rfl⟩
theorem fld_lim (cs : Nat → Addr) {i : Nat} {k : Int} {x1 x2 x3 : S} (hi : i = 4 ∨ i = 5) : mFldX (fun C => C == cs 4 || C == cs 5) "limit" (mVar 0) (kS (.exc (cs i) ["limit"] [.int k]) x1 x2 x3) = ER.ok (D.int k) (kS (.exc (cs i) ["limit"] [.int k]) x1 x2 x3) := by
  show (if (cs i == cs 4 || cs i == cs 5) = true then ER.opt (fldD "limit" ["limit"] [D.int k]) (kS (.exc (cs i) ["limit"] [.int k]) x1 x2 x3) else .bad) = _
  rw [if_pos (by rcases hi with rfl | rfl <;> simp)]
  rfl
theorem say_lim (cs : Nat → Addr) {i k : Nat} {z s : String} {r : Str} (hi : i = 4 ∨ i = 5) (h1 : dIndexD (.lst (b10 i)) [.bl true] = some (.int k)) (h2 : atI nam10 k = some (.str (Str.ofString z))) (n1 : Str.ofString z ≠ "InvalidText") (n2 : Str.ofString z ≠ "InvalidSource") {m : Int} (hr : dRepr [.int m] = some (.str r))
    (hin : dIn false (.str (Str.ofString z)) (.lst [.str "TooDeep", .str "TooLarge"]) = some (.bl true)) (ha : dAdd (.str " ") (.str r) = some (.str (Str.ofString " " ++ r))) (hb : dAdd (.str (Str.ofString z)) (.str (Str.ofString " " ++ r)) = some (.str (Str.ofString s))) : Say cs i ⟨cs i, some [((Str.ofString "limit", D.int m) : Str × D)]⟩ (Str.ofString s) := by
  refine ⟨rfl, by rcases hi with rfl | rfl <;> rfl, rfl, k, Str.ofString z, h1, h2, n1, n2, ?_⟩
  show _ = ER.ok _ (kS (.exc (cs i) ["limit"] [.int m]) _ _ _)
  refine op_v (x := .str (Str.ofString z)) rfl ?_ hb
  have t : mTest (mOp (dIn false) (mVar 3) (mView (mLst (mCons (mC (.str "TooDeep")) (mCons (mC (.str "TooLarge")) mNil))))) (kS (.exc (cs i) ["limit"] [.int m]) (.ow (.fz (.lst (b10 i)))) (.ow (.fz (.lst nam10))) (.ow (.fz (.str (Str.ofString z))))) = .ok true (kS (.exc (cs i) ["limit"] [.int m]) (.ow (.fz (.lst (b10 i)))) (.ow (.fz (.lst nam10))) (.ow (.fz (.str (Str.ofString z))))) := op_t (x := .str (Str.ofString z)) (y := .lst [.str "TooDeep", .str "TooLarge"]) rfl rfl hin
  unfold mIf
  rw [show (⟨cs i, some [((Str.ofString "limit", D.int m) : Str × D)]⟩ : Exn).toD = .exc (cs i) ["limit"] [.int m] from rfl, t]
  simp only [ER.bind]
  rw [if_pos trivial]
  refine op_v (x := .str " ") (y := .str r) (sd1 := kS (.exc (cs i) ["limit"] [.int m]) (.ow (.fz (.lst (b10 i)))) (.ow (.fz (.lst nam10))) (.ow (.fz (.str (Str.ofString z))))) rfl ?_ ha
  unfold mCall mCons mNil
  rw [fld_lim cs hi]
  simp only [ER.bind, hr, ER.opt]
theorem repr_lit {k : Int} {s : String} (h1 : (PyData.int k).showable = true) (h3 : (PyData.int k).shown = Str.ofString s) : dRepr [.int k] = some (.str (Str.ofString s)) := by
  rw [← h3]
  exact dRepr_of (p := .int k) rfl h1 (by simp [PyData.depth]) (by rw [szP]; decide)
theorem say_L (cs : Nat → Addr) : Say cs 5 (xL cs) (Str.ofString "TooLarge 1000") := say_lim cs (r := Str.ofString "1000") (z := "TooLarge") (k := 9) (.inr rfl) rfl rfl (by decide) (by decide) (repr_lit (by decide +kernel) (by decide +kernel)) rfl rfl rfl
theorem say_D (cs : Nat → Addr) : Say cs 4 (xD cs) (Str.ofString "TooDeep 12") := say_lim cs (r := Str.ofString "12") (z := "TooDeep") (k := 8) (.inl rfl) rfl rfl (by decide) (by decide) (repr_lit (by decide +kernel) (by decide +kernel)) rfl rfl rfl
/-- no program -/
noncomputable def NoP (cs : Nat → Addr) (d : D) : Prop := dIsO (okC cs) (cs 0) [d, .cls (cs 0)] = some (.bl false)
theorem add_no (cs : Nat → Addr) (a : List Nd) {d : D} (h : NoP cs d) : m_Program___add__ cs [.fz (PD cs a), .fz d] = .rz (xP cs) ⟨[], [.fz (PD cs a), .fz d]⟩ := by
  have ent : entry 2 [.fz (PD cs a), .fz d] = opSD (PD cs a) d := rfl
  have t : mNot (mTest (mCall (dIsO (okC cs) (cs 0)) (mCons (mVar 1) (mCons (mC (.cls (cs 0))) mNil)))) (opSD (PD cs a) d) = .ok true (opSD (PD cs a) d) := by
    refine not_b (u := false) ?_
    unfold mTest
    rw [calld_v (a := mVar 1) (b := mC (.cls (cs 0))) (sd := opSD (PD cs a) d) (x := d) (z := .cls (cs 0)) rfl rfl h]
    rfl
  have s2 : m_Program___add___2 cs (opSD (PD cs a) d) = .rz (xP cs) (opSD (PD cs a) d) := by
    unfold m_Program___add___2
    exact (if_b t).trans rfl
  unfold m_Program___add__ asDef
  rw [ent]
  unfold sSeq
  rw [s2]
  rfl
theorem isP (cs : Nat → Addr) (l : List Nd) : dIsO (okC cs) (cs 0) [PD cs l, .cls (cs 0)] = some (.bl true) := by
  obtain ⟨t, ht⟩ := prog_tyv cs l
  have h := prog_isIns cs l
  show (if cs 0 = cs 0 then ((PD cs l).tyv (okC cs)).map (fun _ => D.bl ((PD cs l).isIns (cs 0))) else none) = _
  rw [if_pos rfl, ht, h]
  rfl
theorem len_T (ws : List (List Nat)) : dLen [.tup (WsD ws)] = some (.int ws.length) := by
  show some (D.int (WsD ws).length) = _
  rw [WsD_len]
theorem words_len (cs : Nat → Addr) {l : List Nd} {a : SD → ER D} {sd : SD} (h : a sd = .ok (PD cs l) sd) : mCall dLen (mCons (mFld (fun C => C == cs 0) "own_words" a) mNil) sd = .ok (.int (wds l).length) sd := by
  unfold mCall mCons mNil
  rw [fld_words cs h]
  simp only [ER.bind, len_T, ER.opt]
theorem add_big (cs : Nat → Addr) (a b : List Nd) (h : 1000 < (wds a).length + (wds b).length) : m_Program___add__ cs [.fz (PD cs a), .fz (PD cs b)] = .rz (xL cs) ⟨[], [.fz (PD cs a), .fz (PD cs b)]⟩ := by
  have ent : entry 2 [.fz (PD cs a), .fz (PD cs b)] = opSD (PD cs a) (PD cs b) := rfl
  generalize hS : opSD (PD cs a) (PD cs b) = sd at ent
  have v0 : mVar 0 sd = .ok (PD cs a) sd := by rw [← hS]; rfl
  have v1 : mVar 1 sd = .ok (PD cs b) sd := by rw [← hS]; rfl
  have t : mNot (mTest (mCall (dIsO (okC cs) (cs 0)) (mCons (mVar 1) (mCons (mC (.cls (cs 0))) mNil)))) sd = .ok false sd := by
    refine not_b (u := true) ?_
    unfold mTest
    rw [calld_v (b := mC (.cls (cs 0))) v1 (z := .cls (cs 0)) rfl (isP cs b)]
    rfl
  have s2 : m_Program___add___2 cs sd = .nx sd := by
    unfold m_Program___add___2
    exact (if_b t).trans rfl
  have o := op_v (f := dAdd) (words_len cs v0) (words_len cs v1) (z := .int (((wds a).length : Int) + (wds b).length)) rfl
  have t4 := op_t (f := dGt) (b := mC (.int 1000)) (v := decide ((1000 : Int) < ((wds a).length : Int) + (wds b).length)) o rfl rfl
  rw [decide_eq_true (by omega)] at t4
  have s4 : m_Program___add___4 cs sd = .rz (xL cs) sd := by
    unfold m_Program___add___4
    exact (if_b t4).trans rfl
  unfold m_Program___add__ asDef
  rw [ent, seq_nx s2 rfl]
  unfold sSeq
  rw [s4, ← hS]
  rfl
theorem mul_no (cs : Nat → Addr) (a : List Nd) {d : D} (h : ∃ sd, m_in_range cs [.fz d, .fz (.int 0), .fz (.int 1000000000000000000000000000000)] = .ok (.fz (.bl false)) sd) : m_Program___mul__ cs [.fz (PD cs a), .fz d] = .rz (xN cs) ⟨[], [.fz (PD cs a), .fz d]⟩ := by
  obtain ⟨s2, h⟩ := h
  have ent : entry 2 [.fz (PD cs a), .fz d] = opSD (PD cs a) d := rfl
  have t : mNot (mTest (mView (mCall0 (m_in_range cs) (mCons (mVar 1) (mCons (mC (.int 0)) (mCons (mC (.int 1000000000000000000000000000000)) mNil)))))) (opSD (PD cs a) d) = .ok true (opSD (PD cs a) d) := by
    refine not_b (u := false) ?_
    unfold mTest
    rw [call3_v (a := mVar 1) (b := mC (.int 0)) (c := mC (.int 1000000000000000000000000000000)) (sd := opSD (PD cs a) d) (x := d) rfl rfl rfl h]
    rfl
  have s2 : m_Program___mul___2 cs (opSD (PD cs a) d) = .rz (xN cs) (opSD (PD cs a) d) := by
    unfold m_Program___mul___2
    exact (if_b t).trans rfl
  unfold m_Program___mul__ asDef
  rw [ent]
  unfold sSeq
  rw [s2]
  rfl
/-- what times goes through at a number that is right -/
theorem mul_in (cs : Nat → Addr) (a : List Nd) {n : Nat} (h : n ≤ 1000000000000000000000000000000) : m_Program___mul___2 cs (opSD (PD cs a) (.int n)) = .nx (opSD (PD cs a) (.int n)) := by
  have r := in_range_ok cs n 0 1000000000000000000000000000000
  rw [decide_eq_true (show (0 : Int) ≤ n by omega), decide_eq_true (show (n : Int) ≤ 1000000000000000000000000000000 by omega)] at r
  have t : mNot (mTest (mView (mCall0 (m_in_range cs) (mCons (mVar 1) (mCons (mC (.int 0)) (mCons (mC (.int 1000000000000000000000000000000)) mNil)))))) (opSD (PD cs a) (.int n)) = .ok false (opSD (PD cs a) (.int n)) := by
    refine not_b (u := true) ?_
    unfold mTest
    rw [call3_v (a := mVar 1) (b := mC (.int 0)) (c := mC (.int 1000000000000000000000000000000)) (sd := opSD (PD cs a) (.int n)) (x := .int n) rfl rfl rfl r]
    rfl
  unfold m_Program___mul___2
  exact (if_b t).trans rfl
theorem int_t (cs : Nat → Addr) {d : D} {n : Nat} (k : Int) : mTest (mOp dEq (mVar 1) (mC (.int k))) (opSD d (.int n)) = .ok (decide ((n : Int) = k)) (opSD d (.int n)) := op_t (x := .int n) rfl rfl (by unfold dEq; rw [eqB_int]; rfl)
theorem mul_4 (cs : Nat → Addr) (a : List Nd) {n : Nat} (h : n ≠ 0) : m_Program___mul___4 cs (opSD (PD cs a) (.int n)) = .nx (opSD (PD cs a) (.int n)) := by
  have t := int_t cs (d := PD cs a) (n := n) 0
  rw [decide_eq_false (by omega)] at t
  unfold m_Program___mul___4
  exact (if_b t).trans rfl
theorem PrOk.nil : PrOk [] := ⟨by rw [noks]; exact True.intro, by rw [ndps]; decide, by rw [wds]; decide⟩
theorem mul_zero (cs : Nat → Addr) (a : List Nd) : ∃ sd, m_Program___mul__ cs [.fz (PD cs a), .fz (.int (0 : Nat))] = .ok (PO cs []) sd := by
  have ent : entry 2 [.fz (PD cs a), .fz (.int (0 : Nat))] = opSD (PD cs a) (.int (0 : Nat)) := rfl
  have t := int_t cs (d := PD cs a) (n := 0) 0
  have pm := prog_make cs PrOk.nil (a := mCons (mC (.str (Str.ofString ""))) mNil) (sd := opSD (PD cs a) (.int (0 : Nat))) (sd1 := opSD (PD cs a) (.int (0 : Nat))) (by rw [wds, textOf_nil, ← lit_nil]; rfl)
  have s4 : m_Program___mul___4 cs (opSD (PD cs a) (.int (0 : Nat))) = .rt (PO cs []) (opSD (PD cs a) (.int (0 : Nat))) := by
    unfold m_Program___mul___4
    rw [if_b t, if_pos (by decide)]
    unfold m_Program___mul___3 sRet
    rw [pm]
    rfl
  refine ⟨⟨[], [.fz (PD cs a), .fz (.int (0 : Nat))]⟩, ?_⟩
  unfold m_Program___mul__ asDef
  rw [ent, seq_nx (mul_in cs a (n := 0) (by decide)) rfl]
  unfold sSeq
  rw [s4]
  rfl
theorem mul_one (cs : Nat → Addr) {a : List Nd} (h : PrOk a) : ∃ sd, m_Program___mul__ cs [.fz (PD cs a), .fz (.int (1 : Nat))] = .ok (PO cs a) sd := by
  have ent : entry 2 [.fz (PD cs a), .fz (.int (1 : Nat))] = opSD (PD cs a) (.int (1 : Nat)) := rfl
  have t := int_t cs (d := PD cs a) (n := 1) 1
  have v0 : mVar 0 (opSD (PD cs a) (.int (1 : Nat))) = .ok (PD cs a) (opSD (PD cs a) (.int (1 : Nat))) := rfl
  have pm := prog_make cs h (a := mCons (mFld (fun C => C == cs 0) "own_text" (mVar 0)) mNil) (sd := opSD (PD cs a) (.int (1 : Nat))) (sd1 := opSD (PD cs a) (.int (1 : Nat))) (by unfold mCons mNil; rw [fld_text cs v0]; rfl)
  have s6 : m_Program___mul___6 cs (opSD (PD cs a) (.int (1 : Nat))) = .rt (PO cs a) (opSD (PD cs a) (.int (1 : Nat))) := by
    unfold m_Program___mul___6
    rw [if_b (or_l t), if_pos rfl]
    unfold m_Program___mul___5 sRet
    rw [pm]
    rfl
  refine ⟨⟨[], [.fz (PD cs a), .fz (.int (1 : Nat))]⟩, ?_⟩
  unfold m_Program___mul__ asDef
  rw [ent, seq_nx (mul_in cs a (n := 1) (by decide)) (seq_nx (mul_4 cs a (n := 1) (by decide)) rfl)]
  unfold sSeq
  rw [s6]
  rfl
theorem mul_6 (cs : Nat → Addr) {a : List Nd} (h : PrOk a) (ha : a ≠ []) {n : Nat} (h1 : n ≠ 1) : m_Program___mul___6 cs (opSD (PD cs a) (.int n)) = .nx (opSD (PD cs a) (.int n)) := by
  have t := int_t cs (d := PD cs a) (n := n) 1
  rw [decide_eq_false (by omega)] at t
  have v0 : mVar 0 (opSD (PD cs a) (.int n)) = .ok (PD cs a) (opSD (PD cs a) (.int n)) := rfl
  have t2 := op_t (f := dEq) (b := mC (.str (Str.ofString ""))) (v := false) (fld_text cs v0) rfl (by
    unfold dEq
    rw [eqB_str, lit_nil, decide_eq_false (textOf_ne (fun z => ha ((wds_nil_iff a).mp z)) fun w hw => (wds_free a h.ok w hw).2)]
    rfl)
  unfold m_Program___mul___6
  exact (if_b (or_r t t2)).trans rfl
theorem mul_8t (cs : Nat → Addr) (a : List Nd) {n : Nat} : mTest (mOp dGt (mOp dAdd (mCall dLen (mCons (mFld (fun C => C == cs 0) "own_words" (mVar 0)) mNil)) (mC (.int 2))) (mC (.int 1000))) (opSD (PD cs a) (.int n)) = .ok (decide ((1000 : Int) < ((wds a).length : Int) + 2)) (opSD (PD cs a) (.int n)) := by
  have v0 : mVar 0 (opSD (PD cs a) (.int n)) = .ok (PD cs a) (opSD (PD cs a) (.int n)) := rfl
  have o := op_v (f := dAdd) (b := mC (.int 2)) (words_len cs v0) rfl (z := .int (((wds a).length : Int) + 2)) rfl
  exact op_t o rfl rfl
theorem mul_big (cs : Nat → Addr) {a : List Nd} (h : PrOk a) (ha : a ≠ []) {n : Nat} (h0 : 2 ≤ n) (h1 : n ≤ 1000000000000000000000000000000) (hw : 1000 < (wds a).length + 2) : m_Program___mul__ cs [.fz (PD cs a), .fz (.int n)] = .rz (xL cs) ⟨[], [.fz (PD cs a), .fz (.int n)]⟩ := by
  have ent : entry 2 [.fz (PD cs a), .fz (.int n)] = opSD (PD cs a) (.int n) := rfl
  have t := mul_8t cs a (n := n)
  rw [decide_eq_true (by omega)] at t
  have s8 : m_Program___mul___8 cs (opSD (PD cs a) (.int n)) = .rz (xL cs) (opSD (PD cs a) (.int n)) := by
    unfold m_Program___mul___8
    exact (if_b t).trans rfl
  unfold m_Program___mul__ asDef
  rw [ent, seq_nx (mul_in cs a h1) (seq_nx (mul_4 cs a (by omega)) (seq_nx (mul_6 cs h ha (by omega)) rfl))]
  unfold sSeq
  rw [s8]
  rfl
theorem mul_deep (cs : Nat → Addr) {a : List Nd} (h : PrOk a) (ha : a ≠ []) {n : Nat} (h0 : 2 ≤ n) (h1 : n ≤ 1000000000000000000000000000000) (hw : (wds a).length + 2 ≤ 1000) (hd : 12 < ndps a + 1) : m_Program___mul__ cs [.fz (PD cs a), .fz (.int n)] = .rz (xD cs) ⟨[], [.fz (PD cs a), .fz (.int n)]⟩ := by
  have ent : entry 2 [.fz (PD cs a), .fz (.int n)] = opSD (PD cs a) (.int n) := rfl
  have t := mul_8t cs a (n := n)
  rw [decide_eq_false (by omega)] at t
  have s8 : m_Program___mul___8 cs (opSD (PD cs a) (.int n)) = .nx (opSD (PD cs a) (.int n)) := by
    unfold m_Program___mul___8
    exact (if_b t).trans rfl
  have v0 : mVar 0 (opSD (PD cs a) (.int n)) = .ok (PD cs a) (opSD (PD cs a) (.int n)) := rfl
  have o := op_v (f := dAdd) (b := mC (.int 1)) (fld_depth cs v0) rfl (z := .int ((ndps a : Int) + 1)) rfl
  have t10 := op_t (f := dGt) (b := mC (.int 12)) (v := decide ((12 : Int) < (ndps a : Int) + 1)) o rfl rfl
  rw [decide_eq_true (by omega)] at t10
  have s10 : m_Program___mul___10 cs (opSD (PD cs a) (.int n)) = .rz (xD cs) (opSD (PD cs a) (.int n)) := by
    unfold m_Program___mul___10
    exact (if_b t10).trans rfl
  unfold m_Program___mul__ asDef
  rw [ent, seq_nx (mul_in cs a h1) (seq_nx (mul_4 cs a (by omega)) (seq_nx (mul_6 cs h ha (by omega)) (seq_nx s8 rfl)))]
  unfold sSeq
  rw [s10]
  rfl
noncomputable def tS (w : Int) (one other : D) (x3 x4 x5 : S) : SD := ⟨[.ow (.fz (.int w)), .ow (.fz one), .ow (.fz other), x3, x4, x5], [.fz (.int w), .fz one, .fz other]⟩
theorem xT_cs (cs : Nat → Addr) (hc : CsOk cs) {i : Nat} (hi : ([6, 7, 11, 4, 5] : List Nat).contains i = true) : xT cs (cs i) = true := by
  have h1 : i < 31 := (show ∀ i ∈ ([6, 7, 11, 4, 5] : List Nat), i < 31 by decide) i (List.contains_iff_mem.mp hi)
  show (match ixOf cs 31 (cs i) with
    | some i => ([2, 11, 6, 5, 7, 4] : List Nat).contains i
    | none => false) = true
  rw [ixOf_cs hc h1]
  exact (show ∀ i ∈ ([6, 7, 11, 4, 5] : List Nat), ([2, 11, 6, 5, 7, 4] : List Nat).contains i = true by decide) i (List.contains_iff_mem.mp hi)
theorem told_rz (cs : Nat → Addr) (hc : CsOk cs) {w : Int} {one other : D} {i : Nat} {x : Exn} {s : Str} (h : Say cs i x s) (hb : m__law_told_2 cs (tS w one other (.ow (.fz .non)) (.ow (.fz .non)) .un) = .rz x (tS w one other (.ow (.fz .non)) (.ow (.fz .non)) .un)) : m__law_told cs [.fz (.int w), .fz one, .fz other] = .ok (.fz (.str s)) ⟨[], [.fz (.int w), .fz one, .fz other]⟩ := by
  have ent : entry 6 [.fz (.int w), .fz one, .fz other] = tS w one other .un .un .un := rfl
  have s1 : m__law_told_1 cs (tS w one other .un .un .un) = .nx (tS w one other (.ow (.fz .non)) (.ow (.fz .non)) .un) := rfl
  have s4 : m__law_told_4 cs (tS w one other (.ow (.fz .non)) (.ow (.fz .non)) .un) = .nx (tS w one other (.ow (.fz x.toD)) (.ow (.fz .non)) .un) := by
    show (match m__law_told_2 cs (tS w one other (.ow (.fz .non)) (.ow (.fz .non)) .un) with
      | .rz x sd1 => if xT cs x.C = true ∧ 5 < sd1.sl.length ∧ x.okB = true then (m__law_told_x1 cs { sd1 with sl := sd1.sl.set 5 (.ow (.fz x.toD)) }).unset 5 else .bad
      | r => r) = _
    rw [hb]
    dsimp only
    rw [if_pos (show xT cs x.C = true ∧ 5 < (tS w one other (.ow (.fz .non)) (.ow (.fz .non)) .un).sl.length ∧ x.okB = true from ⟨by rw [h.c]; exact xT_cs cs hc h.ii, (show 5 < 6 from by decide), h.ok⟩)]
    rfl
  have hk := class_ok cs hc h
  have s5 : m__law_told_5 cs (tS w one other (.ow (.fz x.toD)) (.ow (.fz .non)) .un) = .rt (.fz (.str s)) (tS w one other (.ow (.fz x.toD)) (.ow (.fz .non)) .un) := by
    refine ret_d ?_
    have t : mTest (mOp dIsN (mVar 3) (mC .non)) (tS w one other (.ow (.fz x.toD)) (.ow (.fz .non)) .un) = .ok false (tS w one other (.ow (.fz x.toD)) (.ow (.fz .non)) .un) := rfl
    unfold mIf mAnd
    rw [t]
    exact call1_v (a := mVar 3) rfl hk
  unfold m__law_told asDef
  rw [ent, seq_nx s1 (seq_nx s4 s5)]
  rfl
theorem told_fine (cs : Nat → Addr) {w : Int} {one other : D} {l : List Nd} (hb : m__law_told_2 cs (tS w one other (.ow (.fz .non)) (.ow (.fz .non)) .un) = .nx (tS w one other (.ow (.fz .non)) (.ow (.fz (PD cs l))) .un)) : m__law_told cs [.fz (.int w), .fz one, .fz other] = .ok (.fz (.str "fine")) ⟨[], [.fz (.int w), .fz one, .fz other]⟩ := by
  have ent : entry 6 [.fz (.int w), .fz one, .fz other] = tS w one other .un .un .un := rfl
  have s1 : m__law_told_1 cs (tS w one other .un .un .un) = .nx (tS w one other (.ow (.fz .non)) (.ow (.fz .non)) .un) := rfl
  have s4 : m__law_told_4 cs (tS w one other (.ow (.fz .non)) (.ow (.fz .non)) .un) = .nx (tS w one other (.ow (.fz .non)) (.ow (.fz (PD cs l))) .un) := by
    show (match m__law_told_2 cs (tS w one other (.ow (.fz .non)) (.ow (.fz .non)) .un) with
      | .rz x sd1 => if xT cs x.C = true ∧ 5 < sd1.sl.length ∧ x.okB = true then (m__law_told_x1 cs { sd1 with sl := sd1.sl.set 5 (.ow (.fz x.toD)) }).unset 5 else .bad
      | r => r) = _
    rw [hb]
  have s5 : m__law_told_5 cs (tS w one other (.ow (.fz .non)) (.ow (.fz (PD cs l))) .un) = .rt (.fz (.str "fine")) (tS w one other (.ow (.fz .non)) (.ow (.fz (PD cs l))) .un) := by
    refine ret_d ?_
    have t : mTest (mOp dIsN (mVar 3) (mC .non)) (tS w one other (.ow (.fz .non)) (.ow (.fz (PD cs l))) .un) = .ok true (tS w one other (.ow (.fz .non)) (.ow (.fz (PD cs l))) .un) := rfl
    have t2 : mTest (mCall (dIsO (okC cs) (cs 0)) (mCons (mVar 4) (mCons (mC (.cls (cs 0))) mNil))) (tS w one other (.ow (.fz .non)) (.ow (.fz (PD cs l))) .un) = .ok true (tS w one other (.ow (.fz .non)) (.ow (.fz (PD cs l))) .un) := by
      unfold mTest
      rw [calld_v (a := mVar 4) (b := mC (.cls (cs 0))) (sd := tS w one other (.ow (.fz .non)) (.ow (.fz (PD cs l))) .un) (x := PD cs l) (z := .cls (cs 0)) rfl rfl (isP cs l)]
      rfl
    unfold mIf mAnd
    rw [t]
    simp only [ER.bind]
    rw [if_pos trivial, t2]
    rfl
  unfold m__law_told asDef
  rw [ent, seq_nx s1 (seq_nx s4 s5)]
  rfl
theorem any_PD (cs : Nat → Addr) (l : List Nd) {d : D} (h : (d.isIns (cs 0) || d.isBlt) = true) : cAny (cs 0) (PD cs l) d = true := by
  show ((PD cs l).isIns (cs 0) && (d.isIns (cs 0) || d.isBlt)) = true
  rw [prog_isIns, h]
  rfl
theorem t2_of (cs : Nat → Addr) {w : Int} {one other : D} {x3 x5 : S} {r : ER D} (h : mIf (mTest (mOp dEq (mVar 0) (mC (.int 2)))) (mView (mOwn1 (cs 0) (m_Program___invert__ cs) (mVar 1))) (mIf (mTest (mOp dEq (mVar 0) (mC (.int 0)))) (mView (mOwn2 (cAny (cs 0)) (m_Program___add__ cs) (mVar 1) (mVar 2))) (mView (mOwn2 (cAny (cs 0)) (m_Program___mul__ cs) (mVar 1) (mVar 2)))) (tS w one other x3 (.ow (.fz .non)) x5) = r) :
    (∀ d, r = .ok d (tS w one other x3 (.ow (.fz .non)) x5) → m__law_told_2 cs (tS w one other x3 (.ow (.fz .non)) x5) = .nx (tS w one other x3 (.ow (.fz d)) x5)) ∧ (∀ x, r = .rz x (tS w one other x3 (.ow (.fz .non)) x5) → m__law_told_2 cs (tS w one other x3 (.ow (.fz .non)) x5) = .rz x (tS w one other x3 (.ow (.fz .non)) x5)) := by
  subst h
  refine ⟨fun d hd => set_d (l := (tS w one other x3 (.ow (.fz .non)) x5).sl) hd (by show 4 < 6; decide), fun x hx => ?_⟩
  unfold m__law_told_2 sSet mOwn
  rw [hx]
  rfl
theorem own2_v {c : D → D → Bool} {g : List OT → ER OT} {a b : SD → ER D} {sd : SD} {x y : D} (ha : a sd = .ok x sd) (hb : b sd = .ok y sd) (hc : c x y = true) : mView (mOwn2 c g a b) sd = (callFz g [x, y] sd).bind fun t sd1 => .ok t.view sd1 := by
  unfold mView mOwn2
  rw [ha]
  simp only [ER.bind]
  rw [hb]
  simp only [ER.bind]
  rw [if_pos hc]
theorem way0 (cs : Nat → Addr) {a : List Nd} {d : D} {x3 x4 x5 : S} (h : (d.isIns (cs 0) || d.isBlt) = true) : mIf (mTest (mOp dEq (mVar 0) (mC (.int 2)))) (mView (mOwn1 (cs 0) (m_Program___invert__ cs) (mVar 1))) (mIf (mTest (mOp dEq (mVar 0) (mC (.int 0)))) (mView (mOwn2 (cAny (cs 0)) (m_Program___add__ cs) (mVar 1) (mVar 2))) (mView (mOwn2 (cAny (cs 0)) (m_Program___mul__ cs) (mVar 1) (mVar 2)))) (tS 0 (PD cs a) d x3 x4 x5) = (callFz (m_Program___add__ cs) [PD cs a, d] (tS 0 (PD cs a) d x3 x4 x5)).bind fun t sd1 => .ok t.view sd1 := by
  rw [← own2_v (a := mVar 1) (b := mVar 2) (c := cAny (cs 0)) (g := m_Program___add__ cs) (sd := tS 0 (PD cs a) d x3 x4 x5) (x := PD cs a) (y := d) rfl rfl (any_PD cs a h)]
  rfl
theorem way1 (cs : Nat → Addr) {a : List Nd} {d : D} {x3 x4 x5 : S} (h : (d.isIns (cs 0) || d.isBlt) = true) : mIf (mTest (mOp dEq (mVar 0) (mC (.int 2)))) (mView (mOwn1 (cs 0) (m_Program___invert__ cs) (mVar 1))) (mIf (mTest (mOp dEq (mVar 0) (mC (.int 0)))) (mView (mOwn2 (cAny (cs 0)) (m_Program___add__ cs) (mVar 1) (mVar 2))) (mView (mOwn2 (cAny (cs 0)) (m_Program___mul__ cs) (mVar 1) (mVar 2)))) (tS 1 (PD cs a) d x3 x4 x5) = (callFz (m_Program___mul__ cs) [PD cs a, d] (tS 1 (PD cs a) d x3 x4 x5)).bind fun t sd1 => .ok t.view sd1 := by
  rw [← own2_v (a := mVar 1) (b := mVar 2) (c := cAny (cs 0)) (g := m_Program___mul__ cs) (sd := tS 1 (PD cs a) d x3 x4 x5) (x := PD cs a) (y := d) rfl rfl (any_PD cs a h)]
  rfl
theorem callFz_rz {f : List OT → ER OT} {ds : List D} {sd s2 : SD} {x : Exn} (h : f (ds.map .fz) = .rz x s2) : ((callFz f ds sd).bind fun t sd1 => (.ok t.view sd1 : ER D)) = .rz x sd := by
  unfold callFz
  rw [h]
  rfl
theorem callFz_ok {f : List OT → ER OT} {ds : List D} {sd s2 : SD} {t : OT} (h : f (ds.map .fz) = .ok t s2) : ((callFz f ds sd).bind fun t sd1 => (.ok t.view sd1 : ER D)) = .ok t.view sd := by
  unfold callFz
  rw [h]
  rfl
theorem told_add_rz (cs : Nat → Addr) (hc : CsOk cs) {a : List Nd} {d : D} {i : Nat} {x : Exn} {s : Str} {s2 : SD} (hy : Say cs i x s) (hd : (d.isIns (cs 0) || d.isBlt) = true) (h : m_Program___add__ cs [.fz (PD cs a), .fz d] = .rz x s2) : m__law_told cs [.fz (.int 0), .fz (PD cs a), .fz d] = .ok (.fz (.str s)) ⟨[], [.fz (.int 0), .fz (PD cs a), .fz d]⟩ :=
  told_rz cs hc hy ((t2_of cs (way0 cs hd)).2 x (callFz_rz h))
theorem told_mul_rz (cs : Nat → Addr) (hc : CsOk cs) {a : List Nd} {d : D} {i : Nat} {x : Exn} {s : Str} {s2 : SD} (hy : Say cs i x s) (hd : (d.isIns (cs 0) || d.isBlt) = true) (h : m_Program___mul__ cs [.fz (PD cs a), .fz d] = .rz x s2) : m__law_told cs [.fz (.int 1), .fz (PD cs a), .fz d] = .ok (.fz (.str s)) ⟨[], [.fz (.int 1), .fz (PD cs a), .fz d]⟩ :=
  told_rz cs hc hy ((t2_of cs (way1 cs hd)).2 x (callFz_rz h))
theorem told_add_ok (cs : Nat → Addr) {a l : List Nd} {d : D} {s2 : SD} (hd : (d.isIns (cs 0) || d.isBlt) = true) (h : m_Program___add__ cs [.fz (PD cs a), .fz d] = .ok (PO cs l) s2) : m__law_told cs [.fz (.int 0), .fz (PD cs a), .fz d] = .ok (.fz (.str "fine")) ⟨[], [.fz (.int 0), .fz (PD cs a), .fz d]⟩ :=
  told_fine cs (l := l) ((t2_of cs (way0 cs hd)).1 _ (callFz_ok (t := PO cs l) h))
theorem told_mul_ok (cs : Nat → Addr) {a l : List Nd} {d : D} {s2 : SD} (hd : (d.isIns (cs 0) || d.isBlt) = true) (h : m_Program___mul__ cs [.fz (PD cs a), .fz d] = .ok (PO cs l) s2) : m__law_told cs [.fz (.int 1), .fz (PD cs a), .fz d] = .ok (.fz (.str "fine")) ⟨[], [.fz (.int 1), .fz (PD cs a), .fz d]⟩ :=
  told_fine cs (l := l) ((t2_of cs (way1 cs hd)).1 _ (callFz_ok (t := PO cs l) h))
noncomputable def Bg (n : Nat) (t : OT) : Prop := ∃ (a b c : Int), t = .ol [.fz (.int a), .fz (.int b), .fz (.int c)] ∧ 0 ≤ c ∧ c ≤ n
theorem Bg.mono {n m : Nat} {t : OT} (h : Bg n t) (hm : n ≤ m) : Bg m t := by
  obtain ⟨a, b, c, h1, h2, h3⟩ := h
  exact ⟨a, b, c, h1, h2, by omega⟩
theorem bag_ok (cs : Nat → Addr) (cell : Int) : ∃ t, Bg 0 t ∧ m__law_bag cs [.fz (.int cell)] = .ok t ⟨[], [.fz (.int cell)]⟩ := by
  have e18 : dPow (.int 10) (.int 18) = some (.int 1000000000000000000) := p10 (k := 18) (by decide)
  refine ⟨.ol [.fz (.int (max 0 (cell - 1000000000000000000))), .fz (.int cell), .fz (.int 0)], ⟨_, _, _, rfl, by omega, by omega⟩, ?_⟩
  simp [m__law_bag_1, m__law_bag, -List.map_map, -List.map_take, -List.map_drop, -List.map_append, -List.map_reverse, asDef, entry, slotsOf, sSeq, sSet, sRet, sIf, sDrop, sNil, sBreak, sCont, sApp, sSetAt, setEnd, sAug, sAsg, sPar, mVar, mSee, mFrz, mTake, mC, mUn, mOp, mNil, mCons, mCall, mCallL, mTup, mLst, mView, mOwn, mFz, mTest, mAnd, mOr, mNot, mIf, mAndV, mOrV, mNotV, mChain, mAt, qSee, qFz, qNew, oNone, oSome, rNil, rSlot, rFz, mCall0, mCall1, oneSlot, noSlot, treesOf, SD.tree, SD.put, SD.putFz, tgN, tgNil, tgCons, tgT, ER.bind, ER.opt, ER.stm, Fl.seq, OT.view, OT.views, OT.items, fzOf, iLst, iTuP, iRange1, iRange2, iZip2, iEnumL, dIx, atI, ixN, dAdd, dSub, dNeg, dLt, dLe, dGt, dGe, dIsN, dNotN, isNonD, dEq, dNe, eqB_int, eqB_str, eqB_bl, eq_2, eq_3, dLen, dIsi, D.isA, tyName, dMod, dMax, dMin, mAtS, mBm, D.isL, D.isS, e18]
theorem pick_ok (cs : Nat → Addr) {n : Nat} {t : OT} {m : Int} (h : Bg n t) (hn : n < 2 ^ 64) (h1 : 0 < m) (h2 : m.natAbs < 2 ^ 8000) : ∃ (v : Int) (t' : OT), 0 ≤ v ∧ v < m ∧ Bg (n + 1) t' ∧ m__law_pick cs [t, .fz (.int m)] = .ok (.fz (.int v)) ⟨[], [t', .fz (.int m)]⟩ := by
  obtain ⟨a, b, c, rfl, hc, hc2⟩ := h
  have hm0 : ¬ m = 0 := by omega
  by_cases ha : 0 < a
  · refine ⟨a.fmod m, .ol [.fz (.int (a.fdiv m)), .fz (.int b), .fz (.int (c + 1))], Int.fmod_nonneg_of_pos _ h1, Int.fmod_lt_of_pos _ h1, ⟨_, _, _, rfl, by omega, by omega⟩, ?_⟩
    have e1 := div_ok (i := a) h2 hm0 (by decide)
    simp [m__law_pick_1, m__law_pick_2, m__law_pick_3, m__law_pick_4, m__law_pick_5, m__law_pick_6, m__law_pick_7, m__law_pick_8, m__law_pick, -List.map_map, -List.map_take, -List.map_drop, -List.map_append, -List.map_reverse, asDef, entry, slotsOf, sSeq, sSet, sRet, sIf, sDrop, sNil, sBreak, sCont, sApp, sSetAt, setEnd, sAug, sAsg, sPar, mVar, mSee, mFrz, mTake, mC, mUn, mOp, mNil, mCons, mCall, mCallL, mTup, mLst, mView, mOwn, mFz, mTest, mAnd, mOr, mNot, mIf, mAndV, mOrV, mNotV, mChain, mAt, qSee, qFz, qNew, oNone, oSome, rNil, rSlot, rFz, mCall0, mCall1, oneSlot, noSlot, treesOf, SD.tree, SD.put, SD.putFz, tgN, tgNil, tgCons, tgT, ER.bind, ER.opt, ER.stm, Fl.seq, OT.view, OT.views, OT.items, fzOf, iLst, iTuP, iRange1, iRange2, iZip2, iEnumL, dIx, atI, ixN, dAdd, dSub, dNeg, dLt, dLe, dGt, dGe, dIsN, dNotN, isNonD, dEq, dNe, eqB_int, eqB_str, eqB_bl, eq_2, eq_3, dLen, dIsi, D.isA, tyName, dMod, dMax, dMin, mAtS, mBm, D.isL, D.isS, ha, hm0, e1]
  · obtain ⟨x, hx⟩ : ∃ x, x = b.fmod 2147483629 := ⟨_, rfl⟩
    have x0 : 0 ≤ x := by rw [hx]; exact Int.fmod_nonneg_of_pos _ (by decide)
    have x1 : x < 2147483629 := by rw [hx]; exact Int.fmod_lt_of_pos _ (by decide)
    have m1 : dMul (.int x) (.int 48271) = some (.int (x * 48271)) := mul_ok (a := 100) (b := 100) (by omega) (by decide) (by decide)
    have m2 : dMul (.int (c + 1)) (.int 69621) = some (.int ((c + 1) * 69621)) := mul_ok (a := 100) (b := 100) (by omega) (by decide) (by decide)
    have m3 : dMul (.int (c + 1)) (.int 40692) = some (.int ((c + 1) * 40692)) := mul_ok (a := 100) (b := 100) (by omega) (by decide) (by decide)
    obtain ⟨y, hy⟩ : ∃ y, y = (x * 48271 + (c + 1) * 69621 + 12345).fmod 2147483647 := ⟨_, rfl⟩
    have y0 : 0 ≤ y := by rw [hy]; exact Int.fmod_nonneg_of_pos _ (by decide)
    have y1 : y < 2147483647 := by rw [hy]; exact Int.fmod_lt_of_pos _ (by decide)
    have m4 : dMul (.int y) (.int y) = some (.int (y * y)) := mul_ok (a := 100) (b := 100) (by omega) (by omega) (by decide)
    have m5 : dMul (.int y) (.int 2147483587) = some (.int (y * 2147483587)) := mul_ok (a := 100) (b := 100) (by omega) (by decide) (by decide)
    have d1 : ∀ z : Int, dDiv (.int z) (.int 32) = some (.int (z.fdiv 32)) := fun z => div_ok (a := 30) (by decide) (by decide) (by decide)
    refine ⟨((y * 2147483587 + (y * y + (c + 1) * 40692).fmod 2147483587).fdiv 32).fmod m, .ol [.fz (.int a), .fz (.int b), .fz (.int (c + 1))], Int.fmod_nonneg_of_pos _ h1, Int.fmod_lt_of_pos _ h1, ⟨_, _, _, rfl, by omega, by omega⟩, ?_⟩
    simp [m__law_pick_1, m__law_pick_2, m__law_pick_3, m__law_pick_4, m__law_pick_5, m__law_pick_6, m__law_pick_7, m__law_pick_8, m__law_pick, -List.map_map, -List.map_take, -List.map_drop, -List.map_append, -List.map_reverse, asDef, entry, slotsOf, sSeq, sSet, sRet, sIf, sDrop, sNil, sBreak, sCont, sApp, sSetAt, setEnd, sAug, sAsg, sPar, mVar, mSee, mFrz, mTake, mC, mUn, mOp, mNil, mCons, mCall, mCallL, mTup, mLst, mView, mOwn, mFz, mTest, mAnd, mOr, mNot, mIf, mAndV, mOrV, mNotV, mChain, mAt, qSee, qFz, qNew, oNone, oSome, rNil, rSlot, rFz, mCall0, mCall1, oneSlot, noSlot, treesOf, SD.tree, SD.put, SD.putFz, tgN, tgNil, tgCons, tgT, ER.bind, ER.opt, ER.stm, Fl.seq, OT.view, OT.views, OT.items, fzOf, iLst, iTuP, iRange1, iRange2, iZip2, iEnumL, dIx, atI, ixN, dAdd, dSub, dNeg, dLt, dLe, dGt, dGe, dIsN, dNotN, isNonD, dEq, dNe, eqB_int, eqB_str, eqB_bl, eq_2, eq_3, dLen, dIsi, D.isA, tyName, dMod, dMax, dMin, mAtS, mBm, D.isL, D.isS, ha, hm0, ← hx, m1, m2, m3, ← hy, m4, m5, d1]
/-- a call that hands over the bag and one thing more -/
theorem call_bag {f : List OT → ER OT} {i : Nat} {a : SD → ER D} {sd sd1 s2 : SD} {d : D} {r t t0 t' : OT} (ha : a sd = .ok d sd1) (h0 : sd.tree i = some t0) (h1 : sd1.tree i = some t) (hf : f [t, .fz d] = .ok r s2) (hp : s2.pa[0]? = some t') : mCall1 f (rSlot i (rFz a rNil)) sd = .ok r (sd1.put i t') := by
  have e : rSlot i (rFz a rNil) sd = .ok [.sl i, .fz d] sd1 := by
    unfold rSlot
    rw [h0]
    show ER.bind (rFz a rNil sd) _ = _
    unfold rFz
    rw [ha]
    rfl
  have e2 : treesOf sd1 [.sl i, .fz d] = some [t, .fz d] := by
    show (sd1.tree i).bind _ = _
    rw [h1]
    rfl
  unfold mCall1
  rw [e]
  show (match oneSlot [.sl i, .fz d], treesOf sd1 [.sl i, .fz d] with
  | some (m, i), some ts => match f ts with
    | .ok t sd' => match sd'.pa[m]? with
      | some t' => ER.ok t (sd1.put i t')
      | none => ER.bad
    | .rz x sd' => match sd'.pa[m]? with
      | some t' => ER.rz x (sd1.put i t')
      | none => ER.bad
    | .bad => ER.bad
  | _, _ => ER.bad) = _
  rw [e2]
  show (match f [t, .fz d] with
    | .ok t sd' => match sd'.pa[0]? with
      | some t' => ER.ok t (sd1.put i t')
      | none => .bad
    | .rz x sd' => match sd'.pa[0]? with
      | some t' => .rz x (sd1.put i t')
      | none => .bad
    | .bad => .bad) = _
  rw [hf]
  show (match s2.pa[0]? with
      | some t' => ER.ok r (sd1.put i t')
      | none => .bad) = _
  rw [hp]
theorem cons_v {a : SD → ER D} {r : SD → ER (List D)} {sd sd1 sd2 : SD} {x : D} {xs : List D} (ha : a sd = .ok x sd1) (hr : r sd1 = .ok xs sd2) : mCons a r sd = .ok (x :: xs) sd2 := by
  unfold mCons
  rw [ha]
  show ER.bind (r sd1) _ = _
  rw [hr]
  rfl
theorem call_v {f : List D → Option D} {a : SD → ER (List D)} {sd sd1 : SD} {xs : List D} {y : D} (h : a sd = .ok xs sd1) (hf : f xs = some y) : mCall f a sd = .ok y sd1 := by
  unfold mCall
  rw [h]
  show ER.opt (f xs) sd1 = _
  rw [hf]
  rfl
theorem lst_o {a : SD → ER (List D)} {sd sd1 : SD} {xs : List D} (h : a sd = .ok xs sd1) (hl : xs.length ≤ 16777216) : mLst a sd = .ok (.ol (xs.map .fz)) sd1 := by
  unfold mLst
  rw [h]
  show (if xs.length ≤ 16777216 then ER.ok (OT.ol (xs.map .fz)) sd1 else .bad) = _
  rw [if_pos hl]
theorem view_v {a : SD → ER OT} {sd sd1 : SD} {xs : List D} (h : a sd = .ok (.ol (xs.map .fz)) sd1) : mView a sd = .ok (.lst xs) sd1 := by
  unfold mView
  rw [h]
  show ER.ok (OT.view (.ol _)) sd1 = _
  rw [OT.view, views_fz]
theorem lst_v {a : SD → ER (List D)} {sd sd1 : SD} {xs : List D} (h : a sd = .ok xs sd1) (hl : xs.length ≤ 16777216) : mView (mLst a) sd = .ok (.lst xs) sd1 := view_v (lst_o h hl)
/-- a draw -/
theorem pick_call (cs : Nat → Addr) {n i : Nat} {a : SD → ER D} {sd sd1 : SD} {t t0 : OT} {m : Int} (ha : a sd = .ok (.int m) sd1) (h0 : sd.tree i = some t0) (h1 : sd1.tree i = some t) (hb : Bg n t) (hn : n < 2 ^ 64) (hm : 0 < m) (hm2 : m.natAbs < 2 ^ 8000) : ∃ (v : Int) (t' : OT), 0 ≤ v ∧ v < m ∧ Bg (n + 1) t' ∧ mView (mCall1 (m__law_pick cs) (rSlot i (rFz a rNil))) sd = .ok (.int v) (sd1.put i t') := by
  obtain ⟨v, t', v0, v1, b', e⟩ := pick_ok cs hb hn hm hm2
  refine ⟨v, t', v0, v1, b', ?_⟩
  unfold mView
  rw [call_bag ha h0 h1 e rfl]
  rfl
noncomputable def nuS (b : OT) : SD := ⟨[.pa 0, .ow (.fz (.int 1))], [b, .fz (.int 1)]⟩
theorem number_ok (cs : Nat → Addr) {n : Nat} {t : OT} (h : Bg n t) (hn : n + 2 < 2 ^ 64) : ∃ (k : Nat) (t' : OT), 2 ≤ k ∧ k ≤ 1000000000000000000000000000000 ∧ Bg (n + 2) t' ∧ m__law_number cs [t, .fz (.int 1)] = .ok (.fz (.str (W (TL.numL k)))) ⟨[], [t', .fz (.int 1)]⟩ := by
  have ent : entry 2 [t, .fz (.int 1)] = nuS t ∨ True := .inr trivial
  obtain ⟨a, b, c, rfl, hc, hc2⟩ := h
  have ent : entry 2 [.ol [.fz (.int a), .fz (.int b), .fz (.int c)], .fz (.int 1)] = nuS (.ol [.fz (.int a), .fz (.int b), .fz (.int c)]) := rfl
  have h : Bg n (.ol [.fz (.int a), .fz (.int b), .fz (.int c)]) := ⟨_, _, _, rfl, hc, hc2⟩
  generalize OT.ol [.fz (.int a), .fz (.int b), .fz (.int c)] = t at *
  have e30 : mOp dSub (mOp dPow (mC (.int 10)) (mC (.int 30))) (mC (.int 1)) (nuS t) = .ok (.int (1000000000000000000000000000000 - 1)) (nuS t) := by
    refine op_v (x := .int 1000000000000000000000000000000) ?_ rfl rfl
    exact op_v rfl rfl (p10 (k := 30) (by decide))
  obtain ⟨v, t1, v0, v1, b1, p1⟩ := pick_call cs (a := mOp dAdd (mC (.int 2)) (mOp dMul (mC (.int 3)) (mVar 1))) (i := 0) (sd := nuS t) (sd1 := nuS t) (m := 5) rfl rfl rfl h (by omega) (by decide) (by decide)
  have l1 : mView (mLst (mCons (mC (.int 2)) (mCons (mC (.int 3)) (mCons (mC (.int 9)) (mCons (mC (.int 60)) (mCons (mOp dSub (mOp dPow (mC (.int 10)) (mC (.int 30))) (mC (.int 1))) (mNil))))))) (nuS t) = .ok (.lst [.int 2, .int 3, .int 9, .int 60, .int (1000000000000000000000000000000 - 1)]) (nuS t) := by
    exact lst_v (cons_v rfl (cons_v rfl (cons_v rfl (cons_v rfl (cons_v e30 rfl))))) (by decide)
  obtain ⟨far, f0, f1, ix⟩ : ∃ far : Int, 0 < far ∧ far ≤ 1000000000000000000000000000000 - 1 ∧ dIx (.lst [.int 2, .int 3, .int 9, .int 60, .int (1000000000000000000000000000000 - 1)]) (.int v) = some (.int far) := by
    have : v = 0 ∨ v = 1 ∨ v = 2 ∨ v = 3 ∨ v = 4 := by omega
    rcases this with rfl | rfl | rfl | rfl | rfl
    · exact ⟨2, by decide, by decide, rfl⟩
    · exact ⟨3, by decide, by decide, rfl⟩
    · exact ⟨9, by decide, by decide, rfl⟩
    · exact ⟨60, by decide, by decide, rfl⟩
    · exact ⟨1000000000000000000000000000000 - 1, by decide, by decide, rfl⟩
  have i1 := op_v l1 p1 ix
  obtain ⟨u, t2, u0, u1, b2, p2⟩ := pick_call cs (i := 0) i1 (t0 := t) (t := t1) rfl rfl b1 (by omega) f0 (by
    have : (2 : Nat) ^ 8000 ≥ 2 ^ 200 := Nat.pow_le_pow_right (by decide) (by decide)
    have b200 : (2 : Nat) ^ 200 = 1606938044258990275541962092341162602522202993782792835301376 := by decide
    omega)
  have o1 : mOp dAdd (mC (.int 2)) _ (nuS t) = .ok (.int ((2 + u.toNat : Nat) : Int)) _ := op_v (f := dAdd) (x := .int 2) rfl p2 (by
    show some (D.int (2 + u)) = _
    congr 2
    omega)
  refine ⟨2 + u.toNat, t2, by omega, by omega, b2, ?_⟩
  have st : dStr1 [.int ((2 + u.toNat : Nat) : Int)] = some (.str (W (TL.numL (2 + u.toNat)))) := str_num (by
    have : (2 : Nat) ^ 1000 ≥ 2 ^ 200 := Nat.pow_le_pow_right (by decide) (by decide)
    have b200 : (2 : Nat) ^ 200 = 1606938044258990275541962092341162602522202993782792835301376 := by decide
    omega)
  unfold m__law_number asDef
  rw [ent]
  have s1 : m__law_number_1 cs (nuS t) = .rt (.fz (.str (W (TL.numL (2 + u.toNat))))) (((nuS t).put 0 t1).put 0 t2) := by
    refine ret_d ?_
    exact call_v (cons_v o1 rfl) st
  rw [s1]
  rfl
theorem while_go {c : SD → ER Bool} {body : SD → Fl} (I : Nat → SD → Prop) (J : SD → Prop) (h : ∀ k sd, I k sd → (c sd = .ok false sd ∧ J sd) ∨ (c sd = .ok true sd ∧ ∃ sd2 k2, k2 < k ∧ body sd = .nx sd2 ∧ I k2 sd2)) : ∀ n k sd, I k sd → k < n → ∃ sd', goWhile c body n sd = .nx sd' ∧ J sd'
  | 0, k, sd, _, hk => by omega
  | n + 1, k, sd, hI, hk => by
    rcases h k sd hI with ⟨h1, h2⟩ | ⟨h1, sd2, k2, h2, h3, h4⟩
    · refine ⟨sd, ?_, h2⟩
      unfold goWhile
      rw [h1]
      rfl
    · obtain ⟨sd', g1, g2⟩ := while_go I J h n k2 sd2 h4 (by omega)
      refine ⟨sd', ?_, g2⟩
      unfold goWhile
      rw [h1]
      show (match body sd with
      | .nx sd2 => goWhile c body n sd2
      | .ct sd2 => goWhile c body n sd2
      | .bk sd2 => .nx sd2
      | r => r) = _
      rw [h3]
      exact g1
theorem noSlot_fz : ∀ ds : List D, noSlot (ds.map DL.Arg.fz) = true
  | [] => rfl
  | d :: r => noSlot_fz r
theorem treesOf_fz (sd : SD) : ∀ ds : List D, treesOf sd (ds.map DL.Arg.fz) = some (ds.map OT.fz)
  | [] => rfl
  | d :: r => by
    show (treesOf sd (r.map DL.Arg.fz)).map _ = _
    rw [treesOf_fz sd r]
    rfl
/-- a call that hands over the bag first -/
theorem call_bags {f : List OT → ER OT} {i : Nat} {rr : SD → ER (List DL.Arg)} {sd sd1 s2 : SD} {ds : List D} {r t t0 t' : OT} (ha : rr sd = .ok (ds.map .fz) sd1) (h0 : sd.tree i = some t0) (h1 : sd1.tree i = some t) (hf : f (t :: ds.map .fz) = .ok r s2) (hp : s2.pa[0]? = some t') : mCall1 f (rSlot i rr) sd = .ok r (sd1.put i t') := by
  have e : rSlot i rr sd = .ok (.sl i :: ds.map .fz) sd1 := by
    unfold rSlot
    rw [h0]
    show ER.bind (rr sd) _ = _
    rw [ha]
    rfl
  have e2 : treesOf sd1 (.sl i :: ds.map .fz) = some (t :: ds.map .fz) := by
    show (sd1.tree i).bind (fun t => (treesOf sd1 (ds.map .fz)).map (t :: ·)) = _
    rw [h1, treesOf_fz]
    rfl
  have e3 : oneSlot (.sl i :: ds.map .fz) = some (0, i) := by
    show (if noSlot (ds.map DL.Arg.fz) = true then some (0, i) else none) = _
    rw [noSlot_fz]
    rfl
  unfold mCall1
  rw [e]
  simp only [ER.bind]
  rw [e3, e2]
  simp only
  rw [hf]
  simp only
  rw [hp]
theorem rfz_v {a : SD → ER D} {r : SD → ER (List DL.Arg)} {sd sd1 sd2 : SD} {d : D} {ds : List D} (ha : a sd = .ok d sd1) (hr : r sd1 = .ok (ds.map .fz) sd2) : rFz a r sd = .ok ((d :: ds).map .fz) sd2 := by
  unfold rFz
  rw [ha]
  simp only [ER.bind]
  rw [hr]
  rfl
theorem cat_v {a b : SD → ER (List D)} {sd sd1 sd2 : SD} {xs ys : List D} (ha : a sd = .ok xs sd1) (hb : b sd1 = .ok ys sd2) (hl : xs.length + ys.length ≤ 16777216) : mCat a b sd = .ok (.ol ((xs ++ ys).map .fz)) sd2 := by
  unfold mCat
  rw [ha]
  simp only [ER.bind]
  rw [hb]
  simp only
  rw [if_pos hl]
theorem qnew_v {a : SD → ER OT} {sd sd1 : SD} {xs : List D} (h : a sd = .ok (.ol (xs.map .fz)) sd1) : qNew a sd = .ok xs sd1 := by
  unfold qNew
  rw [h]
  show ER.opt (fzOf (xs.map .fz)) sd1 = _
  rw [fzOf_map]
  rfl
theorem qfz_v {a : SD → ER D} {sd sd1 : SD} {xs : List D} (h : a sd = .ok (.lst xs) sd1) : qFz a sd = .ok xs sd1 := by
  unfold qFz
  rw [h]
  rfl
theorem set_o {k : Nat} {m : SD → ER OT} {sd : SD} {o : OT} {l : List S} {pa : List OT} (h : m sd = .ok o ⟨l, pa⟩) (hk : k < l.length) : sSet k m sd = .nx ⟨l.set k (.ow o), pa⟩ := by
  unfold sSet
  rw [h]
  show (if k < l.length then _ else _) = _
  rw [if_pos hk]
theorem own_v {m : SD → ER D} {sd sd1 : SD} {d : D} (h : m sd = .ok d sd1) : mOwn m sd = .ok (.fz d) sd1 := by
  unfold mOwn; rw [h]; rfl
theorem fldx_v {ok : Addr → Bool} {f : Str} {a : SD → ER D} {sd sd1 : SD} {C : Addr} {ns : List Str} {vs : List D} {d : D} (h : a sd = .ok (.exc C ns vs) sd1) (ho : ok C = true) (hf : fldD f ns vs = some d) : mFldX ok f a sd = .ok d sd1 := by
  unfold mFldX
  rw [h]
  simp only [ER.bind]
  rw [if_pos ho, hf]
  rfl
noncomputable def mdS (x0 x1 x2 : S) : SD := ⟨[x0, x1, x2], []⟩
noncomputable def AnX (cs : Nat → Addr) (d : D) : Prop := ∃ i ns vs, d = .exc (cs i) ns vs ∧ (fullX.contains i || partX.contains i) = true
theorem made_right (cs : Nat → Addr) (hc : CsOk cs) : m__law_made_right cs [] = .ok (.fz (.bl true)) ⟨[], []⟩ := by
  let E := fun i : Nat => D.exc (cs i) [] []
  let l1 : List D := [E 6, E 7, E 8, E 9, E 10]
  let l2 : List D := l1 ++ [E 11, E 12, E 13, E 14, E 15]
  let l3 : List D := l2 ++ [E 16]
  let l4 : List D := l3 ++ [E 17, E 18, E 19, E 20, E 21, E 28]
  let l5 : List D := l4 ++ [E 22, E 23, E 24, E 25, E 26]
  let l6 : List D := l5 ++ [E 27, E 29, E 30, .exc (cs 2) ["index"] [.int 3], .exc (cs 3) ["index", "line"] [.int 2, .int 1]]
  let l7 : List D := l6 ++ [.exc (cs 4) ["limit"] [.int 12], .exc (cs 5) ["limit"] [.int 60]]
  have s1 : m__law_made_right_1 cs (mdS .un .un .un) = .nx (mdS (.ow (.ol (l1.map .fz))) .un .un) := rfl
  have s2 : m__law_made_right_2 cs (mdS (.ow (.ol (l1.map .fz))) .un .un) = .nx (mdS (.ow (.ol (l2.map .fz))) .un .un) := rfl
  have s3 : m__law_made_right_3 cs (mdS (.ow (.ol (l2.map .fz))) .un .un) = .nx (mdS (.ow (.ol (l3.map .fz))) .un .un) := rfl
  have s4 : m__law_made_right_4 cs (mdS (.ow (.ol (l3.map .fz))) .un .un) = .nx (mdS (.ow (.ol (l4.map .fz))) .un .un) := rfl
  have s5 : m__law_made_right_5 cs (mdS (.ow (.ol (l4.map .fz))) .un .un) = .nx (mdS (.ow (.ol (l5.map .fz))) .un .un) := rfl
  have s6 : m__law_made_right_6 cs (mdS (.ow (.ol (l5.map .fz))) .un .un) = .nx (mdS (.ow (.ol (l6.map .fz))) .un .un) := rfl
  have any : ∀ d ∈ l7, AnX cs d := by
    have go : ∀ (ps : List (Nat × List Str × List D)), (∀ p ∈ ps, (fullX.contains p.1 || partX.contains p.1) = true) → ∀ d ∈ ps.map (fun p => D.exc (cs p.1) p.2.1 p.2.2), AnX cs d := fun ps h d hd => by
      obtain ⟨p, hp, rfl⟩ := List.mem_map.mp hd
      exact ⟨p.1, p.2.1, p.2.2, rfl, h p hp⟩
    have e : l7 = (([6, 7, 8, 9, 10, 11, 12, 13, 14, 15, 16, 17, 18, 19, 20, 21, 28, 22, 23, 24, 25, 26, 27, 29, 30] : List Nat).map (fun i => (i, ([] : List Str), ([] : List D))) ++ ([(2, ["index"], [.int 3]), (3, ["index", "line"], [.int 2, .int 1]), (4, ["limit"], [.int 12]), (5, ["limit"], [.int 60])] : List (Nat × List Str × List D))).map (fun p => D.exc (cs p.1) p.2.1 p.2.2) := rfl
    rw [e]
    refine go _ fun p hp => ?_
    rcases List.mem_append.mp hp with hp | hp
    · obtain ⟨i, hi, rfl⟩ := List.mem_map.mp hp
      exact (by decide : ∀ i ∈ ([6, 7, 8, 9, 10, 11, 12, 13, 14, 15, 16, 17, 18, 19, 20, 21, 28, 22, 23, 24, 25, 26, 27, 29, 30] : List Nat), (fullX.contains i || partX.contains i) = true) i hi
    · simp only [List.mem_cons, List.not_mem_nil, or_false] at hp
      rcases hp with rfl | rfl | rfl | rfl <;> rfl
  obtain ⟨sd', s9, hI⟩ := sFor_inv (it := iLst (mView (mCat (qSee 0) (qNew (mLst (mCons (mExcX (cs 4) ["limit"] (mCons (mC (.int 12)) (mNil))) (mCons (mExcX (cs 5) ["limit"] (mCons (mC (.int 60)) (mNil))) (mNil)))))))) (g := tgN 1) (body := m__law_made_right_b1 cs) (sd := mdS (.ow (.ol (l6.map .fz))) .un .un) (sd1 := mdS (.ow (.ol (l6.map .fz))) .un .un) l7 (fun d => d)
    (fun r sd => (∀ d ∈ r, AnX cs d) ∧ ∃ x1, sd = mdS (.ow (.ol (l6.map .fz))) x1 .un) rfl ⟨any, _, rfl⟩ fun d r sd hI => by
      obtain ⟨hr, x1, rfl⟩ := hI
      obtain ⟨i, ns, vs, rfl, hi⟩ := hr d List.mem_cons_self
      refine ⟨mdS (.ow (.ol (l6.map .fz))) (.ow (.fz (.exc (cs i) ns vs))) .un, mdS (.ow (.ol (l6.map .fz))) (.ow (.fz (.exc (cs i) ns vs))) .un, rfl, .inl ?_, fun d hd => hr d (List.mem_cons_of_mem _ hd), _, rfl⟩
      generalize hS : mdS (.ow (.ol (l6.map .fz))) (.ow (.fz (.exc (cs i) ns vs))) .un = sd
      have v1 : mVar 1 sd = .ok (.exc (cs i) ns vs) sd := by rw [← hS]; rfl
      have tA : mNot (mTest (mCall (dIsF (relC cs)) (mCons (mVar 1) (mCons (mC (.cls (cs 1))) mNil)))) sd = .ok false sd := by
        refine not_b (u := true) ?_
        unfold mTest
        rw [calld_v (b := mC (.cls (cs 1))) v1 (z := .cls (cs 1)) rfl (isF_base cs hc hi)]
        rfl
      have tB : mNot (mTest (mCall (dIsF (relC cs)) (mCons (mVar 1) (mCons (mC (.ty "ValueError")) mNil)))) sd = .ok false sd := by
        refine not_b (u := true) ?_
        unfold mTest
        rw [calld_v (b := mC (.ty "ValueError")) v1 (z := .ty "ValueError") rfl (isF_ve cs hc hi)]
        rfl
      unfold m__law_made_right_b1 m__law_made_right_8
      exact (if_b (or_r tA tB)).trans rfl
  obtain ⟨_, x1, rfl⟩ := hI
  let l8 : List D := [.int 3, .int 1, .int 2, .int 12]
  have s10 : m__law_made_right_10 cs (mdS (.ow (.ol (l6.map .fz))) x1 .un) = .nx (mdS (.ow (.ol (l6.map .fz))) x1 (.ow (.fz (.lst l8)))) := by
    generalize hS : mdS (.ow (.ol (l6.map .fz))) x1 .un = sd
    have k2 : (cs 2 == cs 2 || cs 2 == cs 3) = true := by simp
    have k3 : (cs 3 == cs 2 || cs 3 == cs 3) = true := by simp
    have k3b : (cs 3 == cs 3) = true := by simp
    have k4 : (cs 4 == cs 4 || cs 4 == cs 5) = true := by simp
    have f1 := fldx_v (ok := fun C => C == cs 2 || C == cs 3) (f := "index") (a := mExcX (cs 2) ["index"] (mCons (mC (.int 3)) mNil)) (sd := sd) (sd1 := sd) (C := cs 2) (ns := ["index"]) (vs := [.int 3]) (d := .int 3) rfl k2 rfl
    have f2 := fldx_v (ok := fun C => C == cs 3) (f := "line") (a := mExcX (cs 3) ["line", "index"] (mCons (mC (.int 1)) (mCons (mC (.int 2)) mNil))) (sd := sd) (sd1 := sd) (C := cs 3) (ns := ["index", "line"]) (vs := [.int 2, .int 1]) (d := .int 1) rfl k3b rfl
    have f3 := fldx_v (ok := fun C => C == cs 2 || C == cs 3) (f := "index") (a := mExcX (cs 3) ["line", "index"] (mCons (mC (.int 1)) (mCons (mC (.int 2)) mNil))) (sd := sd) (sd1 := sd) (C := cs 3) (ns := ["index", "line"]) (vs := [.int 2, .int 1]) (d := .int 2) rfl k3 rfl
    have f4 := fldx_v (ok := fun C => C == cs 4 || C == cs 5) (f := "limit") (a := mExcX (cs 4) ["limit"] (mCons (mC (.int 12)) mNil)) (sd := sd) (sd1 := sd) (C := cs 4) (ns := ["limit"]) (vs := [.int 12]) (d := .int 12) rfl k4 rfl
    have l := lst_v (cons_v f1 (cons_v f2 (cons_v f3 (cons_v f4 (r := mNil) rfl)))) (by decide)
    subst hS
    exact set_d (k := 2) (l := (mdS (.ow (.ol (l6.map .fz))) x1 .un).sl) l (by show 2 < 3; decide)
  have s11 : m__law_made_right_11 cs (mdS (.ow (.ol (l6.map .fz))) x1 (.ow (.fz (.lst l8)))) = .rt (.fz (.bl true)) (mdS (.ow (.ol (l6.map .fz))) x1 (.ow (.fz (.lst l8)))) := by
    generalize hS : mdS (.ow (.ol (l6.map .fz))) x1 (.ow (.fz (.lst l8))) = sd
    have v2 : qFz (mVar 2) sd = .ok l8 sd := by rw [← hS]; rfl
    have k5 : (cs 5 == cs 4 || cs 5 == cs 5) = true := by simp
    have f5 := fldx_v (ok := fun C => C == cs 4 || C == cs 5) (f := "limit") (a := mExcX (cs 5) ["limit"] (mCons (mC (.int 60)) mNil)) (sd := sd) (sd1 := sd) (C := cs 5) (ns := ["limit"]) (vs := [.int 60]) (d := .int 60) rfl k5 rfl
    have c := cat_v v2 (qnew_v (lst_o (cons_v f5 (r := mNil) rfl) (by decide))) (by decide)
    have q := op_v (f := dEq) (view_v c) (b := mView (mLst (mCons (mC (.int 3)) (mCons (mC (.int 1)) (mCons (mC (.int 2)) (mCons (mC (.int 12)) (mCons (mC (.int 60)) mNil))))))) (y := .lst [.int 3, .int 1, .int 2, .int 12, .int 60]) (sd2 := sd) rfl (z := .bl true) rfl
    refine ret_d ((andv_t q).trans ?_)
    have t := isF_tup cs hc (i := 1) (ns := []) (vs := []) rfl 2 [11] (by decide)
    have m1 := calld_v (f := dIsF (relC cs)) (a := mExc (cs 1) (mCons (mC (.str "x")) mNil)) (b := mTup (mCons (mC (.cls (cs 2))) (mCons (mC (.cls (cs 11))) mNil))) (sd := sd) (x := .exc (cs 1) [] []) (z := .tup [.cls (cs 2), .cls (cs 11)]) rfl rfl t
    unfold mNotV
    rw [m1]
    rfl
  have ent : entry 3 [] = mdS .un .un .un := rfl
  unfold m__law_made_right asDef
  rw [ent, seq_nx s1 (seq_nx s2 (seq_nx s3 (seq_nx s4 (seq_nx s5 (seq_nx s6 (seq_nx (show m__law_made_right_9 cs _ = _ from s9) (seq_nx s10 s11)))))))]
  rfl
theorem num_call (cs : Nat → Addr) {n i : Nat} {a : SD → ER D} {sd sd1 : SD} {t t0 : OT} (ha : a sd = .ok (.int 1) sd1) (h0 : sd.tree i = some t0) (h1 : sd1.tree i = some t) (hb : Bg n t) (hn : n + 2 < 2 ^ 64) : ∃ (k : Nat) (t' : OT), 2 ≤ k ∧ k ≤ 1000000000000000000000000000000 ∧ Bg (n + 2) t' ∧ mView (mCall1 (m__law_number cs) (rSlot i (rFz a rNil))) sd = .ok (.str (W (TL.numL k))) (sd1.put i t') := by
  obtain ⟨k, t', k1, k2, b', e⟩ := number_ok cs hb hn
  refine ⟨k, t', k1, k2, b', ?_⟩
  unfold mView
  rw [call_bag ha h0 h1 e rfl]
  rfl
theorem add_S {a b : List Nat} (h : a.length + b.length ≤ 16777216) : dAdd (.str (W a)) (.str (W b)) = some (.str (W (a ++ b))) := by
  show (if (W a).length + (W b).length ≤ 16777216 then some (D.str (W a ++ W b)) else none) = _
  rw [W_len, W_len, if_pos h, W_app]
noncomputable def wS (L : List Nat) (b : OT) (m d : Nat) (found : List Nd) (many : Nat) (x7 x8 x9 : S) : SD := ⟨[.pa 0, .ow (.fz (.int m)), .ow (.fz (.int d)), .ow (.fz (.str (W L))), .ow (.fz (.int 1)), .ow (.ol ((WsD (wds found)).map .fz)), .ow (.fz (.int many)), x7, x8, x9], [b, .fz (.int m), .fz (.int d), .fz (.str (W L)), .fz (.int 1)]⟩
section
variable (cs : Nat → Addr) (rec : List OT → ER OT) {L : List Nat} {b : OT} {m d many : Nat} {found : List Nd} {x7 x8 x9 : S}
theorem ws_see : mSee 5 (wS L b m d found many x7 x8 x9) = .ok (.lst (WsD (wds found))) (wS L b m d found many x7 x8 x9) := by
  show ER.ok (OT.view (.ol _)) _ = _
  rw [OT.view, views_fz]
theorem ws_len : mCall dLen (mCons (mSee 5) mNil) (wS L b m d found many x7 x8 x9) = .ok (.int (wds found).length) (wS L b m d found many x7 x8 x9) := call_v (cons_v ws_see rfl) (by
  show some (D.int (WsD (wds found)).length) = _
  rw [WsD_len])
theorem ws_cond : mTest (mOp dLt (mCall dLen (mCons (mSee 5) (mNil))) (mVar 6)) (wS L b m d found many x7 x8 x9) = .ok (decide ((wds found).length < many)) (wS L b m d found many x7 x8 x9) := op_t ws_len (y := .int many) rfl (by
  show some (D.bl (decide (((wds found).length : Int) < (many : Int)))) = _
  congr 2
  exact decide_eq_decide.mpr (by omega))
theorem ws_3 {n : Nat} (hb : Bg n b) (hn : n < 2 ^ 64) : ∃ (v : Int) (b' : OT), Bg (n + 1) b' ∧ m__law_words_3 cs rec (wS L b m d found many x7 x8 x9) = .nx (wS L b' m d found many (.ow (.fz (.int v))) x8 x9) := by
  obtain ⟨v, b', v0, v1, h1, e⟩ := pick_call cs (a := mC (.int 5)) (i := 0) (sd := wS L b m d found many x7 x8 x9) (sd1 := wS L b m d found many x7 x8 x9) rfl rfl rfl hb hn (by decide) (by decide)
  refine ⟨v, b', h1, ?_⟩
  exact set_d (l := (wS L b' m d found many x7 x8 x9).sl) e (by show 7 < 10; decide)
theorem ws_4 (h : (wds found).length < many) : m__law_words_4 cs rec (wS L b m d found many x7 x8 x9) = .nx (wS L b m d found many x7 (.ow (.fz (.int (many - (wds found).length : Nat)))) x9) := by
  have o : mOp dSub (mVar 6) (mCall dLen (mCons (mSee 5) (mNil))) (wS L b m d found many x7 x8 x9) = .ok (.int (many - (wds found).length : Nat)) (wS L b m d found many x7 x8 x9) := op_v (x := .int many) rfl ws_len (by
    show some (D.int ((many : Int) - (wds found).length)) = _
    rw [show ((many : Int) - ((wds found).length : Nat)) = ((many - (wds found).length : Nat) : Int) by omega])
  exact set_d (l := (wS L b m d found many x7 x8 x9).sl) o (by show 8 < 10; decide)
theorem ix_W {l : List Nat} {v : Int} (h0 : 0 ≤ v) (h1 : v < l.length) (hl : l.length ≤ 16777216) : ∃ c, c ∈ l ∧ dIx (.str (W l)) (.int v) = some (.str (W [c])) := by
  have hv : v.toNat < l.length := by omega
  refine ⟨l[v.toNat], List.getElem_mem hv, ?_⟩
  show (if (W l).length ≤ 16777216 then (atI l v).map (fun c => D.str ⟨#[c]⟩) else none) = _
  have := atI_of (xs := l) (k := v.toNat) (v := l[v.toNat]) (by simp [hv])
  rw [show ((v.toNat : Nat) : Int) = v by omega] at this
  rw [W_len, if_pos hl, this]
  rfl
theorem ws_7 {n : Nat} {way : Int} (hL : ∀ c ∈ L, c ∈ letters) (hL1 : 1 ≤ L.length) (hL2 : L.length ≤ 10) (hb : Bg n b) (hn : n + 3 < 2 ^ 64) (hl : (wds found).length < 1000) : ∃ (c k : Nat) (b' : OT), c ∈ letters ∧ 1 ≤ k ∧ k ≤ 1000000000000000000000000000000 ∧ Bg (n + 3) b' ∧ m__law_words_7 cs rec (wS L b m d found many (.ow (.fz (.int way))) x8 x9) = .nx (wS L b' m d (found ++ [.st c k]) many (.ow (.fz (.int way))) x8 x9) := by
  obtain ⟨v, b1, v0, v1, h1, e1⟩ := pick_call cs (a := mCall dLen (mCons (mVar 3) mNil)) (i := 0) (sd := wS L b m d found many (.ow (.fz (.int way))) x8 x9) (sd1 := wS L b m d found many (.ow (.fz (.int way))) x8 x9) (m := L.length) (len_v (w := L) (by omega) rfl) rfl rfl hb (by omega) (by omega) (by
    have : (2 : Nat) ^ 8000 ≥ 2 ^ 20 := Nat.pow_le_pow_right (by decide) (by decide)
    have : (2 : Nat) ^ 20 = 1048576 := by decide
    omega)
  obtain ⟨c, hc2, hc⟩ := ix_W v0 v1 (by omega)
  have o1 := op_v (f := dIx) (a := mVar 3) (sd := wS L b m d found many (.ow (.fz (.int way))) x8 x9) (x := .str (W L)) rfl e1 hc
  obtain ⟨k, b2, k1, k2, h2, e2⟩ := num_call cs (a := mVar 4) (i := 0) (sd := wS L b1 m d found many (.ow (.fz (.int way))) x8 x9) (sd1 := wS L b1 m d found many (.ow (.fz (.int way))) x8 x9) rfl rfl rfl h1 (by omega)
  have l2 : mView (mLst (mCons (mC (.str (Str.ofString ""))) (mCons (mView (mCall1 (m__law_number cs) (rSlot 0 (rFz (mVar 4) rNil)))) mNil))) (wS L b1 m d found many (.ow (.fz (.int way))) x8 x9) = .ok (.lst [.str (Str.ofString ""), .str (W (TL.numL k))]) (wS L b2 m d found many (.ow (.fz (.int way))) x8 x9) := lst_v (cons_v rfl (cons_v e2 rfl)) (by show 2 ≤ 16777216; decide)
  have q : mCall dInt2 (mCons (mOp dEq (mVar 7) (mC (.int 1))) mNil) (wS L b2 m d found many (.ow (.fz (.int way))) x8 x9) = .ok (.int (if (decide (way = 1)) = true then 1 else 0)) (wS L b2 m d found many (.ow (.fz (.int way))) x8 x9) := call_v (cons_v (op_v (f := dEq) (x := .int way) (y := .int 1) (z := .bl (decide (way = 1))) rfl rfl (by unfold dEq; rw [eqB_int]; rfl)) rfl) (int2_bl _)
  have nl := TL.numL_len (n := k) (k := 31) (by decide) (by omega)
  obtain ⟨k3, u, hu, hk1, hk2, hlw, ix⟩ : ∃ (k3 : Nat) (u : List Nat), u.length ≤ 31 ∧ 1 ≤ k3 ∧ k3 ≤ 1000000000000000000000000000000 ∧ lw c k3 = c :: u ∧ dIx (.lst [.str (Str.ofString ""), .str (W (TL.numL k))]) (.int (if (decide (way = 1)) = true then 1 else 0)) = some (.str (W u)) := by
    by_cases hway : way = 1
    · exact ⟨k, _, nl, by omega, k2, by unfold lw; rw [if_neg (by omega)], by rw [decide_eq_true hway]; rfl⟩
    · exact ⟨1, [], by decide, by omega, by omega, rfl, by rw [decide_eq_false hway, lit_nil]; rfl⟩
  have o2 := op_v l2 q ix
  have o3 : mOp dAdd _ _ (wS L b m d found many (.ow (.fz (.int way))) x8 x9) = .ok (.str (W (c :: u))) _ := op_v (f := dAdd) o1 o2 (add_S (by rw [List.length_singleton]; omega))
  refine ⟨c, k3, b2, hL c hc2, hk1, hk2, h2.mono (by omega), ?_⟩
  unfold m__law_words_7 sApp
  have t0 : (wS L b m d found many (.ow (.fz (.int way))) x8 x9).tree 5 = some (.ol ((WsD (wds found)).map .fz)) := rfl
  rw [t0]
  simp only
  rw [own_v o3]
  show (if ((WsD (wds found)).map OT.fz).length < 16777216 then Fl.nx ((wS L b2 m d found many (.ow (.fz (.int way))) x8 x9).put 5 (.ol ((WsD (wds found)).map .fz ++ [.fz (.str (W (c :: u)))]))) else .bad) = _
  rw [if_pos (by rw [List.length_map, WsD_len]; omega)]
  have : (WsD (wds found)).map OT.fz ++ [.fz (.str (W (c :: u)))] = (WsD (wds (found ++ [.st c k3]))).map OT.fz := by
    rw [wds_app, wds_one, wd, hlw, WsD_app, List.map_append]; rfl
  rw [this]
  rfl
theorem ws_6 {n : Nat} {part : List Nd} (hb : Bg n b) (hn : n + 3 < 2 ^ 64) (hl : (wds found).length + (wds part).length < 1000) : ∃ (k : Nat) (b' : OT), 2 ≤ k ∧ k ≤ 1000000000000000000000000000000 ∧ Bg (n + 2) b' ∧ m__law_words_6 cs rec (wS L b m d found many x7 x8 (.ow (.fz (.lst (WsD (wds part)))))) = .nx (wS L b' m d (found ++ [.rp part k]) many x7 x8 (.ow (.fz (.lst (WsD (wds part)))))) := by
  obtain ⟨k, b2, k1, k2, h2, e2⟩ := num_call cs (a := mVar 4) (i := 0) (sd := wS L b m d found many x7 x8 (.ow (.fz (.lst (WsD (wds part)))))) (sd1 := wS L b m d found many x7 x8 (.ow (.fz (.lst (WsD (wds part)))))) rfl rfl rfl hb (by omega)
  have nl := TL.numL_len (n := k) (k := 31) (by decide) (by omega)
  refine ⟨k, b2, k1, k2, h2, ?_⟩
  have q5 : qSee 5 (wS L b m d found many x7 x8 (.ow (.fz (.lst (WsD (wds part)))))) = .ok (WsD (wds found)) (wS L b m d found many x7 x8 (.ow (.fz (.lst (WsD (wds part)))))) := by
    show ER.opt (fzOf ((WsD (wds found)).map .fz)) _ = _
    rw [fzOf_map]
    rfl
  have c1 := cat_v q5 (qnew_v (lst_o (a := mCons (mC (.str (Str.ofString "("))) mNil) (xs := [.str (Str.ofString "(")]) rfl (by decide))) (by rw [WsD_len, List.length_singleton]; omega)
  have c2 := cat_v (qnew_v c1) (qfz_v (a := mVar 9) (xs := WsD (wds part)) rfl) (by rw [List.length_append, WsD_len, WsD_len, List.length_singleton]; omega)
  have o : mOp dAdd (mC (.str (Str.ofString ")"))) (mView (mCall1 (m__law_number cs) (rSlot 0 (rFz (mVar 4) rNil)))) (wS L b m d found many x7 x8 (.ow (.fz (.lst (WsD (wds part)))))) = .ok (.str (W (41 :: TL.numL k))) (wS L b2 m d found many x7 x8 (.ow (.fz (.lst (WsD (wds part)))))) := op_v (x := .str (Str.ofString ")")) rfl e2 (by
    rw [lit_close]
    exact add_S (by rw [List.length_singleton]; omega))
  have c3 := cat_v (qfz_v (view_v c2)) (qnew_v (lst_o (cons_v o (r := mNil) rfl) (by show 1 ≤ 16777216; decide))) (by rw [List.length_append, List.length_append, WsD_len, WsD_len, List.length_singleton, List.length_singleton]; omega)
  have r := set_o (k := 5) (l := (wS L b2 m d found many x7 x8 (.ow (.fz (.lst (WsD (wds part)))))).sl) c3 (by show 5 < 10; decide)
  have e : WsD (wds found) ++ [.str (Str.ofString "(")] ++ WsD (wds part) ++ [.str (W (41 :: TL.numL k))] = WsD (wds (found ++ [.rp part k])) := by
    rw [wds_app, wds_one, wd, lit_open, WsD_app]
    show _ = WsD (wds found) ++ WsD ([[40]] ++ (wds part ++ [41 :: TL.numL k]))
    rw [WsD_app, WsD_app]
    simp only [List.append_assoc]
    rfl
  rw [e] at r
  exact r
end
/-- what a call of words gives -/
noncomputable def WordsOk (f : List OT → ER OT) (d : Nat) : Prop := ∀ (L : List Nat) (n m : Nat) (b : OT), (∀ c ∈ L, c ∈ letters) → 1 ≤ L.length → L.length ≤ 10 → 1 ≤ m → m ≤ 60 → Bg n b → n + 5 * m + 10 < 2 ^ 64 → ∃ (l : List Nd) (b' : OT), f [b, .fz (.int m), .fz (.int d), .fz (.str (W L)), .fz (.int 1)] = .ok (.ol ((WsD (wds l)).map .fz)) ⟨[], [b', .fz (.int m), .fz (.int d), .fz (.str (W L)), .fz (.int 1)]⟩ ∧ Bg (n + 1 + 5 * (wds l).length) b' ∧ 1 ≤ (wds l).length ∧ (wds l).length ≤ m ∧ noks l ∧ ndps l ≤ d
noncomputable def wI (L : List Nat) (n m d many k : Nat) (sd : SD) : Prop := ∃ b found x7 x8 x9, sd = wS L b m d found many x7 x8 x9 ∧ k = many - (wds found).length ∧ (wds found).length ≤ many ∧ Bg (n + 1 + 5 * (wds found).length) b ∧ noks found ∧ ndps found ≤ d
theorem ws_body (cs : Nat → Addr) (rec : List OT → ER OT) {L : List Nat} {n m d many : Nat} (hL : ∀ c ∈ L, c ∈ letters) (hL1 : 1 ≤ L.length) (hL2 : L.length ≤ 10) (hm : many ≤ m) (hm2 : m ≤ 60) (hn : n + 5 * m + 10 < 2 ^ 64) (hr : ∀ d2, d = d2 + 1 → WordsOk rec d2) {k : Nat} {b : OT} {found : List Nd} {x7 x8 x9 : S} (hk : k = many - (wds found).length) (hf : (wds found).length < many) (hb : Bg (n + 1 + 5 * (wds found).length) b) (ho : noks found) (hdp : ndps found ≤ d) :
    ∃ sd2 k2, k2 < k ∧ m__law_words_b1 cs rec (wS L b m d found many x7 x8 x9) = .nx sd2 ∧ wI L n m d many k2 sd2 := by
  obtain ⟨way, b1, h1, s3⟩ := ws_3 cs rec (L := L) (m := m) (d := d) (many := many) (found := found) (x7 := x7) (x8 := x8) (x9 := x9) hb (by omega)
  have s4 := ws_4 cs rec (L := L) (b := b1) (m := m) (d := d) (x7 := .ow (.fz (.int way))) (x8 := x8) (x9 := x9) hf
  generalize hroom : many - (wds found).length = room at *
  let S1 := wS L b1 m d found many (.ow (.fz (.int way))) (.ow (.fz (.int room))) x9
  have tA : mTest (mOp dEq (mVar 7) (mC (.int 0))) S1 = .ok (decide (way = 0)) S1 := op_t (x := .int way) (y := .int 0) rfl rfl (by unfold dEq; rw [eqB_int]; rfl)
  have tB : mTest (mOp dGt (mVar 2) (mC (.int 0))) S1 = .ok (decide ((0 : Int) < d)) S1 := op_t (x := .int d) (y := .int 0) rfl rfl rfl
  have tC : mTest (mOp dGt (mVar 8) (mC (.int 2))) S1 = .ok (decide ((2 : Int) < room)) S1 := op_t (x := .int room) (y := .int 2) rfl rfl rfl
  have t8 := and_b tA (and_b tB tC)
  unfold m__law_words_b1
  by_cases hc : (decide (way = 0) && (decide ((0 : Int) < d) && decide ((2 : Int) < room))) = true
  · rw [hc] at t8
    simp only [Bool.and_eq_true, decide_eq_true_eq] at hc
    obtain ⟨c1, c2, c3⟩ := hc
    obtain ⟨d2, rfl⟩ : ∃ d2, d = d2 + 1 := ⟨d - 1, by omega⟩
    obtain ⟨part, b2, e, h2, p1, p2, p3, p4⟩ := hr d2 rfl L (n + 1 + 5 * (wds found).length + 1) (room - 2) b1 hL hL1 hL2 (by omega) (by omega) h1 (by omega)
    have a1 : mOp dSub (mVar 8) (mC (.int 2)) S1 = .ok (.int (room - 2 : Nat)) S1 := op_v (x := .int room) (y := .int 2) rfl rfl (by
      show some (D.int ((room : Int) - 2)) = _
      rw [show ((room : Int) - 2) = ((room - 2 : Nat) : Int) by omega])
    have a2 : mOp dSub (mVar 2) (mC (.int 1)) S1 = .ok (.int d2) S1 := op_v (x := .int (d2 + 1 : Nat)) (y := .int 1) rfl rfl (by
      show some (D.int (((d2 + 1 : Nat) : Int) - 1)) = _
      rw [show (((d2 + 1 : Nat) : Int) - 1) = (d2 : Int) by omega])
    have args : (rFz (mOp dSub (mVar 8) (mC (.int 2))) (rFz (mOp dSub (mVar 2) (mC (.int 1))) (rFz (mVar 3) (rFz (mVar 4) rNil)))) S1 = .ok (([.int (room - 2 : Nat), .int d2, .str (W L), .int 1] : List D).map .fz) S1 := rfz_v a1 (rfz_v a2 (rfz_v (ds := [.int 1]) rfl (rfz_v (ds := []) rfl rfl)))
    have cl := call_bags (f := rec) (i := 0) args (t0 := b1) (t := b1) rfl rfl e rfl
    have s5 : m__law_words_5 cs rec S1 = .nx (wS L b2 m (d2 + 1) found many (.ow (.fz (.int way))) (.ow (.fz (.int room))) (.ow (.fz (.lst (WsD (wds part)))))) :=
      set_d (k := 9) (l := (wS L b2 m (d2 + 1) found many (.ow (.fz (.int way))) (.ow (.fz (.int room))) x9).sl) (view_v cl) (by show 9 < 10; decide)
    obtain ⟨k, b3, k1, k2, h3, s6⟩ := ws_6 cs rec (L := L) (m := m) (d := d2 + 1) (many := many) (found := found) (x7 := .ow (.fz (.int way))) (x8 := .ow (.fz (.int room))) (part := part) h2 (by omega) (by omega)
    have s8 : m__law_words_8 cs rec S1 = .nx (wS L b3 m (d2 + 1) (found ++ [.rp part k]) many (.ow (.fz (.int way))) (.ow (.fz (.int room))) (.ow (.fz (.lst (WsD (wds part)))))) := by
      unfold m__law_words_8
      rw [if_b t8, if_pos rfl]
      exact seq_nx s5 s6
    have len : (wds (found ++ [.rp part k])).length = (wds found).length + ((wds part).length + 2) := by
      rw [wds_app, wds_one, wd, List.length_append, List.length_cons, List.length_append, List.length_singleton]
    have pne : part ≠ [] := fun z => by rw [z, wds, List.length_nil] at p1; omega
    refine ⟨_, many - (wds (found ++ [.rp part k])).length, by rw [len]; omega, seq_nx s3 (seq_nx s4 s8), _, _, _, _, _, rfl, rfl, by rw [len]; omega, h3.mono (by rw [len]; omega), (noks_app _ _).mpr ⟨ho, (noks_one _).mpr (by rw [nok]; exact ⟨pne, k1, k2, p3⟩)⟩, by rw [ndps_app, ndps_one, ndp]; omega⟩
  · have hc : (decide (way = 0) && (decide ((0 : Int) < d) && decide ((2 : Int) < room))) = false := by simpa using hc
    rw [hc] at t8
    obtain ⟨c, k, b2, hcl, k1, k2, h2, s7⟩ := ws_7 cs rec (L := L) (m := m) (d := d) (many := many) (found := found) (way := way) (x8 := .ow (.fz (.int room))) (x9 := x9) hL hL1 hL2 h1 (by omega) (by omega)
    have s8 : m__law_words_8 cs rec S1 = .nx (wS L b2 m d (found ++ [.st c k]) many (.ow (.fz (.int way))) (.ow (.fz (.int room))) x9) := by
      unfold m__law_words_8
      rw [if_b t8, if_neg Bool.false_ne_true]
      exact s7
    have len : (wds (found ++ [.st c k])).length = (wds found).length + 1 := by
      rw [wds_app, wds_one, wd, List.length_append, List.length_singleton]
    refine ⟨_, many - (wds (found ++ [.st c k])).length, by rw [len]; omega, seq_nx s3 (seq_nx s4 s8), _, _, _, _, _, rfl, rfl, by rw [len]; omega, h2.mono (by rw [len]; omega), (noks_app _ _).mpr ⟨ho, (noks_one _).mpr (by rw [nok]; exact ⟨hcl, k1, k2⟩)⟩, by rw [ndps_app, ndps_one, ndp]; omega⟩
theorem words_r (cs : Nat → Addr) (rec : List OT → ER OT) {d : Nat} (hr : ∀ d2, d = d2 + 1 → WordsOk rec d2) : WordsOk (m__law_words_r cs rec) d := by
  intro L n m b hL hL1 hL2 hm1 hm2 hb hn
  have ent : ∀ (x y z : Int), entry 10 [.ol [.fz (.int x), .fz (.int y), .fz (.int z)], .fz (.int m), .fz (.int d), .fz (.str (W L)), .fz (.int 1)] = ⟨[.pa 0, .ow (.fz (.int m)), .ow (.fz (.int d)), .ow (.fz (.str (W L))), .ow (.fz (.int 1)), .un, .un, .un, .un, .un], [.ol [.fz (.int x), .fz (.int y), .fz (.int z)], .fz (.int m), .fz (.int d), .fz (.str (W L)), .fz (.int 1)]⟩ := fun _ _ _ => rfl
  have ent : entry 10 [b, .fz (.int m), .fz (.int d), .fz (.str (W L)), .fz (.int 1)] = ⟨[.pa 0, .ow (.fz (.int m)), .ow (.fz (.int d)), .ow (.fz (.str (W L))), .ow (.fz (.int 1)), .un, .un, .un, .un, .un], [b, .fz (.int m), .fz (.int d), .fz (.str (W L)), .fz (.int 1)]⟩ := by
    obtain ⟨x, y, z, rfl, _, _⟩ := hb
    exact ent x y z
  let S0 := fun (x : OT) (x5 x6 : S) => (⟨[.pa 0, .ow (.fz (.int m)), .ow (.fz (.int d)), .ow (.fz (.str (W L))), .ow (.fz (.int 1)), x5, x6, .un, .un, .un], [x, .fz (.int m), .fz (.int d), .fz (.str (W L)), .fz (.int 1)]⟩ : SD)
  have s1 : m__law_words_1 cs rec (S0 b .un .un) = .nx (S0 b (.ow (.ol [])) .un) := rfl
  obtain ⟨v, b1, v0, v1, h1, e⟩ := pick_call cs (a := mVar 1) (i := 0) (sd := S0 b (.ow (.ol [])) .un) (sd1 := S0 b (.ow (.ol [])) .un) (m := m) rfl rfl rfl hb (by omega) (by omega) (by
    have : (2 : Nat) ^ 8000 ≥ 2 ^ 20 := Nat.pow_le_pow_right (by decide) (by decide)
    have : (2 : Nat) ^ 20 = 1048576 := by decide
    omega)
  obtain ⟨many, hmany⟩ : ∃ many : Nat, (many : Int) = 1 + v := ⟨(1 + v).toNat, by omega⟩
  have w0 : wds [] = [] := by rw [wds]
  have s2 : m__law_words_2 cs rec (S0 b (.ow (.ol [])) .un) = .nx (wS L b1 m d [] many .un .un .un) := by
    unfold wS
    rw [w0]
    refine set_d (l := (S0 b1 (.ow (.ol [])) .un).sl) (op_v (x := .int 1) rfl e (z := .int many) ?_) (by show 6 < 10; decide)
    rw [hmany]
    rfl
  obtain ⟨sd', w1, b2, found, x7, x8, x9, rfl, h2, h3, h4, h5⟩ := while_go (c := mTest (mOp dLt (mCall dLen (mCons (mSee 5) (mNil))) (mVar 6))) (body := m__law_words_b1 cs rec) (wI L n m d many) (fun sd => ∃ b found x7 x8 x9, sd = wS L b m d found many x7 x8 x9 ∧ (wds found).length = many ∧ Bg (n + 1 + 5 * (wds found).length) b ∧ noks found ∧ ndps found ≤ d)
    (fun k sd hI => by
      obtain ⟨b, found, x7, x8, x9, rfl, hk, hf, hb, hs, hd⟩ := hI
      have hc := ws_cond (L := L) (b := b) (m := m) (d := d) (many := many) (found := found) (x7 := x7) (x8 := x8) (x9 := x9)
      by_cases hlt : (wds found).length < many
      · rw [decide_eq_true hlt] at hc
        exact .inr ⟨hc, ws_body cs rec hL hL1 hL2 (by omega) hm2 hn hr hk hlt hb hs hd⟩
      · rw [decide_eq_false hlt] at hc
        exact .inl ⟨hc, _, _, _, _, _, rfl, by omega, hb, hs, hd⟩)
    100000 many (wS L b1 m d [] many .un .un .un) ⟨_, _, _, _, _, rfl, by rw [w0]; rfl, by rw [w0]; exact Nat.zero_le _, by rw [w0]; exact h1, by rw [noks]; exact True.intro, by rw [ndps]; exact Nat.zero_le _⟩ (by omega)
  have s9 : m__law_words_9 cs rec (wS L b1 m d [] many .un .un .un) = .nx (wS L b2 m d found many x7 x8 x9) := w1
  refine ⟨found, b2, ?_, h3, by omega, by omega, h4, h5⟩
  unfold m__law_words_r asDef
  rw [ent, seq_nx s1 (seq_nx s2 (seq_nx s9 rfl))]
  rfl
theorem words_ok (cs : Nat → Addr) : ∀ (f d : Nat), d < f → WordsOk (m__law_words cs f) d
  | 0, d, h => by omega
  | f + 1, d, h => by
    have hr : ∀ d2, d = d2 + 1 → WordsOk (m__law_words cs f) d2 := fun d2 e => words_ok cs f d2 (by omega)
    exact words_r cs (m__law_words cs f) hr
noncomputable def revC (c : Nat) : Nat := if c = 102 then 98 else if c = 98 then 102 else if c = 108 then 114 else 108
noncomputable def plainL : List Nat := [102, 98, 108, 114]
mutual
noncomputable def rvN : Nd → Nd
  | .st c n => .st (revC c) n
  | .rp b n => .rp (rvs b) n
noncomputable def rvs : List Nd → List Nd
  | [] => []
  | a :: r => rvs r ++ [rvN a]
end
mutual
noncomputable def plN : Nd → Prop
  | .st c _ => c ∈ plainL
  | .rp b _ => pls b
noncomputable def pls : List Nd → Prop
  | [] => True
  | a :: r => plN a ∧ pls r
end
theorem revC_in {c : Nat} (h : c ∈ plainL) : revC c ∈ letters := (by decide : ∀ c ∈ plainL, revC c ∈ letters) c h
mutual
theorem rvN_ok : ∀ a : Nd, nok a → plN a → nok (rvN a) ∧ ndp (rvN a) = ndp a ∧ (wd (rvN a)).length = (wd a).length
  | .st c n, h, hp => by
    rw [nok] at h
    rw [plN] at hp
    rw [rvN, nok, ndp, ndp, wd, wd]
    exact ⟨⟨revC_in hp, h.2⟩, rfl, rfl⟩
  | .rp b n, h, hp => by
    rw [nok] at h
    rw [plN] at hp
    obtain ⟨h1, h2, h3⟩ := rvs_ok b h.2.2.2 hp
    rw [rvN, nok, ndp, ndp, wd, wd, h2]
    refine ⟨⟨fun z => ?_, h.2.1, h.2.2.1, h1⟩, rfl, ?_⟩
    · cases b with
      | nil => exact h.1 rfl
      | cons a r => rw [rvs] at z; simp at z
    · simp only [List.length_cons, List.length_append, h3]
theorem rvs_ok : ∀ l : List Nd, noks l → pls l → noks (rvs l) ∧ ndps (rvs l) = ndps l ∧ (wds (rvs l)).length = (wds l).length
  | [], h, _ => by rw [rvs]; exact ⟨h, rfl, rfl⟩
  | a :: r, h, hp => by
    rw [noks] at h
    rw [pls] at hp
    obtain ⟨h1, h2, h3⟩ := rvN_ok a h.1 hp.1
    obtain ⟨g1, g2, g3⟩ := rvs_ok r h.2 hp.2
    rw [rvs]
    refine ⟨(noks_app _ _).mpr ⟨g1, (noks_one _).mpr h1⟩, ?_, ?_⟩
    · rw [ndps_app, ndps_one, ndps, h2, g2, Nat.max_comm]
    · rw [wds_app, wds_one, wds, List.length_append, List.length_append, h3, g3, Nat.add_comm]
end
theorem PrOk.rvs {l : List Nd} (h : PrOk l) (hp : pls l) : PrOk (rvs l) := by
  obtain ⟨h1, h2, h3⟩ := rvs_ok l h.ok hp
  exact ⟨h1, by rw [h2]; exact h.dp, by rw [h3]; exact h.len⟩
theorem wd_ne (a : Nd) : wd a ≠ [] := fun z => by
  have := wd_pos a
  rw [z] at this
  exact absurd this (by decide)
theorem rvs_wds : ∀ l : List Nd, wds (rvs l) = (l.reverse.map fun a => wd (rvN a)).flatten
  | [] => rfl
  | a :: r => by
    rw [rvs, wds_app, wds_one, rvs_wds r, List.reverse_cons, List.map_append, List.flatten_append]
    simp
/-- texts joined, each of words joined -/
theorem join_flat : ∀ ps : List (List (List Nat)), (∀ p ∈ ps, p ≠ []) → TL.joinL [32] (ps.map fun p => TL.joinL [32] p) = TL.joinL [32] ps.flatten
  | [], _ => rfl
  | [p], _ => by simp [TL.joinL]
  | p :: q :: r, h => by
    have ih := join_flat (q :: r) fun x hx => h x (List.mem_cons_of_mem _ hx)
    rw [List.flatten_cons, joinL_app p _ (h p (by simp)) (fun z => by
      rw [List.flatten_cons] at z
      exact h q (by simp) (List.append_eq_nil_iff.mp z).1), ← ih]
    rfl
theorem textOf_flat (ps : List (List (List Nat))) (h : ∀ p ∈ ps, p ≠ []) : Txt.join (W [32]) (ps.map textOf) = textOf ps.flatten := TL.ext_tl (by
  rw [TL.join_eq, TL.tl_join, textOf_tl, ← join_flat ps h, List.map_map]
  have : (TL.tl ∘ textOf) = fun p => TL.joinL [32] p := funext fun p => textOf_tl p
  rw [this]
  rfl)
theorem one_text (w : List Nat) : textOf [w] = W w := TL.ext_tl (by rw [textOf_tl]; rfl)
theorem back_kd {c : Nat} (h : c ∈ plainL) : ([(Str.ofString "f", Str.ofString "b"), (Str.ofString "b", Str.ofString "f"), (Str.ofString "l", Str.ofString "r"), (Str.ofString "r", Str.ofString "l")] : List (Str × Str)).lookup (W [c]) = some (W [revC c]) := by
  unfold plainL at h
  simp only [List.mem_cons, List.not_mem_nil, or_false] at h
  rcases h with rfl | rfl | rfl | rfl <;> decide
noncomputable def tx (a : Nd) : Str := textOf (wd (rvN a))
noncomputable def rvS (ns : List D) (found : List Str) (x2 x3 : S) : SD := ⟨[.ow (.fz (.tup ns)), .ow (.ol ((found.map D.str).map .fz)), x2, x3], [.fz (.tup ns)]⟩
theorem app_S {m : SD → ER D} {ns : List D} {found : List Str} {x2 x3 : S} {t : Str} (h : m (rvS ns found x2 x3) = .ok (.str t) (rvS ns found x2 x3)) (hl : found.length ≤ 2000) : sApp 1 (mOwn m) (rvS ns found x2 x3) = .nx (rvS ns (found ++ [t]) x2 x3) := by
  unfold sApp
  have t0 : (rvS ns found x2 x3).tree 1 = some (.ol ((found.map D.str).map .fz)) := rfl
  rw [t0]
  simp only
  rw [own_v h]
  show (if ((found.map D.str).map OT.fz).length < 16777216 then Fl.nx ((rvS ns found x2 x3).put 1 (.ol ((found.map D.str).map OT.fz ++ [.fz (.str t)]))) else .bad) = _
  rw [if_pos (by rw [List.length_map, List.length_map]; omega)]
  have : (found.map D.str).map OT.fz ++ [.fz (.str t)] = ((found ++ [t]).map D.str).map .fz := by simp
  rw [this]
  rfl
theorem num_S {n : Nat} (h : n ≤ 1000000000000000000000000000000) : dStr1 [.int (n : Int)] = some (.str (W (TL.numL n))) := str_num (Nat.lt_of_le_of_lt h (Nat.lt_of_lt_of_le (m := 2 ^ 100) (by decide) (Nat.pow_le_pow_right (by decide) (by decide))))
theorem strs_of : ∀ l : List Str, strsOf (l.map D.str) = some l
  | [] => rfl
  | s :: r => by
    rw [List.map_cons, strsOf, strs_of r]
    rfl
theorem tx_len {l : List Nd} (h : noks l) (hp : pls l) (hl : (wds l).length ≤ 1000) {a : Nd} (ha : a ∈ l) : (tx a).length ≤ 41000 := by
  have hpa : plN a := by
    clear hl h
    induction l with
    | nil => cases ha
    | cons b r ih =>
      rw [pls] at hp
      rcases List.mem_cons.mp ha with rfl | q
      · exact hp.1
      · exact ih hp.2 q
  obtain ⟨h1, h2, h3⟩ := rvN_ok a (mem_nok h ha) hpa
  have := mem_wd ha
  have := textOf_len (ws := wd (rvN a)) (by
    have := wds_wlen [rvN a] ((noks_one _).mpr h1)
    rw [wds_one] at this
    exact this)
  unfold tx
  omega
theorem mem_pl {l : List Nd} (hp : pls l) {a : Nd} (ha : a ∈ l) : plN a := by
  induction l with
  | nil => cases ha
  | cons b r ih =>
    rw [pls] at hp
    rcases List.mem_cons.mp ha with rfl | q
    · exact hp.1
    · exact ih hp.2 q
theorem sum_tx (N : Nat) : ∀ l : List Str, (∀ s ∈ l, s.length ≤ N) → (l.map (·.length)).sum ≤ N * l.length
  | [], _ => Nat.zero_le _
  | s :: r, h => by
    have := h s (by simp)
    have ih := sum_tx N r fun x hx => h x (List.mem_cons_of_mem _ hx)
    rw [List.map_cons, List.sum_cons, List.length_cons, Nat.mul_succ]
    omega
theorem rev_ok (cs : Nat → Addr) : ∀ (f : Nat) (l : List Nd), noks l → pls l → ndps l < f → (wds l).length ≤ 300 → m_reversed_text cs f [.fz (.tup (encs l))] = .ok (.fz (.str (textOf (wds (rvs l))))) ⟨[], [.fz (.tup (encs l))]⟩
  | 0, l, _, _, hd, _ => by omega
  | f + 1, l, h, hp, hd, hl => by
    have hll := len_wds l
    have ent : entry 4 [.fz (.tup (encs l))] = ⟨[.ow (.fz (.tup (encs l))), .un, .un, .un], [.fz (.tup (encs l))]⟩ := rfl
    have s1 : m_reversed_text_1 cs (m_reversed_text cs f) ⟨[.ow (.fz (.tup (encs l))), .un, .un, .un], [.fz (.tup (encs l))]⟩ = .nx (rvS (encs l) [] .un .un) := rfl
    have hit : iTuP (mBack (mVar 0) (oSome (mUn dNeg (mC (.int 1))))) (rvS (encs l) [] .un .un) = .ok (l.reverse.map enc) (rvS (encs l) [] .un .un) := by
      rw [List.map_reverse, ← encs_map]
      rfl
    obtain ⟨sd', s5, hI⟩ := sFor_inv (g := tgT 2 (tgCons (tgN 2) (tgCons (tgN 3) (tgNil)))) (body := m_reversed_text_b1 cs (m_reversed_text cs f)) l.reverse enc (fun r sd => ∃ done x2 x3, l.reverse = done ++ r ∧ sd = rvS (encs l) (done.map tx) x2 x3) hit ⟨[], .un, .un, rfl, rfl⟩ fun a r sd hI => by
      obtain ⟨done, x2, x3, e, rfl⟩ := hI
      have ha : a ∈ l := by
        have : a ∈ l.reverse := by rw [e]; simp
        exact List.mem_reverse.mp this
      have dl : done.length ≤ 2000 := by
        have := congrArg List.length e
        rw [List.length_reverse, List.length_append] at this
        omega
      have ok := mem_nok h ha
      have pl := mem_pl hp ha
      have dp := mem_ndp ha
      have ww := mem_wd ha
      have nxt : ∀ {x2 x3 : S}, ∃ done' x2' x3', l.reverse = done' ++ r ∧ rvS (encs l) (done.map tx ++ [tx a]) x2 x3 = rvS (encs l) (done'.map tx) x2' x3' := fun {x2 x3} => ⟨done ++ [a], x2, x3, by rw [e]; simp, by rw [List.map_append]; rfl⟩
      have tle := tx_len h hp (by omega) ha
      cases a with
      | st c n =>
        rw [nok] at ok
        rw [plN] at pl
        let S1 := rvS (encs l) (done.map tx) (.ow (.fz (.str (W [c])))) (.ow (.fz (.int n)))
        have t4 : mTest (mCall dIsi (mCons (mVar 2) (mCons (mC (.ty "str")) mNil))) S1 = .ok true S1 := rfl
        have k1 : mKd [(Str.ofString "f", Str.ofString "b"), (Str.ofString "b", Str.ofString "f"), (Str.ofString "l", Str.ofString "r"), (Str.ofString "r", Str.ofString "l")] (mVar 2) S1 = .ok (.str (W [revC c])) S1 := by
          show ER.opt ((([(Str.ofString "f", Str.ofString "b"), (Str.ofString "b", Str.ofString "f"), (Str.ofString "l", Str.ofString "r"), (Str.ofString "r", Str.ofString "l")] : List (Str × Str)).lookup (W [c])).map D.str) S1 = _
          rw [back_kd pl]
          rfl
        have t : mTest (mOp dGt (mVar 3) (mC (.int 1))) S1 = .ok (decide ((1 : Int) < n)) S1 := op_t (x := .int n) rfl rfl rfl
        have nl := lw_len ok.2.2
        have k2 : mIf (mTest (mOp dGt (mVar 3) (mC (.int 1)))) (mCall dStr1 (mCons (mVar 3) mNil)) (mC (.str (Str.ofString ""))) S1 = .ok (.str (W (if n = 1 then [] else TL.numL n))) S1 := by
          unfold mIf
          rw [t]
          by_cases h1 : n = 1
          · rw [if_pos h1]
            show (if decide ((1 : Int) < n) = true then _ else _) = _
            rw [if_neg (by rw [h1]; decide), lit_nil]
            rfl
          · rw [if_neg h1]
            show (if decide ((1 : Int) < n) = true then _ else _) = _
            rw [if_pos (decide_eq_true (by omega))]
            exact call_v (cons_v (a := mVar 3) (x := .int n) rfl rfl) (num_S ok.2.2)
        have e1 : tx (.st c n) = W ([revC c] ++ (if n = 1 then [] else TL.numL n)) := by
          unfold tx
          rw [rvN, wd, one_text]
          rfl
        have o := op_v (f := dAdd) k1 k2 (add_S (by rw [List.length_singleton]; omega))
        rw [← e1] at o
        refine ⟨S1, rvS (encs l) (done.map tx ++ [tx (.st c n)]) (.ow (.fz (.str (W [c])))) (.ow (.fz (.int n))), by rw [enc]; rfl, .inl ?_, nxt⟩
        unfold m_reversed_text_b1 m_reversed_text_4
        rw [if_b t4, if_pos rfl]
        exact app_S o (by rw [List.length_map]; exact dl)
      | rp b n =>
        rw [nok] at ok
        rw [plN] at pl
        rw [ndp] at dp
        rw [wd, List.length_cons, List.length_append, List.length_singleton] at ww
        let S1 := rvS (encs l) (done.map tx) (.ow (.fz (.tup (encs b)))) (.ow (.fz (.int n)))
        have t4 : mTest (mCall dIsi (mCons (mVar 2) (mCons (mC (.ty "str")) mNil))) S1 = .ok false S1 := rfl
        have ih := rev_ok cs f b ok.2.2.2 pl (by omega) (by omega)
        have r1 := call1_v (a := mVar 2) (sd := S1) (x := .tup (encs b)) rfl ih
        obtain ⟨g1, g2, g3⟩ := rvs_ok b ok.2.2.2 pl
        have bne : wds (rvs b) ≠ [] := fun z => by
          rw [z] at g3
          have := len_wds b
          cases b with
          | nil => exact ok.1 rfl
          | cons _ _ => rw [List.length_nil] at g3; rw [List.length_cons] at this; omega
        have tl := textOf_len (wds_wlen (rvs b) g1)
        have nl := TL.numL_len (n := n) (k := 31) (by decide) (by omega)
        have o1 := op_v (f := dAdd) (a := mC (.str (Str.ofString "( "))) rfl r1 (dAdd_S (by rw [lit_o2, W_len]; simp; omega))
        have o2 := op_v (f := dAdd) (b := mC (.str (Str.ofString " )"))) o1 rfl (dAdd_S (by rw [len_cat, lit_o2, lit_c3, W_len, W_len]; simp; omega))
        have o3 := op_v (f := dAdd) o2 (call_v (cons_v (a := mVar 3) (x := .int n) rfl (r := mNil) rfl) (num_S ok.2.2.1)) (dAdd_S (by rw [len_cat, len_cat, lit_o2, lit_c3, W_len, W_len, W_len]; simp; omega))
        have e1 : tx (.rp b n) = Str.ofString "( " ++ textOf (wds (rvs b)) ++ Str.ofString " )" ++ W (TL.numL n) := by
          unfold tx
          rw [rvN, wd, lit_o2, lit_c3, textOf_rp bne]
        rw [← e1] at o3
        refine ⟨S1, rvS (encs l) (done.map tx ++ [tx (.rp b n)]) (.ow (.fz (.tup (encs b)))) (.ow (.fz (.int n))), by rw [enc]; rfl, .inl ?_, nxt⟩
        unfold m_reversed_text_b1 m_reversed_text_4
        rw [if_b t4, if_neg Bool.false_ne_true]
        exact app_S o3 (by rw [List.length_map]; exact dl)
    obtain ⟨done, x2, x3, e, rfl⟩ := hI
    rw [List.append_nil] at e
    subst e
    have see : mSee 1 (rvS (encs l) (l.reverse.map tx) x2 x3) = .ok (.lst ((l.reverse.map tx).map D.str)) (rvS (encs l) (l.reverse.map tx) x2 x3) := by
      show ER.ok (OT.view (.ol _)) _ = _
      rw [OT.view, views_fz]
    have hs := sum_tx 41000 (l.reverse.map tx) fun s hs => by
      obtain ⟨a, ha, rfl⟩ := List.mem_map.mp hs
      exact tx_len h hp (by omega) (List.mem_reverse.mp ha)
    rw [List.length_map, List.length_reverse] at hs
    have j : dJoin (.str (Str.ofString " ")) [.lst ((l.reverse.map tx).map D.str)] = some (.str (textOf (wds (rvs l)))) := by
      show (strsOf ((l.reverse.map tx).map D.str)).bind (fun ys => if (ys.map (·.length)).sum + ys.length * (Str.ofString " ").length ≤ 16777216 then some (D.str (Txt.join (Str.ofString " ") ys)) else none) = _
      rw [strs_of]
      show (if ((l.reverse.map tx).map (·.length)).sum + (l.reverse.map tx).length * (Str.ofString " ").length ≤ 16777216 then some (D.str (Txt.join (Str.ofString " ") (l.reverse.map tx))) else none) = _
      rw [if_pos (by rw [show (Str.ofString " ").length = 1 from rfl, List.length_map, List.length_reverse]; omega), lit_sp, rvs_wds]
      have := textOf_flat (l.reverse.map fun a => wd (rvN a)) fun p hp => by
        obtain ⟨a, _, rfl⟩ := List.mem_map.mp hp
        exact wd_ne _
      rw [List.map_map] at this
      rw [← this]
      rfl
    have s6 : m_reversed_text_6 cs (m_reversed_text cs f) (rvS (encs l) (l.reverse.map tx) x2 x3) = .rt (.fz (.str (textOf (wds (rvs l))))) (rvS (encs l) (l.reverse.map tx) x2 x3) := by
      refine ret_d ?_
      unfold mBm
      show (if D.isS (.str (Str.ofString " ")) = true then ER.bind (mCons (mSee 1) mNil (rvS (encs l) (l.reverse.map tx) x2 x3)) (fun ds sd2 => ER.opt (dJoin (.str (Str.ofString " ")) ds) sd2) else ER.bad) = _
      rw [if_pos (show D.isS (.str (Str.ofString " ")) = true from rfl), cons_v (r := mNil) see rfl]
      show ER.opt (dJoin (.str (Str.ofString " ")) [.lst ((l.reverse.map tx).map D.str)]) _ = _
      rw [j]
      rfl
    show m_reversed_text_r cs (m_reversed_text cs f) _ = _
    unfold m_reversed_text_r asDef
    rw [ent, seq_nx s1 (seq_nx (show m_reversed_text_5 cs (m_reversed_text cs f) _ = _ from s5) s6)]
    rfl
theorem mem_join {c : Nat} : ∀ {ws : List (List Nat)} {w : List Nat}, w ∈ ws → c ∈ w → c ∈ TL.joinL [32] ws
  | [p], w, h, hc => by rw [List.mem_singleton.mp h] at hc; exact hc
  | p :: q :: r, w, h, hc => by
    show c ∈ p ++ ([32] ++ TL.joinL [32] (q :: r))
    rcases List.mem_cons.mp h with rfl | h
    · exact List.mem_append_left _ hc
    · exact List.mem_append_right _ (List.mem_append_right _ (mem_join h hc))
mutual
theorem plN_of : ∀ a : Nd, nok a → (∀ w ∈ wd a, 117 ∉ w ∧ 100 ∉ w) → plN a
  | .st c n, h, hw => by
    rw [nok] at h
    rw [wd] at hw
    have := hw (lw c n) (by simp)
    rw [plN]
    have hc : c ∈ lw c n := by unfold lw; exact List.mem_cons_self
    have n1 : c ≠ 117 := fun z => this.1 (z ▸ hc)
    have n2 : c ≠ 100 := fun z => this.2 (z ▸ hc)
    have := h.1
    unfold letters at this
    unfold plainL
    simp only [List.mem_cons, List.not_mem_nil, or_false] at this ⊢
    omega
  | .rp b n, h, hw => by
    rw [nok] at h
    rw [wd] at hw
    rw [plN]
    exact pls_of b h.2.2.2 fun w hm => hw w (List.mem_cons_of_mem _ (List.mem_append_left _ hm))
theorem pls_of : ∀ l : List Nd, noks l → (∀ w ∈ wds l, 117 ∉ w ∧ 100 ∉ w) → pls l
  | [], _, _ => by rw [pls]; exact True.intro
  | a :: r, h, hw => by
    rw [noks] at h
    rw [wds] at hw
    rw [pls]
    exact ⟨plN_of a h.1 fun w hm => hw w (List.mem_append_left _ hm), pls_of r h.2 fun w hm => hw w (List.mem_append_right _ hm)⟩
end
/-- does it move the pen? -/
noncomputable def hasB (c : Nat) (l : List Nd) : Bool := decide (c ∈ TL.joinL [32] (wds l))
theorem in_text (l : List Nd) {s : String} {c : Nat} (hs : Str.ofString s = W [c]) : dIn false (.str (Str.ofString s)) (.str (textOf (wds l))) = some (.bl (hasB c l)) := by
  show some (D.bl (inS (Str.ofString s) (textOf (wds l)) != false)) = _
  rw [hs, inS_W]
  have : (textOf (wds l)).cps.toList = TL.joinL [32] (wds l) := textOf_tl (wds l)
  rw [this]
  unfold hasB
  cases decide (c ∈ TL.joinL [32] (wds l)) <;> rfl
theorem lit_u : Str.ofString "u" = W [117] := lit_ _ _ rfl
theorem lit_d : Str.ofString "d" = W [100] := lit_ _ _ rfl
theorem no_pen {l : List Nd} (h : noks l) (h1 : hasB 117 l = false) (h2 : hasB 100 l = false) : pls l := pls_of l h fun w hw => by
  unfold hasB at h1 h2
  exact ⟨fun z => of_decide_eq_false h1 (mem_join hw z), fun z => of_decide_eq_false h2 (mem_join hw z)⟩
theorem fld_nodes (cs : Nat → Addr) {l : List Nd} {a : SD → ER D} {sd sd1 : SD} (h : a sd = .ok (PD cs l) sd1) : mFld (fun C => C == (cs 0)) "own_nodes" a sd = .ok (.tup (encs l)) sd1 := by
  unfold mFld
  rw [h]
  simp [PD, ER.bind, fldD, ER.opt, n_text_nodes, n_words_nodes]
noncomputable def ivS (cs : Nat → Addr) (l : List Nd) : SD := ⟨[.ow (.fz (PD cs l))], [.fz (PD cs l)]⟩
theorem inv_t (cs : Nat → Addr) (l : List Nd) : mOr (mTest (mOp (dIn false) (mC (.str (Str.ofString "u"))) (mFld (fun C => C == (cs 0)) "own_text" (mVar 0)))) (mTest (mOp (dIn false) (mC (.str (Str.ofString "d"))) (mFld (fun C => C == (cs 0)) "own_text" (mVar 0)))) (ivS cs l) = .ok (hasB 117 l || hasB 100 l) (ivS cs l) := by
  have f := fld_text cs (l := l) (a := mVar 0) (sd := ivS cs l) (sd1 := ivS cs l) rfl
  exact or_b (op_t (a := mC (.str (Str.ofString "u"))) rfl f (in_text l lit_u)) (op_t (a := mC (.str (Str.ofString "d"))) rfl f (in_text l lit_d))
theorem inv_pen (cs : Nat → Addr) {l : List Nd} (h : (hasB 117 l || hasB 100 l) = true) : m_Program___invert__ cs [.fz (PD cs l)] = .rz (xH cs) ⟨[], [.fz (PD cs l)]⟩ := by
  have ent : entry 1 [.fz (PD cs l)] = ivS cs l := rfl
  have t := inv_t cs l
  rw [h] at t
  have s2 : m_Program___invert___2 cs (ivS cs l) = .rz (xH cs) (ivS cs l) := by
    unfold m_Program___invert___2
    exact (if_b t).trans rfl
  unfold m_Program___invert__ asDef
  rw [ent]
  unfold sSeq
  rw [s2]
  rfl
theorem inv_ok (cs : Nat → Addr) {l : List Nd} (hp : PrOk l) (hl : (wds l).length ≤ 300) (h : (hasB 117 l || hasB 100 l) = false) : ∃ sd, m_Program___invert__ cs [.fz (PD cs l)] = .ok (PO cs (rvs l)) sd := by
  have ent : entry 1 [.fz (PD cs l)] = ivS cs l := rfl
  have t := inv_t cs l
  rw [h] at t
  have hpl := no_pen hp.ok (Bool.or_eq_false_iff.mp h).1 (Bool.or_eq_false_iff.mp h).2
  have s2 : m_Program___invert___2 cs (ivS cs l) = .nx (ivS cs l) := by
    unfold m_Program___invert___2
    exact (if_b t).trans rfl
  have f := fld_nodes cs (l := l) (a := mVar 0) (sd := ivS cs l) (sd1 := ivS cs l) rfl
  have r := call1_v f (rev_ok cs 16 l hp.ok hpl (by have := hp.dp; omega) hl)
  have pm := prog_make cs (hp.rvs hpl) (a := mCons (mView (mCall0 (m_reversed_text cs 16) (mCons (mFld (fun C => C == (cs 0)) "own_nodes" (mVar 0)) mNil))) mNil) (cons_v r (r := mNil) rfl)
  have s3 : m_Program___invert___3 cs (ivS cs l) = .rt (PO cs (rvs l)) (ivS cs l) := by
    unfold m_Program___invert___3 sRet
    rw [pm]
    rfl
  refine ⟨⟨[], (ivS cs l).pa⟩, ?_⟩
  unfold m_Program___invert__ asDef
  rw [ent, seq_nx s2 s3]
theorem way2 (cs : Nat → Addr) {a : List Nd} {d : D} {x3 x4 x5 : S} : mIf (mTest (mOp dEq (mVar 0) (mC (.int 2)))) (mView (mOwn1 (cs 0) (m_Program___invert__ cs) (mVar 1))) (mIf (mTest (mOp dEq (mVar 0) (mC (.int 0)))) (mView (mOwn2 (cAny (cs 0)) (m_Program___add__ cs) (mVar 1) (mVar 2))) (mView (mOwn2 (cAny (cs 0)) (m_Program___mul__ cs) (mVar 1) (mVar 2)))) (tS 2 (PD cs a) d x3 x4 x5) = (callFz (m_Program___invert__ cs) [PD cs a] (tS 2 (PD cs a) d x3 x4 x5)).bind fun t sd1 => .ok t.view sd1 := by
  have e : mView (mOwn1 (cs 0) (m_Program___invert__ cs) (mVar 1)) (tS 2 (PD cs a) d x3 x4 x5) = (callFz (m_Program___invert__ cs) [PD cs a] (tS 2 (PD cs a) d x3 x4 x5)).bind fun t sd1 => .ok t.view sd1 := by
    unfold mView mOwn1
    show ER.bind (if (PD cs a).isIns (cs 0) = true then callFz (m_Program___invert__ cs) [PD cs a] (tS 2 (PD cs a) d x3 x4 x5) else .bad) _ = _
    rw [if_pos (prog_isIns cs a)]
  rw [← e]
  rfl
theorem told_inv (cs : Nat → Addr) (hc : CsOk cs) {l : List Nd} (hp : PrOk l) (hl : (wds l).length ≤ 300) : m__law_told cs [.fz (.int 2), .fz (PD cs l), .fz .non] = .ok (.fz (.str (if (hasB 117 l || hasB 100 l) = true then "HasPen" else "fine"))) ⟨[], [.fz (.int 2), .fz (PD cs l), .fz .non]⟩ := by
  by_cases h : (hasB 117 l || hasB 100 l) = true
  · rw [if_pos h]
    exact told_rz cs hc (say_H cs) ((t2_of cs (way2 cs)).2 _ (callFz_rz (inv_pen cs h)))
  · rw [if_neg h]
    obtain ⟨sd, e⟩ := inv_ok cs hp hl (by simpa using h)
    exact told_fine cs (l := rvs l) ((t2_of cs (way2 cs)).1 _ (callFz_ok (t := PO cs (rvs l)) e))
noncomputable abbrev iv (i : Int) : S := .ow (.fz (.int i))
theorem strsOf_ws : ∀ ws : List (List Nat), strsOf (WsD ws) = some (ws.map W)
  | [] => rfl
  | w :: r => by
    show (strsOf (D.str (W w) :: WsD r)) = _
    rw [strsOf, strsOf_ws r]
    rfl
theorem sum_le (L : Nat) : ∀ ws : List (List Nat), (∀ w ∈ ws, w.length ≤ L) → ((ws.map W).map (·.length)).sum ≤ L * ws.length
  | [], _ => Nat.zero_le _
  | w :: r, h => by
    have := h w (by simp)
    have ih := sum_le L r fun x hx => h x (List.mem_cons_of_mem _ hx)
    rw [List.map_cons, List.map_cons, List.sum_cons, W_len, List.length_cons, Nat.mul_succ]
    omega
theorem join_v {a : SD → ER D} {sd sd1 : SD} {L N : Nat} {ws : List (List Nat)} (ha : a sd = .ok (.lst (WsD ws)) sd1) (h : ∀ w ∈ ws, w.length ≤ L) (hN : ws.length ≤ N) (hl : (L + 1) * N ≤ 16000000) : mBm D.isS dJoin (mC (.str (Str.ofString " "))) (mCons a mNil) sd = .ok (.str (textOf ws)) sd1 := by
  have hm : (L + 1) * ws.length ≤ (L + 1) * N := Nat.mul_le_mul_left _ hN
  rw [Nat.succ_mul] at hm
  have hs := sum_le L ws h
  have j : dJoin (.str (Str.ofString " ")) [.lst (WsD ws)] = some (.str (textOf ws)) := by
    show (strsOf (WsD ws)).bind (fun ys => if (ys.map (·.length)).sum + ys.length * (Str.ofString " ").length ≤ 16777216 then some (D.str (Txt.join (Str.ofString " ") ys)) else none) = _
    rw [strsOf_ws]
    show (if ((ws.map W).map (·.length)).sum + (ws.map W).length * (Str.ofString " ").length ≤ 16777216 then some (D.str (Txt.join (Str.ofString " ") (ws.map W))) else none) = _
    rw [if_pos (by rw [List.length_map, show (Str.ofString " ").length = 1 from rfl]; omega), lit_sp]
    rfl
  unfold mBm
  show (if D.isS (.str (Str.ofString " ")) = true then ER.bind (mCons a mNil sd) (fun ds sd2 => ER.opt (dJoin (.str (Str.ofString " ")) ds) sd2) else ER.bad) = _
  rw [if_pos (show D.isS (.str (Str.ofString " ")) = true from rfl), cons_v (r := mNil) ha rfl]
  show ER.opt (dJoin (.str (Str.ofString " ")) [.lst (WsD ws)]) sd1 = _
  rw [j]
  rfl
/-- one thing many times -/
theorem rep_v {a : SD → ER OT} {b : SD → ER D} {sd sd1 sd2 : SD} {w : List Nat} {k : Nat} (ha : a sd = .ok (.ol ((WsD [w]).map .fz)) sd1) (hb : b sd1 = .ok (.int k) sd2) (hk : k ≤ 5000) : mRepO a b sd = .ok (.ol ((WsD (List.replicate k w)).map .fz)) sd2 := by
  unfold mRepO
  rw [ha]
  simp only [ER.bind]
  rw [hb]
  show (if (0 : Int) ≤ (k : Int) ∧ (k : Int) < 2 ^ 63 ∧ ([D.str (W w)]).length * (k : Int).toNat ≤ 16777216 then ER.ok (OT.ol ((List.replicate (k : Int).toNat [D.str (W w)]).flatten.map .fz)) sd2 else .bad) = _
  rw [if_pos ⟨by omega, by omega, by rw [List.length_singleton, Int.toNat_natCast]; omega⟩, Int.toNat_natCast]
  have : ∀ k, (List.replicate k [D.str (W w)]).flatten = WsD (List.replicate k w) := fun k => by
    induction k with
    | zero => rfl
    | succ k ih =>
      rw [List.replicate_succ, List.flatten_cons, ih, List.replicate_succ]
      rfl
  rw [this]
theorem pick_fz (cs : Nat → Addr) {n i : Nat} {a : SD → ER D} {sd sd1 : SD} {t t0 : OT} {m : Nat} (ha : a sd = .ok (.int m) sd1) (h0 : sd.tree i = some t0) (h1 : sd1.tree i = some t) (hb : Bg n t) (hn : n < 2 ^ 64) (hm : 0 < m) (hm2 : m ≤ 5000) : ∃ (v : Nat) (t' : OT), v < m ∧ Bg (n + 1) t' ∧ mView (mCall1 (m__law_pick cs) (rSlot i (rFz a rNil))) sd = .ok (.int v) (sd1.put i t') := by
  obtain ⟨v, t', v0, v1, b', e⟩ := pick_call cs ha h0 h1 hb hn (by omega) (by
    have : (2 : Nat) ^ 8000 ≥ 2 ^ 20 := Nat.pow_le_pow_right (by decide) (by decide)
    have : (2 : Nat) ^ 20 = 1048576 := by decide
    omega)
  obtain ⟨u, rfl⟩ : ∃ u : Nat, v = (u : Int) := ⟨v.toNat, by omega⟩
  exact ⟨u, t', by omega, b', e⟩
theorem one_v {s : String} {w : List Nat} {sd : SD} (h : Str.ofString s = W w) : mLst (mCons (mC (.str (Str.ofString s))) mNil) sd = .ok (.ol ((WsD [w]).map .fz)) sd := by
  rw [lst_o (a := mCons (mC (.str (Str.ofString s))) mNil) (sd1 := sd) (xs := [.str (Str.ofString s)]) rfl (by show 1 ≤ 16777216; decide), h]
  rfl
noncomputable def many (c k : Nat) : List Nd := List.replicate k (.st c 1)
theorem many_wds (c : Nat) : ∀ k, wds (many c k) = List.replicate k [c]
  | 0 => by rw [show many c 0 = [] from rfl, wds]; rfl
  | k + 1 => by
    rw [show many c (k + 1) = .st c 1 :: many c k from rfl, wds, wd, many_wds c k]
    rfl
theorem many_ok {c : Nat} (hc : c ∈ letters) : ∀ k, noks (many c k) ∧ ndps (many c k) = 0
  | 0 => by rw [show many c 0 = [] from rfl, noks, ndps]; exact ⟨True.intro, rfl⟩
  | k + 1 => by
    obtain ⟨h1, h2⟩ := many_ok hc k
    rw [show many c (k + 1) = .st c 1 :: many c k from rfl, noks, nok, ndps, ndp, h2]
    exact ⟨⟨⟨hc, by omega, by omega⟩, h1⟩, rfl⟩
theorem many_pr {c k : Nat} (hc : c ∈ letters) (hk : k ≤ 1000) : PrOk (many c k) := ⟨(many_ok hc k).1, by rw [(many_ok hc k).2]; decide, by rw [many_wds, List.length_replicate]; exact hk⟩
theorem many_len (c k : Nat) : (wds (many c k)).length = k := by rw [many_wds, List.length_replicate]
/-- ( ( .. f .. )2 )2 -/
noncomputable def nest : Nat → List Nd
  | 0 => [.st 102 1]
  | k + 1 => [.rp (nest k) 2]
theorem nest_wds : ∀ k, wds (nest k) = List.replicate k [40] ++ [[102]] ++ List.replicate k [41, 50]
  | 0 => rfl
  | k + 1 => by
    have e : TL.numL 2 = [50] := TL.numL_lt (by decide)
    rw [nest, wds_one, wd, nest_wds k, e, List.replicate_succ, List.replicate_succ' (n := k) (a := [41, 50])]
    simp
theorem nest_ok : ∀ k, noks (nest k) ∧ ndps (nest k) = k ∧ nest k ≠ []
  | 0 => by rw [nest, noks_one, nok, ndps_one, ndp]; exact ⟨⟨by decide, by omega, by omega⟩, rfl, by simp⟩
  | k + 1 => by
    obtain ⟨h1, h2, h3⟩ := nest_ok k
    rw [nest, noks_one, nok, ndps_one, ndp, h2]
    exact ⟨⟨h3, by omega, by omega, h1⟩, by omega, by simp⟩
theorem nest_len (k : Nat) : (wds (nest k)).length = 2 * k + 1 := by
  rw [nest_wds]
  simp only [List.length_append, List.length_replicate, List.length_cons, List.length_nil]
  omega
theorem nest_pr {k : Nat} (hk : k ≤ 12) : PrOk (nest k) := ⟨(nest_ok k).1, by rw [(nest_ok k).2.1]; exact hk, by rw [nest_len]; omega⟩
/-- a program of words joined -/
theorem prog_v (cs : Nat → Addr) {l : List Nd} (h : PrOk l) {a : SD → ER D} {sd sd1 : SD} (ha : a sd = .ok (.str (textOf (wds l))) sd1) : mView (mMake (cs 0) (m_Program___init__ cs) (mCons a mNil)) sd = .ok (PD cs l) sd1 := by
  have := prog_make cs h (cons_v ha (r := mNil) rfl)
  unfold mView
  rw [show mMake (cs 0) (m_Program___init__ cs) (mCons a mNil) sd = _ from this]
  rfl
theorem wlen40 {l : List Nd} (h : PrOk l) : ∀ w ∈ wds l, w.length ≤ 40 := wds_wlen l h.ok
theorem join_l {a : SD → ER D} {sd sd1 : SD} {l : List Nd} (h : PrOk l) (ha : a sd = .ok (.lst (WsD (wds l))) sd1) : mBm D.isS dJoin (mC (.str (Str.ofString " "))) (mCons a mNil) sd = .ok (.str (textOf (wds l))) sd1 := join_v (L := 40) (N := 1000) ha (wlen40 h) h.len (by decide)
theorem str_ne (a b : Str) : dNe (.str a) (.str b) = some (.bl (!decide (a = b))) := by
  unfold dNe
  rw [eqB_str]
  rfl
/-- told as it is due -/
theorem told_ne (cs : Nat → Addr) {w : Int} {a b : SD → ER D} {c : SD → ER D} {sd s2 : SD} {one other : D} {s : Str} (ha : a sd = .ok one sd) (hb : b sd = .ok other sd) (ht : m__law_told cs [.fz (.int w), .fz one, .fz other] = .ok (.fz (.str s)) s2) (hs : c sd = .ok (.str s) sd) : mTest (mOp dNe (mView (mCall0 (m__law_told cs) (mCons (mC (.int w)) (mCons a (mCons b mNil))))) c) sd = .ok false sd := by
  have := call3_v (f := m__law_told cs) (a := mC (.int w)) (sd := sd) rfl ha hb ht
  exact op_t this hs (by rw [str_ne, decide_eq_true rfl]; rfl)
theorem ins_PD (cs : Nat → Addr) (l : List Nd) : ((PD cs l).isIns (cs 0) || (PD cs l).isBlt) = true := by
  rw [show (PD cs l).isIns (cs 0) = true from prog_isIns cs l]
  rfl
noncomputable def zS (b : OT) (x : List S) : SD := ⟨.pa 0 :: x, [b]⟩
theorem lenO_v (cs : Nat → Addr) {l : List Nd} (hl : (wds l).length ≤ 1000) {a : SD → ER D} {sd : SD} (ha : a sd = .ok (PD cs l) sd) : mLenO (cs 0) (m_Program___len__ cs) (mCons a mNil) sd = .ok (.int (wds l).length) sd := by
  have ent : entry 1 [.fz (PD cs l)] = ivS cs l := rfl
  have e : m_Program___len__ cs [.fz (PD cs l)] = .ok (.fz (.int (wds l).length)) ⟨[], [.fz (PD cs l)]⟩ := by
    have s1 : m_Program___len___1 cs (ivS cs l) = .rt (.fz (.int (wds l).length)) (ivS cs l) := ret_d (words_len cs (l := l) (a := mVar 0) (sd := ivS cs l) rfl)
    unfold m_Program___len__ asDef
    rw [ent, s1]
    rfl
  unfold mLenO
  rw [cons_v ha (r := mNil) rfl]
  simp only [ER.bind]
  simp [prog_isIns, callFzQ, callFz, e]
  omega
theorem ws_py : ∀ l : List (List Nat), D.pys (WsD l) = some (l.map fun w => PyData.str (W w))
  | [] => by rw [show WsD [] = [] from rfl, D.pys]; rfl
  | c :: r => by rw [show WsD (c :: r) = D.str (W c) :: WsD r from rfl, D.pys, ws_py r, D.py]; rfl
theorem ws_lay : ∀ l : List (List Nat), (∀ w ∈ l, ∀ c ∈ w, c < 200) → PyData.canLayAll0 (l.map fun w => PyData.str (W w)) = true
  | [], _ => by rw [List.map_nil, PyData.canLayAll0]
  | c :: r, h => by
    rw [List.map_cons, PyData.canLayAll0, ws_lay r fun w hw => h w (List.mem_cons_of_mem _ hw), PyData.canLay0, Bool.and_true]
    have h := h c (by simp)
    show PyData.strOk (W c) = true
    unfold PyData.strOk
    rw [show (W c).cps = c.toArray from rfl]
    simp only [List.all_toArray, List.all_eq_true, decide_eq_true_eq]
    intro x hx
    have := h x hx
    omega
theorem ws_dep : ∀ l : List (List Nat), PyData.depthAll (l.map fun w => PyData.str (W w)) = 0
  | [] => by rw [List.map_nil, PyData.depthAll]
  | c :: r => by rw [List.map_cons, PyData.depthAll, ws_dep r, PyData.depth]; rfl
theorem ws_same : ∀ l : List (List Nat), PyData.eqvAll (l.map fun w => PyData.str (W w)) (l.map fun w => PyData.str (W w)) = true
  | [] => by rw [List.map_nil, PyData.eqvAll]
  | c :: r => by
    rw [List.map_cons, PyData.eqvAll, ws_same r, Bool.and_true]
    simp [PyData.eqv]
theorem eq_WsD {l : List (List Nat)} (h : ∀ w ∈ l, ∀ c ∈ w, c < 200) : dEq (.lst (WsD l)) (.lst (WsD l)) = some (.bl true) := by
  have e : dEqB (.lst (WsD l)) (.lst (WsD l)) = match (D.lst (WsD l)).py, (D.lst (WsD l)).py with
    | some p, some q => if (SeqAt.shaped p && SeqAt.shaped q) = true then some (PyData.eqv p q) else none
    | _, _ => none := rfl
  have q1 : (D.lst (WsD l)).py = some (.list (l.map fun w => PyData.str (W w))) := by rw [D.py, ws_py]; rfl
  have q3 : SeqAt.shaped (.list (l.map fun w => PyData.str (W w))) = true := by
    unfold SeqAt.shaped
    rw [PyData.canLay0, ws_lay _ h, PyData.depth, ws_dep]; rfl
  unfold dEq
  rw [e, q1]
  dsimp only
  rw [q3, PyData.eqv, ws_same]
  rfl
theorem fine_or (p : Prop) [Decidable p] {a b : Str} {c : SD → ER Bool} {sd : SD} {v : Bool} (hc : c sd = .ok v sd) (h : v = decide p) : mIf c (mC (.str a)) (mC (.str b)) sd = .ok (.str (if p then a else b)) sd := by
  unfold mIf
  rw [hc, h]
  by_cases q : p
  · rw [if_pos q]
    show (if decide p = true then _ else _) = _
    rw [if_pos (decide_eq_true q)]
    rfl
  · rw [if_neg q]
    show (if decide p = true then _ else _) = _
    rw [if_neg (by simpa using q)]
    rfl
theorem sizes_right (cs : Nat → Addr) (hc : CsOk cs) {n : Nat} {b : OT} (hb : Bg n b) (hn : n + 10 < 2 ^ 64) : ∃ b', Bg (n + 4) b' ∧ m__law_sizes_right cs [b] = .ok (.fz (.bl true)) ⟨[], [b']⟩ := by
  have ent : entry 10 [b] = zS b [.un, .un, .un, .un, .un, .un, .un, .un, .un] := by
    obtain ⟨x, y, z, rfl, _, _⟩ := hb
    rfl
  have wf : Str.ofString "f" = W [102] := lit_ _ _ rfl
  have wl : Str.ofString "l" = W [108] := lit_ _ _ rfl
  have wc : Str.ofString ")2" = W [41, 50] := lit_ _ _ rfl
  have f1 : (102 : Nat) ∈ letters := by decide
  have f2 : (108 : Nat) ∈ letters := by decide
  -- one, other
  obtain ⟨v, b1, d1, hb1, e1⟩ := pick_fz cs (a := mC (.int 20)) (i := 0) (sd := zS b [.un, .un, .un, .un, .un, .un, .un, .un, .un]) (sd1 := zS b [.un, .un, .un, .un, .un, .un, .un, .un, .un]) (m := 20) rfl rfl rfl hb (by omega) (by decide) (by decide)
  obtain ⟨M, hM⟩ : ∃ M : Nat, M = 490 + v := ⟨_, rfl⟩
  have s1 : m__law_sizes_right_1 cs (zS b [.un, .un, .un, .un, .un, .un, .un, .un, .un]) = .nx (zS b1 [iv M, .un, .un, .un, .un, .un, .un, .un, .un]) := by
    refine set_d (l := (zS b1 [.un, .un, .un, .un, .un, .un, .un, .un, .un]).sl) (op_v (x := .int 490) (z := .int M) rfl e1 ?_) (by show 1 < 10; decide)
    show some (D.int (490 + (v : Int))) = _
    rw [show (490 + (v : Int)) = (M : Int) by omega]
  let one := PD cs (many 102 M)
  have hp1 : PrOk (many 102 M) := many_pr f1 (by omega)
  have r1 := rep_v (one_v (sd := zS b1 [iv M, .un, .un, .un, .un, .un, .un, .un, .un]) wf) (b := mVar 1) (k := M) rfl (by omega)
  rw [← many_wds 102 M] at r1
  have s2 : m__law_sizes_right_2 cs (zS b1 [iv M, .un, .un, .un, .un, .un, .un, .un, .un]) = .nx (zS b1 [iv M, .ow (.fz one), .un, .un, .un, .un, .un, .un, .un]) :=
    set_d (k := 2) (l := (zS b1 [iv M, .un, .un, .un, .un, .un, .un, .un, .un]).sl) (prog_v cs hp1 (join_l hp1 (view_v r1))) (by show 2 < 10; decide)
  obtain ⟨u, b2, d2, hb2, e2⟩ := pick_fz cs (a := mC (.int 3)) (i := 0) (sd := zS b1 [iv M, .ow (.fz one), .un, .un, .un, .un, .un, .un, .un]) (sd1 := zS b1 [iv M, .ow (.fz one), .un, .un, .un, .un, .un, .un, .un]) (m := 3) rfl rfl rfl hb1 (by omega) (by decide) (by decide)
  obtain ⟨M2, hM2⟩ : ∃ M2 : Nat, M2 = 1000 - M + u := ⟨_, rfl⟩
  have o2 := op_v (f := dAdd) (a := mOp dSub (mC (.int 1000)) (mVar 1)) (sd := zS b1 [iv M, .ow (.fz one), .un, .un, .un, .un, .un, .un, .un]) (x := .int (1000 - (M : Int))) rfl e2 (z := .int M2) (by
    show some (D.int (1000 - (M : Int) + u)) = _
    rw [show (1000 - (M : Int) + u) = (M2 : Int) by omega])
  let other := PD cs (many 108 M2)
  have hp2 : PrOk (many 108 M2) := many_pr f2 (by omega)
  have r2 := rep_v (one_v (sd := zS b1 [iv M, .ow (.fz one), .un, .un, .un, .un, .un, .un, .un]) wl) o2 (k := M2) (by omega)
  rw [← many_wds 108 M2] at r2
  have s3 : m__law_sizes_right_3 cs (zS b1 [iv M, .ow (.fz one), .un, .un, .un, .un, .un, .un, .un]) = .nx (zS b2 [iv M, .ow (.fz one), .ow (.fz other), .un, .un, .un, .un, .un, .un]) :=
    set_d (k := 3) (l := (zS b2 [iv M, .ow (.fz one), .un, .un, .un, .un, .un, .un, .un]).sl) (prog_v cs hp2 (join_l hp2 (view_v r2))) (by show 3 < 10; decide)
  let due : Str := if M + M2 < 1001 then "fine" else "TooLarge 1000"
  have s4 : m__law_sizes_right_4 cs (zS b2 [iv M, .ow (.fz one), .ow (.fz other), .un, .un, .un, .un, .un, .un]) = .nx (zS b2 [iv M, .ow (.fz one), .ow (.fz other), .ow (.fz (.str due)), .un, .un, .un, .un, .un]) := by
    refine set_d (l := (zS b2 [iv M, .ow (.fz one), .ow (.fz other), .un, .un, .un, .un, .un, .un]).sl) (fine_or (M + M2 < 1001) (v := decide (M + M2 < 1001)) ?_ rfl) (by show 4 < 10; decide)
    have w1 := lenO_v cs (l := many 102 M) (by rw [many_len]; omega) (a := mVar 2) (sd := zS b2 [iv M, .ow (.fz one), .ow (.fz other), .un, .un, .un, .un, .un, .un]) rfl
    have w2 := lenO_v cs (l := many 108 M2) (by rw [many_len]; omega) (a := mVar 3) (sd := zS b2 [iv M, .ow (.fz one), .ow (.fz other), .un, .un, .un, .un, .un, .un]) rfl
    rw [many_len] at w1 w2
    exact op_t (b := mC (.int 1001)) (op_v (f := dAdd) w1 w2 (z := .int ((M : Int) + M2)) rfl) rfl (by
      show some (D.bl (decide ((M : Int) + M2 < 1001))) = _
      rw [decide_eq_decide.mpr (show ((M : Int) + M2 < 1001) ↔ M + M2 < 1001 by omega)])
  have tw : ∀ (c d p q : Nat), c ∈ letters → d ∈ letters → PrOk (many c p) → PrOk (many d q) → p + q = M + M2 → ∃ s2, m__law_told cs [.fz (.int 0), .fz (PD cs (many c p)), .fz (PD cs (many d q))] = .ok (.fz (.str due)) s2 := fun c d p q hcl hdl h1 h2 hs => by
    by_cases hl : M + M2 < 1001
    · obtain ⟨sd, e⟩ := prog_add cs h1 h2 (by rw [many_len, many_len]; omega)
      exact ⟨_, by rw [show due = Str.ofString "fine" from if_pos hl]; exact told_add_ok cs (ins_PD cs _) e⟩
    · exact ⟨_, by rw [show due = Str.ofString "TooLarge 1000" from if_neg hl]; exact told_add_rz cs hc (say_L cs) (ins_PD cs _) (add_big cs _ _ (by rw [many_len, many_len]; omega))⟩
  obtain ⟨sa, ta⟩ := tw 102 108 M M2 f1 f2 hp1 hp2 rfl
  obtain ⟨sb, tb⟩ := tw 108 102 M2 M f2 f1 hp2 hp1 (by omega)
  generalize hZ6 : zS b2 [iv M, .ow (.fz one), .ow (.fz other), .ow (.fz (.str due)), .un, .un, .un, .un, .un] = z6 at s4
  have s6 : m__law_sizes_right_6 cs z6 = .nx z6 := by
    have q1 := told_ne cs (a := mVar 2) (b := mVar 3) (c := mVar 4) (sd := z6) (by rw [← hZ6]; rfl) (by rw [← hZ6]; rfl) ta (by rw [← hZ6]; rfl)
    have q2 := told_ne cs (a := mVar 3) (b := mVar 2) (c := mVar 4) (sd := z6) (by rw [← hZ6]; rfl) (by rw [← hZ6]; rfl) tb (by rw [← hZ6]; rfl)
    unfold m__law_sizes_right_6
    exact (if_b (or_r q1 q2)).trans rfl
  -- a long one
  obtain ⟨y, b3, d3, hb3, e3⟩ := pick_fz cs (a := mC (.int 5)) (i := 0) (sd := z6) (sd1 := z6) (m := 5) rfl (t0 := b2) (t := b2) (by rw [← hZ6]; rfl) (by rw [← hZ6]; rfl) hb2 (by omega) (by decide) (by decide)
  obtain ⟨Z, hZ⟩ : ∃ Z : Nat, Z = 996 + y := ⟨_, rfl⟩
  let Z7 := fun (x5 x6 x7 x8 x9 : S) => zS b3 [iv M, .ow (.fz one), .ow (.fz other), .ow (.fz (.str due)), x5, x6, x7, x8, x9]
  have s7 : m__law_sizes_right_7 cs z6 = .nx (Z7 (iv Z) .un .un .un .un) := by
    subst hZ6
    refine set_d (l := (Z7 .un .un .un .un .un).sl) (op_v (x := .int 996) (z := .int Z) rfl e3 ?_) (by show 5 < 10; decide)
    show some (D.int (996 + (y : Int))) = _
    rw [show (996 + (y : Int)) = (Z : Int) by omega]
  have hp3 : PrOk (many 102 Z) := many_pr f1 (by omega)
  have r3 := rep_v (one_v (sd := Z7 (iv Z) .un .un .un .un) wf) (b := mVar 5) (k := Z) rfl (by omega)
  rw [← many_wds 102 Z] at r3
  have s8 : m__law_sizes_right_8 cs (Z7 (iv Z) .un .un .un .un) = .nx (Z7 (iv Z) (.ow (.fz (PD cs (many 102 Z)))) .un .un .un) :=
    set_d (k := 6) (l := (Z7 (iv Z) .un .un .un .un).sl) (prog_v cs hp3 (join_l hp3 (view_v r3))) (by show 6 < 10; decide)
  have ne3 : many 102 Z ≠ [] := fun q => by
    have := congrArg List.length q
    unfold many at this
    rw [List.length_replicate, List.length_nil] at this
    omega
  have s10 : m__law_sizes_right_10 cs (Z7 (iv Z) (.ow (.fz (PD cs (many 102 Z)))) .un .un .un) = .nx (Z7 (iv Z) (.ow (.fz (PD cs (many 102 Z)))) .un .un .un) := by
    have t : ∃ s2, m__law_told cs [.fz (.int 1), .fz (PD cs (many 102 Z)), .fz (.int (2 : Nat))] = .ok (.fz (.str (if Z < 999 then Str.ofString "fine" else Str.ofString "TooLarge 1000"))) s2 := by
      by_cases hl : Z < 999
      · obtain ⟨sd, e⟩ := prog_mul cs hp3 (n := 2) (by omega) (by omega) (by rw [many_len]; omega) (by rw [(many_ok f1 Z).2]; decide)
        exact ⟨_, by rw [if_pos hl]; exact told_mul_ok cs rfl e⟩
      · exact ⟨_, by rw [if_neg hl]; exact told_mul_rz cs hc (say_L cs) rfl (mul_big cs hp3 ne3 (by omega) (by omega) (by rw [many_len]; omega))⟩
    obtain ⟨s2, t⟩ := t
    have q := told_ne cs (a := mVar 6) (b := mC (.int (2 : Nat))) (sd := Z7 (iv Z) (.ow (.fz (PD cs (many 102 Z)))) .un .un .un) rfl rfl t (fine_or (Z < 999) (c := mTest (mOp dLt (mVar 5) (mC (.int 999)))) (v := decide (Z < 999)) (op_t (x := .int Z) rfl rfl (by
      show some (D.bl (decide ((Z : Int) < 999))) = _
      rw [decide_eq_decide.mpr (show ((Z : Int) < 999) ↔ Z < 999 by omega)])) rfl)
    unfold m__law_sizes_right_10
    exact (if_b q).trans rfl
  -- a deep one
  obtain ⟨x, b4, d4, hb4, e4⟩ := pick_fz cs (a := mC (.int 3)) (i := 0) (sd := Z7 (iv Z) (.ow (.fz (PD cs (many 102 Z)))) .un .un .un) (sd1 := Z7 (iv Z) (.ow (.fz (PD cs (many 102 Z)))) .un .un .un) (m := 3) rfl rfl rfl hb3 (by omega) (by decide) (by decide)
  obtain ⟨K, hK⟩ : ∃ K : Nat, K = 10 + x := ⟨_, rfl⟩
  let Z8 := fun (x7 x8 x9 : S) => zS b4 [iv M, .ow (.fz one), .ow (.fz other), .ow (.fz (.str due)), iv Z, .ow (.fz (PD cs (many 102 Z))), x7, x8, x9]
  have s11 : m__law_sizes_right_11 cs (Z7 (iv Z) (.ow (.fz (PD cs (many 102 Z)))) .un .un .un) = .nx (Z8 (iv K) .un .un) := by
    refine set_d (l := (Z8 .un .un .un).sl) (op_v (x := .int 10) (z := .int K) rfl e4 ?_) (by show 7 < 10; decide)
    show some (D.int (10 + (x : Int))) = _
    rw [show (10 + (x : Int)) = (K : Int) by omega]
  have s12 : m__law_sizes_right_12 cs (Z8 (iv K) .un .un) = .nx (Z8 (iv K) (.ow (.fz (.lst (WsD (wds (nest K)))))) .un) := by
    have p1 := rep_v (one_v (sd := Z8 (iv K) .un .un) (s := "(") lit_open) (b := mVar 7) (k := K) rfl (by omega)
    have p3 := rep_v (one_v (sd := Z8 (iv K) .un .un) wc) (b := mVar 7) (k := K) rfl (by omega)
    have c1 := cat_v (qnew_v p1) (qnew_v (one_v (sd := Z8 (iv K) .un .un) wf)) (by rw [WsD_len, WsD_len, List.length_replicate]; show K + 1 ≤ _; omega)
    have c2 := cat_v (qnew_v c1) (qnew_v p3) (by rw [List.length_append, WsD_len, WsD_len, WsD_len, List.length_replicate, List.length_replicate]; show K + 1 + K ≤ _; omega)
    rw [← WsD_app, ← WsD_app, ← nest_wds] at c2
    exact set_d (k := 8) (l := (Z8 (iv K) .un .un).sl) (view_v c2) (by show 8 < 10; decide)
  have hp4 : PrOk (nest K) := nest_pr (by omega)
  have s14 : m__law_sizes_right_14 cs (Z8 (iv K) (.ow (.fz (.lst (WsD (wds (nest K)))))) .un) = .nx (Z8 (iv K) (.ow (.fz (.lst (WsD (wds (nest K)))))) .un) := by
    have t : ∃ s2, m__law_told cs [.fz (.int 1), .fz (PD cs (nest K)), .fz (.int (1000000000000000000000000000000 : Nat))] = .ok (.fz (.str (if K < 12 then Str.ofString "fine" else Str.ofString "TooDeep 12"))) s2 := by
      by_cases hl : K < 12
      · obtain ⟨sd, e⟩ := prog_mul cs hp4 (n := 1000000000000000000000000000000) (by decide) (by decide) (by rw [nest_len]; omega) (by rw [(nest_ok K).2.1]; omega)
        exact ⟨_, by rw [if_pos hl]; exact told_mul_ok cs rfl e⟩
      · exact ⟨_, by rw [if_neg hl]; exact told_mul_rz cs hc (say_D cs) rfl (mul_deep cs hp4 (nest_ok K).2.2 (by decide) (by decide) (by rw [nest_len]; omega) (by rw [(nest_ok K).2.1]; omega))⟩
    obtain ⟨s2, t⟩ := t
    have pv := prog_v cs hp4 (join_l hp4 (a := mVar 8) (sd := Z8 (iv K) (.ow (.fz (.lst (WsD (wds (nest K)))))) .un) (sd1 := Z8 (iv K) (.ow (.fz (.lst (WsD (wds (nest K)))))) .un) rfl)
    have pw : mOp dPow (mC (.int 10)) (mC (.int 30)) (Z8 (iv K) (.ow (.fz (.lst (WsD (wds (nest K)))))) .un) = .ok (.int (1000000000000000000000000000000 : Nat)) (Z8 (iv K) (.ow (.fz (.lst (WsD (wds (nest K)))))) .un) := op_v rfl rfl (p10 (k := 30) (by decide))
    have q := told_ne cs pv pw t (fine_or (K < 12) (c := mTest (mOp dLt (mVar 7) (mC (.int 12)))) (v := decide (K < 12)) (op_t (x := .int K) rfl rfl (by
      show some (D.bl (decide ((K : Int) < 12))) = _
      rw [decide_eq_decide.mpr (show ((K : Int) < 12) ↔ K < 12 by omega)])) rfl)
    unfold m__law_sizes_right_14
    exact (if_b q).trans rfl
  -- both
  let bo := nest K ++ many 102 (998 - (2 * K + 1) + 1)
  have hbw : wds bo = wds (nest K) ++ List.replicate (998 - (2 * K + 1) + 1) [102] := by rw [wds_app, many_wds]
  have hbl : (wds bo).length = 999 := by rw [hbw, List.length_append, nest_len, List.length_replicate]; omega
  have hp5 : PrOk bo := ⟨(noks_app _ _).mpr ⟨hp4.ok, (many_ok f1 _).1⟩, by rw [ndps_app, (nest_ok K).2.1, (many_ok f1 _).2]; omega, by rw [hbl]; decide⟩
  have ne5 : bo ≠ [] := fun q => by
    rw [q, wds, List.length_nil] at hbl
    cases hbl
  have s15 : m__law_sizes_right_15 cs (Z8 (iv K) (.ow (.fz (.lst (WsD (wds (nest K)))))) .un) = .nx (Z8 (iv K) (.ow (.fz (.lst (WsD (wds (nest K)))))) (.ow (.fz (PD cs bo)))) := by
    have ln : mCall dLen (mCons (mVar 8) mNil) (Z8 (iv K) (.ow (.fz (.lst (WsD (wds (nest K)))))) .un) = .ok (.int (2 * K + 1 : Nat)) (Z8 (iv K) (.ow (.fz (.lst (WsD (wds (nest K)))))) .un) := call_v (cons_v (a := mVar 8) rfl rfl) (by
      show some (D.int (WsD (wds (nest K))).length) = _
      rw [WsD_len, nest_len])
    have o := op_v (f := dAdd) (b := mC (.int 1)) (op_v (f := dSub) (a := mC (.int 998)) rfl ln (z := .int (998 - ((2 * K + 1 : Nat) : Int))) rfl) rfl (z := .int (998 - (2 * K + 1) + 1 : Nat)) (by
      show some (D.int (998 - ((2 * K + 1 : Nat) : Int) + 1)) = _
      rw [show (998 - ((2 * K + 1 : Nat) : Int) + 1) = ((998 - (2 * K + 1) + 1 : Nat) : Int) by omega])
    have p := rep_v (one_v wf) o (by omega)
    have c := cat_v (a := qFz (mVar 8)) (sd := Z8 (iv K) (.ow (.fz (.lst (WsD (wds (nest K)))))) .un) (sd1 := Z8 (iv K) (.ow (.fz (.lst (WsD (wds (nest K)))))) .un) (xs := WsD (wds (nest K))) rfl (qnew_v p) (by rw [WsD_len, WsD_len, nest_len, List.length_replicate]; omega)
    rw [← WsD_app, ← hbw] at c
    exact set_d (k := 9) (l := (Z8 (iv K) (.ow (.fz (.lst (WsD (wds (nest K)))))) .un).sl) (prog_v cs hp5 (join_l hp5 (view_v c))) (by show 9 < 10; decide)
  generalize hZ9 : Z8 (iv K) (.ow (.fz (.lst (WsD (wds (nest K)))))) (.ow (.fz (PD cs bo))) = z9 at s15
  have v9 : mVar 9 z9 = .ok (PD cs bo) z9 := by rw [← hZ9]; rfl
  have s17 : m__law_sizes_right_17 cs z9 = .nx z9 := by
    have t := told_mul_rz cs hc (say_L cs) (a := bo) (d := .int (5 : Nat)) rfl (mul_big cs hp5 ne5 (n := 5) (by decide) (by decide) (by omega))
    have q := told_ne cs (b := mC (.int (5 : Nat))) (c := mC (.str (Str.ofString "TooLarge 1000"))) v9 rfl t rfl
    unfold m__law_sizes_right_17
    exact (if_b q).trans rfl
  have s18 : m__law_sizes_right_18 cs z9 = .rt (.fz (.bl true)) z9 := by
    obtain ⟨sd1, e1⟩ := mul_one cs hp5
    obtain ⟨sd0, e0⟩ := mul_zero cs bo
    have t1 := told_mul_ok cs (a := bo) (d := .int (1 : Nat)) rfl e1
    have t0 := told_mul_ok cs (a := bo) (d := .int (0 : Nat)) rfl e0
    have tb := told_mul_rz cs hc (say_N cs) (a := bo) (d := .bl true) rfl (mul_no cs bo ⟨_, in_range_no cs (isI_bl cs true) 0 1000000000000000000000000000000⟩)
    have c1 := call3_v (f := m__law_told cs) (a := mC (.int 1)) (c := mC (.int (1 : Nat))) rfl v9 rfl t1
    have c0 := call3_v (f := m__law_told cs) (a := mC (.int 1)) (c := mC (.int (0 : Nat))) rfl v9 rfl t0
    have cb := call3_v (f := m__law_told cs) (a := mC (.int 1)) (c := mC (.bl true)) rfl v9 rfl tb
    have l := lst_v (cons_v c1 (cons_v c0 (cons_v cb (r := mNil) rfl))) (by decide)
    have k1 : Str.ofString "fine" = W [102, 105, 110, 101] := lit_ _ _ rfl
    have k2 : Str.ofString "InvalidTimes" = W [73, 110, 118, 97, 108, 105, 100, 84, 105, 109, 101, 115] := lit_ _ _ rfl
    have q := eq_WsD (l := [[102, 105, 110, 101], [102, 105, 110, 101], [73, 110, 118, 97, 108, 105, 100, 84, 105, 109, 101, 115]]) (by decide)
    rw [show WsD [[102, 105, 110, 101], [102, 105, 110, 101], [73, 110, 118, 97, 108, 105, 100, 84, 105, 109, 101, 115]] = [.str (Str.ofString "fine"), .str (Str.ofString "fine"), .str (Str.ofString "InvalidTimes")] by rw [k1, k2]; rfl] at q
    exact ret_d (op_v (f := dEq) l (y := .lst [.str (Str.ofString "fine"), .str (Str.ofString "fine"), .str (Str.ofString "InvalidTimes")]) rfl q)
  refine ⟨b4, hb4, ?_⟩
  unfold m__law_sizes_right asDef
  rw [ent, seq_nx s1 (seq_nx s2 (seq_nx s3 (seq_nx s4 (seq_nx s6 (seq_nx s7 (seq_nx s8 (seq_nx s10 (seq_nx s11 (seq_nx s12 (seq_nx s14 (seq_nx s15 (seq_nx s17 s18)))))))))))), ← hZ9]
  rfl
noncomputable def lS (ns : List Int) (x1 x2 x3 x4 x5 x6 : S) : SD := ⟨[.ow (.fz (.scr ns)), x1, x2, x3, x4, x5, x6], [.fz (.scr ns)]⟩
theorem cut_mem {k : Nat} {ns : List Int} {d : D} (h : d ∈ cutL (ns.map D.int) none (some (k : Int))) : ∃ i, d = .int i := by
  unfold cutL at h
  have h2 := List.mem_of_mem_drop (List.mem_of_mem_take h)
  obtain ⟨i, _, e⟩ := List.mem_map.mp h2
  exact ⟨i, e.symm⟩
/-- what is no program, what is no number of times -/
noncomputable def BadP (cs : Nat → Addr) (d : D) : Prop := d.isBlt = true ∧ NoP cs d
noncomputable def BadN (cs : Nat → Addr) (d : D) : Prop := (d.isIns (cs 0) || d.isBlt) = true ∧ ∃ sd, m_in_range cs [.fz d, .fz (.int 0), .fz (.int 1000000000000000000000000000000)] = .ok (.fz (.bl false)) sd
theorem told_badP (cs : Nat → Addr) (hc : CsOk cs) (l : List Nd) {d : D} (h : BadP cs d) : m__law_told cs [.fz (.int 0), .fz (PD cs l), .fz d] = .ok (.fz (.str "InvalidProgram")) ⟨[], [.fz (.int 0), .fz (PD cs l), .fz d]⟩ :=
  told_add_rz cs hc (say_P cs) (by rw [h.1, Bool.or_true]) (add_no cs l h.2)
theorem told_badN (cs : Nat → Addr) (hc : CsOk cs) (l : List Nd) {d : D} (h : BadN cs d) : m__law_told cs [.fz (.int 1), .fz (PD cs l), .fz d] = .ok (.fz (.str "InvalidTimes")) ⟨[], [.fz (.int 1), .fz (PD cs l), .fz d]⟩ :=
  told_mul_rz cs hc (say_N cs) h.1 (mul_no cs l h.2)
theorem badN_int (cs : Nat → Addr) {z : Int} (h : ¬ (0 ≤ z ∧ z ≤ 1000000000000000000000000000000)) : BadN cs (.int z) := ⟨rfl, _, by
  rw [in_range_ok cs z 0 1000000000000000000000000000000]
  have : (decide ((0 : Int) ≤ z) && decide (z ≤ 1000000000000000000000000000000)) = false := by
    rw [Bool.and_eq_false_iff, decide_eq_false_iff_not, decide_eq_false_iff_not]
    by_cases q : (0 : Int) ≤ z
    · exact .inr fun w => h ⟨q, w⟩
    · exact .inl q
  rw [this]⟩
theorem badN_no (cs : Nat → Addr) {d : D} (h1 : (d.isIns (cs 0) || d.isBlt) = true) (h : IsI cs d false) : BadN cs d := ⟨h1, _, in_range_no cs h 0 1000000000000000000000000000000⟩
theorem isI_PD (cs : Nat → Addr) (l : List Nd) : IsI cs (PD cs l) false := isI_no cs (by
  obtain ⟨t, ht⟩ := prog_tyv cs l
  show (if ("int" : String) = "int" then ((PD cs l).tyv (okC cs)).map (fun _ => D.bl false) else none) = _
  rw [if_pos rfl, ht]
  rfl)
section
variable (cs : Nat → Addr) (hc : CsOk cs) {ns : List Int} {x1 x2 x3 x4 x5 x6 : S}
include hc
theorem empty_v {sd : SD} : mView (mMake (cs 0) (m_Program___init__ cs) (mCons (mC (.str (Str.ofString ""))) mNil)) sd = .ok (PD cs []) sd := prog_v cs PrOk.nil (by rw [wds, textOf_nil, ← lit_nil]; rfl)
theorem two_v {w : Int} {l : List Nd} {d : D} {s : String} {sd : SD} (h1 : mVar 5 sd = .ok (PD cs l) sd) (h2 : mVar 6 sd = .ok d sd) (ht : ∀ l, m__law_told cs [.fz (.int w), .fz (PD cs l), .fz d] = .ok (.fz (.str (Str.ofString s))) ⟨[], [.fz (.int w), .fz (PD cs l), .fz d]⟩) : mOr (mTest (mOp dNe (mView (mCall0 (m__law_told cs) (mCons (mC (.int w)) (mCons (mVar 5) (mCons (mVar 6) (mNil)))))) (mC (.str (Str.ofString s))))) (mTest (mOp dNe (mView (mCall0 (m__law_told cs) (mCons (mC (.int w)) (mCons (mView (mMake (cs 0) (m_Program___init__ cs) (mCons (mC (.str (Str.ofString ""))) (mNil)))) (mCons (mVar 6) (mNil)))))) (mC (.str (Str.ofString s))))) sd = .ok false sd :=
  or_r (told_ne cs h1 h2 (ht l) rfl) (told_ne cs (empty_v cs hc) h2 (ht []) rfl)
theorem law_9 {b : OT} {wl : List D} {l : List Nd} (hw : wl.length ≤ 1000) : ∃ y6, m_law_9 cs (lS ns x1 (.ow b) x3 (.ow (.fz (.lst wl))) (.ow (.fz (PD cs l))) x6) = .nx (lS ns x1 (.ow b) x3 (.ow (.fz (.lst wl))) (.ow (.fz (PD cs l))) y6) := by
  have l1 := lst_v (xs := [.non, .str (Str.ofString "f"), .str (Str.ofString ""), .int 0, .int 1, .bl true, .lst [.str (Str.ofString "f")], .tup [.str (Str.ofString "f")], .dic false [] [], .lst wl]) (a := mCons (mC .non) (mCons (mC (.str (Str.ofString "f"))) (mCons (mC (.str (Str.ofString ""))) (mCons (mC (.int 0)) (mCons (mC (.int 1)) (mCons (mC (.bl true)) (mCons (mView (mLst (mCons (mC (.str (Str.ofString "f"))) (mNil)))) (mCons (mTup (mCons (mC (.str (Str.ofString "f"))) (mNil))) (mCons (mDict0) (mCons (mVar 4) (mNil)))))))))))
    (sd := lS ns x1 (.ow b) x3 (.ow (.fz (.lst wl))) (.ow (.fz (PD cs l))) x6) (sd1 := lS ns x1 (.ow b) x3 (.ow (.fz (.lst wl))) (.ow (.fz (PD cs l))) x6) rfl (by show 10 ≤ 16777216; decide)
  have hl : ∀ d ∈ ([.non, .str (Str.ofString "f"), .str (Str.ofString ""), .int 0, .int 1, .bl true, .lst [.str (Str.ofString "f")], .tup [.str (Str.ofString "f")], .dic false [] [], .lst wl] : List D), BadP cs d := by
    have go : ∀ {d : D}, d.isBlt = true → ((d.tyv (okC cs)).map fun _ => D.bl (d.isIns (cs 0))) = some (.bl false) → BadP cs d := fun {d} h1 h2 => ⟨h1, by
      show (if cs 0 = cs 0 then (d.tyv (okC cs)).map (fun _ => D.bl (d.isIns (cs 0))) else none) = _
      rw [if_pos rfl]
      exact h2⟩
    intro d hd
    simp only [List.mem_cons, List.not_mem_nil, or_false] at hd
    rcases hd with h | h | h | h | h | h | h | h | h | h <;> subst h <;> exact go rfl rfl
  obtain ⟨sd', w, hI⟩ := sFor_inv (it := iLst (mView (mLst (mCons (mC .non) (mCons (mC (.str (Str.ofString "f"))) (mCons (mC (.str (Str.ofString ""))) (mCons (mC (.int 0)) (mCons (mC (.int 1)) (mCons (mC (.bl true)) (mCons (mView (mLst (mCons (mC (.str (Str.ofString "f"))) (mNil)))) (mCons (mTup (mCons (mC (.str (Str.ofString "f"))) (mNil))) (mCons (mDict0) (mCons (mVar 4) (mNil)))))))))))))) (g := tgN 6) (body := m_law_b1 cs) (sd := lS ns x1 (.ow b) x3 (.ow (.fz (.lst wl))) (.ow (.fz (PD cs l))) x6) ([.non, .str (Str.ofString "f"), .str (Str.ofString ""), .int 0, .int 1, .bl true, .lst [.str (Str.ofString "f")], .tup [.str (Str.ofString "f")], .dic false [] [], .lst wl] : List D) (fun d => d)
    (fun r sd => (∀ d ∈ r, BadP cs d) ∧ ∃ y6, sd = lS ns x1 (.ow b) x3 (.ow (.fz (.lst wl))) (.ow (.fz (PD cs l))) y6) (by
      unfold iLst
      rw [l1]
      rfl) ⟨hl, _, rfl⟩ fun d r sd hI => by
      obtain ⟨hr, y6, rfl⟩ := hI
      refine ⟨lS ns x1 (.ow b) x3 (.ow (.fz (.lst wl))) (.ow (.fz (PD cs l))) (.ow (.fz d)), lS ns x1 (.ow b) x3 (.ow (.fz (.lst wl))) (.ow (.fz (PD cs l))) (.ow (.fz d)), rfl, .inl ?_, fun e he => hr e (List.mem_cons_of_mem _ he), _, rfl⟩
      have q := two_v cs hc (w := 0) (l := l) (d := d) (s := "InvalidProgram") (sd := lS ns x1 (.ow b) x3 (.ow (.fz (.lst wl))) (.ow (.fz (PD cs l))) (.ow (.fz d))) rfl rfl fun l => told_badP cs hc l (hr d List.mem_cons_self)
      unfold m_law_b1 m_law_8
      exact (if_b q).trans rfl
  obtain ⟨_, y6, rfl⟩ := hI
  exact ⟨y6, w⟩
theorem law_12 {b : OT} {wl : List D} {l : List Nd} : ∃ y6, m_law_12 cs (lS ns x1 (.ow b) x3 (.ow (.fz (.lst wl))) (.ow (.fz (PD cs l))) x6) = .nx (lS ns x1 (.ow b) x3 (.ow (.fz (.lst wl))) (.ow (.fz (PD cs l))) y6) := by
  generalize hS : lS ns x1 (.ow b) x3 (.ow (.fz (.lst wl))) (.ow (.fz (PD cs l))) x6 = sd0
  have v5 : mVar 5 sd0 = .ok (PD cs l) sd0 := by rw [← hS]; rfl
  have p30 : mOp dPow (mC (.int 10)) (mC (.int 30)) sd0 = .ok (.int 1000000000000000000000000000000) sd0 := op_v rfl rfl (p10 (k := 30) (by decide))
  have p60 : mOp dPow (mC (.int 10)) (mC (.int 60)) sd0 = .ok (.int 1000000000000000000000000000000000000000000000000000000000000) sd0 := op_v rfl rfl (p10 (k := 60) (by decide))
  have l1 := lst_v (xs := [.non, .int (-1), .int (-2), .int (0 - 1000000000000000000000000000000), .int (1000000000000000000000000000000 + 1), .int 1000000000000000000000000000000000000000000000000000000000000, .bl true, .bl false, .str (Str.ofString "2"), .tup [.int 2], .lst [], .dic false [] [], PD cs l]) (a := mCons (mC .non) (mCons (mUn dNeg (mC (.int 1))) (mCons (mUn dNeg (mC (.int 2))) (mCons (mOp dSub (mC (.int 0)) (mOp dPow (mC (.int 10)) (mC (.int 30)))) (mCons (mOp dAdd (mOp dPow (mC (.int 10)) (mC (.int 30))) (mC (.int 1))) (mCons (mOp dPow (mC (.int 10)) (mC (.int 60))) (mCons (mC (.bl true)) (mCons (mC (.bl false)) (mCons (mC (.str (Str.ofString "2"))) (mCons (mTup (mCons (mC (.int 2)) (mNil))) (mCons (mView (mLst (mNil))) (mCons (mDict0) (mCons (mVar 5) (mNil))))))))))))))
    (sd := sd0) (sd1 := sd0) (cons_v rfl (cons_v rfl (cons_v rfl (cons_v (op_v (x := .int 0) rfl p30 rfl) (cons_v (op_v p30 (y := .int 1) rfl rfl) (cons_v p60 (cons_v rfl (cons_v rfl (cons_v rfl (cons_v rfl (cons_v rfl (cons_v rfl (cons_v v5 (r := mNil) rfl))))))))))))) (by show 13 ≤ 16777216; decide)
  have hl : ∀ d ∈ ([.non, .int (-1), .int (-2), .int (0 - 1000000000000000000000000000000), .int (1000000000000000000000000000000 + 1), .int 1000000000000000000000000000000000000000000000000000000000000, .bl true, .bl false, .str (Str.ofString "2"), .tup [.int 2], .lst [], .dic false [] [], PD cs l] : List D), BadN cs d := by
    intro d hd
    simp only [List.mem_cons, List.not_mem_nil, or_false] at hd
    rcases hd with h | h | h | h | h | h | h | h | h | h | h | h | h <;> subst h
    · exact badN_no cs rfl (isI_no cs rfl)
    · exact badN_int cs (by decide)
    · exact badN_int cs (by decide)
    · exact badN_int cs (by decide)
    · exact badN_int cs (by decide)
    · exact badN_int cs (by decide)
    · exact badN_no cs rfl (isI_bl cs true)
    · exact badN_no cs rfl (isI_bl cs false)
    · exact badN_no cs rfl (isI_no cs rfl)
    · exact badN_no cs rfl (isI_no cs rfl)
    · exact badN_no cs rfl (isI_no cs rfl)
    · exact badN_no cs rfl (isI_no cs rfl)
    · exact badN_no cs (ins_PD cs l) (isI_PD cs l)
  obtain ⟨sd', w, hI⟩ := sFor_inv (it := iLst (mView (mLst (mCons (mC .non) (mCons (mUn dNeg (mC (.int 1))) (mCons (mUn dNeg (mC (.int 2))) (mCons (mOp dSub (mC (.int 0)) (mOp dPow (mC (.int 10)) (mC (.int 30)))) (mCons (mOp dAdd (mOp dPow (mC (.int 10)) (mC (.int 30))) (mC (.int 1))) (mCons (mOp dPow (mC (.int 10)) (mC (.int 60))) (mCons (mC (.bl true)) (mCons (mC (.bl false)) (mCons (mC (.str (Str.ofString "2"))) (mCons (mTup (mCons (mC (.int 2)) (mNil))) (mCons (mView (mLst (mNil))) (mCons (mDict0) (mCons (mVar 5) (mNil))))))))))))))))) (g := tgN 6) (body := m_law_b2 cs) (sd := sd0) ([.non, .int (-1), .int (-2), .int (0 - 1000000000000000000000000000000), .int (1000000000000000000000000000000 + 1), .int 1000000000000000000000000000000000000000000000000000000000000, .bl true, .bl false, .str (Str.ofString "2"), .tup [.int 2], .lst [], .dic false [] [], PD cs l] : List D) (fun d => d)
    (fun r sd => (∀ d ∈ r, BadN cs d) ∧ ∃ y6, sd = lS ns x1 (.ow b) x3 (.ow (.fz (.lst wl))) (.ow (.fz (PD cs l))) y6) (by
      unfold iLst
      rw [l1]
      rfl) ⟨hl, _, hS.symm⟩ fun d r sd hI => by
      obtain ⟨hr, y6, rfl⟩ := hI
      refine ⟨lS ns x1 (.ow b) x3 (.ow (.fz (.lst wl))) (.ow (.fz (PD cs l))) (.ow (.fz d)), lS ns x1 (.ow b) x3 (.ow (.fz (.lst wl))) (.ow (.fz (PD cs l))) (.ow (.fz d)), rfl, .inl ?_, fun e he => hr e (List.mem_cons_of_mem _ he), _, rfl⟩
      have q := two_v cs hc (w := 1) (l := l) (d := d) (s := "InvalidTimes") (sd := lS ns x1 (.ow b) x3 (.ow (.fz (.lst wl))) (.ow (.fz (PD cs l))) (.ow (.fz d))) rfl rfl fun l => told_badN cs hc l (hr d List.mem_cons_self)
      unfold m_law_b2 m_law_11
      exact (if_b q).trans rfl
  obtain ⟨_, y6, rfl⟩ := hI
  exact ⟨y6, w⟩
theorem law_14 {b : OT} {wl : List D} {l : List Nd} (hp : PrOk l) (hl : (wds l).length ≤ 300) : m_law_14 cs (lS ns x1 (.ow b) x3 (.ow (.fz (.lst wl))) (.ow (.fz (PD cs l))) x6) = .nx (lS ns x1 (.ow b) x3 (.ow (.fz (.lst wl))) (.ow (.fz (PD cs l))) x6) := by
  generalize hS : lS ns x1 (.ow b) x3 (.ow (.fz (.lst wl))) (.ow (.fz (PD cs l))) x6 = sd
  have v5 : mVar 5 sd = .ok (PD cs l) sd := by rw [← hS]; rfl
  have pt : mView (mProp (cs 0) (m_Program_text cs) (mVar 5)) sd = .ok (.str (textOf (wds l))) sd := by
    have ent : entry 1 [.fz (PD cs l)] = ivS cs l := rfl
    have e : m_Program_text cs [.fz (PD cs l)] = .ok (.fz (.str (textOf (wds l)))) ⟨[], [.fz (PD cs l)]⟩ := by
      have s1 : m_Program_text_1 cs (ivS cs l) = .rt (.fz (.str (textOf (wds l)))) (ivS cs l) := ret_d (fld_text cs (l := l) (a := mVar 0) (sd := ivS cs l) rfl)
      unfold m_Program_text asDef
      rw [ent, s1]
      rfl
    unfold mView mProp
    rw [v5]
    simp [ER.bind, PD, callFzQ, callFz]
    unfold PD at e
    rw [e]
    rfl
  have t := or_b (op_t (f := dIn false) (a := mC (.str (Str.ofString "u"))) rfl pt (in_text l lit_u)) (op_t (f := dIn false) (a := mC (.str (Str.ofString "d"))) rfl pt (in_text l lit_d))
  have q := told_ne cs (a := mVar 5) (b := mC .non) v5 rfl (told_inv cs hc hp hl) (fine_or ((hasB 117 l || hasB 100 l) = true) t (by simp))
  unfold m_law_14
  exact (if_b q).trans rfl
theorem law_cell (cell : Int) : ∃ y2 y3 y4 y5 y6, m_law_b3 cs (lS ns (.ow (.fz (.int cell))) x2 x3 x4 x5 x6) = .nx (lS ns (.ow (.fz (.int cell))) y2 y3 y4 y5 y6) := by
  obtain ⟨b0, hb0, e0⟩ := bag_ok cs cell
  have s3 : m_law_3 cs (lS ns (.ow (.fz (.int cell))) x2 x3 x4 x5 x6) = .nx (lS ns (.ow (.fz (.int cell))) (.ow b0) x3 x4 x5 x6) := by
    have c : mCall0 (m__law_bag cs) (mCons (mVar 1) mNil) (lS ns (.ow (.fz (.int cell))) x2 x3 x4 x5 x6) = .ok b0 (lS ns (.ow (.fz (.int cell))) x2 x3 x4 x5 x6) := by
      unfold mCall0
      rw [cons_v (a := mVar 1) (r := mNil) (sd := lS ns (.ow (.fz (.int cell))) x2 x3 x4 x5 x6) rfl rfl]
      show (match m__law_bag cs [.fz (.int cell)] with
        | .ok t _ => ER.ok t (lS ns (.ow (.fz (.int cell))) x2 x3 x4 x5 x6)
        | .rz x _ => .rz x (lS ns (.ow (.fz (.int cell))) x2 x3 x4 x5 x6)
        | .bad => .bad) = _
      rw [e0]
    exact set_o (l := (lS ns (.ow (.fz (.int cell))) x2 x3 x4 x5 x6).sl) c (by show 2 < 7; decide)
  obtain ⟨v, b1, v1, hb1, e1⟩ := pick_fz cs (a := mC (.int 4)) (i := 2) (sd := lS ns (.ow (.fz (.int cell))) (.ow b0) x3 x4 x5 x6) (sd1 := lS ns (.ow (.fz (.int cell))) (.ow b0) x3 x4 x5 x6) (m := 4) rfl rfl rfl hb0 (by decide) (by decide) (by decide)
  obtain ⟨L, l1, l2, l3, im⟩ : ∃ L : List Nat, (∀ c ∈ L, c ∈ letters) ∧ 1 ≤ L.length ∧ L.length ≤ 10 ∧ dIx (.lst [.str (Str.ofString "fblrud"), .str (Str.ofString "fblr"), .str (Str.ofString "fu"), .str (Str.ofString "ld")]) (.int v) = some (.str (W L)) := by
    have : v = 0 ∨ v = 1 ∨ v = 2 ∨ v = 3 := by omega
    rcases this with rfl | rfl | rfl | rfl
    · exact ⟨[102, 98, 108, 114, 117, 100], by decide, by decide, by decide, by rw [← lit_let]; rfl⟩
    · exact ⟨[102, 98, 108, 114], by decide, by decide, by decide, by rw [← lit_ "fblr" [102, 98, 108, 114] rfl]; rfl⟩
    · exact ⟨[102, 117], by decide, by decide, by decide, by rw [← lit_ "fu" [102, 117] rfl]; rfl⟩
    · exact ⟨[108, 100], by decide, by decide, by decide, by rw [← lit_ "ld" [108, 100] rfl]; rfl⟩
  have s4 : m_law_4 cs (lS ns (.ow (.fz (.int cell))) (.ow b0) x3 x4 x5 x6) = .nx (lS ns (.ow (.fz (.int cell))) (.ow b1) (.ow (.fz (.str (W L)))) x4 x5 x6) :=
    set_d (l := (lS ns (.ow (.fz (.int cell))) (.ow b1) x3 x4 x5 x6).sl) (op_v (lst_v (xs := [.str (Str.ofString "fblrud"), .str (Str.ofString "fblr"), .str (Str.ofString "fu"), .str (Str.ofString "ld")]) (sd := lS ns (.ow (.fz (.int cell))) (.ow b0) x3 x4 x5 x6) (sd1 := lS ns (.ow (.fz (.int cell))) (.ow b0) x3 x4 x5 x6) rfl (by decide)) e1 im) (by show 3 < 7; decide)
  obtain ⟨l, b2, ew, hb2, w1, w2, ok, dp⟩ := words_ok cs 16 11 (by decide) L 1 40 b1 l1 l2 l3 (by decide) (by decide) hb1 (by decide)
  have hp : PrOk l := ⟨ok, by omega, by omega⟩
  let S4 := lS ns (.ow (.fz (.int cell))) (.ow b1) (.ow (.fz (.str (W L)))) x4 x5 x6
  have args : rFz (mC (.int 40)) (rFz (mC (.int 11)) (rFz (mVar 3) (rFz (mC (.int 1)) rNil))) S4 = .ok (([.int (40 : Nat), .int (11 : Nat), .str (W L), .int 1] : List D).map .fz) S4 := rfl
  have cw := call_bags (f := m__law_words cs 16) (i := 2) args (t0 := b1) (t := b1) rfl rfl ew rfl
  let S5 := fun (x5 x6 : S) => lS ns (.ow (.fz (.int cell))) (.ow b2) (.ow (.fz (.str (W L)))) (.ow (.fz (.lst (WsD (wds l))))) x5 x6
  have s5 : m_law_5 cs S4 = .nx (S5 x5 x6) := set_d (k := 4) (l := (lS ns (.ow (.fz (.int cell))) (.ow b2) (.ow (.fz (.str (W L)))) x4 x5 x6).sl) (view_v cw) (by show 4 < 7; decide)
  have s6 : m_law_6 cs (S5 x5 x6) = .nx (S5 (.ow (.fz (PD cs l))) x6) := set_d (k := 5) (l := (S5 x5 x6).sl) (prog_v cs hp (join_l hp (a := mVar 4) (sd := S5 x5 x6) (sd1 := S5 x5 x6) rfl)) (by show 5 < 7; decide)
  obtain ⟨y6, s9⟩ := law_9 cs hc (ns := ns) (x1 := .ow (.fz (.int cell))) (x3 := .ow (.fz (.str (W L)))) (x6 := x6) (b := b2) (wl := WsD (wds l)) (l := l) (by rw [WsD_len]; omega)
  obtain ⟨y7, s12⟩ := law_12 cs hc (ns := ns) (x1 := .ow (.fz (.int cell))) (x3 := .ow (.fz (.str (W L)))) (x6 := y6) (b := b2) (wl := WsD (wds l)) (l := l)
  have s14 := law_14 cs hc (ns := ns) (x1 := .ow (.fz (.int cell))) (x3 := .ow (.fz (.str (W L)))) (x6 := y7) (b := b2) (wl := WsD (wds l)) hp (by omega)
  obtain ⟨b3, hb3, e3⟩ := sizes_right cs hc (hb2.mono (m := 400) (by omega)) (by decide)
  have cl := call_bags (f := m__law_sizes_right cs) (i := 2) (rr := rNil) (ds := []) (sd := S5 (.ow (.fz (PD cs l))) y7) (sd1 := S5 (.ow (.fz (PD cs l))) y7) (t0 := b2) (t := b2) rfl rfl rfl e3 rfl
  have t16 : mNot (mTest (mView (mCall1 (m__law_sizes_right cs) (rSlot 2 rNil)))) (S5 (.ow (.fz (PD cs l))) y7) = .ok false ((S5 (.ow (.fz (PD cs l))) y7).put 2 b3) := by
    refine not_b (u := true) ?_
    unfold mTest mView
    rw [cl]
    rfl
  have s16 : m_law_16 cs (S5 (.ow (.fz (PD cs l))) y7) = .nx (lS ns (.ow (.fz (.int cell))) (.ow b3) (.ow (.fz (.str (W L)))) (.ow (.fz (.lst (WsD (wds l))))) (.ow (.fz (PD cs l))) y7) := by
    unfold m_law_16
    exact (if_b t16).trans rfl
  exact ⟨_, _, _, _, _, seq_nx s3 (seq_nx s4 (seq_nx s5 (seq_nx s6 (seq_nx s9 (seq_nx s12 (seq_nx s14 s16))))))⟩
end
theorem law_true (cs : Nat → Addr) (hc : CsOk cs) (ns : List Int) (hl : ns.length ≤ 63) (hb : ∀ z ∈ ns, Builtin.Int.intBits z ≤ 1048576) : ∃ sd, m_law cs [.fz (.scr ns)] = .ok (.fz (.bl true)) sd := by
  have ent : entry 7 [.fz (.scr ns)] = lS ns .un .un .un .un .un .un := rfl
  have s2 : m_law_2 cs (lS ns .un .un .un .un .un .un) = .nx (lS ns .un .un .un .un .un .un) := by
    have t : mNot (mTest (mView (mCall0 (m__law_made_right cs) mNil))) (lS ns .un .un .un .un .un .un) = .ok false (lS ns .un .un .un .un .un .un) := by
      refine not_b (u := true) ?_
      have := made_right cs hc
      unfold mTest mView mCall0 mNil
      simp only [ER.bind, List.map, this, OT.view]
    unfold m_law_2
    exact (if_b t).trans rfl
  have hcl : (cutL (ns.map D.int) none (some ((8 : Nat) : Int))).length ≤ 63 := by
    unfold cutL
    rw [List.length_take, List.length_drop, List.length_map]
    omega
  have it := view_v (cat_v (a := qNew (mCutS (mVar 0) oNone (oSome (mC (.int 8))))) (sd := lS ns .un .un .un .un .un .un) (sd1 := lS ns .un .un .un .un .un .un) (xs := cutL (ns.map D.int) none (some ((8 : Nat) : Int))) (qnew_v rfl) (qnew_v (lst_o (a := mCons (mC (.int 0)) mNil) (sd1 := lS ns .un .un .un .un .un .un) (xs := [.int 0]) rfl (by decide))) (by rw [List.length_singleton]; omega))
  obtain ⟨sd', w17, hI⟩ := sFor_inv (it := iLst (mView (mCat (qNew (mCutS (mVar 0) (oNone) (oSome (mC (.int 8))))) (qNew (mLst (mCons (mC (.int 0)) (mNil))))))) (g := tgN 1) (body := m_law_b3 cs) (sd := lS ns .un .un .un .un .un .un) (cutL (ns.map D.int) none (some ((8 : Nat) : Int)) ++ [.int 0]) (fun d => d)
    (fun r sd => (∀ d ∈ r, ∃ i, d = .int i) ∧ ∃ z1 z2 z3 z4 z5 z6, sd = lS ns z1 z2 z3 z4 z5 z6) (by
      unfold iLst
      rw [it]
      show ER.ok _ _ = _
      rw [List.map_id'']
      intro x; rfl) ⟨fun d hd => by
        rcases List.mem_append.mp hd with h | h
        · exact cut_mem h
        · exact ⟨0, List.mem_singleton.mp h⟩, _, _, _, _, _, _, rfl⟩ fun d r sd hI => by
      obtain ⟨hr, z1, z2, z3, z4, z5, z6, rfl⟩ := hI
      obtain ⟨i, rfl⟩ := hr d List.mem_cons_self
      obtain ⟨u2, u3, u4, u5, u6, e⟩ := law_cell cs hc (ns := ns) (x2 := z2) (x3 := z3) (x4 := z4) (x5 := z5) (x6 := z6) i
      exact ⟨_, _, rfl, .inl e, fun d hd => hr d (List.mem_cons_of_mem _ hd), _, _, _, _, _, _, rfl⟩
  obtain ⟨_, z1, z2, z3, z4, z5, z6, rfl⟩ := hI
  refine ⟨⟨[], [.fz (.scr ns)]⟩, ?_⟩
  unfold m_law asDef
  rw [ent, seq_nx s2 (seq_nx (show m_law_17 cs _ = _ from w17) rfl)]
  rfl
theorem walk {l : PySem.W.OpenLaw} {q : Program} {loose : List Str} {XP : (Str → Option Value) → Heap → Prop} {YP : World → Heap → Prop} {d : DefRec} {K : Params → PySem.W.Frag} (hn : l.most = some 63) (hdf : d.params.defaults = [])
    (hY : ∀ (w : World) (h : Heap), YP w h → (K w.params).In h)
    (F : ∀ (w : World) (mg : Str → Option Value) (fa : Addr) (h : Heap), (K w.params).In h → h.Ns mainGlobals mg → mg d.name = some (.ref fa) →
      ∃ fd : FuncData, (∀ (s : Shared) (u : Value), BindsTo s fd ⟨[u], []⟩ [("script", u)]) ∧ ∀ base : Heap, (K w.params).In base → base.Ns mainGlobals mg → ∃ cs : Nat → Addr, CsOk cs ∧ FnG l.prog w (K w.params) mg base (L2.CX l.prog w) 28 fa fd ["script"] (spD (K w.params) 1 (m_law cs))) :
    PySem.W.WalkO q loose XP YP l.row.toRowW d [] (fun f vs => PySem.call f vs) :=
  walk_G (n := 63) (k := 28) (x := "script") (sp := fun w vs H Q E => (∀ cs, CsOk cs → spD (K w.params) 1 (m_law cs) vs H Q E)) hn (by decide) hdf ⟨⟨rfl, by decide, by decide⟩, rfl⟩ hY (fun w mg fa h a b c => by
    obtain ⟨fd, h1, h2⟩ := F w mg fa h a b c
    refine ⟨fd, h1, fun base hb hg => ?_⟩
    obtain ⟨cs, hc, h3⟩ := h2 base hb hg
    exact ⟨fun vs H Q E hs => h3.len vs H Q E (hs cs hc), fun A out s H args us vs Q E r e0 bd rel hs => h3.run A out s H args us vs Q E r e0 bd rel (hs cs hc)⟩) fun w H a ns hl hb hS cs hc => law_sp hS (law_true cs hc ns hl hb)
end Lw
open PySem PySem.W PyProof.Rows
set_option maxRecDepth 100000 in
set_option maxHeartbeats 0 in
theorem PySem.Challenge.cw_plotpens_k04_operator_errors_holds : PySem.Challenge.rw_plotpens_k04_operator_errors.Holds := by
  w_on; o_law; k_head; (case hw => w_witness2)
  k_fill
  refine Lw.walk (l := PySem.Challenge.rw_plotpens_k04_operator_errors) rfl rfl (fun w h Y => PySem.W.kIn_of Y) ?F
  case F =>
    intro w mg fa h KX G hmg
    refine' Lw.all_mk KX G hmg ?g_Program ?g_PlotError ?g_InvalidText ?g_InvalidSource ?g_TooDeep ?g_TooLarge ?g_InvalidProgram ?g_InvalidTimes ?g_InvalidIndex ?g_InvalidLetter ?g_InvalidName ?g_HasPen ?g_InvalidMotion ?g_InvalidPose ?g_InvalidPoint ?g_InvalidEdge ?g_InvalidPicture ?g_InvalidTurn ?g_InvalidFace ?g_InvalidFaces ?g_NotEven ?g_NotClosed ?g_InvalidIntervals ?g_InvalidPlace ?g_NotDrifting ?g_InvalidCount ?g_NoSteps ?g_InvalidOperation ?g_Nothing ?g_InvalidArt ?g_InvalidCommand ?a1 ?i1 ?l1 ?c1 ?k1 ?a2 ?i2 ?l2 ?c2 ?k2 ?a3 ?i3 ?l3 ?c3 ?k3 ?a4 ?i4 ?l4 ?c4 ?k4 ?a5 ?l5 ?c5 ?k5 ?a6 ?l6 ?c6 ?k6 ?a7 ?l7 ?c7 ?k7 ?a8 ?l8 ?c8 ?k8 ?a9 ?l9 ?c9 ?k9 ?a10 ?l10 ?c10 ?k10 ?a11 ?l11 ?c11 ?k11 ?a12 ?l12 ?c12 ?k12 ?a13 ?l13 ?c13 ?k13 ?a14 ?l14 ?c14 ?k14 ?a15 ?l15 ?c15 ?k15 ?a16 ?l16 ?c16 ?k16 ?a17 ?l17 ?c17 ?k17 ?a18 ?i18 ?l18 ?c18 ?k18 ?a19 ?l19 ?c19 ?k19 ?a20 ?l20 ?c20 ?k20 ?a21 ?i21 ?l21 ?c21 ?k21 ?a22 ?l22 ?c22 ?k22 ?a23 ?i23 ?l23 ?c23 ?k23 ?a24 ?l24 ?c24 ?k24 ?a25 ?l25 ?c25 ?k25 ?a26 ?i26 ?l26 ?c26 ?k26 ?a27 ?l27 ?c27 ?k27 ?a28 ?i28 ?l28 ?c28 ?k28 ?a29 ?l29 ?c29 ?k29 ?pa30 ?pb30 ?pc30 ?pd30 ?l30 ?c30 ?k30 ?a31 ?l31 ?c31 ?k31 ?nd ?z_ValueError ?z_all ?z_bool ?z_enumerate ?z_int ?z_isinstance ?z_len ?z_max ?z_repr ?z_str ?z_tuple ?v_DIGITS ?v_LETTERS ?v_MOST_DEPTH ?v_MOST_DIGITS ?v_MOST_TIMES ?v_MOST_WORDS ?pg_Program ?hd_Program ?po_Program ?sa_Program ?ha_Program ?hn_Program ?ht_Program ?hm_Program ?mk_Program ?kc_Program ?xl_InvalidText ?xe_InvalidText ?xw_InvalidText ?xk_InvalidText ?xb_InvalidText ?xt_InvalidText ?xn_InvalidText_index ?xl_InvalidSource ?xe_InvalidSource ?xw_InvalidSource ?xk_InvalidSource ?xb_InvalidSource ?xt_InvalidSource ?xn_InvalidSource_line ?xn_InvalidSource_index ?xl_TooDeep ?xe_TooDeep ?xw_TooDeep ?xk_TooDeep ?xb_TooDeep ?xt_TooDeep ?xn_TooDeep_limit ?xl_TooLarge ?xe_TooLarge ?xw_TooLarge ?xk_TooLarge ?xb_TooLarge ?xt_TooLarge ?xn_TooLarge_limit ?xq_HasPen ?xk_HasPen ?xb_HasPen ?xt_HasPen ?xq_InvalidProgram ?xk_InvalidProgram ?xb_InvalidProgram ?xt_InvalidProgram ?xq_InvalidTimes ?xk_InvalidTimes ?xb_InvalidTimes ?xt_InvalidTimes ?xq_InvalidIndex ?xk_InvalidIndex ?xb_InvalidIndex ?xt_InvalidIndex ?xq_InvalidLetter ?xk_InvalidLetter ?xb_InvalidLetter ?xt_InvalidLetter ?xq_InvalidName ?xk_InvalidName ?xb_InvalidName ?xt_InvalidName ?xq_InvalidPicture ?xk_InvalidPicture ?xb_InvalidPicture ?xt_InvalidPicture ?xq_InvalidMotion ?xk_InvalidMotion ?xb_InvalidMotion ?xt_InvalidMotion ?xq_InvalidPose ?xk_InvalidPose ?xb_InvalidPose ?xt_InvalidPose ?xq_InvalidPoint ?xk_InvalidPoint ?xb_InvalidPoint ?xt_InvalidPoint ?xq_InvalidEdge ?xk_InvalidEdge ?xb_InvalidEdge ?xt_InvalidEdge ?xq_InvalidTurn ?xk_InvalidTurn ?xb_InvalidTurn ?xt_InvalidTurn ?xq_InvalidFace ?xk_InvalidFace ?xb_InvalidFace ?xt_InvalidFace ?xq_InvalidFaces ?xk_InvalidFaces ?xb_InvalidFaces ?xt_InvalidFaces ?xq_NotEven ?xk_NotEven ?xb_NotEven ?xt_NotEven ?xq_NotClosed ?xk_NotClosed ?xb_NotClosed ?xt_NotClosed ?xq_Nothing ?xk_Nothing ?xb_Nothing ?xt_Nothing ?xq_InvalidIntervals ?xk_InvalidIntervals ?xb_InvalidIntervals ?xt_InvalidIntervals ?xq_InvalidPlace ?xk_InvalidPlace ?xb_InvalidPlace ?xt_InvalidPlace ?xq_NotDrifting ?xk_NotDrifting ?xb_NotDrifting ?xt_NotDrifting ?xq_InvalidCount ?xk_InvalidCount ?xb_InvalidCount ?xt_InvalidCount ?xq_NoSteps ?xk_NoSteps ?xb_NoSteps ?xt_NoSteps ?xq_InvalidOperation ?xk_InvalidOperation ?xb_InvalidOperation ?xt_InvalidOperation ?xq_InvalidArt ?xk_InvalidArt ?xb_InvalidArt ?xt_InvalidArt ?xq_InvalidCommand ?xk_InvalidCommand ?xb_InvalidCommand ?xt_InvalidCommand ?xq_PlotError ?xk_PlotError ?xb_PlotError ?xt_PlotError ?xs ?xz ?xg_InvalidText ?xn_InvalidText ?xd_InvalidText ?xa_InvalidText ?xo_InvalidText ?xv_InvalidText ?xg_HasPen ?xn_HasPen ?xd_HasPen ?xa_HasPen ?xo_HasPen ?xv_HasPen ?xg_InvalidProgram ?xn_InvalidProgram ?xd_InvalidProgram ?xa_InvalidProgram ?xo_InvalidProgram ?xv_InvalidProgram ?xg_TooLarge ?xn_TooLarge ?xd_TooLarge ?xa_TooLarge ?xo_TooLarge ?xv_TooLarge ?xg_InvalidTimes ?xn_InvalidTimes ?xd_InvalidTimes ?xa_InvalidTimes ?xo_InvalidTimes ?xv_InvalidTimes ?xg_TooDeep ?xn_TooDeep ?xd_TooDeep ?xa_TooDeep ?xo_TooDeep ?xv_TooDeep ?xg_InvalidIndex ?xn_InvalidIndex ?xd_InvalidIndex ?xa_InvalidIndex ?xo_InvalidIndex ?xv_InvalidIndex ?xg_InvalidLetter ?xn_InvalidLetter ?xd_InvalidLetter ?xa_InvalidLetter ?xo_InvalidLetter ?xv_InvalidLetter ?xg_InvalidName ?xn_InvalidName ?xd_InvalidName ?xa_InvalidName ?xo_InvalidName ?xv_InvalidName ?xg_InvalidPicture ?xn_InvalidPicture ?xd_InvalidPicture ?xa_InvalidPicture ?xo_InvalidPicture ?xv_InvalidPicture ?xg_InvalidMotion ?xn_InvalidMotion ?xd_InvalidMotion ?xa_InvalidMotion ?xo_InvalidMotion ?xv_InvalidMotion ?xg_InvalidPose ?xn_InvalidPose ?xd_InvalidPose ?xa_InvalidPose ?xo_InvalidPose ?xv_InvalidPose ?xg_InvalidPoint ?xn_InvalidPoint ?xd_InvalidPoint ?xa_InvalidPoint ?xo_InvalidPoint ?xv_InvalidPoint ?xg_InvalidEdge ?xn_InvalidEdge ?xd_InvalidEdge ?xa_InvalidEdge ?xo_InvalidEdge ?xv_InvalidEdge ?xg_InvalidTurn ?xn_InvalidTurn ?xd_InvalidTurn ?xa_InvalidTurn ?xo_InvalidTurn ?xv_InvalidTurn ?xg_InvalidFace ?xn_InvalidFace ?xd_InvalidFace ?xa_InvalidFace ?xo_InvalidFace ?xv_InvalidFace ?xg_InvalidFaces ?xn_InvalidFaces ?xd_InvalidFaces ?xa_InvalidFaces ?xo_InvalidFaces ?xv_InvalidFaces ?xg_NotEven ?xn_NotEven ?xd_NotEven ?xa_NotEven ?xo_NotEven ?xv_NotEven ?xg_NotClosed ?xn_NotClosed ?xd_NotClosed ?xa_NotClosed ?xo_NotClosed ?xv_NotClosed ?xg_Nothing ?xn_Nothing ?xd_Nothing ?xa_Nothing ?xo_Nothing ?xv_Nothing ?xg_InvalidIntervals ?xn_InvalidIntervals ?xd_InvalidIntervals ?xa_InvalidIntervals ?xo_InvalidIntervals ?xv_InvalidIntervals ?xg_InvalidPlace ?xn_InvalidPlace ?xd_InvalidPlace ?xa_InvalidPlace ?xo_InvalidPlace ?xv_InvalidPlace ?xg_NotDrifting ?xn_NotDrifting ?xd_NotDrifting ?xa_NotDrifting ?xo_NotDrifting ?xv_NotDrifting ?xg_InvalidCount ?xn_InvalidCount ?xd_InvalidCount ?xa_InvalidCount ?xo_InvalidCount ?xv_InvalidCount ?xg_NoSteps ?xn_NoSteps ?xd_NoSteps ?xa_NoSteps ?xo_NoSteps ?xv_NoSteps ?xg_InvalidOperation ?xn_InvalidOperation ?xd_InvalidOperation ?xa_InvalidOperation ?xo_InvalidOperation ?xv_InvalidOperation ?xg_InvalidArt ?xn_InvalidArt ?xd_InvalidArt ?xa_InvalidArt ?xo_InvalidArt ?xv_InvalidArt ?xg_InvalidCommand ?xn_InvalidCommand ?xd_InvalidCommand ?xa_InvalidCommand ?xo_InvalidCommand ?xv_InvalidCommand ?xg_InvalidSource ?xn_InvalidSource ?xd_InvalidSource ?xa_InvalidSource ?xo_InvalidSource ?xv_InvalidSource ?xg_PlotError ?xn_PlotError ?xd_PlotError ?xa_PlotError ?xo_PlotError ?xv_PlotError ?yc_InvalidText ?yt_InvalidText ?ys_InvalidText ?yc_HasPen ?yt_HasPen ?ys_HasPen ?yc_PlotError ?yt_PlotError ?ys_PlotError ?yc_InvalidArt ?yt_InvalidArt ?ys_InvalidArt ?yc_InvalidCommand ?yt_InvalidCommand ?ys_InvalidCommand ?yc_InvalidCount ?yt_InvalidCount ?ys_InvalidCount ?yc_InvalidEdge ?yt_InvalidEdge ?ys_InvalidEdge ?yc_InvalidFace ?yt_InvalidFace ?ys_InvalidFace ?yc_InvalidFaces ?yt_InvalidFaces ?ys_InvalidFaces ?yc_InvalidIntervals ?yt_InvalidIntervals ?ys_InvalidIntervals ?yc_InvalidMotion ?yt_InvalidMotion ?ys_InvalidMotion ?yc_InvalidOperation ?yt_InvalidOperation ?ys_InvalidOperation ?yc_InvalidPicture ?yt_InvalidPicture ?ys_InvalidPicture ?yc_InvalidPlace ?yt_InvalidPlace ?ys_InvalidPlace ?yc_InvalidPoint ?yt_InvalidPoint ?ys_InvalidPoint ?yc_InvalidPose ?yt_InvalidPose ?ys_InvalidPose ?yc_InvalidTurn ?yt_InvalidTurn ?ys_InvalidTurn ?yc_NoSteps ?yt_NoSteps ?ys_NoSteps ?yc_NotClosed ?yt_NotClosed ?ys_NotClosed ?yc_NotDrifting ?yt_NotDrifting ?ys_NotDrifting ?yc_NotEven ?yt_NotEven ?ys_NotEven ?yc_Nothing ?yt_Nothing ?ys_Nothing ?yc_InvalidSource ?yt_InvalidSource ?ys_InvalidSource ?yc_InvalidProgram ?yt_InvalidProgram ?ys_InvalidProgram ?yc_InvalidTimes ?yt_InvalidTimes ?ys_InvalidTimes ?yc_InvalidIndex ?yt_InvalidIndex ?ys_InvalidIndex ?yc_InvalidLetter ?yt_InvalidLetter ?ys_InvalidLetter ?yc_InvalidName ?yt_InvalidName ?ys_InvalidName ?yc_TooDeep ?yt_TooDeep ?ys_TooDeep ?yc_TooLarge ?yt_TooLarge ?ys_TooLarge ?yp_HasPen_InvalidText ?yp_HasPen_PlotError ?yp_HasPen_InvalidArt ?yp_HasPen_InvalidCommand ?yp_HasPen_InvalidCount ?yp_HasPen_InvalidEdge ?yp_HasPen_InvalidFace ?yp_HasPen_InvalidFaces ?yp_HasPen_InvalidIntervals ?yp_HasPen_InvalidMotion ?yp_HasPen_InvalidOperation ?yp_HasPen_InvalidPicture ?yp_HasPen_InvalidPlace ?yp_HasPen_InvalidPoint ?yp_HasPen_InvalidPose ?yp_HasPen_InvalidTurn ?yp_HasPen_NoSteps ?yp_HasPen_NotClosed ?yp_HasPen_NotDrifting ?yp_HasPen_NotEven ?yp_HasPen_Nothing ?yp_HasPen_InvalidSource ?yp_HasPen_InvalidProgram ?yp_HasPen_InvalidTimes ?yp_HasPen_InvalidIndex ?yp_HasPen_InvalidLetter ?yp_HasPen_InvalidName ?yp_HasPen_TooDeep ?yp_HasPen_TooLarge ?yp_InvalidProgram_InvalidText ?yp_InvalidProgram_HasPen ?yp_InvalidProgram_PlotError ?yp_InvalidProgram_InvalidArt ?yp_InvalidProgram_InvalidCommand ?yp_InvalidProgram_InvalidCount ?yp_InvalidProgram_InvalidEdge ?yp_InvalidProgram_InvalidFace ?yp_InvalidProgram_InvalidFaces ?yp_InvalidProgram_InvalidIntervals ?yp_InvalidProgram_InvalidMotion ?yp_InvalidProgram_InvalidOperation ?yp_InvalidProgram_InvalidPicture ?yp_InvalidProgram_InvalidPlace ?yp_InvalidProgram_InvalidPoint ?yp_InvalidProgram_InvalidPose ?yp_InvalidProgram_InvalidTurn ?yp_InvalidProgram_NoSteps ?yp_InvalidProgram_NotClosed ?yp_InvalidProgram_NotDrifting ?yp_InvalidProgram_NotEven ?yp_InvalidProgram_Nothing ?yp_InvalidProgram_InvalidSource ?yp_InvalidProgram_InvalidTimes ?yp_InvalidProgram_InvalidIndex ?yp_InvalidProgram_InvalidLetter ?yp_InvalidProgram_InvalidName ?yp_InvalidProgram_TooDeep ?yp_InvalidProgram_TooLarge ?yp_TooLarge_InvalidText ?yp_TooLarge_HasPen ?yp_TooLarge_PlotError ?yp_TooLarge_InvalidArt ?yp_TooLarge_InvalidCommand ?yp_TooLarge_InvalidCount ?yp_TooLarge_InvalidEdge ?yp_TooLarge_InvalidFace ?yp_TooLarge_InvalidFaces ?yp_TooLarge_InvalidIntervals ?yp_TooLarge_InvalidMotion ?yp_TooLarge_InvalidOperation ?yp_TooLarge_InvalidPicture ?yp_TooLarge_InvalidPlace ?yp_TooLarge_InvalidPoint ?yp_TooLarge_InvalidPose ?yp_TooLarge_InvalidTurn ?yp_TooLarge_NoSteps ?yp_TooLarge_NotClosed ?yp_TooLarge_NotDrifting ?yp_TooLarge_NotEven ?yp_TooLarge_Nothing ?yp_TooLarge_InvalidSource ?yp_TooLarge_InvalidProgram ?yp_TooLarge_InvalidTimes ?yp_TooLarge_InvalidIndex ?yp_TooLarge_InvalidLetter ?yp_TooLarge_InvalidName ?yp_TooLarge_TooDeep ?yp_InvalidTimes_InvalidText ?yp_InvalidTimes_HasPen ?yp_InvalidTimes_PlotError ?yp_InvalidTimes_InvalidArt ?yp_InvalidTimes_InvalidCommand ?yp_InvalidTimes_InvalidCount ?yp_InvalidTimes_InvalidEdge ?yp_InvalidTimes_InvalidFace ?yp_InvalidTimes_InvalidFaces ?yp_InvalidTimes_InvalidIntervals ?yp_InvalidTimes_InvalidMotion ?yp_InvalidTimes_InvalidOperation ?yp_InvalidTimes_InvalidPicture ?yp_InvalidTimes_InvalidPlace ?yp_InvalidTimes_InvalidPoint ?yp_InvalidTimes_InvalidPose ?yp_InvalidTimes_InvalidTurn ?yp_InvalidTimes_NoSteps ?yp_InvalidTimes_NotClosed ?yp_InvalidTimes_NotDrifting ?yp_InvalidTimes_NotEven ?yp_InvalidTimes_Nothing ?yp_InvalidTimes_InvalidSource ?yp_InvalidTimes_InvalidProgram ?yp_InvalidTimes_InvalidIndex ?yp_InvalidTimes_InvalidLetter ?yp_InvalidTimes_InvalidName ?yp_InvalidTimes_TooDeep ?yp_InvalidTimes_TooLarge ?yp_TooDeep_InvalidText ?yp_TooDeep_HasPen ?yp_TooDeep_PlotError ?yp_TooDeep_InvalidArt ?yp_TooDeep_InvalidCommand ?yp_TooDeep_InvalidCount ?yp_TooDeep_InvalidEdge ?yp_TooDeep_InvalidFace ?yp_TooDeep_InvalidFaces ?yp_TooDeep_InvalidIntervals ?yp_TooDeep_InvalidMotion ?yp_TooDeep_InvalidOperation ?yp_TooDeep_InvalidPicture ?yp_TooDeep_InvalidPlace ?yp_TooDeep_InvalidPoint ?yp_TooDeep_InvalidPose ?yp_TooDeep_InvalidTurn ?yp_TooDeep_NoSteps ?yp_TooDeep_NotClosed ?yp_TooDeep_NotDrifting ?yp_TooDeep_NotEven ?yp_TooDeep_Nothing ?yp_TooDeep_InvalidSource ?yp_TooDeep_InvalidProgram ?yp_TooDeep_InvalidTimes ?yp_TooDeep_InvalidIndex ?yp_TooDeep_InvalidLetter ?yp_TooDeep_InvalidName ?yp_TooDeep_TooLarge ?yp_PlotError_InvalidText ?yp_PlotError_HasPen ?yp_PlotError_InvalidArt ?yp_PlotError_InvalidCommand ?yp_PlotError_InvalidCount ?yp_PlotError_InvalidEdge ?yp_PlotError_InvalidFace ?yp_PlotError_InvalidFaces ?yp_PlotError_InvalidIntervals ?yp_PlotError_InvalidMotion ?yp_PlotError_InvalidOperation ?yp_PlotError_InvalidPicture ?yp_PlotError_InvalidPlace ?yp_PlotError_InvalidPoint ?yp_PlotError_InvalidPose ?yp_PlotError_InvalidTurn ?yp_PlotError_NoSteps ?yp_PlotError_NotClosed ?yp_PlotError_NotDrifting ?yp_PlotError_NotEven ?yp_PlotError_Nothing ?yp_PlotError_InvalidSource ?yp_PlotError_InvalidProgram ?yp_PlotError_InvalidTimes ?yp_PlotError_InvalidIndex ?yp_PlotError_InvalidLetter ?yp_PlotError_InvalidName ?yp_PlotError_TooDeep ?yp_PlotError_TooLarge ?yp_InvalidText_PlotError ?yp_InvalidIndex_PlotError ?yp_InvalidLetter_PlotError ?yp_InvalidName_PlotError ?yp_InvalidPicture_PlotError ?yp_InvalidMotion_PlotError ?yp_InvalidPose_PlotError ?yp_InvalidPoint_PlotError ?yp_InvalidEdge_PlotError ?yp_InvalidTurn_PlotError ?yp_InvalidFace_PlotError ?yp_InvalidFaces_PlotError ?yp_NotEven_PlotError ?yp_NotClosed_PlotError ?yp_Nothing_PlotError ?yp_InvalidIntervals_PlotError ?yp_InvalidPlace_PlotError ?yp_NotDrifting_PlotError ?yp_InvalidCount_PlotError ?yp_NoSteps_PlotError ?yp_InvalidOperation_PlotError ?yp_InvalidArt_PlotError ?yp_InvalidCommand_PlotError ?yp_InvalidSource_PlotError ?zd ?zb ?zt ?zp_InvalidText ?zp_HasPen ?zp_InvalidProgram ?zp_TooLarge ?zp_InvalidTimes ?zp_TooDeep ?n_Program_own_depth ?n_Program_own_length ?n_Program_own_nodes ?n_Program_own_text ?n_Program_own_words ?sf_Program___add__ ?r_Program___add__ ?u_Program___add___NoneType ?w_Program___add___NoneType ?qq_Program_NoneType ?u_Program___add___bool ?w_Program___add___bool ?qq_Program_bool ?u_Program___add___int ?w_Program___add___int ?qq_Program_int ?u_Program___add___str ?w_Program___add___str ?qq_Program_str ?u_Program___add___tuple ?w_Program___add___tuple ?qq_Program_tuple ?u_Program___add___list ?w_Program___add___list ?qq_Program_list ?u_Program___add___dict ?w_Program___add___dict ?qq_Program_dict ?sf_Program___mul__ ?r_Program___mul__ ?u_Program___mul___NoneType ?w_Program___mul___NoneType ?u_Program___mul___bool ?w_Program___mul___bool ?u_Program___mul___int ?w_Program___mul___int ?u_Program___mul___str ?w_Program___mul___str ?u_Program___mul___tuple ?w_Program___mul___tuple ?u_Program___mul___list ?w_Program___mul___list ?u_Program___mul___dict ?w_Program___mul___dict ?ic_Program ?tc_Program ?is_Program_NoneType ?is_Program_bool ?is_Program_int ?is_Program_str ?is_Program_tuple ?is_Program_list ?is_Program_dict ?it_Program_Program ?kg_REVERSED ?kl_REVERSED ?kk_REVERSED ?kv_REVERSED_0 ?kv_REVERSED_1 ?kv_REVERSED_2 ?kv_REVERSED_3 ?iy_Program_int
    (case g_Program => k_is); (case g_PlotError => k_is); (case g_InvalidText => k_is); (case g_InvalidSource => k_is); (case g_TooDeep => k_is); (case g_TooLarge => k_is); (case g_InvalidProgram => k_is); (case g_InvalidTimes => k_is)
    (case g_InvalidIndex => k_is); (case g_InvalidLetter => k_is); (case g_InvalidName => k_is); (case g_HasPen => k_is); (case g_InvalidMotion => k_is); (case g_InvalidPose => k_is); (case g_InvalidPoint => k_is); (case g_InvalidEdge => k_is)
    (case g_InvalidPicture => k_is); (case g_InvalidTurn => k_is); (case g_InvalidFace => k_is); (case g_InvalidFaces => k_is); (case g_NotEven => k_is); (case g_NotClosed => k_is); (case g_InvalidIntervals => k_is); (case g_InvalidPlace => k_is)
    (case g_NotDrifting => k_is); (case g_InvalidCount => k_is); (case g_NoSteps => k_is); (case g_InvalidOperation => k_is); (case g_Nothing => k_is); (case g_InvalidArt => k_is); (case g_InvalidCommand => k_is); (case a1 => k_is)
    (case i1 => k_is); (case l1 => k_is); (case c1 => k_is); (case k1 => k_is); (case a2 => k_is); (case i2 => k_is); (case l2 => k_is); (case c2 => k_is)
    (case k2 => k_is); (case a3 => k_is); (case i3 => k_is); (case l3 => k_is); (case c3 => k_is); (case k3 => k_is); (case a4 => k_is); (case i4 => k_is)
    (case l4 => k_is); (case c4 => k_is); (case k4 => k_is); (case a5 => k_is); (case l5 => k_is); (case c5 => k_is); (case k5 => k_is); (case a6 => k_is)
    (case l6 => k_is); (case c6 => k_is); (case k6 => k_is); (case a7 => k_is); (case l7 => k_is); (case c7 => k_is); (case k7 => k_is); (case a8 => k_is)
    (case l8 => k_is); (case c8 => k_is); (case k8 => k_is); (case a9 => k_is); (case l9 => k_is); (case c9 => k_is); (case k9 => k_is); (case a10 => k_is)
    (case l10 => k_is); (case c10 => k_is); (case k10 => k_is); (case a11 => k_is); (case l11 => k_is); (case c11 => k_is); (case k11 => k_is); (case a12 => k_is)
    (case l12 => k_is); (case c12 => k_is); (case k12 => k_is); (case a13 => k_is); (case l13 => k_is); (case c13 => k_is); (case k13 => k_is); (case a14 => k_is)
    (case l14 => k_is); (case c14 => k_is); (case k14 => k_is); (case a15 => k_is); (case l15 => k_is); (case c15 => k_is); (case k15 => k_is); (case a16 => k_is)
    (case l16 => k_is); (case c16 => k_is); (case k16 => k_is); (case a17 => k_is); (case l17 => k_is); (case c17 => k_is); (case k17 => k_is); (case a18 => k_is)
    (case i18 => k_is); (case l18 => k_is); (case c18 => k_is); (case k18 => k_is); (case a19 => k_is); (case l19 => k_is); (case c19 => k_is); (case k19 => k_is)
    (case a20 => k_is); (case l20 => k_is); (case c20 => k_is); (case k20 => k_is); (case a21 => k_is); (case i21 => k_is); (case l21 => k_is); (case c21 => k_is)
    (case k21 => k_is); (case a22 => k_is); (case l22 => k_is); (case c22 => k_is); (case k22 => k_is); (case a23 => k_is); (case i23 => k_is); (case l23 => k_is)
    (case c23 => k_is); (case k23 => k_is); (case a24 => k_is); (case l24 => k_is); (case c24 => k_is); (case k24 => k_is); (case a25 => k_is); (case l25 => k_is)
    (case c25 => k_is); (case k25 => k_is); (case a26 => k_is); (case i26 => k_is); (case l26 => k_is); (case c26 => k_is); (case k26 => k_is); (case a27 => k_is)
    (case l27 => k_is); (case c27 => k_is); (case k27 => k_is); (case a28 => k_is); (case i28 => k_is); (case l28 => k_is); (case c28 => k_is); (case k28 => k_is)
    (case a29 => k_is); (case l29 => k_is); (case c29 => k_is); (case k29 => k_is); (case pa30 => k_is); (case pb30 => k_is); (case pc30 => k_is); (case pd30 => k_is)
    (case l30 => k_is); (case c30 => k_is); (case k30 => k_is); (case a31 => k_is); (case l31 => k_is); (case c31 => k_is); (case k31 => k_is); (case z_ValueError => k_is)
    (case z_all => k_is); (case z_bool => k_is); (case z_enumerate => k_is); (case z_int => k_is); (case z_isinstance => k_is); (case z_len => k_is); (case z_max => k_is); (case z_repr => k_is)
    (case z_str => k_is); (case z_tuple => k_is); (case v_DIGITS => k_is); (case v_LETTERS => k_is); (case v_MOST_DEPTH => k_is); (case v_MOST_DIGITS => k_is); (case v_MOST_TIMES => k_is); (case v_MOST_WORDS => k_is)
    (case pg_Program => k_is); (case hd_Program => k_is); (case po_Program => k_is); (case sa_Program => k_is); (case ha_Program => k_is); (case hn_Program => k_is); (case ht_Program => k_is); (case hm_Program => k_is)
    (case mk_Program => k_is); (case kc_Program => k_is); (case xl_InvalidText => k_is); (case xw_InvalidText => k_is); (case xk_InvalidText => k_is); (case xb_InvalidText => k_is); (case xt_InvalidText => k_is); (case xn_InvalidText_index => k_is)
    (case xl_InvalidSource => k_is); (case xw_InvalidSource => k_is); (case xk_InvalidSource => k_is); (case xb_InvalidSource => k_is); (case xt_InvalidSource => k_is); (case xn_InvalidSource_line => k_is); (case xn_InvalidSource_index => k_is); (case xl_TooDeep => k_is)
    (case xw_TooDeep => k_is); (case xk_TooDeep => k_is); (case xb_TooDeep => k_is); (case xt_TooDeep => k_is); (case xn_TooDeep_limit => k_is); (case xl_TooLarge => k_is); (case xw_TooLarge => k_is); (case xk_TooLarge => k_is)
    (case xb_TooLarge => k_is); (case xt_TooLarge => k_is); (case xn_TooLarge_limit => k_is); (case xk_HasPen => k_is); (case xb_HasPen => k_is); (case xt_HasPen => k_is); (case xk_InvalidProgram => k_is); (case xb_InvalidProgram => k_is)
    (case xt_InvalidProgram => k_is); (case xk_InvalidTimes => k_is); (case xb_InvalidTimes => k_is); (case xt_InvalidTimes => k_is); (case xk_InvalidIndex => k_is); (case xb_InvalidIndex => k_is); (case xt_InvalidIndex => k_is); (case xk_InvalidLetter => k_is)
    (case xb_InvalidLetter => k_is); (case xt_InvalidLetter => k_is); (case xk_InvalidName => k_is); (case xb_InvalidName => k_is); (case xt_InvalidName => k_is); (case xk_InvalidPicture => k_is); (case xb_InvalidPicture => k_is); (case xt_InvalidPicture => k_is)
    (case xk_InvalidMotion => k_is); (case xb_InvalidMotion => k_is); (case xt_InvalidMotion => k_is); (case xk_InvalidPose => k_is); (case xb_InvalidPose => k_is); (case xt_InvalidPose => k_is); (case xk_InvalidPoint => k_is); (case xb_InvalidPoint => k_is)
    (case xt_InvalidPoint => k_is); (case xk_InvalidEdge => k_is); (case xb_InvalidEdge => k_is); (case xt_InvalidEdge => k_is); (case xk_InvalidTurn => k_is); (case xb_InvalidTurn => k_is); (case xt_InvalidTurn => k_is); (case xk_InvalidFace => k_is)
    (case xb_InvalidFace => k_is); (case xt_InvalidFace => k_is); (case xk_InvalidFaces => k_is); (case xb_InvalidFaces => k_is); (case xt_InvalidFaces => k_is); (case xk_NotEven => k_is); (case xb_NotEven => k_is); (case xt_NotEven => k_is)
    (case xk_NotClosed => k_is); (case xb_NotClosed => k_is); (case xt_NotClosed => k_is); (case xk_Nothing => k_is); (case xb_Nothing => k_is); (case xt_Nothing => k_is); (case xk_InvalidIntervals => k_is); (case xb_InvalidIntervals => k_is)
    (case xt_InvalidIntervals => k_is); (case xk_InvalidPlace => k_is); (case xb_InvalidPlace => k_is); (case xt_InvalidPlace => k_is); (case xk_NotDrifting => k_is); (case xb_NotDrifting => k_is); (case xt_NotDrifting => k_is); (case xk_InvalidCount => k_is)
    (case xb_InvalidCount => k_is); (case xt_InvalidCount => k_is); (case xk_NoSteps => k_is); (case xb_NoSteps => k_is); (case xt_NoSteps => k_is); (case xk_InvalidOperation => k_is); (case xb_InvalidOperation => k_is); (case xt_InvalidOperation => k_is)
    (case xk_InvalidArt => k_is); (case xb_InvalidArt => k_is); (case xt_InvalidArt => k_is); (case xk_InvalidCommand => k_is); (case xb_InvalidCommand => k_is); (case xt_InvalidCommand => k_is); (case xk_PlotError => k_is); (case xb_PlotError => k_is)
    (case xt_PlotError => k_is); (case xs => k_is); (case xz => k_is); (case xg_InvalidText => k_is); (case xn_InvalidText => k_is); (case xd_InvalidText => k_is); (case xa_InvalidText => k_is); (case xo_InvalidText => k_is)
    (case xv_InvalidText => k_is); (case xg_HasPen => k_is); (case xn_HasPen => k_is); (case xd_HasPen => k_is); (case xa_HasPen => k_is); (case xo_HasPen => k_is); (case xv_HasPen => k_is); (case xg_InvalidProgram => k_is)
    (case xn_InvalidProgram => k_is); (case xd_InvalidProgram => k_is); (case xa_InvalidProgram => k_is); (case xo_InvalidProgram => k_is); (case xv_InvalidProgram => k_is); (case xg_TooLarge => k_is); (case xn_TooLarge => k_is); (case xd_TooLarge => k_is)
    (case xa_TooLarge => k_is); (case xo_TooLarge => k_is); (case xv_TooLarge => k_is); (case xg_InvalidTimes => k_is); (case xn_InvalidTimes => k_is); (case xd_InvalidTimes => k_is); (case xa_InvalidTimes => k_is); (case xo_InvalidTimes => k_is)
    (case xv_InvalidTimes => k_is); (case xg_TooDeep => k_is); (case xn_TooDeep => k_is); (case xd_TooDeep => k_is); (case xa_TooDeep => k_is); (case xo_TooDeep => k_is); (case xv_TooDeep => k_is); (case xg_InvalidIndex => k_is)
    (case xn_InvalidIndex => k_is); (case xd_InvalidIndex => k_is); (case xa_InvalidIndex => k_is); (case xo_InvalidIndex => k_is); (case xv_InvalidIndex => k_is); (case xg_InvalidLetter => k_is); (case xn_InvalidLetter => k_is); (case xd_InvalidLetter => k_is)
    (case xa_InvalidLetter => k_is); (case xo_InvalidLetter => k_is); (case xv_InvalidLetter => k_is); (case xg_InvalidName => k_is); (case xn_InvalidName => k_is); (case xd_InvalidName => k_is); (case xa_InvalidName => k_is); (case xo_InvalidName => k_is)
    (case xv_InvalidName => k_is); (case xg_InvalidPicture => k_is); (case xn_InvalidPicture => k_is); (case xd_InvalidPicture => k_is); (case xa_InvalidPicture => k_is); (case xo_InvalidPicture => k_is); (case xv_InvalidPicture => k_is); (case xg_InvalidMotion => k_is)
    (case xn_InvalidMotion => k_is); (case xd_InvalidMotion => k_is); (case xa_InvalidMotion => k_is); (case xo_InvalidMotion => k_is); (case xv_InvalidMotion => k_is); (case xg_InvalidPose => k_is); (case xn_InvalidPose => k_is); (case xd_InvalidPose => k_is)
    (case xa_InvalidPose => k_is); (case xo_InvalidPose => k_is); (case xv_InvalidPose => k_is); (case xg_InvalidPoint => k_is); (case xn_InvalidPoint => k_is); (case xd_InvalidPoint => k_is); (case xa_InvalidPoint => k_is); (case xo_InvalidPoint => k_is)
    (case xv_InvalidPoint => k_is); (case xg_InvalidEdge => k_is); (case xn_InvalidEdge => k_is); (case xd_InvalidEdge => k_is); (case xa_InvalidEdge => k_is); (case xo_InvalidEdge => k_is); (case xv_InvalidEdge => k_is); (case xg_InvalidTurn => k_is)
    (case xn_InvalidTurn => k_is); (case xd_InvalidTurn => k_is); (case xa_InvalidTurn => k_is); (case xo_InvalidTurn => k_is); (case xv_InvalidTurn => k_is); (case xg_InvalidFace => k_is); (case xn_InvalidFace => k_is); (case xd_InvalidFace => k_is)
    (case xa_InvalidFace => k_is); (case xo_InvalidFace => k_is); (case xv_InvalidFace => k_is); (case xg_InvalidFaces => k_is); (case xn_InvalidFaces => k_is); (case xd_InvalidFaces => k_is); (case xa_InvalidFaces => k_is); (case xo_InvalidFaces => k_is)
    (case xv_InvalidFaces => k_is); (case xg_NotEven => k_is); (case xn_NotEven => k_is); (case xd_NotEven => k_is); (case xa_NotEven => k_is); (case xo_NotEven => k_is); (case xv_NotEven => k_is); (case xg_NotClosed => k_is)
    (case xn_NotClosed => k_is); (case xd_NotClosed => k_is); (case xa_NotClosed => k_is); (case xo_NotClosed => k_is); (case xv_NotClosed => k_is); (case xg_Nothing => k_is); (case xn_Nothing => k_is); (case xd_Nothing => k_is)
    (case xa_Nothing => k_is); (case xo_Nothing => k_is); (case xv_Nothing => k_is); (case xg_InvalidIntervals => k_is); (case xn_InvalidIntervals => k_is); (case xd_InvalidIntervals => k_is); (case xa_InvalidIntervals => k_is); (case xo_InvalidIntervals => k_is)
    (case xv_InvalidIntervals => k_is); (case xg_InvalidPlace => k_is); (case xn_InvalidPlace => k_is); (case xd_InvalidPlace => k_is); (case xa_InvalidPlace => k_is); (case xo_InvalidPlace => k_is); (case xv_InvalidPlace => k_is); (case xg_NotDrifting => k_is)
    (case xn_NotDrifting => k_is); (case xd_NotDrifting => k_is); (case xa_NotDrifting => k_is); (case xo_NotDrifting => k_is); (case xv_NotDrifting => k_is); (case xg_InvalidCount => k_is); (case xn_InvalidCount => k_is); (case xd_InvalidCount => k_is)
    (case xa_InvalidCount => k_is); (case xo_InvalidCount => k_is); (case xv_InvalidCount => k_is); (case xg_NoSteps => k_is); (case xn_NoSteps => k_is); (case xd_NoSteps => k_is); (case xa_NoSteps => k_is); (case xo_NoSteps => k_is)
    (case xv_NoSteps => k_is); (case xg_InvalidOperation => k_is); (case xn_InvalidOperation => k_is); (case xd_InvalidOperation => k_is); (case xa_InvalidOperation => k_is); (case xo_InvalidOperation => k_is); (case xv_InvalidOperation => k_is); (case xg_InvalidArt => k_is)
    (case xn_InvalidArt => k_is); (case xd_InvalidArt => k_is); (case xa_InvalidArt => k_is); (case xo_InvalidArt => k_is); (case xv_InvalidArt => k_is); (case xg_InvalidCommand => k_is); (case xn_InvalidCommand => k_is); (case xd_InvalidCommand => k_is)
    (case xa_InvalidCommand => k_is); (case xo_InvalidCommand => k_is); (case xv_InvalidCommand => k_is); (case xg_InvalidSource => k_is); (case xn_InvalidSource => k_is); (case xd_InvalidSource => k_is); (case xa_InvalidSource => k_is); (case xo_InvalidSource => k_is)
    (case xv_InvalidSource => k_is); (case xg_PlotError => k_is); (case xn_PlotError => k_is); (case xd_PlotError => k_is); (case xa_PlotError => k_is); (case xo_PlotError => k_is); (case xv_PlotError => k_is); (case yc_InvalidText => k_is)
    (case yt_InvalidText => k_is); (case ys_InvalidText => k_is); (case yc_HasPen => k_is); (case yt_HasPen => k_is); (case ys_HasPen => k_is); (case yc_PlotError => k_is); (case yt_PlotError => k_is); (case ys_PlotError => k_is)
    (case yc_InvalidArt => k_is); (case yt_InvalidArt => k_is); (case ys_InvalidArt => k_is); (case yc_InvalidCommand => k_is); (case yt_InvalidCommand => k_is); (case ys_InvalidCommand => k_is); (case yc_InvalidCount => k_is); (case yt_InvalidCount => k_is)
    (case ys_InvalidCount => k_is); (case yc_InvalidEdge => k_is); (case yt_InvalidEdge => k_is); (case ys_InvalidEdge => k_is); (case yc_InvalidFace => k_is); (case yt_InvalidFace => k_is); (case ys_InvalidFace => k_is); (case yc_InvalidFaces => k_is)
    (case yt_InvalidFaces => k_is); (case ys_InvalidFaces => k_is); (case yc_InvalidIntervals => k_is); (case yt_InvalidIntervals => k_is); (case ys_InvalidIntervals => k_is); (case yc_InvalidMotion => k_is); (case yt_InvalidMotion => k_is); (case ys_InvalidMotion => k_is)
    (case yc_InvalidOperation => k_is); (case yt_InvalidOperation => k_is); (case ys_InvalidOperation => k_is); (case yc_InvalidPicture => k_is); (case yt_InvalidPicture => k_is); (case ys_InvalidPicture => k_is); (case yc_InvalidPlace => k_is); (case yt_InvalidPlace => k_is)
    (case ys_InvalidPlace => k_is); (case yc_InvalidPoint => k_is); (case yt_InvalidPoint => k_is); (case ys_InvalidPoint => k_is); (case yc_InvalidPose => k_is); (case yt_InvalidPose => k_is); (case ys_InvalidPose => k_is); (case yc_InvalidTurn => k_is)
    (case yt_InvalidTurn => k_is); (case ys_InvalidTurn => k_is); (case yc_NoSteps => k_is); (case yt_NoSteps => k_is); (case ys_NoSteps => k_is); (case yc_NotClosed => k_is); (case yt_NotClosed => k_is); (case ys_NotClosed => k_is)
    (case yc_NotDrifting => k_is); (case yt_NotDrifting => k_is); (case ys_NotDrifting => k_is); (case yc_NotEven => k_is); (case yt_NotEven => k_is); (case ys_NotEven => k_is); (case yc_Nothing => k_is); (case yt_Nothing => k_is)
    (case ys_Nothing => k_is); (case yc_InvalidSource => k_is); (case yt_InvalidSource => k_is); (case ys_InvalidSource => k_is); (case yc_InvalidProgram => k_is); (case yt_InvalidProgram => k_is); (case ys_InvalidProgram => k_is); (case yc_InvalidTimes => k_is)
    (case yt_InvalidTimes => k_is); (case ys_InvalidTimes => k_is); (case yc_InvalidIndex => k_is); (case yt_InvalidIndex => k_is); (case ys_InvalidIndex => k_is); (case yc_InvalidLetter => k_is); (case yt_InvalidLetter => k_is); (case ys_InvalidLetter => k_is)
    (case yc_InvalidName => k_is); (case yt_InvalidName => k_is); (case ys_InvalidName => k_is); (case yc_TooDeep => k_is); (case yt_TooDeep => k_is); (case ys_TooDeep => k_is); (case yc_TooLarge => k_is); (case yt_TooLarge => k_is)
    (case ys_TooLarge => k_is); (case yp_HasPen_InvalidText => k_is); (case yp_HasPen_PlotError => k_is); (case yp_HasPen_InvalidArt => k_is); (case yp_HasPen_InvalidCommand => k_is); (case yp_HasPen_InvalidCount => k_is); (case yp_HasPen_InvalidEdge => k_is); (case yp_HasPen_InvalidFace => k_is)
    (case yp_HasPen_InvalidFaces => k_is); (case yp_HasPen_InvalidIntervals => k_is); (case yp_HasPen_InvalidMotion => k_is); (case yp_HasPen_InvalidOperation => k_is); (case yp_HasPen_InvalidPicture => k_is); (case yp_HasPen_InvalidPlace => k_is); (case yp_HasPen_InvalidPoint => k_is); (case yp_HasPen_InvalidPose => k_is)
    (case yp_HasPen_InvalidTurn => k_is); (case yp_HasPen_NoSteps => k_is); (case yp_HasPen_NotClosed => k_is); (case yp_HasPen_NotDrifting => k_is); (case yp_HasPen_NotEven => k_is); (case yp_HasPen_Nothing => k_is); (case yp_HasPen_InvalidSource => k_is); (case yp_HasPen_InvalidProgram => k_is)
    (case yp_HasPen_InvalidTimes => k_is); (case yp_HasPen_InvalidIndex => k_is); (case yp_HasPen_InvalidLetter => k_is); (case yp_HasPen_InvalidName => k_is); (case yp_HasPen_TooDeep => k_is); (case yp_HasPen_TooLarge => k_is); (case yp_InvalidProgram_InvalidText => k_is); (case yp_InvalidProgram_HasPen => k_is)
    (case yp_InvalidProgram_PlotError => k_is); (case yp_InvalidProgram_InvalidArt => k_is); (case yp_InvalidProgram_InvalidCommand => k_is); (case yp_InvalidProgram_InvalidCount => k_is); (case yp_InvalidProgram_InvalidEdge => k_is); (case yp_InvalidProgram_InvalidFace => k_is); (case yp_InvalidProgram_InvalidFaces => k_is); (case yp_InvalidProgram_InvalidIntervals => k_is)
    (case yp_InvalidProgram_InvalidMotion => k_is); (case yp_InvalidProgram_InvalidOperation => k_is); (case yp_InvalidProgram_InvalidPicture => k_is); (case yp_InvalidProgram_InvalidPlace => k_is); (case yp_InvalidProgram_InvalidPoint => k_is); (case yp_InvalidProgram_InvalidPose => k_is); (case yp_InvalidProgram_InvalidTurn => k_is); (case yp_InvalidProgram_NoSteps => k_is)
    (case yp_InvalidProgram_NotClosed => k_is); (case yp_InvalidProgram_NotDrifting => k_is); (case yp_InvalidProgram_NotEven => k_is); (case yp_InvalidProgram_Nothing => k_is); (case yp_InvalidProgram_InvalidSource => k_is); (case yp_InvalidProgram_InvalidTimes => k_is); (case yp_InvalidProgram_InvalidIndex => k_is); (case yp_InvalidProgram_InvalidLetter => k_is)
    (case yp_InvalidProgram_InvalidName => k_is); (case yp_InvalidProgram_TooDeep => k_is); (case yp_InvalidProgram_TooLarge => k_is); (case yp_TooLarge_InvalidText => k_is); (case yp_TooLarge_HasPen => k_is); (case yp_TooLarge_PlotError => k_is); (case yp_TooLarge_InvalidArt => k_is); (case yp_TooLarge_InvalidCommand => k_is)
    (case yp_TooLarge_InvalidCount => k_is); (case yp_TooLarge_InvalidEdge => k_is); (case yp_TooLarge_InvalidFace => k_is); (case yp_TooLarge_InvalidFaces => k_is); (case yp_TooLarge_InvalidIntervals => k_is); (case yp_TooLarge_InvalidMotion => k_is); (case yp_TooLarge_InvalidOperation => k_is); (case yp_TooLarge_InvalidPicture => k_is)
    (case yp_TooLarge_InvalidPlace => k_is); (case yp_TooLarge_InvalidPoint => k_is); (case yp_TooLarge_InvalidPose => k_is); (case yp_TooLarge_InvalidTurn => k_is); (case yp_TooLarge_NoSteps => k_is); (case yp_TooLarge_NotClosed => k_is); (case yp_TooLarge_NotDrifting => k_is); (case yp_TooLarge_NotEven => k_is)
    (case yp_TooLarge_Nothing => k_is); (case yp_TooLarge_InvalidSource => k_is); (case yp_TooLarge_InvalidProgram => k_is); (case yp_TooLarge_InvalidTimes => k_is); (case yp_TooLarge_InvalidIndex => k_is); (case yp_TooLarge_InvalidLetter => k_is); (case yp_TooLarge_InvalidName => k_is); (case yp_TooLarge_TooDeep => k_is)
    (case yp_InvalidTimes_InvalidText => k_is); (case yp_InvalidTimes_HasPen => k_is); (case yp_InvalidTimes_PlotError => k_is); (case yp_InvalidTimes_InvalidArt => k_is); (case yp_InvalidTimes_InvalidCommand => k_is); (case yp_InvalidTimes_InvalidCount => k_is); (case yp_InvalidTimes_InvalidEdge => k_is); (case yp_InvalidTimes_InvalidFace => k_is)
    (case yp_InvalidTimes_InvalidFaces => k_is); (case yp_InvalidTimes_InvalidIntervals => k_is); (case yp_InvalidTimes_InvalidMotion => k_is); (case yp_InvalidTimes_InvalidOperation => k_is); (case yp_InvalidTimes_InvalidPicture => k_is); (case yp_InvalidTimes_InvalidPlace => k_is); (case yp_InvalidTimes_InvalidPoint => k_is); (case yp_InvalidTimes_InvalidPose => k_is)
    (case yp_InvalidTimes_InvalidTurn => k_is); (case yp_InvalidTimes_NoSteps => k_is); (case yp_InvalidTimes_NotClosed => k_is); (case yp_InvalidTimes_NotDrifting => k_is); (case yp_InvalidTimes_NotEven => k_is); (case yp_InvalidTimes_Nothing => k_is); (case yp_InvalidTimes_InvalidSource => k_is); (case yp_InvalidTimes_InvalidProgram => k_is)
    (case yp_InvalidTimes_InvalidIndex => k_is); (case yp_InvalidTimes_InvalidLetter => k_is); (case yp_InvalidTimes_InvalidName => k_is); (case yp_InvalidTimes_TooDeep => k_is); (case yp_InvalidTimes_TooLarge => k_is); (case yp_TooDeep_InvalidText => k_is); (case yp_TooDeep_HasPen => k_is); (case yp_TooDeep_PlotError => k_is)
    (case yp_TooDeep_InvalidArt => k_is); (case yp_TooDeep_InvalidCommand => k_is); (case yp_TooDeep_InvalidCount => k_is); (case yp_TooDeep_InvalidEdge => k_is); (case yp_TooDeep_InvalidFace => k_is); (case yp_TooDeep_InvalidFaces => k_is); (case yp_TooDeep_InvalidIntervals => k_is); (case yp_TooDeep_InvalidMotion => k_is)
    (case yp_TooDeep_InvalidOperation => k_is); (case yp_TooDeep_InvalidPicture => k_is); (case yp_TooDeep_InvalidPlace => k_is); (case yp_TooDeep_InvalidPoint => k_is); (case yp_TooDeep_InvalidPose => k_is); (case yp_TooDeep_InvalidTurn => k_is); (case yp_TooDeep_NoSteps => k_is); (case yp_TooDeep_NotClosed => k_is)
    (case yp_TooDeep_NotDrifting => k_is); (case yp_TooDeep_NotEven => k_is); (case yp_TooDeep_Nothing => k_is); (case yp_TooDeep_InvalidSource => k_is); (case yp_TooDeep_InvalidProgram => k_is); (case yp_TooDeep_InvalidTimes => k_is); (case yp_TooDeep_InvalidIndex => k_is); (case yp_TooDeep_InvalidLetter => k_is)
    (case yp_TooDeep_InvalidName => k_is); (case yp_TooDeep_TooLarge => k_is); (case yp_PlotError_InvalidText => k_is); (case yp_PlotError_HasPen => k_is); (case yp_PlotError_InvalidArt => k_is); (case yp_PlotError_InvalidCommand => k_is); (case yp_PlotError_InvalidCount => k_is); (case yp_PlotError_InvalidEdge => k_is)
    (case yp_PlotError_InvalidFace => k_is); (case yp_PlotError_InvalidFaces => k_is); (case yp_PlotError_InvalidIntervals => k_is); (case yp_PlotError_InvalidMotion => k_is); (case yp_PlotError_InvalidOperation => k_is); (case yp_PlotError_InvalidPicture => k_is); (case yp_PlotError_InvalidPlace => k_is); (case yp_PlotError_InvalidPoint => k_is)
    (case yp_PlotError_InvalidPose => k_is); (case yp_PlotError_InvalidTurn => k_is); (case yp_PlotError_NoSteps => k_is); (case yp_PlotError_NotClosed => k_is); (case yp_PlotError_NotDrifting => k_is); (case yp_PlotError_NotEven => k_is); (case yp_PlotError_Nothing => k_is); (case yp_PlotError_InvalidSource => k_is)
    (case yp_PlotError_InvalidProgram => k_is); (case yp_PlotError_InvalidTimes => k_is); (case yp_PlotError_InvalidIndex => k_is); (case yp_PlotError_InvalidLetter => k_is); (case yp_PlotError_InvalidName => k_is); (case yp_PlotError_TooDeep => k_is); (case yp_PlotError_TooLarge => k_is); (case yp_InvalidText_PlotError => k_is)
    (case yp_InvalidIndex_PlotError => k_is); (case yp_InvalidLetter_PlotError => k_is); (case yp_InvalidName_PlotError => k_is); (case yp_InvalidPicture_PlotError => k_is); (case yp_InvalidMotion_PlotError => k_is); (case yp_InvalidPose_PlotError => k_is); (case yp_InvalidPoint_PlotError => k_is); (case yp_InvalidEdge_PlotError => k_is)
    (case yp_InvalidTurn_PlotError => k_is); (case yp_InvalidFace_PlotError => k_is); (case yp_InvalidFaces_PlotError => k_is); (case yp_NotEven_PlotError => k_is); (case yp_NotClosed_PlotError => k_is); (case yp_Nothing_PlotError => k_is); (case yp_InvalidIntervals_PlotError => k_is); (case yp_InvalidPlace_PlotError => k_is)
    (case yp_NotDrifting_PlotError => k_is); (case yp_InvalidCount_PlotError => k_is); (case yp_NoSteps_PlotError => k_is); (case yp_InvalidOperation_PlotError => k_is); (case yp_InvalidArt_PlotError => k_is); (case yp_InvalidCommand_PlotError => k_is); (case yp_InvalidSource_PlotError => k_is); (case zd => k_is)
    (case zb => k_is); (case zt => k_is); (case zp_InvalidText => k_is); (case zp_HasPen => k_is); (case zp_InvalidProgram => k_is); (case zp_TooLarge => k_is); (case zp_InvalidTimes => k_is); (case zp_TooDeep => k_is)
    (case n_Program_own_depth => k_is); (case n_Program_own_length => k_is); (case n_Program_own_nodes => k_is); (case n_Program_own_text => k_is); (case n_Program_own_words => k_is); (case sf_Program___add__ => k_is); (case r_Program___add__ => k_is); (case u_Program___add___NoneType => k_is)
    (case w_Program___add___NoneType => k_is); (case qq_Program_NoneType => k_is); (case u_Program___add___bool => k_is); (case w_Program___add___bool => k_is); (case qq_Program_bool => k_is); (case u_Program___add___int => k_is); (case w_Program___add___int => k_is); (case qq_Program_int => k_is)
    (case u_Program___add___str => k_is); (case w_Program___add___str => k_is); (case qq_Program_str => k_is); (case u_Program___add___tuple => k_is); (case w_Program___add___tuple => k_is); (case qq_Program_tuple => k_is); (case u_Program___add___list => k_is); (case w_Program___add___list => k_is)
    (case qq_Program_list => k_is); (case u_Program___add___dict => k_is); (case w_Program___add___dict => k_is); (case qq_Program_dict => k_is); (case sf_Program___mul__ => k_is); (case r_Program___mul__ => k_is); (case u_Program___mul___NoneType => k_is); (case w_Program___mul___NoneType => k_is)
    (case u_Program___mul___bool => k_is); (case w_Program___mul___bool => k_is); (case u_Program___mul___int => k_is); (case w_Program___mul___int => k_is); (case u_Program___mul___str => k_is); (case w_Program___mul___str => k_is); (case u_Program___mul___tuple => k_is); (case w_Program___mul___tuple => k_is)
    (case u_Program___mul___list => k_is); (case w_Program___mul___list => k_is); (case u_Program___mul___dict => k_is); (case w_Program___mul___dict => k_is); (case ic_Program => k_is); (case tc_Program => k_is); (case is_Program_NoneType => k_is); (case is_Program_bool => k_is)
    (case is_Program_int => k_is); (case is_Program_str => k_is); (case is_Program_tuple => k_is); (case is_Program_list => k_is); (case is_Program_dict => k_is); (case it_Program_Program => k_is); (case kg_REVERSED => k_is); (case kl_REVERSED => k_is)
    (case kv_REVERSED_0 => k_is); (case kv_REVERSED_1 => k_is); (case kv_REVERSED_2 => k_is); (case kv_REVERSED_3 => k_is); (case iy_Program_int => k_is)
    (case nd => decide)
    (case xe_InvalidText => rfl)
    (case xe_InvalidSource => rfl)
    (case xe_TooDeep => rfl)
    (case xe_TooLarge => rfl)
    (case xq_HasPen => k_exc)
    (case xq_InvalidProgram => k_exc)
    (case xq_InvalidTimes => k_exc)
    (case xq_InvalidIndex => k_exc)
    (case xq_InvalidLetter => k_exc)
    (case xq_InvalidName => k_exc)
    (case xq_InvalidPicture => k_exc)
    (case xq_InvalidMotion => k_exc)
    (case xq_InvalidPose => k_exc)
    (case xq_InvalidPoint => k_exc)
    (case xq_InvalidEdge => k_exc)
    (case xq_InvalidTurn => k_exc)
    (case xq_InvalidFace => k_exc)
    (case xq_InvalidFaces => k_exc)
    (case xq_NotEven => k_exc)
    (case xq_NotClosed => k_exc)
    (case xq_Nothing => k_exc)
    (case xq_InvalidIntervals => k_exc)
    (case xq_InvalidPlace => k_exc)
    (case xq_NotDrifting => k_exc)
    (case xq_InvalidCount => k_exc)
    (case xq_NoSteps => k_exc)
    (case xq_InvalidOperation => k_exc)
    (case xq_InvalidArt => k_exc)
    (case xq_InvalidCommand => k_exc)
    (case xq_PlotError => k_exc)
    (case kk_REVERSED => rfl)
