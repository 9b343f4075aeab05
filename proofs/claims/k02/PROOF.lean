import PyProof.Rows.All
import Wide.All
import OpenK.AllK
import Wide.FinOn
import HandS.ForMost
import HandS.Exc
import HandS.TryOnly
import HandS.ExcOwn
import HandS.WordsExc
import HandS.CallSlots
import HandS.Wide
import HandS.IsInst
import HandS.SortRule
import HandS.SortInts
import HandS.EndBits
import HandS.TupAny
import HandS.Style
import HandS.Property
import HandS.SlotsOwn
import HandS.Star
import KE.KOpsOwn
import PyProof.InstNe
import PyProof.ReprRoads
import HandS.SetFor
import HandS.Strs
import HandS.Conv
import HandS.Text
import HandS.Rev
import HandS.WideBits
import HandS.RaiseMore
import HandS.TupLe
import PyProof.StrOps2
import HandS.MakeKwOnly
import HandS.ExcIs
import HandS.Deep
import HandS.GenList
import PyProof.ListStr
import HandS.ExcInit
import HandS.ExcField
import KE.KExcIs
import HandS.DictComp
import HandS.TupLen
import HandS.WordsDict
import HandS.StrMore
import HandS.More
import PySem.Challenge.RW_plotpens_k02_texts_refused
set_option Elab.async false
set_option linter.all false
set_option maxRecDepth 100000
namespace DL
open PySem PySem.Spec L2
/-- a dict's key by its value -/
inductive DKey where
  | k (k : Key)
  | t (ks : List Key)
  deriving DecidableEq
/-- a value that nobody changes any more -/
inductive D where
  | non
  | bl (b : Bool)
  | int (i : Int)
  | str (x : Str)
  | ty (n : String)
  | cls (C : Addr)
  | tup (xs : List D)
  | ktu (xs : List D)
  | lst (xs : List D)
  | scr (ns : List Int)
  | dic (tk : Bool) (ks : List DKey) (vs : List D)
  | ins (C : Addr) (ns : List Str) (vs : List D)
  | exc (C : Addr) (ns : List Str) (vs : List D)
/-- an exception object of the class cls with the dict d, at a -/
noncomputable def ExT (cls : Value) (d : Option Addr) (a : Addr) : HO := .ext fun h => ∃ oe : Obj, h.get? a = some oe ∧ Zc cls d oe ∧ ∃ vs, oe.data = .fields vs
/-- a value that one name alone reaches (fz: a D) -/
inductive OT where
  | fz (d : D)
  | ol (ts : List OT)
  | od (tk : Bool) (ks : List DKey) (ts : List OT)
  | oi (C : Addr) (ns : List Str) (ts : List OT)
mutual
inductive Rep (K : PySem.W.Frag) (F : Hp) : V → D → Prop
  | non : Rep K F .non .non
  | bl (b : Bool) : Rep K F (.bl b) (.bl b)
  | int (i : Int) : Rep K F (.int i) (.int i)
  | str (x : Str) : Rep K F (.str x) (.str x)
  | ty (n : String) : Rep K F (.ty n) (.ty n)
  | cls (C : Addr) : Rep K F (.ref C) (.cls C)
  | tup {a : Addr} {vs : List V} {ds : List D} : F a = some (.tup vs) → Reps K F vs ds → Rep K F (.ref a) (.tup ds)
  | ktu {a : Addr} {vs : List V} {ds : List D} : SqT K F a vs → Reps K F vs ds → Rep K F (.ref a) (.ktu ds)
  | lst {a : Addr} {vs : List V} {ds : List D} : Rd F a (.lst vs) → Reps K F vs ds → Rep K F (.ref a) (.lst ds)
  | scr {a : Addr} {ns : List Int} : SqL K F a (ns.map V.int) → Rep K F (.ref a) (.scr ns)
  | dicK {a : Addr} {kvs : List (Key × V)} {ds : List D} : Rd F a (.dK kvs) → Reps K F (kvs.map (·.2)) ds → Rep K F (.ref a) (.dic false (kvs.map fun p => .k p.1) ds)
  | dicT {a : Addr} {kvs : List (List Key × V)} {ds : List D} : Rd F a (.dT kvs) → Reps K F (kvs.map (·.2)) ds → Rep K F (.ref a) (.dic true (kvs.map fun p => .t p.1) ds)
  | ins {a C dx : Addr} {fvs : List (Str × V)} {ds : List D} : F a = some (.ins C dx fvs) → Reps K F (fvs.map (·.2)) ds → Rep K F (.ref a) (.ins C (fvs.map (·.1)) ds)
  | exc {a C : Addr} {d : Option Addr} {fvs : List (Str × V)} {ds : List D} : F a = some (ExT (.ref C) d a) → (∀ dx, d = some dx → F dx = some (.xd fvs)) → (d = none ↔ fvs = []) → Reps K F (fvs.map (·.2)) ds → Rep K F (.ref a) (.exc C (fvs.map (·.1)) ds)
inductive Reps (K : PySem.W.Frag) (F : Hp) : List V → List D → Prop
  | nil : Reps K F [] []
  | cons {v : V} {vs : List V} {d : D} {ds : List D} : Rep K F v d → Reps K F vs ds → Reps K F (v :: vs) (d :: ds)
end
theorem Same.rd {H H' : Hp} {a : Addr} {u : HO} (e : Same H H') (h : Rd H a u) : Rd H' a u := by
  rcases h with h | ⟨o, h⟩
  · exact .inl (e _ _ h)
  · exact .inr ⟨o, e _ _ h⟩
theorem Same.sqt {K : PySem.W.Frag} {H H' : Hp} {a : Addr} {xs : List V} (e : Same H H') (h : SqT K H a xs) : SqT K H' a xs := by
  rcases h with h | h
  · exact .inl (Same.rd e h)
  · exact .inr h
theorem Same.upd {H : Hp} {p : Addr} {o : HO} (h : H p = none) : Same H (upd H p o) := fun a u e => by
  rw [upd_ne (ne_of_none e h)]; exact e
section
variable {K : PySem.W.Frag} {F F' H H' : Hp}
mutual
theorem Rep.mono (e : Same F F') : ∀ {v : V} {d : D}, Rep K F v d → Rep K F' v d
  | _, _, .non => .non
  | _, _, .bl b => .bl b
  | _, _, .int i => .int i
  | _, _, .str x => .str x
  | _, _, .ty n => .ty n
  | _, _, .cls C => .cls C
  | _, _, .tup h r => .tup (e _ _ h) (Reps.mono e r)
  | _, _, .ktu h r => .ktu (Same.sqt e h) (Reps.mono e r)
  | _, _, .lst h r => .lst (Same.rd e h) (Reps.mono e r)
  | _, _, .scr h => .scr (e.seq h)
  | _, _, .dicK h r => .dicK (Same.rd e h) (Reps.mono e r)
  | _, _, .dicT h r => .dicT (Same.rd e h) (Reps.mono e r)
  | _, _, .ins h r => .ins (e _ _ h) (Reps.mono e r)
  | _, _, .exc h k n r => .exc (e _ _ h) (fun dx z => e _ _ (k dx z)) n (Reps.mono e r)
theorem Reps.mono (e : Same F F') : ∀ {vs : List V} {ds : List D}, Reps K F vs ds → Reps K F' vs ds
  | _, _, .nil => .nil
  | _, _, .cons h r => .cons (Rep.mono e h) (Reps.mono e r)
end
theorem Reps.length : ∀ {vs : List V} {ds : List D}, Reps K F vs ds → vs.length = ds.length
  | _, _, .nil => rfl
  | _, _, .cons _ r => by rw [List.length_cons, List.length_cons, Reps.length r]
theorem Reps.get : ∀ {vs : List V} {ds : List D} {i : Nat} {d : D}, Reps K F vs ds → ds[i]? = some d → ∃ v, vs[i]? = some v ∧ Rep K F v d
  | _, _, _, _, .nil, e => by simp at e
  | _, _, 0, _, .cons h _, e => by simp at e; subst e; exact ⟨_, rfl, h⟩
  | _, _, i + 1, _, .cons _ r, e => by
    obtain ⟨v, h1, h2⟩ := Reps.get (i := i) r (by simpa using e)
    exact ⟨v, by simpa using h1, h2⟩
theorem Reps.append : ∀ {vs ws : List V} {ds es : List D}, Reps K F vs ds → Reps K F ws es → Reps K F (vs ++ ws) (ds ++ es)
  | _, _, _, _, .nil, s => s
  | _, _, _, _, .cons h r, s => .cons h (Reps.append r s)
theorem Reps.one {v : V} {d : D} (h : Rep K F v d) : Reps K F [v] [d] := .cons h .nil
theorem Reps.take : ∀ {vs : List V} {ds : List D} (n : Nat), Reps K F vs ds → Reps K F (vs.take n) (ds.take n)
  | _, _, 0, _ => .nil
  | _, _, _ + 1, .nil => .nil
  | _, _, n + 1, .cons h r => .cons h (Reps.take n r)
theorem Reps.drop : ∀ {vs : List V} {ds : List D} (n : Nat), Reps K F vs ds → Reps K F (vs.drop n) (ds.drop n)
  | _, _, 0, r => r
  | _, _, _ + 1, .nil => .nil
  | _, _, n + 1, .cons _ r => Reps.drop n r
theorem Reps.dropLast {vs : List V} {ds : List D} (r : Reps K F vs ds) : Reps K F vs.dropLast ds.dropLast := by
  rw [List.dropLast_eq_take, List.dropLast_eq_take, r.length]; exact r.take _
theorem Reps.reverse : ∀ {vs : List V} {ds : List D}, Reps K F vs ds → Reps K F vs.reverse ds.reverse
  | _, _, .nil => .nil
  | _, _, .cons h r => by rw [List.reverse_cons, List.reverse_cons]; exact (Reps.reverse r).append (.one h)
theorem Reps.set : ∀ {vs : List V} {ds : List D} {v : V} {d : D} (i : Nat), Rep K F v d → Reps K F vs ds → Reps K F (vs.set i v) (ds.set i d)
  | _, _, _, _, _, _, .nil => .nil
  | _, _, _, _, 0, h, .cons _ r => .cons h r
  | _, _, _, _, i + 1, h, .cons k r => .cons k (Reps.set i h r)
/-- ints -/
theorem Reps.ints : ∀ (ns : List Int), Reps K F (ns.map V.int) (ns.map D.int)
  | [] => .nil
  | n :: r => .cons (.int n) (Reps.ints r)
end
mutual
noncomputable def OT.view : OT → D
  | .fz d => d
  | .ol ts => .lst (OT.views ts)
  | .od tk ks ts => .dic tk ks (OT.views ts)
  | .oi C ns ts => .ins C ns (OT.views ts)
noncomputable def OT.views : List OT → List D
  | [] => []
  | t :: ts => t.view :: OT.views ts
end
theorem views_fz : ∀ ds : List D, OT.views (ds.map OT.fz) = ds
  | [] => by rw [List.map_nil, OT.views]
  | d :: ds => by rw [List.map_cons, OT.views, OT.view, views_fz ds]
mutual
noncomputable def RepO (K : PySem.W.Frag) (F H : Hp) : OT → V → (Addr → Prop) → Prop
  | .fz d, v, _ => Rep K F v d
  | .ol ts, v, P => ∃ (a : Addr) (vs : List V), v = .ref a ∧ P a ∧ H a = some (.lst vs) ∧ RepOs K F H ts vs (fun x => P x ∧ x ≠ a)
  | .od tk ks ts, v, P => ∃ (a : Addr), v = .ref a ∧ P a ∧
      ((tk = false ∧ ∃ kvs : List (Key × V), H a = some (.dK kvs) ∧ ks = kvs.map (fun p => DKey.k p.1) ∧ RepOs K F H ts (kvs.map (·.2)) (fun x => P x ∧ x ≠ a)) ∨
       (tk = true ∧ ∃ kvs : List (List Key × V), H a = some (.dT kvs) ∧ ks = kvs.map (fun p => DKey.t p.1) ∧ RepOs K F H ts (kvs.map (·.2)) (fun x => P x ∧ x ≠ a)))
  | .oi C ns ts, v, P => ∃ (a dx : Addr) (fvs : List (Str × V)), v = .ref a ∧ P a ∧ H a = some (.ins C dx fvs) ∧ ns = fvs.map (·.1) ∧ RepOs K F H ts (fvs.map (·.2)) (fun x => P x ∧ x ≠ a)
noncomputable def RepOs (K : PySem.W.Frag) (F H : Hp) : List OT → List V → (Addr → Prop) → Prop
  | [], vs, _ => vs = []
  | t :: ts, vs, P => ∃ (v : V) (ws : List V) (P1 P2 : Addr → Prop), vs = v :: ws ∧ (∀ x, P1 x → P x) ∧ (∀ x, P2 x → P x ∧ ¬ P1 x) ∧ RepO K F H t v P1 ∧ RepOs K F H ts ws P2
end
section
variable {K : PySem.W.Frag} {F F' H H' : Hp}
mutual
theorem RepO.mono (e : Same F F') : ∀ {t : OT} {v : V} {P P' : Addr → Prop}, (∀ x, P x → P' x ∧ H' x = H x) → RepO K F H t v P → RepO K F' H' t v P'
  | .fz d, v, P, P', _, h => by
    unfold RepO at h ⊢
    exact h.mono e
  | .ol ts, v, P, P', k, h => by
    unfold RepO at h ⊢
    obtain ⟨a, vs, rfl, pa, ha, r⟩ := h
    exact ⟨a, vs, rfl, (k a pa).1, by rw [(k a pa).2]; exact ha, RepOs.mono e (fun x hx => ⟨⟨(k x hx.1).1, hx.2⟩, (k x hx.1).2⟩) r⟩
  | .od tk ks ts, v, P, P', k, h => by
    unfold RepO at h ⊢
    obtain ⟨a, rfl, pa, h⟩ := h
    refine ⟨a, rfl, (k a pa).1, ?_⟩
    rcases h with ⟨e0, kvs, ha, hk, r⟩ | ⟨e0, kvs, ha, hk, r⟩
    · exact .inl ⟨e0, kvs, by rw [(k a pa).2]; exact ha, hk, RepOs.mono e (fun x hx => ⟨⟨(k x hx.1).1, hx.2⟩, (k x hx.1).2⟩) r⟩
    · exact .inr ⟨e0, kvs, by rw [(k a pa).2]; exact ha, hk, RepOs.mono e (fun x hx => ⟨⟨(k x hx.1).1, hx.2⟩, (k x hx.1).2⟩) r⟩
  | .oi C ns ts, v, P, P', k, h => by
    unfold RepO at h ⊢
    obtain ⟨a, dx, fvs, rfl, pa, ha, hn, r⟩ := h
    exact ⟨a, dx, fvs, rfl, (k a pa).1, by rw [(k a pa).2]; exact ha, hn, RepOs.mono e (fun x hx => ⟨⟨(k x hx.1).1, hx.2⟩, (k x hx.1).2⟩) r⟩
theorem RepOs.mono (e : Same F F') : ∀ {ts : List OT} {vs : List V} {P P' : Addr → Prop}, (∀ x, P x → P' x ∧ H' x = H x) → RepOs K F H ts vs P → RepOs K F' H' ts vs P'
  | [], vs, P, P', _, h => by
    unfold RepOs at h ⊢
    exact h
  | t :: ts, vs, P, P', k, h => by
    unfold RepOs at h ⊢
    obtain ⟨v, ws, P1, P2, rfl, h1, h2, r1, r2⟩ := h
    exact ⟨v, ws, P1, P2, rfl, fun x hx => (k x (h1 x hx)).1, fun x hx => ⟨(k x (h2 x hx).1).1, (h2 x hx).2⟩, RepO.mono e (fun x hx => ⟨hx, (k x (h1 x hx)).2⟩) r1, RepOs.mono e (fun x hx => ⟨hx, (k x (h2 x hx).1).2⟩) r2⟩
end
mutual
/-- frozen: the tree's own cells stand in F' as they stand in H -/
theorem RepO.frz (e : Same F F') : ∀ {t : OT} {v : V} {P : Addr → Prop}, (∀ x, P x → ∀ o, H x = some o → F' x = some o) → RepO K F H t v P → Rep K F' v t.view
  | .fz d, v, P, _, h => by
    unfold RepO at h
    rw [OT.view]
    exact h.mono e
  | .ol ts, v, P, k, h => by
    unfold RepO at h
    obtain ⟨a, vs, rfl, pa, ha, r⟩ := h
    rw [OT.view]
    exact .lst (.inl (k a pa _ ha)) (RepOs.frz e (fun x hx => k x hx.1) r)
  | .od tk ks ts, v, P, k, h => by
    unfold RepO at h
    obtain ⟨a, rfl, pa, h⟩ := h
    rw [OT.view]
    rcases h with ⟨e0, kvs, ha, hk, r⟩ | ⟨e0, kvs, ha, hk, r⟩
    · subst hk e0; exact .dicK (.inl (k a pa _ ha)) (RepOs.frz e (fun x hx => k x hx.1) r)
    · subst hk e0; exact .dicT (.inl (k a pa _ ha)) (RepOs.frz e (fun x hx => k x hx.1) r)
  | .oi C ns ts, v, P, k, h => by
    unfold RepO at h
    obtain ⟨a, dx, fvs, rfl, pa, ha, hn, r⟩ := h
    rw [OT.view]
    subst hn
    exact .ins (k a pa _ ha) (RepOs.frz e (fun x hx => k x hx.1) r)
theorem RepOs.frz (e : Same F F') : ∀ {ts : List OT} {vs : List V} {P : Addr → Prop}, (∀ x, P x → ∀ o, H x = some o → F' x = some o) → RepOs K F H ts vs P → Reps K F' vs (OT.views ts)
  | [], vs, P, _, h => by
    unfold RepOs at h
    subst h
    rw [OT.views]
    exact .nil
  | t :: ts, vs, P, k, h => by
    unfold RepOs at h
    obtain ⟨v, ws, P1, P2, rfl, h1, h2, r1, r2⟩ := h
    rw [OT.views]
    exact .cons (RepO.frz e (fun x hx => k x (h1 x hx)) r1) (RepOs.frz e (fun x hx => k x (h2 x hx).1) r2)
end
/-- a list of frozen items -/
theorem repOs_fz : ∀ {ds : List D} {vs : List V} {P : Addr → Prop}, RepOs K F H (ds.map OT.fz) vs P → Reps K F vs ds
  | [], vs, P, h => by
    rw [List.map_nil] at h
    unfold RepOs at h
    subst h
    exact .nil
  | d :: ds, vs, P, h => by
    rw [List.map_cons] at h
    unfold RepOs at h
    obtain ⟨v, ws, P1, P2, rfl, h1, h2, r1, r2⟩ := h
    unfold RepO at r1
    exact .cons r1 (repOs_fz r2)
theorem repOs_of : ∀ {ds : List D} {vs : List V} (P : Addr → Prop), Reps K F vs ds → RepOs K F H (ds.map OT.fz) vs P
  | [], vs, P, h => by
    cases h
    rw [List.map_nil]
    unfold RepOs
    rfl
  | d :: ds, vs, P, h => by
    cases h with
    | cons h r =>
      rw [List.map_cons]
      unfold RepOs
      refine ⟨_, _, fun _ => False, P, rfl, fun x z => z.elim, fun x z => ⟨z, id⟩, ?_, repOs_of P r⟩
      unfold RepO
      exact h
theorem RepOs.length : ∀ {ts : List OT} {vs : List V} {P : Addr → Prop}, RepOs K F H ts vs P → vs.length = ts.length
  | [], vs, P, h => by
    unfold RepOs at h
    subst h; rfl
  | t :: ts, vs, P, h => by
    unfold RepOs at h
    obtain ⟨v, ws, P1, P2, rfl, h1, h2, r1, r2⟩ := h
    rw [List.length_cons, List.length_cons, RepOs.length r2]
end
/-- a slot: nothing known; a tree; the tree of the j-th parameter that the caller goes on with -/
inductive S where
  | un
  | ow (t : OT)
  | pa (j : Nat)
structure SD where
  sl : List S
  pa : List OT
structure Own (K : PySem.W.Frag) (pv : List V) (G F : Hp) (sd : SD) (σ : St) (H : Hp) (o : Nat ⊕ Nat → Addr → Prop) : Prop where
  fh : Same F H
  gh : Same G H
  fg : ∀ a, F a ≠ none → G a = none
  oh : ∀ i a, o i a → H a ≠ none ∧ F a = none ∧ G a = none
  oo : ∀ i j a, o i a → o j a → i = j
  len : σ.length = sd.sl.length
  sl : ∀ (i : Nat) (t : OT), sd.sl[i]? = some (S.ow t) → ∃ v : V, σ[i]? = some (some v) ∧ RepO K F H t v (o (.inl i))
  sp : ∀ (i j : Nat), sd.sl[i]? = some (S.pa j) → ∃ v : V, pv[j]? = some v ∧ σ[i]? = some (some v)
  pr : ∀ (j : Nat) (t : OT), sd.pa[j]? = some t → ∃ v : V, pv[j]? = some v ∧ RepO K F H t v (o (.inr j))
noncomputable def StR (K : PySem.W.Frag) (pv : List V) (G F : Hp) (sd : SD) (σ : St) (H : Hp) : Prop := ∃ o, Own K pv G F sd σ H o
/-- .. and one tree more, that no name reaches yet -/
noncomputable def StR1 (K : PySem.W.Frag) (pv : List V) (G F : Hp) (sd : SD) (σ : St) (H : Hp) (v : V) (t : OT) : Prop :=
  ∃ o P, Own K pv G F sd σ H o ∧ RepO K F H t v P ∧ ∀ a, P a → H a ≠ none ∧ F a = none ∧ G a = none ∧ ∀ i, ¬ o i a
section
variable {K : PySem.W.Frag} {pv : List V} {G F F' H H' : Hp} {sd : SD} {σ : St} {o : Nat ⊕ Nat → Addr → Prop}
theorem Own.fresh (W : Own K pv G F sd σ H o) {p : Addr} (hp : H p = none) : F p = none ∧ G p = none ∧ ∀ i, ¬ o i p :=
  ⟨W.fh.free hp, W.gh.free hp, fun i q => (W.oh i p q).1 hp⟩
/-- the heap grows, F grows by what is new -/
theorem Own.grow (W : Own K pv G F sd σ H o) (h : Same H H') (f : Same F F') (fh : Same F' H') (fn : ∀ a, F' a ≠ none → F a ≠ none ∨ H a = none) : Own K pv G F' sd σ H' o where
  fh := fh
  gh := W.gh.trans h
  fg := fun a ha => by
    rcases fn a ha with z | z
    · exact W.fg a z
    · exact W.gh.free z
  oh := fun i a q => by
    obtain ⟨h1, h2, h3⟩ := W.oh i a q
    refine ⟨?_, ?_, h3⟩
    · cases e : H a with
      | none => exact absurd e h1
      | some u => rw [h _ _ e]; simp
    · cases e : F' a with
      | none => rfl
      | some u =>
        rcases fn a (by rw [e]; simp) with z | z
        · exact absurd h2 z
        · exact absurd z h1
  oo := W.oo
  len := W.len
  sl := fun i t e => by
    obtain ⟨v, h1, h2⟩ := W.sl i t e
    refine ⟨v, h1, h2.mono f fun x hx => ⟨hx, ?_⟩⟩
    have n := (W.oh _ x hx).1
    cases e : H x with
    | none => exact absurd e n
    | some u => exact h _ _ e
  sp := W.sp
  pr := fun j t e => by
    obtain ⟨v, h1, h2⟩ := W.pr j t e
    refine ⟨v, h1, h2.mono f fun x hx => ⟨hx, ?_⟩⟩
    have n := (W.oh _ x hx).1
    cases e : H x with
    | none => exact absurd e n
    | some u => exact h _ _ e
theorem StR.fh (s : StR K pv G F sd σ H) : Same F H := let ⟨_, W⟩ := s; W.fh
/-- a new object, frozen at once -/
theorem StR.new {p : Addr} {u : HO} (s : StR K pv G F sd σ H) (hp : H p = none) : StR K pv G (upd F p u) sd σ (upd H p u) := by
  obtain ⟨o, W⟩ := s
  have n := W.fresh hp
  refine ⟨o, W.grow (Same.upd hp) (Same.upd n.1) (fun a x e => ?_) fun a ha => ?_⟩
  · by_cases h : a = p
    · subst h; rw [upd_same] at e ⊢; exact e
    · rw [upd_ne h] at e ⊢; exact W.fh a x e
  · by_cases h : a = p
    · subst h; exact .inr hp
    · rw [upd_ne h] at ha; exact .inl ha
theorem StR.sameNew {p : Addr} {u : HO} (s : StR K pv G F sd σ H) (hp : H p = none) : Same F (upd F p u) := by
  obtain ⟨o, W⟩ := s
  exact Same.upd (W.fresh hp).1
/-- a new list, not frozen -/
theorem StR.newL {p : Addr} {vs : List V} {ds : List D} (s : StR K pv G F sd σ H) (hp : H p = none) (r : Reps K F vs ds) : StR1 K pv G F sd σ (upd H p (.lst vs)) (.ref p) (.ol (ds.map .fz)) := by
  obtain ⟨o, W⟩ := s
  have n := W.fresh hp
  refine ⟨o, fun x => x = p, W.grow (Same.upd hp) (Same.refl _) (fun a x e => ?_) (fun a ha => .inl ha), ?_, fun a ha => ?_⟩
  · rw [upd_ne (fun z => by rw [z, n.1] at e; cases e)]; exact W.fh a x e
  · unfold RepO
    exact ⟨p, vs, rfl, rfl, upd_same, repOs_of _ r⟩
  · subst ha
    exact ⟨by rw [upd_same]; simp, n.1, n.2.1, n.2.2⟩
/-- the tree is frozen -/
theorem StR1.frz {v : V} {t : OT} (s : StR1 K pv G F sd σ H v t) : ∃ F', Same F F' ∧ StR K pv G F' sd σ H ∧ Rep K F' v t.view := by
  classical
  obtain ⟨o, P, W, r, k⟩ := s
  let F' : Hp := fun a => if P a then H a else F a
  have f1 : Same F F' := fun a u e => by
    have : ¬ P a := fun z => by rw [(k a z).2.1] at e; cases e
    show (if P a then H a else F a) = some u
    rw [if_neg this]; exact e
  have f2 : Same F' H := fun a u e => by
    by_cases z : P a
    · have e : (if P a then H a else F a) = some u := e
      rw [if_pos z] at e; exact e
    · have e : (if P a then H a else F a) = some u := e
      rw [if_neg z] at e; exact W.fh a u e
  refine ⟨F', f1, ⟨o, ⟨f2, W.gh, fun a ha => ?_, fun i a q => ?_, W.oo, W.len, fun i t e => ?_, W.sp, fun j t e => ?_⟩⟩, r.frz f1 fun x hx u e => ?_⟩
  · by_cases z : P a
    · exact (k a z).2.2.1
    · have ha : (if P a then H a else F a) ≠ none := ha
      rw [if_neg z] at ha; exact W.fg a ha
  · have z : ¬ P a := fun z => (k a z).2.2.2 i q
    obtain ⟨h1, h2, h3⟩ := W.oh i a q
    refine ⟨h1, ?_, h3⟩
    show (if P a then H a else F a) = none
    rw [if_neg z]; exact h2
  · obtain ⟨v, h1, h2⟩ := W.sl i t e
    exact ⟨v, h1, h2.mono f1 fun x hx => ⟨hx, rfl⟩⟩
  · obtain ⟨v, h1, h2⟩ := W.pr j t e
    exact ⟨v, h1, h2.mono f1 fun x hx => ⟨hx, rfl⟩⟩
  · show (if P x then H x else F x) = some u
    rw [if_pos hx]; exact e
theorem StR1.drop {v : V} {t : OT} (s : StR1 K pv G F sd σ H v t) : StR K pv G F sd σ H := let ⟨o, _, W, _⟩ := s; ⟨o, W⟩
theorem StR1.fz {v : V} {d : D} (s : StR K pv G F sd σ H) (r : Rep K F v d) : StR1 K pv G F sd σ H v (.fz d) := by
  obtain ⟨o, W⟩ := s
  refine ⟨o, fun _ => False, W, ?_, fun a z => z.elim⟩
  unfold RepO; exact r
/-- the tree becomes slot i's -/
theorem StR1.store {v : V} {t : OT} {i : Nat} (s : StR1 K pv G F sd σ H v t) (hi : i < sd.sl.length) : StR K pv G F { sd with sl := sd.sl.set i (.ow t) } (σ.set i (some v)) H := by
  classical
  obtain ⟨o, P, W, r, k⟩ := s
  refine ⟨fun j a => if j = .inl i then P a else o j a, ⟨W.fh, W.gh, W.fg, fun j a q => ?_, fun j l a q q' => ?_, by simpa using W.len, fun j t' e => ?_, fun j l e => ?_, fun j t' e => ?_⟩⟩
  · by_cases z : j = .inl i
    · rw [if_pos z] at q; exact ⟨(k a q).1, (k a q).2.1, (k a q).2.2.1⟩
    · rw [if_neg z] at q; exact W.oh j a q
  · by_cases z : j = .inl i
    · rw [if_pos z] at q
      by_cases y : l = .inl i
      · rw [z, y]
      · rw [if_neg y] at q'; exact absurd q' ((k a q).2.2.2 l)
    · rw [if_neg z] at q
      by_cases y : l = .inl i
      · rw [if_pos y] at q'; exact absurd q ((k a q').2.2.2 j)
      · rw [if_neg y] at q'; exact W.oo j l a q q'
  · have hs : i < σ.length := by rw [W.len]; exact hi
    by_cases z : i = j
    · subst z
      have e : (sd.sl.set i (S.ow t))[i]? = some (S.ow t') := e
      rw [List.getElem?_set_self hi] at e
      cases e
      refine ⟨v, List.getElem?_set_self hs, ?_⟩
      exact r.mono (Same.refl _) fun x hx => ⟨by show (if Sum.inl i = Sum.inl i then P x else o (Sum.inl i) x); rw [if_pos rfl]; exact hx, rfl⟩
    · have e : (sd.sl.set i (S.ow t))[j]? = some (S.ow t') := e
      rw [List.getElem?_set_ne z] at e
      obtain ⟨w, h1, h2⟩ := W.sl j t' e
      refine ⟨w, by rw [List.getElem?_set_ne z]; exact h1, ?_⟩
      exact h2.mono (Same.refl _) fun x hx => ⟨by show (if Sum.inl j = Sum.inl i then P x else o (Sum.inl j) x); rw [if_neg (fun y => z (Sum.inl.inj y).symm)]; exact hx, rfl⟩
  · by_cases z : i = j
    · subst z
      have e : (sd.sl.set i (S.ow t))[i]? = some (S.pa l) := e
      rw [List.getElem?_set_self hi] at e
      cases e
    · have e : (sd.sl.set i (S.ow t))[j]? = some (S.pa l) := e
      rw [List.getElem?_set_ne z] at e
      obtain ⟨w, h1, h2⟩ := W.sp j l e
      exact ⟨w, h1, by rw [List.getElem?_set_ne z]; exact h2⟩
  · obtain ⟨w, h1, h2⟩ := W.pr j t' e
    exact ⟨w, h1, h2.mono (Same.refl _) fun x hx => ⟨by show (if Sum.inr j = Sum.inl i then P x else o (Sum.inr j) x); rw [if_neg (by intro y; cases y)]; exact hx, rfl⟩⟩
end
end DL
namespace DL
open PySem PySem.Spec L2
structure Exn where
  C : Addr
  fs : Option (List (Str × D))
/-- what an expression gives: a value and the state behind; an exception; nothing told -/
inductive ER (α : Type) where
  | ok (a : α) (sd : SD)
  | rz (x : Exn) (sd : SD)
  | bad
noncomputable def ER.bind {α γ : Type} (r : ER α) (f : α → SD → ER γ) : ER γ :=
  match r with
  | .ok a sd => f a sd
  | .rz x sd => .rz x sd
  | .bad => .bad
noncomputable def ER.opt {α : Type} (o : Option α) (sd : SD) : ER α :=
  match o with
  | some a => .ok a sd
  | none => .bad
noncomputable def RepX (K : PySem.W.Frag) (F : Hp) (cls : Value) (dd : Option Addr) (x : Exn) : Prop :=
  cls = .ref x.C ∧ match x.fs with
  | none => dd = none
  | some l => ∃ (d : Addr) (fvs : List (Str × V)), dd = some d ∧ F d = some (.xd fvs) ∧ fvs.map (·.1) = l.map (·.1) ∧ Reps K F (fvs.map (·.2)) (l.map (·.2))
theorem RepX.mono {K : PySem.W.Frag} {F F' : Hp} {cls : Value} {dd : Option Addr} {x : Exn} (e : Same F F') (h : RepX K F cls dd x) : RepX K F' cls dd x := by
  obtain ⟨h1, h2⟩ := h
  refine ⟨h1, ?_⟩
  revert h2
  cases x.fs with
  | none => exact id
  | some l => exact fun ⟨d, fvs, a, b, c, r⟩ => ⟨d, fvs, a, e _ _ b, c, r.mono e⟩
/-- a result's relation: G, F, the state, the heap, the slots, what lies there, what is meant -/
noncomputable abbrev RSt (β α : Type) := Hp → Hp → SD → Hp → L2.St → β → α → Prop
noncomputable def Meets {α β : Type} (K : PySem.W.Frag) (pv : List V) (W : WX) (G : Hp) (σ : L2.St) (RS : RSt β α) (p : Bool) (sd : SD) (F H : Hp) (r : ER α) (Q : β → Hp → Prop) (P : Prop) : Prop :=
  match r with
  | .ok a sd' => (∀ v F' H', Same F F' → StR K pv G F' sd' σ H' → RS G F' sd' H' σ v a → (p = true → Same H H' ∧ sd' = sd) → Q v H') → P
  | .rz x sd' => (∀ cls dd F' H', Same F F' → StR K pv G F' sd' σ H' → RepX K F' cls dd x → W cls dd σ H') → P
  | .bad => True
section
variable {α β γ δ : Type} {K : PySem.W.Frag} {pv : List V} {W : WX} {G F H : Hp} {σ : L2.St} {sd : SD} {p q : Bool}
theorem Meets.bind {RS : RSt β α} {RS' : RSt δ γ} {r : ER α} {f : α → SD → ER γ} {Q : δ → Hp → Prop} {k : β → Hp → Prop} {P : Prop} (h : Meets K pv W G σ RS p sd F H r k P)
    (g : ∀ v F1 H1 a sd1, Same F F1 → StR K pv G F1 sd1 σ H1 → RS G F1 sd1 H1 σ v a → (p = true → Same H H1 ∧ sd1 = sd) → Meets K pv W G σ RS' q sd1 F1 H1 (f a sd1) Q (k v H1)) :
    Meets K pv W G σ RS' (p && q) sd F H (r.bind f) Q P := by
  cases r with
  | bad => exact True.intro
  | rz x sd' => exact h
  | ok a sd1 =>
    show Meets K pv W G σ RS' (p && q) sd F H (f a sd1) Q P
    have h' : (∀ v F' H', Same F F' → StR K pv G F' sd1 σ H' → RS G F' sd1 H' σ v a → (p = true → Same H H' ∧ sd1 = sd) → k v H') → P := h
    have g' := fun v F1 H1 s1 s2 s3 s4 => g v F1 H1 a sd1 s1 s2 s3 s4
    revert g'
    cases f a sd1 with
    | bad => exact fun _ => True.intro
    | rz x sd2 =>
      intro g' hW
      refine h' fun v F1 H1 s1 s2 s3 s4 => ?_
      exact g' v F1 H1 s1 s2 s3 s4 fun cls dd F2 H2 t1 t2 t3 => hW cls dd F2 H2 (s1.trans t1) t2 t3
    | ok c sd2 =>
      intro g' hQ
      refine h' fun v F1 H1 s1 s2 s3 s4 => ?_
      refine g' v F1 H1 s1 s2 s3 s4 fun w F2 H2 t1 t2 t3 t4 => hQ w F2 H2 (s1.trans t1) t2 t3 fun z => ?_
      rw [Bool.and_eq_true] at z
      obtain ⟨a1, a2⟩ := s4 z.1
      obtain ⟨b1, b2⟩ := t4 z.2
      exact ⟨a1.trans b1, b2.trans a2⟩
/-- the same value another way -/
theorem Meets.imp {f : α → γ} {RS : RSt β α} {RS' : RSt δ γ} {r : ER α} {r' : ER γ} {Q : δ → Hp → Prop} {k : β → Hp → Prop} {P P' : Prop} (h : Meets K pv W G σ RS p sd F H r k P) (hP : P → P')
    (hr : r' = r.bind (fun a sd1 => .ok (f a) sd1)) (g : ∀ v F1 H1 a sd1, r = .ok a sd1 → Same F F1 → StR K pv G F1 sd1 σ H1 → RS G F1 sd1 H1 σ v a → (p = true → Same H H1 ∧ sd1 = sd) → (∀ w F2 H2, Same F1 F2 → StR K pv G F2 sd1 σ H2 → RS' G F2 sd1 H2 σ w (f a) → Same H1 H2 → Q w H2) → k v H1) :
    Meets K pv W G σ RS' p sd F H r' Q P' := by
  subst hr
  cases r with
  | bad => exact True.intro
  | rz x sd' => exact fun hW => hP (h hW)
  | ok a sd1 =>
    intro hQ
    refine hP (h fun v F1 H1 s1 s2 s3 s4 => g v F1 H1 a sd1 rfl s1 s2 s3 s4 fun w F2 H2 t1 t2 t3 t4 => hQ w F2 H2 (s1.trans t1) t2 t3 fun z => ?_)
    obtain ⟨a1, a2⟩ := s4 z
    exact ⟨a1.trans t4, a2⟩
/-- an answer at once -/
theorem Meets.here {RS : RSt β α} {a : α} {v : β} {Q : β → Hp → Prop} {P : Prop} (s : StR K pv G F sd σ H) (r : RS G F sd H σ v a) (hP : Q v H → P) : Meets K pv W G σ RS p sd F H (.ok a sd) Q P :=
  fun hQ => hP (hQ v F H (Same.refl _) s r fun _ => ⟨Same.refl _, rfl⟩)
end
/-- k: frozen; else to be read in the heap as it stands -/
noncomputable def RSx (K : PySem.W.Frag) (k : Bool) : RSt V D := fun _ F _ H _ v d => Rep K (if k = true then F else H) v d
noncomputable def RSo (K : PySem.W.Frag) (pv : List V) : RSt V OT := fun G F sd H σ v t => StR1 K pv G F sd σ H v t
noncomputable def RSl (K : PySem.W.Frag) (k : Bool) : RSt (List V) (List D) := fun _ F _ H _ vs ds => Reps K (if k = true then F else H) vs ds
noncomputable def RSb : RSt Bool Bool := fun _ _ _ _ _ b c => b = c
noncomputable def TrX (K : PySem.W.Frag) (pv : List V) (W : WX) (p k : Bool) (te : TE) (m : SD → ER D) : Prop := ∀ G F sd σ H Q, StR K pv G F sd σ H → Meets K pv W G σ (RSx K k) p sd F H (m sd) Q (te σ H Q)
noncomputable def TrO (K : PySem.W.Frag) (pv : List V) (W : WX) (p : Bool) (te : TE) (m : SD → ER OT) : Prop := ∀ G F sd σ H Q, StR K pv G F sd σ H → Meets K pv W G σ (RSo K pv) p sd F H (m sd) Q (te σ H Q)
noncomputable def TrA (K : PySem.W.Frag) (pv : List V) (W : WX) (p k : Bool) (ta : TA) (m : SD → ER (List D)) : Prop := ∀ G F sd σ H Q, StR K pv G F sd σ H → Meets K pv W G σ (RSl K k) p sd F H (m sd) Q (ta σ H Q)
noncomputable def TrT (K : PySem.W.Frag) (pv : List V) (W : WX) (p : Bool) (tt : TT) (m : SD → ER Bool) : Prop := ∀ G F sd σ H Q, StR K pv G F sd σ H → Meets K pv W G σ RSb p sd F H (m sd) Q (tt σ H Q)
/-- an expression: p: it changes nothing; k: its value is frozen -/
structure DX (X : Cx) (pv : List V) (W : WX) (p k : Bool) (e : Expr) (m : SD → ER D) : Prop where
  ex : ∃ te, PE X e te ∧ TrX X.K pv W p k te m
/-- an expression whose value is new -/
structure DO (X : Cx) (pv : List V) (W : WX) (p : Bool) (e : Expr) (m : SD → ER OT) : Prop where
  ex : ∃ te, PE X e te ∧ TrO X.K pv W p te m
structure DA (X : Cx) (pv : List V) (W : WX) (p k : Bool) (es : List Expr) (m : SD → ER (List D)) : Prop where
  ex : ∃ ta, PA X es ta ∧ TrA X.K pv W p k ta m
structure DT (X : Cx) (pv : List V) (W : WX) (p : Bool) (e : Expr) (m : SD → ER Bool) : Prop where
  ex : ∃ tt, PT X e tt ∧ TrT X.K pv W p tt m
/-- and, or -/
structure DW (X : Cx) (pv : List V) (W : WX) (p : Bool) (e : Expr) (m : SD → ER Bool) : Prop where
  ex : ∃ tt, PW X e tt ∧ TrT X.K pv W p tt m
noncomputable def mVar (i : Nat) : SD → ER D := fun sd => match sd.sl[i]? with
  | some (.ow (.fz d)) => .ok d sd
  | _ => .bad
/-- what stands there, to be read at once -/
noncomputable def mSee (i : Nat) : SD → ER D := fun sd => match sd.sl[i]? with
  | some (.ow t) => .ok t.view sd
  | some (.pa j) => ER.opt ((sd.pa[j]?).map OT.view) sd
  | _ => .bad
/-- what stands there, never changed from now on -/
noncomputable def mFrz (i : Nat) : SD → ER D := fun sd => match sd.sl[i]? with
  | some (.ow t) => .ok t.view { sd with sl := sd.sl.set i (.ow (.fz t.view)) }
  | _ => .bad
/-- what stands there, taken away -/
noncomputable def mTake (i : Nat) : SD → ER OT := fun sd => match sd.sl[i]? with
  | some (.ow t) => .ok t { sd with sl := sd.sl.set i .un }
  | _ => .bad
noncomputable def mC (d : D) : SD → ER D := fun sd => .ok d sd
noncomputable def mUn (f : D → Option D) (a : SD → ER D) : SD → ER D := fun sd => (a sd).bind fun x sd1 => ER.opt (f x) sd1
noncomputable def mOp (f : D → D → Option D) (a b : SD → ER D) : SD → ER D := fun sd => (a sd).bind fun x sd1 => (b sd1).bind fun y sd2 => ER.opt (f x y) sd2
noncomputable def mNil : SD → ER (List D) := fun sd => .ok [] sd
noncomputable def mCons (a : SD → ER D) (r : SD → ER (List D)) : SD → ER (List D) := fun sd => (a sd).bind fun x sd1 => (r sd1).bind fun xs sd2 => .ok (x :: xs) sd2
noncomputable def mCall (f : List D → Option D) (a : SD → ER (List D)) : SD → ER D := fun sd => (a sd).bind fun xs sd1 => ER.opt (f xs) sd1
noncomputable def mTup (a : SD → ER (List D)) : SD → ER D := fun sd => (a sd).bind fun xs sd1 => if xs.length ≤ 16777216 then .ok (.tup xs) sd1 else .bad
noncomputable def mLst (a : SD → ER (List D)) : SD → ER OT := fun sd => (a sd).bind fun xs sd1 => if xs.length ≤ 16777216 then .ok (.ol (xs.map .fz)) sd1 else .bad
noncomputable def mView (a : SD → ER OT) : SD → ER D := fun sd => (a sd).bind fun t sd1 => .ok t.view sd1
noncomputable def mOwn (a : SD → ER D) : SD → ER OT := fun sd => (a sd).bind fun d sd1 => .ok (.fz d) sd1
noncomputable def mTest (a : SD → ER D) : SD → ER Bool := fun sd => (a sd).bind fun x sd1 => match x with
  | .bl b => .ok b sd1
  | _ => .bad
noncomputable def mAnd (a b : SD → ER Bool) : SD → ER Bool := fun sd => (a sd).bind fun x sd1 => if x = true then b sd1 else .ok false sd1
noncomputable def mOr (a b : SD → ER Bool) : SD → ER Bool := fun sd => (a sd).bind fun x sd1 => if x = true then .ok true sd1 else b sd1
noncomputable def mNot (a : SD → ER Bool) : SD → ER Bool := fun sd => (a sd).bind fun x sd1 => .ok (!x) sd1
noncomputable def mIf (c : SD → ER Bool) (a b : SD → ER D) : SD → ER D := fun sd => (c sd).bind fun x sd1 => if x = true then a sd1 else b sd1
section
variable {X : Cx} {pv : List V} {W : WX} {p q k l : Bool} {e a b : Expr} {es : List Expr}
theorem RSx.see {K : PySem.W.Frag} {k : Bool} {G F H : Hp} {sd : SD} {σ : L2.St} {v : V} {d : D} (r : RSx K k G F sd H σ v d) (s : StR K pv G F sd σ H) : Rep K H v d := by
  unfold RSx at r
  cases k with
  | true => exact Rep.mono s.fh r
  | false => exact r
theorem RSl.see {K : PySem.W.Frag} {k : Bool} {G F H : Hp} {sd : SD} {σ : L2.St} {v : List V} {d : List D} (r : RSl K k G F sd H σ v d) (s : StR K pv G F sd σ H) : Reps K H v d := by
  unfold RSl at r
  cases k with
  | true => exact Reps.mono s.fh r
  | false => exact r
/-- a frozen value may be seen -/
theorem DX.see {m : SD → ER D} (h : DX X pv W p true e m) : DX X pv W p false e m := by
  obtain ⟨te, h1, h2⟩ := h
  refine ⟨te, h1, fun G F sd σ H Q s => ?_⟩
  have z := h2 G F sd σ H Q s
  revert z
  cases m sd with
  | bad => exact id
  | rz x sd1 => exact id
  | ok d sd1 => exact fun z hQ => z fun v F1 H1 s1 s2 s3 s4 => hQ v F1 H1 s1 s2 (RSx.see s3 s2) s4
theorem DO.frz {m : SD → ER OT} (h : DO X pv W p e m) : DX X pv W p true e (mView m) := by
  obtain ⟨te, h1, h2⟩ := h
  refine ⟨te, h1, fun G F sd σ H Q s => ?_⟩
  refine Meets.imp (f := OT.view) (h2 G F sd σ H Q s) id rfl fun v F1 H1 t sd1 _ s1 s2 s3 s4 hQ => ?_
  obtain ⟨F2, t1, t2, t3⟩ := StR1.frz s3
  exact hQ v F2 H1 t1 t2 t3 (Same.refl _)
theorem DO.see {m : SD → ER OT} (h : DO X pv W p e m) : DX X pv W p false e (mView m) := h.frz.see
theorem DX.own {m : SD → ER D} (h : DX X pv W p true e m) : DO X pv W p e (mOwn m) := by
  obtain ⟨te, h1, h2⟩ := h
  refine ⟨te, h1, fun G F sd σ H Q s => ?_⟩
  refine Meets.imp (f := OT.fz) (h2 G F sd σ H Q s) id rfl fun v F1 H1 t sd1 _ s1 s2 s3 s4 hQ => ?_
  exact hQ v F1 H1 (Same.refl _) s2 (StR1.fz s2 s3) (Same.refl _)
theorem dx_var {i : Nat} {x : Str} {pos : Pos} (h : PE X (.Name x pos) (tVar i)) : DX X pv W true true (.Name x pos) (mVar i) := by
  refine ⟨_, h, fun G F sd σ H Q s => ?_⟩
  unfold mVar
  split
  · rename_i d e
    obtain ⟨o, w⟩ := id s
    obtain ⟨v, h1, h2⟩ := w.sl i _ e
    unfold RepO at h2
    exact Meets.here s (show RSx X.K true G F sd H σ v d from h2) fun q => ⟨v, h1, q⟩
  · exact True.intro
theorem dx_see {i : Nat} {x : Str} {pos : Pos} (h : PE X (.Name x pos) (tVar i)) : DX X pv W true false (.Name x pos) (mSee i) := by
  refine ⟨_, h, fun G F sd σ H Q s => ?_⟩
  unfold mSee
  split
  · rename_i t e
    obtain ⟨o, w⟩ := id s
    obtain ⟨v, h1, h2⟩ := w.sl i _ e
    exact Meets.here s (show RSx X.K false G F sd H σ v t.view from h2.frz w.fh fun _ _ _ z => z) fun q => ⟨v, h1, q⟩
  · rename_i j e
    obtain ⟨o, w⟩ := id s
    obtain ⟨v, h1, h2⟩ := w.sp i j e
    cases e2 : sd.pa[j]? with
    | none => exact True.intro
    | some t =>
      obtain ⟨v', h3, h4⟩ := w.pr j t e2
      rw [h1] at h3; cases h3
      exact Meets.here s (show RSx X.K false G F sd H σ v t.view from h4.frz w.fh fun _ _ _ z => z) fun q => ⟨v, h2, q⟩
  · exact True.intro
theorem dx_c {v : V} {d : D} (h : PE X e (tC v)) (r : ∀ F, Rep X.K F v d) : DX X pv W true true e (mC d) :=
  ⟨_, h, fun G F sd σ H Q s => Meets.here s (r F) id⟩
theorem dx_int {i : Int} {j : Nat} {pos : Pos} : DX X pv W true true (.Constant (.int i) j pos) (mC (.int i)) := dx_c pe_int fun _ => .int i
theorem dx_bl {b : Bool} {j : Nat} {pos : Pos} : DX X pv W true true (.Constant (.bool b) j pos) (mC (.bl b)) := dx_c pe_bl fun _ => .bl b
theorem dx_non {j : Nat} {pos : Pos} : DX X pv W true true (.Constant .none j pos) (mC .non) := dx_c pe_non fun _ => .non
theorem dx_str {x : Str} {j : Nat} {pos : Pos} : DX X pv W true true (.Constant (.str x) j pos) (mC (.str x)) := dx_c pe_str fun _ => .str x
/-- a flat value has its own V -/
noncomputable def D.sc : D → Option V
  | .non => some .non
  | .bl b => some (.bl b)
  | .int i => some (.int i)
  | .str x => some (.str x)
  | .ty n => some (.ty n)
  | .cls C => some (.ref C)
  | _ => none
theorem Rep.sc {K : PySem.W.Frag} {F : Hp} {d : D} {v : V} (h : d.sc = some v) : Rep K F v d := by
  cases d <;> simp only [D.sc, Option.some.injEq, reduceCtorEq] at h <;> subst h <;> constructor
/-- an operator that gives a flat value -/
noncomputable def Op2S (K : PySem.W.Frag) (r : R2) (f : D → D → Option D) : Prop := ∀ H x y a b c, Rep K H x a → Rep K H y b → f a b = some c → ∃ v, c.sc = some v ∧ ∀ Q : VK, Q v H → r x y H Q
theorem tr_op2 {r : R2} {f : D → D → Option D} {ta tb : TE} {ma mb : SD → ER D} (hf : Op2S X.K r f) (ha : TrX X.K pv W p k ta ma) (hb : TrX X.K pv W q l tb mb) (hk : (k || q) = true) : TrX X.K pv W (p && q) true (tOp r ta tb) (mOp f ma mb) := by
  intro G F sd σ H Q s
  refine Meets.bind (ha G F sd σ H _ s) fun x F1 H1 dx sd1 s1 s2 s3 s4 => ?_
  have hq : q = (q && true) := by cases q <;> rfl
  rw [hq]
  refine Meets.bind (hb G F1 sd1 σ H1 _ s2) fun y F2 H2 dy sd2 t1 t2 t3 t4 => ?_
  have rx : Rep X.K H2 x dx := by
    cases k with
    | true => exact Rep.mono t2.fh (Rep.mono t1 s3)
    | false => exact Rep.mono (t4 (by simpa using hk)).1 s3
  cases e : f dx dy with
  | none => exact True.intro
  | some c =>
    obtain ⟨v, h1, h2⟩ := hf H2 x y dx dy c rx (RSx.see t3 t2) e
    exact Meets.here t2 (show RSx X.K true G F2 sd2 H2 σ v c from Rep.sc h1) (h2 Q)
theorem dx_op2 {op : Operator} {r : R2} {f : D → D → Option D} {pos : Pos} {ma mb : SD → ER D} (ho : OpR X (binaryOp op) r) (hf : Op2S X.K r f) (ha : DX X pv W p k a ma) (hb : DX X pv W q l b mb) (hk : (k || q) = true := by rfl) :
    DX X pv W (p && q) true (.BinOp a op b pos) (mOp f ma mb) := by
  obtain ⟨ta, a1, a2⟩ := ha
  obtain ⟨tb, b1, b2⟩ := hb
  exact ⟨_, pe_op ho a1 b1, tr_op2 hf a2 b2 hk⟩
theorem dx_cmp {op : CmpOp} {r : R2} {f : D → D → Option D} {pos : Pos} {ma mb : SD → ER D} (ho : OpR X (compareOp op) r) (hf : Op2S X.K r f) (ha : DX X pv W p k a ma) (hb : DX X pv W q l b mb) (hm : behindInMarks op b = false) (hk : (k || q) = true := by rfl) :
    DX X pv W (p && q) true (.Compare a [op] [b] pos) (mOp f ma mb) := by
  obtain ⟨ta, a1, a2⟩ := ha
  obtain ⟨tb, b1, b2⟩ := hb
  exact ⟨_, pe_cmpR ho a1 b1 hm, tr_op2 hf a2 b2 hk⟩
theorem tr_test {te : TE} {m : SD → ER D} (h : TrX X.K pv W p k te m) : TrT X.K pv W p (tTest te) (mTest m) := by
  intro G F sd σ H Q s
  have hp : p = (p && true) := by cases p <;> rfl
  rw [hp]
  refine Meets.bind (h G F sd σ H _ s) fun x F1 H1 dx sd1 s1 s2 s3 s4 => ?_
  have r := RSx.see s3 s2
  cases dx with
  | bl b =>
    cases r
    exact Meets.here s2 (show RSb G F1 sd1 H1 σ b b from rfl) fun q => ⟨b, rfl, q⟩
  | _ => exact True.intro
theorem dt_cmp {op : CmpOp} {r : R2} {f : D → D → Option D} {pos : Pos} {ma mb : SD → ER D} (ho : OpR X (compareOp op) r) (hf : Op2S X.K r f) (ha : DX X pv W p k a ma) (hb : DX X pv W q l b mb) (hm : behindInMarks op b = false) (hk : (k || q) = true := by rfl) :
    DT X pv W (p && q) (.Compare a [op] [b] pos) (mTest (mOp f ma mb)) := by
  obtain ⟨ta, a1, a2⟩ := ha
  obtain ⟨tb, b1, b2⟩ := hb
  exact ⟨_, pt_cmpR ho a1 b1 hm, tr_test (tr_op2 hf a2 b2 hk)⟩
/-- an expression that gives True or False, as a test -/
theorem dt_val {m : SD → ER D} (h : DX X pv W p k e m) (he : ∀ whole, isTrue e X.env whole = (do let v ← whole; standAt e.pos; holding [v] (truthy v)) := by intro _; rfl) : DT X pv W p e (mTest m) := by
  obtain ⟨te, a1, a2⟩ := h
  exact ⟨_, pt_val a1 he, tr_test a2⟩
theorem DW.dt {m : SD → ER Bool} (h : DW X pv W p e m) : DT X pv W p e m := by
  obtain ⟨tt, a1, a2⟩ := h
  exact ⟨tt, a1.pt, a2⟩
theorem tr_not {tt : TT} {m : SD → ER Bool} (h : TrT X.K pv W p tt m) : TrT X.K pv W p (tNot tt) (mNot m) := by
  intro G F sd σ H Q s
  have hp : p = (p && true) := by cases p <;> rfl
  rw [hp]
  refine Meets.bind (h G F sd σ H _ s) fun x F1 H1 dx sd1 s1 s2 s3 s4 => ?_
  exact Meets.here s2 (show RSb G F1 sd1 H1 σ (!x) (!dx) from congrArg _ s3) id
theorem dt_not {pos : Pos} {m : SD → ER Bool} (h : DT X pv W p e m) : DT X pv W p (.UnaryOp .Not e pos) (mNot m) := by
  obtain ⟨tt, a1, a2⟩ := h
  exact ⟨_, pt_not a1, tr_not a2⟩
theorem tr_and {t u : TT} {ma mb : SD → ER Bool} (h : TrT X.K pv W p t ma) (h2 : TrT X.K pv W q u mb) : TrT X.K pv W (p && q) (tAnd t u) (mAnd ma mb) := by
  intro G F sd σ H Q s
  refine Meets.bind (h G F sd σ H _ s) fun x F1 H1 dx sd1 s1 s2 s3 s4 => ?_
  have s3 : x = dx := s3
  subst s3
  cases x with
  | true => exact h2 G F1 sd1 σ H1 Q s2
  | false => exact Meets.here s2 (show RSb G F1 sd1 H1 σ false false from rfl) id
theorem tr_or {t u : TT} {ma mb : SD → ER Bool} (h : TrT X.K pv W p t ma) (h2 : TrT X.K pv W q u mb) : TrT X.K pv W (p && q) (tOr t u) (mOr ma mb) := by
  intro G F sd σ H Q s
  refine Meets.bind (h G F sd σ H _ s) fun x F1 H1 dx sd1 s1 s2 s3 s4 => ?_
  have s3 : x = dx := s3
  subst s3
  cases x with
  | false => exact h2 G F1 sd1 σ H1 Q s2
  | true => exact Meets.here s2 (show RSb G F1 sd1 H1 σ true true from rfl) id
theorem dw_and1 {pos : Pos} {m : SD → ER Bool} (h : DT X pv W p a m) : DW X pv W p (.BoolOp .And [a] pos) m := by
  obtain ⟨tt, a1, a2⟩ := h
  exact ⟨tt, pw_and1 a1, a2⟩
theorem dw_or1 {pos : Pos} {m : SD → ER Bool} (h : DT X pv W p a m) : DW X pv W p (.BoolOp .Or [a] pos) m := by
  obtain ⟨tt, a1, a2⟩ := h
  exact ⟨tt, pw_or1 a1, a2⟩
theorem dw_and {pos : Pos} {ma mb : SD → ER Bool} (h : DT X pv W p a ma) (h2 : DW X pv W q (.BoolOp .And (b :: es) pos) mb) : DW X pv W (p && q) (.BoolOp .And (a :: b :: es) pos) (mAnd ma mb) := by
  obtain ⟨t, a1, a2⟩ := h
  obtain ⟨u, b1, b2⟩ := h2
  exact ⟨_, pw_and a1 b1, tr_and a2 b2⟩
theorem dw_or {pos : Pos} {ma mb : SD → ER Bool} (h : DT X pv W p a ma) (h2 : DW X pv W q (.BoolOp .Or (b :: es) pos) mb) : DW X pv W (p && q) (.BoolOp .Or (a :: b :: es) pos) (mOr ma mb) := by
  obtain ⟨t, a1, a2⟩ := h
  obtain ⟨u, b1, b2⟩ := h2
  exact ⟨_, pw_or a1 b1, tr_or a2 b2⟩
theorem da_nil : DA X pv W true true [] mNil := ⟨_, pa_nil, fun G F sd σ H Q s => Meets.here s (show RSl X.K true G F sd H σ [] [] from .nil) id⟩
theorem da_cons {ma : SD → ER D} {mr : SD → ER (List D)} (ha : DX X pv W p k e ma) (hr : DA X pv W q l es mr) (hk : (k || q) = true := by rfl) (hs : starEach (e :: es) X.env = (false, eval e X.env) :: starEach es X.env := by rfl) : DA X pv W (p && q) (k && l) (e :: es) (mCons ma mr) := by
  obtain ⟨te, a1, a2⟩ := ha
  obtain ⟨tr, b1, b2⟩ := hr
  refine ⟨_, pa_cons a1 b1 hs, fun G F sd σ H Q s => ?_⟩
  refine Meets.bind (a2 G F sd σ H _ s) fun x F1 H1 dx sd1 s1 s2 s3 s4 => ?_
  have hq : q = (q && true) := by cases q <;> rfl
  rw [hq]
  refine Meets.bind (b2 G F1 sd1 σ H1 _ s2) fun xs F2 H2 ds sd2 t1 t2 t3 t4 => ?_
  refine Meets.here t2 (show RSl X.K (k && l) G F2 sd2 H2 σ (x :: xs) (dx :: ds) from ?_) id
  show Reps X.K (if (k && l) = true then F2 else H2) (x :: xs) (dx :: ds)
  cases k with
  | true =>
    have r : Rep X.K F2 x dx := Rep.mono t1 s3
    cases l with
    | true => exact .cons r t3
    | false => exact .cons (Rep.mono t2.fh r) t3
  | false => exact .cons (Rep.mono (t4 (by simpa using hk)).1 s3) (RSl.see t3 t2)
theorem dx_tup {x1 : Nat} {pos : Pos} {m : SD → ER (List D)} (h : DA X pv W p true es m) : DX X pv W p true (.Tuple es x1 pos) (mTup m) := by
  obtain ⟨ta, a1, a2⟩ := h
  refine ⟨_, pe_tup a1, fun G F sd σ H Q s => ?_⟩
  have hp : p = (p && true) := by cases p <;> rfl
  rw [hp]
  refine Meets.bind (a2 G F sd σ H _ s) fun vs F1 H1 ds sd1 s1 s2 s3 s4 => ?_
  split
  · rename_i hl
    intro hQ
    refine ⟨by rw [Reps.length s3, sizeLine_eq]; exact hl, fun p hp => ?_⟩
    exact hQ _ _ _ (s2.sameNew hp) (s2.new hp) (.tup upd_same (Reps.mono (s2.sameNew hp) s3)) fun _ => ⟨Same.upd hp, rfl⟩
  · exact True.intro
theorem do_lst {pos : Pos} {m : SD → ER (List D)} (h : DA X pv W p true es m) : DO X pv W p (.List es pos) (mLst m) := by
  obtain ⟨ta, a1, a2⟩ := h
  refine ⟨_, pe_lst a1, fun G F sd σ H Q s => ?_⟩
  have hp : p = (p && true) := by cases p <;> rfl
  rw [hp]
  refine Meets.bind (a2 G F sd σ H _ s) fun vs F1 H1 ds sd1 s1 s2 s3 s4 => ?_
  split
  · rename_i hl
    intro hQ
    refine ⟨by rw [Reps.length s3, sizeLine_eq]; exact hl, fun p hp => ?_⟩
    have z := s2.newL hp s3
    exact hQ _ _ _ (Same.refl _) z.drop z fun _ => ⟨Same.upd hp, rfl⟩
  · exact True.intro
theorem dx_if {c : Expr} {pos : Pos} {mc : SD → ER Bool} {ma mb : SD → ER D} {q' : Bool} (hc : DT X pv W p c mc) (ha : DX X pv W q k a ma) (hb : DX X pv W q' k b mb) : DX X pv W (p && (q && q')) k (.IfExp c a b pos) (mIf mc ma mb) := by
  obtain ⟨tc, c1, c2⟩ := hc
  obtain ⟨ta, a1, a2⟩ := ha
  obtain ⟨tb, b1, b2⟩ := hb
  refine ⟨_, pe_ifExp c1 a1 b1, fun G F sd σ H Q s => ?_⟩
  refine Meets.bind (c2 G F sd σ H _ s) fun x F1 H1 dx sd1 s1 s2 s3 s4 => ?_
  have s3 : x = dx := s3
  subst s3
  have wk : ∀ {p' : Bool} {r : ER D} {P : Prop}, ((q && q') = true → p' = true) → Meets X.K pv W G σ (RSx X.K k) p' sd1 F1 H1 r Q P → Meets X.K pv W G σ (RSx X.K k) (q && q') sd1 F1 H1 r Q P := fun {p' r P} hpp z => by
    revert z
    cases r with
    | bad => exact id
    | rz y sd2 => exact id
    | ok d sd2 => exact fun z hQ => z fun v F2 H2 t1 t2 t3 t4 => hQ v F2 H2 t1 t2 t3 fun w => t4 (hpp w)
  cases x with
  | true => exact wk (fun z => (Bool.and_eq_true _ _ ▸ z : q = true ∧ q' = true).1) (a2 G F1 sd1 σ H1 Q s2)
  | false => exact wk (fun z => (Bool.and_eq_true _ _ ▸ z : q = true ∧ q' = true).2) (b2 G F1 sd1 σ H1 Q s2)
end
open PyProof.Rows (envOfC IntsAre AllBare)
/-- room for calls, and no guard on the stack -/
structure RoomG (k : Nat) (A : Around) : Prop where
  r : Room k A
  g : A.guards = some []
section
variable {j k : Nat} {A : Around}
theorem RoomG.mono (x : RoomG k A) (h : j ≤ k) : RoomG j A := ⟨x.r.mono h, x.g⟩
theorem RoomG.deeper (x : RoomG (k + 1) A) (env : Env) : RoomG k (A.deeper env) := ⟨x.r.deeper env, x.g⟩
theorem RoomG.make (x : RoomG (k + 1) A) (C : Addr) (us : List Value) (kw : List (Str × Value)) : RoomG k (A.under (.builtin "type.__call__" ⟨.ref C :: us, kw⟩)) := ⟨x.r.make C us kw, by
  have e := x.g
  first | exact e | (simp [Around.under, Code.isGuard, guardIds, e])⟩
theorem RoomG.units (x : RoomG k A) : A.units + 64 < cLine := x.r.units
theorem RoomG.un (x : RoomG k A) : A.units + 16 * k + 200 < cLine := x.r.un
theorem RoomG.hd (x : RoomG k A) : A.handled = none := x.r.hd
theorem RoomG.depth (x : RoomG k A) : A.depth < recursionLimit := x.r.depth
end
structure FnG (P : Program) (w : World) (K : PySem.W.Frag) (mg : Str → Option Value) (base : Heap) (C : CXT) (k : Nat) (f : Addr) (fd : FuncData) (ps : List Str) (sp : Sp) : Prop where
  len : ∀ vs H Q E, sp vs H Q E → vs.length = ps.length
  run : ∀ (A : Around) (out : List Env) (s : Shared) (H : Hp) (args : Args) (us : List Value) (vs : List V) (Q : VK) (E : XK), RoomG k A → Env0 P w K mg base A out s H → BindsTo s fd args (ps.zip us) → Vals vs us → sp vs H Q E →
    codeAny (model P w) A (.call (.ref f) args) (CR C out P w H s Q E) s
theorem FnG.mono {P : Program} {w : World} {K : PySem.W.Frag} {mg : Str → Option Value} {base : Heap} {C : CXT} {j k : Nat} {f : Addr} {fd : FuncData} {ps : List Str} {sp : Sp} (F : FnG P w K mg base C j f fd ps sp) (h : j ≤ k) : FnG P w K mg base C k f fd ps sp :=
  ⟨F.len, fun A out s H args us vs Q E x => F.run A out s H args us vs Q E (x.mono h)⟩
/-- a def by its body, there -/
theorem fun_okG {P : Program} {w : World} {K : PySem.W.Frag} {mg : Str → Option Value} {base : Heap} {x qual : Str} {st : Stmt} {f : Addr} {fd : FuncData} {N ps : List Str} {k : Nat} {sp : Sp} (F : Fun K x qual st f fd) (S : FnScope N ps (defScope st)) (len : ∀ vs H Q E, sp vs H Q E → vs.length = ps.length)
    (body : ∀ (cdv : Value) (A : Around) (out : List Env) (s : Shared) (H : Hp) (vs : List V) (Q : VK) (E : XK), RoomG k (A.deeper (envOfC qual (defScope st) s.heap.objs.size f cdv)) → sp vs H Q E →
      ∃ t, PSs (cxOf (L2.CX P w) P w K mg base N qual (defScope st) f cdv A out s H E) (defBody st) t ∧ t { nx := fun _ H' => Q .non H', rt := Q } (L2.start N vs) H) : FnG P w K mg base (L2.CX P w) (k + 1) f fd ps sp := by
  obtain ⟨oc, od, kV, doc, pm, an, cdv, ct, osl, rfl, lk, hcd⟩ := F.ex
  refine ⟨len, fun A out s H args us vs Q E room e0 bnd rel hsp => ?_⟩
  have grows := fun (b : Addr) (o : Obj) (e : base.get? b = some o) => (e0.bs b o e).1
  have inK : K.In s.heap := e0.mod.kin.keeps grows
  refine codeAny_call_function room.depth (inK _ _ lk) rfl S.co S.gen rfl (PySem.W.codeRec_of inK hcd) (bnd _ _ _ _ (wpAny_newFunctionEnv_cells S.kind (fun y hy => ?_) fun env he s1 z => ?_))
  · rcases S.par y.1 (List.of_mem_zip (a := y.1) (b := y.2) hy).1 with q | q
    · exact .inl q
    · exact .inr ⟨q, PySem.W.cellsFrom_some _ _ _ (.inl q)⟩
  · subst he
    obtain ⟨t, ht, hq⟩ := body cdv A out s H vs Q E (room.deeper _) hsp
    have I := inv_start (CX := L2.CX P w) (E := E) S room.hd e0 (len _ _ _ _ hsp) rel z
    refine ⟨(e0.mod.nolimit.keeps grows).keeps z.toInCall.keep, codeAny_func (wpAny_mono (ht.run [] s1 (L2.start N vs) H _ I hq) (fun fl s2 hs => ?_) fun e s2 hs => hs)⟩
    cases fl with
    | ret u =>
      obtain ⟨v, _, H2, J, rv, q⟩ := hs
      exact ⟨v, H2, J.os, J.bare, J.base, J.hok, rv, q⟩
    | next =>
      obtain ⟨_, H2, J, q⟩ := hs
      exact ⟨V.non, H2, J.os, J.bare, J.base, J.hok, rfl, q⟩
    | brk => exact (let ⟨_, _, _, q⟩ := hs; False.elim q)
    | cont => exact (let ⟨_, _, _, q⟩ := hs; False.elim q)
section
variable {X : Cx} {W : WX} {f : Addr} {fd : FuncData} {ps : List Str} {sp : Sp} {k : Nat} {pins : List (Addr × Obj)} {σ : L2.St} {H : Hp} {s : Shared} {Q : VK} {us : List Value} {vs : List V} {x : Str} {p pos : Pos} {e : Expr} {es : List Expr} {t : TA} {E : L2.St → XK}
theorem code_G (F : FnG X.prog X.w X.K X.mg X.base (L2.CX X.prog X.w) k f fd ps sp) (hr : RoomG k X.A) (hb : Binds X.K fd ps []) (hx : PassesAt (L2.CX X.prog X.w) X σ (E σ)) (I : Inv X pins σ H s) (r : Vals vs us) (h : sp vs H Q (E σ)) :
    codeAny (model X.prog X.w) X.A (.call (.ref f) ⟨us, []⟩) (wants (EP X pins σ Q) X.xe) s := by
  have hl : (us ++ []).length = ps.length := by rw [List.append_nil, ← r.length, F.len _ _ _ _ h]
  have b := hb s us I.kIn hl
  rw [List.append_nil] at b
  refine codeAny_mono (F.run X.A X.stack s H ⟨us, []⟩ us vs Q (E σ) hr I.env0 b r h) fun res s2 hq => ?_
  cases res with
  | error e => exact hx pins H s e s2 I hq
  | ok fl =>
    cases fl with
    | ret u => exact I.after hq
    | next => exact hq.elim
    | brk => exact hq.elim
    | cont => exact hq.elim
theorem run_G (F : FnG X.prog X.w X.K X.mg X.base (L2.CX X.prog X.w) k f fd ps sp) (hr : RoomG k X.A) (hb : Binds X.K fd ps []) (hx : PassesAt (L2.CX X.prog X.w) X σ (E σ)) (I : Inv X pins σ H s) (r : Vals vs us) (h : sp vs H Q (E σ)) :
    wpAny (model X.prog X.w) X.A (call (.ref f) us) (EP X pins σ Q) X.xe s := wpAny_call (code_G F hr hb hx I r h)
/-- f(e, ..) -/
theorem pe_callG (F : FnG X.prog X.w X.K X.mg X.base (L2.CX X.prog X.w) k f fd ps sp) (hr : RoomG k X.A) (hg : Gl X x) (hm : X.mg x = some (.ref f)) (hk : PySem.W.keepIn X.K (.ref f) = true) (hb : Binds X.K fd ps []) (tk : Takes X W) (ha : PA X (e :: es) t)
    (hdb : (x == ("__debug__" : Str)) = false := by decide) (he : starEach (e :: es) X.env = (false, eval e X.env) :: starEach es X.env := by rfl) (hpl : (backTo pos (starEach es X.env)).any (·.1) = false := by rfl) :
    PE X (.Call (.Name x p) (e :: es) [] pos) (fun σ H Q => t σ H fun vs H1 => sp vs H1 Q (WE W σ)) :=
  ⟨fun pins s σ H Q I h => wpAny_Call_Name_kw (ld_glob I hg hm (PySem.W.callWith_K (h₀ := X.base) I.ok.mod.kin hk (thn (ha.run pos pins s σ H _ I h) fun us s1 ⟨vs, H1, I1, r, q⟩ => ⟨I1.kIn, run_G F hr hb (passAt tk σ) I1 r q⟩) he hpl) hdb)⟩
end
theorem law_G {P : Program} {w : World} {K : PySem.W.Frag} {mg mb : Str → Option Value} {k : Nat} {fa a : Addr} {fd : FuncData} {x : Str} {sp : Sp} {sc : Shared} {vs : List Value} {ns : List Int} (kx : K.In sc.heap) (g1 : sc.heap.Ns mainGlobals mg) (g2 : sc.heap.Ns builtinsNs mb)
    (g3 : ∀ x : Str, x ≠ "__name__" → mb x = bootBuiltins x) (g4 : sc.heap.NoLimit) (g5 : sc.gens = #[]) (ha : sc.heap.get? a = some { cls := .type "list", data := .seq vs.toArray }) (hi : IntsAre vs ns) (hl : ns.length ≤ sizeLine) (hr : RoomG k callerA)
    (F : ∀ base : Heap, K.In base → base.Ns mainGlobals mg → FnG P w K mg base (L2.CX P w) k fa fd [x] sp) (hbind : ∀ (s : Shared) (u : Value), BindsTo s fd ⟨[u], []⟩ [(x, u)]) (hsp : ∀ T : Hp, Only T → SqL K T a (ns.map V.int) → sp [.ref a] T (fun v _ => v = .bl true) fun _ _ _ => False)
    (no : ∀ T e s', L2.CX P w [] T sc (fun _ _ _ => False) e s' → False) : codeAny (model P w) callerA (.call (.ref fa) ⟨[.ref a], []⟩) (fun r s' => r = .ok (.ret (.bool true)) ∧ OldK sc.heap s'.heap ∧ s'.os = sc.os ∧ AllBare s'.gens) sc := by
  have go : ∀ T : Hp, Only T → SqL K T a (ns.map V.int) → HOk P w T sc.heap → (∀ b, T b ≠ none → b = a) → (T a ≠ none → K.lookup a = none) → codeAny (model P w) callerA (.call (.ref fa) ⟨[.ref a], []⟩) (fun r s' => r = .ok (.ret (.bool true)) ∧ OldK sc.heap s'.heap ∧ s'.os = sc.os ∧ AllBare s'.gens) sc := fun T only seq hok one own => by
    have isA : ∀ {b : Addr}, (∃ u, T b = some u) → b = a := fun {b} ⟨u, q⟩ => one b (by rw [q]; simp)
    have free : ∀ {b : Addr} {P : Prop}, (b = a → False) → T b = none := fun {b _} n => by
      cases q : T b with
      | none => rfl
      | some u => exact (n (isA ⟨u, q⟩)).elim
    have ns2 : ∀ {b : Addr} {m : Str → Option Value}, sc.heap.Ns b m → (hidT sc.heap T).Ns b m := fun {b m} ⟨o, es, ep, e, d, r⟩ => ⟨o, es, ep, hidT_get e (free (P := True) fun z => by
      subst z
      rw [ha] at e; cases e
      exact (nomatch (show Data.seq vs.toArray _ = Data.dict es ep from d))), d, r⟩
    have kin : K.In (hidT sc.heap T) := fun b o e => hidT_get (kx b o e) (by
      cases q : T b with
      | none => rfl
      | some u =>
        have z := isA ⟨u, q⟩
        subst z
        rw [own (by rw [q]; simp)] at e; cases e)
    obtain ⟨mc, c1, c2⟩ := g4
    have e0 : Env0 P w K mg (hidT sc.heap T) callerA [] sc T := ⟨rfl, ⟨kin, ns2 g1, ⟨mb, ns2 g2, g3⟩, ⟨mc, ns2 c1, c2⟩⟩, fun b o e => of_hidT e, Nat.le_of_eq (hidT_size _ _), trivial, fun b hb => (nomatch (show b ∈ ([] : List Addr) from hb)), hok, .of_eq g5⟩
    refine codeAny_mono ((F _ kin (ns2 g1)).run callerA [] sc T ⟨[.ref a], []⟩ [.ref a] [.ref a] _ _ hr e0 (hbind sc (.ref a)) (.cons rfl .nil) (hsp T only seq)) fun r s2 h => ?_
    cases r with
    | error e => exact (no T e s2 h).elim
    | ok fl =>
      cases fl with
      | next => exact h.elim
      | brk => exact h.elim
      | cont => exact h.elim
      | ret u =>
        obtain ⟨v, T2, os, bare, un, hok2, ru, q⟩ := h
        have q : v = .bl true := q
        subst q
        cases (show u = Value.bool true from ru)
        refine ⟨rfl, OldK.of_keep fun b o e => ?_, os, bare⟩
        cases q : T b with
        | none => exact un.keep b o e q (fun z => nomatch (show b ∈ ([] : List Addr) from z)) (by simp)
        | some u =>
          rcases only b with z | ⟨ob, xs, z⟩
          · rw [q] at z; cases z
          · obtain ⟨m1, _⟩ := hok b _ z
            obtain ⟨m2, _⟩ := hok2 b _ (un.frzs b ob _ z)
            rw [e] at m1; cases m1
            exact m2
  cases hk : K.lookup a with
  | some o =>
    have e := kx a o hk
    rw [ha] at e
    cases e
    exact go (fun _ => none) (fun _ => .inl rfl) (.inr ⟨_, vs.toArray, _, hk, rfl, rfl, rfl, by rw [List.size_toArray, hi.length]; exact hl, by simpa using vals_ints hi⟩) (fun b u z => nomatch (show (none : Option HO) = some u from z)) (fun b z => absurd rfl z) fun z => absurd rfl z
  | none =>
    let T : Hp := fun b => if b = a then some (.frz { cls := .type "list", data := .seq vs.toArray } (.lst (ns.map V.int))) else none
    have t1 : T a = some (.frz { cls := .type "list", data := .seq vs.toArray } (.lst (ns.map V.int))) := if_pos rfl
    have t2 : ∀ b, b ≠ a → T b = none := fun b n => if_neg n
    refine go T (fun b => ?_) (.inl (.inr ⟨_, t1⟩)) (fun b u z => ?_) (fun b z => Classical.byContradiction fun n => z (t2 b n)) fun _ => hk
    · by_cases e : b = a
      · subst e; exact .inr ⟨_, _, t1⟩
      · exact .inl (t2 b e)
    · by_cases e : b = a
      · subst e
        rw [t1] at z; cases z
        exact ⟨ha, by rw [List.length_map]; exact hl, vs, _, vals_ints hi, ha⟩
      · rw [t2 b e] at z; cases z
open PyProof.Rows in
theorem walk_G {l : PySem.W.OpenLaw} {n k : Nat} {q : Program} {loose : List Str} {XP : (Str → Option Value) → Heap → Prop} {YP : World → Heap → Prop} {d : DefRec} {K : Params → PySem.W.Frag} {sp : World → Sp} {x : Str} (hn : l.most = some n) (hn2 : n ≤ sizeLine) (hdf : d.params.defaults = []) (hr : RoomG k callerA)
    (hY : ∀ (w : World) (h : Heap), YP w h → (K w.params).In h) (F : ∀ (w : World) (mg : Str → Option Value) (fa : Addr) (h : Heap), (K w.params).In h → h.Ns mainGlobals mg → mg d.name = some (.ref fa) → ∃ fd : FuncData, (∀ (s : Shared) (u : Value), BindsTo s fd ⟨[u], []⟩ [(x, u)]) ∧
        ∀ base : Heap, (K w.params).In base → base.Ns mainGlobals mg → FnG l.prog w (K w.params) mg base (L2.CX l.prog w) k fa fd [x] (sp w))
    (hsp : ∀ (w : World) (H : Hp) (a : Addr) (ns : List Int), ns.length ≤ n → (∀ z ∈ ns, Builtin.Int.intBits z ≤ 1048576) → SqL (K w.params) H a (ns.map V.int) → sp w [.ref a] H (fun v _ => v = .bl true) fun _ _ _ => False) : PySem.W.WalkO q loose XP YP l.row.toRowW d [] (fun f vs => PySem.call f vs) := by
  refine Att.attach_callB hn hdf fun w s0 sc mg mb fa o pm cd doc a vs ns G Y ho hd hcd hmg hobj hints hlen hbits hg => ?_
  obtain ⟨fd, hb, hF⟩ := F w mg fa _ (hY w _ Y) G.T.g hmg
  refine law_G (hY w _ Y) G.T.g G.T.b G.T.builtins G.T.nolimit hg hobj hints (Nat.le_trans hlen hn2) hr hF hb (fun T _ hS => hsp w T a ns hlen hbits hS) fun T e s' z => ?_
  obtain ⟨_, _, _, _, _, _, _, _, _, _, _, _, q⟩ := z
  exact q
end DL
namespace DL
open PySem PySem.Spec L2
section
variable {K : PySem.W.Frag} {pv : List V} {G F H : Hp} {sd : SD} {σ : L2.St}
theorem StR1.hide {v : V} {t : OT} (s : StR1 K pv G F sd σ H v t) : ∃ G', Same G G' ∧ StR K pv G' F sd σ H ∧
    ∀ (F' : Hp) (sd' : SD) (σ' : L2.St) (H' : Hp), Same F F' → StR K pv G' F' sd' σ' H' → StR1 K pv G F' sd' σ' H' v t := by
  classical
  obtain ⟨o, P, W, r, k⟩ := s
  refine ⟨fun a => if P a then H a else G a, fun a u e => ?_, ⟨o, W.fh, fun a u e => ?_, fun a ha => ?_, fun i a q => ?_, W.oo, W.len, W.sl, W.sp, W.pr⟩, fun F' sd' σ' H' f ⟨o', W'⟩ => ?_⟩
  · have : ¬ P a := fun z => by rw [(k a z).2.2.1] at e; cases e
    show (if P a then H a else G a) = some u
    rw [if_neg this]; exact e
  · have e : (if P a then H a else G a) = some u := e
    by_cases z : P a
    · rw [if_pos z] at e; exact e
    · rw [if_neg z] at e; exact W.gh a u e
  · show (if P a then H a else G a) = none
    by_cases z : P a
    · exact absurd (k a z).2.1 ha
    · rw [if_neg z]; exact W.fg a ha
  · obtain ⟨h1, h2, h3⟩ := W.oh i a q
    refine ⟨h1, h2, ?_⟩
    show (if P a then H a else G a) = none
    rw [if_neg fun z => (k a z).2.2.2 i q]; exact h3
  · have up : ∀ a, P a → (if P a then H a else G a) = H a := fun a z => if_pos z
    have hH : ∀ a, P a → H' a = H a := fun a z => by
      cases e : H a with
      | none => exact absurd e (k a z).1
      | some u => exact W'.gh a u (by rw [up a z]; exact e)
    have ne : ∀ a, P a → (if P a then H a else G a) ≠ none := fun a z => by rw [up a z]; exact (k a z).1
    refine ⟨o', P, ⟨W'.fh, fun a u e => ?_, fun a ha => ?_, fun i a q => ?_, W'.oo, W'.len, W'.sl, W'.sp, W'.pr⟩, r.mono f fun x hx => ⟨hx, hH x hx⟩, fun a z => ⟨?_, ?_, (k a z).2.2.1, fun i q => ?_⟩⟩
    · by_cases z : P a
      · rw [(k a z).2.2.1] at e; cases e
      · exact W'.gh a u (by show (if P a then H a else G a) = some u; rw [if_neg z]; exact e)
    · by_cases z : P a
      · exact (k a z).2.2.1
      · have q := W'.fg a ha
        have q : (if P a then H a else G a) = none := q
        rw [if_neg z] at q; exact q
    · obtain ⟨h1, h2, h3⟩ := W'.oh i a q
      refine ⟨h1, h2, ?_⟩
      by_cases z : P a
      · exact (k a z).2.2.1
      · have h3 : (if P a then H a else G a) = none := h3
        rw [if_neg z] at h3; exact h3
    · rw [hH a z]; exact (k a z).1
    · cases e : F' a with
      | none => rfl
      | some u => exact absurd (W'.fg a (by rw [e]; simp)) (ne a z)
    · exact absurd (W'.oh i a q).2.2 (ne a z)
/-- what a callee is given: all of the frame is put aside but the trees handed over. idx: where the callee's parameters come from -/
theorem StR.give {ts : List OT} {vs : List V} (s : StR K pv G F sd σ H) (hr : Reps K F vs (ts.map OT.view) ∧ ts.all (fun t => match t with | .fz _ => true | _ => false) = true) :
    ∃ G', StR K vs G' F ⟨[], ts⟩ [] H ∧ (∀ (F' H' : Hp) (v : V) (t : OT) (sd1 : SD), Same F F' → StR1 K vs G' F' sd1 [] H' v t → StR1 K pv G F' sd σ H' v t ∧ Same H H') ∧
      (∀ (F' H' : Hp) (sd1 : SD), Same F F' → StR K vs G' F' sd1 [] H' → StR K pv G F' sd σ H' ∧ Same H H') := by
  classical
  obtain ⟨hr, hfz⟩ := hr
  obtain ⟨o, W⟩ := s
  have back : ∀ (F' H' : Hp) (o' : Nat ⊕ Nat → Addr → Prop) (sd1 : SD), Same F F' → Own K vs (fun a => if F a = none then H a else none) F' sd1 [] H' o' → Same H H' ∧ Own K pv G F' sd σ H' o := fun F' H' o' sd1 f W' => by
    have hh : Same H H' := fun a u e => by
      by_cases z : F a = none
      · exact W'.gh a u (by show (if F a = none then H a else none) = some u; rw [if_pos z]; exact e)
      · cases e2 : F a with
        | none => exact absurd e2 z
        | some u' =>
          have := W.fh a u' e2
          rw [e] at this; cases this
          exact W'.fh a u (f a u e2)
    refine ⟨hh, W.grow hh f W'.fh fun a ha => ?_⟩
    by_cases z : F a = none
    · have q := W'.fg a ha
      have q : (if F a = none then H a else none) = none := q
      rw [if_pos z] at q; exact .inr q
    · exact .inl z
  refine ⟨fun a => if F a = none then H a else none, ⟨fun _ _ => False, W.fh, fun a u e => ?_, fun a ha => if_neg ha, fun i a q => q.elim, fun i j a q => q.elim, rfl, fun i t e => by simp at e, fun i j e => by simp at e, fun j t e => ?_⟩, fun F' H' v t sd1 f ⟨o', P, W', r, k⟩ => ?_, fun F' H' sd1 f ⟨o', W'⟩ => ?_⟩
  · have e : (if F a = none then H a else none) = some u := e
    by_cases z : F a = none
    · rw [if_pos z] at e; exact e
    · rw [if_neg z] at e; cases e
  · have e : ts[j]? = some t := e
    have ef := List.all_eq_true.mp hfz t (List.mem_of_getElem? e)
    cases t with
    | fz d =>
      obtain ⟨v, h1, h2⟩ := hr.get (i := j) (d := d) (by rw [List.getElem?_map, e]; rfl)
      refine ⟨v, h1, ?_⟩
      unfold RepO; exact h2
    | ol _ => cases ef
    | od _ _ _ => cases ef
    | oi _ _ _ => cases ef
  · obtain ⟨hh, W2⟩ := back F' H' o' sd1 f W'
    refine ⟨⟨o, P, W2, r, fun a z => ?_⟩, hh⟩
    obtain ⟨h1, h2, h3, h4⟩ := k a z
    have fa : F a = none := f.free h2
    have h3 : (if F a = none then H a else none) = none := h3
    rw [if_pos fa] at h3
    exact ⟨h1, h2, W.gh.free h3, fun i q => (W.oh i a q).1 h3⟩
  · obtain ⟨hh, W2⟩ := back F' H' o' sd1 f W'
    exact ⟨⟨o, W2⟩, hh⟩
end
noncomputable def spD (K : PySem.W.Frag) (n : Nat) (m : List OT → ER OT) : Sp := fun vs H Q E => vs.length = n ∧ ∃ (G F : Hp) (ts : List OT), ts.length = n ∧ StR K vs G F ⟨[], ts⟩ [] H ∧
  match m ts with
  | .ok t sd' => ∀ v F' H', Same F F' → StR1 K vs G F' sd' [] H' v t → Q v H'
  | .rz x sd' => ∀ cls dd F' H', Same F F' → StR K vs G F' sd' [] H' → RepX K F' cls dd x → E cls dd H'
  | .bad => False
noncomputable def mCall0 (f : List OT → ER OT) (a : SD → ER (List D)) : SD → ER OT := fun sd => (a sd).bind fun ds sd1 =>
  match f (ds.map .fz) with
  | .ok t _ => .ok t sd1
  | .rz x _ => .rz x sd1
  | .bad => .bad
theorem map_view_fz : ∀ ds : List D, (ds.map OT.fz).map OT.view = ds
  | [] => rfl
  | d :: ds => by rw [List.map_cons, List.map_cons, OT.view, map_view_fz ds]
theorem all_fz : ∀ ds : List D, (ds.map OT.fz).all (fun t => match t with | .fz _ => true | _ => false) = true
  | [] => rfl
  | d :: ds => by rw [List.map_cons, List.all_cons, all_fz ds]; rfl
section
variable {X : Cx} {pv : List V} {W : WX} {p q k l : Bool} {e a b : Expr} {es : List Expr}
theorem tr_call0 {sp : Sp} {n : Nat} {f : List OT → ER OT} {ta : TA} {m : SD → ER (List D)} (hsp : sp = spD X.K n f) (hn : ∀ sd ds sd1, m sd = .ok ds sd1 → ds.length = n) (h : TrA X.K pv W p true ta m) :
    TrO X.K pv W p (fun σ H Q => ta σ H fun vs H1 => sp vs H1 Q (WE W σ)) (mCall0 f m) := by
  intro G F sd σ H Q s
  subst hsp
  have z := h G F sd σ H (fun vs H1 => spD X.K n f vs H1 Q (WE W σ)) s
  unfold mCall0
  have hn := hn sd
  revert z hn
  cases m sd with
  | bad => exact fun _ _ => True.intro
  | rz x sd1 => exact fun z _ => z
  | ok ds sd1 =>
    intro z hn
    have hn := hn ds sd1 rfl
    show Meets X.K pv W G σ (RSo X.K pv) p sd F H (match f (ds.map .fz) with
      | .ok t _ => .ok t sd1
      | .rz x _ => .rz x sd1
      | .bad => .bad) Q _
    cases e : f (ds.map .fz) with
    | bad => exact True.intro
    | rz x s' =>
      intro hW
      refine z fun vs F1 H1 s1 s2 s3 s4 => ?_
      have s3 : Reps X.K F1 vs ds := s3
      obtain ⟨G', g1, g2, g3⟩ := s2.give (ts := ds.map .fz) (vs := vs) ⟨by rw [map_view_fz]; exact s3, all_fz ds⟩
      refine ⟨by rw [s3.length, hn], G', F1, ds.map .fz, by rw [List.length_map, hn], g1, ?_⟩
      rw [e]
      intro cls dd F2 H2 t1 t2 t3
      obtain ⟨u1, u2⟩ := g3 F2 H2 s' t1 t2
      exact hW cls dd F2 H2 (s1.trans t1) u1 t3
    | ok t s' =>
      intro hQ
      refine z fun vs F1 H1 s1 s2 s3 s4 => ?_
      have s3 : Reps X.K F1 vs ds := s3
      obtain ⟨G', g1, g2, g3⟩ := s2.give (ts := ds.map .fz) (vs := vs) ⟨by rw [map_view_fz]; exact s3, all_fz ds⟩
      refine ⟨by rw [s3.length, hn], G', F1, ds.map .fz, by rw [List.length_map, hn], g1, ?_⟩
      rw [e]
      intro v F2 H2 t1 t2
      obtain ⟨u1, u2⟩ := g2 F2 H2 v t s' t1 t2
      refine hQ v F2 H2 (s1.trans t1) u1.drop u1 fun hp => ?_
      obtain ⟨a1, a2⟩ := s4 hp
      exact ⟨a1.trans u2, a2⟩
/-- how many arguments there are -/
theorem len_nil : ∀ sd ds sd1, mNil sd = .ok ds sd1 → ds.length = 0 := fun sd ds sd1 h => by cases h; rfl
theorem len_cons {ma : SD → ER D} {mr : SD → ER (List D)} {n : Nat} (h : ∀ sd ds sd1, mr sd = .ok ds sd1 → ds.length = n) : ∀ sd ds sd1, mCons ma mr sd = .ok ds sd1 → ds.length = n + 1 := fun sd ds sd1 e => by
  unfold mCons at e
  cases e1 : ma sd with
  | bad => rw [e1] at e; cases e
  | rz x s => rw [e1] at e; cases e
  | ok d s =>
    rw [e1] at e
    have e : (mr s).bind (fun xs sd2 => ER.ok (d :: xs) sd2) = .ok ds sd1 := e
    cases e2 : mr s with
    | bad => rw [e2] at e; cases e
    | rz x s2 => rw [e2] at e; cases e
    | ok ys s2 =>
      rw [e2] at e
      cases e
      rw [List.length_cons, h s ys _ e2]
theorem do_call0 {n j : Nat} {f : Addr} {fd : FuncData} {ps : List Str} {x : Str} {pp pos : Pos} {g : List OT → ER OT} {m : SD → ER (List D)} (F : FnG X.prog X.w X.K X.mg X.base (L2.CX X.prog X.w) j f fd ps (spD X.K n g)) (hr : RoomG j X.A) (hg : Gl X x)
    (hm : X.mg x = some (.ref f)) (hk : PySem.W.keepIn X.K (.ref f) = true) (hb : Binds X.K fd ps []) (tk : Takes X W) (ha : DA X pv W p true (e :: es) m) (hn : ∀ sd ds sd1, m sd = .ok ds sd1 → ds.length = n)
    (hdb : (x == ("__debug__" : Str)) = false := by decide) (he : starEach (e :: es) X.env = (false, eval e X.env) :: starEach es X.env := by rfl) (hpl : (backTo pos (starEach es X.env)).any (·.1) = false := by rfl) :
    DO X pv W p (.Call (.Name x pp) (e :: es) [] pos) (mCall0 g m) := by
  obtain ⟨ta, a1, a2⟩ := ha
  exact ⟨_, pe_callG F hr hg hm hk hb tk a1 hdb he hpl, tr_call0 rfl hn a2⟩
end
inductive Fl where
  | nx (sd : SD)
  | rt (t : OT) (sd : SD)
  | bk (sd : SD)
  | ct (sd : SD)
  | rz (x : Exn) (sd : SD)
  | bad
noncomputable def ER.stm {α : Type} (r : ER α) (f : α → SD → Fl) : Fl :=
  match r with
  | .ok a sd => f a sd
  | .rz x sd => .rz x sd
  | .bad => .bad
noncomputable def Fl.seq (r : Fl) (f : SD → Fl) : Fl :=
  match r with
  | .nx sd => f sd
  | r => r
noncomputable def MeetsS (K : PySem.W.Frag) (pv : List V) (W : WX) (G : Hp) (F : Hp) (r : Fl) (D : Ends) (P : Prop) : Prop :=
  match r with
  | .nx sd' => (∀ F' σ' H', Same F F' → StR K pv G F' sd' σ' H' → D.nx σ' H') → P
  | .rt t sd' => (∀ v F' σ' H', Same F F' → StR1 K pv G F' sd' σ' H' v t → D.rt v H') → P
  | .bk sd' => (∀ F' σ' H', Same F F' → StR K pv G F' sd' σ' H' → D.bk σ' H') → P
  | .ct sd' => (∀ F' σ' H', Same F F' → StR K pv G F' sd' σ' H' → D.ct σ' H') → P
  | .rz x sd' => (∀ cls dd F' σ' H', Same F F' → StR K pv G F' sd' σ' H' → RepX K F' cls dd x → W cls dd σ' H') → P
  | .bad => True
noncomputable def TrS (K : PySem.W.Frag) (pv : List V) (W : WX) (ts : TS) (m : SD → Fl) : Prop := ∀ G F sd σ H D, StR K pv G F sd σ H → MeetsS K pv W G F (m sd) D (ts D σ H)
structure DS (X : Cx) (pv : List V) (W : WX) (st : Stmt) (m : SD → Fl) : Prop where
  ex : ∃ ts, PS X st ts ∧ TrS X.K pv W ts m
structure DSs (X : Cx) (pv : List V) (W : WX) (st : List Stmt) (m : SD → Fl) : Prop where
  ex : ∃ ts, PSs X st ts ∧ TrS X.K pv W ts m
section
variable {α β : Type} {K : PySem.W.Frag} {pv : List V} {W : WX} {G F H : Hp} {σ : L2.St} {sd : SD} {p q : Bool}
theorem Meets.stm {RS : RSt β α} {r : ER α} {f : α → SD → Fl} {D : Ends} {k : β → Hp → Prop} {P : Prop} (h : Meets K pv W G σ RS p sd F H r k P)
    (g : ∀ v F1 H1 a sd1, Same F F1 → StR K pv G F1 sd1 σ H1 → RS G F1 sd1 H1 σ v a → MeetsS K pv W G F1 (f a sd1) D (k v H1)) : MeetsS K pv W G F (r.stm f) D P := by
  cases r with
  | bad => exact True.intro
  | rz x sd' => exact fun hW => h fun cls dd F1 H1 s1 s2 s3 => hW cls dd F1 σ H1 s1 s2 s3
  | ok a sd1 =>
    show MeetsS K pv W G F (f a sd1) D P
    have h' : (∀ v F' H', Same F F' → StR K pv G F' sd1 σ H' → RS G F' sd1 H' σ v a → (p = true → Same H H' ∧ sd1 = sd) → k v H') → P := h
    have g' := fun v F1 H1 s1 s2 s3 => g v F1 H1 a sd1 s1 s2 s3
    revert g'
    cases f a sd1 with
    | bad => exact fun _ => True.intro
    | rz x sd2 => exact fun g' hW => h' fun v F1 H1 s1 s2 s3 s4 => g' v F1 H1 s1 s2 s3 fun cls dd F2 σ2 H2 t1 t2 t3 => hW cls dd F2 σ2 H2 (s1.trans t1) t2 t3
    | nx sd2 => exact fun g' hQ => h' fun v F1 H1 s1 s2 s3 s4 => g' v F1 H1 s1 s2 s3 fun F2 σ2 H2 t1 t2 => hQ F2 σ2 H2 (s1.trans t1) t2
    | bk sd2 => exact fun g' hQ => h' fun v F1 H1 s1 s2 s3 s4 => g' v F1 H1 s1 s2 s3 fun F2 σ2 H2 t1 t2 => hQ F2 σ2 H2 (s1.trans t1) t2
    | ct sd2 => exact fun g' hQ => h' fun v F1 H1 s1 s2 s3 s4 => g' v F1 H1 s1 s2 s3 fun F2 σ2 H2 t1 t2 => hQ F2 σ2 H2 (s1.trans t1) t2
    | rt t sd2 => exact fun g' hQ => h' fun v F1 H1 s1 s2 s3 s4 => g' v F1 H1 s1 s2 s3 fun v2 F2 σ2 H2 t1 t2 => hQ v2 F2 σ2 H2 (s1.trans t1) t2
theorem MeetsS.seq {r : Fl} {f : SD → Fl} {D : Ends} {N : L2.St → Hp → Prop} {P : Prop} (h : MeetsS K pv W G F r { D with nx := N } P)
    (g : ∀ F1 σ1 H1 sd1, Same F F1 → StR K pv G F1 sd1 σ1 H1 → MeetsS K pv W G F1 (f sd1) D (N σ1 H1)) : MeetsS K pv W G F (r.seq f) D P := by
  cases r with
  | bad => exact True.intro
  | rz x sd' => exact h
  | bk sd' => exact h
  | ct sd' => exact h
  | rt t sd' => exact h
  | nx sd1 =>
    show MeetsS K pv W G F (f sd1) D P
    have h' : (∀ F' σ' H', Same F F' → StR K pv G F' sd1 σ' H' → N σ' H') → P := h
    have g' := fun F1 σ1 H1 s1 s2 => g F1 σ1 H1 sd1 s1 s2
    revert g'
    cases f sd1 with
    | bad => exact fun _ => True.intro
    | rz x sd2 => exact fun g' hW => h' fun F1 σ1 H1 s1 s2 => g' F1 σ1 H1 s1 s2 fun cls dd F2 σ2 H2 t1 t2 t3 => hW cls dd F2 σ2 H2 (s1.trans t1) t2 t3
    | nx sd2 => exact fun g' hQ => h' fun F1 σ1 H1 s1 s2 => g' F1 σ1 H1 s1 s2 fun F2 σ2 H2 t1 t2 => hQ F2 σ2 H2 (s1.trans t1) t2
    | bk sd2 => exact fun g' hQ => h' fun F1 σ1 H1 s1 s2 => g' F1 σ1 H1 s1 s2 fun F2 σ2 H2 t1 t2 => hQ F2 σ2 H2 (s1.trans t1) t2
    | ct sd2 => exact fun g' hQ => h' fun F1 σ1 H1 s1 s2 => g' F1 σ1 H1 s1 s2 fun F2 σ2 H2 t1 t2 => hQ F2 σ2 H2 (s1.trans t1) t2
    | rt t sd2 => exact fun g' hQ => h' fun F1 σ1 H1 s1 s2 => g' F1 σ1 H1 s1 s2 fun v2 F2 σ2 H2 t1 t2 => hQ v2 F2 σ2 H2 (s1.trans t1) t2
theorem MeetsS.imp {r : Fl} {D : Ends} {P P' : Prop} (h : MeetsS K pv W G F r D P) (hP : P → P') : MeetsS K pv W G F r D P' := by
  cases r with
  | bad => exact True.intro
  | rz x sd' => exact fun z => hP (h z)
  | bk sd' => exact fun z => hP (h z)
  | ct sd' => exact fun z => hP (h z)
  | rt t sd' => exact fun z => hP (h z)
  | nx sd' => exact fun z => hP (h z)
end
noncomputable def sNil : SD → Fl := .nx
noncomputable def sSeq (a b : SD → Fl) : SD → Fl := fun sd => (a sd).seq b
noncomputable def sSet (i : Nat) (m : SD → ER OT) : SD → Fl := fun sd => (m sd).stm fun t sd1 => if i < sd1.sl.length then .nx { sd1 with sl := sd1.sl.set i (.ow t) } else .bad
noncomputable def sRet (m : SD → ER OT) : SD → Fl := fun sd => (m sd).stm fun t sd1 => .rt t sd1
noncomputable def sIf (c : SD → ER Bool) (a b : SD → Fl) : SD → Fl := fun sd => (c sd).stm fun x sd1 => if x = true then a sd1 else b sd1
noncomputable def sDrop (m : SD → ER D) : SD → Fl := fun sd => (m sd).stm fun _ sd1 => .nx sd1
noncomputable def sNever : SD → Fl := fun _ => .bad
noncomputable def sBreak : SD → Fl := .bk
noncomputable def sCont : SD → Fl := .ct
section
variable {X : Cx} {pv : List V} {W : WX} {p q k l : Bool} {e a b : Expr} {es : List Expr} {pos : Pos}
theorem dss_nil : DSs X pv W [] sNil := ⟨_, pss_nil, fun G F sd σ H D s hQ => hQ F σ H (Same.refl _) s⟩
theorem tr_seq {t u : TS} {ma mb : SD → Fl} (h1 : TrS X.K pv W t ma) (h2 : TrS X.K pv W u mb) : TrS X.K pv W (tSeq t u) (sSeq ma mb) := fun G F sd σ H D s =>
  MeetsS.seq (N := u D) (h1 G F sd σ H { D with nx := u D } s) fun F1 σ1 H1 sd1 s1 s2 => h2 G F1 sd1 σ1 H1 D s2
theorem dss_cons {st : Stmt} {rest : List Stmt} {ma mb : SD → Fl} (h1 : DS X pv W st ma) (h2 : DSs X pv W rest mb) : DSs X pv W (st :: rest) (sSeq ma mb) := by
  obtain ⟨t, a1, a2⟩ := h1
  obtain ⟨u, b1, b2⟩ := h2
  exact ⟨_, pss_cons a1 b1, tr_seq a2 b2⟩
theorem dss_one {st : Stmt} {ma : SD → Fl} (h1 : DS X pv W st ma) : DSs X pv W [st] ma := by
  obtain ⟨t, a1, a2⟩ := h1
  exact ⟨_, pss_one a1, a2⟩
theorem tr_set {te : TE} {i : Nat} {m : SD → ER OT} (h : TrO X.K pv W p te m) : TrS X.K pv W (tAsg te (gName i)) (sSet i m) := by
  intro G F sd σ H D s
  refine Meets.stm (h G F sd σ H _ s) fun v F1 H1 t sd1 s1 s2 s3 => ?_
  split
  · rename_i hi
    exact fun hQ => hQ F1 _ H1 (Same.refl _) (StR1.store s3 hi)
  · exact True.intro
theorem ds_set {i : Nat} {x : Str} {pos' : Pos} {m : SD → ER OT} (hN : X.N.Nodup) (hi : X.N[i]? = some x) (hx : Loc X.env.scope x) (he : DO X pv W p e m) (hs : swapsWith e (some (.Name x pos')) pos.line X.env = pure false := by rfl)
    (hf : X.fn x = true ∨ X.env.scope.names.lookup x = some .local := by first | exact .inl rfl | exact .inr rfl | assumption) : DS X pv W (.Assign [.Name x pos'] e pos) (sSet i m) := by
  obtain ⟨te, a1, a2⟩ := he
  exact ⟨_, ps_set hN hi hx a1 hs hf, tr_set a2⟩
theorem ds_ret {m : SD → ER OT} (he : DO X pv W p e m) : DS X pv W (.Return (some e) pos) (sRet m) := by
  obtain ⟨te, a1, a2⟩ := he
  refine ⟨_, ps_ret a1, fun G F sd σ H D s => ?_⟩
  exact Meets.stm (a2 G F sd σ H D.rt s) fun v F1 H1 t sd1 s1 s2 s3 hQ => hQ v F1 σ H1 (Same.refl _) s3
theorem ds_if {c : Expr} {sa sb : List Stmt} {mc : SD → ER Bool} {ma mb : SD → Fl} (hc : DT X pv W p c mc) (ha : DSs X pv W sa ma) (hb : DSs X pv W sb mb) : DS X pv W (.If c sa sb pos) (sIf mc ma mb) := by
  obtain ⟨tc, c1, c2⟩ := hc
  obtain ⟨t, a1, a2⟩ := ha
  obtain ⟨u, b1, b2⟩ := hb
  refine ⟨_, ps_if c1 a1 b1, fun G F sd σ H D s => ?_⟩
  refine Meets.stm (c2 G F sd σ H _ s) fun x F1 H1 dx sd1 s1 s2 s3 => ?_
  have s3 : x = dx := s3
  subst s3
  cases x with
  | true => exact a2 G F1 sd1 σ H1 D s2
  | false => exact b2 G F1 sd1 σ H1 D s2
theorem ds_expr {m : SD → ER D} (he : DX X pv W p k e m) (hs : swapsWith e none pos.line X.env = pure false := by rfl) : DS X pv W (.Expr e pos) (sDrop m) := by
  obtain ⟨te, a1, a2⟩ := he
  refine ⟨_, ps_expr a1 hs, fun G F sd σ H D s => ?_⟩
  exact Meets.stm (a2 G F sd σ H _ s) fun v F1 H1 d sd1 s1 s2 s3 hQ => hQ F1 σ H1 (Same.refl _) s2
end
/-- the slots at the entry: a parameter that is handed over as a tree is the caller's -/
noncomputable def slotsOf : Nat → List OT → List S
  | _, [] => []
  | j, .fz d :: ts => .ow (.fz d) :: slotsOf (j + 1) ts
  | j, _ :: ts => .pa j :: slotsOf (j + 1) ts
theorem slotsOf_length : ∀ (j : Nat) (ts : List OT), (slotsOf j ts).length = ts.length
  | _, [] => rfl
  | j, .fz d :: ts => by rw [slotsOf, List.length_cons, List.length_cons, slotsOf_length]
  | j, .ol _ :: ts => by rw [slotsOf, List.length_cons, List.length_cons, slotsOf_length] <;> exact fun _ h => nomatch h
  | j, .od _ _ _ :: ts => by rw [slotsOf, List.length_cons, List.length_cons, slotsOf_length] <;> exact fun _ h => nomatch h
  | j, .oi _ _ _ :: ts => by rw [slotsOf, List.length_cons, List.length_cons, slotsOf_length] <;> exact fun _ h => nomatch h
theorem slotsOf_get : ∀ (j : Nat) (ts : List OT) (i : Nat) (t : OT), ts[i]? = some t → (slotsOf j ts)[i]? = some (match t with | .fz d => .ow (.fz d) | _ => .pa (j + i))
  | j, [], i, t, h => by simp at h
  | j, .fz d :: ts, 0, t, h => by simp at h; subst h; rw [slotsOf]; rfl
  | j, .ol _ :: ts, 0, t, h => by simp at h; subst h; rw [slotsOf]; rfl; exact fun _ h => nomatch h
  | j, .od _ _ _ :: ts, 0, t, h => by simp at h; subst h; rw [slotsOf]; rfl; exact fun _ h => nomatch h
  | j, .oi _ _ _ :: ts, 0, t, h => by simp at h; subst h; rw [slotsOf]; rfl; exact fun _ h => nomatch h
  | j, .fz d :: ts, i + 1, t, h => by
    rw [slotsOf]
    have z := slotsOf_get (j + 1) ts i t (by simpa using h)
    rw [List.getElem?_cons_succ, z, Nat.add_right_comm, Nat.add_assoc]
  | j, .ol _ :: ts, i + 1, t, h => by
    rw [slotsOf]
    · have z := slotsOf_get (j + 1) ts i t (by simpa using h)
      rw [List.getElem?_cons_succ, z, Nat.add_right_comm, Nat.add_assoc]
    · exact fun _ h => nomatch h
  | j, .od _ _ _ :: ts, i + 1, t, h => by
    rw [slotsOf]
    · have z := slotsOf_get (j + 1) ts i t (by simpa using h)
      rw [List.getElem?_cons_succ, z, Nat.add_right_comm, Nat.add_assoc]
    · exact fun _ h => nomatch h
  | j, .oi _ _ _ :: ts, i + 1, t, h => by
    rw [slotsOf]
    · have z := slotsOf_get (j + 1) ts i t (by simpa using h)
      rw [List.getElem?_cons_succ, z, Nat.add_right_comm, Nat.add_assoc]
    · exact fun _ h => nomatch h
/-- the state at a def's entry; n: the names of the def -/
noncomputable def entry (n : Nat) (ts : List OT) : SD := ⟨slotsOf 0 ts ++ List.replicate (n - ts.length) .un, ts⟩
/-- a body as a def's mirror -/
noncomputable def asDef (n : Nat) (body : SD → Fl) : List OT → ER OT := fun ts => match body (entry n ts) with
  | .rt t sd => .ok t ⟨[], sd.pa⟩
  | .nx sd => .ok (.fz .non) ⟨[], sd.pa⟩
  | .rz x sd => .rz x ⟨[], sd.pa⟩
  | _ => .bad
section
variable {K : PySem.W.Frag} {pv : List V} {G F H : Hp} {sd : SD} {σ : L2.St}
theorem StR.bare (s : StR K pv G F sd σ H) : StR K pv G F ⟨[], sd.pa⟩ [] H := by
  obtain ⟨o, W⟩ := s
  exact ⟨o, W.fh, W.gh, W.fg, W.oh, W.oo, rfl, fun i t e => by simp at e, fun i j e => by simp at e, W.pr⟩
theorem StR1.bare {v : V} {t : OT} (s : StR1 K pv G F sd σ H v t) : StR1 K pv G F ⟨[], sd.pa⟩ [] H v t := by
  obtain ⟨o, P, W, r⟩ := s
  exact ⟨o, P, ⟨W.fh, W.gh, W.fg, W.oh, W.oo, rfl, fun i t e => by simp at e, fun i j e => by simp at e, W.pr⟩, r⟩
theorem StR.enter {ts : List OT} {vs : List V} {N : List Str} (s : StR K vs G F ⟨[], ts⟩ [] H) (hl : vs.length = ts.length) (hN : ts.length ≤ N.length) : StR K vs G F (entry N.length ts) (L2.start N vs) H := by
  obtain ⟨o, W⟩ := s
  have at1 : ∀ (i : Nat) (S1 : S), (entry N.length ts).sl[i]? = some S1 → S1 ≠ .un → ∃ t v, ts[i]? = some t ∧ vs[i]? = some v ∧ (L2.start N vs)[i]? = some (some v) ∧ S1 = (match t with | .fz d => .ow (.fz d) | _ => .pa i) := fun i S1 e hu => by
    have e : (slotsOf 0 ts ++ List.replicate (N.length - ts.length) .un)[i]? = some S1 := e
    by_cases hi : i < ts.length
    · have h1 : ts[i]? = some ts[i] := by simp [hi]
      have z := slotsOf_get 0 ts i _ h1
      rw [List.getElem?_append_left (by rw [slotsOf_length]; exact hi), z] at e
      have hv : i < vs.length := by omega
      refine ⟨ts[i], vs[i], h1, by simp [hv], ?_, ?_⟩
      · unfold L2.start
        rw [List.getElem?_append_left (by simpa using hv), List.getElem?_map]
        simp [hv]
      · have e := Option.some.inj e
        rw [← e]
        cases ts[i] <;> simp
    · rw [List.getElem?_append_right (by rw [slotsOf_length]; omega), List.getElem?_replicate] at e
      split at e
      · exact absurd (Option.some.inj e).symm hu
      · cases e
  refine ⟨fun i a => match i with | .inl _ => False | .inr j => o (.inr j) a, W.fh, W.gh, W.fg, fun i a q => ?_, fun i j a q q' => ?_, ?_, fun i t e => ?_, fun i j e => ?_, fun j t e => ?_⟩
  · cases i with
    | inl _ => exact q.elim
    | inr j => exact W.oh (.inr j) a q
  · cases i with
    | inl _ => exact q.elim
    | inr i =>
      cases j with
      | inl _ => exact q'.elim
      | inr j => exact W.oo _ _ a q q'
  · unfold L2.start entry
    rw [List.length_append, List.length_append, List.length_map, List.length_replicate, List.length_replicate, slotsOf_length, hl]
  · obtain ⟨t', v, h1, h2, h3, h4⟩ := at1 i _ e (by intro z; cases z)
    cases t' with
    | fz d =>
      have h4 : S.ow t = .ow (.fz d) := h4
      cases h4
      obtain ⟨v', q1, q2⟩ := W.pr i _ h1
      rw [h2] at q1; cases q1
      refine ⟨v, h3, ?_⟩
      unfold RepO at q2 ⊢
      exact q2
    | ol _ => cases h4
    | od _ _ _ => cases h4
    | oi _ _ _ => cases h4
  · obtain ⟨t', v, h1, h2, h3, h4⟩ := at1 i _ e (by intro z; cases z)
    cases t' with
    | fz d => cases h4
    | ol _ =>
      cases h4; exact ⟨v, h2, h3⟩
    | od _ _ _ =>
      cases h4; exact ⟨v, h2, h3⟩
    | oi _ _ _ =>
      cases h4; exact ⟨v, h2, h3⟩
  · exact W.pr j t e
end
/-- THE RULE for a def -/
theorem fn_mirror {P : Program} {w : World} {K : PySem.W.Frag} {mg : Str → Option Value} {base : Heap} {x qual : Str} {st : Stmt} {f : Addr} {fd : FuncData} {N ps : List Str} {k : Nat} {body : SD → Fl} (F : Fun K x qual st f fd) (S : FnScope N ps (defScope st))
    (h : ∀ (X : Cx) (pv : List V) (W : WX) (cdv : Value) (A : Around) (outer : List Env) (s : Shared) (H : Hp) (E : XK), X = cxOf (L2.CX P w) P w K mg base N qual (defScope st) f cdv A outer s H E → Takes X W → RoomG k X.A → DSs X pv W (defBody st) body) :
    FnG P w K mg base (L2.CX P w) (k + 1) f fd ps (spD K ps.length (asDef N.length body)) := by
  refine fun_okG F S (fun vs H Q E hs => hs.1) fun cdv A outer s H vs Q E hr hs => ?_
  obtain ⟨hl, G, Fz, ts, htl, hst, hm⟩ := hs
  obtain ⟨t, h1, h2⟩ := h _ vs (fun cls d _ H => E cls d H) cdv A outer s H E rfl (takes_of rfl rfl rfl rfl) hr
  refine ⟨t, h1, ?_⟩
  have hpl : ps.length ≤ N.length := by have := congrArg List.length S.pre; rw [List.length_take] at this; omega
  have z := h2 G Fz (entry N.length ts) (L2.start N vs) H { nx := fun _ H' => Q .non H', rt := Q } (hst.enter (by omega) (by omega))
  unfold asDef at hm
  revert z hm
  cases body (entry N.length ts) with
  | bad => exact fun hm _ => hm.elim
  | bk sd' => exact fun hm _ => hm.elim
  | ct sd' => exact fun hm _ => hm.elim
  | nx sd' => exact fun hm z => z fun F' σ' H' s1 s2 => hm .non F' H' s1 (StR1.fz s2.bare .non)
  | rt t sd' => exact fun hm z => z fun v F' σ' H' s1 s2 => hm v F' H' s1 s2.bare
  | rz e sd' => exact fun hm z => z fun cls dd F' σ' H' s1 s2 s3 => hm cls dd F' H' s1 s2.bare s3
end DL
namespace DL
open PySem PySem.Spec L2
open PyProof.Rows (floordiv_int mod_int' pow_int)
noncomputable def dAdd : D → D → Option D
  | .int i, .int j => some (.int (i + j))
  | .str x, .str y => if x.length + y.length ≤ 16777216 then some (.str (x ++ y)) else none
  | _, _ => none
noncomputable def dSub : D → D → Option D
  | .int i, .int j => some (.int (i - j))
  | _, _ => none
noncomputable def dMul : D → D → Option D
  | .int i, .int j => if i.natAbs.log2 + j.natAbs.log2 < 1000000 then some (.int (i * j)) else none
  | _, _ => none
noncomputable def dDiv : D → D → Option D
  | .int i, .int j => if j ≠ 0 ∧ j.natAbs.log2 < 9000 then some (.int (i.fdiv j)) else none
  | _, _ => none
noncomputable def dMod : D → D → Option D
  | .int i, .int j => if j ≠ 0 then some (.int (i.fmod j)) else none
  | _, _ => none
noncomputable def dPow : D → D → Option D
  | .int i, .int j => if 0 ≤ j ∧ (Builtin.Int.intBits i : Int) * j ≤ 134217728 then some (.int (i ^ j.toNat)) else none
  | _, _ => none
noncomputable def dNeg : D → Option D
  | .int i => some (.int (-i))
  | _ => none
noncomputable def dLt : D → D → Option D
  | .int i, .int j => some (.bl (decide (i < j)))
  | .str x, .str y => some (.bl (decide (x.cps.toList < y.cps.toList)))
  | _, _ => none
noncomputable def dLe : D → D → Option D
  | .int i, .int j => some (.bl (decide (i ≤ j)))
  | _, _ => none
noncomputable def dGt : D → D → Option D
  | .int i, .int j => some (.bl (decide (j < i)))
  | _, _ => none
noncomputable def dGe : D → D → Option D
  | .int i, .int j => some (.bl (decide (j ≤ i)))
  | _, _ => none
noncomputable def isNonD : D → Bool
  | .non => true
  | _ => false
noncomputable def dIsN : D → D → Option D
  | a, .non => some (.bl (isNonD a))
  | _, _ => none
noncomputable def dNotN : D → D → Option D
  | a, .non => some (.bl (!isNonD a))
  | _, _ => none
section
variable {X : Cx}
noncomputable def rDiv : R2 := rI (fun _ j => j ≠ 0 ∧ j.natAbs.log2 < 9000) fun i j => .int (i.fdiv j)
theorem op_divX : OpR X (binaryOp .FloorDiv) rDiv := opI fun _ _ _ _ _ _ _ hc q => floordiv_int hc.1 q (.inl (PyProof.noPylong_of_log2 hc.2))
noncomputable def rPow : R2 := rI (fun i j => 0 ≤ j ∧ (Builtin.Int.intBits i : Int) * j ≤ 134217728) fun i j => .int (i ^ j.toNat)
theorem op_powX : OpR X (binaryOp .Pow) rPow := opI fun _ _ _ _ _ _ _ hc q => pow_int hc.1 (by have := hc.2; simpa using this) q
noncomputable def rAddX : R2 := fun x y H Q => (rI0 fun i j => .int (i + j)) x y H Q ∨ ∃ i j, x = .str i ∧ y = .str j ∧ i.length + j.length ≤ sizeLine ∧ Q (.str (i ++ j)) H
theorem op_addX : OpR X (binaryOp .Add) rAddX := op_add.or op_add_str
end
section
variable {K : PySem.W.Frag}
theorem rep_int {H : Hp} {v : V} {i : Int} (r : Rep K H v (.int i)) : v = .int i := by cases r; rfl
theorem rep_str {H : Hp} {v : V} {x : Str} (r : Rep K H v (.str x)) : v = .str x := by cases r; rfl
theorem f_add : Op2S K rAddX dAdd := by
  intro H x y a b c ra rb h
  unfold dAdd at h
  split at h
  · cases h
    exact ⟨_, rfl, fun Q q => .inl ⟨_, _, rep_int ra, rep_int rb, q⟩⟩
  · split at h
    · rename_i hl
      cases h
      exact ⟨_, rfl, fun Q q => .inr ⟨_, _, rep_str ra, rep_str rb, by rw [sizeLine_eq]; exact hl, q⟩⟩
    · cases h
  · cases h
theorem f_sub : Op2S K (rI0 fun i j => .int (i - j)) dSub := by
  intro H x y a b c ra rb h
  unfold dSub at h
  split at h
  · cases h
    exact ⟨_, rfl, fun Q q => ⟨_, _, rep_int ra, rep_int rb, q⟩⟩
  · cases h
theorem f_mul : Op2S K (rI CMulW fun i j => .int (i * j)) dMul := by
  intro H x y a b c ra rb h
  unfold dMul at h
  split at h
  · split at h
    · rename_i hl
      cases h
      exact ⟨_, rfl, fun Q q => ⟨_, _, rep_int ra, rep_int rb, hl, q⟩⟩
    · cases h
  · cases h
theorem f_div : Op2S K rDiv dDiv := by
  intro H x y a b c ra rb h
  unfold dDiv at h
  split at h
  · split at h
    · rename_i hl
      cases h
      exact ⟨_, rfl, fun Q q => ⟨_, _, rep_int ra, rep_int rb, hl, q⟩⟩
    · cases h
  · cases h
theorem f_mod : Op2S K (rI (fun _ j => j ≠ 0) fun i j => .int (i.fmod j)) dMod := by
  intro H x y a b c ra rb h
  unfold dMod at h
  split at h
  · split at h
    · rename_i hl
      cases h
      exact ⟨_, rfl, fun Q q => ⟨_, _, rep_int ra, rep_int rb, hl, q⟩⟩
    · cases h
  · cases h
theorem f_pow : Op2S K rPow dPow := by
  intro H x y a b c ra rb h
  unfold dPow at h
  split at h
  · split at h
    · rename_i hl
      cases h
      exact ⟨_, rfl, fun Q q => ⟨_, _, rep_int ra, rep_int rb, hl, q⟩⟩
    · cases h
  · cases h
noncomputable def rLtX : R2 := fun x y H Q => (rI0 fun i j => .bl (decide (i < j))) x y H Q ∨ ∃ i j, x = .str i ∧ y = .str j ∧ Q (.bl (decide (i.cps.toList < j.cps.toList))) H
theorem op_ltX {X : Cx} : OpR X (compareOp .Lt) rLtX := op_lt.or op_lt_str
theorem f_lt : Op2S K rLtX dLt := by
  intro H x y a b c ra rb h
  unfold dLt at h
  split at h
  · cases h
    exact ⟨_, rfl, fun Q q => .inl ⟨_, _, rep_int ra, rep_int rb, q⟩⟩
  · cases h
    exact ⟨_, rfl, fun Q q => .inr ⟨_, _, rep_str ra, rep_str rb, q⟩⟩
  · cases h
theorem f_le : Op2S K (rI0 fun i j => .bl (decide (i ≤ j))) dLe := by
  intro H x y a b c ra rb h
  unfold dLe at h
  split at h
  · cases h
    exact ⟨_, rfl, fun Q q => ⟨_, _, rep_int ra, rep_int rb, q⟩⟩
  · cases h
theorem f_gt : Op2S K (rI0 fun i j => .bl (decide (j < i))) dGt := by
  intro H x y a b c ra rb h
  unfold dGt at h
  split at h
  · cases h
    exact ⟨_, rfl, fun Q q => ⟨_, _, rep_int ra, rep_int rb, q⟩⟩
  · cases h
theorem rep_non {F : Hp} {x : V} {a : D} (r : Rep K F x a) : decide (x = .non) = isNonD a := by
  cases r <;> rfl
theorem f_isN : Op2S K (fun x y H Q => y = .non ∧ Q (.bl (decide (x = .non))) H) dIsN := by
  intro H x y a b c ra rb h
  cases rb <;> simp only [dIsN, reduceCtorEq, Option.some.injEq] at h
  subst h
  exact ⟨_, rfl, fun Q q => ⟨rfl, by rw [rep_non ra]; exact q⟩⟩
theorem f_notN : Op2S K (fun x y H Q => y = .non ∧ Q (.bl (!decide (x = .non))) H) dNotN := by
  intro H x y a b c ra rb h
  cases rb <;> simp only [dNotN, reduceCtorEq, Option.some.injEq] at h
  subst h
  exact ⟨_, rfl, fun Q q => ⟨rfl, by rw [rep_non ra]; exact q⟩⟩
end
mutual
noncomputable def D.py : D → Option PyData
  | .non => some .none
  | .bl b => some (.bool b)
  | .int i => some (.int i)
  | .str x => some (.str x)
  | .tup xs => (D.pys xs).map .tuple
  | .ktu xs => (D.pys xs).map .tuple
  | .lst xs => (D.pys xs).map .list
  | _ => none
noncomputable def D.pys : List D → Option (List PyData)
  | [] => some []
  | d :: ds => d.py.bind fun p => (D.pys ds).map (p :: ·)
end
section
variable {K : PySem.W.Frag} {F : Hp}
mutual
theorem Rep.dp : ∀ {v : V} {d : D} {p : PyData}, Rep K F v d → d.py = some p → Dp K F v p
  | _, _, _, .non, h => by rw [D.py] at h; cases h; exact .non
  | _, _, _, .bl b, h => by rw [D.py] at h; cases h; exact .bl b
  | _, _, _, .int i, h => by rw [D.py] at h; cases h; exact .int i
  | _, _, _, .str x, h => by rw [D.py] at h; cases h; exact .str x
  | _, _, _, .ty n, h => by simp [D.py] at h
  | _, _, _, .cls C, h => by simp [D.py] at h
  | _, _, p, .tup (ds := ds) s r, h => by
    rw [D.py] at h
    cases e : D.pys ds with
    | none => rw [e] at h; cases h
    | some ps => rw [e] at h; cases h; exact .tup (.inl (.inl s)) (Reps.dp r e)
  | _, _, p, .ktu (ds := ds) s r, h => by
    rw [D.py] at h
    cases e : D.pys ds with
    | none => rw [e] at h; cases h
    | some ps => rw [e] at h; cases h; exact .tup s (Reps.dp r e)
  | _, _, p, .lst (ds := ds) s r, h => by
    rw [D.py] at h
    cases e : D.pys ds with
    | none => rw [e] at h; cases h
    | some ps => rw [e] at h; cases h; exact .lst (.inl s) (Reps.dp r e)
  | _, _, _, .scr _, h => by simp [D.py] at h
  | _, _, _, .dicK _ _, h => by simp [D.py] at h
  | _, _, _, .dicT _ _, h => by simp [D.py] at h
  | _, _, _, .ins _ _, h => by simp [D.py] at h
  | _, _, _, .exc _ _ _ _, h => by simp [D.py] at h
theorem Reps.dp : ∀ {vs : List V} {ds : List D} {ps : List PyData}, Reps K F vs ds → D.pys ds = some ps → DpAll K F vs ps
  | _, _, _, .nil, h => by rw [D.pys] at h; cases h; exact .nil
  | _, _, ps, .cons (d := d) (ds := ds) r1 r2, h => by
    rw [D.pys] at h
    cases e : d.py with
    | none => rw [e] at h; cases h
    | some p =>
      rw [e] at h
      cases e2 : D.pys ds with
      | none => rw [e2] at h; cases h
      | some qs => rw [e2] at h; cases h; exact .cons (Rep.dp r1 e) (Reps.dp r2 e2)
end
end
noncomputable def dEqB (a b : D) : Option Bool := match a, b with
  | .int i, .int j => some (decide (i = j))
  | .str x, .str y => some (decide (x = y))
  | .bl x, .bl y => some (decide (x = y))
  | a, b => match a.py, b.py with
    | some p, some q => if (SeqAt.shaped p && SeqAt.shaped q) = true then some (PyData.eqv p q) else none
    | _, _ => none
noncomputable def dEq (a b : D) : Option D := (dEqB a b).map .bl
noncomputable def dNe (a b : D) : Option D := (dEqB a b).map fun c => .bl (!c)
noncomputable def rEqX (K : PySem.W.Frag) : R2 := fun x y H Q => rEq x y H Q ∨ rEqD K x y H Q
noncomputable def rNeX (K : PySem.W.Frag) : R2 := fun x y H Q => rNe x y H Q ∨ rNeD K x y H Q
theorem op_eqX {X : Cx} (hu : X.A.units + 64 < cLine) : OpR X (compareOp .Eq) (rEqX X.K) := op_eq.or (op_eqD hu)
theorem op_neX {X : Cx} (hu : X.A.units + 64 < cLine) : OpR X (compareOp .NotEq) (rNeX X.K) := op_ne.or (op_neD hu)
section
variable {K : PySem.W.Frag}
theorem eqB_of {H : Hp} {x y : V} {a b : D} {c : Bool} (ra : Rep K H x a) (rb : Rep K H y b) (h : dEqB a b = some c) :
    (scal x y = true ∧ decide (x = y) = c) ∨ ∃ d e, Dp K H x d ∧ Dp K H y e ∧ SeqAt.shaped d = true ∧ SeqAt.shaped e = true ∧ PyData.eqv d e = c := by
  have gen : (match a.py, b.py with
    | some p, some q => if (SeqAt.shaped p && SeqAt.shaped q) = true then some (PyData.eqv p q) else none
    | _, _ => none) = some c → (scal x y = true ∧ decide (x = y) = c) ∨ ∃ d e, Dp K H x d ∧ Dp K H y e ∧ SeqAt.shaped d = true ∧ SeqAt.shaped e = true ∧ PyData.eqv d e = c := fun h => by
    cases e1 : a.py with
    | none => rw [e1] at h; cases h
    | some p =>
      cases e2 : b.py with
      | none => rw [e1, e2] at h; cases h
      | some q =>
        rw [e1, e2] at h
        have h : (if (SeqAt.shaped p && SeqAt.shaped q) = true then some (PyData.eqv p q) else none) = some c := h
        split at h
        · rename_i hs
          rw [Bool.and_eq_true] at hs
          cases h
          exact .inr ⟨p, q, ra.dp e1, rb.dp e2, hs.1, hs.2, rfl⟩
        · cases h
  unfold dEqB at h
  split at h
  · cases ra; cases rb
    cases h
    exact .inl ⟨rfl, by simp⟩
  · cases ra; cases rb
    cases h
    exact .inl ⟨rfl, by simp⟩
  · cases ra; cases rb
    cases h
    exact .inl ⟨rfl, by simp⟩
  · exact gen h
theorem f_eq : Op2S K (rEqX K) dEq := by
  intro H x y a b c ra rb h
  unfold dEq at h
  cases e : dEqB a b with
  | none => rw [e] at h; cases h
  | some k =>
    rw [e] at h; cases h
    refine ⟨_, rfl, fun Q q => ?_⟩
    rcases eqB_of ra rb e with ⟨h1, h2⟩ | ⟨d, d2, h1, h2, h3, h4, h5⟩
    · subst h2; exact .inl ⟨h1, q⟩
    · subst h5; exact .inr ⟨d, d2, h1, h2, h3, h4, q⟩
theorem f_ne : Op2S K (rNeX K) dNe := by
  intro H x y a b c ra rb h
  unfold dNe at h
  cases e : dEqB a b with
  | none => rw [e] at h; cases h
  | some k =>
    rw [e] at h; cases h
    refine ⟨_, rfl, fun Q q => ?_⟩
    rcases eqB_of ra rb e with ⟨h1, h2⟩ | ⟨d, d2, h1, h2, h3, h4, h5⟩
    · subst h2; exact .inl ⟨h1, q⟩
    · subst h5; exact .inr ⟨d, d2, h1, h2, h3, h4, q⟩
end
section
variable {X : Cx} {pv : List V} {W : WX} {p q k l : Bool} {e a b c : Expr} {es : List Expr} {pos : Pos}
noncomputable def mAndV (a b : SD → ER D) : SD → ER D := fun sd => (a sd).bind fun x sd1 => match x with
  | .bl true => b sd1
  | .bl false => .ok (.bl false) sd1
  | _ => .bad
noncomputable def mOrV (a b : SD → ER D) : SD → ER D := fun sd => (a sd).bind fun x sd1 => match x with
  | .bl true => .ok (.bl true) sd1
  | .bl false => b sd1
  | _ => .bad
noncomputable def mNotV (a : SD → ER D) : SD → ER D := fun sd => (a sd).bind fun x sd1 => match x with
  | .bl b => .ok (.bl (!b)) sd1
  | _ => .bad
theorem dx_one {op : BoolOp} {m : SD → ER D} (h : DX X pv W p k a m) (hop : ∀ {te : TE}, PE X a te → PE X (.BoolOp op [a] pos) te) : DX X pv W p k (.BoolOp op [a] pos) m := by
  obtain ⟨te, a1, a2⟩ := h
  exact ⟨te, hop a1, a2⟩
theorem dx_and {ma mb : SD → ER D} (h : DX X pv W p k a ma) (h2 : DX X pv W q true (.BoolOp .And (b :: es) pos) mb) : DX X pv W (p && q) true (.BoolOp .And (a :: b :: es) pos) (mAndV ma mb) := by
  obtain ⟨te, a1, a2⟩ := h
  obtain ⟨tf, b1, b2⟩ := h2
  refine ⟨_, pe_and a1 b1, fun G F sd σ H Q s => ?_⟩
  refine Meets.bind (a2 G F sd σ H _ s) fun x F1 H1 dx sd1 s1 s2 s3 s4 => ?_
  have r := RSx.see s3 s2
  cases dx with
  | bl b =>
    cases r
    cases b with
    | true =>
      refine Meets.imp (f := id) (b2 G F1 sd1 σ H1 Q s2) (fun z => ⟨true, rfl, by rw [if_pos rfl]; exact z⟩) ?_ fun v F2 H2 a2 sd2 _ t1 t2 t3 t4 hQ => hQ v F2 H2 (Same.refl _) t2 t3 (Same.refl _)
      show mb sd1 = (mb sd1).bind fun a sd1 => .ok a sd1
      cases mb sd1 <;> rfl
    | false => exact Meets.here s2 (show RSx X.K true G F1 sd1 H1 σ (.bl false) (.bl false) from .bl _) fun q => ⟨false, rfl, by rw [if_neg (by decide)]; exact q⟩
  | _ => exact True.intro
theorem dx_or {ma mb : SD → ER D} (h : DX X pv W p k a ma) (h2 : DX X pv W q true (.BoolOp .Or (b :: es) pos) mb) : DX X pv W (p && q) true (.BoolOp .Or (a :: b :: es) pos) (mOrV ma mb) := by
  obtain ⟨te, a1, a2⟩ := h
  obtain ⟨tf, b1, b2⟩ := h2
  refine ⟨_, pe_or a1 b1, fun G F sd σ H Q s => ?_⟩
  refine Meets.bind (a2 G F sd σ H _ s) fun x F1 H1 dx sd1 s1 s2 s3 s4 => ?_
  have r := RSx.see s3 s2
  cases dx with
  | bl b =>
    cases r
    cases b with
    | false =>
      refine Meets.imp (f := id) (b2 G F1 sd1 σ H1 Q s2) (fun z => ⟨false, rfl, by rw [if_neg (by decide)]; exact z⟩) ?_ fun v F2 H2 a2 sd2 _ t1 t2 t3 t4 hQ => hQ v F2 H2 (Same.refl _) t2 t3 (Same.refl _)
      show mb sd1 = (mb sd1).bind fun a sd1 => .ok a sd1
      cases mb sd1 <;> rfl
    | true => exact Meets.here s2 (show RSx X.K true G F1 sd1 H1 σ (.bl true) (.bl true) from .bl _) fun q => ⟨true, rfl, by rw [if_pos rfl]; exact q⟩
  | _ => exact True.intro
theorem dx_and1 {m : SD → ER D} (h : DX X pv W p k a m) : DX X pv W p k (.BoolOp .And [a] pos) m := dx_one h fun z => pe_one z
theorem dx_or1 {m : SD → ER D} (h : DX X pv W p k a m) : DX X pv W p k (.BoolOp .Or [a] pos) m := dx_one h fun z => pe_one z
/-- a < b < c -/
noncomputable def mChain (f g : D → D → Option D) (a b c : SD → ER D) : SD → ER D := fun sd => (a sd).bind fun x sd1 => (b sd1).bind fun y sd2 => match f x y with
  | some (.bl true) => (c sd2).bind fun z sd3 => ER.opt (g y z) sd3
  | some (.bl false) => .ok (.bl false) sd2
  | _ => .bad
end
end DL
namespace DL
open PySem PySem.Spec L2
section
variable {α β : Type} {K : PySem.W.Frag} {pv : List V} {W : WX} {G F H : Hp} {σ : L2.St} {sd : SD} {p q : Bool}
theorem Meets.to {RS : RSt β α} {r : ER α} {Q : β → Hp → Prop} {P P' : Prop} (h : Meets K pv W G σ RS p sd F H r Q P) (hP : P → P') : Meets K pv W G σ RS p sd F H r Q P' := by
  cases r with
  | bad => exact True.intro
  | rz x sd' => exact fun z => hP (h z)
  | ok a sd' => exact fun z => hP (h z)
theorem Meets.bindL {γ δ : Type} {RS : RSt β α} {RS' : RSt δ γ} {r : ER α} {f : α → SD → ER γ} {Q : δ → Hp → Prop} {k : β → Hp → Prop} {P : Prop} (h : Meets K pv W G σ RS p sd F H r k P)
    (g : ∀ v F1 H1 a sd1, Same F F1 → StR K pv G F1 sd1 σ H1 → RS G F1 sd1 H1 σ v a → (p = true → Same H H1 ∧ sd1 = sd) → Meets K pv W G σ RS' true sd1 F1 H1 (f a sd1) Q (k v H1)) :
    Meets K pv W G σ RS' p sd F H (r.bind f) Q P := by
  have z := Meets.bind h g
  have hp : (p && true) = p := by cases p <;> rfl
  rw [hp] at z
  exact z
end
section
variable {X : Cx} {pv : List V} {W : WX} {p q k l : Bool} {e a b c : Expr} {es : List Expr} {pos : Pos}
theorem tr_chain {r r' : R2} {f g : D → D → Option D} {ta tb tc : TE} {ma mb mc : SD → ER D} {q' l' : Bool} (hf : Op2S X.K r f) (hg : Op2S X.K r' g) (ha : TrX X.K pv W p k ta ma) (hb : TrX X.K pv W q l tb mb) (hc : TrX X.K pv W q' l' tc mc)
    (hk : (k || q) = true) (hk2 : (l || q') = true) : TrX X.K pv W (p && (q && q')) true (tChain r r' ta tb tc) (mChain f g ma mb mc) := by
  intro G F sd σ H Q s
  refine Meets.bind (ha G F sd σ H _ s) fun x F1 H1 dx sd1 s1 s2 s3 s4 => ?_
  refine Meets.bind (hb G F1 sd1 σ H1 _ s2) fun y F2 H2 dy sd2 t1 t2 t3 t4 => ?_
  have rx : Rep X.K H2 x dx := by
    cases k with
    | true => exact Rep.mono t2.fh (Rep.mono t1 s3)
    | false => exact Rep.mono (t4 (by simpa using hk)).1 s3
  split
  · rename_i e
    obtain ⟨v, h1, h2⟩ := hf H2 x y dx dy _ rx (RSx.see t3 t2) e
    cases h1
    refine Meets.to (Meets.bindL (hc G F2 sd2 σ H2 (fun w' H4 => r' y w' H4 Q) t2) fun z F3 H3 dz sd3 u1 u2 u3 u4 => ?_) fun z => h2 _ ⟨true, rfl, by rw [if_pos rfl]; exact z⟩
    have ry : Rep X.K H3 y dy := by
      cases l with
      | true => exact Rep.mono u2.fh (Rep.mono u1 t3)
      | false => exact Rep.mono (u4 (by simpa using hk2)).1 t3
    cases e2 : g dy dz with
    | none => exact True.intro
    | some c =>
      obtain ⟨v, h1, h2⟩ := hg H3 y z dy dz c ry (RSx.see u3 u2) e2
      exact Meets.here u2 (show RSx X.K true G F3 sd3 H3 σ v c from Rep.sc h1) (h2 Q)
  · rename_i e
    obtain ⟨v, h1, h2⟩ := hf H2 x y dx dy _ rx (RSx.see t3 t2) e
    cases h1
    exact Meets.here t2 (show RSx X.K true G F2 sd2 H2 σ (.bl false) (.bl false) from .bl _) fun q => h2 _ ⟨false, rfl, by rw [if_neg (by decide)]; exact q⟩
  · exact True.intro
theorem dx_chain {op op' : CmpOp} {r r' : R2} {f g : D → D → Option D} {ma mb mc : SD → ER D} {q' l' : Bool} (ho : OpR X (compareOp op) r) (ho' : OpR X (compareOp op') r') (hf : Op2S X.K r f) (hg : Op2S X.K r' g) (ha : DX X pv W p k a ma) (hb : DX X pv W q l b mb)
    (hc : DX X pv W q' l' c mc) (hk : (k || q) = true := by rfl) (hk2 : (l || q') = true := by rfl) (hm : lastMarks [op, op'] [b, c] = false := by with_unfolding_all rfl) : DX X pv W (p && (q && q')) true (.Compare a [op, op'] [b, c] pos) (mChain f g ma mb mc) := by
  obtain ⟨ta, a1, a2⟩ := ha
  obtain ⟨tb, b1, b2⟩ := hb
  obtain ⟨tc, c1, c2⟩ := hc
  exact ⟨_, pe_chain ho ho' a1 b1 c1 hm, tr_chain hf hg a2 b2 c2 hk hk2⟩
theorem dt_chain {op op' : CmpOp} {r r' : R2} {f g : D → D → Option D} {ma mb mc : SD → ER D} {q' l' : Bool} (ho : OpR X (compareOp op) r) (ho' : OpR X (compareOp op') r') (hf : Op2S X.K r f) (hg : Op2S X.K r' g) (ha : DX X pv W p k a ma) (hb : DX X pv W q l b mb)
    (hc : DX X pv W q' l' c mc) (hk : (k || q) = true := by rfl) (hk2 : (l || q') = true := by rfl) (hm : lastMarks [op, op'] [b, c] = false := by with_unfolding_all rfl) : DT X pv W (p && (q && q')) (.Compare a [op, op'] [b, c] pos) (mTest (mChain f g ma mb mc)) := by
  obtain ⟨ta, a1, a2⟩ := ha
  obtain ⟨tb, b1, b2⟩ := hb
  obtain ⟨tc, c1, c2⟩ := hc
  exact ⟨_, pt_chain ho ho' a1 b1 c1 hm, tr_test (tr_chain hf hg a2 b2 c2 hk hk2)⟩
/-- a call that gives a flat value -/
noncomputable def CallS (K : PySem.W.Frag) (r : List V → Hp → VK → Prop) (f : List D → Option D) : Prop := ∀ H xs ds c, Reps K H xs ds → f ds = some c → ∃ v, c.sc = some v ∧ ∀ Q : VK, Q v H → r xs H Q
/-- a call that gives a new list -/
noncomputable def CallL (K : PySem.W.Frag) (r : List V → Hp → VK → Prop) (f : List D → Option (List D)) : Prop := ∀ F H xs ds cs, Same F H → Reps K F xs ds → f ds = some cs → ∀ Q : VK, (∀ p vs, H p = none → Reps K F vs cs → Q (.ref p) (upd H p (.lst vs))) → r xs H Q
noncomputable def mCallL (f : List D → Option (List D)) (a : SD → ER (List D)) : SD → ER OT := fun sd => (a sd).bind fun xs sd1 => ER.opt ((f xs).map fun cs => .ol (cs.map .fz)) sd1
theorem tr_callS {r : List V → Hp → VK → Prop} {f : List D → Option D} {ta : TA} {m : SD → ER (List D)} (hf : CallS X.K r f) (h : TrA X.K pv W p k ta m) : TrX X.K pv W p true (tCB r ta) (mCall f m) := by
  intro G F sd σ H Q s
  refine Meets.bindL (h G F sd σ H _ s) fun xs F1 H1 ds sd1 s1 s2 s3 s4 => ?_
  cases e : f ds with
  | none => exact True.intro
  | some c =>
    obtain ⟨v, h1, h2⟩ := hf H1 xs ds c (RSl.see s3 s2) e
    exact Meets.here s2 (show RSx X.K true G F1 sd1 H1 σ v c from Rep.sc h1) (h2 Q)
theorem tr_callL {r : List V → Hp → VK → Prop} {f : List D → Option (List D)} {ta : TA} {m : SD → ER (List D)} (hf : CallL X.K r f) (h : TrA X.K pv W p true ta m) : TrO X.K pv W p (tCB r ta) (mCallL f m) := by
  intro G F sd σ H Q s
  refine Meets.bindL (h G F sd σ H _ s) fun xs F1 H1 ds sd1 s1 s2 s3 s4 => ?_
  cases e : f ds with
  | none => exact True.intro
  | some cs =>
    intro hQ
    refine hf F1 H1 xs ds cs s2.fh s3 e Q fun p vs hp hr => ?_
    have z := s2.newL hp hr
    exact hQ _ _ _ (Same.refl _) z.drop z fun _ => ⟨Same.upd hp, rfl⟩
theorem dx_callB {x : Str} {id : String} {pp : Pos} {r : List V → Hp → VK → Prop} {f : List D → Option D} {m : SD → ER (List D)} (hc : CallR X (.builtin id) r) (hf : CallS X.K r f) (hg : Gl X x) (hm : X.mg x = none) (hv : bootBuiltins x = some (.builtin id)) (ha : DA X pv W p k (e :: es) m)
    (hn : x ≠ "__name__" := by decide) (hdb : (x == ("__debug__" : Str)) = false := by decide) (he : starEach (e :: es) X.env = (false, eval e X.env) :: starEach es X.env := by rfl) (hpl : (backTo pos (starEach es X.env)).any (·.1) = false := by rfl) :
    DX X pv W p true (.Call (.Name x pp) (e :: es) [] pos) (mCall f m) := by
  obtain ⟨ta, a1, a2⟩ := ha
  exact ⟨_, pe_callB hc hg hm hv a1 hn hdb he hpl, tr_callS hf a2⟩
theorem dx_callTy {x : Str} {T : String} {pp : Pos} {r : List V → Hp → VK → Prop} {f : List D → Option D} {m : SD → ER (List D)} (hc : CallR X (.type T) r) (hf : CallS X.K r f) (hg : Gl X x) (hm : X.mg x = none) (hv : bootBuiltins x = some (.type T)) (ha : DA X pv W p k (e :: es) m)
    (hn : x ≠ "__name__" := by decide) (hdb : (x == ("__debug__" : Str)) = false := by decide) (he : starEach (e :: es) X.env = (false, eval e X.env) :: starEach es X.env := by rfl) (hpl : (backTo pos (starEach es X.env)).any (·.1) = false := by rfl) :
    DX X pv W p true (.Call (.Name x pp) (e :: es) [] pos) (mCall f m) := by
  obtain ⟨ta, a1, a2⟩ := ha
  exact ⟨_, pe_callTy hc hg hm hv a1 hn hdb he hpl, tr_callS hf a2⟩
theorem do_callTy {x : Str} {T : String} {pp : Pos} {r : List V → Hp → VK → Prop} {f : List D → Option (List D)} {m : SD → ER (List D)} (hc : CallR X (.type T) r) (hf : CallL X.K r f) (hg : Gl X x) (hm : X.mg x = none) (hv : bootBuiltins x = some (.type T)) (ha : DA X pv W p true (e :: es) m)
    (hn : x ≠ "__name__" := by decide) (hdb : (x == ("__debug__" : Str)) = false := by decide) (he : starEach (e :: es) X.env = (false, eval e X.env) :: starEach es X.env := by rfl) (hpl : (backTo pos (starEach es X.env)).any (·.1) = false := by rfl) :
    DO X pv W p (.Call (.Name x pp) (e :: es) [] pos) (mCallL f m) := by
  obtain ⟨ta, a1, a2⟩ := ha
  exact ⟨_, pe_callTy hc hg hm hv a1 hn hdb he hpl, tr_callL hf a2⟩
theorem reps1 {K : PySem.W.Frag} {F : Hp} {vs : List V} {d : D} (r : Reps K F vs [d]) : ∃ v, vs = [v] ∧ Rep K F v d := by
  cases r with
  | cons h t => cases t; exact ⟨_, rfl, h⟩
theorem reps2 {K : PySem.W.Frag} {F : Hp} {vs : List V} {d d' : D} (r : Reps K F vs [d, d']) : ∃ v v', vs = [v, v'] ∧ Rep K F v d ∧ Rep K F v' d' := by
  cases r with
  | cons h t =>
    obtain ⟨v', rfl, h'⟩ := reps1 t
    exact ⟨_, _, rfl, h, h'⟩
noncomputable def dLen : List D → Option D
  | [.lst xs] => some (.int xs.length)
  | [.tup xs] => some (.int xs.length)
  | [.ktu xs] => some (.int xs.length)
  | [.str x] => if x.length ≤ 16777216 then some (.int x.length) else none
  | [.scr ns] => some (.int ns.length)
  | _ => none
theorem f_len {K : PySem.W.Frag} : CallS K (fun xs H Q => ∃ x n, xs = [x] ∧ LenV K x H n ∧ Q (.int n) H) dLen := by
  intro H xs ds c r h
  unfold dLen at h
  split at h
  · obtain ⟨v, rfl, r1⟩ := reps1 r
    cases r1 with
    | lst s t =>
      cases h
      exact ⟨_, rfl, fun Q q => ⟨_, _, rfl, .inl ⟨_, .inl s, rfl⟩, by rw [t.length]; exact q⟩⟩
  · obtain ⟨v, rfl, r1⟩ := reps1 r
    cases r1 with
    | tup s t =>
      cases h
      exact ⟨_, rfl, fun Q q => ⟨_, _, rfl, .inr ⟨_, .inl (.inl s), rfl⟩, by rw [t.length]; exact q⟩⟩
  · obtain ⟨v, rfl, r1⟩ := reps1 r
    cases r1 with
    | ktu s t =>
      cases h
      exact ⟨_, rfl, fun Q q => ⟨_, _, rfl, .inr ⟨_, s, rfl⟩, by rw [t.length]; exact q⟩⟩
  · obtain ⟨v, rfl, r1⟩ := reps1 r
    cases r1
    split at h
    · rename_i hl
      cases h
      exact ⟨_, rfl, fun Q q => ⟨_, _, rfl, (show LenV K (.str _) H _ from ⟨by rw [sizeLine_eq]; exact hl, rfl⟩), q⟩⟩
    · cases h
  · obtain ⟨v, rfl, r1⟩ := reps1 r
    cases r1 with
    | scr s =>
      cases h
      exact ⟨_, rfl, fun Q q => ⟨_, _, rfl, .inl ⟨_, s, rfl⟩, by rw [List.length_map]; exact q⟩⟩
  · cases h
/-- the ints of a list -/
noncomputable def intsOf : List D → Option (List Int)
  | [] => some []
  | .int i :: r => (intsOf r).map (i :: ·)
  | _ => none
theorem intsOf_map : ∀ ns : List Int, intsOf (ns.map D.int) = some ns
  | [] => rfl
  | n :: r => by rw [List.map_cons, intsOf, intsOf_map r]; rfl
theorem reps_ints {K : PySem.W.Frag} {F : Hp} : ∀ {ds : List D} {vs : List V} {ns : List Int}, Reps K F vs ds → intsOf ds = some ns → vs = ns.map V.int ∧ ds = ns.map D.int
  | [], _, _, .nil, h => by cases h; exact ⟨rfl, rfl⟩
  | d :: ds, _, ns, .cons r t, h => by
    cases d with
    | int i =>
      rw [intsOf] at h
      cases e : intsOf ds with
      | none => rw [e] at h; cases h
      | some ms =>
        rw [e] at h; cases h
        cases r
        obtain ⟨h1, h2⟩ := reps_ints t e
        exact ⟨by rw [h1]; rfl, by rw [h2]; rfl⟩
    | _ => simp [intsOf] at h
noncomputable def maxI : List Int → Int
  | [] => 0
  | n :: r => r.foldl max n
noncomputable def minI : List Int → Int
  | [] => 0
  | n :: r => r.foldl min n
theorem foldl_max : ∀ (r : List Int) (n : Int), (r.foldl max n = n ∨ r.foldl max n ∈ r) ∧ n ≤ r.foldl max n ∧ ∀ y ∈ r, y ≤ r.foldl max n
  | [], n => ⟨.inl rfl, Int.le_refl _, fun y h => by cases h⟩
  | m :: r, n => by
    obtain ⟨h1, h2, h3⟩ := foldl_max r (max n m)
    rw [List.foldl_cons]
    have e1 : n ≤ max n m := Int.le_max_left ..
    have e2 : m ≤ max n m := Int.le_max_right ..
    refine ⟨?_, Int.le_trans e1 h2, fun y hy => ?_⟩
    · rcases h1 with h1 | h1
      · by_cases z : n ≤ m
        · rw [h1]; rw [show max n m = m by omega]; exact .inr List.mem_cons_self
        · rw [h1]; exact .inl (by omega)
      · exact .inr (List.mem_cons_of_mem _ h1)
    · rcases List.mem_cons.mp hy with rfl | hy
      · exact Int.le_trans e2 h2
      · exact h3 y hy
theorem maxI_mem {n : Int} {r : List Int} : maxI (n :: r) ∈ n :: r := by
  obtain ⟨h1, _, _⟩ := foldl_max r n
  show r.foldl max n ∈ _
  rcases h1 with h1 | h1
  · rw [h1]; exact List.mem_cons_self
  · exact List.mem_cons_of_mem _ h1
theorem maxI_ge {n : Int} {r : List Int} : ∀ y ∈ n :: r, y ≤ maxI (n :: r) := fun y hy => by
  obtain ⟨_, h2, h3⟩ := foldl_max r n
  rcases List.mem_cons.mp hy with rfl | hy
  · exact h2
  · exact h3 y hy
noncomputable def dMax : List D → Option D
  | [.int i, .int j] => some (.int (max i j))
  | [.lst ds] => match intsOf ds with
    | some (n :: r) => some (.int (maxI (n :: r)))
    | _ => none
  | _ => none
noncomputable def dMin : List D → Option D
  | [.int i, .int j] => some (.int (min i j))
  | [.lst ds] => match intsOf ds with
    | some (n :: r) => some (.int (minI (n :: r)))
    | _ => none
  | _ => none
noncomputable def rMaxX (K : PySem.W.Frag) : List V → Hp → VK → Prop := fun xs H Q => (∃ i j, xs = [.int i, .int j] ∧ Q (.int (if j > i then j else i)) H) ∨ rMax K xs H Q
theorem call_maxX (hc : X.calm = true) : CallR X (.builtin "max") (rMaxX X.K) := (call_max2 hc).or (cr_max hc)
theorem f_max {K : PySem.W.Frag} : CallS K (rMaxX K) dMax := by
  intro H xs ds c r h
  unfold dMax at h
  split at h
  · rename_i i j
    obtain ⟨v, v', rfl, r1, r2⟩ := reps2 r
    cases r1; cases r2; cases h
    refine ⟨_, rfl, fun Q q => .inl ⟨_, _, rfl, ?_⟩⟩
    have e : (if j > i then j else i) = max i j := by split <;> omega
    rw [e]; exact q
  · obtain ⟨v, rfl, r1⟩ := reps1 r
    cases r1 with
    | @lst a vs ds s t =>
      split at h
      · rename_i n rr e
        cases h
        obtain ⟨h1, h2⟩ := reps_ints t e
        subst h1
        refine ⟨_, rfl, fun Q q => .inr ⟨a, n :: rr, rfl, .inl s, by simp, fun m hm hge => ?_⟩⟩
        have e : m = maxI (n :: rr) := Int.le_antisymm (maxI_ge m hm) (hge _ maxI_mem)
        rw [e]; exact q
      · cases h
  · cases h
/-- the bools of a list -/
noncomputable def boolsOf : List D → Option (List Bool)
  | [] => some []
  | .bl b :: r => (boolsOf r).map (b :: ·)
  | _ => none
theorem reps_bools {K : PySem.W.Frag} {F : Hp} : ∀ {ds : List D} {vs : List V} {ns : List Bool}, Reps K F vs ds → boolsOf ds = some ns → vs = ns.map V.bl
  | [], _, _, .nil, h => by cases h; rfl
  | d :: ds, _, ns, .cons r t, h => by
    cases d with
    | bl i =>
      rw [boolsOf] at h
      cases e : boolsOf ds with
      | none => rw [e] at h; cases h
      | some ms =>
        rw [e] at h; cases h
        cases r
        rw [reps_bools t e]; rfl
    | _ => simp [boolsOf] at h
noncomputable def dAll : List D → Option D
  | [.lst ds] => (boolsOf ds).map fun bs => .bl (bs.all id)
  | _ => none
theorem f_all {K : PySem.W.Frag} : CallS K (rAll K) dAll := by
  intro H xs ds c r h
  unfold dAll at h
  split at h
  · obtain ⟨v, rfl, r1⟩ := reps1 r
    cases r1 with
    | @lst a vs ds s t =>
      obtain ⟨ns, e, h⟩ := Option.map_eq_some_iff.mp h
      cases h
      have h1 := reps_bools t e
      subst h1
      exact ⟨_, rfl, fun Q q => ⟨a, ns, rfl, .inl s, q⟩⟩
  · cases h
end
end DL
namespace DL
open PySem PySem.Spec L2
open PyProof.Rows (IntsAre seqObj)
noncomputable def IsIT (h : Heap) (v : Value) (ns : List Int) : Prop := ∃ a o its n, v = .ref a ∧ h.get? a = some o ∧ o.cls = .type "tuple" ∧ o.data = .seq its n ∧ IntsAre its.toList ns
theorem IsIT.keeps {h h' : Heap} {v : Value} {ns : List Int} (p : IsIT h v ns) (k : ∀ b o, h.get? b = some o → o.cls = .type "tuple" → h'.get? b = some o) : IsIT h' v ns := by
  obtain ⟨a, o, its, n, e, ho, hc, hd⟩ := p
  exact ⟨a, o, its, n, e, k _ _ ho hc, hc, hd⟩
end DL
namespace DL
open PySem PySem.Spec L2
noncomputable def D.isA (d : D) (n : String) : Option Bool :=
  match d with
  | .non => some false
  | .bl _ => some (n == "bool" || n == "int")
  | .int _ => some (n == "int")
  | .str _ => some (n == "str")
  | .tup _ => some (n == "tuple")
  | .ktu _ => some (n == "tuple")
  | .lst _ => some (n == "list")
  | .scr _ => some (n == "list")
  | .dic false _ _ => some (n == "dict")
  | _ => none
noncomputable def tyName (n : String) : Bool := n == "bool" || n == "int" || n == "str" || n == "tuple" || n == "list" || n == "dict"
noncomputable def dIsi : List D → Option D
  | [d, .ty n] => if tyName n = true then (d.isA n).map .bl else none
  | _ => none
theorem kitB_all : ∀ n ∈ ["bool", "int", "str", "tuple", "list", "dict"], kitB "NoneType" n = some false ∧ kitB "bool" n = some (n == "bool" || n == "int") ∧ kitB "int" n = some (n == "int") ∧ kitB "str" n = some (n == "str") ∧
    kitB "tuple" n = some (n == "tuple") ∧ kitB "list" n = some (n == "list") ∧ kitB "dict" n = some (n == "dict") := by decide +kernel
theorem kitB_is {n : String} (h : tyName n = true) : kitB "NoneType" n = some false ∧ kitB "bool" n = some (n == "bool" || n == "int") ∧ kitB "int" n = some (n == "int") ∧ kitB "str" n = some (n == "str") ∧
    kitB "tuple" n = some (n == "tuple") ∧ kitB "list" n = some (n == "list") ∧ kitB "dict" n = some (n == "dict") := by
  refine kitB_all n ?_
  unfold tyName at h
  simp only [Bool.or_eq_true, beq_iff_eq] at h
  simp only [List.mem_cons, List.not_mem_nil, or_false]
  rcases h with ((((h | h) | h) | h) | h) | h <;> simp [h]
theorem tyx_tup {K : PySem.W.Frag} {H : Hp} {a : Addr} {xs : List V} (h : SqT K H a xs) : TyX K H (.ref a) (.type "tuple") := by
  rcases h with (h | ⟨o, h⟩) | ⟨o, its, n, h1, h2, _⟩
  · exact .base (.tup h)
  · exact .fTuple h
  · exact .kTuple h1 h2
theorem tyx_lst {K : PySem.W.Frag} {H : Hp} {a : Addr} {xs : List V} (h : SqL K H a xs) : TyX K H (.ref a) (.type "list") := by
  rcases h with (h | ⟨o, h⟩) | ⟨o, its, n, h1, h2, _⟩
  · exact .base (.lst h)
  · exact .base (.frz h)
  · exact .kList h1 h2
theorem f_isi {K : PySem.W.Frag} : CallS K (rIsi K) dIsi := by
  intro H xs ds c r h
  unfold dIsi at h
  split at h
  · rename_i d n
    obtain ⟨v, v', rfl, r1, r2⟩ := reps2 r
    cases r2
    split at h
    · rename_i hn
      obtain ⟨b, e, h⟩ := Option.map_eq_some_iff.mp h
      subst h
      obtain ⟨k0, k1, k2, k3, k4, k5, k6⟩ := kitB_is hn
      refine ⟨.bl b, rfl, fun Q q => ?_⟩
      have go : ∀ {t : String}, TyX K H v (.type t) → kitB t n = some b → rIsi K [v, .ty n] H Q := fun ht hk => ⟨v, .ty n, _, _, b, rfl, .ty n, ht, kit_ty hk, q⟩
      cases r1 with
      | non => exact go (.base .non) (by rw [k0]; exact e)
      | bl x => exact go (.base (.bl x)) (by rw [k1]; exact e)
      | int x => exact go (.base (.int x)) (by rw [k2]; exact e)
      | str x => exact go (.base (.str x)) (by rw [k3]; exact e)
      | ty x => cases e
      | cls x => cases e
      | tup s t => exact go (tyx_tup (.inl (.inl s))) (by rw [k4]; exact e)
      | ktu s t => exact go (tyx_tup s) (by rw [k4]; exact e)
      | lst s t => exact go (tyx_lst (.inl s)) (by rw [k5]; exact e)
      | scr s => exact go (tyx_lst s) (by rw [k5]; exact e)
      | dicK s t =>
        rcases s with s | ⟨o, s⟩
        · exact go (.base (.dK s)) (by rw [k6]; exact e)
        · exact go (.fDict s) (by rw [k6]; exact e)
      | dicT s t => cases e
      | ins s t => cases e
      | exc _ _ _ _ => cases e
    · cases h
  · cases h
section
variable {X : Cx} {pv : List V} {W : WX} {p q k l : Bool} {e a b c : Expr} {es : List Expr} {pos : Pos}
/-- a built-in class's name -/
theorem dx_ty {x : Str} {T : String} {pp : Pos} (hg : Gl X x) (hm : X.mg x = none) (hv : bootBuiltins x = some (.type T)) (hn : x ≠ "__name__" := by decide) (hd : (x == ("__debug__" : Str)) = false := by decide) : DX X pv W true true (.Name x pp) (mC (.ty T)) :=
  dx_c (pe_bltn (v := .ty T) hg hm hv rfl hn hd) fun _ => .ty T
/-- a constant of the module -/
theorem dx_glob {x : Str} {v : V} {d : D} {u : Value} {pp : Pos} (hg : Gl X x) (hm : X.mg x = some u) (r : RelV v u) (hr : ∀ F, Rep X.K F v d) (hd : (x == ("__debug__" : Str)) = false := by decide) : DX X pv W true true (.Name x pp) (mC d) :=
  dx_c (pe_glob hg hm r hd) hr
noncomputable def dIx : D → D → Option D
  | .lst xs, .int i => atI xs i
  | .tup xs, .int i => atI xs i
  | .ktu xs, .int i => atI xs i
  | .scr ns, .int i => (atI ns i).map .int
  | .str z, .int i => if z.length ≤ 16777216 then (atI z.cps.toList i).map fun c => .str ⟨#[c]⟩ else none
  | _, _ => none
theorem reps_at {K : PySem.W.Frag} {F : Hp} {vs : List V} {ds : List D} {i : Int} {d : D} (r : Reps K F vs ds) (h : atI ds i = some d) : ∃ v, atI vs i = some v ∧ Rep K F v d := by
  unfold atI at h ⊢
  rw [r.length]
  cases e : ixN ds.length i with
  | none => rw [e] at h; cases h
  | some j =>
    rw [e] at h
    exact r.get h
theorem ix_go {K : PySem.W.Frag} {F H : Hp} {x y : V} {a b c : D} (hF : Same F H) (ra : Rep K F x a) (rb : Rep K H y b) (h : dIx a b = some c) : ∃ v, Rep K F v c ∧ ∀ Q : VK, Q v H → rIx K x y H Q := by
  unfold dIx at h
  split at h
  · cases rb
    cases ra with
    | lst s t =>
      obtain ⟨v, h1, h2⟩ := reps_at t h
      exact ⟨v, h2, fun Q q => .inl ⟨_, _, _, v, rfl, rfl, hF.seq (.inl s), h1, q⟩⟩
  · cases rb
    cases ra with
    | tup s t =>
      obtain ⟨v, h1, h2⟩ := reps_at t h
      exact ⟨v, h2, fun Q q => .inr (.inl ⟨_, _, _, v, rfl, rfl, .inl (.inl (hF _ _ s)), h1, q⟩)⟩
  · cases rb
    cases ra with
    | ktu s t =>
      obtain ⟨v, h1, h2⟩ := reps_at t h
      exact ⟨v, h2, fun Q q => .inr (.inl ⟨_, _, _, v, rfl, rfl, Same.sqt hF s, h1, q⟩)⟩
  · cases rb
    cases ra with
    | scr s =>
      obtain ⟨n, e, h⟩ := Option.map_eq_some_iff.mp h
      subst h
      exact ⟨_, .int n, fun Q q => .inl ⟨_, _, _, .int n, rfl, rfl, hF.seq s, by unfold atI at e ⊢; rw [List.length_map]; cases e2 : ixN _ _ with
        | none => rw [e2] at e; cases e
        | some j => rw [e2] at e; show (List.map V.int _)[j]? = _; rw [List.getElem?_map]; have e : _[j]? = some n := e; rw [e]; rfl, q⟩⟩
  · cases rb
    cases ra
    split at h
    · rename_i hl
      obtain ⟨c', e, h⟩ := Option.map_eq_some_iff.mp h
      subst h
      exact ⟨_, .str _, fun Q q => .inr (.inr ⟨_, _, c', rfl, rfl, by rw [sizeLine_eq]; exact hl, e, q⟩)⟩
    · cases h
  · cases h
theorem dx_ix {ma mb : SD → ER D} (ha : DX X pv W p k a ma) (hb : DX X pv W q l b mb) (hk : (k || q) = true := by rfl) (hs : PlainIx b := by exact fun _ _ => rfl) : DX X pv W (p && q) k (.Subscript a b pos) (mOp dIx ma mb) := by
  obtain ⟨ta, a1, a2⟩ := ha
  obtain ⟨tb, b1, b2⟩ := hb
  refine ⟨_, pe_ix ix_seq a1 b1 hs, fun G F sd σ H Q s => ?_⟩
  refine Meets.bind (a2 G F sd σ H _ s) fun x F1 H1 dx sd1 s1 s2 s3 s4 => ?_
  refine Meets.bindL (b2 G F1 sd1 σ H1 _ s2) fun y F2 H2 dy sd2 t1 t2 t3 t4 => ?_
  cases e : dIx dx dy with
  | none => exact True.intro
  | some c =>
    cases k with
    | true =>
      obtain ⟨v, h1, h2⟩ := ix_go t2.fh (Rep.mono t1 (show Rep X.K F1 x dx from s3)) (RSx.see t3 t2) e
      exact Meets.here t2 (show RSx X.K true G F2 sd2 H2 σ v c from h1) (h2 Q)
    | false =>
      obtain ⟨v, h1, h2⟩ := ix_go (Same.refl H2) (Rep.mono (t4 (by simpa using hk)).1 (show Rep X.K H1 x dx from s3)) (RSx.see t3 t2) e
      exact Meets.here t2 (show RSx X.K false G F2 sd2 H2 σ v c from h1) (h2 Q)
noncomputable def RSq (K : PySem.W.Frag) (k : Bool) : RSt V (List D) := fun _ F _ H _ v ds => ∃ a vs, v = .ref a ∧ Rd (if k = true then F else H) a (.lst vs) ∧ Reps K F vs ds
noncomputable def TrQ (K : PySem.W.Frag) (pv : List V) (W : WX) (p k : Bool) (te : TE) (m : SD → ER (List D)) : Prop := ∀ G F sd σ H Q, StR K pv G F sd σ H → Meets K pv W G σ (RSq K k) p sd F H (m sd) Q (te σ H Q)
structure DQ (X : Cx) (pv : List V) (W : WX) (p k : Bool) (e : Expr) (m : SD → ER (List D)) : Prop where
  ex : ∃ te, PE X e te ∧ TrQ X.K pv W p k te m
noncomputable def qFz (a : SD → ER D) : SD → ER (List D) := fun sd => (a sd).bind fun x sd1 => match x with
  | .lst ds => .ok ds sd1
  | _ => .bad
/-- the items, if they are all frozen -/
noncomputable def fzOf : List OT → Option (List D)
  | [] => some []
  | .fz d :: r => (fzOf r).map (d :: ·)
  | _ => none
theorem fzOf_map : ∀ ds : List D, fzOf (ds.map OT.fz) = some ds
  | [] => rfl
  | d :: ds => by rw [List.map_cons, fzOf, fzOf_map ds]; rfl
theorem fzOf_eq : ∀ {ts : List OT} {ds : List D}, fzOf ts = some ds → ts = ds.map OT.fz
  | [], ds, h => by cases h; rfl
  | .fz d :: r, ds, h => by
    rw [fzOf] at h
    obtain ⟨es, e, h⟩ := Option.map_eq_some_iff.mp h
    subst h
    rw [fzOf_eq e]; rfl
  | .ol _ :: _, _, h => by simp [fzOf] at h
  | .od _ _ _ :: _, _, h => by simp [fzOf] at h
  | .oi _ _ _ :: _, _, h => by simp [fzOf] at h
noncomputable def SD.tree (sd : SD) (i : Nat) : Option OT := match sd.sl[i]? with
  | some (.ow t) => some t
  | some (.pa j) => sd.pa[j]?
  | _ => none
noncomputable def OT.items : OT → Option (List D)
  | .ol ts => fzOf ts
  | .fz (.lst ds) => some ds
  | _ => none
noncomputable def qSee (i : Nat) : SD → ER (List D) := fun sd => ER.opt ((sd.tree i).bind OT.items) sd
noncomputable def qNew (a : SD → ER OT) : SD → ER (List D) := fun sd => (a sd).bind fun t sd1 => ER.opt t.items sd1
theorem items_rep {K : PySem.W.Frag} {F H : Hp} {t : OT} {v : V} {P : Addr → Prop} {ds : List D} (hF : Same F H) (r : RepO K F H t v P) (h : t.items = some ds) : ∃ a vs, v = .ref a ∧ Rd H a (.lst vs) ∧ Reps K F vs ds := by
  cases t with
  | ol ts =>
    have h : fzOf ts = some ds := h
    have e := fzOf_eq h
    subst e
    unfold RepO at r
    obtain ⟨a, vs, rfl, _, h1, h2⟩ := r
    exact ⟨a, vs, rfl, .inl h1, repOs_fz h2⟩
  | fz d =>
    unfold RepO at r
    cases d with
    | lst es =>
      have h : some es = some ds := h
      cases h
      cases r with
      | lst s t => exact ⟨_, _, rfl, Same.rd hF s, t⟩
    | _ => cases h
  | od _ _ _ => cases h
  | oi _ _ _ => cases h
theorem StR.tree {K : PySem.W.Frag} {G F H : Hp} {sd : SD} {σ : L2.St} {i : Nat} {t : OT} (s : StR K pv G F sd σ H) (h : sd.tree i = some t) : ∃ v P, σ[i]? = some (some v) ∧ RepO K F H t v P := by
  obtain ⟨o, w⟩ := s
  unfold SD.tree at h
  split at h
  · rename_i t' e
    cases h
    obtain ⟨v, h1, h2⟩ := w.sl i _ e
    exact ⟨v, _, h1, h2⟩
  · rename_i j e
    obtain ⟨v, h1, h2⟩ := w.sp i j e
    obtain ⟨v', h3, h4⟩ := w.pr j t h
    rw [h1] at h3; cases h3
    exact ⟨v, _, h2, h4⟩
  · cases h
theorem DX.dq {m : SD → ER D} (h : DX X pv W p true e m) : DQ X pv W p true e (qFz m) := by
  obtain ⟨te, h1, h2⟩ := h
  refine ⟨te, h1, fun G F sd σ H Q s => ?_⟩
  have z := h2 G F sd σ H Q s
  unfold qFz
  revert z
  cases m sd with
  | bad => exact id
  | rz x sd1 => exact id
  | ok d sd1 =>
    intro z
    cases d with
    | lst ds =>
      intro hQ
      refine z fun v F1 H1 s1 s2 s3 s4 => hQ v F1 H1 s1 s2 ?_ s4
      have s3 : Rep X.K F1 v (.lst ds) := s3
      cases s3 with
      | lst s t => exact ⟨_, _, rfl, s, t⟩
    | _ => exact True.intro
theorem dq_see {i : Nat} {x : Str} {pp : Pos} (h : PE X (.Name x pp) (tVar i)) : DQ X pv W true false (.Name x pp) (qSee i) := by
  refine ⟨_, h, fun G F sd σ H Q s => ?_⟩
  unfold qSee
  cases e : sd.tree i with
  | none => exact True.intro
  | some t =>
    cases e2 : t.items with
    | none =>
      show Meets X.K pv W G σ (RSq X.K false) true sd F H (ER.opt (t.items) sd) Q _
      rw [e2]; exact True.intro
    | some ds =>
      show Meets X.K pv W G σ (RSq X.K false) true sd F H (ER.opt (t.items) sd) Q _
      rw [e2]
      obtain ⟨v, P, h1, h2⟩ := s.tree e
      exact Meets.here s (show RSq X.K false G F sd H σ v ds from items_rep s.fh h2 e2) fun q => ⟨v, h1, q⟩
theorem DO.dq {m : SD → ER OT} (h : DO X pv W p e m) : DQ X pv W p false e (qNew m) := by
  obtain ⟨te, h1, h2⟩ := h
  refine ⟨te, h1, fun G F sd σ H Q s => ?_⟩
  have z := h2 G F sd σ H Q s
  unfold qNew
  revert z
  cases m sd with
  | bad => exact id
  | rz x sd1 => exact id
  | ok t sd1 =>
    intro z
    show Meets X.K pv W G σ (RSq X.K false) p sd F H (ER.opt t.items sd1) Q _
    cases e2 : t.items with
    | none => exact True.intro
    | some ds =>
      intro hQ
      refine z fun v F1 H1 s1 s2 s3 s4 => hQ v F1 H1 s1 s2 ?_ s4
      obtain ⟨o, P, w, r, _⟩ := s3
      exact items_rep w.fh r e2
theorem RSq.see {K : PySem.W.Frag} {k : Bool} {G F H : Hp} {sd : SD} {σ : L2.St} {v : V} {ds : List D} (r : RSq K k G F sd H σ v ds) (s : StR K pv G F sd σ H) : ∃ a vs, v = .ref a ∧ Rd H a (.lst vs) ∧ Reps K F vs ds := by
  obtain ⟨a, vs, e, h1, h2⟩ := r
  refine ⟨a, vs, e, ?_, h2⟩
  cases k with
  | true => exact Same.rd s.fh h1
  | false => exact h1
/-- carried on to a later heap -/
theorem RSq.on {K : PySem.W.Frag} {k q : Bool} {G F H F2 H2 : Hp} {sd sd2 sd3 : SD} {σ : L2.St} {v : V} {ds : List D} (r : RSq K k G F sd H σ v ds) (hk : (k || q) = true) (t1 : Same F F2) (t2 : StR K pv G F2 sd2 σ H2) (t4 : q = true → Same H H2 ∧ sd2 = sd3) : ∃ a vs, v = .ref a ∧ Rd H2 a (.lst vs) ∧ Reps K F2 vs ds := by
  obtain ⟨a, vs, e, h1, h2⟩ := r
  refine ⟨a, vs, e, ?_, h2.mono t1⟩
  cases k with
  | true => exact Same.rd t2.fh (Same.rd t1 h1)
  | false => exact Same.rd (t4 (by simpa using hk)).1 h1
/-- l[i] -/
noncomputable def mAt (a : SD → ER (List D)) (b : SD → ER D) : SD → ER D := fun sd => (a sd).bind fun ds sd1 => (b sd1).bind fun y sd2 => match y with
  | .int i => ER.opt (atI ds i) sd2
  | _ => .bad
theorem dx_at {ma : SD → ER (List D)} {mb : SD → ER D} (ha : DQ X pv W p k a ma) (hb : DX X pv W q l b mb) (hk : (k || q) = true := by rfl) (hs : PlainIx b := by exact fun _ _ => rfl) : DX X pv W (p && q) true (.Subscript a b pos) (mAt ma mb) := by
  obtain ⟨ta, a1, a2⟩ := ha
  obtain ⟨tb, b1, b2⟩ := hb
  refine ⟨_, pe_ix ix_list a1 b1 hs, fun G F sd σ H Q s => ?_⟩
  refine Meets.bind (a2 G F sd σ H _ s) fun x F1 H1 ds sd1 s1 s2 s3 s4 => ?_
  refine Meets.bindL (b2 G F1 sd1 σ H1 _ s2) fun y F2 H2 dy sd2 t1 t2 t3 t4 => ?_
  have r := RSx.see t3 t2
  cases dy with
  | int i =>
    cases r
    show Meets X.K pv W G σ (RSx X.K true) true sd2 F2 H2 (ER.opt (atI ds i) sd2) Q _
    cases e : atI ds i with
    | none => exact True.intro
    | some c =>
      obtain ⟨aa, vs, rfl, h1, h2⟩ := s3.on hk t1 t2 t4
      obtain ⟨v, h3, h4⟩ := reps_at h2 e
      exact Meets.here t2 (show RSx X.K true G F2 sd2 H2 σ v c from h4) fun q => ⟨aa, vs, i, v, rfl, rfl, .inl h1, h3, q⟩
  | _ => exact True.intro
/-- l + m, a new list -/
noncomputable def mCat (a b : SD → ER (List D)) : SD → ER OT := fun sd => (a sd).bind fun xs sd1 => (b sd1).bind fun ys sd2 => if xs.length + ys.length ≤ 16777216 then .ok (.ol ((xs ++ ys).map .fz)) sd2 else .bad
end
end DL
namespace DL
open PySem PySem.Spec L2
open PyProof.Rows (Subscript_ tail_any)
section
variable {X : Cx} {pv : List V} {W : WX} {p q k l : Bool} {e a b c : Expr} {es : List Expr} {pos : Pos}
/-- a list's object by what may be read -/
theorem rd_list {pins : List (Addr × Obj)} {σ : L2.St} {H : Hp} {s : Shared} {a : Addr} {xs : List V} (I : Inv X pins σ H s) (h : Rd H a (.lst xs)) :
    xs.length ≤ sizeLine ∧ ∃ (its : List Value) (n : Nat), Vals xs its ∧ xs.length = its.length ∧ s.heap.get? a = some { cls := .type "list", data := .seq its.toArray n } := by
  obtain ⟨z, its, n, r, e⟩ := (show ObjOk X.prog X.w H s.heap a (.lst xs) from h.ok I.hok)
  exact ⟨z, its, n, r, r.length, e⟩
noncomputable def rCatR : R2 := fun x y H Q => ∃ l b xs zs, x = .ref l ∧ y = .ref b ∧ Rd H l (.lst xs) ∧ Rd H b (.lst zs) ∧ xs.length + zs.length ≤ sizeLine ∧ ∀ p, H p = none → Q (.ref p) (upd H p (.lst (xs ++ zs)))
theorem op_catR : OpR X (binaryOp .Add) rCatR := by
  intro pins s σ H x y v u Q I rx ry h
  obtain ⟨l, b, xs, zs, rfl, rfl, hH, hB, hz, q⟩ := h
  cases rx
  cases ry
  obtain ⟨z, its, n, r, hl, e⟩ := rd_list I hH
  obtain ⟨z2, its2, n2, r2, hl2, e2⟩ := rd_list I hB
  refine PySem.P.add_list e e2 ?_ (by rw [List.size_toArray, List.size_toArray]; omega)
  have ea : its.toArray ++ its2.toArray = (its ++ its2).toArray := by simp
  rw [ea]
  exact ⟨.ref _, _, I.lnew (t' := s.toks) (r.append r2) (by rw [List.length_append]; omega), rfl, q _ I.fresh⟩
theorem tr_cat {ta tb : TE} {ma mb : SD → ER (List D)} (ha : TrQ X.K pv W p k ta ma) (hb : TrQ X.K pv W q l tb mb) (hk : (k || q) = true) : TrO X.K pv W (p && q) (tOp rCatR ta tb) (mCat ma mb) := by
  intro G F sd σ H Q s
  refine Meets.bind (ha G F sd σ H _ s) fun x F1 H1 xs sd1 s1 s2 s3 s4 => ?_
  refine Meets.bindL (hb G F1 sd1 σ H1 _ s2) fun y F2 H2 ys sd2 t1 t2 t3 t4 => ?_
  split
  · rename_i hz
    intro hQ
    obtain ⟨aa, vs, rfl, h1, h2⟩ := s3.on hk t1 t2 t4
    obtain ⟨bb, ws, rfl, h3, h4⟩ := t3.see t2
    refine ⟨aa, bb, vs, ws, rfl, rfl, h1, h3, by rw [h2.length, h4.length, sizeLine_eq]; exact hz, fun p hp => ?_⟩
    have z := t2.newL hp (h2.append h4)
    exact hQ _ _ _ (Same.refl _) z.drop z fun _ => ⟨Same.upd hp, rfl⟩
  · exact True.intro
theorem do_cat {ma mb : SD → ER (List D)} (ha : DQ X pv W p k a ma) (hb : DQ X pv W q l b mb) (hk : (k || q) = true := by rfl) : DO X pv W (p && q) (.BinOp a .Add b pos) (mCat ma mb) := by
  obtain ⟨ta, a1, a2⟩ := ha
  obtain ⟨tb, b1, b2⟩ := hb
  exact ⟨_, pe_op op_catR a1 b1, tr_cat a2 b2 hk⟩
noncomputable def TrP (K : PySem.W.Frag) (pv : List V) (W : WX) (p : Bool) (to : TO) (m : SD → ER (Option Int)) : Prop := ∀ G F sd σ H Q, StR K pv G F sd σ H → Meets K pv W G σ (fun _ _ _ _ _ (v d : Option Int) => v = d) p sd F H (m sd) Q (to σ H Q)
structure DP (X : Cx) (pv : List V) (W : WX) (p : Bool) (e : Option Expr) (m : SD → ER (Option Int)) : Prop where
  ex : ∃ to, PO X e to ∧ TrP X.K pv W p to m
noncomputable def oNone : SD → ER (Option Int) := fun sd => .ok none sd
noncomputable def oSome (a : SD → ER D) : SD → ER (Option Int) := fun sd => (a sd).bind fun x sd1 => match x with
  | .int i => .ok (some i) sd1
  | _ => .bad
theorem dp_none : DP X pv W true none oNone := ⟨_, po_none, fun G F sd σ H Q s => Meets.here s rfl id⟩
theorem dp_some {m : SD → ER D} (h : DX X pv W p k e m) : DP X pv W p (some e) (oSome m) := by
  obtain ⟨te, a1, a2⟩ := h
  refine ⟨_, po_some a1, fun G F sd σ H Q s => ?_⟩
  refine Meets.bindL (a2 G F sd σ H _ s) fun x F1 H1 dx sd1 s1 s2 s3 s4 => ?_
  have r := RSx.see s3 s2
  cases dx with
  | int i =>
    cases r
    exact Meets.here s2 rfl fun q => ⟨i, rfl, q⟩
  | _ => exact True.intro
noncomputable def cutL {α : Type} (xs : List α) (lo hi : Option Int) : List α := (xs.drop (HT.sIx xs.length 0 lo)).take (HT.sIx xs.length xs.length hi - HT.sIx xs.length 0 lo)
theorem reps_cut {K : PySem.W.Frag} {F : Hp} {vs : List V} {ds : List D} (lo hi : Option Int) (r : Reps K F vs ds) : Reps K F (cutV vs lo hi) (cutL ds lo hi) := by
  unfold cutV cutL
  rw [r.length]
  exact (r.drop _).take _
/-- t[lo:hi] of a frozen list, a tuple, a text -/
noncomputable def mCutX (a : SD → ER D) (lo hi : SD → ER (Option Int)) : SD → ER D := fun sd => (a sd).bind fun x sd1 => (lo sd1).bind fun i sd2 => (hi sd2).bind fun j sd3 => match x with
  | .lst xs => .ok (.lst (cutL xs i j)) sd3
  | .tup xs => .ok (.tup (cutL xs i j)) sd3
  | .ktu xs => if HT.sIx xs.length 0 i = 0 ∧ HT.sIx xs.length xs.length j = xs.length then .bad else .ok (.tup (cutL xs i j)) sd3
  | .str z => if z.length ≤ 16777216 then .ok (.str (cutS z i j)) sd3 else .bad
  | _ => .bad
theorem cut_whole {α : Type} {xs : List α} {lo hi : Option Int} (h : HT.sIx xs.length 0 lo = 0 ∧ HT.sIx xs.length xs.length hi = xs.length) : cutL xs lo hi = xs := by
  unfold cutL
  rw [h.1, h.2]
  simp
theorem sl_any : SlR X (fun x lo hi H Q => rSlL X.K x lo hi H Q ∨ (rSlA X.K x lo hi H Q ∨ rSlS x lo hi H Q)) := sl_list.or (sl_tupA.or sl_str)
theorem dx_cut {lo hi : Option Expr} {p2 : Pos} {ma : SD → ER D} {ml mh : SD → ER (Option Int)} {q1 q2 : Bool} (ha : DX X pv W p true a ma) (hl : DP X pv W q1 lo ml) (hh : DP X pv W q2 hi mh) :
    DX X pv W (p && (q1 && q2)) true (.Subscript a (.Slice lo hi none p2) pos) (mCutX ma ml mh) := by
  obtain ⟨ta, a1, a2⟩ := ha
  obtain ⟨tl, b1, b2⟩ := hl
  obtain ⟨th, c1, c2⟩ := hh
  refine ⟨_, pe_slice sl_any a1 b1 c1, fun G F sd σ H Q s => ?_⟩
  refine Meets.bind (a2 G F sd σ H _ s) fun x F1 H1 dx sd1 s1 s2 s3 s4 => ?_
  refine Meets.bind (b2 G F1 sd1 σ H1 _ s2) fun i F2 H2 i' sd2 t1 t2 t3 t4 => ?_
  refine Meets.bindL (c2 G F2 sd2 σ H2 _ t2) fun j F3 H3 j' sd3 u1 u2 u3 u4 => ?_
  have t3 : i = i' := t3
  have u3 : j = j' := u3
  subst t3 u3
  have rx : Rep X.K F3 x dx := Rep.mono (t1.trans u1) (show Rep X.K F1 x dx from s3)
  cases dx with
  | lst xs =>
    intro hQ
    cases rx with
    | @lst aa vs _ h1 h2 =>
      refine .inl ⟨aa, vs, rfl, .inl (Same.rd u2.fh h1), fun p hp => ?_⟩
      exact hQ _ _ _ (u2.sameNew hp) (u2.new hp) (.lst (.inl upd_same) ((reps_cut i j h2).mono (u2.sameNew hp))) fun _ => ⟨Same.upd hp, rfl⟩
  | tup xs =>
    intro hQ
    cases rx with
    | @tup aa vs _ h1 h2 =>
      refine .inr (.inl ⟨aa, vs, rfl, .inl (.inl (u2.fh _ _ h1)), fun hw => ?_, fun hw p hp => ?_⟩)
      · refine hQ _ _ _ (Same.refl _) u2 ?_ fun _ => ⟨Same.refl _, rfl⟩
        rw [h2.length] at hw
        rw [cut_whole hw]
        exact .tup h1 h2
      · exact hQ _ _ _ (u2.sameNew hp) (u2.new hp) (.tup upd_same ((reps_cut i j h2).mono (u2.sameNew hp))) fun _ => ⟨Same.upd hp, rfl⟩
  | ktu xs =>
    show Meets X.K pv W G σ (RSx X.K true) true sd3 F3 H3 (if HT.sIx xs.length 0 i = 0 ∧ HT.sIx xs.length xs.length j = xs.length then .bad else .ok (.tup (cutL xs i j)) sd3) Q _
    split
    · exact True.intro
    · rename_i hnw
      intro hQ
      cases rx with
      | @ktu aa vs _ h1 h2 =>
        refine .inr (.inl ⟨aa, vs, rfl, Same.sqt u2.fh h1, fun hw => absurd (by rw [h2.length] at hw; exact hw) hnw, fun hw p hp => ?_⟩)
        exact hQ _ _ _ (u2.sameNew hp) (u2.new hp) (.tup upd_same ((reps_cut i j h2).mono (u2.sameNew hp))) fun _ => ⟨Same.upd hp, rfl⟩
  | str z =>
    cases rx
    show Meets X.K pv W G σ (RSx X.K true) true sd3 F3 H3 (if z.length ≤ 16777216 then .ok (.str (cutS z i j)) sd3 else .bad) Q _
    split
    · rename_i hz
      exact Meets.here u2 (show RSx X.K true G F3 sd3 H3 σ _ _ from .str _) fun q => .inr (.inr ⟨z, rfl, by rw [sizeLine_eq]; exact hz, q⟩)
    · exact True.intro
  | _ => exact True.intro
end
end DL
namespace DL
open PySem PySem.Spec L2
noncomputable def Wants (K : PySem.W.Frag) (pv : List V) (W : WX) (G F : Hp) (r : Fl) (D : Ends) : Prop :=
  match r with
  | .nx sd' => ∀ F' σ' H', Same F F' → StR K pv G F' sd' σ' H' → D.nx σ' H'
  | .rt t sd' => ∀ v F' σ' H', Same F F' → StR1 K pv G F' sd' σ' H' v t → D.rt v H'
  | .bk sd' => ∀ F' σ' H', Same F F' → StR K pv G F' sd' σ' H' → D.bk σ' H'
  | .ct sd' => ∀ F' σ' H', Same F F' → StR K pv G F' sd' σ' H' → D.ct σ' H'
  | .rz x sd' => ∀ cls dd F' σ' H', Same F F' → StR K pv G F' sd' σ' H' → RepX K F' cls dd x → W cls dd σ' H'
  | .bad => False
section
variable {K : PySem.W.Frag} {pv : List V} {W : WX} {G F F1 : Hp} {r : Fl} {D : Ends} {P : Prop}
theorem meetsS_of (h : Wants K pv W G F r D → P) : MeetsS K pv W G F r D P := by
  cases r with
  | bad => exact True.intro
  | _ => exact h
theorem MeetsS.get (h : MeetsS K pv W G F r D P) (w : Wants K pv W G F r D) : P := by
  cases r with
  | bad => exact w.elim
  | _ => exact h w
theorem Wants.mono (e : Same F F1) (w : Wants K pv W G F r D) : Wants K pv W G F1 r D := by
  cases r with
  | bad => exact w
  | nx sd => exact fun F' σ' H' s => w F' σ' H' (e.trans s)
  | bk sd => exact fun F' σ' H' s => w F' σ' H' (e.trans s)
  | ct sd => exact fun F' σ' H' s => w F' σ' H' (e.trans s)
  | rt t sd => exact fun v F' σ' H' s => w v F' σ' H' (e.trans s)
  | rz x sd => exact fun c d F' σ' H' s => w c d F' σ' H' (e.trans s)
end
noncomputable def wipeS (l : List S) : List Nat → List S
  | [] => l
  | v :: vs => (wipeS l vs).set v .un
noncomputable def SD.wipe (sd : SD) (vs : List Nat) : SD := { sd with sl := wipeS sd.sl vs }
noncomputable def backS (l orig : List S) : List Nat → List S
  | [] => l
  | v :: vs => (backS l orig vs).set v ((orig[v]?).getD .un)
noncomputable def SD.back (sd orig : SD) (vs : List Nat) : SD := { sd with sl := backS sd.sl orig.sl vs }
theorem wipeS_length (l : List S) : ∀ vs : List Nat, (wipeS l vs).length = l.length
  | [] => rfl
  | v :: vs => by unfold wipeS; rw [List.length_set, wipeS_length l vs]
theorem backS_length (l o : List S) : ∀ vs : List Nat, (backS l o vs).length = l.length
  | [] => rfl
  | v :: vs => by unfold backS; rw [List.length_set, backS_length l o vs]
theorem wipeS_in {l : List S} {i : Nat} : ∀ {vs : List Nat}, i ∈ vs → i < l.length → (wipeS l vs)[i]? = some .un
  | v :: vs, h, hl => by
    unfold wipeS
    by_cases e : v = i
    · subst e
      rw [List.getElem?_set_self (by rw [wipeS_length]; exact hl)]
    · rw [List.getElem?_set_ne e]
      exact wipeS_in ((List.mem_cons.mp h).resolve_left (fun z => e z.symm)) hl
theorem wipeS_out {l : List S} {i : Nat} : ∀ {vs : List Nat}, i ∉ vs → (wipeS l vs)[i]? = l[i]?
  | [], _ => rfl
  | v :: vs, h => by
    unfold wipeS
    rw [List.getElem?_set_ne (fun z => h (by rw [z]; exact List.mem_cons_self))]
    exact wipeS_out fun z => h (List.mem_cons_of_mem _ z)
theorem backS_in {l o : List S} {i : Nat} : ∀ {vs : List Nat}, i ∈ vs → i < l.length → (backS l o vs)[i]? = some ((o[i]?).getD .un)
  | v :: vs, h, hl => by
    unfold backS
    by_cases e : v = i
    · subst e
      rw [List.getElem?_set_self (by rw [backS_length]; exact hl)]
    · rw [List.getElem?_set_ne e]
      exact backS_in ((List.mem_cons.mp h).resolve_left (fun z => e z.symm)) hl
theorem backS_out {l o : List S} {i : Nat} : ∀ {vs : List Nat}, i ∉ vs → (backS l o vs)[i]? = l[i]?
  | [], _ => rfl
  | v :: vs, h => by
    unfold backS
    rw [List.getElem?_set_ne (fun z => h (by rw [z]; exact List.mem_cons_self))]
    exact backS_out fun z => h (List.mem_cons_of_mem _ z)
theorem wipeS_set {l : List S} {i : Nat} {x : S} {vs : List Nat} (h : i ∈ vs) : wipeS (l.set i x) vs = wipeS l vs := by
  refine List.ext_getElem? fun j => ?_
  by_cases hj : j ∈ vs
  · by_cases hl : j < l.length
    · rw [wipeS_in hj (by rw [List.length_set]; exact hl), wipeS_in hj hl]
    · rw [List.getElem?_eq_none (by rw [wipeS_length, List.length_set]; omega), List.getElem?_eq_none (by rw [wipeS_length]; omega)]
  · rw [wipeS_out hj, wipeS_out hj, List.getElem?_set_ne (fun z => hj (by rw [← z]; exact h))]
theorem wipe_set {σ : L2.St} {i : Nat} {v : Option V} : ∀ {vs : List Nat}, i ∈ vs → wipe (σ.set i v) vs = wipe σ vs
  | [], h => by cases h
  | j :: vs, h => by
    unfold wipe
    by_cases hj : i ∈ vs
    · rw [wipe_set hj]
    · have e : i = j := by
        rcases List.mem_cons.mp h with e | h
        · exact e
        · exact absurd h hj
      subst e
      have go : ∀ (us : List Nat), i ∉ us → wipe (σ.set i v) us = (wipe σ us).set i v := fun us => by
        induction us with
        | nil => intro _; rfl
        | cons u us ih =>
          intro hn
          unfold wipe
          rw [ih fun z => hn (List.mem_cons_of_mem _ z), List.set_comm _ _ (fun z => hn (by rw [z]; exact List.mem_cons_self))]
      rw [go vs hj, List.set_set]
structure DG (X : Cx) (is : List Nat) (tg : Expr) (g : D → SD → Option SD) : Prop where
  ex : ∃ t, PG X tg t ∧ ∀ (pv : List V) (G F : Hp) (sd : SD) (σ : L2.St) (H : Hp) (x : V) (d : D) (sd' : SD), StR X.K pv G F sd σ H → Rep X.K F x d → g d sd = some sd' →
    ∃ σ', StR X.K pv G F sd' σ' H ∧ (∀ vs : List Nat, (∀ i ∈ is, i ∈ vs) → wipe σ' vs = wipe σ vs) ∧ ∀ Q : L2.St → Hp → Prop, Q σ' H → t x σ H Q
  wip : ∀ (vs : List Nat), (∀ i ∈ is, i ∈ vs) → ∀ d sd sd', g d sd = some sd' → SD.wipe sd' vs = SD.wipe sd vs
structure DGs (X : Cx) (is : List Nat) (tgs : List Expr) (g : List D → SD → Option SD) : Prop where
  ex : ∃ t, PGs X tgs t ∧ ∀ (pv : List V) (G F : Hp) (sd : SD) (σ : L2.St) (H : Hp) (xs : List V) (ds : List D) (sd' : SD), StR X.K pv G F sd σ H → Reps X.K F xs ds → g ds sd = some sd' →
    ∃ σ', StR X.K pv G F sd' σ' H ∧ (∀ vs : List Nat, (∀ i ∈ is, i ∈ vs) → wipe σ' vs = wipe σ vs) ∧ ∀ Q : L2.St → Hp → Prop, Q σ' H → t xs σ H Q
  wip : ∀ (vs : List Nat), (∀ i ∈ is, i ∈ vs) → ∀ d sd sd', g d sd = some sd' → SD.wipe sd' vs = SD.wipe sd vs
noncomputable def SD.putFz (sd : SD) (i : Nat) (d : D) : Option SD := if i < sd.sl.length then some { sd with sl := sd.sl.set i (.ow (.fz d)) } else none
noncomputable def tgN (i : Nat) : D → SD → Option SD := fun d sd => sd.putFz i d
noncomputable def tgNil : List D → SD → Option SD := fun ds sd => match ds with
  | [] => some sd
  | _ => none
noncomputable def tgCons (g : D → SD → Option SD) (h : List D → SD → Option SD) : List D → SD → Option SD := fun ds sd => match ds with
  | d :: r => (g d sd).bind fun sd1 => h r sd1
  | [] => none
noncomputable def tgT (n : Nat) (h : List D → SD → Option SD) : D → SD → Option SD := fun d sd => match d with
  | .tup ds => if ds.length = n then h ds sd else none
  | .ktu ds => if ds.length = n then h ds sd else none
  | _ => none
section
variable {X : Cx} {pos : Pos}
theorem dg_name {i : Nat} {x : Str} (hN : X.N.Nodup) (hi : X.N[i]? = some x) (hx : Loc X.env.scope x) (hf : X.fn x = true ∨ X.env.scope.names.lookup x = some .local := by first | exact .inl rfl | exact .inr rfl | assumption) : DG X [i] (.Name x pos) (tgN i) := by
  refine ⟨⟨_, pg_name hN hi hx hf, fun pv G F sd σ H x d sd' s r e => ?_⟩, fun vs h d sd sd' e => ?_⟩
  · unfold tgN SD.putFz at e
    split at e
    · rename_i hl
      cases e
      exact ⟨_, (StR1.fz s r).store hl, fun vs h => wipe_set (h i List.mem_cons_self), fun Q q => q⟩
    · cases e
  · unfold tgN SD.putFz at e
    split at e
    · cases e
      show SD.mk (wipeS (sd.sl.set i _) vs) sd.pa = SD.mk (wipeS sd.sl vs) sd.pa
      rw [wipeS_set (h i List.mem_cons_self)]
    · cases e
theorem dgs_nil : DGs X [] [] tgNil := by
  refine ⟨⟨_, pgs_nil, fun pv G F sd σ H xs ds sd' s r e => ?_⟩, fun vs h d sd sd' e => ?_⟩
  · unfold tgNil at e
    cases r with
    | nil => cases e; exact ⟨σ, s, fun _ _ => rfl, fun Q q => ⟨rfl, q⟩⟩
    | cons _ _ => cases e
  · unfold tgNil at e
    cases d with
    | nil => cases e; rfl
    | cons _ _ => cases e
theorem dgs_cons {is js : List Nat} {e : Expr} {es : List Expr} {g : D → SD → Option SD} {h : List D → SD → Option SD} (h1 : DG X is e g) (h2 : DGs X js es h)
    (hs : (assignEach (e :: es) X.env).map (·.2) = assign e X.env :: (assignEach es X.env).map (·.2) := by rfl) : DGs X (is ++ js) (e :: es) (tgCons g h) := by
  obtain ⟨⟨t, a1, a2⟩, a3⟩ := h1
  obtain ⟨⟨u, b1, b2⟩, b3⟩ := h2
  refine ⟨⟨_, pgs_cons a1 b1 hs, fun pv G F sd σ H xs ds sd' s r e => ?_⟩, fun vs hv d sd sd' e => ?_⟩
  · cases r with
    | nil => cases e
    | cons r rr =>
      obtain ⟨sd1, e1, e2⟩ := Option.bind_eq_some_iff.mp e
      obtain ⟨σ1, s1, w1, k1⟩ := a2 pv G F sd σ H _ _ sd1 s r e1
      obtain ⟨σ2, s2, w2, k2⟩ := b2 pv G F sd1 σ1 H _ _ sd' s1 rr e2
      exact ⟨σ2, s2, fun vs hv => (w2 vs fun i hi => hv i (List.mem_append_right _ hi)).trans (w1 vs fun i hi => hv i (List.mem_append_left _ hi)), fun Q q => ⟨_, _, rfl, k1 _ (k2 Q q)⟩⟩
  · cases d with
    | nil => cases e
    | cons d ds =>
      obtain ⟨sd1, e1, e2⟩ := Option.bind_eq_some_iff.mp e
      rw [b3 vs (fun i hi => hv i (List.mem_append_right _ hi)) _ _ _ e2, a3 vs (fun i hi => hv i (List.mem_append_left _ hi)) _ _ _ e1]
theorem dg_tup {is : List Nat} {es : List Expr} {kk n : Nat} {h : List D → SD → Option SD} (hc : X.calm = true) (h1 : DGs X is es h)
    (hn : (assignEach es X.env).length = n := by rfl) (hst : (assignEach es X.env).findIdx? (·.1) = none := by rfl) : DG X is (.Tuple es kk pos) (tgT n h) := by
  obtain ⟨⟨t, a1, a2⟩, a3⟩ := h1
  refine ⟨⟨_, pg_tup hc a1 hn hst, fun pv G F sd σ H x d sd' s r e => ?_⟩, fun vs hv d sd sd' e => ?_⟩
  · unfold tgT at e
    cases d with
    | tup ds =>
      have e : (if ds.length = n then h ds sd else none) = some sd' := e
      split at e
      · rename_i hl
        cases r with
        | @tup a vs _ q rr =>
          obtain ⟨σ1, s1, w1, k1⟩ := a2 pv G F sd σ H _ _ sd' s rr e
          exact ⟨σ1, s1, w1, fun Q q' => ⟨a, vs, rfl, .inl (.inl (s.fh _ _ q)), by rw [rr.length]; exact hl, k1 Q q'⟩⟩
      · cases e
    | ktu ds =>
      have e : (if ds.length = n then h ds sd else none) = some sd' := e
      split at e
      · rename_i hl
        cases r with
        | @ktu a vs _ q rr =>
          obtain ⟨σ1, s1, w1, k1⟩ := a2 pv G F sd σ H _ _ sd' s rr e
          exact ⟨σ1, s1, w1, fun Q q' => ⟨a, vs, rfl, Same.sqt s.fh q, by rw [rr.length]; exact hl, k1 Q q'⟩⟩
      · cases e
    | _ => cases e
  · unfold tgT at e
    cases d with
    | tup ds =>
      have e : (if ds.length = n then h ds sd else none) = some sd' := e
      split at e
      · exact a3 vs hv _ _ _ e
      · cases e
    | ktu ds =>
      have e : (if ds.length = n then h ds sd else none) = some sd' := e
      split at e
      · exact a3 vs hv _ _ _ e
      · cases e
    | _ => cases e
end
structure Walk (K : PySem.W.Frag) (J : It) (F : Hp) (ds : List D) : Prop where
  stop : ∀ F' H', Same F F' → Same F' H' → J.stop ds.length H'
  go : ∀ F' H' i d, Same F F' → Same F' H' → ds[i]? = some d → J.go i H'
  yld : ∀ F' H' i d x H'', Same F F' → Same F' H' → ds[i]? = some d → J.yld i H' x H'' → (H'' = H' ∧ Rep K F' x d) ∨ ∃ T vs es, x = .ref T ∧ d = .tup es ∧ H' T = none ∧ H'' = upd H' T (.tup vs) ∧ Reps K F' vs es
noncomputable def RSw (K : PySem.W.Frag) : RSt It (List D) := fun _ F _ _ _ J ds => Walk K J F ds
noncomputable def TrI (K : PySem.W.Frag) (pv : List V) (W : WX) (p : Bool) (wi : TI) (m : SD → ER (List D)) : Prop := ∀ G F sd σ H R, StR K pv G F sd σ H → Meets K pv W G σ (RSw K) p sd F H (m sd) R (wi σ H R)
structure DI (X : Cx) (pv : List V) (W : WX) (p : Bool) (tg iter : Expr) (m : SD → ER (List D)) : Prop where
  ex : ∃ wi, PI X tg iter wi ∧ TrI X.K pv W p wi m
noncomputable def iLst (a : SD → ER D) : SD → ER (List D) := fun sd => (a sd).bind fun x sd1 => match x with
  | .lst ds => .ok ds sd1
  | .scr ns => .ok (ns.map .int) sd1
  | _ => .bad
noncomputable def iTuP (a : SD → ER D) : SD → ER (List D) := fun sd => (a sd).bind fun x sd1 => match x with
  | .tup ds => .ok ds sd1
  | _ => .bad
noncomputable def rangeD (lo : Int) (n : Nat) : List D := (List.range n).map fun (i : Nat) => D.int (lo + (i : Int))
noncomputable def iRange1 (a : SD → ER (List D)) : SD → ER (List D) := fun sd => (a sd).bind fun xs sd1 => match xs with
  | [.int j] => if -(2 ^ 62) ≤ j ∧ j < 2 ^ 62 then .ok (rangeD 0 j.toNat) sd1 else .bad
  | _ => .bad
noncomputable def iRange2 (a : SD → ER (List D)) : SD → ER (List D) := fun sd => (a sd).bind fun xs sd1 => match xs with
  | [.int i, .int j] => if -(2 ^ 62) ≤ i ∧ i < 2 ^ 62 ∧ -(2 ^ 62) ≤ j ∧ j < 2 ^ 62 then .ok (rangeD i (j - i).toNat) sd1 else .bad
  | _ => .bad
noncomputable def iZip2 (a : SD → ER (List D)) : SD → ER (List D) := fun sd => (a sd).bind fun xs sd1 => match xs with
  | [.lst xs, .lst ys] => .ok ((xs.zip ys).map fun p => .tup [p.1, p.2]) sd1
  | _ => .bad
noncomputable def iEnumL (a : SD → ER (List D)) : SD → ER (List D) := fun sd => (a sd).bind fun xs sd1 => match xs with
  | [.lst xs] => .ok (xs.zipIdx.map fun p => .tup [.int (p.2 : Int), p.1]) sd1
  | _ => .bad
section
variable {K : PySem.W.Frag} {F H : Hp}
theorem walk_list {a : Addr} {vs : List V} {ds : List D} (h : SqL K F a vs) (r : Reps K F vs ds) : Walk K (Itl K a) F ds where
  stop := fun F' H' e1 e2 => ⟨vs, (e1.trans e2).seq h, by rw [r.length]; exact Nat.le_refl _⟩
  go := fun F' H' i d e1 e2 hd => by
    obtain ⟨v, h1, _⟩ := r.get hd
    exact ⟨vs, v, (e1.trans e2).seq h, h1⟩
  yld := fun F' H' i d x H'' e1 e2 hd ⟨hH, hx⟩ => by
    obtain ⟨v, h1, h2⟩ := r.get hd
    have := hx vs ((e1.trans e2).seq h)
    rw [h1] at this; cases this
    exact .inl ⟨hH, h2.mono e1⟩
theorem walk_tup {a : Addr} {vs : List V} {ds : List D} (h : SqT K F a vs) (r : Reps K F vs ds) : Walk K (Itt K a) F ds where
  stop := fun F' H' e1 e2 => ⟨vs, Same.sqt (e1.trans e2) h, by rw [r.length]; exact Nat.le_refl _⟩
  go := fun F' H' i d e1 e2 hd => by
    obtain ⟨v, h1, _⟩ := r.get hd
    exact ⟨vs, v, Same.sqt (e1.trans e2) h, h1⟩
  yld := fun F' H' i d x H'' e1 e2 hd ⟨hH, hx⟩ => by
    obtain ⟨v, h1, h2⟩ := r.get hd
    have := hx vs (Same.sqt (e1.trans e2) h)
    rw [h1] at this; cases this
    exact .inl ⟨hH, h2.mono e1⟩
theorem rangeD_get {lo : Int} {n i : Nat} {d : D} (h : (rangeD lo n)[i]? = some d) : i < n ∧ d = .int (lo + i) := by
  unfold rangeD at h
  rw [List.getElem?_map] at h
  obtain ⟨j, h1, h2⟩ := Option.map_eq_some_iff.mp h
  obtain ⟨hi, e⟩ := List.getElem?_eq_some_iff.mp h1
  rw [List.getElem_range] at e
  rw [List.length_range] at hi
  subst e
  exact ⟨hi, h2.symm⟩
theorem rangeD_length (lo : Int) (n : Nat) : (rangeD lo n).length = n := by unfold rangeD; rw [List.length_map, List.length_range]
theorem walk_range (lo : Int) (n : Nat) : Walk K (Itr lo n) F (rangeD lo n) where
  stop := fun F' H' _ _ => by rw [rangeD_length]; exact Nat.le_refl n
  go := fun F' H' i d _ _ hd => (rangeD_get hd).1
  yld := fun F' H' i d x H'' _ _ hd ⟨hH, hx⟩ => by
    rw [hx, (rangeD_get hd).2]
    exact .inl ⟨hH, .int _⟩
theorem walk_enum {a : Addr} {vs : List V} {ds : List D} (h : SqL K F a vs) (r : Reps K F vs ds) : Walk K (Ite K a) F (ds.zipIdx.map fun p => .tup [.int (p.2 : Int), p.1]) where
  stop := fun F' H' e1 e2 => ⟨vs, (e1.trans e2).seq h, by rw [List.length_map, List.length_zipIdx, r.length]; exact Nat.le_refl _⟩
  go := fun F' H' i d e1 e2 hd => by
    rw [List.getElem?_map] at hd
    obtain ⟨⟨d1, j⟩, h1, _⟩ := Option.map_eq_some_iff.mp hd
    rw [List.getElem?_zipIdx] at h1
    obtain ⟨d', h2, _⟩ := Option.map_eq_some_iff.mp h1
    obtain ⟨v, k1, _⟩ := r.get h2
    exact ⟨vs, v, (e1.trans e2).seq h, k1⟩
  yld := fun F' H' i d x H'' e1 e2 hd ⟨T, y, hx, hT, hH, q⟩ => by
    rw [List.getElem?_map] at hd
    obtain ⟨⟨d1, j⟩, h1, hd⟩ := Option.map_eq_some_iff.mp hd
    rw [List.getElem?_zipIdx] at h1
    obtain ⟨d', h2, h3⟩ := Option.map_eq_some_iff.mp h1
    cases h3
    obtain ⟨v, k1, k3⟩ := r.get h2
    have a1 := q vs ((e1.trans e2).seq h)
    rw [k1] at a1; cases a1
    refine .inr ⟨T, [.int (i : Nat), y], [.int (i : Nat), d1], hx, ?_, hT, hH, .cons (.int _) (.cons (k3.mono e1) .nil)⟩
    rw [← hd]; simp
end
section
variable {X : Cx} {pv : List V} {W : WX} {p q k l : Bool} {tg e a b c : Expr} {es : List Expr} {pos pp : Pos}
theorem di_list {m : SD → ER D} (h : DX X pv W p true e m) : DI X pv W p tg e (iLst m) := by
  obtain ⟨te, a1, a2⟩ := h
  refine ⟨_, pi_list a1, fun G F sd σ H R s => ?_⟩
  refine Meets.bindL (a2 G F sd σ H _ s) fun x F1 H1 dx sd1 s1 s2 s3 s4 => ?_
  have s3 : Rep X.K F1 x dx := s3
  cases dx with
  | lst ds =>
    cases s3 with
    | @lst aa vs _ h1 h2 =>
      exact Meets.here s2 (show RSw X.K G F1 sd1 H1 σ (Itl X.K aa) ds from walk_list (.inl h1) h2) fun q => ⟨aa, rfl, ⟨vs, .inl (Same.rd s2.fh h1)⟩, q⟩
  | scr ns =>
    cases s3 with
    | @scr aa _ h1 =>
      exact Meets.here s2 (show RSw X.K G F1 sd1 H1 σ (Itl X.K aa) (ns.map .int) from walk_list h1 (Reps.ints ns)) fun q => ⟨aa, rfl, ⟨_, s2.fh.seq h1⟩, q⟩
  | _ => exact True.intro
theorem di_tup {m : SD → ER D} (h : DX X pv W p true e m) : DI X pv W p tg e (iTuP m) := by
  obtain ⟨te, a1, a2⟩ := h
  refine ⟨_, pi_tup a1, fun G F sd σ H R s => ?_⟩
  refine Meets.bindL (a2 G F sd σ H _ s) fun x F1 H1 dx sd1 s1 s2 s3 s4 => ?_
  have s3 : Rep X.K F1 x dx := s3
  cases dx with
  | tup ds =>
    cases s3 with
    | @tup aa vs _ h1 h2 =>
      exact Meets.here s2 (show RSw X.K G F1 sd1 H1 σ (Itt X.K aa) ds from walk_tup (.inl (.inl h1)) h2) fun q => ⟨aa, rfl, ⟨vs, .inl (.inl (s2.fh _ _ h1))⟩, q⟩
  | _ => exact True.intro
theorem di_range1 {m : SD → ER (List D)} (hg : Gl X "range") (hm : X.mg "range" = none) (ha : DA X pv W p k [a] m) (hs : starEach [a] X.env = [(false, eval a X.env)] := by rfl) : DI X pv W p tg (.Call (.Name "range" pp) [a] [] pos) (iRange1 m) := by
  obtain ⟨ta, a1, a2⟩ := ha
  refine ⟨_, pi_range1 hg hm a1 hs, fun G F sd σ H R s => ?_⟩
  refine Meets.bindL (a2 G F sd σ H _ s) fun xs F1 H1 ds sd1 s1 s2 s3 s4 => ?_
  have r := RSl.see s3 s2
  split
  · rename_i j
    obtain ⟨v, rfl, r1⟩ := reps1 r
    cases r1
    split
    · rename_i hj
      exact Meets.here s2 (show RSw X.K G F1 sd1 H1 σ _ _ from walk_range 0 j.toNat) fun q => ⟨j, rfl, hj.1, hj.2, q⟩
    · exact True.intro
  · exact True.intro
theorem di_enum {elts : List Expr} {kk : Nat} {tpos : Pos} {m : SD → ER (List D)} (hg : Gl X "enumerate") (hm : X.mg "enumerate" = none) (ha : DA X pv W p true [a] m)
    (hs : starEach [a] X.env = [(false, eval a X.env)] := by rfl) : DI X pv W p (.Tuple elts kk tpos) (.Call (.Name "enumerate" pp) [a] [] pos) (iEnumL m) := by
  obtain ⟨ta, a1, a2⟩ := ha
  refine ⟨_, pi_enum hg hm a1 hs, fun G F sd σ H R s => ?_⟩
  refine Meets.bindL (a2 G F sd σ H _ s) fun xs F1 H1 ds sd1 s1 s2 s3 s4 => ?_
  have r : Reps X.K F1 xs ds := s3
  split
  · obtain ⟨v, rfl, r1⟩ := reps1 r
    cases r1 with
    | @lst aa vs _ h1 h2 =>
      exact Meets.here s2 (show RSw X.K G F1 sd1 H1 σ _ _ from walk_enum (.inl h1) h2) fun q => ⟨aa, vs, rfl, .inl (Same.rd s2.fh h1), q⟩
  · exact True.intro
end
noncomputable def goFor (g : D → SD → Option SD) (body : SD → Fl) : List D → SD → Fl
  | [], sd => .nx sd
  | d :: ds, sd => match g d sd with
    | none => .bad
    | some sd1 => match body sd1 with
      | .nx sd2 => goFor g body ds sd2
      | .ct sd2 => goFor g body ds sd2
      | .bk sd2 => .nx sd2
      | r => r
noncomputable def sFor (it : SD → ER (List D)) (g : D → SD → Option SD) (body : SD → Fl) : SD → Fl := fun sd => (it sd).stm fun ds sd1 => goFor g body ds sd1
section
variable {X : Cx} {pv : List V} {W : WX} {p q k l : Bool} {pos : Pos}
theorem drop_at {α : Type} {l : List α} {i : Nat} {x : α} (h : l[i]? = some x) : l.drop i = x :: l.drop (i + 1) := by
  obtain ⟨hi, e⟩ := List.getElem?_eq_some_iff.mp h
  rw [← e]
  exact List.drop_eq_getElem_cons hi
theorem ds_for {is : List Nat} {tg iter : Expr} {body : List Stmt} {mi : SD → ER (List D)} {g : D → SD → Option SD} {mb : SD → Fl} (hp : PassesOwn (model X.prog X.w) X.A X.env X.xe) (hc : X.calm = true) (hi : DI X pv W p tg iter mi) (hg : DG X is tg g) (hb : DSs X pv W body mb)
    (hs : ∀ x, foldedSetIterable iter X.env x = pure x := by intro _; rfl) : DS X pv W (.For tg iter body [] pos) (sFor mi g mb) := by
  obtain ⟨wi, a1, a2⟩ := hi
  obtain ⟨⟨t, b1, b2⟩, _⟩ := hg
  obtain ⟨tb, c1, c2⟩ := hb
  refine ⟨_, ps_for hp hc a1 b1 c1 hs, fun G F sd σ H D s => ?_⟩
  refine Meets.stm (a2 G F sd σ H _ s) fun J F1 H1 ds sd1 s1 s2 s3 => ?_
  refine meetsS_of fun w => ?_
  have wk : Walk X.K J F1 ds := s3
  refine ⟨fun i m σ H => m = ds.length - i ∧ i ≤ ds.length ∧ ∃ F' sd', Same F1 F' ∧ StR X.K pv G F' sd' σ H ∧ Wants X.K pv W G F' (goFor g mb (ds.drop i) sd') D, ⟨ds.length, by simp, Nat.zero_le _, F1, sd1, Same.refl _, s2, w⟩, ?_⟩
  rintro i m σ H ⟨rfl, hi, F', sd', f1, st, wt⟩
  by_cases hlt : i < ds.length
  · have hd : ds[i]? = some ds[i] := by simp [hlt]
    refine .inr ⟨wk.go F' H i _ f1 st.fh hd, fun σ' H' => ∃ F'' sd'', Same F1 F'' ∧ StR X.K pv G F'' sd'' σ' H' ∧ Wants X.K pv W G F'' (goFor g mb (ds.drop (i + 1)) sd'') D, fun σ' H' q => ⟨ds.length - (i + 1), by omega, rfl, hlt, q⟩, fun x H' y => ?_⟩
    rw [drop_at hd] at wt
    have main : ∀ F2 H2, Same F' F2 → StR X.K pv G F2 sd' σ H2 → Rep X.K F2 x ds[i] → t x σ H2 fun σ2 H2 => tb { D with nx := fun σ' H' => ∃ F'' sd'', Same F1 F'' ∧ StR X.K pv G F'' sd'' σ' H' ∧ Wants X.K pv W G F'' (goFor g mb (ds.drop (i + 1)) sd'') D, ct := fun σ' H' => ∃ F'' sd'', Same F1 F'' ∧ StR X.K pv G F'' sd'' σ' H' ∧ Wants X.K pv W G F'' (goFor g mb (ds.drop (i + 1)) sd'') D, bk := D.nx } σ2 H2 := fun F2 H2 f2 st2 rx => by
      rw [goFor] at wt
      cases eg : g ds[i] sd' with
      | none => rw [eg] at wt; exact wt.elim
      | some sd2 =>
        rw [eg] at wt
        dsimp only at wt
        obtain ⟨σ2, k1, _, k2⟩ := b2 pv G F2 sd' σ H2 x _ sd2 st2 rx eg
        refine k2 _ (MeetsS.get (c2 G F2 sd2 σ2 H2 _ k1) ?_)
        have wt := wt.mono f2
        revert wt
        cases mb sd2 with
        | bad => exact id
        | nx sd3 => exact fun wt F3 σ3 H3 e3 st3 => ⟨F3, sd3, (f1.trans f2).trans e3, st3, wt.mono e3⟩
        | ct sd3 => exact fun wt F3 σ3 H3 e3 st3 => ⟨F3, sd3, (f1.trans f2).trans e3, st3, wt.mono e3⟩
        | bk sd3 => exact id
        | rt tt sd3 => exact id
        | rz y sd3 => exact id
    rcases wk.yld F' H i _ x H' f1 st.fh hd y with ⟨rfl, rx⟩ | ⟨T, vs, es, rfl, ed, hT, rfl, rr⟩
    · exact main F' H' (Same.refl _) st rx
    · refine main _ _ (st.sameNew hT) (st.new (u := .tup vs) hT) ?_
      rw [ed]
      exact .tup upd_same (rr.mono (st.sameNew hT))
  · have e : i = ds.length := by omega
    subst e
    refine .inl ⟨wk.stop F' H f1 st.fh, ?_⟩
    rw [List.drop_length, goFor] at wt
    exact wt F' σ H (Same.refl _) st
noncomputable def goWhile (c : SD → ER Bool) (body : SD → Fl) : Nat → SD → Fl
  | 0, _ => .bad
  | n + 1, sd => (c sd).stm fun b sd1 => if b = true then (match body sd1 with
      | .nx sd2 => goWhile c body n sd2
      | .ct sd2 => goWhile c body n sd2
      | .bk sd2 => .nx sd2
      | r => r) else .nx sd1
noncomputable def sWhile (fuel : SD → Nat) (c : SD → ER Bool) (body : SD → Fl) : SD → Fl := fun sd => goWhile c body (fuel sd) sd
theorem ds_while {c : Expr} {body : List Stmt} {mc : SD → ER Bool} {mb : SD → Fl} (fuel : SD → Nat) (hp : PassesOwn (model X.prog X.w) X.A X.env X.xe) (hc : DT X pv W p c mc) (hb : DSs X pv W body mb) : DS X pv W (.While c body [] pos) (sWhile fuel mc mb) := by
  obtain ⟨tc, a1, a2⟩ := hc
  obtain ⟨tb, c1, c2⟩ := hb
  refine ⟨_, ps_while hp a1 c1, fun G F sd σ H D s => ?_⟩
  refine meetsS_of fun w => ?_
  refine ⟨fun m σ H => ∃ F' sd', Same F F' ∧ StR X.K pv G F' sd' σ H ∧ Wants X.K pv W G F' (goWhile mc mb m sd') D, ⟨fuel sd, F, sd, Same.refl _, s, w⟩, ?_⟩
  rintro m σ H ⟨F', sd', f1, st, wt⟩
  cases m with
  | zero => exact wt.elim
  | succ m =>
    rw [goWhile] at wt
    refine MeetsS.get (D := D) (Meets.stm (a2 G F' sd' σ H _ st) (f := fun b sd1 => if b = true then (match mb sd1 with
      | .nx sd2 => goWhile mc mb m sd2
      | .ct sd2 => goWhile mc mb m sd2
      | .bk sd2 => .nx sd2
      | r => r) else .nx sd1) fun x F1 H1 dx sd1 s1 s2 s3 => ?_) wt
    have s3 : x = dx := s3
    subst s3
    refine meetsS_of fun wt => ?_
    cases x with
    | false =>
      rw [if_neg (by decide)] at wt ⊢
      exact wt F1 σ H1 (Same.refl _) s2
    | true =>
      rw [if_pos rfl] at wt ⊢
      refine ⟨fun σ' H' => ∃ F'' sd'', Same F F'' ∧ StR X.K pv G F'' sd'' σ' H' ∧ Wants X.K pv W G F'' (goWhile mc mb m sd'') D, fun σ' H' q => ⟨m, Nat.lt_succ_self m, q⟩, ?_⟩
      refine MeetsS.get (c2 G F1 sd1 σ H1 _ s2) ?_
      revert wt
      cases mb sd1 with
      | bad => exact id
      | nx sd3 => exact fun wt F3 σ3 H3 e3 st3 => ⟨F3, sd3, (f1.trans s1).trans e3, st3, wt.mono e3⟩
      | ct sd3 => exact fun wt F3 σ3 H3 e3 st3 => ⟨F3, sd3, (f1.trans s1).trans e3, st3, wt.mono e3⟩
      | bk sd3 => exact id
      | rt tt sd3 => exact id
      | rz y sd3 => exact id
end
end DL
namespace DL
open PySem PySem.Spec L2
theorem wipe_in {σ : L2.St} {i : Nat} : ∀ {vs : List Nat}, i ∉ vs → (wipe σ vs)[i]? = σ[i]?
  | [], _ => rfl
  | v :: vs, h => by
    unfold wipe
    rw [List.getElem?_set_ne (fun z => h (by rw [z]; exact List.mem_cons_self))]
    exact wipe_in fun z => h (List.mem_cons_of_mem _ z)
theorem back_self {sd sd1 : SD} {vs : List Nat} (h : sd.wipe vs = sd1.wipe vs) : sd.back sd1 vs = sd1 := by
  obtain ⟨l, pa⟩ := sd
  obtain ⟨l1, pa1⟩ := sd1
  have h1 : wipeS l vs = wipeS l1 vs := congrArg SD.sl h
  have h2 : pa = pa1 := congrArg SD.pa h
  subst h2
  have hl : l.length = l1.length := by rw [← wipeS_length l vs, h1, wipeS_length]
  show SD.mk (backS l l1 vs) pa = SD.mk l1 pa
  congr 1
  refine List.ext_getElem? fun i => ?_
  by_cases hi : i ∈ vs
  · by_cases hl2 : i < l.length
    · rw [backS_in hi hl2]
      have : l1[i]? = some l1[i] := by simp [hl ▸ hl2]
      rw [this]; rfl
    · rw [List.getElem?_eq_none (by rw [backS_length]; omega), List.getElem?_eq_none (by omega)]
  · rw [backS_out hi, ← wipeS_out (l := l) hi, h1, wipeS_out hi]
section
variable {K : PySem.W.Frag} {pv : List V} {G F H : Hp} {sd : SD} {σ : L2.St}
theorem wiped_at {vs : List Nat} {i : Nat} {x : S} (h : (wipeS sd.sl vs)[i]? = some x) (hx : x ≠ .un) : i ∉ vs ∧ sd.sl[i]? = some x := by
  by_cases hi : i ∈ vs
  · by_cases hl : i < sd.sl.length
    · rw [wipeS_in hi hl] at h
      exact absurd (Option.some.inj h).symm hx
    · rw [List.getElem?_eq_none (by rw [wipeS_length]; omega)] at h
      cases h
  · exact ⟨hi, by rw [← wipeS_out hi]; exact h⟩
theorem StR.wipe (vs : List Nat) (s : StR K pv G F sd σ H) : StR K pv G F (sd.wipe vs) (L2.wipe σ vs) H := by
  obtain ⟨o, W⟩ := s
  refine ⟨o, W.fh, W.gh, W.fg, W.oh, W.oo, by show _ = (wipeS sd.sl vs).length; rw [L2.wipe_length, wipeS_length]; exact W.len, fun i t e => ?_, fun i j e => ?_, W.pr⟩
  · obtain ⟨h1, h2⟩ := wiped_at e (by intro z; cases z)
    rw [wipe_in h1]
    exact W.sl i t h2
  · obtain ⟨h1, h2⟩ := wiped_at e (by intro z; cases z)
    rw [wipe_in h1]
    exact W.sp i j h2
/-- a block is entered: its own names' trees are put aside -/
theorem StR.block (vs : List Nat) (s : StR K pv G F sd σ H) : ∃ G', (∀ a, H a = none → G' a = none) ∧ StR K pv G' F (sd.wipe vs) (L2.wipe σ vs) H ∧
    ∀ (F' : Hp) (sd' : SD) (H' : Hp) (v : V) (t : OT), Same F F' → StR1 K pv G' F' (sd'.wipe vs) (L2.wipe σ vs) H' v t → StR1 K pv G F' (sd'.back sd vs) σ H' v t := by
  classical
  obtain ⟨o, W⟩ := s
  let P : Addr → Prop := fun a => ∃ i ∈ vs, o (.inl i) a
  have gp : ∀ a, P a → G a = none := fun a ⟨i, _, h⟩ => (W.oh _ a h).2.2
  refine ⟨fun a => if P a then H a else G a, fun a ha => ?_, ⟨fun x a => o x a ∧ ∀ i ∈ vs, x ≠ .inl i, W.fh, fun a u e => ?_, fun a ha => ?_, fun x a ⟨q1, q2⟩ => ?_, fun x y a q q' => W.oo x y a q.1 q'.1, by show _ = (wipeS sd.sl vs).length; rw [L2.wipe_length, wipeS_length]; exact W.len, fun i t e => ?_, fun i j e => ?_, fun j t e => ?_⟩, fun F' sd' H' v t f ⟨o1, P1, W1, r1, k1⟩ => ?_⟩
  · show (if P a then H a else G a) = none
    by_cases z : P a
    · rw [if_pos z]; exact ha
    · rw [if_neg z]; exact W.gh.free ha
  · have e : (if P a then H a else G a) = some u := e
    by_cases z : P a
    · rw [if_pos z] at e; exact e
    · rw [if_neg z] at e; exact W.gh a u e
  · show (if P a then H a else G a) = none
    by_cases z : P a
    · obtain ⟨i, _, h⟩ := z
      exact absurd (W.oh _ a h).2.1 ha
    · rw [if_neg z]; exact W.fg a ha
  · obtain ⟨h1, h2, h3⟩ := W.oh x a q1
    refine ⟨h1, h2, ?_⟩
    show (if P a then H a else G a) = none
    rw [if_neg fun ⟨i, hi, h⟩ => q2 i hi (W.oo _ _ a q1 h)]
    exact h3
  · obtain ⟨h1, h2⟩ := wiped_at e (by intro z; cases z)
    rw [wipe_in h1]
    obtain ⟨v, a1, a2⟩ := W.sl i t h2
    exact ⟨v, a1, a2.mono (Same.refl _) fun x hx => ⟨⟨hx, fun j hj z => h1 (by rw [Sum.inl.inj z]; exact hj)⟩, rfl⟩⟩
  · obtain ⟨h1, h2⟩ := wiped_at e (by intro z; cases z)
    rw [wipe_in h1]
    exact W.sp i j h2
  · obtain ⟨v, a1, a2⟩ := W.pr j t e
    exact ⟨v, a1, a2.mono (Same.refl _) fun x hx => ⟨⟨hx, fun j hj z => by cases z⟩, rfl⟩⟩
  · have hP : ∀ a, P a → H' a = H a := fun a z => by
      have hn : H a ≠ none := by
        obtain ⟨i, _, h⟩ := z
        exact (W.oh _ a h).1
      cases e : H a with
      | none => exact absurd e hn
      | some u => exact W1.gh a u (by show (if P a then H a else G a) = some u; rw [if_pos z]; exact e)
    have hG : ∀ a, (if P a then H a else G a) = none → ¬ P a ∧ G a = none := fun a z => by
      by_cases y : P a
      · rw [if_pos y] at z
        obtain ⟨i, _, h⟩ := y
        exact absurd z (W.oh _ a h).1
      · rw [if_neg y] at z
        exact ⟨y, z⟩
    have hF : ∀ a, P a → F' a = none := fun a z => by
      cases e : F' a with
      | none => rfl
      | some u => exact absurd z (hG a (W1.fg a (by rw [e]; simp))).1
    have len1 : sd'.sl.length = sd.sl.length := by
      have := W1.len
      have e2 : (wipeS sd'.sl vs).length = sd'.sl.length := wipeS_length _ _
      have : (L2.wipe σ vs).length = (wipeS sd'.sl vs).length := this
      rw [L2.wipe_length, e2, W.len] at this
      exact this.symm
    refine ⟨fun x a => match x with
      | .inl i => if i ∈ vs then o (.inl i) a else o1 (.inl i) a
      | .inr j => o1 (.inr j) a, P1, ⟨W1.fh, fun a u e => ?_, fun a ha => (hG a (W1.fg a ha)).2, fun x a q => ?_, fun x y a q q' => ?_, ?_, fun i t e => ?_, fun i j e => ?_, fun j t e => ?_⟩, r1, fun a z => ?_⟩
    · by_cases z : P a
      · rw [gp a z] at e; cases e
      · exact W1.gh a u (by show (if P a then H a else G a) = some u; rw [if_neg z]; exact e)
    · cases x with
      | inl i =>
        by_cases hi : i ∈ vs
        · have q : o (.inl i) a := by simpa [hi] using q
          have z : P a := ⟨i, hi, q⟩
          exact ⟨by rw [hP a z]; exact (W.oh _ a q).1, hF a z, gp a z⟩
        · have q : o1 (.inl i) a := by simpa [hi] using q
          obtain ⟨h1, h2, h3⟩ := W1.oh _ a q
          exact ⟨h1, h2, (hG a h3).2⟩
      | inr j =>
        obtain ⟨h1, h2, h3⟩ := W1.oh _ a q
        exact ⟨h1, h2, (hG a h3).2⟩
    · have old : ∀ (x : Nat ⊕ Nat), (match x with
        | .inl i => if i ∈ vs then o (.inl i) a else o1 (.inl i) a
        | .inr j => o1 (.inr j) a) → (∃ i, x = .inl i ∧ i ∈ vs ∧ o (.inl i) a ∧ P a) ∨ (o1 x a ∧ ¬ P a) := fun x q => by
        cases x with
        | inl i =>
          by_cases hi : i ∈ vs
          · have q : o (.inl i) a := by simpa [hi] using q
            exact .inl ⟨i, rfl, hi, q, i, hi, q⟩
          · have q : o1 (.inl i) a := by simpa [hi] using q
            exact .inr ⟨q, (hG a (W1.oh _ a q).2.2).1⟩
        | inr j => exact .inr ⟨q, (hG a (W1.oh _ a q).2.2).1⟩
      rcases old x q with ⟨i, rfl, _, q1, q2⟩ | ⟨q1, q2⟩
      · rcases old y q' with ⟨j, rfl, _, q3, _⟩ | ⟨_, q4⟩
        · exact W.oo _ _ a q1 q3
        · exact absurd q2 q4
      · rcases old y q' with ⟨j, rfl, _, _, q4⟩ | ⟨q3, _⟩
        · exact absurd q4 q2
        · exact W1.oo _ _ a q1 q3
    · show σ.length = (backS sd'.sl sd.sl vs).length
      rw [backS_length, len1]
      exact W.len
    · have e : (backS sd'.sl sd.sl vs)[i]? = some (S.ow t) := e
      by_cases hi : i ∈ vs
      · by_cases hl : i < sd'.sl.length
        · rw [backS_in hi hl] at e
          have hl2 : i < sd.sl.length := by omega
          have e2 : sd.sl[i]? = some sd.sl[i] := by simp [hl2]
          rw [e2] at e
          have e : some sd.sl[i] = some (S.ow t) := e
          rw [e] at e2
          obtain ⟨v, a1, a2⟩ := W.sl i t e2
          refine ⟨v, a1, a2.mono f fun x hx => ⟨by simpa [hi] using hx, hP x ⟨i, hi, hx⟩⟩⟩
        · rw [List.getElem?_eq_none (by rw [backS_length]; omega)] at e
          cases e
      · rw [backS_out hi, ← wipeS_out (l := sd'.sl) hi] at e
        obtain ⟨v, a1, a2⟩ := W1.sl i t e
        rw [wipe_in hi] at a1
        exact ⟨v, a1, a2.mono (Same.refl _) fun x hx => ⟨by simpa [hi] using hx, rfl⟩⟩
    · have e : (backS sd'.sl sd.sl vs)[i]? = some (S.pa j) := e
      by_cases hi : i ∈ vs
      · by_cases hl : i < sd'.sl.length
        · rw [backS_in hi hl] at e
          have hl2 : i < sd.sl.length := by omega
          have e2 : sd.sl[i]? = some sd.sl[i] := by simp [hl2]
          rw [e2] at e
          have e : some sd.sl[i] = some (S.pa j) := e
          rw [e] at e2
          exact W.sp i j e2
        · rw [List.getElem?_eq_none (by rw [backS_length]; omega)] at e
          cases e
      · rw [backS_out hi, ← wipeS_out (l := sd'.sl) hi] at e
        obtain ⟨v, a1, a2⟩ := W1.sp i j e
        rw [wipe_in hi] at a2
        exact ⟨v, a1, a2⟩
    · obtain ⟨v, a1, a2⟩ := W1.pr j t e
      exact ⟨v, a1, a2⟩
    · obtain ⟨h1, h2, h3, h4⟩ := k1 a z
      refine ⟨h1, h2, (hG a h3).2, fun x q => ?_⟩
      cases x with
      | inl i =>
        by_cases hi : i ∈ vs
        · have q : o (.inl i) a := by simpa [hi] using q
          exact (hG a h3).1 ⟨i, hi, q⟩
        · have q : o1 (.inl i) a := by simpa [hi] using q
          exact h4 _ q
      | inr j => exact h4 _ q
/-- a list that nobody but we know -/
theorem StR.lay {L : Addr} {xs : List V} (s : StR K pv G F sd σ H) (hD : H L = none) : StR K pv (upd G L (.lst xs)) F sd σ (upd H L (.lst xs)) := by
  obtain ⟨o, W⟩ := s
  obtain ⟨f0, g0, n0⟩ := W.fresh hD
  have W' := W.grow (Same.upd (o := .lst xs) hD) (Same.refl F) (fun a u e => by rw [upd_ne (ne_of_none e f0)]; exact W.fh a u e) fun a ha => .inl ha
  refine ⟨o, W'.fh, fun a u e => ?_, fun a ha => ?_, fun i a q => ?_, W'.oo, W'.len, W'.sl, W'.sp, W'.pr⟩
  · by_cases h : a = L
    · subst h; rw [upd_same] at e ⊢; exact e
    · rw [upd_ne h] at e; exact W'.gh a u e
  · have h : a ≠ L := fun z => ha (by rw [z]; exact f0)
    rw [upd_ne h]; exact W'.fg a ha
  · obtain ⟨h1, h2, h3⟩ := W'.oh i a q
    have h : a ≠ L := fun z => n0 i (by rw [← z]; exact q)
    exact ⟨h1, h2, by rw [upd_ne h]; exact h3⟩
theorem StR.relay {L : Addr} {xs ys : List V} (s : StR K pv (upd G L (.lst xs)) F sd σ H) : StR K pv (upd G L (.lst ys)) F sd σ (upd H L (.lst ys)) := by
  obtain ⟨o, W⟩ := s
  have gL : (upd G L (HO.lst xs)) L = some (.lst xs) := upd_same
  have f0 : F L = none := by
    cases e : F L with
    | none => rfl
    | some u =>
      have := W.fg L (by rw [e]; simp)
      rw [gL] at this; cases this
  have n0 : ∀ i, ¬ o i L := fun i q => by
    have := (W.oh i L q).2.2
    rw [gL] at this; cases this
  have cell : ∀ i x, o i x → upd H L (.lst ys) x = H x := fun i x q => upd_ne fun z => n0 i (by rw [← z]; exact q)
  refine ⟨o, fun a u e => ?_, fun a u e => ?_, fun a ha => ?_, fun i a q => ?_, W.oo, W.len, fun i t e => ?_, W.sp, fun j t e => ?_⟩
  · rw [upd_ne (ne_of_none e f0)]; exact W.fh a u e
  · by_cases h : a = L
    · subst h; rw [upd_same] at e ⊢; exact e
    · rw [upd_ne h] at e ⊢; exact W.gh a u (by rw [upd_ne h]; exact e)
  · have h : a ≠ L := fun z => ha (by rw [z]; exact f0)
    have := W.fg a ha
    rw [upd_ne h] at this ⊢; exact this
  · obtain ⟨h1, h2, h3⟩ := W.oh i a q
    have h : a ≠ L := fun z => n0 i (by rw [← z]; exact q)
    rw [upd_ne h] at h3
    exact ⟨by rw [upd_ne h]; exact h1, h2, by rw [upd_ne h]; exact h3⟩
  · obtain ⟨v, h1, h2⟩ := W.sl i t e
    exact ⟨v, h1, h2.mono (Same.refl _) fun x hx => ⟨hx, cell _ x hx⟩⟩
  · obtain ⟨v, h1, h2⟩ := W.pr j t e
    exact ⟨v, h1, h2.mono (Same.refl _) fun x hx => ⟨hx, cell _ x hx⟩⟩
theorem StR.unlay {L : Addr} {xs : List V} {ds : List D} (s : StR K pv (upd G L (.lst xs)) F sd σ H) (gL : G L = none) (r : Reps K F xs ds) : StR1 K pv G F sd σ H (.ref L) (.ol (ds.map .fz)) := by
  obtain ⟨o, W⟩ := s
  have gU : (upd G L (HO.lst xs)) L = some (.lst xs) := upd_same
  have f0 : F L = none := by
    cases e : F L with
    | none => rfl
    | some u =>
      have := W.fg L (by rw [e]; simp)
      rw [gU] at this; cases this
  have n0 : ∀ i, ¬ o i L := fun i q => by
    have := (W.oh i L q).2.2
    rw [gU] at this; cases this
  refine ⟨o, fun a => a = L, ⟨W.fh, fun a u e => W.gh a u (by rw [upd_ne (ne_of_none e gL)]; exact e), fun a ha => ?_, fun i a q => ?_, W.oo, W.len, W.sl, W.sp, W.pr⟩, ?_, fun a ha => ?_⟩
  · have h : a ≠ L := fun z => ha (by rw [z]; exact f0)
    have := W.fg a ha
    rw [upd_ne h] at this; exact this
  · obtain ⟨h1, h2, h3⟩ := W.oh i a q
    have h : a ≠ L := fun z => n0 i (by rw [← z]; exact q)
    rw [upd_ne h] at h3
    exact ⟨h1, h2, h3⟩
  · unfold RepO
    exact ⟨L, xs, rfl, rfl, W.gh L _ gU, repOs_of _ r⟩
  · subst ha
    exact ⟨by rw [W.gh a _ gU]; simp, f0, gL, n0⟩
theorem StR.at_lay {L : Addr} {xs : List V} (s : StR K pv (upd G L (.lst xs)) F sd σ H) : H L = some (.lst xs) := by
  obtain ⟨o, W⟩ := s
  exact W.gh L _ upd_same
end
/-- raising is not told here -/
noncomputable def ER.calm {α : Type} (r : ER α) : ER α :=
  match r with
  | .rz _ _ => .bad
  | r => r
noncomputable def goComp (g : D → SD → Option SD) (c : SD → ER Bool) (elt : SD → ER D) (vs : List Nat) : List D → List D → SD → ER (List D)
  | [], acc, sd => .ok acc sd
  | d :: ds, acc, sd => match g d (sd.wipe vs) with
    | none => .bad
    | some sd1 => (c sd1).calm.bind fun b sd2 => if b = true then ((elt sd2).calm.bind fun y sd3 => if acc.length < 16777216 then goComp g c elt vs ds (acc ++ [y]) sd3 else .bad) else goComp g c elt vs ds acc sd2
noncomputable def mComp (it : SD → ER (List D)) (g : D → SD → Option SD) (c : SD → ER Bool) (elt : SD → ER D) (vs : List Nat) : SD → ER OT := fun sd => (it sd).bind fun ds sd1 => (goComp g c elt vs ds [] sd1).bind fun res sd2 => .ok (.ol (res.map .fz)) (sd2.back sd1 vs)
noncomputable def mYes : SD → ER Bool := fun sd => .ok true sd
/-- no wish -/
noncomputable abbrev W0 : WX := fun _ _ _ _ => False
theorem goComp_calm {g : D → SD → Option SD} {c : SD → ER Bool} {elt : SD → ER D} {vs : List Nat} : ∀ (ds acc : List D) (sd : SD) (x : Exn) (s : SD), goComp g c elt vs ds acc sd ≠ .rz x s
  | [], acc, sd, x, s => by rw [goComp]; intro h; cases h
  | d :: ds, acc, sd, x, s => by
    rw [goComp]
    cases g d (sd.wipe vs) with
    | none => intro h; cases h
    | some sd1 =>
      show (c sd1).calm.bind _ ≠ _
      cases c sd1 with
      | bad => intro h; cases h
      | rz _ _ => intro h; cases h
      | ok b sd2 =>
        show (if b = true then _ else _) ≠ _
        split
        · cases elt sd2 with
          | bad => intro h; cases h
          | rz _ _ => intro h; cases h
          | ok y sd3 =>
            show (if acc.length < 16777216 then _ else _) ≠ _
            split
            · exact goComp_calm ds _ sd3 x s
            · intro h; cases h
        · exact goComp_calm ds acc sd2 x s
section
variable {K : PySem.W.Frag} {pv : List V} {W : WX} {p q pc pe : Bool}
theorem wipe_wipe {vs vs1 : List Nat} (h : ∀ i ∈ vs1, i ∈ vs) (sd : SD) : (sd.wipe vs1).wipe vs = sd.wipe vs := by
  show SD.mk (wipeS (wipeS sd.sl vs1) vs) sd.pa = SD.mk (wipeS sd.sl vs) sd.pa
  congr 1
  refine List.ext_getElem? fun i => ?_
  by_cases hi : i ∈ vs
  · by_cases hl : i < sd.sl.length
    · rw [wipeS_in hi (by rw [wipeS_length]; exact hl), wipeS_in hi hl]
    · rw [List.getElem?_eq_none (by rw [wipeS_length, wipeS_length]; omega), List.getElem?_eq_none (by rw [wipeS_length]; omega)]
  · rw [wipeS_out hi, wipeS_out hi, wipeS_out fun z => hi (h i z)]
theorem wipe_one {σ : L2.St} {i : Nat} : ∀ {us : List Nat}, i ∈ us → (wipe σ us)[i]? = if i < σ.length then some none else none
  | u :: us, h => by
    unfold wipe
    by_cases e : u = i
    · subst e
      by_cases hl : u < σ.length
      · rw [List.getElem?_set_self (by rw [wipe_length]; exact hl), if_pos hl]
      · rw [List.getElem?_eq_none (by rw [List.length_set, wipe_length]; omega), if_neg hl]
    · rw [List.getElem?_set_ne e]
      exact wipe_one ((List.mem_cons.mp h).resolve_left fun z => e z.symm)
theorem wipe_wipeV {vs vs1 : List Nat} (h : ∀ i ∈ vs1, i ∈ vs) (σ : L2.St) : wipe (wipe σ vs1) vs = wipe σ vs := by
  refine List.ext_getElem? fun i => ?_
  by_cases hi : i ∈ vs
  · rw [wipe_one hi, wipe_one hi, wipe_length]
  · rw [wipe_in hi, wipe_in hi, wipe_in fun z => hi (h i z)]
/-- the loop of a comprehension, by values: acc0 is there already -/
theorem comp_go {J : It} {t : TG} {tt : TT} {te : TE} {g : D → SD → Option SD} {c : SD → ER Bool} {elt : SD → ER D} {vs is : List Nat} {G F1 H1 : Hp} {sd1 : SD} {σ : L2.St} {ds acc0 : List D} {xs0 : List V} {L : Addr} {Q : Hp → Prop} {res : List D} {sdr : SD}
    (his : ∀ i ∈ is, i ∈ vs)
    (hg : ∀ (pv : List V) (G F : Hp) (sd : SD) (σ : L2.St) (H : Hp) (x : V) (d : D) (sd' : SD), StR K pv G F sd σ H → Rep K F x d → g d sd = some sd' → ∀ Q : L2.St → Hp → Prop, (∀ σ', StR K pv G F sd' σ' H → (∀ vs : List Nat, (∀ i ∈ is, i ∈ vs) → wipe σ' vs = wipe σ vs) → Q σ' H) → t x σ H Q)
    (hgw : ∀ d sd sd', g d sd = some sd' → sd'.wipe vs = sd.wipe vs)
    (hc : TrT K pv W0 pc tt c) (he : TrX K pv W0 pe true te elt) (wk : Walk K J F1 ds) (s1 : StR K pv (upd G L (.lst xs0)) F1 (sd1.wipe vs) (wipe σ vs) H1) (ra0 : Reps K F1 xs0 acc0) (e : goComp g c elt vs ds acc0 sd1 = .ok res sdr)
    (hQ : ∀ F' H' xs, Same F1 F' → StR K pv (upd G L (.lst xs)) F' (sdr.wipe vs) (wipe σ vs) H' → Reps K F' xs res → ((pc && pe) = true → (∀ a u, a ≠ L → H1 a = some u → H' a = some u) ∧ sdr.wipe vs = sd1.wipe vs) → Q H') :
    ∃ W : Nat → Nat → Hp → Prop, (∃ m, W 0 m H1) ∧ ∀ i m H, W i m H → (J.stop i H ∧ Q H) ∨ (J.go i H ∧ ∃ Nx : Hp → Prop, (∀ H', Nx H' → ∃ m', m' < m ∧ W (i + 1) m' H') ∧ ∀ x H', J.yld i H x H' → t x (wipe σ vs) H' fun σ2 H2 => wipe σ2 vs = wipe σ vs ∧ tt σ2 H2 fun b H3 =>
      if b = true then te σ2 H3 fun y H4 => ∃ acc, H4 L = some (.lst acc) ∧ acc.length < sizeLine ∧ Nx (upd H4 L (.lst (acc ++ [y]))) else Nx H3) := by
  have ww : ∀ (sd : SD) , (sd.wipe vs).wipe vs = sd.wipe vs := fun sd => wipe_wipe (fun i h => h) sd
  have sw : wipe (wipe σ vs) vs = wipe σ vs := wipe_wipeV (fun i h => h) σ
  let Inv : Nat → Hp → Prop := fun i H => ∃ F' sd' acc xs, Same F1 F' ∧ StR K pv (upd G L (.lst xs)) F' (sd'.wipe vs) (wipe σ vs) H ∧ Reps K F' xs acc ∧ goComp g c elt vs (ds.drop i) acc sd' = .ok res sdr ∧ ((pc && pe) = true → (∀ a u, a ≠ L → H1 a = some u → H a = some u) ∧ sd'.wipe vs = sd1.wipe vs)
  refine ⟨fun i m H => m = ds.length - i ∧ i ≤ ds.length ∧ Inv i H, ⟨ds.length, by simp, Nat.zero_le _, F1, sd1, acc0, xs0, Same.refl _, s1, ra0, e, fun _ => ⟨fun a u _ h => h, rfl⟩⟩, ?_⟩
  rintro i m H ⟨rfl, hi, F', sd', acc, xs, f1, st, ra, eg, pu⟩
  by_cases hlt : i < ds.length
  · have hd : ds[i]? = some ds[i] := by simp [hlt]
    refine .inr ⟨wk.go F' H i _ f1 st.fh hd, Inv (i + 1), fun H' q => ⟨ds.length - (i + 1), by omega, rfl, hlt, q⟩, fun x H' y => ?_⟩
    rw [drop_at hd, goComp] at eg
    cases e1 : g ds[i] (sd'.wipe vs) with
    | none => rw [e1] at eg; cases eg
    | some sda =>
      rw [e1] at eg
      dsimp only at eg
      have main : ∀ F2 H2, Same F' F2 → StR K pv (upd G L (.lst xs)) F2 (sd'.wipe vs) (wipe σ vs) H2 → Rep K F2 x ds[i] → ((pc && pe) = true → ∀ a u, a ≠ L → H1 a = some u → H2 a = some u) → t x (wipe σ vs) H2 fun σ2 H2 => wipe σ2 vs = wipe σ vs ∧ tt σ2 H2 fun b H3 =>
          if b = true then te σ2 H3 fun y H4 => ∃ acc, H4 L = some (.lst acc) ∧ acc.length < sizeLine ∧ Inv (i + 1) (upd H4 L (.lst (acc ++ [y]))) else Inv (i + 1) H3 := fun F2 H2 f2 st2 rx pu2 => by
        refine hg pv _ F2 _ _ H2 x _ sda st2 rx e1 _ fun σ2 k1 k2 => ?_
        have w2 : wipe σ2 vs = wipe σ vs := (k2 vs his).trans sw
        have pw : (pc && pe) = true → sda.wipe vs = sd1.wipe vs := fun z => by rw [hgw _ _ _ e1, ww, (pu z).2]
        refine ⟨w2, ?_⟩
        have z := hc (upd G L (.lst xs)) F2 sda σ2 H2 (fun b H3 => if b = true then te σ2 H3 fun y H4 => ∃ acc, H4 L = some (.lst acc) ∧ acc.length < sizeLine ∧ Inv (i + 1) (upd H4 L (.lst (acc ++ [y]))) else Inv (i + 1) H3) k1
        revert eg z
        cases c sda with
        | bad => intro eg; cases eg
        | rz _ _ => intro eg; cases eg
        | ok b sdb =>
          intro eg z
          refine z fun b' F3 H3 u1 u2 u3 u4 => ?_
          have u3 : b' = b := u3
          subst u3
          have eg : (if b' = true then ((elt sdb).calm.bind fun y sd3 => if acc.length < 16777216 then goComp g c elt vs (ds.drop (i + 1)) (acc ++ [y]) sd3 else .bad) else goComp g c elt vs (ds.drop (i + 1)) acc sdb) = .ok res sdr := eg
          cases b' with
          | false =>
            rw [if_neg (by decide)] at eg
            refine iteF ?_
            refine ⟨F3, sdb, acc, xs, (f1.trans f2).trans u1, ?_, ra.mono (f2.trans u1), eg, fun zz => ?_⟩
            · have q := u2.wipe vs
              rw [w2] at q; exact q
            · have zc : pc = true := (Bool.and_eq_true _ _ ▸ zz : pc = true ∧ pe = true).1
              obtain ⟨v1, v2⟩ := u4 zc
              exact ⟨fun a u n h => v1 a u (pu2 zz a u n h), by rw [v2]; exact pw zz⟩
          | true =>
            rw [if_pos rfl] at eg
            refine iteT ?_
            have z2 := he (upd G L (.lst xs)) F3 sdb σ2 H3 (fun y H4 => ∃ acc, H4 L = some (.lst acc) ∧ acc.length < sizeLine ∧ Inv (i + 1) (upd H4 L (.lst (acc ++ [y])))) u2
            revert eg z2
            cases elt sdb with
            | bad => intro eg; cases eg
            | rz _ _ => intro eg; cases eg
            | ok d sdc =>
              intro eg z2
              have eg : (if acc.length < 16777216 then goComp g c elt vs (ds.drop (i + 1)) (acc ++ [d]) sdc else .bad) = .ok res sdr := eg
              split at eg
              · rename_i hz
                refine z2 fun y F4 H4 v1 v2 v3 v4 => ?_
                have r4 : Reps K F4 xs acc := ra.mono ((f2.trans u1).trans v1)
                refine ⟨xs, v2.at_lay, by rw [r4.length, sizeLine_eq]; exact hz, F4, sdc, acc ++ [d], xs ++ [y], ((f1.trans f2).trans u1).trans v1, ?_, r4.append (.one v3), eg, fun zz => ?_⟩
                · have q := (v2.relay (ys := xs ++ [y])).wipe vs
                  rw [w2] at q; exact q
                · have zce : pc = true ∧ pe = true := (Bool.and_eq_true _ _ ▸ zz : pc = true ∧ pe = true)
                  obtain ⟨a1, a2⟩ := u4 zce.1
                  obtain ⟨b1, b2⟩ := v4 zce.2
                  exact ⟨fun a u n h => by
                    rw [upd_ne n]
                    exact b1 a u (a1 a u (pu2 zz a u n h)), by rw [b2, a2]; exact pw zz⟩
              · cases eg
      rcases wk.yld F' H i _ x H' f1 st.fh hd y with ⟨rfl, rx⟩ | ⟨T, us, es, rfl, ed, hT, rfl, rr⟩
      · exact main F' H' (Same.refl _) st rx fun z => (pu z).1
      · refine main _ _ (st.sameNew hT) (st.new (u := .tup us) hT) ?_ fun z a u n h => ?_
        · rw [ed]
          exact .tup upd_same (rr.mono (st.sameNew hT))
        · have := (pu z).1 a u n h
          rw [upd_ne (ne_of_none this hT)]; exact this
  · have e2 : i = ds.length := by omega
    subst e2
    rw [List.drop_length, goComp] at eg
    cases eg
    exact .inl ⟨wk.stop F' H f1 st.fh, hQ F' H xs f1 st ra pu⟩
/-- .. from the start -/
theorem comp_run {J : It} {t : TG} {tt : TT} {te : TE} {g : D → SD → Option SD} {c : SD → ER Bool} {elt : SD → ER D} {vs is : List Nat} {G F1 H1 : Hp} {sd1 : SD} {σ : L2.St} {ds : List D} {L : Addr} {Q : Hp → Prop} {res : List D} {sdr : SD}
    (his : ∀ i ∈ is, i ∈ vs)
    (hg : ∀ (pv : List V) (G F : Hp) (sd : SD) (σ : L2.St) (H : Hp) (x : V) (d : D) (sd' : SD), StR K pv G F sd σ H → Rep K F x d → g d sd = some sd' → ∀ Q : L2.St → Hp → Prop, (∀ σ', StR K pv G F sd' σ' H → (∀ vs : List Nat, (∀ i ∈ is, i ∈ vs) → wipe σ' vs = wipe σ vs) → Q σ' H) → t x σ H Q)
    (hgw : ∀ d sd sd', g d sd = some sd' → sd'.wipe vs = sd.wipe vs)
    (hc : TrT K pv W0 pc tt c) (he : TrX K pv W0 pe true te elt) (wk : Walk K J F1 ds) (s1 : StR K pv G F1 (sd1.wipe vs) (wipe σ vs) H1) (hL : H1 L = none) (e : goComp g c elt vs ds [] sd1 = .ok res sdr)
    (hQ : ∀ F' H' xs, Same F1 F' → StR K pv (upd G L (.lst xs)) F' (sdr.wipe vs) (wipe σ vs) H' → Reps K F' xs res → ((pc && pe) = true → Same H1 H' ∧ sdr.wipe vs = sd1.wipe vs) → Q H') :
    ∃ W : Nat → Nat → Hp → Prop, (∃ m, W 0 m (upd H1 L (.lst []))) ∧ ∀ i m H, W i m H → (J.stop i H ∧ Q H) ∨ (J.go i H ∧ ∃ Nx : Hp → Prop, (∀ H', Nx H' → ∃ m', m' < m ∧ W (i + 1) m' H') ∧ ∀ x H', J.yld i H x H' → t x (wipe σ vs) H' fun σ2 H2 => wipe σ2 vs = wipe σ vs ∧ tt σ2 H2 fun b H3 =>
      if b = true then te σ2 H3 fun y H4 => ∃ acc, H4 L = some (.lst acc) ∧ acc.length < sizeLine ∧ Nx (upd H4 L (.lst (acc ++ [y]))) else Nx H3) :=
  comp_go his hg hgw hc he wk (s1.lay hL) .nil e fun F' H' xs f1 st r pu => hQ F' H' xs f1 st r fun z => ⟨fun a u h => (pu z).1 a u (ne_of_none h hL) (by rw [upd_ne (ne_of_none h hL)]; exact h), (pu z).2⟩
end
section
variable {X : Cx} {pv : List V} {W : WX} {p q k l pc pe : Bool} {tg iter elt : Expr} {ifs : List Expr} {scope : Scope} {pos : Pos}
theorem comp_tr {own : List (Str × Nat)} {is : List Nat} {wi : TI} {t : TG} {tt : TT} {te : TE} {mi : SD → ER (List D)} {g : D → SD → Option SD} {mc : SD → ER Bool} {me : SD → ER D} (hi : TrI X.K pv W p wi mi)
    (hg : ∀ (pv : List V) (G F : Hp) (sd : SD) (σ : L2.St) (H : Hp) (x : V) (d : D) (sd' : SD), StR X.K pv G F sd σ H → Rep X.K F x d → g d sd = some sd' → ∀ Q : L2.St → Hp → Prop, (∀ σ', StR X.K pv G F sd' σ' H → (∀ vs : List Nat, (∀ i ∈ is, i ∈ vs) → wipe σ' vs = wipe σ vs) → Q σ' H) → t x σ H Q)
    (hgw : ∀ (vs : List Nat), (∀ i ∈ is, i ∈ vs) → ∀ d sd sd', g d sd = some sd' → SD.wipe sd' vs = SD.wipe sd vs) (hc : TrT X.K pv W0 pc tt mc) (he : TrX X.K pv W0 pe true te me) (his : ∀ i ∈ is, i ∈ own.map (·.2)) :
    TrO X.K pv W (p && (pc && pe)) (tLc wi t tt te (own.map (·.2))) (mComp mi g mc me (own.map (·.2))) := by
  intro G F sd σ H Q s
  refine Meets.bind (hi G F sd σ H _ s) fun J F1 H1 ds sd1 s1 s2 s3 s4 => ?_
  cases e : goComp g mc me (own.map (·.2)) ds [] sd1 with
  | bad => exact True.intro
  | rz x sr => exact absurd e (goComp_calm ds [] sd1 x sr)
  | ok res sdr =>
    intro hQ L hL
    obtain ⟨G', g1, g2, g3⟩ := s2.block (own.map (·.2))
    refine comp_run his hg (hgw _ his) hc he s3 g2 hL e fun F' H' xs f1 st r pu => ?_
    have z := st.unlay (g1 L hL) r
    have z2 := g3 F' sdr H' _ _ f1 z
    exact hQ _ F' H' f1 z2.drop z2 fun zz => ⟨(pu zz).1, back_self (pu zz).2⟩
end
noncomputable def Cond {α β : Type} (K : PySem.W.Frag) (pv : List V) (W : WX) (G : Hp) (σ : L2.St) (RS : RSt β α) (p : Bool) (sd : SD) (F H : Hp) (r : ER α) (Q : β → Hp → Prop) : Prop :=
  match r with
  | .ok a sd' => ∀ v F' H', Same F F' → StR K pv G F' sd' σ H' → RS G F' sd' H' σ v a → (p = true → Same H H' ∧ sd' = sd) → Q v H'
  | .rz x sd' => ∀ cls dd F' H', Same F F' → StR K pv G F' sd' σ H' → RepX K F' cls dd x → W cls dd σ H'
  | .bad => False
theorem meets_of {α β : Type} {K : PySem.W.Frag} {pv : List V} {W : WX} {G F H : Hp} {σ : L2.St} {RS : RSt β α} {p : Bool} {sd : SD} {r : ER α} {Q : β → Hp → Prop} {P : Prop} (h : Cond K pv W G σ RS p sd F H r Q → P) : Meets K pv W G σ RS p sd F H r Q P := by
  cases r with
  | bad => exact True.intro
  | _ => exact h
theorem Meets.get {α β : Type} {K : PySem.W.Frag} {pv : List V} {W : WX} {G F H : Hp} {σ : L2.St} {RS : RSt β α} {p : Bool} {sd : SD} {r : ER α} {Q : β → Hp → Prop} {P : Prop} (h : Meets K pv W G σ RS p sd F H r Q P) (c : Cond K pv W G σ RS p sd F H r Q) : P := by
  cases r with
  | bad => exact c.elim
  | _ => exact h c
noncomputable def canX (K : PySem.W.Frag) (pv : List V) (W : WX) (p k : Bool) (m : SD → ER D) : TE := fun σ H Q => ∃ G F sd, StR K pv G F sd σ H ∧ Cond K pv W G σ (RSx K k) p sd F H (m sd) Q
noncomputable def canT (K : PySem.W.Frag) (pv : List V) (W : WX) (p : Bool) (m : SD → ER Bool) : TT := fun σ H Q => ∃ G F sd, StR K pv G F sd σ H ∧ Cond K pv W G σ RSb p sd F H (m sd) Q
noncomputable def canG (K : PySem.W.Frag) (is : List Nat) (g : D → SD → Option SD) : TG := fun x σ H Q => ∃ (pv : List V) (G F : Hp) (sd : SD) (d : D) (sd' : SD), StR K pv G F sd σ H ∧ Rep K F x d ∧ g d sd = some sd' ∧
  ∀ σ', StR K pv G F sd' σ' H → (∀ vs : List Nat, (∀ i ∈ is, i ∈ vs) → wipe σ' vs = wipe σ vs) → Q σ' H
noncomputable def canI (K : PySem.W.Frag) (pv : List V) (W : WX) (p : Bool) (m : SD → ER (List D)) : TI := fun σ H R => ∃ G F sd, StR K pv G F sd σ H ∧ Cond K pv W G σ (RSw K) p sd F H (m sd) R
section
variable {X : Cx} {pv : List V} {W : WX} {p q k l pc pe : Bool} {e tg iter elt : Expr} {ifs : List Expr} {scope : Scope} {pos : Pos}
theorem DX.can {m : SD → ER D} (h : DX X pv W p k e m) : PE X e (canX X.K pv W p k m) := by
  obtain ⟨te, h1, h2⟩ := h
  exact ⟨fun pins s σ H Q I ⟨G, F, sd, st, c⟩ => h1.run pins s σ H Q I ((h2 G F sd σ H Q st).get c)⟩
theorem canX_tr {K : PySem.W.Frag} {m : SD → ER D} : TrX K pv W p k (canX K pv W p k m) m := fun G F sd σ H Q s => meets_of fun c => ⟨G, F, sd, s, c⟩
theorem DT.can {m : SD → ER Bool} (h : DT X pv W p e m) : PT X e (canT X.K pv W p m) := by
  obtain ⟨te, h1, h2⟩ := h
  exact ⟨fun pins s σ H Q I ⟨G, F, sd, st, c⟩ => h1.run pins s σ H Q I ((h2 G F sd σ H Q st).get c)⟩
theorem canT_tr {K : PySem.W.Frag} {m : SD → ER Bool} : TrT K pv W p (canT K pv W p m) m := fun G F sd σ H Q s => meets_of fun c => ⟨G, F, sd, s, c⟩
theorem DI.can {m : SD → ER (List D)} (h : DI X pv W p tg iter m) : PI X tg iter (canI X.K pv W p m) := by
  obtain ⟨te, h1, h2⟩ := h
  exact ⟨fun pins s σ H Q I ⟨G, F, sd, st, c⟩ => h1.run pins s σ H Q I ((h2 G F sd σ H Q st).get c)⟩
theorem DG.can {is : List Nat} {g : D → SD → Option SD} (h : DG X is tg g) : PG X tg (canG X.K is g) := by
  obtain ⟨⟨t, h1, h2⟩, _⟩ := h
  refine ⟨fun pins s σ H v u Q I r ⟨pv, G, F, sd, d, sd', st, rd, e, hq⟩ => ?_⟩
  obtain ⟨σ', k1, k2, k3⟩ := h2 pv G F sd σ H v d sd' st rd e
  exact h1.run pins s σ H v u Q I r (k3 Q (hq σ' k1 k2))
/-- the tests of a clause -/
structure DTs (X : Cx) (pv : List V) (W : WX) (p : Bool) (ifs : List Expr) (m : SD → ER Bool) : Prop where
  run : PTs X ifs (canT X.K pv W p m)
theorem dts_nil : DTs X pv W true [] mYes := ⟨⟨fun pins s σ H Q I ⟨G, F, sd, st, c⟩ => (pts_nil (X := X)).run pins s σ H Q I (c true F H (Same.refl _) st rfl fun _ => ⟨Same.refl _, rfl⟩)⟩⟩
theorem dts_one {c : Expr} {m : SD → ER Bool} (h : DT X pv W p c m) : DTs X pv W p [c] m := ⟨pts_one h.can⟩
theorem canG_run {K : PySem.W.Frag} {is : List Nat} {g : D → SD → Option SD} (pv : List V) (G F : Hp) (sd : SD) (σ : L2.St) (H : Hp) (x : V) (d : D) (sd' : SD) (s : StR K pv G F sd σ H) (r : Rep K F x d) (e : g d sd = some sd') (Q : L2.St → Hp → Prop)
    (hQ : ∀ σ', StR K pv G F sd' σ' H → (∀ vs : List Nat, (∀ i ∈ is, i ∈ vs) → wipe σ' vs = wipe σ vs) → Q σ' H) : canG K is g x σ H Q := ⟨pv, G, F, sd, d, sd', s, r, e, hQ⟩
/-- [elt for tg in iter if ..] as a value -/
theorem do_comp {own : List (Str × Nat)} {is : List Nat} {mi : SD → ER (List D)} {g : D → SD → Option SD} {mc : SD → ER Bool} {me : SD → ER D} (hc : X.calm = true) (hN : X.N.Nodup) (hi : DI X pv W p tg iter mi) (ok : BlkOk X.N X.env.scope scope own)
    (hg : ∀ (s : Shared) (H : Hp) (C : Addr) (cl : List (Str × Addr)) (fp : List Addr), DG (X.blk s H scope (compEnvC scope cl C X.env) fp) is tg g)
    (ht : ∀ (s : Shared) (H : Hp) (C : Addr) (cl : List (Str × Addr)) (fp : List Addr), DTs (X.blk s H scope (compEnvC scope cl C X.env) fp) pv W0 pc ifs mc)
    (he : ∀ (s : Shared) (H : Hp) (C : Addr) (cl : List (Str × Addr)) (fp : List Addr), DX (X.blk s H scope (compEnvC scope cl C X.env) fp) pv W0 pe true elt me) (his : ∀ i ∈ is, i ∈ own.map (·.2))
    (wip : ∀ (vs : List Nat), (∀ i ∈ is, i ∈ vs) → ∀ d sd sd', g d sd = some sd' → SD.wipe sd' vs = SD.wipe sd vs)
    (hs : ∀ x, foldedSetIterable iter X.env x = pure x := by intro _; rfl) :
    DO X pv W (p && (pc && pe)) (.ListComp elt [⟨tg, iter, ifs, 0⟩] scope pos) (mComp mi g mc me (own.map (·.2))) := by
  obtain ⟨wi, a1, a2⟩ := hi
  exact ⟨_, pe_lc hc hN a1 ok (fun s H C cl fp => (hg s H C cl fp).can) (fun s H C cl fp => (ht s H C cl fp).run) (fun s H C cl fp => (he s H C cl fp).can) hs, comp_tr a2 canG_run wip canT_tr canX_tr his⟩
end
end DL
namespace DL
open PySem PySem.Spec L2
end DL
namespace DL
open PySem PySem.Spec L2
noncomputable def SD.put (sd : SD) (i : Nat) (t : OT) : SD := match sd.sl[i]? with
  | some (.ow _) => { sd with sl := sd.sl.set i (.ow t) }
  | some (.pa j) => { sd with pa := sd.pa.set j t }
  | _ => sd
section
variable {K : PySem.W.Frag} {pv : List V} {G F F' H H' : Hp} {sd : SD} {σ : L2.St} {o : Nat ⊕ Nat → Addr → Prop}
theorem Own.put {i : Nat} {t : OT} (W : Own K pv G F sd σ H o) (h : sd.tree i = some t) : ∃ (src : Nat ⊕ Nat) (v : V), σ[i]? = some (some v) ∧ RepO K F H t v (o src) ∧
    ∀ (F' H' : Hp) (o2 : Nat ⊕ Nat → Addr → Prop) (t' : OT), Same F F' → Same F' H' → Same G H' → (∀ a, F' a ≠ none → G a = none) → (∀ x a, o2 x a → H' a ≠ none ∧ F' a = none ∧ G a = none) → (∀ x y a, o2 x a → o2 y a → x = y) →
      (∀ x, x ≠ src → ∀ a, o x a → o2 x a ∧ H' a = H a) → RepO K F' H' t' v (o2 src) → Own K pv G F' (sd.put i t') σ H' o2 := by
  unfold SD.tree at h
  split at h
  · rename_i t0 e
    cases h
    obtain ⟨v, h1, h2⟩ := W.sl i _ e
    refine ⟨.inl i, v, h1, h2, fun F' H' o2 t' f fh gh fg oh oo ho r => ?_⟩
    have ep : sd.put i t' = { sd with sl := sd.sl.set i (.ow t') } := by unfold SD.put; rw [e]
    have hi : i < sd.sl.length := (List.getElem?_eq_some_iff.mp e).1
    rw [ep]
    refine ⟨fh, gh, fg, oh, oo, by simpa using W.len, fun j t1 e1 => ?_, fun j l e1 => ?_, fun j t1 e1 => ?_⟩
    · have e1 : (sd.sl.set i (S.ow t'))[j]? = some (S.ow t1) := e1
      by_cases z : i = j
      · subst z
        rw [List.getElem?_set_self hi] at e1
        cases e1
        exact ⟨v, h1, r⟩
      · rw [List.getElem?_set_ne z] at e1
        obtain ⟨w, k1, k2⟩ := W.sl j t1 e1
        refine ⟨w, k1, k2.mono f fun x hx => ho (.inl j) (fun y => z (Sum.inl.inj y).symm) x hx⟩
    · have e1 : (sd.sl.set i (S.ow t'))[j]? = some (S.pa l) := e1
      by_cases z : i = j
      · subst z
        rw [List.getElem?_set_self hi] at e1
        cases e1
      · rw [List.getElem?_set_ne z] at e1
        exact W.sp j l e1
    · obtain ⟨w, k1, k2⟩ := W.pr j t1 e1
      exact ⟨w, k1, k2.mono f fun x hx => ho (.inr j) (fun y => by cases y) x hx⟩
  · rename_i j e
    obtain ⟨v, h1, h2⟩ := W.sp i j e
    obtain ⟨v', h3, h4⟩ := W.pr j t h
    rw [h1] at h3; cases h3
    refine ⟨.inr j, v, h2, h4, fun F' H' o2 t' f fh gh fg oh oo ho r => ?_⟩
    have ep : sd.put i t' = { sd with pa := sd.pa.set j t' } := by unfold SD.put; rw [e]
    have hj : j < sd.pa.length := (List.getElem?_eq_some_iff.mp h).1
    rw [ep]
    refine ⟨fh, gh, fg, oh, oo, W.len, fun l t1 e1 => ?_, W.sp, fun l t1 e1 => ?_⟩
    · obtain ⟨w, k1, k2⟩ := W.sl l t1 e1
      exact ⟨w, k1, k2.mono f fun x hx => ho (.inl l) (fun y => by cases y) x hx⟩
    · have e1 : (sd.pa.set j t')[l]? = some t1 := e1
      by_cases z : j = l
      · subst z
        rw [List.getElem?_set_self hj] at e1
        cases e1
        exact ⟨v, h1, r⟩
      · rw [List.getElem?_set_ne z] at e1
        obtain ⟨w, k1, k2⟩ := W.pr l t1 e1
        exact ⟨w, k1, k2.mono f fun x hx => ho (.inr l) (fun y => z (Sum.inr.inj y).symm) x hx⟩
  · cases h
/-- the tree of a name is changed, another tree may become a part of it -/
theorem StR1.mut {i : Nat} {t t2 : OT} {v2 : V} (s : StR1 K pv G F sd σ H v2 t2) (h : sd.tree i = some t) : ∃ (v : V) (P P2 : Addr → Prop), σ[i]? = some (some v) ∧ RepO K F H t v P ∧ RepO K F H t2 v2 P2 ∧ (∀ a, P a → ¬ P2 a) ∧
    (∀ a, P a → H a ≠ none) ∧ (∀ a, P2 a → H a ≠ none) ∧
    ∀ (H' : Hp) (t' : OT), (∀ a, ¬ P a → ∀ u, H a = some u → H' a = some u) → (∀ a, P a → H' a ≠ none) → RepO K F H' t' v (fun a => P a ∨ P2 a) → StR K pv G F (sd.put i t') σ H' := by
  classical
  obtain ⟨o, P2, W, r2, k2⟩ := s
  obtain ⟨src, v, h1, h2, h3⟩ := W.put h
  refine ⟨v, o src, P2, h1, h2, r2, fun a q q2 => (k2 a q2).2.2.2 src q, fun a q => (W.oh _ a q).1, fun a q => (k2 a q).1, fun H' t' hH hP r => ?_⟩
  have keep : ∀ a, ¬ o src a → H a ≠ none → H' a = H a := fun a n hn => by
    cases e : H a with
    | none => exact absurd e hn
    | some u => exact hH a n u e
  refine ⟨fun x a => if x = src then o src a ∨ P2 a else o x a, h3 F H' _ t' (Same.refl _) (fun a u e => ?_) (fun a u e => ?_) W.fg (fun x a q => ?_) (fun x y a q q' => ?_) (fun x n a q => ?_) ?_⟩
  · exact hH a (fun z => by rw [(W.oh _ a z).2.1] at e; cases e) u (W.fh a u e)
  · exact hH a (fun z => by rw [(W.oh _ a z).2.2] at e; cases e) u (W.gh a u e)
  · by_cases z : x = src
    · rw [if_pos z] at q
      rcases q with q | q
      · exact ⟨hP a q, (W.oh _ a q).2⟩
      · obtain ⟨k1, k3, k4, k5⟩ := k2 a q
        exact ⟨by rw [keep a (k5 _) k1]; exact k1, k3, k4⟩
    · rw [if_neg z] at q
      obtain ⟨k1, k3, k4⟩ := W.oh x a q
      exact ⟨by rw [keep a (fun q' => z (W.oo _ _ a q q')) k1]; exact k1, k3, k4⟩
  · by_cases z : x = src
    · rw [if_pos z] at q
      by_cases y' : y = src
      · rw [z, y']
      · rw [if_neg y'] at q'
        rcases q with q | q
        · exact absurd (W.oo _ _ a q q').symm y'
        · exact absurd q' ((k2 a q).2.2.2 y)
    · rw [if_neg z] at q
      by_cases y' : y = src
      · rw [if_pos y'] at q'
        rcases q' with q' | q'
        · exact absurd (W.oo _ _ a q q') z
        · exact absurd q ((k2 a q').2.2.2 x)
      · rw [if_neg y'] at q'
        exact W.oo _ _ a q q'
  · have k1 := (W.oh x a q).1
    exact ⟨by rw [if_neg n]; exact q, keep a (fun q' => n (W.oo _ _ a q q')) k1⟩
  · show RepO K F H' t' v (fun a => if src = src then o src a ∨ P2 a else o src a)
    exact r.mono (Same.refl _) fun x hx => ⟨by rw [if_pos rfl]; exact hx, rfl⟩
/-- .. alone -/
theorem StR.mut {i : Nat} {t : OT} (s : StR K pv G F sd σ H) (h : sd.tree i = some t) : ∃ (v : V) (P : Addr → Prop), σ[i]? = some (some v) ∧ RepO K F H t v P ∧ (∀ a, P a → H a ≠ none) ∧
    ∀ (H' : Hp) (t' : OT), (∀ a, ¬ P a → ∀ u, H a = some u → H' a = some u) → (∀ a, P a → H' a ≠ none) → RepO K F H' t' v P → StR K pv G F (sd.put i t') σ H' := by
  obtain ⟨v, P, P2, h1, h2, _, _, h5, _, h6⟩ := (StR1.fz s (.non)).mut h
  exact ⟨v, P, h1, h2, h5, fun H' t' a b r => h6 H' t' a b (r.mono (Same.refl _) fun x hx => ⟨.inl hx, rfl⟩)⟩
theorem repOs_app : ∀ {ts : List OT} {vs : List V} {P P2 : Addr → Prop} {t2 : OT} {v2 : V}, RepOs K F H ts vs P → RepO K F H t2 v2 P2 → (∀ a, P a → ¬ P2 a) → RepOs K F H (ts ++ [t2]) (vs ++ [v2]) (fun a => P a ∨ P2 a)
  | [], vs, P, P2, t2, v2, r, r2, d => by
    unfold RepOs at r
    subst r
    rw [List.nil_append, List.nil_append]
    unfold RepOs
    refine ⟨v2, [], P2, fun _ => False, rfl, fun x h => .inr h, fun x h => h.elim, r2, ?_⟩
    unfold RepOs; rfl
  | t :: ts, vs, P, P2, t2, v2, r, r2, d => by
    unfold RepOs at r
    obtain ⟨v, ws, Q1, Q2, rfl, h1, h2, r1, rr⟩ := r
    rw [List.cons_append, List.cons_append]
    unfold RepOs
    refine ⟨v, ws ++ [v2], Q1, fun a => Q2 a ∨ P2 a, rfl, fun x h => .inl (h1 x h), fun x h => ?_, r1, repOs_app rr r2 fun a q => d a (h2 a q).1⟩
    rcases h with h | h
    · exact ⟨.inl (h2 x h).1, (h2 x h).2⟩
    · exact ⟨.inr h, fun q => d x (h1 x q) h⟩
theorem repOs_set : ∀ {ts : List OT} {vs : List V} {P P2 : Addr → Prop} {t2 : OT} {v2 : V} (k : Nat), RepOs K F H ts vs P → RepO K F H t2 v2 P2 → (∀ a, P a → ¬ P2 a) → RepOs K F H (ts.set k t2) (vs.set k v2) (fun a => P a ∨ P2 a)
  | [], vs, P, P2, t2, v2, k, r, r2, d => by
    unfold RepOs at r
    subst r
    rw [List.set_nil, List.set_nil]
    unfold RepOs; rfl
  | t :: ts, vs, P, P2, t2, v2, 0, r, r2, d => by
    unfold RepOs at r
    obtain ⟨v, ws, Q1, Q2, rfl, h1, h2, r1, rr⟩ := r
    rw [List.set_cons_zero, List.set_cons_zero]
    unfold RepOs
    exact ⟨v2, ws, P2, Q2, rfl, fun x h => .inr h, fun x h => ⟨.inl (h2 x h).1, d x (h2 x h).1⟩, r2, rr⟩
  | t :: ts, vs, P, P2, t2, v2, k + 1, r, r2, d => by
    unfold RepOs at r
    obtain ⟨v, ws, Q1, Q2, rfl, h1, h2, r1, rr⟩ := r
    rw [List.set_cons_succ, List.set_cons_succ]
    unfold RepOs
    refine ⟨v, ws.set k v2, Q1, fun a => Q2 a ∨ P2 a, rfl, fun x h => .inl (h1 x h), fun x h => ?_, r1, repOs_set k rr r2 fun a q => d a (h2 a q).1⟩
    rcases h with h | h
    · exact ⟨.inl (h2 x h).1, (h2 x h).2⟩
    · exact ⟨.inr h, fun q => d x (h1 x q) h⟩
/-- a list of a name: its items anew -/
theorem StR1.lset {i : Nat} {ts : List OT} {t2 : OT} {v2 : V} (s : StR1 K pv G F sd σ H v2 t2) (h : sd.tree i = some (.ol ts)) : ∃ (a : Addr) (vs : List V), σ[i]? = some (some (.ref a)) ∧ H a = some (.lst vs) ∧ vs.length = ts.length ∧
    StR K pv G F (sd.put i (.ol (ts ++ [t2]))) σ (upd H a (.lst (vs ++ [v2]))) ∧ ∀ k, StR K pv G F (sd.put i (.ol (ts.set k t2))) σ (upd H a (.lst (vs.set k v2))) := by
  obtain ⟨v, P, P2, h1, h2, r2, d, hn, hn2, go⟩ := s.mut h
  unfold RepO at h2
  obtain ⟨a, vs, rfl, pa, ha, r⟩ := h2
  have main : ∀ (us : List V) (ts' : List OT), RepOs K F H ts' us (fun x => (P x ∧ x ≠ a) ∨ P2 x) → StR K pv G F (sd.put i (.ol ts')) σ (upd H a (.lst us)) := fun us ts' rr => by
    refine go _ _ (fun x hx u e => by rw [upd_ne (fun z => hx (by rw [z]; exact pa))]; exact e) (fun x hx => ?_) ?_
    · by_cases z : x = a
      · rw [z, upd_same]; simp
      · rw [upd_ne z]; exact hn x hx
    · unfold RepO
      refine ⟨a, us, rfl, .inl pa, upd_same, rr.mono (Same.refl _) fun x hx => ?_⟩
      have ne : x ≠ a := by
        rcases hx with hx | hx
        · exact hx.2
        · exact fun z => d a pa (by rw [← z]; exact hx)
      exact ⟨⟨hx.imp And.left id, ne⟩, upd_ne ne⟩
  exact ⟨a, vs, h1, ha, r.length, main _ _ (repOs_app r r2 fun x q => d x q.1), fun k => main _ _ (repOs_set k r r2 fun x q => d x q.1)⟩
end
/-- what happens while a tree is put aside -/
theorem Meets.unhide {α β : Type} {K : PySem.W.Frag} {pv : List V} {W : WX} {G G' F H : Hp} {σ : L2.St} {RS : RSt β α} {p : Bool} {sd : SD} {r : ER α} {Q : β → Hp → Prop} {P : Prop} {v : V} {t : OT} (h : Meets K pv W G' σ RS p sd F H r Q P)
    (g : ∀ (F' : Hp) (sd' : SD) (σ' : L2.St) (H' : Hp), Same F F' → StR K pv G' F' sd' σ' H' → StR1 K pv G F' sd' σ' H' v t) :
    Meets K pv W G σ (fun _ F' sd' H' σ w a => StR1 K pv G F' sd' σ H' v t ∧ RS G' F' sd' H' σ w a) p sd F H r Q P := by
  cases r with
  | bad => exact True.intro
  | rz x sd' => exact fun z => h fun cls dd F' H' s1 s2 s3 => z cls dd F' H' s1 (g F' sd' σ H' s1 s2).drop s3
  | ok a sd' => exact fun z => h fun w F' H' s1 s2 s3 s4 => z w F' H' s1 (g F' sd' σ H' s1 s2).drop ⟨g F' sd' σ H' s1 s2, s3⟩ s4
noncomputable def sApp (i : Nat) (m : SD → ER OT) : SD → Fl := fun sd => match sd.tree i with
  | some (.ol _) => (m sd).stm fun t sd1 => match sd1.tree i with
    | some (.ol ts) => if ts.length < 16777216 then .nx (sd1.put i (.ol (ts ++ [t]))) else .bad
    | _ => .bad
  | _ => .bad
noncomputable def setEnd (i : Nat) (t : OT) (d : D) (sd : SD) : Fl := match d, sd.tree i with
  | .int k, some (.ol ts) => match ixN ts.length k with
    | some j => .nx (sd.put i (.ol (ts.set j t)))
    | none => .bad
  | _, _ => .bad
noncomputable def sSetAt (i : Nat) (mk : SD → ER D) (m : SD → ER OT) : SD → Fl := fun sd => (m sd).stm fun t sd1 => match sd1.tree i with
  | some (.ol _) => (mk sd1).stm (setEnd i t)
  | _ => .bad
noncomputable def sAug (i : Nat) (f : D → D → Option D) (m : SD → ER D) : SD → Fl := fun sd => match sd.sl[i]? with
  | some (.ow (.fz d)) => (m sd).stm fun y sd1 => match f d y with
    | some c => if i < sd1.sl.length then .nx { sd1 with sl := sd1.sl.set i (.ow (.fz c)) } else .bad
    | none => .bad
  | _ => .bad
noncomputable def sAsg (m : SD → ER D) (g : D → SD → Option SD) : SD → Fl := fun sd => (m sd).stm fun d sd1 => match g d sd1 with
  | some sd2 => .nx sd2
  | none => .bad
noncomputable def sPar (i j : Nat) (ma mb : SD → ER OT) : SD → Fl := fun sd => (ma sd).stm fun t sd1 => (mb sd1).stm fun u sd2 => if i < sd2.sl.length ∧ j < sd2.sl.length then .nx { sd2 with sl := (sd2.sl.set i (.ow t)).set j (.ow u) } else .bad
section
variable {X : Cx} {pv : List V} {W : WX} {p q k l : Bool} {e a b c : Expr} {es : List Expr} {pos : Pos}
theorem ol_at {K : PySem.W.Frag} {G F H : Hp} {sd : SD} {σ : L2.St} {i : Nat} {ts : List OT} (s : StR K pv G F sd σ H) (h : sd.tree i = some (.ol ts)) : ∃ a vs, σ[i]? = some (some (.ref a)) ∧ H a = some (.lst vs) := by
  obtain ⟨v, P, h1, h2⟩ := s.tree h
  unfold RepO at h2
  obtain ⟨a, vs, rfl, _, ha, _⟩ := h2
  exact ⟨a, vs, h1, ha⟩
theorem ds_app {i : Nat} {x : Str} {pp apos cpos : Pos} {m : SD → ER OT} (hx : PE X (.Name x pp) (tVar i)) (he : DO X pv W p e m)
    (hline : (apos.endLine == cpos.line) = true := by rfl) (hs : swapsWith (.Call (.Attribute (.Name x pp) "append" apos) [e] [] cpos) none pos.line X.env = pure false := by rfl)
    (hbase : attributeBase (.Name x pp) "append" X.env (eval (.Name x pp) X.env) = eval (.Name x pp) X.env := by rfl)
    (hfew : ((backTo cpos (starEach [e] X.env)).all (fun x => !x.1) && (backToKw cpos (keywordEach [] X.env)).all (fun x => x.1.isSome)
      && decide ([e].length + ([] : List Keyword).length + (if ([] : List Keyword).isEmpty then 0 else 1) < 30)) = true := by rfl)
    (hse : starEach [e] X.env = (false, eval e X.env) :: starEach [] X.env := by rfl) (hplain : (backTo cpos (starEach [] X.env)).any (·.1) = false := by rfl) :
    DS X pv W (.Expr (.Call (.Attribute (.Name x pp) "append" apos) [e] [] cpos) pos) (sApp i m) := by
  obtain ⟨te, a1, a2⟩ := he
  refine ⟨_, ps_expr (pe_bm PySem.F.plainAttrs_list PySem.F.slot_list_append PySem.F.type_list_append mt_append hx (pa_cons a1 pa_nil hse) hbase hfew hline hse hplain) hs, fun G F sd σ H D s => ?_⟩
  unfold sApp
  split
  · rename_i ts0 e0
    obtain ⟨a, vs0, h0, hH0⟩ := ol_at s e0
    refine MeetsS.imp (Meets.stm (a2 G F sd σ H (fun v H1 => rAppend (.ref a) [v] H1 fun _ H2 => D.nx σ H2) s) (f := fun t sd1 => match sd1.tree i with
      | some (.ol ts) => if ts.length < 16777216 then .nx (sd1.put i (.ol (ts ++ [t]))) else .bad
      | _ => .bad) (D := D) fun v F1 H1 t sd1 s1 s2 s3 => ?_) fun z => ⟨_, h0, .inl ⟨rfl, vs0, .inl (.inl hH0)⟩, z⟩
    split
    · rename_i ts e1
      split
      · rename_i hl
        intro hQ
        obtain ⟨l, vs, h1, h2, h3, h4, _⟩ := s3.lset e1
        rw [h0] at h1; cases h1
        exact ⟨_, vs, v, rfl, rfl, h2, by rw [h3, sizeLine_eq]; exact hl, hQ F1 σ _ (Same.refl _) h4⟩
      · exact True.intro
    · exact True.intro
  · exact True.intro
theorem ds_setAt {i : Nat} {x : Str} {pp sp : Pos} {mk : SD → ER D} {m : SD → ER OT} (hx : PE X (.Name x pp) (tVar i)) (hk : DX X pv W true l b mk) (he : DO X pv W p e m)
    (ha : ∀ v, assign (.Subscript (.Name x pp) b sp) X.env v = (do
      let ov ← holding [v] (eval (.Name x pp) X.env)
      let iv ← holding [v, ov] (eval b X.env)
      standAt sp
      holding [v, ov, iv] (setItem ov iv v)
      release [v, ov, iv] []) := by intro _; rfl)
    (hs : swapsWithSole [.Subscript (.Name x pp) b sp] e pos.line X.env = pure false := by rfl) (hw : swappedStores [.Subscript (.Name x pp) b sp] e X.env = pure none := by rfl)
    (h1 : (assignEach [.Subscript (.Name x pp) b sp] X.env).map (·.2) = [assign (.Subscript (.Name x pp) b sp) X.env] := by rfl) :
    DS X pv W (.Assign [.Subscript (.Name x pp) b sp] e pos) (sSetAt i mk m) := by
  obtain ⟨te, a1, a2⟩ := he
  obtain ⟨tk, b1, b2⟩ := hk
  refine ⟨_, ps_asg a1 (pg_sub hx b1 set_list ha) hs hw h1, fun G F sd σ H D s => ?_⟩
  refine Meets.stm (a2 G F sd σ H _ s) fun v F1 H1 t sd1 s1 s2 s3 => ?_
  split
  · rename_i ts0 e0
    obtain ⟨a, vs0, h0, hH0⟩ := ol_at s2 e0
    obtain ⟨G', g1, g2, g3⟩ := s3.hide
    have z := (b2 G' F1 sd1 σ H1 (fun y H2 => rSetL (.ref a) y v H2 fun H3 => D.nx σ H3) g2).unhide g3
    refine MeetsS.imp (Meets.stm z (f := setEnd i t) (D := D) fun y F2 H2 dk sd2 t1 t2 t3 => ?_) fun z => ⟨_, h0, z⟩
    obtain ⟨t3, t4⟩ := t3
    unfold setEnd
    split
    · rename_i k ts e2
      have r : Rep X.K H2 y (.int k) := (show RSx X.K l G F2 sd2 H2 σ y (.int k) from t4).see t2
      cases r
      split
      · rename_i j hj
        intro hQ
        obtain ⟨l, vs, h1, h2, h3, _, h4⟩ := t3.lset e2
        rw [h0] at h1; cases h1
        exact ⟨_, vs, k, j, rfl, rfl, h2, by rw [h3]; exact hj, hQ F2 σ _ (Same.refl _) (h4 j)⟩
      · exact True.intro
    · exact True.intro
  · exact True.intro
theorem ds_asg {tg : Expr} {is : List Nat} {m : SD → ER D} {g : D → SD → Option SD} (he : DX X pv W p true e m) (hg : DG X is tg g) (hs : swapsWithSole [tg] e pos.line X.env = pure false := by rfl) (hw : swappedStores [tg] e X.env = pure none := by rfl)
    (h1 : (assignEach [tg] X.env).map (·.2) = [assign tg X.env] := by rfl) : DS X pv W (.Assign [tg] e pos) (sAsg m g) := by
  obtain ⟨te, a1, a2⟩ := he
  obtain ⟨⟨t, b1, b2⟩, _⟩ := hg
  refine ⟨_, ps_asg a1 b1 hs hw h1, fun G F sd σ H D s => ?_⟩
  refine Meets.stm (a2 G F sd σ H _ s) fun v F1 H1 d sd1 s1 s2 s3 => ?_
  split
  · rename_i sd2 e2
    intro hQ
    obtain ⟨σ', k1, _, k3⟩ := b2 pv G F1 sd1 σ H1 v d sd2 s2 s3 e2
    exact k3 D.nx (hQ F1 σ' H1 (Same.refl _) k1)
  · exact True.intro
theorem ds_par {i j : Nat} {x y : Str} {px py pt pt2 : Pos} {kt k2 : Nat} {ma mb : SD → ER OT} (hc : X.calm = true) (hN : X.N.Nodup) (hi : X.N[i]? = some x) (hj : X.N[j]? = some y) (hij : i ≠ j)
    (hx : X.env.scope.names.lookup x = some .local) (hy : X.env.scope.names.lookup y = some .local) (ha : DO X pv W p a ma) (hb : DO X pv W q b mb)
    (hw : swappedStores [.Tuple [.Name x px, .Name y py] kt pt] (.Tuple [a, b] k2 pt2) X.env = pure (some [x, y]))
    (hs : swapsWithSole [.Tuple [.Name x px, .Name y py] kt pt] (.Tuple [a, b] k2 pt2) pos.line X.env = pure false := by rfl)
    (hs1 : starEach [a, b] X.env = (false, eval a X.env) :: starEach [b] X.env := by rfl) (hs2 : starEach [b] X.env = (false, eval b X.env) :: starEach [] X.env := by rfl) :
    DS X pv W (.Assign [.Tuple [.Name x px, .Name y py] kt pt] (.Tuple [a, b] k2 pt2) pos) (sPar i j ma mb) := by
  obtain ⟨ta, a1, a2⟩ := ha
  obtain ⟨tb, b1, b2⟩ := hb
  refine ⟨_, ps_par hc hN hi hj hij hx hy (pa_cons a1 (pa_cons b1 pa_nil hs2) hs1) hw hs, fun G F sd σ H D s => ?_⟩
  refine Meets.stm (a2 G F sd σ H _ s) fun v F1 H1 t sd1 s1 s2 s3 => ?_
  obtain ⟨G', g1, g2, g3⟩ := StR1.hide s3
  have z := (b2 G' F1 sd1 σ H1 (fun w H2 => ∃ a b, [v, w] = [a, b] ∧ D.nx ((σ.set i (some a)).set j (some b)) H2) g2).unhide g3
  refine MeetsS.imp (Meets.stm z (f := fun u sd2 => if i < sd2.sl.length ∧ j < sd2.sl.length then .nx { sd2 with sl := (sd2.sl.set i (.ow t)).set j (.ow u) } else .bad) (D := D) fun w F2 H2 u sd2 t1 t2 t3 => ?_) ?_
  · obtain ⟨t3, t4⟩ := t3
    split
    · rename_i hl
      intro hQ
      have t4 : StR1 X.K pv G' F2 sd2 σ H2 w u := t4
      have q1 := t4.store hl.2
      have q2 := g3 F2 _ _ H2 t1 q1
      have q3 := q2.store (i := i) (by show i < (sd2.sl.set j (S.ow u)).length; rw [List.length_set]; exact hl.1)
      rw [List.set_comm _ _ (Ne.symm hij), List.set_comm _ _ (Ne.symm hij)] at q3
      exact ⟨v, w, rfl, hQ F2 _ H2 (Same.refl _) q3⟩
    · exact True.intro
  · exact id
end
end DL
namespace DL
open PySem PySem.Spec L2
section
variable {K : PySem.W.Frag} {pv : List V} {G F H : Hp} {sd : SD} {σ : L2.St}
/-- a name's tree is taken away from it -/
theorem StR.take {i : Nat} {t : OT} (s : StR K pv G F sd σ H) (h : sd.sl[i]? = some (.ow t)) : ∃ v, σ[i]? = some (some v) ∧ StR1 K pv G F { sd with sl := sd.sl.set i .un } σ H v t := by
  obtain ⟨o, W⟩ := s
  obtain ⟨v, h1, h2⟩ := W.sl i t h
  have hi : i < sd.sl.length := (List.getElem?_eq_some_iff.mp h).1
  refine ⟨v, h1, fun x a => o x a ∧ x ≠ .inl i, o (.inl i), ⟨W.fh, W.gh, W.fg, fun x a q => W.oh x a q.1, fun x y a q q' => W.oo x y a q.1 q'.1, by simpa using W.len, fun j t' e => ?_, fun j l e => ?_, fun j t' e => ?_⟩, h2, fun a z => ⟨(W.oh _ a z).1, (W.oh _ a z).2.1, (W.oh _ a z).2.2, fun x q => q.2 (W.oo _ _ a q.1 z)⟩⟩
  · have e : (sd.sl.set i S.un)[j]? = some (S.ow t') := e
    by_cases z : i = j
    · subst z; rw [List.getElem?_set_self hi] at e; cases e
    · rw [List.getElem?_set_ne z] at e
      obtain ⟨w, k1, k2⟩ := W.sl j t' e
      exact ⟨w, k1, k2.mono (Same.refl _) fun x hx => ⟨⟨hx, fun y => z (Sum.inl.inj y).symm⟩, rfl⟩⟩
  · have e : (sd.sl.set i S.un)[j]? = some (S.pa l) := e
    by_cases z : i = j
    · subst z; rw [List.getElem?_set_self hi] at e; cases e
    · rw [List.getElem?_set_ne z] at e
      exact W.sp j l e
  · obtain ⟨w, k1, k2⟩ := W.pr j t' e
    exact ⟨w, k1, k2.mono (Same.refl _) fun x hx => ⟨⟨hx, fun y => by cases y⟩, rfl⟩⟩
/-- a frozen value in a slot that nothing is known of -/
theorem StR.know {i : Nat} {v : V} {d : D} (s : StR K pv G F sd σ H) (h : σ[i]? = some (some v)) (r : Rep K F v d) : StR K pv G F { sd with sl := sd.sl.set i (.ow (.fz d)) } σ H := by
  have hl : i < sd.sl.length := by
    obtain ⟨o, W⟩ := s
    rw [← W.len]
    exact (List.getElem?_eq_some_iff.mp h).1
  have z := (StR1.fz s r).store hl
  have e : σ.set i (some v) = σ := by
    refine List.ext_getElem? fun j => ?_
    by_cases hj : i = j
    · subst hj
      rw [h, List.getElem?_set_self (List.getElem?_eq_some_iff.mp h).1]
    · rw [List.getElem?_set_ne hj]
  rw [e] at z
  exact z
end
section
variable {X : Cx} {pv : List V} {W : WX} {p q k l : Bool} {e a b c : Expr} {es : List Expr} {pos : Pos}
theorem do_take {i : Nat} {x : Str} {pos : Pos} (h : PE X (.Name x pos) (tVar i)) : DO X pv W false (.Name x pos) (mTake i) := by
  refine ⟨_, h, fun G F sd σ H Q s => ?_⟩
  unfold mTake
  split
  · rename_i t e
    obtain ⟨v, h1, h2⟩ := s.take e
    exact fun hQ => ⟨v, h1, hQ v F H (Same.refl _) h2.drop h2 (fun z => by cases z)⟩
  · exact True.intro
theorem dx_frz {i : Nat} {x : Str} {pos : Pos} (h : PE X (.Name x pos) (tVar i)) : DX X pv W false true (.Name x pos) (mFrz i) := by
  refine ⟨_, h, fun G F sd σ H Q s => ?_⟩
  unfold mFrz
  split
  · rename_i t e
    obtain ⟨v, h1, h2⟩ := s.take e
    obtain ⟨F', f1, f2, f3⟩ := h2.frz
    have z := f2.know h1 f3
    rw [List.set_set] at z
    exact fun hQ => ⟨v, h1, hQ v F' H f1 z f3 (fun z => by cases z)⟩
  · exact True.intro
inductive Arg where
  | fz (d : D)
  | sl (i : Nat)
inductive RepsR (K : PySem.W.Frag) (F : Hp) (σ : L2.St) : List V → List Arg → Prop
  | nil : RepsR K F σ [] []
  | fz {v : V} {vs : List V} {d : D} {r : List Arg} : Rep K F v d → RepsR K F σ vs r → RepsR K F σ (v :: vs) (.fz d :: r)
  | sl {v : V} {vs : List V} {i : Nat} {r : List Arg} : σ[i]? = some (some v) → RepsR K F σ vs r → RepsR K F σ (v :: vs) (.sl i :: r)
theorem RepsR.mono {K : PySem.W.Frag} {F F' : Hp} {σ : L2.St} (e : Same F F') : ∀ {vs : List V} {r : List Arg}, RepsR K F σ vs r → RepsR K F' σ vs r
  | _, _, .nil => .nil
  | _, _, .fz h r => .fz (h.mono e) (r.mono e)
  | _, _, .sl h r => .sl h (r.mono e)
theorem RepsR.length {K : PySem.W.Frag} {F : Hp} {σ : L2.St} : ∀ {vs : List V} {r : List Arg}, RepsR K F σ vs r → vs.length = r.length
  | _, _, .nil => rfl
  | _, _, .fz h r => by rw [List.length_cons, List.length_cons, r.length]
  | _, _, .sl h r => by rw [List.length_cons, List.length_cons, r.length]
noncomputable def TrR (K : PySem.W.Frag) (pv : List V) (W : WX) (ta : TA) (m : SD → ER (List Arg)) : Prop := ∀ G F sd σ H Q, StR K pv G F sd σ H → Meets K pv W G σ (fun _ F _ _ σ vs r => RepsR K F σ vs r) false sd F H (m sd) Q (ta σ H Q)
structure DR (X : Cx) (pv : List V) (W : WX) (es : List Expr) (m : SD → ER (List Arg)) : Prop where
  ex : ∃ ta, PA X es ta ∧ TrR X.K pv W ta m
noncomputable def rNil : SD → ER (List Arg) := fun sd => .ok [] sd
noncomputable def rSlot (i : Nat) (r : SD → ER (List Arg)) : SD → ER (List Arg) := fun sd => match sd.tree i with
  | some _ => (r sd).bind fun xs sd2 => .ok (.sl i :: xs) sd2
  | none => .bad
noncomputable def rFz (a : SD → ER D) (r : SD → ER (List Arg)) : SD → ER (List Arg) := fun sd => (a sd).bind fun d sd1 => (r sd1).bind fun xs sd2 => .ok (.fz d :: xs) sd2
theorem Meets.weak {α β : Type} {K : PySem.W.Frag} {G F H : Hp} {σ : L2.St} {RS : RSt β α} {sd : SD} {r : ER α} {Q : β → Hp → Prop} {P : Prop} (h : Meets K pv W G σ RS p sd F H r Q P) : Meets K pv W G σ RS false sd F H r Q P := by
  cases r with
  | bad => exact True.intro
  | rz x sd' => exact h
  | ok a sd' => exact fun z => h fun v F' H' s1 s2 s3 _ => z v F' H' s1 s2 s3 fun w => by cases w
theorem dr_nil : DR X pv W [] rNil := ⟨_, pa_nil, fun G F sd σ H Q s => (Meets.here (p := true) s .nil id).weak⟩
theorem dr_slot {i : Nat} {x : Str} {pp : Pos} {mr : SD → ER (List Arg)} (hx : PE X (.Name x pp) (tVar i)) (hr : DR X pv W es mr) (hs : starEach (.Name x pp :: es) X.env = (false, eval (.Name x pp) X.env) :: starEach es X.env := by rfl) : DR X pv W (.Name x pp :: es) (rSlot i mr) := by
  obtain ⟨tr, b1, b2⟩ := hr
  refine ⟨_, pa_cons hx b1 hs, fun G F sd σ H Q s => ?_⟩
  unfold rSlot
  split
  · rename_i t e
    obtain ⟨v, P, h1, h2⟩ := s.tree e
    refine Meets.to (P := tr σ H fun xs H2 => Q (v :: xs) H2) ?_ fun z => ⟨v, h1, z⟩
    refine (Meets.bindL (b2 G F sd σ H (fun xs H2 => Q (v :: xs) H2) s) fun xs F1 H1 rs sd1 s1 s2 s3 s4 => ?_)
    exact Meets.here s2 (.sl h1 s3) id
  · exact True.intro
theorem dr_fz {ma : SD → ER D} {mr : SD → ER (List Arg)} (ha : DX X pv W p true e ma) (hr : DR X pv W es mr) (hs : starEach (e :: es) X.env = (false, eval e X.env) :: starEach es X.env := by rfl) : DR X pv W (e :: es) (rFz ma mr) := by
  obtain ⟨te, a1, a2⟩ := ha
  obtain ⟨tr, b1, b2⟩ := hr
  refine ⟨_, pa_cons a1 b1 hs, fun G F sd σ H Q s => ?_⟩
  refine Meets.weak (p := p && false) (Meets.bind (a2 G F sd σ H _ s) fun x F1 H1 dx sd1 s1 s2 s3 s4 => ?_)
  refine (Meets.bindL (b2 G F1 sd1 σ H1 _ s2) fun xs F2 H2 rs sd2 t1 t2 t3 t4 => ?_)
  exact Meets.here t2 (.fz (Rep.mono t1 (show Rep X.K F1 x dx from s3)) t3) id
end
noncomputable def treesOf (sd : SD) : List Arg → Option (List OT)
  | [] => some []
  | .fz d :: r => (treesOf sd r).map (.fz d :: ·)
  | .sl i :: r => (sd.tree i).bind fun t => (treesOf sd r).map (t :: ·)
noncomputable def noSlot : List Arg → Bool
  | [] => true
  | .fz _ :: r => noSlot r
  | .sl _ :: _ => false
noncomputable def oneSlot : List Arg → Option (Nat × Nat)
  | [] => none
  | .fz _ :: r => (oneSlot r).map fun p => (p.1 + 1, p.2)
  | .sl i :: r => if noSlot r = true then some (0, i) else none
section
variable {K : PySem.W.Frag} {pv : List V} {G F H : Hp} {sd : SD} {σ : L2.St}
theorem args_no {F : Hp} : ∀ {vs : List V} {r : List Arg} {ts : List OT}, RepsR K F σ vs r → treesOf sd r = some ts → noSlot r = true → vs.length = ts.length ∧ ∀ (k : Nat) (t : OT), ts[k]? = some t → ∃ v d, vs[k]? = some v ∧ t = .fz d ∧ Rep K F v d
  | _, _, ts, .nil, h, _ => by
    unfold treesOf at h
    cases h
    exact ⟨rfl, fun k t e => by simp at e⟩
  | _, _, ts, .fz (r := r) h1 h2, h, hn => by
    unfold treesOf at h
    cases e : treesOf sd r with
    | none => rw [e] at h; cases h
    | some us =>
      rw [e] at h; cases h
      obtain ⟨l1, l2⟩ := args_no h2 e hn
      refine ⟨by rw [List.length_cons, List.length_cons, l1], fun k t et => ?_⟩
      cases k with
      | zero => simp at et; subst et; exact ⟨_, _, rfl, rfl, h1⟩
      | succ k =>
        obtain ⟨v, d, q1, q2, q3⟩ := l2 k t (by simpa using et)
        exact ⟨v, d, by simpa using q1, q2, q3⟩
  | _, _, ts, .sl h1 h2, h, hn => by cases hn
theorem args_one {F : Hp} : ∀ {vs : List V} {r : List Arg} {ts : List OT} {m i : Nat}, RepsR K F σ vs r → treesOf sd r = some ts → oneSlot r = some (m, i) → vs.length = ts.length ∧ (∃ t, ts[m]? = some t ∧ sd.tree i = some t) ∧ (∃ v, vs[m]? = some v ∧ σ[i]? = some (some v)) ∧
    ∀ (k : Nat) (t : OT), ts[k]? = some t → k ≠ m → ∃ v d, vs[k]? = some v ∧ t = .fz d ∧ Rep K F v d
  | _, _, ts, m, i, .nil, h, ho => by cases ho
  | _, _, ts, m, i, .fz (r := r) h1 h2, h, ho => by
    unfold treesOf at h
    unfold oneSlot at ho
    cases e : treesOf sd r with
    | none => rw [e] at h; cases h
    | some us =>
      rw [e] at h; cases h
      cases e2 : oneSlot r with
      | none => rw [e2] at ho; cases ho
      | some p =>
        rw [e2] at ho; cases ho
        obtain ⟨m', i'⟩ := p
        obtain ⟨l1, ⟨t, l2, l3⟩, ⟨v, l4, l5⟩, l6⟩ := args_one h2 e e2
        refine ⟨by rw [List.length_cons, List.length_cons, l1], ⟨t, by simpa using l2, l3⟩, ⟨v, by simpa using l4, l5⟩, fun k t et hk => ?_⟩
        cases k with
        | zero => simp at et; subst et; exact ⟨_, _, rfl, rfl, h1⟩
        | succ k =>
          obtain ⟨v, d, q1, q2, q3⟩ := l6 k t (by simpa using et) (fun z => hk (by show k + 1 = m' + 1; rw [z]))
          exact ⟨v, d, by simpa using q1, q2, q3⟩
  | _, _, ts, m, i, .sl (r := r) h1 h2, h, ho => by
    unfold treesOf at h
    unfold oneSlot at ho
    split at ho
    · rename_i hn
      cases ho
      cases e0 : sd.tree i with
      | none => rw [e0] at h; cases h
      | some t =>
        rw [e0] at h
        have h : (treesOf sd r).map (t :: ·) = some ts := h
        cases e : treesOf sd r with
        | none => rw [e] at h; cases h
        | some us =>
          rw [e] at h; cases h
          obtain ⟨l1, l2⟩ := args_no h2 e hn
          refine ⟨by rw [List.length_cons, List.length_cons, l1], ⟨t, rfl, rfl⟩, ⟨_, rfl, h1⟩, fun k t et hk => ?_⟩
          cases k with
          | zero => exact absurd rfl hk
          | succ k =>
            obtain ⟨v, d, q1, q2, q3⟩ := l2 k t (by simpa using et)
            exact ⟨v, d, by simpa using q1, q2, q3⟩
    · cases ho
/-- one tree is handed over -/
theorem StR.give1 {ts : List OT} {vs : List V} {m i : Nat} {t : OT} {v : V} (s : StR K pv G F sd σ H) (hl : vs.length = ts.length) (hm : ts[m]? = some t) (ht : sd.tree i = some t) (hv : vs[m]? = some v) (hs : σ[i]? = some (some v))
    (hr : ∀ (k : Nat) (t : OT), ts[k]? = some t → k ≠ m → ∃ v d, vs[k]? = some v ∧ t = .fz d ∧ Rep K F v d) :
    ∃ G', StR K vs G' F ⟨[], ts⟩ [] H ∧ (∀ (F' H' : Hp) (w : V) (u t' : OT) (sd1 : SD), Same F F' → StR1 K vs G' F' sd1 [] H' w u → sd1.pa[m]? = some t' → StR1 K pv G F' (sd.put i t') σ H' w u) ∧
      (∀ (F' H' : Hp) (t' : OT) (sd1 : SD), Same F F' → StR K vs G' F' sd1 [] H' → sd1.pa[m]? = some t' → StR K pv G F' (sd.put i t') σ H') := by
  classical
  obtain ⟨o, W⟩ := s
  obtain ⟨src, v0, h1, h2, h3⟩ := W.put ht
  rw [hs] at h1; cases h1
  let G' : Hp := fun a => if F a = none ∧ ¬ o src a then H a else none
  have g0 : ∀ a, F a = none → ¬ o src a → G' a = H a := fun a x y => if_pos ⟨x, y⟩
  have gn : ∀ a, G' a = none → F a ≠ none ∨ o src a ∨ H a = none := fun a z => by
    by_cases f : F a = none
    · by_cases q : o src a
      · exact .inr (.inl q)
      · rw [g0 a f q] at z; exact .inr (.inr z)
    · exact .inl f
  have back : ∀ (F' H' : Hp) (o' : Nat ⊕ Nat → Addr → Prop) (sd1 : SD) (t' : OT), Same F F' → Own K vs G' F' sd1 [] H' o' → sd1.pa[m]? = some t' → Own K pv G F' (sd.put i t') σ H' (fun x a => if x = src then o' (.inr m) a else o x a) ∧ ∀ x a, x ≠ src → o x a → G' a ≠ none := fun F' H' o' sd1 t' f W' et => by
    have ne : ∀ x a, x ≠ src → o x a → G' a = H a ∧ H a ≠ none := fun x a n q => by
      obtain ⟨k1, k2, k3⟩ := W.oh x a q
      exact ⟨g0 a k2 fun z => n (W.oo _ _ a q z), k1⟩
    have keep : ∀ x a, x ≠ src → o x a → H' a = H a := fun x a n q => by
      obtain ⟨k1, k2⟩ := ne x a n q
      cases e : H a with
      | none => exact absurd e k2
      | some u => exact W'.gh a u (by rw [k1]; exact e)
    have gG : ∀ a, G' a = none → F' a = none → G a = none := fun a z fa => by
      rcases gn a z with q | q | q
      · exact absurd (f.free fa) q
      · exact (W.oh _ a q).2.2
      · exact W.gh.free q
    refine ⟨?_, fun x a n q => by obtain ⟨k1, k2⟩ := ne x a n q; rw [k1]; exact k2⟩
    obtain ⟨v1, q1, q2⟩ := W'.pr m t' et
    rw [hv] at q1; cases q1
    refine h3 F' H' _ t' f W'.fh (fun a u e => ?_) (fun a ha => ?_) (fun x a q => ?_) (fun x y a q q' => ?_) (fun x n a q => ⟨by rw [if_neg n]; exact q, keep x a n q⟩) ?_
    · have hu := W.gh a u e
      have fa : F a = none := by
        cases e2 : F a with
        | none => rfl
        | some u2 => have := W.fg a (by rw [e2]; simp); rw [e] at this; cases this
      exact W'.gh a u (by rw [g0 a fa fun z => by rw [(W.oh _ a z).2.2] at e; cases e]; exact hu)
    · cases e : G a with
      | none => rfl
      | some u =>
        have hu := W.gh a u e
        have fa : F a = none := by
          cases e2 : F a with
          | none => rfl
          | some u2 => have := W.fg a (by rw [e2]; simp); rw [e] at this; cases this
        have := W'.fg a ha
        rw [g0 a fa (fun z => by rw [(W.oh _ a z).2.2] at e; cases e), hu] at this
        cases this
    · by_cases z : x = src
      · rw [if_pos z] at q
        obtain ⟨k1, k2, k3⟩ := W'.oh _ a q
        exact ⟨k1, k2, gG a k3 k2⟩
      · rw [if_neg z] at q
        obtain ⟨k1, k2⟩ := ne x a z q
        refine ⟨by rw [keep x a z q]; exact k2, ?_, (W.oh x a q).2.2⟩
        cases e : F' a with
        | none => rfl
        | some u =>
          have := W'.fg a (by rw [e]; simp)
          rw [k1] at this
          exact absurd this k2
    · by_cases z : x = src
      · rw [if_pos z] at q
        by_cases y' : y = src
        · rw [z, y']
        · rw [if_neg y'] at q'
          obtain ⟨k1, k2⟩ := ne y a y' q'
          exact absurd (W'.oh _ a q).2.2 (by rw [k1]; exact k2)
      · rw [if_neg z] at q
        by_cases y' : y = src
        · rw [if_pos y'] at q'
          obtain ⟨k1, k2⟩ := ne x a z q
          exact absurd (W'.oh _ a q').2.2 (by rw [k1]; exact k2)
        · rw [if_neg y'] at q'
          exact W.oo _ _ a q q'
    · exact q2.mono (Same.refl _) fun x hx => ⟨by show (if src = src then o' (.inr m) x else o src x); rw [if_pos rfl]; exact hx, rfl⟩
  refine ⟨G', ⟨fun x a => x = .inr m ∧ o src a, W.fh, fun a u e => ?_, fun a ha => ?_, fun x a q => ?_, fun x y a q q' => q.1.trans q'.1.symm, rfl, fun i t e => by simp at e, fun i j e => by simp at e, fun j t1 e => ?_⟩, fun F' H' w u t' sd1 f ⟨o', P, W', r, k⟩ et => ?_, fun F' H' t' sd1 f ⟨o', W'⟩ et => ?_⟩
  · have e : (if F a = none ∧ ¬ o src a then H a else none) = some u := e
    split at e
    · exact e
    · cases e
  · exact if_neg fun z => ha z.1
  · obtain ⟨k1, k2, k3⟩ := W.oh _ a q.2
    exact ⟨k1, k2, if_neg fun z => z.2 q.2⟩
  · have e : ts[j]? = some t1 := e
    by_cases z : j = m
    · subst z
      rw [hm] at e; cases e
      exact ⟨_, hv, h2.mono (Same.refl _) fun x hx => ⟨⟨rfl, hx⟩, rfl⟩⟩
    · obtain ⟨v1, d, q1, q2, q3⟩ := hr j t1 e z
      subst q2
      refine ⟨v1, q1, ?_⟩
      unfold RepO
      exact q3
  · obtain ⟨W2, nn⟩ := back F' H' o' sd1 t' f W' et
    refine ⟨_, P, W2, r, fun a z => ?_⟩
    obtain ⟨k1, k2, k3, k4⟩ := k a z
    refine ⟨k1, k2, ?_, fun x q => ?_⟩
    · rcases gn a k3 with q | q | q
      · exact absurd (f.free k2) q
      · exact (W.oh _ a q).2.2
      · exact W.gh.free q
    · by_cases y : x = src
      · rw [if_pos y] at q; exact k4 _ q
      · rw [if_neg y] at q; exact nn x a y q k3
  · obtain ⟨W2, nn⟩ := back F' H' o' sd1 t' f W' et
    exact ⟨_, W2⟩
end
noncomputable def mCall1 (f : List OT → ER OT) (a : SD → ER (List Arg)) : SD → ER OT := fun sd => (a sd).bind fun args sd1 => match oneSlot args, treesOf sd1 args with
  | some (m, i), some ts => match f ts with
    | .ok t sd' => match sd'.pa[m]? with
      | some t' => .ok t (sd1.put i t')
      | none => .bad
    | .rz x sd' => match sd'.pa[m]? with
      | some t' => .rz x (sd1.put i t')
      | none => .bad
    | .bad => .bad
  | _, _ => .bad
section
variable {X : Cx} {pv : List V} {W : WX} {p q k l : Bool} {e a b : Expr} {es : List Expr}
theorem tr_call1 {n : Nat} {f : List OT → ER OT} {ta : TA} {mm : SD → ER (List Arg)} (hn : ∀ sd ds sd1, mm sd = .ok ds sd1 → ds.length = n) (h : TrR X.K pv W ta mm) :
    TrO X.K pv W false (fun σ H Q => ta σ H fun vs H1 => spD X.K n f vs H1 Q (WE W σ)) (mCall1 f mm) := by
  intro G F sd σ H Q s
  have z := h G F sd σ H (fun vs H1 => spD X.K n f vs H1 Q (WE W σ)) s
  unfold mCall1
  have hn := hn sd
  revert z hn
  cases mm sd with
  | bad => exact fun _ _ => True.intro
  | rz x sd1 => exact fun z _ => z
  | ok args sd1 =>
    intro z hn
    have hn := hn args sd1 rfl
    show Meets X.K pv W G σ (RSo X.K pv) false sd F H (match oneSlot args, treesOf sd1 args with
      | some (m, i), some ts => match f ts with
        | .ok t sd' => match sd'.pa[m]? with
          | some t' => .ok t (sd1.put i t')
          | none => .bad
        | .rz x sd' => match sd'.pa[m]? with
          | some t' => .rz x (sd1.put i t')
          | none => .bad
        | .bad => .bad
      | _, _ => .bad) Q _
    cases e1 : oneSlot args with
    | none => exact True.intro
    | some p =>
      obtain ⟨m, i⟩ := p
      cases e2 : treesOf sd1 args with
      | none => exact True.intro
      | some ts =>
        have main : ∀ vs F1 H1, Same F F1 → StR X.K pv G F1 sd1 σ H1 → RepsR X.K F1 σ vs args → vs.length = n ∧ ts.length = n ∧ ∃ G', StR X.K vs G' F1 ⟨[], ts⟩ [] H1 ∧ (∀ (F' H' : Hp) (w : V) (u t' : OT) (sd' : SD), Same F1 F' → StR1 X.K vs G' F' sd' [] H' w u → sd'.pa[m]? = some t' → StR1 X.K pv G F' (sd1.put i t') σ H' w u) ∧
            (∀ (F' H' : Hp) (t' : OT) (sd' : SD), Same F1 F' → StR X.K vs G' F' sd' [] H' → sd'.pa[m]? = some t' → StR X.K pv G F' (sd1.put i t') σ H') := fun vs F1 H1 s1 s2 s3 => by
          obtain ⟨l1, ⟨t, l2, l3⟩, ⟨v, l4, l5⟩, l6⟩ := args_one s3 e2 e1
          have la : vs.length = args.length := s3.length
          exact ⟨by omega, by omega, s2.give1 l1 l2 l3 l4 l5 l6⟩
        show Meets X.K pv W G σ (RSo X.K pv) false sd F H (match f ts with
          | .ok t sd' => match sd'.pa[m]? with
            | some t' => .ok t (sd1.put i t')
            | none => .bad
          | .rz x sd' => match sd'.pa[m]? with
            | some t' => .rz x (sd1.put i t')
            | none => .bad
          | .bad => .bad) Q _
        cases e : f ts with
        | bad => exact True.intro
        | rz x s' =>
          show Meets X.K pv W G σ (RSo X.K pv) false sd F H (match s'.pa[m]? with
            | some t' => .rz x (sd1.put i t')
            | none => .bad) Q _
          cases e3 : s'.pa[m]? with
          | none => exact True.intro
          | some t' =>
            intro hW
            refine z fun vs F1 H1 s1 s2 s3 s4 => ?_
            obtain ⟨a1, a2, G', g1, g2, g3⟩ := main vs F1 H1 s1 s2 s3
            refine ⟨a1, G', F1, ts, a2, g1, ?_⟩
            rw [e]
            exact fun cls dd F2 H2 t1 t2 t3 => hW cls dd F2 H2 (s1.trans t1) (g3 F2 H2 t' s' t1 t2 e3) t3
        | ok t s' =>
          show Meets X.K pv W G σ (RSo X.K pv) false sd F H (match s'.pa[m]? with
            | some t' => .ok t (sd1.put i t')
            | none => .bad) Q _
          cases e3 : s'.pa[m]? with
          | none => exact True.intro
          | some t' =>
            intro hQ
            refine z fun vs F1 H1 s1 s2 s3 s4 => ?_
            obtain ⟨a1, a2, G', g1, g2, g3⟩ := main vs F1 H1 s1 s2 s3
            refine ⟨a1, G', F1, ts, a2, g1, ?_⟩
            rw [e]
            exact fun v F2 H2 t1 t2 => hQ v F2 H2 (s1.trans t1) (g2 F2 H2 v t t' s' t1 t2 e3).drop (g2 F2 H2 v t t' s' t1 t2 e3) fun w => by cases w
theorem lenr_nil : ∀ sd ds sd1, rNil sd = .ok ds sd1 → ds.length = 0 := fun sd ds sd1 h => by cases h; rfl
theorem lenr_fz {ma : SD → ER D} {mr : SD → ER (List Arg)} {n : Nat} (h : ∀ sd ds sd1, mr sd = .ok ds sd1 → ds.length = n) : ∀ sd ds sd1, rFz ma mr sd = .ok ds sd1 → ds.length = n + 1 := fun sd ds sd1 e => by
  unfold rFz at e
  cases e1 : ma sd with
  | bad => rw [e1] at e; cases e
  | rz x s => rw [e1] at e; cases e
  | ok d s =>
    rw [e1] at e
    have e : (mr s).bind (fun xs sd2 => ER.ok (.fz d :: xs) sd2) = .ok ds sd1 := e
    cases e2 : mr s with
    | bad => rw [e2] at e; cases e
    | rz x s2 => rw [e2] at e; cases e
    | ok ys s2 =>
      rw [e2] at e
      cases e
      rw [List.length_cons, h s ys _ e2]
theorem lenr_slot {i : Nat} {mr : SD → ER (List Arg)} {n : Nat} (h : ∀ sd ds sd1, mr sd = .ok ds sd1 → ds.length = n) : ∀ sd ds sd1, rSlot i mr sd = .ok ds sd1 → ds.length = n + 1 := fun sd ds sd1 e => by
  unfold rSlot at e
  split at e
  · cases e2 : mr sd with
    | bad => rw [e2] at e; cases e
    | rz x s2 => rw [e2] at e; cases e
    | ok ys s2 =>
      rw [e2] at e
      cases e
      rw [List.length_cons, h sd ys _ e2]
  · cases e
theorem do_call1 {n j : Nat} {f : Addr} {fd : FuncData} {ps : List Str} {x : Str} {pp pos : Pos} {g : List OT → ER OT} {m : SD → ER (List Arg)} (F : FnG X.prog X.w X.K X.mg X.base (L2.CX X.prog X.w) j f fd ps (spD X.K n g)) (hr : RoomG j X.A) (hg : Gl X x)
    (hm : X.mg x = some (.ref f)) (hk : PySem.W.keepIn X.K (.ref f) = true) (hb : Binds X.K fd ps []) (tk : Takes X W) (ha : DR X pv W (e :: es) m) (hn : ∀ sd ds sd1, m sd = .ok ds sd1 → ds.length = n)
    (hdb : (x == ("__debug__" : Str)) = false := by decide) (he : starEach (e :: es) X.env = (false, eval e X.env) :: starEach es X.env := by rfl) (hpl : (backTo pos (starEach es X.env)).any (·.1) = false := by rfl) :
    DO X pv W false (.Call (.Name x pp) (e :: es) [] pos) (mCall1 g m) := by
  obtain ⟨ta, a1, a2⟩ := ha
  exact ⟨_, pe_callG F hr hg hm hk hb tk a1 hdb he hpl, tr_call1 hn a2⟩
end
end DL
namespace DL
open PySem PySem.Spec L2
noncomputable def mFz (m : SD → ER OT) : SD → ER OT := mOwn (mView m)
theorem tr_fz {K : PySem.W.Frag} {pv : List V} {W : WX} {p : Bool} {te : TE} {m : SD → ER OT} (h : TrO K pv W p te m) : TrO K pv W p te (mFz m) := by
  intro G F sd σ H Q s
  refine Meets.imp (f := fun t => OT.fz t.view) (h G F sd σ H Q s) id ?_ fun v F1 H1 t sd1 _ s1 s2 s3 s4 hQ => ?_
  · unfold mFz mOwn mView
    cases m sd <;> rfl
  · obtain ⟨F2, t1, t2, t3⟩ := StR1.frz s3
    exact hQ v F2 H1 t1 t2 (StR1.fz t2 t3) (Same.refl _)
section
variable {X : Cx} {pv : List V} {W : WX} {p q k l pc pe pi1 pc1 : Bool} {e tg iter tg1 iter1 elt : Expr} {ifs ifs1 : List Expr} {scope : Scope} {pos : Pos}
theorem DO.fz {m : SD → ER OT} (h : DO X pv W p e m) : DO X pv W p e (mFz m) := by
  obtain ⟨te, h1, h2⟩ := h
  exact ⟨te, h1, tr_fz h2⟩
/-- what holds of targets in any context -/
theorem tgN_wip {i : Nat} : ∀ (vs : List Nat), (∀ j ∈ [i], j ∈ vs) → ∀ d sd sd', tgN i d sd = some sd' → SD.wipe sd' vs = SD.wipe sd vs := fun vs h d sd sd' e => by
  unfold tgN SD.putFz at e
  split at e
  · cases e
    show SD.mk (wipeS (sd.sl.set i _) vs) sd.pa = SD.mk (wipeS sd.sl vs) sd.pa
    rw [wipeS_set (h i List.mem_cons_self)]
  · cases e
noncomputable abbrev Wip (is : List Nat) (g : D → SD → Option SD) : Prop := ∀ (vs : List Nat), (∀ j ∈ is, j ∈ vs) → ∀ d sd sd', g d sd = some sd' → SD.wipe sd' vs = SD.wipe sd vs
noncomputable abbrev Wips (is : List Nat) (g : List D → SD → Option SD) : Prop := ∀ (vs : List Nat), (∀ j ∈ is, j ∈ vs) → ∀ d sd sd', g d sd = some sd' → SD.wipe sd' vs = SD.wipe sd vs
theorem wip_name {i : Nat} : Wip [i] (tgN i) := tgN_wip
theorem wip_nil : Wips [] tgNil := fun vs h d sd sd' e => by
  unfold tgNil at e
  cases d with
  | nil => cases e; rfl
  | cons _ _ => cases e
theorem wip_cons {is js : List Nat} {g : D → SD → Option SD} {h : List D → SD → Option SD} (a : Wip is g) (b : Wips js h) : Wips (is ++ js) (tgCons g h) := fun vs hv d sd sd' e => by
  cases d with
  | nil => cases e
  | cons d ds =>
    obtain ⟨sd1, e1, e2⟩ := Option.bind_eq_some_iff.mp e
    rw [b vs (fun i hi => hv i (List.mem_append_right _ hi)) _ _ _ e2, a vs (fun i hi => hv i (List.mem_append_left _ hi)) _ _ _ e1]
theorem wip_tup {is : List Nat} {n : Nat} {h : List D → SD → Option SD} (a : Wips is h) : Wip is (tgT n h) := fun vs hv d sd sd' e => by
  unfold tgT at e
  cases d with
  | tup ds =>
    have e : (if ds.length = n then h ds sd else none) = some sd' := e
    split at e
    · exact a vs hv _ _ _ e
    · cases e
  | ktu ds =>
    have e : (if ds.length = n then h ds sd else none) = some sd' := e
    split at e
    · exact a vs hv _ _ _ e
    · cases e
  | _ => cases e
end
/-- a def at its name -/
structure Fd (K : PySem.W.Frag) (mg : Str → Option Value) (x : Str) (st : Stmt) (f : Addr) (fd : FuncData) (ps : List Str) : Prop where
  F : Fun K x x st f fd
  g : mg x = some (.ref f)
  b : Binds K fd ps []
theorem bo_all : bootBuiltins "all" = some (.builtin "all") := by decide +kernel
theorem bo_isinstance : bootBuiltins "isinstance" = some (.builtin "isinstance") := by decide +kernel
theorem bo_len : bootBuiltins "len" = some (.builtin "len") := by decide +kernel
theorem bo_max : bootBuiltins "max" = some (.builtin "max") := by decide +kernel
theorem bo_repr : bootBuiltins "repr" = some (.builtin "repr") := by decide +kernel
theorem bo_int : bootBuiltins "int" = some (.type "int") := by decide +kernel
theorem bo_list : bootBuiltins "list" = some (.type "list") := by decide +kernel
theorem bo_str : bootBuiltins "str" = some (.type "str") := by decide +kernel
theorem bo_tuple : bootBuiltins "tuple" = some (.type "tuple") := by decide +kernel
theorem bo_ValueError : bootBuiltins "ValueError" = some (.type "ValueError") := by decide +kernel
end DL
namespace DL
open PySem PySem.Spec L2
theorem law_sp {K : PySem.W.Frag} {H : Hp} {a : Addr} {ns : List Int} {m : List OT → ER OT} (hS : SqL K H a (ns.map V.int)) (h : ∃ sd, m [.fz (.scr ns)] = .ok (.fz (.bl true)) sd) : spD K 1 m [.ref a] H (fun v _ => v = .bl true) fun _ _ _ => False := by
  obtain ⟨sd, h⟩ := h
  have st : StR K [.ref a] (fun _ => none) H ⟨[], [.fz (.scr ns)]⟩ [] H := by
    refine ⟨fun _ _ => False, Same.refl _, fun b u e => ?_, fun _ _ => rfl, fun i b q => False.elim q, fun i j b q => False.elim q, rfl, fun i t e => ?_, fun i j e => ?_, fun j t e => ?_⟩
    · exact nomatch (show (none : Option HO) = some u from e)
    · have e : ([] : List S)[i]? = some (.ow t) := e
      simp at e
    · have e : ([] : List S)[i]? = some (.pa j) := e
      simp at e
    · have e : [OT.fz (.scr ns)][j]? = some t := e
      cases j with
      | zero =>
        have e : some (OT.fz (.scr ns)) = some t := e
        cases e
        refine ⟨_, rfl, ?_⟩
        unfold RepO
        exact .scr hS
      | succ j => simp at e
  refine ⟨rfl, fun _ => none, H, [.fz (.scr ns)], rfl, st, ?_⟩
  rw [h]
  intro v F' H' _ s
  obtain ⟨o, P, W, r, _⟩ := s
  unfold RepO at r
  cases r
  rfl
end DL
namespace DL
open PySem PySem.Spec L2
theorem goComp_of {α : Type} {g : D → SD → Option SD} {c : SD → ER Bool} {elt : SD → ER D} {vs : List Nat} {w : SD} (e : α → D) (b : α → Bool) (f : α → D) : ∀ (xs : List α) (acc : List D) (sd : SD), sd.wipe vs = w → acc.length + xs.length ≤ 16777216 →
    (∀ x ∈ xs, ∃ sda, g (e x) w = some sda ∧ sda.wipe vs = w ∧ c sda = .ok (b x) sda ∧ (b x = true → elt sda = .ok (f x) sda)) →
    ∃ sd', goComp g c elt vs (xs.map e) acc sd = .ok (acc ++ (xs.filter b).map f) sd' ∧ sd'.wipe vs = w
  | [], acc, sd, hw, _, _ => ⟨sd, by rw [List.map_nil, goComp]; simp, hw⟩
  | x :: xs, acc, sd, hw, hl, h => by
    obtain ⟨sda, h1, h2, h3, h4⟩ := h x List.mem_cons_self
    rw [List.map_cons, goComp, hw, h1]
    dsimp only
    rw [h3]
    have hl' : acc.length + (xs.length + 1) ≤ 16777216 := hl
    cases hb : b x with
    | false =>
      obtain ⟨sd', q1, q2⟩ := goComp_of e b f xs acc sda h2 (by omega) fun y hy => h y (List.mem_cons_of_mem _ hy)
      refine ⟨sd', ?_, q2⟩
      simp only [ER.calm, ER.bind, Bool.false_eq_true, if_false]
      rw [q1, List.filter_cons, hb]
      rfl
    | true =>
      obtain ⟨sd', q1, q2⟩ := goComp_of e b f xs (acc ++ [f x]) sda h2 (by rw [List.length_append]; show acc.length + 1 + xs.length ≤ _; omega) fun y hy => h y (List.mem_cons_of_mem _ hy)
      refine ⟨sd', ?_, q2⟩
      simp only [ER.calm, ER.bind, if_true, h4 hb]
      rw [if_pos (by omega), q1, List.filter_cons, hb, if_pos rfl, List.map_cons, List.append_assoc]
      rfl
theorem mComp_of {α : Type} {mi : SD → ER (List D)} {g : D → SD → Option SD} {c : SD → ER Bool} {elt : SD → ER D} {vs : List Nat} {sd sd1 : SD} (xs : List α) (e : α → D) (b : α → Bool) (f : α → D) (hi : mi sd = .ok (xs.map e) sd1) (hl : xs.length ≤ 16777216)
    (h : ∀ x ∈ xs, ∃ sda, g (e x) (sd1.wipe vs) = some sda ∧ sda.wipe vs = sd1.wipe vs ∧ c sda = .ok (b x) sda ∧ (b x = true → elt sda = .ok (f x) sda)) :
    mComp mi g c elt vs sd = .ok (.ol (((xs.filter b).map f).map .fz)) sd1 := by
  obtain ⟨sd', q1, q2⟩ := goComp_of e b f xs [] sd1 rfl (by simpa using hl) h
  unfold mComp
  rw [hi]
  show (goComp g c elt vs (xs.map e) [] sd1).bind _ = _
  rw [q1]
  show ER.ok (OT.ol (([] ++ (xs.filter b).map f).map .fz)) (sd'.back sd1 vs) = _
  rw [back_self q2, List.nil_append]
/-- no test -/
theorem mComp_map {α : Type} {mi : SD → ER (List D)} {g : D → SD → Option SD} {elt : SD → ER D} {vs : List Nat} {sd sd1 : SD} (xs : List α) (e : α → D) (f : α → D) (hi : mi sd = .ok (xs.map e) sd1) (hl : xs.length ≤ 16777216)
    (h : ∀ x ∈ xs, ∃ sda, g (e x) (sd1.wipe vs) = some sda ∧ sda.wipe vs = sd1.wipe vs ∧ elt sda = .ok (f x) sda) :
    mComp mi g mYes elt vs sd = .ok (.ol ((xs.map f).map .fz)) sd1 := by
  have z := mComp_of (mi := mi) (c := mYes) xs e (fun _ => true) f hi hl fun x hx => by
    obtain ⟨sda, h1, h2, h3⟩ := h x hx
    exact ⟨sda, h1, h2, rfl, fun _ => h3⟩
  rw [List.filter_eq_self.mpr fun _ _ => rfl] at z
  exact z
/-- a loop by an invariant over what is still to come -/
theorem goFor_inv {α : Type} {g : D → SD → Option SD} {body : SD → Fl} (e : α → D) (I : List α → SD → Prop) (h : ∀ x r sd, I (x :: r) sd → ∃ sda sdb, g (e x) sd = some sda ∧ (body sda = .nx sdb ∨ body sda = .ct sdb) ∧ I r sdb) : ∀ (xs : List α) (sd : SD), I xs sd → ∃ sd', goFor g body (xs.map e) sd = .nx sd' ∧ I [] sd'
  | [], sd, hi => ⟨sd, by rw [List.map_nil, goFor], hi⟩
  | x :: xs, sd, hi => by
    obtain ⟨sda, sdb, h1, h2, h3⟩ := h x xs sd hi
    obtain ⟨sd', q1, q2⟩ := goFor_inv e I h xs sdb h3
    refine ⟨sd', ?_, q2⟩
    rw [List.map_cons, goFor, h1]
    dsimp only
    rcases h2 with h2 | h2 <;> rw [h2] <;> exact q1
theorem sFor_inv {α : Type} {it : SD → ER (List D)} {g : D → SD → Option SD} {body : SD → Fl} {sd sd1 : SD} (xs : List α) (e : α → D) (I : List α → SD → Prop) (hi : it sd = .ok (xs.map e) sd1) (h0 : I xs sd1) (h : ∀ x r sd, I (x :: r) sd → ∃ sda sdb, g (e x) sd = some sda ∧ (body sda = .nx sdb ∨ body sda = .ct sdb) ∧ I r sdb) :
    ∃ sd', sFor it g body sd = .nx sd' ∧ I [] sd' := by
  unfold sFor
  rw [hi]
  exact goFor_inv e I h xs sd1 h0
theorem seq_nx {a b : SD → Fl} {sd sd1 : SD} {r : Fl} (h : a sd = .nx sd1) (h2 : b sd1 = r) : sSeq a b sd = r := by
  unfold sSeq
  rw [h]
  exact h2
/-- slices -/
theorem cut_from1 {α : Type} (xs : List α) : cutL xs (some 1) none = xs.drop 1 := by
  unfold cutL
  rw [show HT.sIx xs.length 0 (some 1) = min 1 xs.length from HT.sIx_nat _ _ 1, show HT.sIx xs.length xs.length none = xs.length from rfl]
  cases xs with
  | nil => rfl
  | cons a r => simp
theorem cut_to1 {α : Type} (xs : List α) : cutL xs none (some 1) = xs.take 1 := by
  unfold cutL
  rw [show HT.sIx xs.length xs.length (some 1) = min 1 xs.length from HT.sIx_nat _ _ 1, show HT.sIx xs.length 0 none = 0 from rfl]
  cases xs with
  | nil => rfl
  | cons a r => simp
end DL
namespace DL
open PySem PySem.Spec L2
noncomputable def callFz (f : List OT → ER OT) (ds : List D) (sd : SD) : ER OT := match f (ds.map .fz) with
  | .ok t _ => .ok t sd
  | .rz x _ => .rz x sd
  | .bad => .bad
section
variable {K : PySem.W.Frag} {pv : List V} {W : WX} {G F H : Hp} {σ : L2.St} {sd : SD}
/-- a tree that no name reaches is handed over as the first parameter -/
theorem StR1.giveX {v : V} {t : OT} {vs : List V} {ds : List D} (s : StR1 K pv G F sd σ H v t) (hr : Reps K F vs ds) :
    ∃ G', StR K (v :: vs) G' F ⟨[], t :: ds.map .fz⟩ [] H ∧ (∀ (F' H' : Hp) (t' : OT) (sd1 : SD), Same F F' → StR K (v :: vs) G' F' sd1 [] H' → sd1.pa[0]? = some t' → StR1 K pv G F' sd σ H' v t') := by
  classical
  obtain ⟨o, P, W, r, k⟩ := s
  let G' : Hp := fun a => if F a = none ∧ ¬ P a then H a else none
  have g0 : ∀ a, F a = none → ¬ P a → G' a = H a := fun a x y => if_pos ⟨x, y⟩
  have gn : ∀ a, G' a = none → F a ≠ none ∨ P a ∨ H a = none := fun a z => by
    by_cases f : F a = none
    · by_cases q : P a
      · exact .inr (.inl q)
      · rw [g0 a f q] at z; exact .inr (.inr z)
    · exact .inl f
  refine ⟨G', ⟨fun x a => x = .inr 0 ∧ P a, W.fh, fun a u e => ?_, fun a ha => ?_, fun x a q => ?_, fun x y a q q' => q.1.trans q'.1.symm, rfl, fun i t e => ?_, fun i j e => ?_, fun j t1 e => ?_⟩, fun F' H' t' sd1 f ⟨o', W'⟩ et => ?_⟩
  · have e : (if F a = none ∧ ¬ P a then H a else none) = some u := e
    split at e
    · exact e
    · cases e
  · exact if_neg fun z => ha z.1
  · obtain ⟨k1, k2, k3, k4⟩ := k a q.2
    exact ⟨k1, k2, if_neg fun z => z.2 q.2⟩
  · have e : ([] : List S)[i]? = some (.ow t) := e
    simp at e
  · have e : ([] : List S)[i]? = some (.pa j) := e
    simp at e
  · have e : (t :: ds.map OT.fz)[j]? = some t1 := e
    cases j with
    | zero =>
      cases e
      exact ⟨v, rfl, r.mono (Same.refl _) fun x hx => ⟨⟨rfl, hx⟩, rfl⟩⟩
    | succ j =>
      have e : (ds.map OT.fz)[j]? = some t1 := e
      rw [List.getElem?_map] at e
      obtain ⟨d, e1, e2⟩ := Option.map_eq_some_iff.mp e
      subst e2
      obtain ⟨w, h1, h2⟩ := hr.get e1
      refine ⟨w, h1, ?_⟩
      unfold RepO
      exact h2
  · have ne : ∀ x a, o x a → G' a = H a ∧ H a ≠ none := fun x a q => by
      obtain ⟨k1, k2, k3⟩ := W.oh x a q
      exact ⟨g0 a k2 fun z => (k a z).2.2.2 x q, k1⟩
    have keep : ∀ x a, o x a → H' a = H a := fun x a q => by
      obtain ⟨k1, k2⟩ := ne x a q
      cases e : H a with
      | none => exact absurd e k2
      | some u => exact W'.gh a u (by rw [k1]; exact e)
    have gG : ∀ a, G' a = none → F' a = none → G a = none := fun a z fa => by
      rcases gn a z with q | q | q
      · exact absurd (f.free fa) q
      · exact (k a q).2.2.1
      · exact W.gh.free q
    obtain ⟨v1, q1, q2⟩ := W'.pr 0 t' et
    cases q1
    have fa : ∀ a u, G a = some u → F a = none := fun a u e => by
      cases e2 : F a with
      | none => rfl
      | some u2 => have := W.fg a (by rw [e2]; simp); rw [e] at this; cases this
    have np : ∀ a u, G a = some u → ¬ P a := fun a u e z => by rw [(k a z).2.2.1] at e; cases e
    refine ⟨o, o' (.inr 0), ⟨W'.fh, fun a u e => W'.gh a u (by rw [g0 a (fa a u e) (np a u e)]; exact W.gh a u e), fun a ha => ?_, fun x a q => ?_, W.oo, W.len, fun i t e => ?_, W.sp, fun j t e => ?_⟩, q2, fun a q => ?_⟩
    · cases e : G a with
      | none => rfl
      | some u =>
        have := W'.fg a ha
        rw [g0 a (fa a u e) (np a u e), W.gh a u e] at this
        cases this
    · obtain ⟨k1, k2⟩ := ne x a q
      refine ⟨by rw [keep x a q]; exact k2, ?_, (W.oh x a q).2.2⟩
      cases e : F' a with
      | none => rfl
      | some u =>
        have := W'.fg a (by rw [e]; simp)
        rw [k1] at this
        exact absurd this k2
    · obtain ⟨w, h1, h2⟩ := W.sl i t e
      exact ⟨w, h1, h2.mono f fun x hx => ⟨hx, keep _ x hx⟩⟩
    · obtain ⟨w, h1, h2⟩ := W.pr j t e
      exact ⟨w, h1, h2.mono f fun x hx => ⟨hx, keep _ x hx⟩⟩
    · obtain ⟨k1, k2, k3⟩ := W'.oh _ a q
      exact ⟨k1, k2, gG a k3 k2, fun x q' => by
        obtain ⟨m1, m2⟩ := ne x a q'
        rw [m1] at k3
        exact m2 k3⟩
/-- a new instance without attributes -/
theorem StR.newI {x dx C : Addr} (s : StR K pv G F sd σ H) (hx : H x = none) (hdx : H dx = none) (hne : dx ≠ x) : StR1 K pv G F sd σ (upd (upd H dx (.own x)) x (.ins C dx [])) (.ref x) (.oi C [] []) := by
  obtain ⟨o, W⟩ := s
  have n := W.fresh hx
  have nd := W.fresh hdx
  have sm : Same H (upd (upd H dx (.own x)) x (.ins C dx [])) := fun a u e => by
    rw [upd_ne (ne_of_none e hx), upd_ne (ne_of_none e hdx)]; exact e
  refine ⟨o, fun a => a = x, W.grow sm (Same.refl _) (W.fh.trans sm) fun a ha => .inl ha, ?_, fun a ha => ?_⟩
  · unfold RepO
    refine ⟨x, dx, [], rfl, rfl, upd_same, rfl, ?_⟩
    unfold RepOs
    rfl
  · subst ha
    exact ⟨by rw [upd_same]; simp, n.1, n.2.1, n.2.2⟩
end
theorem Meets.bindW {α β γ δ : Type} {K : PySem.W.Frag} {pv : List V} {W : WX} {G F H : Hp} {σ : L2.St} {sd : SD} {p : Bool} {RS : RSt β α} {RS' : RSt δ γ} {r : ER α} {f : α → SD → ER γ} {Q : δ → Hp → Prop} {k : β → Hp → Prop} {P : Prop} (h : Meets K pv W G σ RS p sd F H r k P)
    (g : ∀ v F1 H1 a sd1, r = .ok a sd1 → Same F F1 → StR K pv G F1 sd1 σ H1 → RS G F1 sd1 H1 σ v a → Meets K pv W G σ RS' false sd1 F1 H1 (f a sd1) Q (k v H1)) :
    Meets K pv W G σ RS' false sd F H (r.bind f) Q P := by
  cases r with
  | bad => exact True.intro
  | rz x sd' => exact h
  | ok a sd1 =>
    show Meets K pv W G σ RS' false sd F H (f a sd1) Q P
    have h' : (∀ v F' H', Same F F' → StR K pv G F' sd1 σ H' → RS G F' sd1 H' σ v a → (p = true → Same H H' ∧ sd1 = sd) → k v H') → P := h
    have g' := fun v F1 H1 s1 s2 s3 => g v F1 H1 a sd1 rfl s1 s2 s3
    revert g'
    cases f a sd1 with
    | bad => exact fun _ => True.intro
    | rz x sd2 => exact fun g' hW => h' fun v F1 H1 s1 s2 s3 s4 => g' v F1 H1 s1 s2 s3 fun cls dd F2 H2 t1 t2 t3 => hW cls dd F2 H2 (s1.trans t1) t2 t3
    | ok c sd2 => exact fun g' hQ => h' fun v F1 H1 s1 s2 s3 s4 => g' v F1 H1 s1 s2 s3 fun w F2 H2 t1 t2 t3 t4 => hQ w F2 H2 (s1.trans t1) t2 t3 fun z => by cases z
noncomputable def mMake (C : Addr) (f : List OT → ER OT) (a : SD → ER (List D)) : SD → ER OT := fun sd => (a sd).bind fun ds sd1 => match f (.oi C [] [] :: ds.map .fz) with
  | .ok (.fz .non) sd' => match sd'.pa[0]? with
    | some t => .ok t sd1
    | none => .bad
  | .rz x sd' => match sd'.pa[0]? with
    | some _ => .rz x sd1
    | none => .bad
  | _ => .bad
section
variable {X : Cx} {pv : List V} {W : WX} {p q k l : Bool} {e a b : Expr} {es : List Expr} {pos : Pos}
theorem run_makeS {C f : Addr} {fd : FuncData} {ps : List Str} {sp : Sp} {E : L2.St → XK} {k : Nat} {pins : List (Addr × Obj)} {σ : L2.St} {H : Hp} {s : Shared} {Q : VK} {us : List Value} {vs : List V} (M : Mk X.K C f) (F : FnG X.prog X.w X.K X.mg X.base (L2.CX X.prog X.w) k f fd ps sp) (hr : RoomG (k + 1) X.A) (hb : Binds X.K fd ps [])
    (hx : PassesAt (L2.CX X.prog X.w) X σ (E σ)) (I : Inv X pins σ H s) (r : Vals vs us)
    (h : ∀ x dx, H x = none → H dx = none → dx ≠ x → sp (.ref x :: vs) (upd (upd H dx (.own x)) x (.ins C dx [])) (fun v H2 => v = .non ∧ Q (.ref x) H2) (E σ)) :
    wpAny (model X.prog X.w) X.A (call (.ref C) us) (EP X pins σ Q) X.xe s := by
  have hq := h (s.heap.objs.size + 1) s.heap.objs.size (I.hok.fresh (Nat.le_succ _)) (I.hok.fresh (Nat.le_refl _)) (Nat.ne_of_lt (Nat.lt_succ_self _))
  have I2 := Inv.made (C := C) I
  have r2 : Vals (V.ref (s.heap.objs.size + 1) :: vs) (Value.ref (s.heap.objs.size + 1) :: us) := .cons rfl r
  have hl : (Value.ref (s.heap.objs.size + 1) :: us).length = ps.length := by
    have e := r2.length
    rw [F.len _ _ _ _ hq] at e
    exact e.symm
  have hb1 := hb _ (Value.ref (s.heap.objs.size + 1) :: us) I2.kIn (by rw [List.append_nil]; exact hl)
  rw [List.append_nil] at hb1
  refine wpAny_call (make_map (f := f) I.kIn M.makes M.init (beq_iff_eq.mp M.fn) (codeAny_mono (F.run _ X.stack _ _ ⟨Value.ref (s.heap.objs.size + 1) :: us, []⟩ (Value.ref (s.heap.objs.size + 1) :: us) _ _ (E σ) (hr.make C us [])
    (I2.env0.make C us []) hb1 r2 hq) fun r s' hq' => ?_))
  cases r with
  | error e => exact hx pins _ _ e s' I2 hq'
  | ok fl =>
    cases fl with
    | ret u =>
      obtain ⟨v, H', I3, rv, ev, q3⟩ := I2.after hq'
      subst ev
      exact ⟨rv, ⟨V.ref (s.heap.objs.size + 1), H', I3, rfl, q3⟩⟩
    | next => exact False.elim hq'
    | brk => exact False.elim hq'
    | cont => exact False.elim hq'
theorem do_make {C f : Addr} {fd : FuncData} {ps : List Str} {x : Str} {pp : Pos} {n j : Nat} {g : List OT → ER OT} {m : SD → ER (List D)} (M : Mk X.K C f) (F : FnG X.prog X.w X.K X.mg X.base (L2.CX X.prog X.w) j f fd ps (spD X.K (n + 1) g)) (hr : RoomG (j + 1) X.A) (hg : Gl X x)
    (hm : X.mg x = some (.ref C)) (hb : Binds X.K fd ps []) (tk : Takes X W) (ha : DA X pv W p true (e :: es) m) (hn : ∀ sd ds sd1, m sd = .ok ds sd1 → ds.length = n)
    (hdb : (x == ("__debug__" : Str)) = false := by decide) (he : starEach (e :: es) X.env = (false, eval e X.env) :: starEach es X.env := by rfl) (hpl : (backTo pos (starEach es X.env)).any (·.1) = false := by rfl) :
    DO X pv W false (.Call (.Name x pp) (e :: es) [] pos) (mMake C g m) := by
  obtain ⟨ta, a1, a2⟩ := ha
  refine ⟨fun σ H Q => ta σ H fun vs H1 => ∀ x dx, H1 x = none → H1 dx = none → dx ≠ x → spD X.K (n + 1) g (.ref x :: vs) (upd (upd H1 dx (.own x)) x (.ins C dx [])) (fun v H2 => v = .non ∧ Q (.ref x) H2) (WE W σ), ⟨fun pins s σ H Q I h => ?_⟩, fun G Fz sd σ H Q s => ?_⟩
  · refine wpAny_Call_Name_kw (ld_glob I hg hm ?_ hdb)
    refine PySem.W.callWith_K (h₀ := X.base) I.ok.mod.kin M.kp (thn (a1.run pos pins s σ H _ I h) fun us s1 ⟨vs, H1, I1, r, q⟩ => ⟨I1.kIn, ?_⟩) he hpl
    exact run_makeS (E := WE W) M F hr hb (passAt tk σ) I1 r q
  · refine Meets.bindW (a2 G Fz sd σ H _ s) fun vs F1 H1 ds sd1 hmm s1 s2 s3 => ?_
    have s3 : Reps X.K F1 vs ds := s3
    have hnn := hn sd ds sd1 hmm
    have key : ∀ x dx, H1 x = none → H1 dx = none → dx ≠ x → ∃ G', StR X.K (V.ref x :: vs) G' F1 ⟨[], .oi C [] [] :: ds.map .fz⟩ [] (upd (upd H1 dx (.own x)) x (.ins C dx [])) ∧
        (∀ (F' H' : Hp) (t' : OT) (sdx : SD), Same F1 F' → StR X.K (V.ref x :: vs) G' F' sdx [] H' → sdx.pa[0]? = some t' → StR1 X.K pv G F' sd1 σ H' (.ref x) t') := fun x dx h1 h2 h3 => (s2.newI (C := C) h1 h2 h3).giveX s3
    have len1 : ∀ (x : Addr), (V.ref x :: vs).length = n + 1 := fun x => by rw [List.length_cons, s3.length, hnn]
    have len2 : (OT.oi C [] [] :: ds.map OT.fz).length = n + 1 := by rw [List.length_cons, List.length_map, hnn]
    split
    · rename_i sd' e1
      split
      · rename_i t et
        intro hQ x dx h1 h2 h3
        obtain ⟨G', g1, g2⟩ := key x dx h1 h2 h3
        refine ⟨len1 x, G', F1, _, len2, g1, ?_⟩
        rw [e1]
        intro v F' H' t1 t2
        refine ⟨?_, hQ (.ref x) F' H' t1 (g2 F' H' t sd' t1 t2.drop et).drop (g2 F' H' t sd' t1 t2.drop et) fun z => by cases z⟩
        obtain ⟨o, P, w, r, _⟩ := t2
        unfold RepO at r
        cases r
        rfl
      · exact True.intro
    · rename_i x1 sd' e1
      split
      · rename_i t et
        intro hW x dx h1 h2 h3
        obtain ⟨G', g1, g2⟩ := key x dx h1 h2 h3
        refine ⟨len1 x, G', F1, _, len2, g1, ?_⟩
        rw [e1]
        exact fun cls dd F' H' t1 t2 t3 => hW cls dd F' H' t1 (g2 F' H' t sd' t1 t2 et).drop t3
      · exact True.intro
    · exact True.intro
end
theorem cx_none {P : Program} {w : World} {outer : List Env} {H : Hp} {s s' : Shared} {e : Value} (z : L2.CX P w outer H s (fun _ _ _ => False) e s') : False := by
  obtain ⟨_, _, _, _, _, _, _, _, _, _, _, _, q⟩ := z
  exact q
end DL
namespace DL
open PySem PySem.Spec L2
noncomputable def fldD {α : Type} (f : Str) : List Str → List α → Option α
  | n :: ns, v :: vs => if n = f then some v else fldD f ns vs
  | _, _ => none
theorem lookup_head {α : Type} {f g : Str} {v : α} {r : List (Str × α)} : List.lookup f ((g, v) :: r) = if g = f then some v else List.lookup f r := by
  by_cases h : g = f
  · subst h
    rw [if_pos rfl]
    simp [List.lookup]
  · rw [if_neg h]
    have : (f == g) = false := by simpa using fun z : f = g => h z.symm
    simp [List.lookup, this]
theorem fldD_rep {K : PySem.W.Frag} {F : Hp} {f : Str} {d : D} : ∀ {fs : List (Str × V)} {vs : List D}, Reps K F (fs.map (·.2)) vs → fldD f (fs.map (·.1)) vs = some d → ∃ v, fs.lookup f = some v ∧ Rep K F v d
  | [], vs, r, h => by
    cases r
    cases h
  | (n, v) :: fs, vs, r, h => by
    cases r with
    | cons r1 r2 =>
      rw [List.map_cons, fldD] at h
      rw [lookup_head]
      by_cases e : n = f
      · rw [if_pos e] at h ⊢
        cases h
        exact ⟨v, rfl, r1⟩
      · rw [if_neg e] at h ⊢
        exact fldD_rep r2 h
noncomputable def mFld (ok : Addr → Bool) (f : Str) (a : SD → ER D) : SD → ER D := fun sd => (a sd).bind fun x sd1 => match x with
  | .ins C ns vs => if ok C = true then ER.opt (fldD f ns vs) sd1 else .bad
  | _ => .bad
/-- the place of a name -/
noncomputable def idxN (f : Str) : List Str → Option Nat
  | [] => none
  | n :: ns => if n = f then some 0 else (idxN f ns).map (· + 1)
noncomputable def putO (C : Addr) (f : Str) (t : OT) (ns : List Str) (ts : List OT) : OT := match idxN f ns with
  | some k => .oi C ns (ts.set k t)
  | none => .oi C (ns ++ [f]) (ts ++ [t])
theorem putF_some {f : Str} {y : V} : ∀ {fs : List (Str × V)} {k : Nat}, idxN f (fs.map (·.1)) = some k → (putF f y fs).map (·.1) = fs.map (·.1) ∧ (putF f y fs).map (·.2) = (fs.map (·.2)).set k y
  | [], k, h => by cases h
  | (n, v) :: fs, k, h => by
    rw [List.map_cons, idxN] at h
    unfold putF
    by_cases e : n = f
    · rw [if_pos e] at h ⊢
      cases h
      subst e
      exact ⟨rfl, rfl⟩
    · rw [if_neg e] at h ⊢
      obtain ⟨j, e1, e2⟩ := Option.map_eq_some_iff.mp h
      subst e2
      obtain ⟨h1, h2⟩ := putF_some (y := y) e1
      exact ⟨by rw [List.map_cons, h1]; rfl, by rw [List.map_cons, h2]; rfl⟩
theorem putF_none {f : Str} {y : V} : ∀ {fs : List (Str × V)}, idxN f (fs.map (·.1)) = none → (putF f y fs).map (·.1) = fs.map (·.1) ++ [f] ∧ (putF f y fs).map (·.2) = fs.map (·.2) ++ [y]
  | [], h => ⟨rfl, rfl⟩
  | (n, v) :: fs, h => by
    rw [List.map_cons, idxN] at h
    unfold putF
    by_cases e : n = f
    · rw [if_pos e] at h; cases h
    · rw [if_neg e] at h ⊢
      have e1 : idxN f (fs.map (·.1)) = none := by
        cases e2 : idxN f (fs.map (·.1)) with
        | none => rfl
        | some j => rw [e2] at h; cases h
      obtain ⟨h1, h2⟩ := putF_none (y := y) e1
      exact ⟨by rw [List.map_cons, h1]; rfl, by rw [List.map_cons, h2]; rfl⟩
section
variable {K : PySem.W.Frag} {pv : List V} {G F H : Hp} {sd : SD} {σ : L2.St}
theorem StR1.fset {i : Nat} {C : Addr} {ns : List Str} {ts : List OT} {t2 : OT} {v2 : V} (s : StR1 K pv G F sd σ H v2 t2) (h : sd.tree i = some (.oi C ns ts)) : ∃ (a dx : Addr) (fs : List (Str × V)), σ[i]? = some (some (.ref a)) ∧ H a = some (.ins C dx fs) ∧ fs.map (·.1) = ns ∧ fs.length = ns.length ∧
    ∀ f, StR K pv G F (sd.put i (putO C f t2 ns ts)) σ (upd H a (.ins C dx (putF f v2 fs))) := by
  obtain ⟨v, P, P2, h1, h2, r2, d, hn, hn2, go⟩ := s.mut h
  unfold RepO at h2
  obtain ⟨a, dx, fs, rfl, pa, ha, hns, r⟩ := h2
  have main : ∀ (gs : List (Str × V)) (ns' : List Str) (ts' : List OT), gs.map (·.1) = ns' → RepOs K F H ts' (gs.map (·.2)) (fun x => (P x ∧ x ≠ a) ∨ P2 x) → StR K pv G F (sd.put i (.oi C ns' ts')) σ (upd H a (.ins C dx gs)) := fun gs ns' ts' hg rr => by
    refine go _ _ (fun x hx u e => by rw [upd_ne (fun z => hx (by rw [z]; exact pa))]; exact e) (fun x hx => ?_) ?_
    · by_cases z : x = a
      · rw [z, upd_same]; simp
      · rw [upd_ne z]; exact hn x hx
    · unfold RepO
      refine ⟨a, dx, gs, rfl, .inl pa, upd_same, hg.symm, rr.mono (Same.refl _) fun x hx => ?_⟩
      have ne : x ≠ a := by
        rcases hx with hx | hx
        · exact hx.2
        · exact fun z => d a pa (by rw [← z]; exact hx)
      exact ⟨⟨hx.imp And.left id, ne⟩, upd_ne ne⟩
  refine ⟨a, dx, fs, h1, ha, hns.symm, by rw [hns, List.length_map], fun f => ?_⟩
  unfold putO
  subst hns
  cases e : idxN f (fs.map (·.1)) with
  | some k =>
    obtain ⟨q1, q2⟩ := putF_some (y := v2) e
    exact main _ _ _ q1 (by rw [q2]; exact repOs_set k r r2 fun x q => d x q.1)
  | none =>
    obtain ⟨q1, q2⟩ := putF_none (y := v2) e
    exact main _ _ _ q1 (by rw [q2]; exact repOs_app r r2 fun x q => d x q.1)
end
noncomputable def sFldSet (ok : Addr → Bool) (i : Nat) (f : Str) (m : SD → ER OT) : SD → Fl := fun sd => (m sd).stm fun t sd1 => match sd1.tree i with
  | some (.oi C ns ts) => if ok C = true ∧ ns.length < 1000 then .nx (sd1.put i (putO C f t ns ts)) else .bad
  | _ => .bad
section
variable {X : Cx} {pv : List V} {W : WX} {p q k l : Bool} {e a b : Expr} {es : List Expr} {pos : Pos}
theorem ds_fld {ok : Addr → Bool} {f : Str} {i : Nat} {x : Str} {pp ap : Pos} {m : SD → ER OT} (hx : PE X (.Name x pp) (tVar i)) (he : DO X pv W p e m) (hf : ∀ C, ok C = true → Cls X.K C ∧ NoAttr X.K C f)
    (hs : swapsWith e (some (.Attribute (.Name x pp) f ap)) pos.line X.env = pure false := by rfl) : DS X pv W (.Assign [.Attribute (.Name x pp) f ap] e pos) (sFldSet ok i f m) := by
  obtain ⟨te, a1, a2⟩ := he
  refine ⟨_, ps_fld hx a1 hs, fun G F sd σ H D s => ?_⟩
  refine Meets.stm (a2 G F sd σ H _ s) fun v F1 H1 t sd1 s1 s2 s3 => ?_
  split
  · rename_i C ns ts e1
    split
    · rename_i hok
      obtain ⟨c1, c2⟩ := hf C hok.1
      obtain ⟨a, dx, fs, k1, k2, k3, k4, k5⟩ := s3.fset e1
      intro hQ
      exact ⟨_, k1, a, C, dx, fs, rfl, k2, c1, c2, by rw [k4]; exact hok.2, hQ F1 σ _ (Same.refl _) (k5 f)⟩
    · exact True.intro
  · exact True.intro
noncomputable def callFzQ (f : List OT → ER OT) (ds : List D) (sd : SD) : ER OT := match f (ds.map .fz) with
  | .ok t _ => .ok t sd
  | _ => .bad
noncomputable def mProp (C0 : Addr) (g : List OT → ER OT) (a : SD → ER D) : SD → ER OT := fun sd => (a sd).bind fun x sd1 => match x with
  | .ins C ns vs => if C = C0 then callFzQ g [.ins C ns vs] sd1 else .bad
  | _ => .bad
noncomputable def mMeth (C0 : Addr) (f : Str) (g : List OT → ER OT) (o : SD → ER D) (a : SD → ER (List D)) : SD → ER OT := fun sd => (o sd).bind fun x sd1 => match x with
  | .ins C ns vs => if C = C0 ∧ f ∉ ns then (a sd1).bind fun ds sd2 => callFz g (.ins C ns vs :: ds) sd2 else .bad
  | _ => .bad
end
end DL
namespace DL
open PySem PySem.Spec L2
noncomputable def mOwn2 (c : D → D → Bool) (g : List OT → ER OT) (a b : SD → ER D) : SD → ER OT := fun sd => (a sd).bind fun x sd1 => (b sd1).bind fun y sd2 => if c x y = true then callFz g [x, y] sd2 else .bad
noncomputable def D.isIns (C : Addr) : D → Bool
  | .ins C' _ _ => C' == C
  | _ => false
noncomputable def D.isInt : D → Bool
  | .int _ => true
  | _ => false
noncomputable def cSame (C : Addr) : D → D → Bool := fun x y => x.isIns C && y.isIns C
noncomputable def cInt (C : Addr) : D → D → Bool := fun x y => x.isIns C && y.isInt
section
variable {X : Cx} {pv : List V} {W : WX} {p q k l : Bool} {e a b : Expr} {es : List Expr} {pos : Pos}
/-- -x -/
noncomputable def mOwn1 (C : Addr) (g : List OT → ER OT) (a : SD → ER D) : SD → ER OT := fun sd => (a sd).bind fun x sd1 => if x.isIns C = true then callFz g [x] sd1 else .bad
end
end DL
namespace PySem.W
open PySem PySem.Calls PyProof.Rows
end PySem.W
namespace DL
open PySem PySem.Spec L2
/-- what of an own class is asked for isinstance, == -/
structure CF (K : PySem.W.Frag) (C : Addr) : Prop where
  cl : Cls K C
  ha : PySem.W.findIn K (.ref C) "__class__" = some (some (.builtin "object.__class__"))
  hn : PySem.W.specialIn K (.builtin "object.__class__") "__get__" = some (some (.builtin "getset_descriptor.__get__"))
  ht : PySem.W.takesIn K (.builtin "object.__class__") = some true
  hm : PySem.W.mroIn K C (.type "object") = some true
noncomputable def D.tyv (ok : Addr → Bool) : D → Option Value
  | .non => some (.type "NoneType")
  | .bl _ => some (.type "bool")
  | .int _ => some (.type "int")
  | .str _ => some (.type "str")
  | .tup _ => some (.type "tuple")
  | .ktu _ => some (.type "tuple")
  | .lst _ => some (.type "list")
  | .scr _ => some (.type "list")
  | .dic false _ _ => some (.type "dict")
  | .ins C _ _ => if ok C = true then some (.ref C) else none
  | _ => none
theorem tyv_rep {K : PySem.W.Frag} {H : Hp} {ok : Addr → Bool} {v : V} {d : D} {t : Value} (hC : ∀ C, ok C = true → CF K C) (r : Rep K H v d) (h : d.tyv ok = some t) : TyX K H v t := by
  cases r with
  | non => cases h; exact .base .non
  | bl x => cases h; exact .base (.bl x)
  | int x => cases h; exact .base (.int x)
  | str x => cases h; exact .base (.str x)
  | ty x => cases h
  | cls x => cases h
  | tup s r => cases h; exact tyx_tup (.inl (.inl s))
  | ktu s r => cases h; exact tyx_tup s
  | lst s r => cases h; exact tyx_lst (.inl s)
  | scr s => cases h; exact tyx_lst s
  | dicK s r =>
    cases h
    rcases s with s | ⟨o, s⟩
    · exact .base (.dK s)
    · exact .fDict s
  | dicT s r => cases h
  | @ins a C dx fs _ s r =>
    have h : (if ok C = true then some (Value.ref C) else none) = some t := h
    split at h
    · rename_i hok
      cases h
      have c := hC C hok
      exact .base (.ins s c.cl c.ha c.hn c.ht c.hm)
    · cases h
  | exc _ _ _ _ => cases h
noncomputable def dIsO (ok : Addr → Bool) (C : Addr) : List D → Option D
  | [d, .cls C'] => if C' = C then (d.tyv ok).map fun _ => .bl (d.isIns C) else none
  | _ => none
noncomputable def mB2 (ok : Addr → Bool) (C : Addr) (g : List OT → ER OT) (neg : Bool) (a b : SD → ER D) : SD → ER D := fun sd => (a sd).bind fun x sd1 => (b sd1).bind fun y sd2 => if x.isIns C = true ∧ (y.tyv ok).isSome = true then (match g [.fz x, .fz y] with
  | .ok (.fz (.bl r)) _ => .ok (.bl (r != neg)) sd2
  | _ => .bad) else .bad
end DL
namespace DL
open PySem PySem.Spec L2
section
variable {X : Cx} {pv : List V} {W : WX} {p q k l : Bool} {e a b : Expr} {es : List Expr} {pos : Pos}
noncomputable def mCallIns (C : Addr) (g : List OT → ER OT) (o : SD → ER D) (a : SD → ER (List D)) : SD → ER OT := fun sd => (o sd).bind fun x sd1 => if x.isIns C = true then (a sd1).bind fun ds sd2 => callFz g (x :: ds) sd2 else .bad
end
end DL
namespace DL
open PySem PySem.Spec L2
section
variable {X : Cx} {pins : List (Addr × Obj)} {σ : L2.St} {F H : Hp} {s : Shared}
mutual
theorem rep_reads (I : Inv X pins σ H s) (e : Same F H) : ∀ {v : V} {d : D} {p : PyData} {u : Value}, Rep X.K F v d → d.py = some p → RelV v u → ∃ as, Reads s.heap u p as
  | _, _, p, u, .non, h, r => by
    rw [D.py] at h; cases h
    cases (show u = Value.none from r)
    exact ⟨_, .none⟩
  | _, _, p, u, .bl b, h, r => by
    rw [D.py] at h; cases h
    cases (show u = Value.bool b from r)
    exact ⟨_, .bool b⟩
  | _, _, p, u, .int i, h, r => by
    rw [D.py] at h; cases h
    obtain ⟨t, rfl⟩ := (show ∃ t, u = Value.int i t from r)
    exact ⟨_, .int i t⟩
  | _, _, p, u, .str x, h, r => by
    rw [D.py] at h; cases h
    obtain ⟨t, rfl⟩ := (show ∃ t, u = Value.str x t from r)
    exact ⟨_, .str x t⟩
  | _, _, p, u, .ty n, h, r => by simp [D.py] at h
  | _, _, p, u, .cls C, h, r => by simp [D.py] at h
  | _, _, p, u, .tup (a := a) (ds := ds) q rr, h, r => by
    rw [D.py] at h
    cases (show u = Value.ref a from r)
    cases e1 : D.pys ds with
    | none => rw [e1] at h; cases h
    | some ps =>
      rw [e1] at h; cases h
      obtain ⟨its, rv, ⟨o, ho, hc, n, hd⟩, hz⟩ := I.tuple (.inl (.inl (e _ _ q)))
      obtain ⟨as, ra⟩ := reps_reads I e rr e1 rv
      exact ⟨_, .tuple ho hc hd ra⟩
  | _, _, p, u, .ktu (a := a) (ds := ds) q rr, h, r => by
    rw [D.py] at h
    cases (show u = Value.ref a from r)
    cases e1 : D.pys ds with
    | none => rw [e1] at h; cases h
    | some ps =>
      rw [e1] at h; cases h
      obtain ⟨its, rv, ⟨o, ho, hc, n, hd⟩, hz⟩ := I.tuple (Same.sqt e q)
      obtain ⟨as, ra⟩ := reps_reads I e rr e1 rv
      exact ⟨_, .tuple ho hc hd ra⟩
  | _, _, p, u, .lst (a := a) (ds := ds) q rr, h, r => by
    rw [D.py] at h
    cases (show u = Value.ref a from r)
    cases e1 : D.pys ds with
    | none => rw [e1] at h; cases h
    | some ps =>
      rw [e1] at h; cases h
      obtain ⟨z, its, n, rv, hl, ho⟩ := rd_list I (Same.rd e q)
      obtain ⟨as, ra⟩ := reps_reads I e rr e1 rv
      exact ⟨_, .list ho rfl rfl ra⟩
  | _, _, p, u, .scr q, h, r => by simp [D.py] at h
  | _, _, p, u, .dicK q rr, h, r => by simp [D.py] at h
  | _, _, p, u, .dicT q rr, h, r => by simp [D.py] at h
  | _, _, p, u, .ins q rr, h, r => by simp [D.py] at h
  | _, _, p, u, .exc _ _ _ _, h, r => by simp [D.py] at h
theorem reps_reads (I : Inv X pins σ H s) (e : Same F H) : ∀ {vs : List V} {ds : List D} {ps : List PyData} {us : List Value}, Reps X.K F vs ds → D.pys ds = some ps → Vals vs us → ∃ as, ReadsAll s.heap us ps as
  | _, _, ps, us, .nil, h, r => by
    rw [D.pys] at h; cases h
    cases r
    exact ⟨_, .nil⟩
  | _, _, ps, us, .cons (d := d) (ds := ds) r1 r2, h, r => by
    rw [D.pys] at h
    cases r with
    | cons q1 q2 =>
      cases e1 : d.py with
      | none => rw [e1] at h; cases h
      | some p =>
        rw [e1] at h
        cases e2 : D.pys ds with
        | none => rw [e2] at h; cases h
        | some qs =>
          rw [e2] at h; cases h
          obtain ⟨as, k1⟩ := rep_reads I e r1 e1 q1
          obtain ⟨bs, k2⟩ := reps_reads I e r2 e2 q2
          exact ⟨_, .cons k1 k2⟩
end
end
mutual
theorem py_plain : ∀ {d : D} {p : PyData}, d.py = some p → p.hasDict = false
  | .non, p, h => by rw [D.py] at h; cases h; rfl
  | .bl _, p, h => by rw [D.py] at h; cases h; rfl
  | .int _, p, h => by rw [D.py] at h; cases h; rfl
  | .str _, p, h => by rw [D.py] at h; cases h; rfl
  | .tup ds, p, h => by
    rw [D.py] at h
    obtain ⟨ps, e, h⟩ := Option.map_eq_some_iff.mp h
    subst h
    rw [PyData.hasDict]
    exact pys_plain e
  | .ktu ds, p, h => by
    rw [D.py] at h
    obtain ⟨ps, e, h⟩ := Option.map_eq_some_iff.mp h
    subst h
    rw [PyData.hasDict]
    exact pys_plain e
  | .lst ds, p, h => by
    rw [D.py] at h
    obtain ⟨ps, e, h⟩ := Option.map_eq_some_iff.mp h
    subst h
    rw [PyData.hasDict]
    exact pys_plain e
  | .ty _, p, h => by simp [D.py] at h
  | .cls _, p, h => by simp [D.py] at h
  | .scr _, p, h => by simp [D.py] at h
  | .dic _ _ _, p, h => by simp [D.py] at h
  | .ins _ _ _, p, h => by simp [D.py] at h
  | .exc _ _ _, p, h => by simp [D.py] at h
theorem pys_plain : ∀ {ds : List D} {ps : List PyData}, D.pys ds = some ps → PyData.hasDictAll ps = false
  | [], ps, h => by rw [D.pys] at h; cases h; rfl
  | d :: ds, ps, h => by
    rw [D.pys] at h
    obtain ⟨p, e1, h⟩ := Option.bind_eq_some_iff.mp h
    obtain ⟨qs, e2, h⟩ := Option.map_eq_some_iff.mp h
    subst h
    rw [PyData.hasDictAll, py_plain e1, pys_plain e2]
    rfl
end
noncomputable def dRepr : List D → Option D
  | [d] => d.py.bind fun p => if p.showable = true ∧ p.depth ≤ 40 ∧ p.shown.length ≤ 16777216 then some (.str p.shown) else none
  | _ => none
noncomputable def rRepr (K : PySem.W.Frag) : List V → Hp → VK → Prop := fun xs H Q => ∃ (v : V) (F : Hp) (d : D) (p : PyData), xs = [v] ∧ Same F H ∧ Rep K F v d ∧ d.py = some p ∧ p.showable = true ∧ p.depth ≤ 40 ∧ p.shown.length ≤ 16777216 ∧ Q (.str p.shown) H
theorem call_reprX {X : Cx} (g : X.A.guards = some []) (hu : X.A.units + 64 < cLine) : CallR X (.builtin "repr") (rRepr X.K) := by
  intro pins s σ H xs us Q I rv ⟨v, F, d, p, exs, e, r, hp, h1, h2, h3, q⟩
  subst exs
  obtain ⟨u, rfl, ru⟩ := rv.one
  have h3 : p.shown.length ≤ sizeLine := by rw [sizeLine_eq]; exact h3
  have fin : ∀ (h' : Heap) (t : Tok) (tk : Nat), (∀ b o, s.heap.get? b = some o → h'.get? b = some o) → EP X pins σ Q (.str p.shown t) { s with heap := h', toks := tk } := fun h' t tk k => ⟨.str p.shown, H, I.kept k, ⟨t, rfl⟩, q⟩
  obtain ⟨as, rd⟩ := rep_reads I e r hp ru
  cases u with
  | ref a => exact repr_of_reads' rd h1 (fun z => by rw [py_plain hp] at z; cases z) g (by omega) (fun _ _ x => x) (fun h' t tk k => fin h' t tk k) h3
  | none => cases rd; exact P.repr_of_none (fin s.heap _ _ fun _ _ x => x)
  | bool b => cases rd; exact P.repr_of_bool (fin s.heap _ _ fun _ _ x => x)
  | int i t =>
    cases rd
    have : i.natAbs.log2 < 1920 := by simpa [PyData.showable] using h1
    exact P.repr_of_int this (fin s.heap _ _ fun _ _ x => x)
  | str x t => cases rd; exact P.repr_of_str (fin s.heap _ _ fun _ _ x => x) h3
  | _ => cases rd
theorem f_repr {K : PySem.W.Frag} : CallS K (rRepr K) dRepr := by
  intro H xs ds c r h
  unfold dRepr at h
  split at h
  · rename_i d
    obtain ⟨v, rfl, r1⟩ := reps1 r
    obtain ⟨p, hp, h⟩ := Option.bind_eq_some_iff.mp h
    split at h
    · rename_i hc
      cases h
      exact ⟨_, rfl, fun Q q => ⟨v, H, d, p, rfl, Same.refl _, r1, hp, hc.1, hc.2.1, hc.2.2, q⟩⟩
    · cases h
  · cases h
end DL
namespace DL
open PySem PySem.Spec L2
/-- a method as it stands in its class -/
structure Fm (K : PySem.W.Frag) (x q : Str) (st : Stmt) (f : Addr) (fd : FuncData) (ps : List Str) : Prop where
  F : Fun K x q st f fd
  b : Binds K fd ps []
noncomputable def rInt1 : List V → Hp → VK → Prop := fun xs H Q => (∃ i, xs = [.int i] ∧ Q (.int i) H) ∨ ∃ k, xs = [.bl k] ∧ Q (.int (if k then 1 else 0)) H
theorem call_int1X {X : Cx} : CallR X (.type "int") rInt1 := call_int1
noncomputable def sPar3 (i j l : Nat) (ma mb mc : SD → ER OT) : SD → Fl := fun sd => (ma sd).stm fun t sd1 => (mb sd1).stm fun u sd2 => (mc sd2).stm fun w sd3 => if i < sd3.sl.length ∧ j < sd3.sl.length ∧ l < sd3.sl.length then .nx { sd3 with sl := ((sd3.sl.set i (.ow t)).set j (.ow u)).set l (.ow w) } else .bad
section
variable {X : Cx} {pv : List V} {W : WX} {p q r k l : Bool} {e a b c : Expr} {es : List Expr} {pos : Pos}
/-- a constant of the module -/
theorem dx_const {x : Str} {v : V} {d : D} {pp : Pos} (hg : Gl X x) (hm : ∃ u, X.mg x = some u ∧ RelV v u) (hr : ∀ F, Rep X.K F v d) (hd : (x == ("__debug__" : Str)) = false := by decide) : DX X pv W true true (.Name x pp) (mC d) := by
  obtain ⟨u, h1, h2⟩ := hm
  exact dx_glob hg h1 h2 hr hd
/-- an own class by its name -/
theorem dx_cls {x : Str} {C : Addr} {pp : Pos} (hg : Gl X x) (hm : X.mg x = some (.ref C)) (hd : (x == ("__debug__" : Str)) = false := by decide) : DX X pv W true true (.Name x pp) (mC (.cls C)) := dx_glob hg hm (v := .ref C) rfl (fun _ => .cls C) hd
end
theorem kit_self {K : PySem.W.Frag} {C : Addr} : PySem.W.kitOne K (.ref C) (.ref C) = some true := by
  unfold PySem.W.kitOne
  rw [if_pos (by simp)]
theorem sub_ne {K : PySem.W.Frag} {C D : Addr} (h3 : PySem.W.subIn K (.ref D) (.ref C) = some false) (h4 : PySem.W.subIn K (.ref C) (.ref C) = some true) : (D == C) = false := Bool.eq_false_iff.mpr fun q => by
  have q := beq_iff_eq.mp q
  subst q
  rw [h3] at h4
  cases h4
theorem kit_oth {K : PySem.W.Frag} {C D : Addr} (h1 : PySem.W.isClsIn K C = true) (h2 : PySem.W.typeIn K (.ref C) = some (.type "type")) (h3 : PySem.W.subIn K (.ref D) (.ref C) = some false) (h4 : PySem.W.subIn K (.ref C) (.ref C) = some true) : PySem.W.kitOne K (.ref D) (.ref C) = some false := by
  have e : (Value.ref D == Value.ref C) = false := Bool.eq_false_iff.mpr fun q => by
    have q : D = C := by cases beq_iff_eq.mp q; rfl
    have z := sub_ne h3 h4
    rw [q] at z
    simp at z
  have h1 : (PySem.W.clsIn K C).isSome = true := h1
  unfold PySem.W.kitOne PySem.W.kitCls
  rw [e]
  simp [h1, h2, h3]
end DL
namespace DL
open PySem PySem.Spec L2
mutual
noncomputable def szP : PyData → Nat
  | .none => 5
  | .bool _ => 5
  | .int _ => 1921
  | .str x => (reprText x).length
  | .list xs => szA xs + 4
  | .tuple xs => szA xs + 4
  | .dict kvs => (PyData.shown (.dict kvs)).length
noncomputable def szA : List PyData → Nat
  | [] => 0
  | x :: xs => szP x + 2 + szA xs
end
noncomputable def szT : List Str → Nat
  | [] => 0
  | t :: r => t.length + 2 + szT r
theorem textFrom_sz : ∀ (ts : List Str) (k : Nat) (acc : Str), (textFrom k acc ts).length ≤ acc.length + szT ts
  | [], k, acc => Nat.le_refl _
  | t :: r, k, acc => by
    have h := textFrom_sz r (k + 1) (acc ++ (if k > 0 then ", " else "" : String) ++ t)
    have e : (acc ++ (if k > 0 then ", " else "" : String) ++ t).length = acc.length + (if k > 0 then 2 else 0) + t.length := by
      rw [strLen_append, strLen_append]
      by_cases hk : k > 0
      · rw [if_pos hk, if_pos hk]; rfl
      · rw [if_neg hk, if_neg hk]; rfl
    rw [e] at h
    show (textFrom (k + 1) (acc ++ (if k > 0 then ", " else "" : String) ++ t) r).length ≤ _
    rw [szT]
    have : (if k > 0 then 2 else 0) ≤ 2 := by split <;> omega
    omega
theorem listText_sz (ts : List Str) : (listText ts).length ≤ szT ts + 2 := by
  unfold listText
  rw [strLen_append]
  have h := textFrom_sz ts 0 "["
  have e1 : (("[" : String) : Str).length = 1 := rfl
  have e2 : (("]" : String) : Str).length = 1 := rfl
  rw [e1] at h
  rw [e2]
  omega
theorem piled_sz : ∀ ts : List Str, piled ts ≤ szT ts
  | [] => by simp [piled]
  | t :: r => by
    have := piled_sz r
    rw [szT]
    simp [piled] at this ⊢
    omega
theorem tupleText_sz (ts : List Str) : (tupleText ts).length ≤ szT ts + 4 := by
  unfold tupleText
  rw [strLen_append, strLen_append]
  have e1 : (("(" : String) : Str).length = 1 := rfl
  have e2 : (((if ts.length == 1 then ",)" else ")" : String)) : Str).length ≤ 2 := by
    split
    · exact Nat.le_refl 2
    · exact Nat.le_succ 1
  rw [e1]
  cases ts with
  | nil =>
    have e3 : (Str.join ", " []).length = 0 := rfl
    omega
  | cons t r =>
    have h := join_length_add (t :: r) (by simp)
    have := piled_sz (t :: r)
    omega
mutual
theorem shown_sz : ∀ {d : PyData}, d.showable = true → d.shown.length ≤ szP d
  | .none, _ => by rw [PyData.shown, szP]; exact Nat.le_succ 4
  | .bool b, _ => by
    rw [PyData.shown, szP]
    cases b
    · exact Nat.le_refl 5
    · exact Nat.le_succ 4
  | .int i, h => by
    rw [PyData.showable] at h
    rw [PyData.shown, szP]
    exact PyProof.Rows.int_text_len_1921 (of_decide_eq_true h)
  | .str x, _ => by rw [PyData.shown, szP]; exact Nat.le_refl _
  | .list xs, h => by
    rw [PyData.showable] at h
    rw [PyData.shown, szP]
    have := listText_sz (PyData.shownAll xs)
    have := shownAll_sz h
    omega
  | .tuple xs, h => by
    rw [PyData.showable] at h
    rw [PyData.shown, szP]
    have := tupleText_sz (PyData.shownAll xs)
    have := shownAll_sz h
    omega
  | .dict kvs, _ => by rw [szP]; exact Nat.le_refl _
theorem shownAll_sz : ∀ {ds : List PyData}, PyData.showableAll ds = true → szT (PyData.shownAll ds) ≤ szA ds
  | [], _ => by rw [PyData.shownAll, szT, szA]; exact Nat.le_refl 0
  | d :: ds, h => by
    rw [PyData.showableAll] at h
    have h := (Bool.and_eq_true _ _).mp h
    have h1 := shown_sz h.1
    have h2 := shownAll_sz h.2
    rw [PyData.shownAll, szT, szA]
    omega
end
theorem dRepr_of {d : D} {p : PyData} (h : d.py = some p) (h1 : p.showable = true) (h2 : p.depth ≤ 40) (h3 : szP p ≤ 16777216) : dRepr [d] = some (.str p.shown) := by
  have := shown_sz h1
  show d.py.bind _ = _
  rw [h]
  show (if p.showable = true ∧ p.depth ≤ 40 ∧ p.shown.length ≤ 16777216 then some (D.str p.shown) else none) = _
  rw [if_pos ⟨h1, h2, by omega⟩]
noncomputable def tI (ns : List Int) : D := .tup (ns.map .int)
theorem pys_int : ∀ ns : List Int, D.pys (ns.map D.int) = some (ns.map PyData.int)
  | [] => rfl
  | n :: r => by rw [List.map_cons, D.pys, pys_int r]; rfl
theorem lay_int : ∀ ns : List Int, PyData.canLayAll0 (ns.map PyData.int) = true
  | [] => rfl
  | n :: r => by rw [List.map_cons, PyData.canLayAll0, lay_int r]; rfl
theorem dep_int : ∀ ns : List Int, PyData.depthAll (ns.map PyData.int) = 0
  | [] => rfl
  | n :: r => by rw [List.map_cons, PyData.depthAll, dep_int r]; rfl
theorem eqv_int : ∀ ns ms : List Int, PyData.eqvAll (ns.map PyData.int) (ms.map PyData.int) = decide (ns = ms)
  | [], [] => by simp [PyData.eqvAll]
  | [], _ :: _ => by simp [PyData.eqvAll]
  | _ :: _, [] => by simp [PyData.eqvAll]
  | n :: ns, m :: ms => by
    rw [List.map_cons, List.map_cons, PyData.eqvAll, eqv_int ns ms, PyData.eqv]
    by_cases h : n = m <;> simp [h]
theorem tI_py (ns : List Int) : (tI ns).py = some (.tuple (ns.map PyData.int)) := by
  unfold tI
  rw [D.py, pys_int]
  rfl
theorem tI_shaped (ns : List Int) : SeqAt.shaped (.tuple (ns.map PyData.int)) = true := by
  have h1 : PyData.canLay0 (.tuple (ns.map PyData.int)) = true := lay_int ns
  have h2 : PyData.depth (.tuple (ns.map PyData.int)) = 1 := by rw [PyData.depth, dep_int]
  unfold SeqAt.shaped
  rw [h1, h2]
  rfl
theorem eq_tI (ns ms : List Int) : dEqB (tI ns) (tI ms) = some (decide (ns = ms)) := by
  have z : dEqB (tI ns) (tI ms) = match (tI ns).py, (tI ms).py with
    | some p, some q => if (SeqAt.shaped p && SeqAt.shaped q) = true then some (PyData.eqv p q) else none
    | _, _ => none := rfl
  rw [z, tI_py, tI_py]
  dsimp only
  rw [tI_shaped, tI_shaped]
  show some (PyData.eqvAll _ _) = _
  rw [eqv_int]
theorem eqB_int (i j : Int) : dEqB (.int i) (.int j) = some (decide (i = j)) := rfl
theorem eqB_str (i j : Str) : dEqB (.str i) (.str j) = some (decide (i = j)) := rfl
theorem eqB_bl (i j : Bool) : dEqB (.bl i) (.bl j) = some (decide (i = j)) := rfl
theorem eq_2 (a b c d : Int) : dEqB (.tup [.int a, .int b]) (.tup [.int c, .int d]) = some (decide (a = c) && decide (b = d)) := by
  have := eq_tI [a, b] [c, d]
  simpa [tI] using this
theorem eq_3 (a b c d e f : Int) : dEqB (.tup [.int a, .int b, .int c]) (.tup [.int d, .int e, .int f]) = some (decide (a = d) && (decide (b = e) && decide (c = f))) := by
  have := eq_tI [a, b, c] [d, e, f]
  simpa [tI] using this
end DL
namespace DL
open PySem PySem.Spec L2 PyProof.Rows
end DL
namespace DL
open PySem PySem.Spec L2 PyProof.Rows
set_option maxHeartbeats 3200000
end DL
set_option maxHeartbeats 3200000
namespace DL
open PySem PySem.Spec L2 PyProof.Rows
end DL
namespace DL
open PySem PySem.Spec L2 PyProof.Rows
/-- the different ones, in order -/
noncomputable def dd : List Int → List Int
  | [] => []
  | x :: r => if x ∈ dd r then dd r else x :: dd r
end DL
namespace DL
open PySem PySem.Spec L2 PyProof.Rows
noncomputable def CallM (K : PySem.W.Frag) (r : V → List V → Hp → VK → Prop) (f : D → List D → Option D) : Prop := ∀ H x xs d ds c, Rep K H x d → Reps K H xs ds → f d ds = some c → ∃ v, c.sc = some v ∧ ∀ Q : VK, Q v H → r x xs H Q
noncomputable def TyD (K : PySem.W.Frag) (T : String) (t : D → Bool) : Prop := ∀ H x d, Rep K H x d → t d = true → tyV K T x H
noncomputable def mBm (t : D → Bool) (f : D → List D → Option D) (a : SD → ER D) (b : SD → ER (List D)) : SD → ER D := fun sd => (a sd).bind fun d sd1 => if t d = true then (b sd1).bind fun ds sd2 => ER.opt (f d ds) sd2 else .bad
noncomputable def D.isL : D → Bool
  | .lst _ => true
  | _ => false
noncomputable def D.isS : D → Bool
  | .str _ => true
  | _ => false
theorem ty_lst {K : PySem.W.Frag} : TyD K "list" D.isL := fun H x d r h => by
  cases r with
  | lst s t => exact .inl ⟨rfl, _, .inl s⟩
  | _ => cases h
theorem ty_str {K : PySem.W.Frag} : TyD K "str" D.isS := fun H x d r h => by
  cases r with
  | str => exact (rfl : "str" = "str")
  | _ => cases h
section
variable {X : Cx} {pv : List V} {W : WX} {p q k l : Bool} {o e a b : Expr} {es : List Expr} {apos cpos pos : Pos} {name : Str} {T id : String}
theorem tr_bm {r : V → List V → Hp → VK → Prop} {t : D → Bool} {f : D → List D → Option D} {to : TE} {ta : TA} {mo : SD → ER D} {ma : SD → ER (List D)} (ht : TyD X.K T t) (hf : CallM X.K r f) (ho : TrX X.K pv W p k to mo) (ha : TrA X.K pv W q l ta ma) (hk : (k || q) = true) :
    TrX X.K pv W (p && q) true (tBM X.K T r to ta) (mBm t f mo ma) := by
  intro G F sd σ H Q s
  refine Meets.bind (ho G F sd σ H _ s) fun x F1 H1 d sd1 s1 s2 s3 s4 => ?_
  have hq : q = (q && true) := by cases q <;> rfl
  rw [hq]
  by_cases tt : t d = true
  · rw [if_pos tt]
    have ty := ht H1 x d (RSx.see s3 s2) tt
    refine Meets.to ?_ fun z => ⟨ty, z⟩
    refine Meets.bind (ha G F1 sd1 σ H1 _ s2) fun xs F2 H2 ds sd2 t1 t2 t3 t4 => ?_
    have rx : Rep X.K H2 x d := by
      cases k with
      | true => exact Rep.mono t2.fh (Rep.mono t1 s3)
      | false => exact Rep.mono (t4 (by simpa using hk)).1 s3
    cases e : f d ds with
    | none => exact True.intro
    | some c =>
      obtain ⟨v, h1, h2⟩ := hf H2 x xs d ds c rx (RSl.see t3 t2) e
      exact Meets.here t2 (show RSx X.K true G F2 sd2 H2 σ v c from Rep.sc h1) (h2 Q)
  · rw [if_neg tt]
    exact True.intro
theorem dx_bm {r : V → List V → Hp → VK → Prop} {t : D → Bool} {f : D → List D → Option D} {mo : SD → ER D} {ma : SD → ER (List D)} (pa : PlainAttrs T) (slot : Slot T name id) (hty : typeOf (.builtin id) = pure (.type "method_descriptor")) (hm : MtR X id r) (ht : TyD X.K T t) (hf : CallM X.K r f) (ho : DX X pv W p k o mo) (ha : DA X pv W q l (e :: es) ma) (hk : (k || q) = true := by rfl)
    (hbase : attributeBase o name X.env (eval o X.env) = eval o X.env := by rfl)
    (hfew : ((backTo cpos (starEach (e :: es) X.env)).all (fun x => !x.1) && (backToKw cpos (keywordEach [] X.env)).all (fun x => x.1.isSome) && decide ((e :: es).length + ([] : List Keyword).length + (if ([] : List Keyword).isEmpty then 0 else 1) < 30)) = true := by rfl)
    (hline : (apos.endLine == cpos.line) = true := by rfl) (hs : starEach (e :: es) X.env = (false, eval e X.env) :: starEach es X.env := by rfl) (hplain : (backTo cpos (starEach es X.env)).any (·.1) = false := by rfl) :
    DX X pv W (p && q) true (.Call (.Attribute o name apos) (e :: es) [] cpos) (mBm t f mo ma) := by
  obtain ⟨to, o1, o2⟩ := ho
  obtain ⟨ta, a1, a2⟩ := ha
  exact ⟨_, pe_bm pa slot hty hm o1 a1 hbase hfew hline hs hplain, tr_bm ht hf o2 a2 hk⟩
end
end DL
namespace DL
open PySem PySem.Spec L2
noncomputable def mAtS (i : Nat) (b : SD → ER D) : SD → ER D := fun sd => match sd.tree i with
  | some _ => (b sd).bind fun y sd1 => match y with
    | .int k => ER.opt (((sd1.tree i).bind OT.items).bind fun ds => atI ds k) sd1
    | _ => .bad
  | none => .bad
end DL
namespace DL
open PySem PySem.Spec L2
theorem atI_of {α : Type} {xs : List α} {k : Nat} {v : α} (h : xs[k]? = some v) : atI xs (k : Int) = some v := by
  have hk := (List.getElem?_eq_some_iff.mp h).1
  unfold atI ixN
  rw [if_pos (by omega), if_pos (by omega)]
  exact h
theorem log2_lt {n k : Nat} (h : n < 2 ^ k) : n.log2 < k + 1 := by
  by_cases e : n = 0
  · subst e; rw [Nat.log2_zero]; omega
  · have := (Nat.log2_lt e).mpr h; omega
end DL
namespace DL
open PySem PySem.Spec L2
noncomputable def ins {α : Type} (le : α → α → Bool) (a : α) : List α → List α
  | [] => [a]
  | b :: r => if le a b = true then a :: b :: r else b :: ins le a r
end DL
namespace DL
open PySem PySem.Spec L2
noncomputable def strsOf : List D → Option (List Str)
  | [] => some []
  | .str x :: r => (strsOf r).map (x :: ·)
  | _ => none
theorem reps_strs {K : PySem.W.Frag} {F : Hp} : ∀ {ds : List D} {vs : List V} {ys : List Str}, Reps K F vs ds → strsOf ds = some ys → vs = ys.map V.str ∧ ds = ys.map D.str
  | [], _, _, .nil, h => by cases h; exact ⟨rfl, rfl⟩
  | d :: ds, _, ys, .cons r t, h => by
    cases d with
    | str x =>
      obtain ⟨zs, e, h⟩ := Option.map_eq_some_iff.mp h
      subst h
      obtain ⟨h1, h2⟩ := reps_strs t e
      cases r
      rw [h1, h2]
      exact ⟨rfl, rfl⟩
    | _ => cases h
theorem Reps.strs {K : PySem.W.Frag} {F : Hp} : ∀ ys : List Str, Reps K F (ys.map V.str) (ys.map D.str)
  | [] => .nil
  | y :: r => .cons (.str y) (Reps.strs r)
noncomputable def seqOf : D → Option (List D)
  | .lst ds => some ds
  | .tup ds => some ds
  | .ktu ds => some ds
  | _ => none
/-- a list or a tuple that stands there -/
theorem seq_rep {K : PySem.W.Frag} {F : Hp} {v : V} {d : D} {ds : List D} (r : Rep K F v d) (h : seqOf d = some ds) : ∃ a vs, v = .ref a ∧ (SqL K F a vs ∨ SqT K F a vs) ∧ Reps K F vs ds := by
  cases r with
  | lst s t => cases h; exact ⟨_, _, rfl, .inl (.inl s), t⟩
  | tup s t => cases h; exact ⟨_, _, rfl, .inr (.inl (.inl s)), t⟩
  | ktu s t => cases h; exact ⟨_, _, rfl, .inr s, t⟩
  | _ => cases h
noncomputable def rJoin (K : PySem.W.Frag) : V → List V → Hp → VK → Prop := fun x xs H Q => ∃ a p, ∃ ys : List Str, x = .str a ∧ xs = [.ref p] ∧ (SqL K H p (ys.map V.str) ∨ SqT K H p (ys.map V.str)) ∧ (ys.map (·.length)).sum + ys.length * a.length ≤ 16777216 ∧ Q (.str (Txt.join a ys)) H
noncomputable def dJoin : D → List D → Option D
  | .str a, [d] => (seqOf d).bind fun ds => (strsOf ds).bind fun ys => if (ys.map (·.length)).sum + ys.length * a.length ≤ 16777216 then some (.str (Txt.join a ys)) else none
  | _, _ => none
theorem f_join {K : PySem.W.Frag} : CallM K (rJoin K) dJoin := by
  intro H x xs d ds c r rs h
  unfold dJoin at h
  split at h
  · rename_i a e
    obtain ⟨zs, e1, h⟩ := Option.bind_eq_some_iff.mp h
    obtain ⟨ys, e2, h⟩ := Option.bind_eq_some_iff.mp h
    split at h
    · rename_i hl
      cases h
      obtain ⟨v, rfl, r1⟩ := reps1 rs
      obtain ⟨p, vs, rfl, sq, rr⟩ := seq_rep r1 e1
      obtain ⟨h1, _⟩ := reps_strs rr e2
      subst h1
      cases r
      exact ⟨_, rfl, fun Q q => ⟨a, p, ys, rfl, rfl, sq, hl, q⟩⟩
    · cases h
  · cases h
noncomputable def CallML (K : PySem.W.Frag) (r : V → List V → Hp → VK → Prop) (f : D → List D → Option (List D)) : Prop := ∀ F H x xs d ds cs, Same F H → Rep K F x d → Reps K F xs ds → f d ds = some cs → ∀ Q : VK, (∀ p vs, H p = none → Reps K F vs cs → Q (.ref p) (upd H p (.lst vs))) → r x xs H Q
noncomputable def mBmL (t : D → Bool) (f : D → List D → Option (List D)) (a : SD → ER D) (b : SD → ER (List D)) : SD → ER OT := fun sd => (a sd).bind fun d sd1 => if t d = true then (b sd1).bind fun ds sd2 => ER.opt ((f d ds).map fun cs => .ol (cs.map .fz)) sd2 else .bad
noncomputable def dSplit : D → List D → Option (List D)
  | .str a, [.str b] => if (b.length == 0) = false ∧ a.length + 2 ≤ 16777216 then some ((Txt.split a b).map .str) else none
  | _, _ => none
noncomputable def rSplit : V → List V → Hp → VK → Prop := fun x xs H Q => ∃ a b, x = .str a ∧ xs = [.str b] ∧ (b.length == 0) = false ∧ a.length + 2 ≤ sizeLine ∧ rNewStrs (Txt.split a b) H Q
theorem f_split {K : PySem.W.Frag} : CallML K rSplit dSplit := by
  intro F H x xs d ds cs hF r rs h Q hQ
  unfold dSplit at h
  split at h
  · rename_i a b
    split at h
    · rename_i hl
      cases h
      obtain ⟨v, rfl, r1⟩ := reps1 rs
      cases r1
      cases r
      exact ⟨a, b, rfl, rfl, hl.1, by rw [sizeLine_eq]; exact hl.2, fun p hp => hQ p _ hp (Reps.strs _)⟩
    · cases h
  · cases h
noncomputable def dStr1 : List D → Option D
  | [.int i] => if i.natAbs.log2 < 1920 then some (.str (toString i)) else none
  | [.str a] => some (.str a)
  | _ => none
noncomputable def rStr1 : List V → Hp → VK → Prop := fun xs H Q => (∃ i, xs = [.int i] ∧ i.natAbs.log2 < 1920 ∧ Q (.str (toString i)) H) ∨ ∃ a, xs = [.str a] ∧ Q (.str a) H
theorem call_str1 {X : Cx} : CallR X (.type "str") rStr1 := call_str_int.or SkE.call_str_str
theorem f_str1 {K : PySem.W.Frag} : CallS K rStr1 dStr1 := by
  intro H xs ds c rs h
  unfold dStr1 at h
  split at h
  · split at h
    · rename_i i hl
      cases h
      obtain ⟨v, rfl, r1⟩ := reps1 rs
      cases r1
      exact ⟨_, rfl, fun Q q => .inl ⟨_, rfl, hl, q⟩⟩
    · cases h
  · cases h
    obtain ⟨v, rfl, r1⟩ := reps1 rs
    cases r1
    exact ⟨_, rfl, fun Q q => .inr ⟨_, rfl, q⟩⟩
  · cases h
noncomputable def dInt2 : List D → Option D
  | [.int i] => some (.int i)
  | [.bl b] => some (.int (if b then 1 else 0))
  | [.str a] => if a.length ≤ 640 then (PySem.intText? a).map .int else none
  | _ => none
noncomputable def rInt2 : List V → Hp → VK → Prop := fun xs H Q => rInt1 xs H Q ∨ ∃ a n, xs = [.str a] ∧ PySem.intText? a = some n ∧ a.length ≤ 640 ∧ Q (.int n) H
theorem call_int2 {X : Cx} : CallR X (.type "int") rInt2 := call_int1X.or call_int_str
theorem f_int2 {K : PySem.W.Frag} : CallS K rInt2 dInt2 := by
  intro H xs ds c rs h
  unfold dInt2 at h
  split at h
  · cases h
    obtain ⟨v, rfl, r1⟩ := reps1 rs
    cases r1
    exact ⟨_, rfl, fun Q q => .inl (.inl ⟨_, rfl, q⟩)⟩
  · cases h
    obtain ⟨v, rfl, r1⟩ := reps1 rs
    cases r1
    exact ⟨_, rfl, fun Q q => .inl (.inr ⟨_, rfl, q⟩)⟩
  · split at h
    · rename_i a hl
      obtain ⟨n, e, h⟩ := Option.map_eq_some_iff.mp h
      subst h
      obtain ⟨v, rfl, r1⟩ := reps1 rs
      cases r1
      exact ⟨_, rfl, fun Q q => .inr ⟨a, n, rfl, e, hl, q⟩⟩
    · cases h
  · cases h
noncomputable def D.fl : D → Option V
  | .non => some .non
  | .bl b => some (.bl b)
  | .int i => some (.int i)
  | .str x => some (.str x)
  | _ => none
noncomputable def flsOf : List D → Option (List V)
  | [] => some []
  | d :: r => d.fl.bind fun v => (flsOf r).map (v :: ·)
theorem fl_rep {K : PySem.W.Frag} {F : Hp} {v w : V} {d : D} (r : Rep K F v d) (h : d.fl = some w) : v = w ∧ flatV v = true := by
  cases r <;> simp only [D.fl, Option.some.injEq, reduceCtorEq] at h <;> subst h <;> exact ⟨rfl, rfl⟩
theorem fls_rep {K : PySem.W.Frag} {F : Hp} : ∀ {ds : List D} {vs ws : List V}, Reps K F vs ds → flsOf ds = some ws → vs = ws ∧ vs.all flatV = true
  | [], _, _, .nil, h => by cases h; exact ⟨rfl, rfl⟩
  | d :: ds, _, ws, .cons r t, h => by
    obtain ⟨w, e1, h⟩ := Option.bind_eq_some_iff.mp h
    obtain ⟨us, e2, h⟩ := Option.map_eq_some_iff.mp h
    subst h
    obtain ⟨h1, h2⟩ := fl_rep r e1
    obtain ⟨k1, k2⟩ := fls_rep t e2
    subst h1 k1
    refine ⟨rfl, ?_⟩
    rw [List.all_cons, h2, k2]; rfl
/-- a text in another one; of one sign: by the signs -/
noncomputable def inS (x z : Str) : Bool := match x with
  | ⟨⟨[c]⟩⟩ => decide (c ∈ z.cps.toList)
  | x => !(Builtin.Str.occurrences z x 0 z.length 1).isEmpty
noncomputable def dIn (neg : Bool) : D → D → Option D
  | .str i, .str j => some (.bl (inS i j != neg))
  | x, d => x.fl.bind fun v => (seqOf d).bind fun ds => (flsOf ds).map fun vs => .bl (inV v vs != neg)
noncomputable def rIn2S (K : PySem.W.Frag) : R2 := fun x y H Q => (∃ (c : Nat) (z : Str), x = .str ⟨#[c]⟩ ∧ y = .str z ∧ Q (.bl (decide (c ∈ z.cps.toList))) H) ∨ ((∃ i j, x = .str i ∧ y = .str j ∧ Q (.bl (!(Builtin.Str.occurrences j i 0 j.length 1).isEmpty)) H) ∨ rIn K false x y H Q)
noncomputable def rNotIn2S (K : PySem.W.Frag) : R2 := fun x y H Q => (∃ (c : Nat) (z : Str), x = .str ⟨#[c]⟩ ∧ y = .str z ∧ Q (.bl (!decide (c ∈ z.cps.toList))) H) ∨ ((∃ i j, x = .str i ∧ y = .str j ∧ Q (.bl (!(!(Builtin.Str.occurrences j i 0 j.length 1).isEmpty))) H) ∨ rIn K true x y H Q)
theorem op_in2 {X : Cx} : OpR X (compareOp .In) (rIn2S X.K) := op_in_sign.or (op_in_str.or op_in_seq)
theorem op_notIn2 {X : Cx} : OpR X (compareOp .NotIn) (rNotIn2S X.K) := op_notIn_sign.or (op_notIn_str.or op_notIn_seq)
theorem in_go {K : PySem.W.Frag} {H : Hp} {x y : V} {a b c : D} {neg : Bool} (ra : Rep K H x a) (rb : Rep K H y b) (h : dIn neg a b = some c) : (∃ i j, x = .str i ∧ y = .str j ∧ c = .bl (inS i j != neg)) ∨ ∃ p xs, y = .ref p ∧ (SqL K H p xs ∨ SqT K H p xs) ∧ flatV x = true ∧ xs.all flatV = true ∧ c = .bl (inV x xs != neg) := by
  have gen : (a.fl.bind fun v => (seqOf b).bind fun ds => (flsOf ds).map fun vs => D.bl (inV v vs != neg)) = some c → ∃ p xs, y = .ref p ∧ (SqL K H p xs ∨ SqT K H p xs) ∧ flatV x = true ∧ xs.all flatV = true ∧ c = .bl (inV x xs != neg) := fun h => by
    obtain ⟨v, e1, h⟩ := Option.bind_eq_some_iff.mp h
    obtain ⟨ds, e2, h⟩ := Option.bind_eq_some_iff.mp h
    obtain ⟨vs, e3, h⟩ := Option.map_eq_some_iff.mp h
    obtain ⟨h1, h2⟩ := fl_rep ra e1
    obtain ⟨p, ws, rfl, sq, rr⟩ := seq_rep rb e2
    obtain ⟨k1, k2⟩ := fls_rep rr e3
    subst h1 k1
    exact ⟨p, ws, rfl, sq, h2, k2, h.symm⟩
  unfold dIn at h
  split at h
  · cases h
    cases ra
    cases rb
    exact .inl ⟨_, _, rfl, rfl, rfl⟩
  · exact .inr (gen h)
theorem inS_cases (x z : Str) : (∃ c, x = ⟨#[c]⟩ ∧ inS x z = decide (c ∈ z.cps.toList)) ∨ inS x z = !(Builtin.Str.occurrences z x 0 z.length 1).isEmpty := by
  unfold inS
  split
  · exact .inl ⟨_, rfl, rfl⟩
  · exact .inr rfl
theorem f_in2 {K : PySem.W.Frag} : Op2S K (rIn2S K) (dIn false) := by
  intro H x y a b c ra rb h
  rcases in_go ra rb h with ⟨i, j, rfl, rfl, rfl⟩ | ⟨p, xs, rfl, sq, f1, f2, rfl⟩
  · refine ⟨_, rfl, fun Q q => ?_⟩
    rw [Bool.bne_false] at q
    rcases inS_cases i j with ⟨k, rfl, e⟩ | e
    · rw [e] at q; exact .inl ⟨k, j, rfl, rfl, q⟩
    · rw [e] at q; exact .inr (.inl ⟨i, j, rfl, rfl, q⟩)
  · refine ⟨_, rfl, fun Q q => .inr (.inr ⟨p, xs, rfl, sq, f1, f2, ?_⟩)⟩
    rw [Bool.bne_false] at q
    exact q
theorem f_notIn2 {K : PySem.W.Frag} : Op2S K (rNotIn2S K) (dIn true) := by
  intro H x y a b c ra rb h
  rcases in_go ra rb h with ⟨i, j, rfl, rfl, rfl⟩ | ⟨p, xs, rfl, sq, f1, f2, rfl⟩
  · refine ⟨_, rfl, fun Q q => ?_⟩
    rw [Bool.bne_true] at q
    rcases inS_cases i j with ⟨k, rfl, e⟩ | e
    · rw [e] at q; exact .inl ⟨k, j, rfl, rfl, q⟩
    · rw [e] at q; exact .inr (.inl ⟨i, j, rfl, rfl, q⟩)
  · refine ⟨_, rfl, fun Q q => .inr (.inr ⟨p, xs, rfl, sq, f1, f2, ?_⟩)⟩
    rw [Bool.bne_true] at q
    exact q
noncomputable def repS (x : Str) (n : Int) : Str := ⟨(List.replicate n.toNat x.cps).foldl (· ++ ·) #[]⟩
theorem foldl_empty : ∀ n : Nat, (List.replicate n (#[] : Array Nat)).foldl (· ++ ·) #[] = #[]
  | 0 => rfl
  | n + 1 => by rw [List.replicate_succ, List.foldl_cons]; exact foldl_empty n
noncomputable def rMulS : R2 := fun x y H Q => ∃ a n, x = .str a ∧ y = .int n ∧ 0 ≤ n ∧ n ≤ 16777216 ∧ a.length * n.toNat ≤ 16777216 ∧ Q (.str (repS a n)) H
theorem foldl_size (c : Array Nat) : ∀ (n : Nat) (acc : Array Nat), ((List.replicate n c).foldl (· ++ ·) acc).size = acc.size + c.size * n
  | 0, acc => by simp
  | n + 1, acc => by
    rw [List.replicate_succ, List.foldl_cons, foldl_size c n, Array.size_append, Nat.mul_succ]; omega
theorem repS_length (x : Str) (n : Int) : (repS x n).length = x.length * n.toNat := by
  show ((List.replicate n.toNat x.cps).foldl (· ++ ·) #[]).size = _
  rw [foldl_size]
  show 0 + x.cps.size * n.toNat = x.cps.size * n.toNat
  omega
theorem repS_same {x : Str} {n : Int} (h : (n == 1 || x.length == 0) = true) : repS x n = x := by
  rw [Bool.or_eq_true, beq_iff_eq, beq_iff_eq] at h
  unfold repS
  rcases h with d | d
  · subst d
    show (⟨#[] ++ x.cps⟩ : Str) = x
    rw [Array.empty_append]
  · obtain ⟨c⟩ := x
    have e : c = #[] := Array.eq_empty_of_size_eq_zero d
    subst e
    show (⟨(List.replicate n.toNat #[]).foldl (· ++ ·) #[]⟩ : Str) = _
    rw [foldl_empty]
theorem op_mulS {X : Cx} : OpR X (binaryOp .Mult) rMulS := by
  intro pins s σ H x y v u Q I rx ry h
  obtain ⟨a, n, rfl, rfl, h0, h1, h2, q⟩ := h
  obtain ⟨t, rfl⟩ := rx
  obtain ⟨t', rfl⟩ := ry
  refine P.mul_str (by
    have z1 : ¬ n < -(2 ^ 63 : Int) := by omega
    have z2 : ¬ n ≥ (2 ^ 63 : Int) := by omega
    rw [decide_eq_false z1, decide_eq_false z2]; rfl) (fun g1 g2 g3 => ?_) (fun g1 g2 => ?_) ?_
  · have g3 := (Int.ediv_lt_iff_lt_mul (show 0 < n by omega)).mp g3
    have e : (a.length : Int) * n = ((a.length * n.toNat : Nat) : Int) := by rw [Int.natCast_mul, Int.toNat_of_nonneg h0]
    omega
  · unfold Builtin.Str.tooLong
    rw [sizeLine_eq]
    exact decide_eq_false (by omega)
  · by_cases c : n < 1
    · rw [if_pos c]
      have e : n.toNat = 0 := by omega
      have : repS a n = Str.empty := by unfold repS; rw [e]; rfl
      rw [this] at q
      exact ⟨by decide, .str Str.empty, H, I.tok _, ⟨_, rfl⟩, q⟩
    · rw [if_neg c]
      by_cases d : (n == 1 || a.length == 0) = true
      · rw [if_pos d]
        rw [repS_same d] at q
        exact ⟨.str a, H, I, ⟨_, rfl⟩, q⟩
      · rw [if_neg d]
        have hl := repS_length a n
        refine ⟨?_, .str (repS a n), H, I.tok _, ⟨_, rfl⟩, q⟩
        show (repS a n).length ≤ sizeLine
        rw [sizeLine_eq, hl]
        exact h2
noncomputable def dMulX : D → D → Option D
  | .str a, .int n => if 0 ≤ n ∧ n ≤ 16777216 ∧ a.length * n.toNat ≤ 16777216 then some (.str (repS a n)) else none
  | a, b => dMul a b
noncomputable def rMulX : R2 := fun x y H Q => rMulS x y H Q ∨ (rI CMulW fun i j => .int (i * j)) x y H Q
theorem op_mulX2 {X : Cx} : OpR X (binaryOp .Mult) rMulX := op_mulS.or op_mulW
theorem f_mulX {K : PySem.W.Frag} : Op2S K rMulX dMulX := by
  intro H x y a b c ra rb h
  unfold dMulX at h
  split at h
  · split at h
    · rename_i hl
      cases h
      cases ra
      cases rb
      exact ⟨_, rfl, fun Q q => .inl ⟨_, _, rfl, rfl, hl.1, hl.2.1, hl.2.2, q⟩⟩
    · cases h
  · obtain ⟨v, h1, h2⟩ := f_mul H x y a b c ra rb h
    exact ⟨v, h1, fun Q q => .inr (h2 Q q)⟩
noncomputable def CallT (K : PySem.W.Frag) (r : List V → Hp → VK → Prop) (f : List D → Option (List D)) : Prop := ∀ F H xs ds cs, Same F H → Reps K F xs ds → f ds = some cs → ∀ Q : VK, (∀ p vs, H p = none → Reps K F vs cs → Q (.ref p) (upd H p (.tup vs))) → r xs H Q
noncomputable def mCallT (f : List D → Option (List D)) (a : SD → ER (List D)) : SD → ER D := fun sd => (a sd).bind fun xs sd1 => ER.opt ((f xs).map .tup) sd1
noncomputable def dTupOf : List D → Option (List D)
  | [.lst ds] => some ds
  | _ => none
noncomputable def rTupOf (K : PySem.W.Frag) : List V → Hp → VK → Prop := fun xs H Q => ∃ p ys, xs = [.ref p] ∧ ((SqL K H p ys ∧ ∀ l, H l = none → Q (.ref l) (upd H l (.tup ys))) ∨ (SqT K H p ys ∧ Q (.ref p) H))
theorem f_tupOf {K : PySem.W.Frag} : CallT K (rTupOf K) dTupOf := by
  intro F H xs ds cs hF rs h Q hQ
  unfold dTupOf at h
  split at h
  · cases h
    obtain ⟨v, rfl, r1⟩ := reps1 rs
    cases r1 with
    | lst s t => exact ⟨_, _, rfl, .inl ⟨.inl (Same.rd hF s), fun l hl => hQ l _ hl t⟩⟩
  · cases h
noncomputable def dListOf : List D → Option (List D)
  | [d] => seqOf d
  | _ => none
noncomputable def rListOf (K : PySem.W.Frag) : List V → Hp → VK → Prop := fun xs H Q => ∃ p ys, xs = [.ref p] ∧ (SqL K H p ys ∨ SqT K H p ys) ∧ ∀ l, H l = none → Q (.ref l) (upd H l (.lst ys))
theorem f_listOf {K : PySem.W.Frag} : CallL K (rListOf K) dListOf := by
  intro F H xs ds cs hF rs h Q hQ
  unfold dListOf at h
  split at h
  · obtain ⟨v, rfl, r1⟩ := reps1 rs
    obtain ⟨a, vs, rfl, sq, rr⟩ := seq_rep r1 h
    refine ⟨a, vs, rfl, ?_, fun l hl => hQ l _ hl rr⟩
    rcases sq with sq | sq
    · exact .inl (hF.seq sq)
    · exact .inr (Same.sqt hF sq)
  · cases h
section
variable {X : Cx} {pv : List V} {W : WX} {p q k l : Bool} {tg o e a b : Expr} {es : List Expr} {apos cpos pos pp : Pos} {name : Str} {T id : String}
theorem tr_callT {r : List V → Hp → VK → Prop} {f : List D → Option (List D)} {ta : TA} {m : SD → ER (List D)} (hf : CallT X.K r f) (h : TrA X.K pv W p true ta m) : TrX X.K pv W p true (tCB r ta) (mCallT f m) := by
  intro G F sd σ H Q s
  refine Meets.bindL (h G F sd σ H _ s) fun xs F1 H1 ds sd1 s1 s2 s3 s4 => ?_
  cases e : f ds with
  | none => exact True.intro
  | some cs =>
    intro hQ
    refine hf F1 H1 xs ds cs s2.fh s3 e Q fun p vs hp hr => ?_
    exact hQ _ _ _ (s2.sameNew hp) (s2.new hp) (.tup upd_same (hr.mono (s2.sameNew hp))) fun _ => ⟨Same.upd hp, rfl⟩
theorem dx_callTyT {x : Str} {T : String} {pp : Pos} {r : List V → Hp → VK → Prop} {f : List D → Option (List D)} {m : SD → ER (List D)} (hc : CallR X (.type T) r) (hf : CallT X.K r f) (hg : Gl X x) (hm : X.mg x = none) (hv : bootBuiltins x = some (.type T)) (ha : DA X pv W p true (e :: es) m)
    (hn : x ≠ "__name__" := by decide) (hdb : (x == ("__debug__" : Str)) = false := by decide) (he : starEach (e :: es) X.env = (false, eval e X.env) :: starEach es X.env := by rfl) (hpl : (backTo pos (starEach es X.env)).any (·.1) = false := by rfl) :
    DX X pv W p true (.Call (.Name x pp) (e :: es) [] pos) (mCallT f m) := by
  obtain ⟨ta, a1, a2⟩ := ha
  exact ⟨_, pe_callTy hc hg hm hv a1 hn hdb he hpl, tr_callT hf a2⟩
theorem tr_bmL {r : V → List V → Hp → VK → Prop} {t : D → Bool} {f : D → List D → Option (List D)} {to : TE} {ta : TA} {mo : SD → ER D} {ma : SD → ER (List D)} (ht : TyD X.K T t) (hf : CallML X.K r f) (ho : TrX X.K pv W p true to mo) (ha : TrA X.K pv W q true ta ma) :
    TrO X.K pv W (p && q) (tBM X.K T r to ta) (mBmL t f mo ma) := by
  intro G F sd σ H Q s
  refine Meets.bind (ho G F sd σ H _ s) fun x F1 H1 d sd1 s1 s2 s3 s4 => ?_
  have hq : q = (q && true) := by cases q <;> rfl
  rw [hq]
  by_cases tt : t d = true
  · rw [if_pos tt]
    have ty := ht H1 x d (RSx.see s3 s2) tt
    refine Meets.to ?_ fun z => ⟨ty, z⟩
    refine Meets.bind (ha G F1 sd1 σ H1 _ s2) fun xs F2 H2 ds sd2 t1 t2 t3 t4 => ?_
    cases e : f d ds with
    | none => exact True.intro
    | some cs =>
      intro hQ
      refine hf F2 H2 x xs d ds cs t2.fh (Rep.mono t1 s3) t3 e Q fun p vs hp hr => ?_
      have z := t2.newL hp hr
      exact hQ _ _ _ (Same.refl _) z.drop z fun _ => ⟨Same.upd hp, rfl⟩
  · rw [if_neg tt]
    exact True.intro
theorem do_split {mo : SD → ER D} {ma : SD → ER (List D)} (ho : DX X pv W p true o mo) (ha : DA X pv W q true [e] ma) (hbase : attributeBase o "split" X.env (eval o X.env) = eval o X.env := by rfl)
    (hfew : ((backTo cpos (starEach [e] X.env)).all (fun x => !x.1) && (backToKw cpos (keywordEach [] X.env)).all (fun x => x.1.isSome) && decide ([e].length + ([] : List Keyword).length + (if ([] : List Keyword).isEmpty then 0 else 1) < 30)) = true := by rfl)
    (hline : (apos.endLine == cpos.line) = true := by rfl) (hs : starEach [e] X.env = (false, eval e X.env) :: starEach [] X.env := by rfl) (hplain : (backTo cpos (starEach [] X.env)).any (·.1) = false := by rfl) :
    DO X pv W (p && q) (.Call (.Attribute o "split" apos) [e] [] cpos) (mBmL D.isS dSplit mo ma) := by
  obtain ⟨to, o1, o2⟩ := ho
  obtain ⟨ta, a1, a2⟩ := ha
  exact ⟨_, pe_bm PySem.F.plainAttrs_str PySem.F.slot_str_split PySem.F.type_str_split mt_split o1 a1 hbase hfew hline hs hplain, tr_bmL ty_str f_split o2 a2⟩
theorem dx_join {mo : SD → ER D} {ma : SD → ER (List D)} (ho : DX X pv W p k o mo) (ha : DA X pv W q l [e] ma) (hk : (k || q) = true := by rfl) (hbase : attributeBase o "join" X.env (eval o X.env) = eval o X.env := by rfl)
    (hfew : ((backTo cpos (starEach [e] X.env)).all (fun x => !x.1) && (backToKw cpos (keywordEach [] X.env)).all (fun x => x.1.isSome) && decide ([e].length + ([] : List Keyword).length + (if ([] : List Keyword).isEmpty then 0 else 1) < 30)) = true := by rfl)
    (hline : (apos.endLine == cpos.line) = true := by rfl) (hs : starEach [e] X.env = (false, eval e X.env) :: starEach [] X.env := by rfl) (hplain : (backTo cpos (starEach [] X.env)).any (·.1) = false := by rfl) :
    DX X pv W (p && q) true (.Call (.Attribute o "join" apos) [e] [] cpos) (mBm D.isS dJoin mo ma) :=
  dx_bm PySem.F.plainAttrs_str PySem.F.slot_str_join PySem.F.type_str_join mt_join ty_str f_join ho ha hk hbase hfew hline hs hplain
noncomputable def iStrD (a : SD → ER D) : SD → ER (List D) := fun sd => (a sd).bind fun x sd1 => match x with
  | .str x => .ok (x.cps.toList.map fun c => .str ⟨#[c]⟩) sd1
  | _ => .bad
theorem walk_str {K : PySem.W.Frag} {F : Hp} {x : Str} : Walk K (Its x) F (x.cps.toList.map fun c => .str ⟨#[c]⟩) where
  stop := fun F' H' e1 e2 => by
    show x.cps.size ≤ _
    rw [List.length_map, Array.length_toList]
    exact Nat.le_refl _
  go := fun F' H' i d e1 e2 hd => by
    rw [List.getElem?_map] at hd
    obtain ⟨c, h1, _⟩ := Option.map_eq_some_iff.mp hd
    have := (List.getElem?_eq_some_iff.mp h1).1
    rwa [Array.length_toList] at this
  yld := fun F' H' i d z H'' e1 e2 hd ⟨hH, c, hc, hz⟩ => by
    rw [List.getElem?_map, Array.getElem?_toList, hc] at hd
    cases hd
    subst hz
    exact .inl ⟨hH, .str _⟩
theorem di_str {m : SD → ER D} (h : DX X pv W p true e m) : DI X pv W p tg e (iStrD m) := by
  obtain ⟨te, a1, a2⟩ := h
  refine ⟨_, pi_str a1, fun G F sd σ H R s => ?_⟩
  refine Meets.bindL (a2 G F sd σ H _ s) fun x F1 H1 dx sd1 s1 s2 s3 s4 => ?_
  have s3 : Rep X.K F1 x dx := s3
  cases dx with
  | str z =>
    cases s3
    exact Meets.here s2 (show RSw X.K G F1 sd1 H1 σ (Its z) _ from walk_str) fun q => ⟨z, rfl, q⟩
  | _ => exact True.intro
end
theorem fn_bad {P : Program} {w : World} {K : PySem.W.Frag} {mg : Str → Option Value} {base : Heap} {k n : Nat} {f : Addr} {fd : FuncData} {ps : List Str} : FnG P w K mg base (L2.CX P w) k f fd ps (spD K n fun _ => .bad) where
  len := fun vs H Q E h => by
    obtain ⟨_, _, _, _, _, _, h⟩ := h
    exact h.elim
  run := fun A out s H args us vs Q E x e0 bd rel h => by
    obtain ⟨_, _, _, _, _, _, h⟩ := h
    exact h.elim
end DL
namespace DL
open PySem PySem.Spec L2
end DL
namespace DL
open PySem PySem.Spec L2
theorem fldO_rep {K : PySem.W.Frag} {F H : Hp} {f : Str} {d : D} : ∀ {fs : List (Str × V)} {ts : List OT} {P : Addr → Prop}, RepOs K F H ts (fs.map (·.2)) P → fldD f (fs.map (·.1)) ts = some (.fz d) → ∃ v, fs.lookup f = some v ∧ Rep K F v d
  | [], ts, P, _, h => by cases ts <;> cases h
  | (n, v) :: fs, [], P, r, _ => by
    unfold RepOs at r
    cases r
  | (n, v) :: fs, t :: ts, P, r, h => by
    unfold RepOs at r
    obtain ⟨v', ws, P1, P2, e, _, _, r1, r2⟩ := r
    rw [List.map_cons] at e
    injection e with e1 e2
    subst e1 e2
    rw [List.map_cons, fldD] at h
    rw [lookup_head]
    by_cases q : n = f
    · rw [if_pos q] at h ⊢
      cases h
      unfold RepO at r1
      exact ⟨_, rfl, r1⟩
    · rw [if_neg q] at h ⊢
      exact fldO_rep r2 h
noncomputable def mFldO (ok : Addr → Bool) (i : Nat) (f : Str) : SD → ER D := fun sd => match sd.tree i with
  | some (.oi C ns ts) => if ok C = true then (match fldD f ns ts with
    | some (.fz d) => .ok d sd
    | _ => .bad) else .bad
  | _ => .bad
section
variable {X : Cx} {pv : List V} {W : WX}
theorem dx_fldO {ok : Addr → Bool} {f x : Str} {i : Nat} {pp pos : Pos} (hx : PE X (.Name x pp) (tVar i)) (hf : ∀ C, ok C = true → Cls X.K C ∧ NoAttr X.K C f) (hb : attributeBase (.Name x pp) f X.env (eval (.Name x pp) X.env) = eval (.Name x pp) X.env := by rfl) : DX X pv W true true (.Attribute (.Name x pp) f pos) (mFldO ok i f) := by
  refine ⟨_, pe_fld hx hb, fun G F sd σ H Q s => ?_⟩
  unfold mFldO
  split
  · rename_i C ns ts e0
    split
    · rename_i hok
      obtain ⟨c1, c2⟩ := hf C hok
      split
      · rename_i d e1
        obtain ⟨v, P, h1, h2⟩ := s.tree e0
        unfold RepO at h2
        obtain ⟨a, dx, fvs, rfl, _, ha, rfl, r⟩ := h2
        obtain ⟨u, k1, k2⟩ := fldO_rep r e1
        exact Meets.here s (show RSx X.K true G F sd H σ u d from k2) fun q => ⟨.ref a, h1, a, C, dx, fvs, u, rfl, ha, c1, c2, k1, q⟩
      · exact True.intro
    · exact True.intro
  · exact True.intro
end
end DL
namespace DL
open PySem PySem.Spec L2
end DL
namespace DL
open PySem PySem.Spec L2 PyProof.Rows
section
variable {X : Cx} {pins : List (Addr × Obj)} {σ : L2.St} {H : Hp} {s : Shared}
theorem inv_track {a : Addr} {o : HO} (I : Inv X pins σ H s) (hn : H a = none) (n0 : X.s_0.heap.get? a = none) (nL : a ≠ X.env.locals) (nC : ∀ x c, X.env.cells.lookup x = some c → c ≠ a)
    (nP : ∀ p ∈ X.pn ++ pins, p.1 ≠ a) (new : ObjOk X.prog X.w (upd H a o) s.heap a o) : Inv X pins σ (upd H a o) s := by
  have n1 : ∀ b ob, X.s_0.heap.get? b = some ob → b ≠ a := fun b ob e z => by rw [z, n0] at e; cases e
  refine ⟨I.ok, I.os, I.bare, ⟨I.base.keep, I.base.slot, fun b ob e n hx => ?_, I.base.there, fun b xs q => ?_, fun b ob y q => ?_, fun b qs q => ?_⟩, I.loc, I.cell, ?_, fun x c e => ?_, fun p hp => ?_, fun b u e => ?_, I.len⟩
  · rw [upd_ne (n1 b ob e)]; exact I.base.free b ob e n hx
  · have q2 := I.base.tups b xs q
    rw [upd_ne (ne_of_none q2 hn)]; exact q2
  · have q2 := I.base.frzs b ob y q
    rw [upd_ne (ne_of_none q2 hn)]; exact q2
  · obtain ⟨more, q2⟩ := I.base.tbls b qs q
    exact ⟨more, by rw [upd_ne (ne_of_none q2 hn)]; exact q2⟩
  · rw [upd_ne (Ne.symm nL)]; exact I.free
  · rw [upd_ne (nC x c e)]; exact I.freeC x c e
  · obtain ⟨h1, h2, h3⟩ := I.pin p hp
    exact ⟨h1, by rw [upd_ne (nP p hp)]; exact h2, h3⟩
  · by_cases hb : b = a
    · subst hb
      rw [upd_same] at e
      cases e
      exact new
    · rw [upd_ne hb] at e
      exact (I.hok b u e).stay (fun c v _ q => q) (fun c q => by rw [upd_ne (ne_of_none q hn)]; exact q) fun c xs q => by rw [upd_ne (ne_of_none q hn)]; exact q
theorem exT_ok {P : Program} {w : World} {H : Hp} {h : Heap} {a : Addr} {cls : Value} {d : Option Addr} {oe : Obj} {vs : Array Value} (e : h.get? a = some oe) (z : Zc cls d oe) (hd : oe.data = .fields vs) : ObjOk P w H h a (ExT cls d a) :=
  ⟨⟨oe, e, z, vs, hd⟩, ⟨oe, e⟩, fun _ _ ⟨o, q, r⟩ k => ⟨o, k o q, r⟩⟩
/-- into an except suite, and out of it -/
theorem inv_suite {a : Addr} (I : Inv X pins σ H s) : Inv (X.suite a (X.pn ++ pins)) [] σ H s :=
  ⟨I.ok.suite _ _, I.os, I.bare, I.base, I.loc, I.cell, I.free, I.freeC, fun p hp => I.pin p (by rw [List.append_nil] at hp; exact hp), I.hok, I.len⟩
theorem inv_unsuite {a : Addr} {pn' : List (Addr × Obj)} (I : Inv (X.suite a (X.pn ++ pins)) pn' σ H s) (ok : X.Ok) : Inv X pins σ H s :=
  ⟨ok, I.os, I.bare, I.base, I.loc, I.cell, I.free, I.freeC, fun p hp => I.pin p (List.mem_append_left _ hp), I.hok, I.len⟩
end
/-- the ends of a suite: the clause's name goes -/
noncomputable def sEnd (D : Ends) (i : Nat) : Ends := { nx := fun σ' H' => D.nx (σ'.set i none) H', rt := D.rt, bk := fun σ' H' => D.bk (σ'.set i none) H', ct := fun σ' H' => D.ct (σ'.set i none) H' }
/-- what an exception of the body must be: of the class that the clause names, and good for the suite -/
noncomputable def wKeep (X : Cx) (c : Value) (i : Nat) (suite : List Stmt) (D : Ends) : WX := fun cls d σ H =>
  PySem.W.exmOne X.K cls c = some true ∧ ∀ a pn, H a = none → ∃ ts, PSs (X.suite a pn) suite ts ∧ ts (sEnd D i) (σ.set i (some (.ref a))) (upd H a (ExT cls d a))
/-- an exception of the body, in the hands of the frame: sI, the state without it, is one of ours -/
structure Caught (X : Cx) (pins : List (Addr × Obj)) (B : Heap) (a : Addr) (cls : Value) (d : Option Addr) (σ : L2.St) (H : Hp) (z : Shared) : Prop where
  fly : HandSPX.FlyingZ B (X.env :: X.outer) a (Zc cls d) z.heap
  was : ∃ y : Shared, Inv X pins σ H y ∧ (∀ b o, y.heap.get? b = some o → b ∉ frs X.stack → B.get? b = some o) ∧ y.heap.UpToSlots z.heap ∧ z.os = y.os
  bare : AllBare z.gens
  new : H a = none
section
variable {X : Cx} {pins : List (Addr × Obj)} {B : Heap} {a : Addr} {cls : Value} {d : Option Addr} {σ : L2.St} {H : Hp} {z : Shared}
theorem Caught.move {h : Heap} (c : Caught X pins B a cls d σ H z) (f : HandSPX.FlyingZ B (X.env :: X.outer) a (Zc cls d) h) (u : z.heap.UpToSlots h) : Caught X pins B a cls d σ H { z with heap := h } :=
  let ⟨y, i, n, v, o⟩ := c.was
  ⟨f, ⟨y, i, n, v.trans u, o⟩, c.bare, c.new⟩
theorem Caught.inv (c : Caught X pins B a cls d σ H z) : Inv X pins σ H z :=
  let ⟨_, i, n, v, o⟩ := c.was
  i.landed n c.fly.1 v o c.bare
/-- no frame is an exception -/
theorem Caught.noframe (c : Caught X pins B a cls d σ H z) : a ∉ frs (X.env :: X.outer) := fun m => by
  obtain ⟨oe, vs, e1, _, e2⟩ := c.fly.there
  obtain ⟨_, o2, e3, n⟩ := c.fly.2.2.1.mem m
  exact n vs (by rw [e1] at e3; cases e3; exact e2)
/-- and from here on it is tracked -/
theorem Caught.kept (hs : X.stack = X.env :: X.outer) (hf : X.env.frame = some X.env.locals) (hex : X.ex = []) (c : Caught X pins B a cls d σ H z) : Inv X pins σ (upd H a (ExT cls d a)) z := by
  obtain ⟨y, i, n, v, o⟩ := c.was
  have nf := c.noframe
  have ny : y.heap.get? a = none := by
    cases e : y.heap.get? a with
    | none => rfl
    | some u => exact nomatch c.fly.2.1.symm.trans (n a u e (by rw [hs]; exact nf))
  have n0 : X.s_0.heap.get? a = none := by
    cases e : X.s_0.heap.get? a with
    | none => rfl
    | some u =>
      obtain ⟨w, ew⟩ := i.base.there a u e (by rw [hex]; exact fun q => nomatch q)
      exact nomatch ny.symm.trans ew
  obtain ⟨oe, vs, e1, e2, e3⟩ := c.fly.there
  refine inv_track c.inv c.new n0 (fun q => nf (List.mem_filterMap.mpr ⟨X.env, List.mem_cons_self, hf.trans (congrArg some q.symm)⟩)) (fun x k e q => ?_) (fun p m q => ?_) (exT_ok e1 e2 e3)
  · obtain ⟨_, u, eu, _⟩ := i.cell x k e
    rw [q] at eu
    exact nomatch ny.symm.trans eu
  · have eu := (i.pin p m).1
    rw [q] at eu
    exact nomatch ny.symm.trans eu
end
section
variable {X : Cx} {x n : Str} {c : Value} {i : Nat} {body suite : List Stmt} {b₀ : Stmt} {np pos pos' : Pos}
/-- the clause takes it -/
theorem Caught.handle {pins : List (Addr × Obj)} {B : Heap} {a : Addr} {cls : Value} {d : Option Addr} {σ : L2.St} {H : Hp} {z : Shared} {D : Ends} (hs : X.stack = X.env :: X.outer) (hf : X.env.frame = some X.env.locals) (hex : X.ex = [])
    (hN : X.N.Nodup) (hi : X.N[i]? = some n) (hln : X.env.kindOf n = some .local) (hc : Names X x c) (k : Caught X pins B a cls d σ H z) (w : wKeep X c i (b₀ :: suite) D cls d σ H) :
    wpAny (model X.prog X.w) X.A (handleBy (.ref a) X.env [.ExceptHandler (some (.Name x np)) (some n) (b₀ :: suite) pos']) (SP X pins D) X.xe z := by
  have ok := k.inv.ok
  obtain ⟨w1, w2⟩ := w
  obtain ⟨oe, vs, e1, e2, e3⟩ := k.fly.there
  have T : Inv (X.suite a (X.pn ++ pins)) [] σ H z := inv_suite k.inv
  have cl : PySem.W.Looks (model X.prog X.w) z.heap (typeOf (.ref a)) cls := fun _ _ _ _ keep q => wpAny_typeOf_ref (keep _ _ e1) (e2.1 ▸ q)
  have yes := PySem.W.exm_one (M := model X.prog X.w) k.inv.kIn cl w1
  refine wpAny_handleBy_cons (codeAny_handlers_test ?_) (fun q => nomatch q)
  have found : ∀ {R : Value → Shared → Prop} {E : Value → Shared → Prop}, R c z → wpAny (model X.prog X.w) (X.suite a (X.pn ++ pins)).A (eval (.Name x np) X.env) R E z := fun {R E} r => by
    rcases hc.2.2 with m | ⟨m, v, nn⟩
    · exact ld_glob (X := X.suite a (X.pn ++ pins)) T hc.1 m r hc.2.1
    · exact ld_blt (X := X.suite a (X.pn ++ pins)) T hc.1 m v r nn hc.2.1
  refine found (yes.here (codeAny_handlers_suite_as (HandSPX.lands_againZ k.fly fun h f u => ?_)))
  have k2 := k.move f u
  obtain ⟨ts, p, q⟩ := w2 a (X.pn ++ pins) k.new
  have gone : ∀ {σ6 : L2.St} {H6 : Hp} {y : Shared} {R : Shared → Prop}, Inv (X.suite a (X.pn ++ pins)) [] σ6 H6 y → (∀ y', Inv X pins (σ6.set i none) H6 y' → R y') →
      wpAny (model X.prog X.w) X.A (do bindName X.env n .none; unbindBehindTheSuite X.env n pos') (fun _ y' => R y') X.xe y := fun J r => gone_ok (inv_unsuite J ok) hN hi hln r
  refine store_ok (X := X.suite a (X.pn ++ pins)) (v := .ref a) (inv_suite (k2.kept hs hf hex)) hN hi (.inl hln) rfl (fun y J => ?_) (.inr hln)
  refine wpAny_mono (p.run [] y _ _ _ J q) (fun fl y2 g => ?_) fun _ _ g => g.elim
  rcases fl with _ | _ | _ | u
  all_goals first
    | (obtain ⟨σ6, H6, J6, g⟩ := g
       exact gone J6 fun y3 J7 => ⟨_, _, J7, g⟩)
    | (obtain ⟨v6, σ6, H6, J6, r6, g⟩ := g
       exact gone J6 fun y3 J7 => ⟨_, _, _, J7, r6, g⟩)
/-- try .. except X as n: the exception stays a value behind the suite. What the body lets out is caught -/
theorem ps_try_keep (hs : X.stack = X.env :: X.outer) (hf : X.env.frame = some X.env.locals) (hex : X.ex = []) (hN : X.N.Nodup) (hi : X.N[i]? = some n) (hln : X.env.kindOf n = some .local) (hc : Names X x c) :
    PS X (.Try body [.ExceptHandler (some (.Name x np)) (some n) (b₀ :: suite) pos'] [] [] pos) (fun D σ H => ∀ pn xe, Takes (X.tr pn xe) (wKeep X c i (b₀ :: suite) D) → PassesOwn (model X.prog X.w) X.A X.env xe → ∃ ts, PSs (X.tr pn xe) body ts ∧ ts D σ H) := by
  refine ⟨fun pins s σ H D I h => wpAny_Try_except ?_⟩
  have hfr : X.A.frames = some (X.env :: X.outer) := I.ok.frames.trans (congrArg some hs)
  obtain ⟨tb, hb, h⟩ := h (X.pn ++ pins) (fun e y => wpAny (model X.prog X.w) X.A (noteFrame e X.env) (fun _ y2 => wpAny (model X.prog X.w) X.A (setFlight e none) (fun _ y3 => wpAny (model X.prog X.w) X.A (handleBy e X.env [.ExceptHandler (some (.Name x np)) (some n) (b₀ :: suite) pos']) (SP X pins D) X.xe y3) X.xe y2) X.xe y) (fun u z q => by
    obtain ⟨a, B, y, _, σ2, H2, cls, d, rfl, J, n1, up, sky, na, os, ag, w⟩ := q
    have sky : Sky B (X.env :: X.outer) a (Zc cls d) X.env.locals z.heap := hs ▸ sky
    exact Sky.land Zc.steady hfr hf sky fun hh f u => Caught.handle (z := { z with heap := hh }) hs hf hex hN hi hln hc ⟨f, ⟨y, J.ofTry I.ok, n1, up.trans u, os⟩, ag, na⟩ w) PassesOwn.looking
  refine wpAny_mono (hb.run [] s σ H D (I.toTry _) h) (fun fl y g => ?_) fun _ _ g => g
  rcases fl with _ | _ | _ | u
  · obtain ⟨σ2, H2, J, g⟩ := g
    exact wpAny_execs_nil ⟨σ2, H2, J.ofTry I.ok, g⟩
  all_goals first
    | (obtain ⟨σ2, H2, J, g⟩ := g
       exact ⟨σ2, H2, J.ofTry I.ok, g⟩)
    | (obtain ⟨v, σ2, H2, J, r, g⟩ := g
       exact ⟨v, σ2, H2, J.ofTry I.ok, r, g⟩)
end
noncomputable def Exn.okB (x : Exn) : Bool := match x.fs with
  | some [] => false
  | _ => true
noncomputable def Exn.toD (x : Exn) : D := .exc x.C ((x.fs.getD []).map (·.1)) ((x.fs.getD []).map (·.2))
noncomputable def SD.unset (sd : SD) (i : Nat) : SD := { sd with sl := sd.sl.set i .un }
noncomputable def Fl.unset (i : Nat) (r : Fl) : Fl := match r with
  | .nx sd => .nx (sd.unset i)
  | .bk sd => .bk (sd.unset i)
  | .ct sd => .ct (sd.unset i)
  | .rt t sd => .rt t sd
  | _ => .bad
noncomputable def sTry (test : Addr → Bool) (i : Nat) (body suite : SD → Fl) : SD → Fl := fun sd => match body sd with
  | .rz x sd1 => if test x.C = true ∧ i < sd1.sl.length ∧ x.okB = true then (suite { sd1 with sl := sd1.sl.set i (.ow (.fz x.toD)) }).unset i else .bad
  | r => r
theorem StR.unset {K : PySem.W.Frag} {pv : List V} {G F H : Hp} {sd : SD} {σ : L2.St} (s : StR K pv G F sd σ H) (i : Nat) : StR K pv G F (sd.unset i) (σ.set i none) H := by
  obtain ⟨o, W⟩ := s
  have ne : ∀ (j : Nat) (z : S), (sd.sl.set i .un)[j]? = some z → z ≠ .un → i ≠ j ∧ sd.sl[j]? = some z := fun j z e hz => by
    by_cases h : i = j
    · subst h
      by_cases hl : i < sd.sl.length
      · rw [List.getElem?_set_self hl] at e; cases e; exact absurd rfl hz
      · rw [List.getElem?_eq_none (by simpa using hl)] at e; cases e
    · rw [List.getElem?_set_ne h] at e; exact ⟨h, e⟩
  refine ⟨o, W.fh, W.gh, W.fg, W.oh, W.oo, ?_, fun j t e => ?_, fun j l e => ?_, W.pr⟩
  · show (σ.set i none).length = (sd.sl.set i .un).length
    rw [List.length_set, List.length_set]; exact W.len
  · obtain ⟨h, e⟩ := ne j _ e (fun z => by cases z)
    obtain ⟨v, h1, h2⟩ := W.sl j t e
    exact ⟨v, by rw [List.getElem?_set_ne h]; exact h1, h2⟩
  · obtain ⟨h, e⟩ := ne j _ e (fun z => by cases z)
    obtain ⟨v, h1, h2⟩ := W.sp j l e
    exact ⟨v, h1, by rw [List.getElem?_set_ne h]; exact h2⟩
theorem RepX.value {K : PySem.W.Frag} {F F' : Hp} {cls : Value} {d : Option Addr} {x : Exn} {a : Addr} (r : RepX K F cls d x) (ok : x.okB = true) (e : Same F F') (h : F' a = some (ExT cls d a)) : Rep K F' (.ref a) x.toD := by
  obtain ⟨C, fs⟩ := x
  obtain ⟨h1, h2⟩ := r
  subst h1
  cases fs with
  | none =>
    have h2 : d = none := h2
    subst h2
    exact .exc (fvs := []) h (fun dx z => nomatch z) ⟨fun _ => rfl, fun _ => rfl⟩ .nil
  | some l =>
    obtain ⟨dx, fvs, rfl, hx, hn, rs⟩ := h2
    show Rep K F' (.ref a) (.exc C (l.map (·.1)) (l.map (·.2)))
    rw [← hn]
    refine .exc h (fun d z => by cases z; exact e _ _ hx) ⟨(fun z => by cases z), fun z => ?_⟩ (rs.mono e)
    subst z
    cases l with
    | nil => cases ok
    | cons _ _ => cases hn
section
variable {X : Cx} {pv : List V} {W : WX} {x n : Str} {c : Value} {i : Nat} {body suite : List Stmt} {b₀ : Stmt} {np pos pos' : Pos} {mb ms : SD → Fl} {test : Addr → Bool}
theorem ds_try (hs : X.stack = X.env :: X.outer) (hf : X.env.frame = some X.env.locals) (hex : X.ex = []) (hN : X.N.Nodup) (hi : X.N[i]? = some n) (hln : X.env.kindOf n = some .local) (hc : Names X x c)
    (ht : ∀ C, test C = true → PySem.W.exmOne X.K (.ref C) c = some true)
    (hb : ∀ (W' : WX) (pn : List (Addr × Obj)) (xe : Value → Shared → Prop), Takes (X.tr pn xe) W' → PassesOwn (model X.prog X.w) X.A X.env xe → DSs (X.tr pn xe) pv W' body mb)
    (hsu : ∀ (a : Addr) (pn : List (Addr × Obj)), DSs (X.suite a pn) pv (fun _ _ _ _ => False) (b₀ :: suite) ms) :
    DS X pv W (.Try body [.ExceptHandler (some (.Name x np)) (some n) (b₀ :: suite) pos'] [] [] pos) (sTry test i mb ms) := by
  refine ⟨_, ps_try_keep hs hf hex hN hi hln hc, fun G F sd σ H D s => ?_⟩
  have key : ∀ pn xe, Takes (X.tr pn xe) (wKeep X c i (b₀ :: suite) D) → PassesOwn (model X.prog X.w) X.A X.env xe → ∃ ts, PSs (X.tr pn xe) body ts ∧ MeetsS X.K pv (wKeep X c i (b₀ :: suite) D) G F (mb sd) D (ts D σ H) := fun pn xe t po => by
    obtain ⟨ts, p, tr⟩ := hb _ pn xe t po
    exact ⟨ts, p, tr G F sd σ H D s⟩
  unfold sTry
  revert key
  cases mb sd with
  | bad => exact fun _ => True.intro
  | nx sd1 => exact fun key hQ pn xe t po => let ⟨ts, p, m⟩ := key pn xe t po; ⟨ts, p, m hQ⟩
  | rt v sd1 => exact fun key hQ pn xe t po => let ⟨ts, p, m⟩ := key pn xe t po; ⟨ts, p, m hQ⟩
  | bk sd1 => exact fun key hQ pn xe t po => let ⟨ts, p, m⟩ := key pn xe t po; ⟨ts, p, m hQ⟩
  | ct sd1 => exact fun key hQ pn xe t po => let ⟨ts, p, m⟩ := key pn xe t po; ⟨ts, p, m hQ⟩
  | rz y sd1 =>
    intro key
    show MeetsS X.K pv W G F (if test y.C = true ∧ i < sd1.sl.length ∧ y.okB = true then (ms { sd1 with sl := sd1.sl.set i (.ow (.fz y.toD)) }).unset i else .bad) D _
    split
    · rename_i hil
      obtain ⟨htc, hil, hok⟩ := hil
      have su : ∀ cls dd F' σ' H' a pn, Same F F' → StR X.K pv G F' sd1 σ' H' → RepX X.K F' cls dd y → H' a = none → ∃ ts, PSs (X.suite a pn) (b₀ :: suite) ts ∧ Same F (upd F' a (ExT cls dd a)) ∧
          MeetsS X.K pv (fun _ _ _ _ => False) G (upd F' a (ExT cls dd a)) (ms { sd1 with sl := sd1.sl.set i (.ow (.fz y.toD)) }) (sEnd D i) (ts (sEnd D i) (σ'.set i (some (.ref a))) (upd H' a (ExT cls dd a))) := fun cls dd F' σ' H' a pn s1 s2 s3 hn => by
        obtain ⟨ts, p, tr⟩ := hsu a pn
        have sn := s2.sameNew (u := ExT cls dd a) hn
        have r := s3.value (a := a) hok sn upd_same
        exact ⟨ts, p, s1.trans sn, tr G _ _ _ _ (sEnd D i) ((StR1.fz (s2.new hn) r).store hil)⟩
      have wrap : (∀ cls dd F' σ' H', Same F F' → StR X.K pv G F' sd1 σ' H' → RepX X.K F' cls dd y → ∀ a pn, H' a = none → ∃ ts, PSs (X.suite a pn) (b₀ :: suite) ts ∧ ts (sEnd D i) (σ'.set i (some (.ref a))) (upd H' a (ExT cls dd a))) →
          ∀ pn xe, Takes (X.tr pn xe) (wKeep X c i (b₀ :: suite) D) → PassesOwn (model X.prog X.w) X.A X.env xe → ∃ ts, PSs (X.tr pn xe) body ts ∧ ts D σ H := fun h pn xe t po => by
        obtain ⟨ts, p, m⟩ := key pn xe t po
        refine ⟨ts, p, m fun cls dd F' σ' H' s1 s2 s3 => ?_⟩
        obtain ⟨e1, _⟩ := id s3
        exact ⟨by rw [e1]; exact ht _ htc, fun a pn hn => h cls dd F' σ' H' s1 s2 s3 a pn hn⟩
      revert su
      cases ms { sd1 with sl := sd1.sl.set i (.ow (.fz y.toD)) } with
      | bad => exact fun _ => True.intro
      | rz _ _ => exact fun _ => True.intro
      | nx sd2 =>
        intro su hQ
        refine wrap fun cls dd F' σ' H' s1 s2 s3 a pn hn => ?_
        obtain ⟨ts, p, sm, m⟩ := su cls dd F' σ' H' a pn s1 s2 s3 hn
        exact ⟨ts, p, m fun F2 σ2 H2 t1 t2 => hQ F2 _ H2 (sm.trans t1) (t2.unset i)⟩
      | bk sd2 =>
        intro su hQ
        refine wrap fun cls dd F' σ' H' s1 s2 s3 a pn hn => ?_
        obtain ⟨ts, p, sm, m⟩ := su cls dd F' σ' H' a pn s1 s2 s3 hn
        exact ⟨ts, p, m fun F2 σ2 H2 t1 t2 => hQ F2 _ H2 (sm.trans t1) (t2.unset i)⟩
      | ct sd2 =>
        intro su hQ
        refine wrap fun cls dd F' σ' H' s1 s2 s3 a pn hn => ?_
        obtain ⟨ts, p, sm, m⟩ := su cls dd F' σ' H' a pn s1 s2 s3 hn
        exact ⟨ts, p, m fun F2 σ2 H2 t1 t2 => hQ F2 _ H2 (sm.trans t1) (t2.unset i)⟩
      | rt v sd2 =>
        intro su hQ
        refine wrap fun cls dd F' σ' H' s1 s2 s3 a pn hn => ?_
        obtain ⟨ts, p, sm, m⟩ := su cls dd F' σ' H' a pn s1 s2 s3 hn
        exact ⟨ts, p, m fun v2 F2 σ2 H2 t1 t2 => hQ v2 F2 σ2 H2 (sm.trans t1) t2⟩
    · exact True.intro
end
/-- is an exception of the class C one of the class u? -/
noncomputable abbrev XRel := Addr → Value → Option Bool
structure XRelOk (K : PySem.W.Frag) (rel : XRel) : Prop where
  c : ∀ C u b, rel C u = some b → ExcC K C
  r : ∀ C u b, rel C u = some b → PySem.W.kitOne K (.ref C) u = some b
noncomputable def clsD : D → Option Value
  | .cls N => some (.ref N)
  | .ty n => some (.type n)
  | _ => none
noncomputable def relAny (rel : XRel) (C : Addr) : List D → Option Bool
  | [] => some false
  | d :: ds => (clsD d).bind fun u => match rel C u with
    | some true => (relAny rel C ds).map fun _ => true
    | some false => relAny rel C ds
    | none => none
theorem clsD_v {K : PySem.W.Frag} {H : Hp} {v : V} {d : D} {u : Value} (r : Rep K H v d) (h : clsD d = some u) : ClsV v u := by
  cases r <;> cases h
  · exact .ty _
  · exact .own _
theorem relAny_ok {K : PySem.W.Frag} {rel : XRel} (o : XRelOk K rel) {H : Hp} {C : Addr} : ∀ {ds : List D} {vs : List V} {b : Bool}, Reps K H vs ds → relAny rel C ds = some b → ∃ us, Paired ClsV vs us ∧ PySem.W.kitAny K (.ref C) us = some b ∧ (ds ≠ [] → ExcC K C)
  | [], vs, b, r, h => by
    cases r
    cases h
    exact ⟨[], .nil, rfl, fun z => absurd rfl z⟩
  | d :: ds, vs, b, r, h => by
    cases r with
    | cons r1 r2 =>
      obtain ⟨u, e1, h⟩ := Option.bind_eq_some_iff.mp h
      have cv := clsD_v r1 e1
      have h : (match rel C u with
        | some true => (relAny rel C ds).map fun _ => true
        | some false => relAny rel C ds
        | none => none) = some b := h
      cases e : rel C u with
      | none => rw [e] at h; cases h
      | some t =>
        rw [e] at h
        cases t with
        | true =>
          obtain ⟨b', e2, h⟩ := Option.map_eq_some_iff.mp h
          subst h
          obtain ⟨us, k1, k2, k3⟩ := relAny_ok o r2 e2
          exact ⟨u :: us, .cons cv k1, kitAny_cons (o.r _ _ _ e) (fun z => by cases z) (fun _ => rfl), fun _ => o.c _ _ _ e⟩
        | false =>
          obtain ⟨us, k1, k2, k3⟩ := relAny_ok o r2 h
          exact ⟨u :: us, .cons cv k1, kitAny_cons (o.r _ _ _ e) (fun _ => k2) (fun z => by cases z), fun _ => o.c _ _ _ e⟩
end DL
namespace DL
open PySem PySem.Spec L2 PyProof.Rows
section
variable {X : Cx} {pv : List V} {W : WX} {pos : Pos}
noncomputable def mDict0 : SD → ER D := fun sd => .ok (.dic false [] []) sd
theorem dx_dict0 : DX X pv W true true (.Dict [] [] pos) mDict0 := by
  refine ⟨_, pe_dnewK, fun G F sd σ H Q s => ?_⟩
  intro hQ
  intro p hp
  exact hQ _ _ _ (s.sameNew hp) (s.new hp) (Rep.dicK (kvs := []) (.inl upd_same) .nil) fun _ => ⟨Same.upd hp, rfl⟩
end
noncomputable def ixOf (cs : Nat → Addr) (N : Nat) (C : Addr) : Option Nat := (List.range N).find? fun i => cs i == C
theorem ixOf_some {cs : Nat → Addr} {N : Nat} {C : Addr} {i : Nat} (h : ixOf cs N C = some i) : i < N ∧ cs i = C := by
  unfold ixOf at h
  have h1 := List.mem_of_find?_eq_some h
  have h2 := List.find?_some h
  exact ⟨List.mem_range.mp h1, beq_iff_eq.mp h2⟩
theorem ixOf_cs {cs : Nat → Addr} {N : Nat} (hc : ∀ i j, i < N → j < N → cs i = cs j → i = j) {i : Nat} (hi : i < N) : ixOf cs N (cs i) = some i := by
  cases h : ixOf cs N (cs i) with
  | none =>
    unfold ixOf at h
    have z := List.find?_eq_none.mp h i (List.mem_range.mpr hi)
    simp at z
  | some j =>
    obtain ⟨h1, h2⟩ := ixOf_some h
    rw [hc j i h1 hi h2]
/-- R: the classes of which exceptions are caught; Nn: the classes that are asked for; B: their base; all are ValueErrors -/
noncomputable def relT (cs : Nat → Addr) (N B : Nat) (R Nn : List Nat) (i : Nat) : Value → Option Bool
  | .ref E => (ixOf cs N E).bind fun j => if (R.contains i && Nn.contains j) = true then some (i == j || j == B) else none
  | .type n => if (R.contains i && n == "ValueError") = true then some true else none
  | _ => none
noncomputable def relX (cs : Nat → Addr) (N B : Nat) (R Nn : List Nat) : XRel := fun C u => (ixOf cs N C).bind fun i => relT cs N B R Nn i u
noncomputable def xTest (cs : Nat → Addr) (N : Nat) (R : List Nat) : Addr → Bool := fun C => match ixOf cs N C with
  | some i => R.contains i
  | none => false
theorem fa_nil {α : Type} {p : α → Prop} : ∀ x ∈ ([] : List α), p x := fun x h => nomatch h
theorem fa_cons {α : Type} {p : α → Prop} {a : α} {l : List α} (h : p a) (r : ∀ x ∈ l, p x) : ∀ x ∈ a :: l, p x := fun x hx => by
  rcases List.mem_cons.mp hx with e | e
  · rw [e]; exact h
  · exact r x e
theorem kit_ve {K : PySem.W.Frag} {C : Addr} (h3 : PySem.W.subIn K (.ref C) (.type "ValueError") = some true) : PySem.W.kitOne K (.ref C) (.type "ValueError") = some true := by
  have hm : PySem.W.kitMeta "ValueError" = true := by decide +kernel
  unfold PySem.W.kitOne PySem.W.kitCls
  by_cases e : (Value.ref C == Value.type "ValueError") = true
  · rw [if_pos e]
  · rw [if_neg e]; simp [hm, h3]
theorem relX_ok {K : PySem.W.Frag} {cs : Nat → Addr} {N B : Nat} {R Nn : List Nat} (c : ∀ i ∈ R, ExcC K (cs i)) (r : ∀ i ∈ R, ∀ j ∈ Nn, PySem.W.kitOne K (.ref (cs i)) (.ref (cs j)) = some (i == j || j == B))
    (v : ∀ i ∈ R, PySem.W.kitOne K (.ref (cs i)) (.type "ValueError") = some true) : XRelOk K (relX cs N B R Nn) := by
  have go : ∀ C u b, relX cs N B R Nn C u = some b → ExcC K C ∧ PySem.W.kitOne K (.ref C) u = some b := fun C u b h => by
    obtain ⟨i, e, h2⟩ := Option.bind_eq_some_iff.mp (show (ixOf cs N C).bind (fun i => relT cs N B R Nn i u) = some b from h)
    have ei := (ixOf_some e).2
    rw [← ei]
    cases u with
    | ref E =>
      obtain ⟨j, e2, h3⟩ := Option.bind_eq_some_iff.mp (show (ixOf cs N E).bind (fun j => if (R.contains i && Nn.contains j) = true then some (i == j || j == B) else none) = some b from h2)
      have ej := (ixOf_some e2).2
      rw [← ej]
      split at h3
      · rename_i hc
        rw [Bool.and_eq_true] at hc
        cases h3
        exact ⟨c i (List.contains_iff_mem.mp hc.1), r i (List.contains_iff_mem.mp hc.1) j (List.contains_iff_mem.mp hc.2)⟩
      · cases h3
    | type n =>
      have h3 : (if (R.contains i && n == "ValueError") = true then some true else none) = some b := h2
      split at h3
      · rename_i hc
        rw [Bool.and_eq_true, beq_iff_eq] at hc
        cases h3
        rw [hc.2]
        exact ⟨c i (List.contains_iff_mem.mp hc.1), v i (List.contains_iff_mem.mp hc.1)⟩
      · cases h3
    | _ => cases h2
  exact ⟨fun C u b h => (go C u b h).1, fun C u b h => (go C u b h).2⟩
theorem xTest_ok {K : PySem.W.Frag} {cs : Nat → Addr} {N : Nat} {R : List Nat} {c : Value} (m : ∀ i ∈ R, PySem.W.exmOne K (.ref (cs i)) c = some true) : ∀ C, xTest cs N R C = true → PySem.W.exmOne K (.ref C) c = some true := fun C h => by
  unfold xTest at h
  cases e : ixOf cs N C with
  | none => rw [e] at h; cases h
  | some i =>
    rw [e] at h
    rw [← (ixOf_some e).2]
    exact m i (List.contains_iff_mem.mp h)
/-- one of the classes of different addresses -/
theorem cs_inj {cs : Nat → Addr} {N : Nat} {l : List Addr} (h : ∀ i, i < N → l[i]? = some (cs i)) (nd : l.Nodup) : ∀ i j, i < N → j < N → cs i = cs j → i = j := fun i j hi hj e => by
  have h1 := h i hi
  have h2 := h j hj
  rw [e, ← h2] at h1
  have hl : i < l.length := by
    rcases Nat.lt_or_ge i l.length with z | z
    · exact z
    · rw [List.getElem?_eq_none z] at h1; rw [h2] at h1; cases h1
  exact (List.getElem?_inj hl nd).mp h1
/-- what cannot be walked: never reached -/
noncomputable def mBadX : SD → ER D := fun _ => .bad
theorem dx_bad {X : Cx} {pv : List V} {W : WX} {e : Expr} {p k : Bool} : DX X pv W p k e mBadX := ⟨fun _ _ _ => False, ⟨fun pins s σ H Q I h => h.elim⟩, fun G F sd σ H Q s => True.intro⟩
end DL
namespace DL
open PySem PySem.Spec L2 PyProof.Rows
noncomputable def rCntD (K : PySem.W.Frag) : V → List V → Hp → VK → Prop := fun x xs H Q => ∃ (a : Addr) (y : V) (d : PyData) (ds : List PyData), x = V.ref a ∧ xs = [y] ∧ Dp K H (V.ref a) (.list ds) ∧ Dp K H y d ∧
  SeqAt.shaped (.list ds) = true ∧ SeqAt.shaped d = true ∧ Q (.int (ds.countP (fun z => PyData.eqv z d) : Nat)) H
theorem mt_cntD {X : Cx} (hu : X.A.units + 65 < cLine) : MtR X "list.count" (rCntD X.K) := by
  intro pins s σ H x xs v us Q I rx rxs h
  obtain ⟨a, y, d, ds, rfl, rfl, hl, hy, sl, sd, q⟩ := h
  cases rx
  obtain ⟨uy, rfl, ry⟩ := rxs.one
  obtain ⟨bs, r1⟩ := Dp.reads I d y uy hy ry
  have hxs : PyData.canLayAll0 ds = true := SeqAt.canLay_of_shaped sl
  have hroom : X.A.units + 1 + min (PyData.depthAll ds) d.depth < cLine := room_in_shaped sd hu
  cases hl with
  | lst hs ha =>
    obtain ⟨its, rv, ⟨⟨cls, dd, data, sls⟩, n, ho, hc, hdn, hdt⟩, hlen⟩ := I.list hs
    simp only at hc hdt
    subst hc hdt
    obtain ⟨as, h4⟩ := Dp.readsAll I ds _ its ha rv
    have hmap : its.map (SeqAt.readOf s.heap) = ds := SeqAt.readsAll_map ds its as hxs h4
    refine call_meets PySem.F.slot_list_count ⟨_, ho, rfl⟩ PySem.F.entry_list_count (PySem.F.args_list_count_2 _ _)
      (SeqAt.list_countAt a its.toArray n dd sls uy (fun u => PyData.eqv (SeqAt.readOf s.heap u) d)) ⟨ho, SeqAt.items_eqAt (vs := its.toArray) (show ReadsAll s.heap its.toArray.toList ds as from h4) r1 hxs (SeqAt.canLay_of_shaped sd) hroom, ?_⟩
    have ec : its.toArray.toList.countP (fun u => PyData.eqv (SeqAt.readOf s.heap u) d) = ds.countP (fun z => PyData.eqv z d) := by
      rw [← hmap, List.countP_map]; rfl
    refine ⟨.int (ds.countP (fun z => PyData.eqv z d) : Nat), H, I.tok _, ⟨s.toks, ?_⟩, q⟩
    show Value.int ((its.toArray.toList.countP (fun u => PyData.eqv (SeqAt.readOf s.heap u) d) : Nat) : Int) s.toks = Value.int _ s.toks
    rw [ec]
noncomputable def dCountD : D → List D → Option D
  | .lst ds, [d] => (D.pys ds).bind fun ps => d.py.bind fun p => if (SeqAt.shaped (.list ps) && SeqAt.shaped p) = true then some (.int (ps.countP (fun z => PyData.eqv z p) : Nat)) else none
  | _, _ => none
noncomputable def dIndexD : D → List D → Option D
  | .lst ds, [d] => (D.pys ds).bind fun ps => d.py.bind fun p => if (SeqAt.shaped (.list ps) && SeqAt.shaped p) = true then (ps.findIdx? (fun z => PyData.eqv z p)).map fun j => .int (j : Nat) else none
  | _, _ => none
theorem f_countD {K : PySem.W.Frag} : CallM K (rCntD K) dCountD := by
  intro H x xs d ds c r rs h
  unfold dCountD at h
  split at h
  · rename_i es d1
    obtain ⟨ps, e1, h⟩ := Option.bind_eq_some_iff.mp h
    obtain ⟨p, e2, h⟩ := Option.bind_eq_some_iff.mp h
    split at h
    · rename_i hc
      rw [Bool.and_eq_true] at hc
      cases h
      obtain ⟨v, rfl, r1⟩ := reps1 rs
      have rd : Dp K H x (.list ps) := Rep.dp r (by rw [D.py, e1]; rfl)
      cases r with
      | @lst a vs _ s t => exact ⟨_, rfl, fun Q q => ⟨a, v, p, ps, rfl, rfl, rd, Rep.dp r1 e2, hc.1, hc.2, q⟩⟩
    · cases h
  · cases h
theorem f_indexD {K : PySem.W.Frag} : CallM K (rIndexD K) dIndexD := by
  intro H x xs d ds c r rs h
  unfold dIndexD at h
  split at h
  · rename_i es d1
    obtain ⟨ps, e1, h⟩ := Option.bind_eq_some_iff.mp h
    obtain ⟨p, e2, h⟩ := Option.bind_eq_some_iff.mp h
    split at h
    · rename_i hc
      rw [Bool.and_eq_true] at hc
      obtain ⟨j, e3, h⟩ := Option.map_eq_some_iff.mp h
      subst h
      obtain ⟨v, rfl, r1⟩ := reps1 rs
      have rd : Dp K H x (.list ps) := Rep.dp r (by rw [D.py, e1]; rfl)
      obtain ⟨hj, hz, hno⟩ := List.findIdx?_eq_some_iff_getElem.mp e3
      cases r with
      | @lst a vs _ s t =>
        refine ⟨_, rfl, fun Q q => ⟨a, v, p, ps, j, ps[j], rfl, rfl, rd, Rep.dp r1 e2, hc.1, hc.2, List.getElem?_eq_getElem hj, hz, fun m z' hm hz' => ?_, q⟩⟩
        have hml : m < ps.length := by omega
        rw [List.getElem?_eq_getElem hml] at hz'
        cases hz'
        exact Bool.eq_false_iff.mpr (hno m hm)
    · cases h
  · cases h
section
variable {X : Cx} {pv : List V} {W : WX} {p q k l : Bool} {o e : Expr} {apos cpos pos : Pos}
theorem dx_countD {mo : SD → ER D} {ma : SD → ER (List D)} (hu : X.A.units + 65 < cLine) (ho : DX X pv W p k o mo) (ha : DA X pv W q l [e] ma) (hk : (k || q) = true := by rfl) (hbase : attributeBase o "count" X.env (eval o X.env) = eval o X.env := by rfl)
    (hfew : ((backTo cpos (starEach [e] X.env)).all (fun x => !x.1) && (backToKw cpos (keywordEach [] X.env)).all (fun x => x.1.isSome) && decide ([e].length + ([] : List Keyword).length + (if ([] : List Keyword).isEmpty then 0 else 1) < 30)) = true := by rfl)
    (hline : (apos.endLine == cpos.line) = true := by rfl) (hs : starEach [e] X.env = (false, eval e X.env) :: starEach [] X.env := by rfl) (hplain : (backTo cpos (starEach [] X.env)).any (·.1) = false := by rfl) :
    DX X pv W (p && q) true (.Call (.Attribute o "count" apos) [e] [] cpos) (mBm D.isL dCountD mo ma) :=
  dx_bm PySem.F.plainAttrs_list PySem.F.slot_list_count PySem.F.type_list_count (mt_cntD hu) ty_lst f_countD ho ha hk hbase hfew hline hs hplain
theorem dx_indexD {mo : SD → ER D} {ma : SD → ER (List D)} (hu : X.A.units + 65 < cLine) (ho : DX X pv W p k o mo) (ha : DA X pv W q l [e] ma) (hk : (k || q) = true := by rfl) (hbase : attributeBase o "index" X.env (eval o X.env) = eval o X.env := by rfl)
    (hfew : ((backTo cpos (starEach [e] X.env)).all (fun x => !x.1) && (backToKw cpos (keywordEach [] X.env)).all (fun x => x.1.isSome) && decide ([e].length + ([] : List Keyword).length + (if ([] : List Keyword).isEmpty then 0 else 1) < 30)) = true := by rfl)
    (hline : (apos.endLine == cpos.line) = true := by rfl) (hs : starEach [e] X.env = (false, eval e X.env) :: starEach [] X.env := by rfl) (hplain : (backTo cpos (starEach [] X.env)).any (·.1) = false := by rfl) :
    DX X pv W (p && q) true (.Call (.Attribute o "index" apos) [e] [] cpos) (mBm D.isL dIndexD mo ma) :=
  dx_bm PySem.F.plainAttrs_list PySem.F.slot_list_index PySem.F.type_list_index (mt_indexD hu) ty_lst f_indexD ho ha hk hbase hfew hline hs hplain
end
end DL
namespace DL
open PySem PySem.Spec L2 PyProof.Rows
noncomputable def fzs : List OT → Option (List D)
  | [] => some []
  | .fz d :: ts => (fzs ts).map (d :: ·)
  | _ :: _ => none
theorem fzs_eq : ∀ {ts : List OT} {ds : List D}, fzs ts = some ds → ts = ds.map .fz
  | [], ds, h => by cases h; rfl
  | .fz d :: ts, ds, h => by
    obtain ⟨es, e, h⟩ := Option.map_eq_some_iff.mp (show (fzs ts).map (d :: ·) = some ds from h)
    subst h
    rw [List.map_cons, fzs_eq e]
  | .ol _ :: _, ds, h => by cases h
  | .od _ _ _ :: _, ds, h => by cases h
  | .oi _ _ _ :: _, ds, h => by cases h
theorem reps_some {K : PySem.W.Frag} {F : Hp} {vs : List V} {ds : List D} (r : Reps K F vs ds) : ∀ n : Nat, Reps K F (List.replicate n vs).flatten (List.replicate n ds).flatten
  | 0 => .nil
  | n + 1 => by
    rw [List.replicate_succ, List.replicate_succ, List.flatten_cons, List.flatten_cons]
    exact r.append (reps_some r n)
end DL
namespace PySem.W
open PySem PySem.Spec PySem.Calls PyProof.Rows
end PySem.W
namespace DL
open PySem PySem.Spec L2
end DL
namespace DL
open PySem PySem.Spec L2 GenW
section
variable {X : Cx}
/-- the iterator's own objects: what does not change in the loop -/
noncomputable def Free (X : Cx) (S : Addr) (ip : List (Addr × Obj)) (b : Addr) : Prop :=
  b ≠ X.env.locals ∧ b ∉ X.fs ∧ (b ∈ X.ex ∨ X.s_0.heap.objs.size ≤ b) ∧ (∀ x c, X.env.cells.lookup x = some c → c ≠ b) ∧ (∀ p ∈ X.pn, p.1 ≠ b) ∧ S ≠ b ∧ ∀ p ∈ ip, p.1 ≠ b
theorem Free.ok {X : Cx} {S : Addr} {o : Obj} {ip : List (Addr × Obj)} {H : Hp} {b : Addr} (h : Free X S ip b) (hn : H b = none) : FpOk X ((S, o) :: ip) H b := by
  obtain ⟨a, b', c, d, e, f, g⟩ := h
  refine ⟨hn, a, b', c, d, fun p hp => ?_⟩
  rcases List.mem_append.mp hp with k | k
  · exact e p k
  · rcases List.mem_cons.mp k with k | k
    · rw [k]; exact f
    · exact g p k
end
end DL
namespace DL
open PySem PySem.Spec L2 PyProof.Rows
noncomputable def dListX : List D → Option (List D)
  | [.str x] => if x.cps.size ≤ 16777216 then some (x.cps.toList.map fun c => .str ⟨#[c]⟩) else none
  | ds => dListOf ds
noncomputable def rListTx : List V → Hp → VK → Prop := fun xs H Q => ∃ x : Str, xs = [.str x] ∧ x.cps.size ≤ 16777216 ∧ ∀ l, H l = none → Q (.ref l) (upd H l (.lst (x.cps.toList.map fun c => V.str ⟨#[c]⟩)))
noncomputable def rListX (K : PySem.W.Frag) : List V → Hp → VK → Prop := fun xs H Q => rListTx xs H Q ∨ rListOf K xs H Q
theorem call_listTx {X : Cx} (hc : X.A.handled = none) : CallR X (.type "list") rListTx := by
  intro pins s σ H xs us Q I r ⟨x, e, size, q⟩
  subst e
  obtain ⟨u, rfl, ru⟩ := r.one
  obtain ⟨t, rfl⟩ := (show ∃ t, u = Value.str x t from ru)
  have h3 : x.cps.size ≤ sizeLine := by rw [sizeLine_eq]; exact size
  refine call_list_str hc x t (hn := h3) fun h' tk got cap keep there items => ?_
  have len : got.size = x.cps.size := items.1
  refine ⟨.ref s.heap.objs.size, upd H s.heap.objs.size (.lst (x.cps.toList.map fun c => V.str ⟨#[c]⟩)), I.laid keep (Nat.le_refl _) ⟨by rw [List.length_map, Array.length_toList]; exact h3, got.toList, cap, ?_, by rw [Array.toArray_toList]; exact there⟩, rfl, q _ (I.hok.fresh (Nat.le_refl _))⟩
  refine vals_of_idx _ _ (by rw [List.length_map, Array.length_toList, Array.length_toList]; exact len) fun j u hj => ?_
  rw [Array.getElem?_toList] at hj
  obtain ⟨c, t', e1, e2⟩ := items.2 j u hj
  refine ⟨.str ⟨#[c]⟩, ?_, t', e2⟩
  rw [List.getElem?_map, Array.getElem?_toList, e1]
  rfl
theorem call_listX {X : Cx} (hc : X.A.handled = none) : CallR X (.type "list") (rListX X.K) := (call_listTx hc).or call_list_of
theorem Reps.texts {K : PySem.W.Frag} {F : Hp} : ∀ cs : List Nat, Reps K F (cs.map fun c => V.str ⟨#[c]⟩) (cs.map fun c => D.str ⟨#[c]⟩)
  | [] => .nil
  | c :: cs => .cons (.str _) (Reps.texts cs)
theorem f_listX {K : PySem.W.Frag} : CallL K (rListX K) dListX := by
  intro F H xs ds cs hF rs h Q hQ
  unfold dListX at h
  split at h
  · rename_i x
    split at h
    · rename_i size
      cases h
      obtain ⟨v, rfl, r1⟩ := reps1 rs
      cases r1
      exact .inl ⟨x, rfl, size, fun l hl => hQ l _ hl (Reps.texts _)⟩
    · cases h
  · exact .inr (f_listOf F H xs ds cs hF rs h Q hQ)
end DL
namespace DL
open PySem PySem.Spec L2 PyProof.Rows
end DL
namespace DL
open PySem PySem.Spec L2 PyProof.Rows
end DL
namespace DL
open PySem PySem.Spec L2 PyProof.Rows
/-- the arguments behind self become the fields ns, in order -/
noncomputable def spI (K : PySem.W.Frag) (ns : List Str) : Sp := fun vs H Q _ => ∃ (a C : Addr) (ws : List V), vs = .ref a :: ws ∧ ws.length = ns.length ∧ OexC K C ∧ (∀ f ∈ ns, PySem.W.findIn K (.ref C) f = some none) ∧ H a = some (exo a C none) ∧
  ∀ dx, H dx = none → dx ≠ a → Q .non (upd (upd H dx (exd dx (ns.zip ws).reverse)) a (exo a C (some dx)))
section
variable {P : Program} {w : World} {K : PySem.W.Frag} {mg : Str → Option Value} {base : Heap} {x qual : Str} {st : Stmt} {f : Addr} {fd : FuncData}
theorem vis_par {N ps : List Str} {sc : Scope} (S : FnScope N ps sc) {y : Str} (h : y ∈ ps) : Vis sc y := (S.par y h).elim .inl fun z => .inr (.inl z)
theorem init1 {n : Str} {p1 p2 p3 pos : Pos} (F : Fun K x qual st f fd) (S : FnScope ["self", n] ["self", n] (defScope st)) (hb : defBody st = [.Assign [.Attribute (.Name "self" p1) n p2] (.Name n p3) pos])
    (hd : (n == ("__debug__" : Str)) = false := by decide) (hcd : (n == ("__classdict__" : Str)) = false := by decide) : FnOk P w K mg base (L2.CX P w) 1 f fd ["self", n] (spI K [n]) := by
  refine F.okX S (fun vs H Q E z => ?_) fun cdv A outer s H vs Q E hr hs => ?_
  · obtain ⟨a, C, ws, rfl, hl, _⟩ := z
    simpa using hl
  · obtain ⟨a, C, ws, rfl, hl, T, hno, ha, q⟩ := hs
    obtain ⟨y, rfl⟩ : ∃ y, ws = [y] := List.length_eq_one_iff.mp hl
    rw [hb]
    refine ⟨_, pss_one (ps_ost (pe_var (i := 0) rfl (vis_par S (by simp))) (pe_var (i := 1) rfl (vis_par S (by simp)) hd hcd) rfl), ?_⟩
    exact ⟨y, rfl, .ref a, rfl, a, C, rfl, T, hno n (by simp), .inl ⟨ha, q⟩⟩
end
noncomputable def sRaiseX (C : Addr) (ns : List Str) (m : SD → ER (List D)) : SD → Fl := fun sd => (m sd).stm fun ds sd1 => if ds.length = ns.length ∧ ns.length ≤ 900 then .rz ⟨C, some (ns.zip ds).reverse⟩ sd1 else .bad
/-- what is asked of the class -/
structure XMkI (K : PySem.W.Frag) (C fI : Addr) (ns : List Str) : Prop where
  o : OexC K C
  i : PySem.W.findIn K (.ref C) "__init__" = some (some (.ref fI))
  t : PySem.W.typeIn K (.ref fI) = some (.type "function")
  n : ∀ f ∈ ns, PySem.W.findIn K (.ref C) f = some none
/-- what is asked of the class object -/
noncomputable def oexB (C : Addr) (cd : ClassData) (sl : Array (Option Value)) : Bool := match cd.mro, sl.toList with
  | .ref C' :: bm, [_, _, _, _, some (.builtin n), _] => C' == C && (n == "ValueError.__new__" && (!cd.hasDel && (cd.hasDict && PySem.HandSPX.refsVE bm)))
  | _, _ => false
theorem oex_mk {K : PySem.W.Frag} {C : Addr} {d : Option Addr} {cd : ClassData} {sl : Array (Option Value)} (h : K.lookup C = some ⟨.type "type", d, .cls cd, sl⟩) (q : oexB C cd sl = true) (sa : PySem.W.findIn K (.ref C) "__setattr__" = some (some (.builtin "object.__setattr__")))
    (b : PySem.W.subIn K (.ref C) (.type "BaseException") = some true) (t : PySem.W.typeIn K (.ref C) = some (.type "type")) (k : PySem.W.keepIn K (.ref C) = true) : OexC K C := by
  refine ⟨?_, sa, b, t, k⟩
  unfold oexB at q
  split at q
  · rename_i C' bm k0 k1 k2 k3 n k5 hm hs
    simp only [Bool.and_eq_true, beq_iff_eq, Bool.not_eq_true'] at q
    obtain ⟨q1, q2, q3, q4, q5⟩ := q
    subst q1 q2
    obtain ⟨nm, bs, mro, ns, qn, hd, sn, sub, ab, col, del⟩ := cd
    dsimp only at hm q3 q4
    subst hm q3 q4
    have hsl : sl = #[k0, k1, k2, k3, some (.builtin "ValueError.__new__"), k5] := by
      cases sl
      exact congrArg Array.mk hs
    subst hsl
    exact ⟨nm, qn, ns, bs, bm, sn, sub, ab, col, d, k0, k1, k2, k3, k5, h, q5⟩
  · cases q
theorem fst_zip {α β : Type} : ∀ (ns : List α) (ds : List β), ds.length = ns.length → (ns.zip ds).map (·.1) = ns
  | [], _, _ => rfl
  | n :: ns, [], h => by cases h
  | n :: ns, d :: ds, h => by rw [List.zip_cons_cons, List.map_cons, fst_zip ns ds (by simpa using h)]
theorem snd_zip {α β : Type} : ∀ (ns : List α) (ds : List β), ds.length = ns.length → (ns.zip ds).map (·.2) = ds
  | [], [], _ => rfl
  | [], d :: ds, h => by cases h
  | n :: ns, [], h => by cases h
  | n :: ns, d :: ds, h => by rw [List.zip_cons_cons, List.map_cons, snd_zip ns ds (by simpa using h)]
section
variable {X : Cx} {pv : List V} {W : WX} {p : Bool} {e : Expr} {es : List Expr} {x : Str} {pos pos' pp : Pos}
theorem ds_raiseX {C fI : Addr} {k : Nat} {fd : FuncData} {ps ns : List Str} {m : SD → ER (List D)} (hc : X.calm = true) (tk : Takes X W) (M : XMkI X.K C fI ns) (F : FnOk X.prog X.w X.K X.mg X.base (L2.CX X.prog X.w) k fI fd ps (spI X.K ns)) (hr : RoomG (k + 1) X.A) (hb : Binds X.K fd ps [])
    (hg : Gl X x) (hm : X.mg x = some (.ref C)) (ha : DA X pv W p true (e :: es) m)
    (hdb : (x == ("__debug__" : Str)) = false := by decide) (he : starEach (e :: es) X.env = (false, eval e X.env) :: starEach es X.env := by rfl) (hpl : (backTo pos' (starEach es X.env)).any (·.1) = false := by rfl) :
    DS X pv W (.Raise (some (.Call (.Name x pp) (e :: es) [] pos')) none pos) (sRaiseX C ns m) := by
  obtain ⟨ta, a1, a2⟩ := ha
  refine ⟨_, ps_raise hc tk (pmk_oex M.o M.i M.t F hr.r hb .nil (fun _ _ _ _ _ _ _ z => (cx_none z).elim) hg hm a1 hdb he hpl), fun G F sd σ H D s => ?_⟩
  unfold sRaiseX
  refine Meets.stm (a2 G F sd σ H _ s) fun vs F1 H1 ds sd1 s1 s2 s3 => ?_
  have s3 : Reps X.K F1 vs ds := s3
  split
  · rename_i hl
    obtain ⟨hl, hl2⟩ := hl
    intro hW
    refine ⟨by rw [s3.length]; omega, fun a hn => ?_⟩
    rw [List.append_nil]
    refine ⟨a, C, vs, rfl, by rw [s3.length, hl], M.o, M.n, upd_same, fun dx hdx ne => ?_⟩
    have hdx1 : H1 dx = none := by rw [upd_ne ne] at hdx; exact hdx
    refine ⟨rfl, dx, (ns.zip vs).reverse, upd_same, by rw [upd_ne ne, upd_same], hdx1, ?_⟩
    have e : upd (del (upd (upd (upd H1 a (exo a C none)) dx (exd dx (ns.zip vs).reverse)) a (exo a C (some dx))) a) dx (.xd (ns.zip vs).reverse) = upd H1 dx (.xd (ns.zip vs).reverse) := by
      funext b
      by_cases h1 : b = dx
      · subst h1; rw [upd_same, upd_same]
      · rw [upd_ne h1, upd_ne h1]
        by_cases h2 : b = a
        · subst h2; rw [del_same, hn]
        · rw [del_ne h2, upd_ne h2, upd_ne h1, upd_ne h2]
    rw [e]
    have hv : vs.length = ns.length := by rw [s3.length, hl]
    refine hW (.ref C) (some dx) (upd F1 dx (.xd (ns.zip vs).reverse)) σ _ (s2.sameNew hdx1) (s2.new hdx1) ⟨rfl, dx, _, rfl, upd_same, ?_, ?_⟩
    · rw [List.map_reverse, List.map_reverse, fst_zip _ _ hv, fst_zip _ _ hl]
    · rw [List.map_reverse, List.map_reverse, snd_zip _ _ hv, snd_zip _ _ hl]
      exact (s3.mono (s2.sameNew hdx1)).reverse
  · exact True.intro
end
end DL
namespace DL
open PySem PySem.Spec L2 PyProof.Rows
/-- a value's type, exceptions with or without fields too -/
noncomputable def TyF (K : PySem.W.Frag) (H : Hp) (v : V) (t : Value) : Prop := TyX K H v t ∨ ∃ (a C : Addr) (d : Option Addr), v = .ref a ∧ t = .ref C ∧ H a = some (ExT (.ref C) d a) ∧ (∀ dx, d = some dx → ∃ fvs, H dx = some (.xd fvs)) ∧ ExcC K C
section
variable {X : Cx} {pins : List (Addr × Obj)} {σ : L2.St} {H : Hp} {s : Shared}
/-- the object of an exception -/
theorem inst_exc {a C : Addr} {d : Option Addr} (I : Inv X pins σ H s) (e : H a = some (ExT (.ref C) d a)) (hx : ∀ dx, d = some dx → ∃ fvs, H dx = some (.xd fvs)) : ∃ oe od, PySem.W.InstAt s.heap a oe C od := by
  obtain ⟨⟨oe, he, hz, vs, hd⟩, _, _⟩ := I.hok a _ e
  have nc : PySem.W.notCls oe = true := by unfold PySem.W.notCls; rw [hd]
  cases d with
  | none => exact ⟨oe, none, he, hz.1, nc, by rw [hz.2]; exact True.intro⟩
  | some dx =>
    obtain ⟨fvs, hf⟩ := hx dx rfl
    have hk : ObjOk X.prog X.w H s.heap dx (.xd fvs) := I.hok dx _ hf
    obtain ⟨mA, hns, _⟩ := hk
    obtain ⟨od, ho, _⟩ := lookIn_ns hns
    exact ⟨oe, some od, he, hz.1, nc, by rw [hz.2]; exact ho⟩
theorem kit_ofF {x : V} {u t : Value} (I : Inv X pins σ H s) (rx : RelV x u) (ty : TyF X.K H x t) : ∃ P : Heap → Prop, PySem.W.KitX X.K u t P ∧ P s.heap ∧ u ≠ .builtin "__main__.__loader__#opaque" := by
  rcases ty with ty | ⟨a, C, d, ex, et, e, hx, c⟩
  · exact kit_of I rx ty
  · subst ex et
    cases (show u = Value.ref a from rx)
    obtain ⟨oe, od, J⟩ := inst_exc I e hx
    obtain ⟨cd, hcd, _⟩ := PySem.W.any_some c.hd
    exact ⟨_, PySem.W.kitx_exc (by rw [hcd]; rfl) c.hg c.hk c.hs c.ha c.hn c.ht c.hm, J, fun z => nomatch z⟩
end
noncomputable def rIsiF (K : PySem.W.Frag) : List V → Hp → VK → Prop := fun xs H Q => ∃ (x c : V) (t u : Value) (b : Bool), xs = [x, c] ∧ ClsV c u ∧ TyF K H x t ∧ PySem.W.kitOne K t u = some b ∧ Q (.bl b) H
noncomputable def rIsiTF (K : PySem.W.Frag) : List V → Hp → VK → Prop := fun xs H Q => ∃ (x : V) (tp : Addr) (cs : List V) (t : Value) (us : List Value) (b : Bool), xs = [x, .ref tp] ∧ H tp = some (.tup cs) ∧ Paired ClsV cs us ∧ TyF K H x t ∧ PySem.W.kitAny K t us = some b ∧ Q (.bl b) H
section
variable {X : Cx}
theorem call_isiF : CallR X (.builtin "isinstance") (fun xs H Q => rIsiF X.K xs H Q ∨ rIsiTF X.K xs H Q) := by
  intro pins s σ H xs us Q I r h
  rcases h with ⟨x, c, t, u, b, rfl, k, ty, e, q⟩ | ⟨x, tp, cs, t, ws, b, rfl, hT, k, ty, e, q⟩
  · obtain ⟨u1, u2, rfl, r1, r2⟩ := vals2 r
    have e2 := k.eq r2
    subst e2
    obtain ⟨P, Z, p, hx⟩ := kit_ofF I r1 ty
    exact PySem.W.kia_one Z I.kIn p e hx fun tk => ⟨.bl b, H, I.tok tk, rfl, q⟩
  · obtain ⟨u1, u2, rfl, r1, r2⟩ := vals2 r
    cases (show u2 = Value.ref tp from r2)
    obtain ⟨P, Z, p, hx⟩ := kit_ofF I r1 ty
    obtain ⟨_, its, rv, o, h1, h2, n, h3⟩ := (show ObjOk X.prog X.w H s.heap tp (.tup cs) from I.hok tp _ hT)
    have e3 := ClsV.all k rv
    subst e3
    obtain ⟨oc, od, dt, sl⟩ := o
    simp only at h2 h3
    subst h2 h3
    exact PySem.W.kia_tup Z I.kIn p h1 e hx fun tk => ⟨.bl b, H, I.tok tk, rfl, q⟩
end
noncomputable def dIsF (rel : XRel) : List D → Option D
  | [.exc C _ _, .tup ds] => if ds = [] then none else (relAny rel C ds).map .bl
  | [.exc C _ _, d] => ((clsD d).bind (rel C)).map .bl
  | _ => none
theorem rep_exc1 {K : PySem.W.Frag} {H : Hp} {v : V} {C : Addr} {ns : List Str} {vs : List D} (r : Rep K H v (.exc C ns vs)) : ∃ (a : Addr) (d : Option Addr) (fvs : List (Str × V)), v = .ref a ∧ H a = some (ExT (.ref C) d a) ∧ (∀ dx, d = some dx → H dx = some (.xd fvs)) ∧ (d = none ↔ fvs = []) ∧ fvs.map (·.1) = ns ∧ Reps K H (fvs.map (·.2)) vs := by
  generalize hd : D.exc C ns vs = x at r
  cases r with
  | @exc a C' d fvs ds h k n rr =>
    injection hd with e1 e2 e3
    subst e1 e2 e3
    exact ⟨a, d, fvs, rfl, h, k, n, rfl, rr⟩
  | _ => cases hd
theorem f_isF {K : PySem.W.Frag} {rel : XRel} (o : XRelOk K rel) : CallS K (fun xs H Q => rIsiF K xs H Q ∨ rIsiTF K xs H Q) (dIsF rel) := by
  intro H xs ds c r h
  unfold dIsF at h
  split at h
  · rename_i C ns vs ds
    obtain ⟨v, v', rfl, r1, r2⟩ := reps2 r
    split at h
    · cases h
    · rename_i hne
      obtain ⟨b, e, h⟩ := Option.map_eq_some_iff.mp h
      subst h
      obtain ⟨a, d, fvs, rfl, ea, ex, _⟩ := rep_exc1 r1
      cases r2 with
      | @tup tp vs _ ht rr =>
        obtain ⟨us, k1, k2, k3⟩ := relAny_ok o rr e
        exact ⟨_, rfl, fun Q q => .inr ⟨_, tp, vs, .ref C, us, b, rfl, ht, k1, .inr ⟨a, C, d, rfl, rfl, ea, fun dx z => ⟨_, ex dx z⟩, k3 hne⟩, k2, q⟩⟩
  · rename_i C ns vs d hd
    obtain ⟨v, v', rfl, r1, r2⟩ := reps2 r
    obtain ⟨b, e, h⟩ := Option.map_eq_some_iff.mp h
    subst h
    obtain ⟨u, e1, e2⟩ := Option.bind_eq_some_iff.mp e
    obtain ⟨a, dd, fvs, rfl, ea, ex, _⟩ := rep_exc1 r1
    exact ⟨_, rfl, fun Q q => .inl ⟨_, v', .ref C, u, b, rfl, clsD_v r2 e1, .inr ⟨a, C, dd, rfl, rfl, ea, fun dx z => ⟨_, ex dx z⟩, o.c _ _ _ e2⟩, o.r _ _ _ e2, q⟩⟩
  · cases h
noncomputable def mFldX (ok : Addr → Bool) (f : Str) (a : SD → ER D) : SD → ER D := fun sd => (a sd).bind fun x sd1 => match x with
  | .exc C ns vs => if ok C = true then ER.opt (fldD f ns vs) sd1 else .bad
  | _ => .bad
section
variable {X : Cx} {pv : List V} {W : WX} {p q k l : Bool} {e a b : Expr} {es : List Expr} {pos : Pos}
theorem pe_fldX {ok : Addr → Bool} {f : Str} {te : TE} (he : PE X e te) (hf : ∀ C, ok C = true → XfC X.K C ∧ PySem.W.findIn X.K (.ref C) f = some none) (hb : attributeBase e f X.env (eval e X.env) = eval e X.env := by rfl) :
    PE X (.Attribute e f pos) (fun σ H Q => te σ H fun x H1 => ∃ (a C dd : Addr) (fs : List (Str × V)) (v : V), x = .ref a ∧ ok C = true ∧ H1 a = some (ExT (.ref C) (some dd) a) ∧ H1 dd = some (.xd fs) ∧ fs.lookup f = some v ∧ Q v H1) := by
  refine ⟨fun pins s σ H Q I h => attr_of hb (thn (he.run pins s σ H _ I h) fun u s1 ⟨x, H1, I1, rx, a, C, dd, fs, v, ex, hok, ea, ed, hl, q⟩ => ?_)⟩
  subst ex
  cases (show u = Value.ref a from rx)
  obtain ⟨T, hno⟩ := hf C hok
  obtain ⟨⟨oe, ho, hz, vs, hd⟩, _, _⟩ := I1.hok a _ ea
  have hx : ObjOk X.prog X.w H1 s1.heap dd (.xd fs) := I1.hok dd _ ed
  obtain ⟨mA, hns, hr⟩ := hx
  obtain ⟨od, hod, hlk⟩ := lookIn_ns hns
  obtain ⟨u, hu, ru⟩ := RelO.some_of (v := v) (o := mA f) (hl ▸ hr f)
  have nc : PySem.W.notCls oe = true := by unfold PySem.W.notCls; rw [hd]
  exact HandSPX.exc_get I1.kIn (⟨ho, hz.1, nc, by rw [hz.2]; exact hod⟩ : PySem.W.InstAt s1.heap a oe C (some od)) T.ga T.gg T.exC (PySem.W.findObj_own T.hdC hno rfl ((hlk f).trans (congrArg some hu))) (handed_of ru) ⟨v, H1, I1.tok _, ru, q⟩
theorem dx_fldX {ok : Addr → Bool} {f : Str} {m : SD → ER D} (h : DX X pv W p true e m) (hf : ∀ C, ok C = true → XfC X.K C ∧ PySem.W.findIn X.K (.ref C) f = some none) (hb : attributeBase e f X.env (eval e X.env) = eval e X.env := by rfl) : DX X pv W p true (.Attribute e f pos) (mFldX ok f m) := by
  obtain ⟨te, a1, a2⟩ := h
  refine ⟨_, pe_fldX a1 hf hb, fun G F sd σ H Q s => ?_⟩
  refine Meets.bindL (a2 G F sd σ H _ s) fun x F1 H1 dx sd1 s1 s2 s3 s4 => ?_
  have s5 : Rep X.K F1 x dx := s3
  clear s3
  split
  · rename_i C ns vs
    split
    · rename_i hok
      cases e1 : fldD f ns vs with
      | none => exact True.intro
      | some d =>
        obtain ⟨a, dd, fvs, rfl, ea, ex, en, rfl, rr⟩ := rep_exc1 s5
        obtain ⟨v, k1, k2⟩ := fldD_rep rr e1
        cases dd with
        | none =>
          rw [en.mp rfl] at k1
          cases k1
        | some dd => exact Meets.here s2 (show RSx X.K true G F1 sd1 H1 σ v d from k2) fun q => ⟨a, C, dd, fvs, v, rfl, hok, s2.fh _ _ ea, s2.fh _ _ (ex dd rfl), k1, q⟩
    · exact True.intro
  · exact True.intro
end
end DL
namespace DL
open PySem PySem.Spec L2 PyProof.Rows
end DL
namespace DL
open PySem PySem.Spec L2 PyProof.Rows
section
variable {K : PySem.W.Frag} {pv : List V} {G F F' H H' : Hp} {sd : SD} {σ : L2.St}
theorem repOs_cut : ∀ {ts : List OT} {t : OT} {vs : List V} {P : Addr → Prop} (j : Nat), RepOs K F H ts vs P → ts[j]? = some t → ∃ (v : V) (P1 P2 : Addr → Prop), vs[j]? = some v ∧ (∀ x, P1 x → P x) ∧ (∀ x, P2 x → P x ∧ ¬ P1 x) ∧ RepOs K F H (ts.eraseIdx j) (vs.eraseIdx j) P1 ∧ RepO K F H t v P2
  | [], t, vs, P, j, r, e => by simp at e
  | t0 :: ts, t, vs, P, 0, r, e => by
    unfold RepOs at r
    obtain ⟨v, ws, Q1, Q2, rfl, h1, h2, r1, rr⟩ := r
    cases e
    exact ⟨v, Q2, Q1, rfl, fun x h => (h2 x h).1, fun x h => ⟨h1 x h, fun z => (h2 x z).2 h⟩, rr, r1⟩
  | t0 :: ts, t, vs, P, j + 1, r, e => by
    unfold RepOs at r
    obtain ⟨v, ws, Q1, Q2, rfl, h1, h2, r1, rr⟩ := r
    obtain ⟨u, P1, P2, k0, k1, k2, k3, k4⟩ := repOs_cut j rr (by simpa using e)
    refine ⟨u, fun x => Q1 x ∨ P1 x, P2, by simpa using k0, fun x h => h.elim (h1 x) fun h => (h2 x (k1 x h)).1, fun x h => ⟨(h2 x (k2 x h).1).1, fun z => z.elim (h2 x (k2 x h).1).2 (k2 x h).2⟩, ?_, k4⟩
    rw [List.eraseIdx_cons_succ, List.eraseIdx_cons_succ]
    unfold RepOs
    exact ⟨v, ws.eraseIdx j, Q1, P1, rfl, fun x h => .inl h, fun x h => ⟨.inr h, (h2 x (k1 x h)).2⟩, r1, k3⟩
theorem StR.lcut {i j : Nat} {ts : List OT} {t : OT} (s : StR K pv G F sd σ H) (h : sd.tree i = some (.ol ts)) (ht : ts[j]? = some t) : ∃ (a : Addr) (vs : List V) (v : V), σ[i]? = some (some (.ref a)) ∧ H a = some (.lst vs) ∧ vs.length = ts.length ∧ vs[j]? = some v ∧
    StR1 K pv G F (sd.put i (.ol (ts.eraseIdx j))) σ (upd H a (.lst (vs.eraseIdx j))) v t := by
  classical
  obtain ⟨o, W⟩ := s
  obtain ⟨src, v0, h1, h2, h3⟩ := W.put h
  unfold RepO at h2
  obtain ⟨a, vs, rfl, pa, ha, r⟩ := h2
  obtain ⟨v, P1, P2, k0, k1, k2, k3, k4⟩ := repOs_cut j r ht
  have nF : ∀ b u, F b = some u → b ≠ a := fun b u e z => by rw [z, (W.oh _ a pa).2.1] at e; cases e
  have nG : ∀ b u, G b = some u → b ≠ a := fun b u e z => by rw [z, (W.oh _ a pa).2.2] at e; cases e
  generalize hws : vs.eraseIdx j = ws at k3
  have nz : ∀ b, H b ≠ none → upd H a (.lst ws) b ≠ none := fun b hb => by
    by_cases z : b = a
    · rw [z, upd_same]; simp
    · rw [upd_ne z]; exact hb
  have sub : ∀ x b, (if x = src then b = a ∨ P1 b else o x b) → o x b := fun x b q => by
    by_cases z : x = src
    · rw [if_pos z] at q
      rw [z]
      rcases q with q | q
      · rw [q]; exact pa
      · exact (k1 b q).1
    · rw [if_neg z] at q; exact q
  refine ⟨a, vs, v, h1, ha, r.length, k0, fun x b => if x = src then b = a ∨ P1 b else o x b, P2, h3 F _ _ _ (Same.refl _) (fun b u e => ?_) (fun b u e => ?_) W.fg (fun x b q => ?_) (fun x y b q q' => W.oo x y b (sub x b q) (sub y b q')) (fun x n b q => ?_) ?_, ?_, fun b q => ?_⟩
  · rw [upd_ne (nF b u e)]; exact W.fh b u e
  · rw [upd_ne (nG b u e)]; exact W.gh b u e
  · obtain ⟨m1, m2⟩ := W.oh x b (sub x b q)
    rw [hws]
    exact ⟨nz b m1, m2⟩
  · have ne : b ≠ a := fun z => n (W.oo x src b q (by rw [z]; exact pa))
    exact ⟨by rw [if_neg n]; exact q, upd_ne ne⟩
  · rw [hws]
    show RepO K F (upd H a (.lst ws)) (.ol (ts.eraseIdx j)) (.ref a) (fun b => if src = src then b = a ∨ P1 b else o src b)
    unfold RepO
    have e : ∀ b, (if src = src then b = a ∨ P1 b else o src b) = (b = a ∨ P1 b) := fun b => if_pos rfl
    refine ⟨a, ws, rfl, (e a).mpr (.inl rfl), upd_same, k3.mono (Same.refl _) fun x hx => ⟨⟨(e x).mpr (.inr hx), (k1 x hx).2⟩, upd_ne (k1 x hx).2⟩⟩
  · rw [hws]
    exact k4.mono (Same.refl _) fun x hx => ⟨hx, upd_ne (k2 x hx).1.2⟩
  · obtain ⟨m1, m2⟩ := k2 b q
    obtain ⟨n1, n2, n3⟩ := W.oh src b m1.1
    rw [hws]
    refine ⟨nz b n1, n2, n3, fun x q' => ?_⟩
    have q' : if x = src then b = a ∨ P1 b else o x b := q'
    by_cases z : x = src
    · rw [if_pos z] at q'
      exact q'.elim m1.2 m2
    · rw [if_neg z] at q'
      exact z (W.oo x src b q' m1.1)
/-- an item put in -/
theorem repOs_ins {d : D} {w : V} (r2 : Rep K F w d) : ∀ {ts : List OT} {vs : List V} {P : Addr → Prop} (j : Nat), RepOs K F H ts vs P → RepOs K F H (ts.take j ++ [.fz d] ++ ts.drop j) (vs.take j ++ [w] ++ vs.drop j) P
  | ts, vs, P, 0, r => by
    show RepOs K F H (.fz d :: ts) (w :: vs) P
    unfold RepOs
    refine ⟨w, vs, fun _ => False, P, rfl, fun x h => h.elim, fun x h => ⟨h, id⟩, ?_, r⟩
    unfold RepO; exact r2
  | [], vs, P, j + 1, r => by
    unfold RepOs at r
    subst r
    show RepOs K F H [.fz d] [w] P
    unfold RepOs
    refine ⟨w, [], fun _ => False, P, rfl, fun x h => h.elim, fun x h => ⟨h, id⟩, ?_, ?_⟩
    · unfold RepO; exact r2
    · unfold RepOs; rfl
  | t :: ts, vs, P, j + 1, r => by
    unfold RepOs at r
    obtain ⟨v, ws, Q1, Q2, rfl, h1, h2, r1, rr⟩ := r
    show RepOs K F H (t :: (ts.take j ++ [.fz d] ++ ts.drop j)) (v :: (ws.take j ++ [w] ++ ws.drop j)) P
    unfold RepOs
    exact ⟨v, _, Q1, Q2, rfl, h1, h2, r1, repOs_ins r2 j rr⟩
theorem StR.lins {i j : Nat} {ts : List OT} {d : D} {w : V} (s : StR K pv G F sd σ H) (h : sd.tree i = some (.ol ts)) (r2 : Rep K F w d) : ∃ (a : Addr) (vs : List V), σ[i]? = some (some (.ref a)) ∧ H a = some (.lst vs) ∧ vs.length = ts.length ∧
    StR K pv G F (sd.put i (.ol (ts.take j ++ [.fz d] ++ ts.drop j))) σ (upd H a (.lst (vs.take j ++ [w] ++ vs.drop j))) := by
  obtain ⟨v, P, h1, h2, hn, go⟩ := s.mut h
  unfold RepO at h2
  obtain ⟨a, vs, rfl, pa, ha, r⟩ := h2
  refine ⟨a, vs, h1, ha, r.length, go _ _ (fun x hx u e => by rw [upd_ne (fun z => hx (by rw [z]; exact pa))]; exact e) (fun x hx => ?_) ?_⟩
  · by_cases z : x = a
    · rw [z, upd_same]; simp
    · rw [upd_ne z]; exact hn x hx
  · unfold RepO
    exact ⟨a, _, rfl, pa, upd_same, (repOs_ins r2 j r).mono (Same.refl _) fun x hx => ⟨hx, upd_ne hx.2⟩⟩
end
noncomputable def popEnd (i : Nat) (d : D) (sd : SD) : ER OT := match d, sd.tree i with
  | .int k, some (.ol ts) => if -(2 ^ 63) ≤ k ∧ k < 2 ^ 63 then match seqIndex? k ts.length with
    | some j => match ts[j]? with
      | some t => .ok t (sd.put i (.ol (ts.eraseIdx j)))
      | none => .bad
    | none => .bad
    else .bad
  | _, _ => .bad
noncomputable def mPopAt (i : Nat) (mk : SD → ER D) : SD → ER OT := fun sd => match sd.tree i with
  | some (.ol _) => (mk sd).bind (popEnd i)
  | _ => .bad
noncomputable def insEnd (i : Nat) (ds : List D) (sd : SD) : Fl := match ds, sd.tree i with
  | [.int k, d], some (.ol ts) => if 0 ≤ k ∧ k < 2 ^ 63 ∧ ts.length < 16777216 then .nx (sd.put i (.ol (ts.take k.toNat ++ [.fz d] ++ ts.drop k.toNat))) else .bad
  | _, _ => .bad
noncomputable def sIns (i : Nat) (m : SD → ER (List D)) : SD → Fl := fun sd => match sd.tree i with
  | some (.ol _) => (m sd).stm (insEnd i)
  | _ => .bad
noncomputable def mRepO (a : SD → ER OT) (b : SD → ER D) : SD → ER OT := fun sd => (a sd).bind fun t sd1 => (b sd1).bind fun y sd2 => match t, y with
  | .ol ts, .int k => match fzs ts with
    | some ds => if 0 ≤ k ∧ k < 2 ^ 63 ∧ ds.length * k.toNat ≤ 16777216 then .ok (.ol ((List.replicate k.toNat ds).flatten.map .fz)) sd2 else .bad
    | none => .bad
  | _, _ => .bad
section
variable {X : Cx} {pv : List V} {W : WX} {p q k l : Bool} {e a b e1 e2 o : Expr} {pos : Pos}
theorem do_popAt {i : Nat} {x : Str} {pp apos cpos : Pos} {mk : SD → ER D} (hx : PE X (.Name x pp) (tVar i)) (he : DX X pv W p true e mk) (hline : (apos.endLine == cpos.line) = true := by rfl)
    (hbase : attributeBase (.Name x pp) "pop" X.env (eval (.Name x pp) X.env) = eval (.Name x pp) X.env := by rfl)
    (hfew : ((backTo cpos (starEach [e] X.env)).all (fun x => !x.1) && (backToKw cpos (keywordEach [] X.env)).all (fun x => x.1.isSome) && decide ([e].length + ([] : List Keyword).length + (if ([] : List Keyword).isEmpty then 0 else 1) < 30)) = true := by rfl)
    (hse : starEach [e] X.env = (false, eval e X.env) :: starEach [] X.env := by rfl) (hplain : (backTo cpos (starEach [] X.env)).any (·.1) = false := by rfl) : DO X pv W false (.Call (.Attribute (.Name x pp) "pop" apos) [e] [] cpos) (mPopAt i mk) := by
  obtain ⟨te, a1, a2⟩ := he
  refine ⟨_, pe_bm PySem.F.plainAttrs_list PySem.F.slot_list_pop PySem.F.type_list_pop mt_popAt hx (pa_cons a1 pa_nil hse) hbase hfew hline hse hplain, fun G F sd σ H Q s => ?_⟩
  unfold mPopAt
  split
  · rename_i ts0 e0
    obtain ⟨a, vs0, h0, hH0⟩ := ol_at s e0
    refine Meets.to (P := te σ H fun y H1 => rPopAt (.ref a) [y] H1 Q) ?_ fun z => ⟨_, h0, .inl ⟨rfl, vs0, .inl (.inl hH0)⟩, z⟩
    refine Meets.bindW (a2 G F sd σ H _ s) fun y F1 H1 d sd1 hmm s1 s2 s3 => ?_
    have s5 : Rep X.K F1 y d := s3
    clear s3
    unfold popEnd
    split
    · rename_i k ts e1
      cases s5
      split
      · rename_i hk
        split
        · rename_i j ej
          split
          · rename_i t et
            obtain ⟨a', vs, v, h1, h2, h3, h4, h5⟩ := s2.lcut e1 et
            rw [h0] at h1; cases h1
            intro hQ
            exact ⟨_, vs, k, j, v, rfl, rfl, h2, hk.1, hk.2, by rw [h3]; exact ej, h4, hQ v F1 _ (Same.refl _) h5.drop h5 fun z => nomatch z⟩
          · exact True.intro
        · exact True.intro
      · exact True.intro
    · exact True.intro
  · exact True.intro
theorem ds_ins {i : Nat} {x : Str} {pp apos cpos : Pos} {m : SD → ER (List D)} (hx : PE X (.Name x pp) (tVar i)) (ha : DA X pv W p true [e1, e2] m)
    (hs : swapsWith (.Call (.Attribute (.Name x pp) "insert" apos) [e1, e2] [] cpos) none pos.line X.env = pure false := by rfl) (hline : (apos.endLine == cpos.line) = true := by rfl)
    (hbase : attributeBase (.Name x pp) "insert" X.env (eval (.Name x pp) X.env) = eval (.Name x pp) X.env := by rfl)
    (hfew : ((backTo cpos (starEach [e1, e2] X.env)).all (fun x => !x.1) && (backToKw cpos (keywordEach [] X.env)).all (fun x => x.1.isSome) && decide ([e1, e2].length + ([] : List Keyword).length + (if ([] : List Keyword).isEmpty then 0 else 1) < 30)) = true := by rfl)
    (hse : starEach [e1, e2] X.env = (false, eval e1 X.env) :: starEach [e2] X.env := by rfl) (hplain : (backTo cpos (starEach [e2] X.env)).any (·.1) = false := by rfl) :
    DS X pv W (.Expr (.Call (.Attribute (.Name x pp) "insert" apos) [e1, e2] [] cpos) pos) (sIns i m) := by
  obtain ⟨ta, a1, a2⟩ := ha
  refine ⟨_, ps_expr (pe_bm PySem.F.plainAttrs_list PySem.F.slot_list_insert PySem.F.type_list_insert mt_insert hx a1 hbase hfew hline hse hplain) hs, fun G F sd σ H D s => ?_⟩
  unfold sIns
  split
  · rename_i ts0 e0
    obtain ⟨a, vs0, h0, hH0⟩ := ol_at s e0
    refine MeetsS.imp (Meets.stm (a2 G F sd σ H (fun vs H1 => ∃ (l : Addr) (xs : List V) (i : Int) (y : V), V.ref a = .ref l ∧ vs = [.int i, y] ∧ H1 l = some (.lst xs) ∧ xs.length < sizeLine ∧ 0 ≤ i ∧ i < 2 ^ 63 ∧ D.nx σ (upd H1 l (.lst (xs.take i.toNat ++ [y] ++ xs.drop i.toNat)))) s) (f := insEnd i) (D := D) fun vs F1 H1 ds sd1 s1 s2 s3 => ?_) fun z => ⟨_, h0, .inl ⟨rfl, vs0, .inl (.inl hH0)⟩, z⟩
    have s5 : Reps X.K F1 vs ds := s3
    clear s3
    unfold insEnd
    split
    · rename_i k d ts e1
      obtain ⟨u, w, rfl, r1, r2⟩ := reps2 s5
      cases r1
      split
      · rename_i hk
        obtain ⟨a', xs, h1, h2, h3, h4⟩ := s2.lins (j := k.toNat) e1 r2
        rw [h0] at h1; cases h1
        intro hQ
        exact ⟨a, xs, k, w, rfl, rfl, h2, by rw [h3, sizeLine_eq]; exact hk.2.2, hk.1, hk.2.1, hQ F1 σ _ (Same.refl _) h4⟩
      · exact True.intro
    · exact True.intro
  · exact True.intro
theorem do_repO {ma : SD → ER OT} {mb : SD → ER D} (ha : DO X pv W p a ma) (hb : DX X pv W q true b mb) : DO X pv W (p && q) (.BinOp a .Mult b pos) (mRepO ma mb) := by
  obtain ⟨ta, a1, a2⟩ := ha
  obtain ⟨tb, b1, b2⟩ := hb
  refine ⟨_, pe_op op_rep a1 b1, fun G F sd σ H Q s => ?_⟩
  refine Meets.bind (a2 G F sd σ H _ s) fun v F1 H1 t sd1 s1 s2 s3 s4 => ?_
  obtain ⟨G', g1, g2, g3⟩ := StR1.hide s3
  have z := fun Q => (b2 G' F1 sd1 σ H1 Q g2).unhide g3
  have hq : q = (q && true) := by cases q <;> rfl
  rw [hq]
  refine Meets.bind (z _) fun y F2 H2 d sd2 t1 t2 t3 t4 => ?_
  have t5 : Rep X.K F2 y d := t3.2
  have t6 := t3.1
  clear t3 t4
  split
  · rename_i ts k
    cases t5
    split
    · rename_i ds e
      have et := fzs_eq e
      subst et
      split
      · rename_i hk
        obtain ⟨o, P, w, r, _⟩ := (show StR1 X.K pv G F2 sd2 σ H2 v (.ol (ds.map .fz)) from t6)
        unfold RepO at r
        obtain ⟨l, vs, rfl, _, hl, rr⟩ := r
        have rr := repOs_fz rr
        intro hQ
        refine ⟨l, k, vs, rfl, rfl, hl, by omega, hk.2.1, by rw [rr.length, sizeLine_eq]; exact hk.2.2, fun q hq => ?_⟩
        have z := t2.newL hq (reps_some rr k.toNat)
        exact hQ _ _ _ (Same.refl _) z.drop z fun y => ⟨Same.upd hq, rfl⟩
      · exact True.intro
    · exact True.intro
  · exact True.intro
noncomputable def dStrip : D → List D → Option D
  | .str a, [.str b] => if a.length ≤ 16777216 then some (.str (Txt.stripChars a b)) else none
  | _, _ => none
theorem f_strip {K : PySem.W.Frag} : CallM K (fun x xs H Q => ∃ a b, x = .str a ∧ xs = [.str b] ∧ a.length ≤ sizeLine ∧ Q (.str (Txt.stripChars a b)) H) dStrip := by
  intro H x xs d ds c r rs h
  unfold dStrip at h
  split at h
  · obtain ⟨w, rfl, r1⟩ := reps1 rs
    cases r
    cases r1
    split at h
    · rename_i hz
      cases h
      exact ⟨_, rfl, fun Q q => ⟨_, _, rfl, rfl, by rw [sizeLine_eq]; exact hz, q⟩⟩
    · cases h
  · cases h
theorem dx_strip {mo : SD → ER D} {ma : SD → ER (List D)} {apos cpos : Pos} (ho : DX X pv W p k o mo) (ha : DA X pv W q l [e] ma) (hk : (k || q) = true := by rfl) (hbase : attributeBase o "strip" X.env (eval o X.env) = eval o X.env := by rfl)
    (hfew : ((backTo cpos (starEach [e] X.env)).all (fun x => !x.1) && (backToKw cpos (keywordEach [] X.env)).all (fun x => x.1.isSome) && decide ([e].length + ([] : List Keyword).length + (if ([] : List Keyword).isEmpty then 0 else 1) < 30)) = true := by rfl)
    (hline : (apos.endLine == cpos.line) = true := by rfl) (hs : starEach [e] X.env = (false, eval e X.env) :: starEach [] X.env := by rfl) (hplain : (backTo cpos (starEach [] X.env)).any (·.1) = false := by rfl) :
    DX X pv W (p && q) true (.Call (.Attribute o "strip" apos) [e] [] cpos) (mBm D.isS dStrip mo ma) :=
  dx_bm PySem.F.plainAttrs_str PySem.F.slot_str_strip PySem.F.type_str_strip mt_stripChars ty_str f_strip ho ha hk hbase hfew hline hs hplain
end
end DL
namespace DL
open PySem PySem.Spec L2
noncomputable def dIsiI (ok : Addr → Bool) (n : String) : List D → Option D
  | [.ins C ns vs, .ty m] => if m = n then ((D.ins C ns vs).tyv ok).map fun _ => .bl false else none
  | ds => dIsi ds
theorem kit_tyno {K : PySem.W.Frag} {C : Addr} {n : String} (hm : PySem.W.kitMeta n = true) (h3 : PySem.W.subIn K (.ref C) (.type n) = some false) : PySem.W.kitOne K (.ref C) (.type n) = some false := by
  have e : (Value.ref C == Value.type n) = false := Bool.eq_false_iff.mpr fun q => by cases beq_iff_eq.mp q
  unfold PySem.W.kitOne PySem.W.kitCls
  rw [e]
  simp [hm, h3]
theorem f_isiI {K : PySem.W.Frag} {ok : Addr → Bool} {n : String} (hC : ∀ C, ok C = true → CF K C) (f : ∀ C, ok C = true → PySem.W.kitOne K (.ref C) (.type n) = some false) : CallS K (rIsi K) (dIsiI ok n) := by
  intro H xs ds c r h
  unfold dIsiI at h
  split at h
  · rename_i C ns vs m
    obtain ⟨v, v', rfl, r1, r2⟩ := reps2 r
    cases r2
    split at h
    · rename_i hm
      subst hm
      obtain ⟨t, e, h⟩ := Option.map_eq_some_iff.mp h
      subst h
      refine ⟨_, rfl, fun Q q => ⟨v, _, t, _, _, rfl, .ty _, tyv_rep hC r1 e, ?_, q⟩⟩
      have e : (if ok C = true then some (Value.ref C) else none) = some t := e
      split at e
      · rename_i hok
        cases e
        exact f C hok
      · cases e
    · cases h
  · exact f_isi _ _ _ _ r h
end DL
namespace DL
open PySem PySem.Spec L2
@[elab_as_elim] theorem ul0 {α : Type} {us : List α} {P : List α → Prop} (h : us.length = 0) (hp : P []) : P us := by
  cases us with
  | nil => exact hp
  | cons _ _ => cases h
theorem ulS {α : Type} {us : List α} {n : Nat} {P : List α → Prop} (h : us.length = n + 1) (hp : ∀ a r, r.length = n → P (a :: r)) : P us := by
  cases us with
  | nil => cases h
  | cons a r => exact hp a r (Nat.succ.inj h)
@[elab_as_elim] theorem ul1 {α : Type} {us : List α} {P : List α → Prop} (h : us.length = 1) (hp : ∀ a, P [a]) : P us := ulS h fun a r h => ul0 (P := fun r => P (a :: r)) h (hp a)
@[elab_as_elim] theorem ul2 {α : Type} {us : List α} {P : List α → Prop} (h : us.length = 2) (hp : ∀ a b, P [a, b]) : P us := ulS h fun a r h => ul1 (P := fun r => P (a :: r)) h (hp a)
@[elab_as_elim] theorem ul3 {α : Type} {us : List α} {P : List α → Prop} (h : us.length = 3) (hp : ∀ a b c, P [a, b, c]) : P us := ulS h fun a r h => ul2 (P := fun r => P (a :: r)) h (hp a)
@[elab_as_elim] theorem ul4 {α : Type} {us : List α} {P : List α → Prop} (h : us.length = 4) (hp : ∀ a b c d, P [a, b, c, d]) : P us := ulS h fun a r h => ul3 (P := fun r => P (a :: r)) h (hp a)
@[elab_as_elim] theorem ul5 {α : Type} {us : List α} {P : List α → Prop} (h : us.length = 5) (hp : ∀ a b c d e, P [a, b, c, d, e]) : P us := ulS h fun a r h => ul4 (P := fun r => P (a :: r)) h (hp a)
theorem cs_getD {l : List Addr} {i : Nat} (h : i < l.length) : l[i]? = some (l.getD i 0) := by
  rw [List.getD_eq_getElem?_getD, List.getElem?_eq_getElem h]
  rfl
section
variable {X : Cx} {pv : List V} {W : WX} {p q k l : Bool} {e a b : Expr} {es : List Expr} {pos : Pos}
noncomputable def mCutS (a : SD → ER D) (lo hi : SD → ER (Option Int)) : SD → ER OT := fun sd => (a sd).bind fun x sd1 => (lo sd1).bind fun i sd2 => (hi sd2).bind fun j sd3 => match x with
  | .scr ns => .ok (.ol ((cutL (ns.map D.int) i j).map .fz)) sd3
  | _ => .bad
theorem do_cutS {lo hi : Option Expr} {p2 : Pos} {ma : SD → ER D} {ml mh : SD → ER (Option Int)} {q1 q2 : Bool} (ha : DX X pv W p true a ma) (hl : DP X pv W q1 lo ml) (hh : DP X pv W q2 hi mh) :
    DO X pv W (p && (q1 && q2)) (.Subscript a (.Slice lo hi none p2) pos) (mCutS ma ml mh) := by
  obtain ⟨ta, a1, a2⟩ := ha
  obtain ⟨tl, b1, b2⟩ := hl
  obtain ⟨th, c1, c2⟩ := hh
  refine ⟨_, pe_slice sl_list a1 b1 c1, fun G F sd σ H Q s => ?_⟩
  refine Meets.bind (a2 G F sd σ H _ s) fun x F1 H1 dx sd1 s1 s2 s3 s4 => ?_
  refine Meets.bind (b2 G F1 sd1 σ H1 _ s2) fun i F2 H2 i' sd2 t1 t2 t3 t4 => ?_
  refine Meets.bindL (c2 G F2 sd2 σ H2 _ t2) fun j F3 H3 j' sd3 u1 u2 u3 u4 => ?_
  have t3 : i = i' := t3
  have u3 : j = j' := u3
  subst t3 u3
  have rx : Rep X.K F3 x dx := Rep.mono (t1.trans u1) (show Rep X.K F1 x dx from s3)
  cases dx with
  | scr ns =>
    intro hQ
    cases rx with
    | @scr aa _ h1 =>
      refine ⟨aa, ns.map V.int, rfl, u2.fh.seq h1, fun hp hp2 => ?_⟩
      have z := u2.newL hp2 (reps_cut i j (Reps.ints ns))
      exact hQ _ _ _ (Same.refl _) z.drop z fun _ => ⟨Same.upd hp2, rfl⟩
  | _ => exact True.intro
end
end DL
namespace Lw
open PySem PySem.Spec L2 DL
/-- the classes of which instances are made -/
noncomputable def okC (cs : Nat → Addr) (C : Addr) : Bool := C == cs 0
noncomputable def CsOk (cs : Nat → Addr) : Prop := ∀ i j, i < 31 → j < 31 → cs i = cs j → i = j
/-- which exception is of which class -/
noncomputable def relC (cs : Nat → Addr) : XRel := relX cs 31 1 [2] [29, 30, 25, 15, 18, 19, 22, 12, 27, 16, 23, 14, 13, 17, 26, 21, 24, 20, 28, 2, 3, 6, 7, 8, 9, 10, 11, 4, 5]
noncomputable def xT (cs : Nat → Addr) : Addr → Bool := xTest cs 31 [2]
noncomputable def m_words_of_1 (cs : Nat → Addr) : SD → Fl := sRet (mOwn (mIf (mTest (mOp dNe (mVar 0) (mC (.str "")))) (mView (mBmL D.isS dSplit (mVar 0) (mCons (mC (.str " ")) (mNil)))) (mView (mLst (mNil)))))
noncomputable def m_words_of (cs : Nat → Addr) : List OT → ER OT := asDef 1 (
    (m_words_of_1 cs))
noncomputable def m_is_number_1 (cs : Nat → Addr) : SD → Fl := sRet (mOwn (mC (.bl false)))
noncomputable def m_is_number_2 (cs : Nat → Addr) : SD → Fl := sIf (mOr (mNot (mTest (mChain dLe dLe (mC (.int 1)) (mCall dLen (mCons (mVar 0) (mNil))) (mC (.int 31))))) (mTest (mOp dEq (mOp dIx (mVar 0) (mC (.int 0))) (mC (.str "0"))))) ((m_is_number_1 cs)) (sNil)
noncomputable def m_is_number_c1 (cs : Nat → Addr) : SD → ER OT := mComp (iStrD (mVar 0)) (tgN 1) (mYes) (mOp (dIn false) (mVar 1) (mC (.str "0123456789"))) [1]
noncomputable def m_is_number_3 (cs : Nat → Addr) : SD → Fl := sRet (mOwn (mAndV (mCall dAll (mCons (mView ((m_is_number_c1 cs))) (mNil))) (mChain dLe dLe (mC (.int 2)) (mCall dInt2 (mCons (mVar 0) (mNil))) (mC (.int 1000000000000000000000000000000)))))
noncomputable def m_is_number (cs : Nat → Addr) : List OT → ER OT := asDef 2 (
    sSeq ((m_is_number_2 cs))
    ((m_is_number_3 cs)))
noncomputable def m_is_step_word_1 (cs : Nat → Addr) : SD → Fl := sRet (mOwn (mAndV (mOp dNe (mCutX (mVar 0) (oNone) (oSome (mC (.int 1)))) (mC (.str ""))) (mAndV (mOp (dIn false) (mCutX (mVar 0) (oNone) (oSome (mC (.int 1)))) (mC (.str "fblrud"))) (mOrV (mOp dEq (mCall dLen (mCons (mVar 0) (mNil))) (mC (.int 1))) (mView (mCall0 (m_is_number cs) (mCons (mCutX (mVar 0) (oSome (mC (.int 1))) (oNone)) (mNil))))))))
noncomputable def m_is_step_word (cs : Nat → Addr) : List OT → ER OT := asDef 1 (
    (m_is_step_word_1 cs))
noncomputable def m_first_wrong_1 (cs : Nat → Addr) : SD → Fl := sSet 2 (mOwn (mC (.int 0)))
noncomputable def m_first_wrong_2 (cs : Nat → Addr) : SD → Fl := sSet 3 (mOwn (mC (.bl false)))
noncomputable def m_first_wrong_3 (cs : Nat → Addr) : SD → Fl := sSet 2 (mOwn (mOp dAdd (mVar 2) (mC (.int 1))))
noncomputable def m_first_wrong_4 (cs : Nat → Addr) : SD → Fl := sSet 3 (mOwn (mC (.bl true)))
noncomputable def m_first_wrong_5 (cs : Nat → Addr) : SD → Fl := sRet (mOwn (mVar 4))
noncomputable def m_first_wrong_6 (cs : Nat → Addr) : SD → Fl := sIf (mTest (mOp dGt (mVar 2) (mC (.int 12)))) ((m_first_wrong_5 cs)) (sNil)
noncomputable def m_first_wrong_7 (cs : Nat → Addr) : SD → Fl := sRet (mOwn (mVar 4))
noncomputable def m_first_wrong_8 (cs : Nat → Addr) : SD → Fl := sIf (mOr (mTest (mOp dEq (mVar 2) (mC (.int 0)))) (mOr (mTest (mVar 3)) (mNot (mTest (mView (mCall0 (m_is_number cs) (mCons (mCutX (mVar 5) (oSome (mC (.int 1))) (oNone)) (mNil)))))))) ((m_first_wrong_7 cs)) (sNil)
noncomputable def m_first_wrong_9 (cs : Nat → Addr) : SD → Fl := sSet 2 (mOwn (mOp dSub (mVar 2) (mC (.int 1))))
noncomputable def m_first_wrong_10 (cs : Nat → Addr) : SD → Fl := sSet 3 (mOwn (mC (.bl false)))
noncomputable def m_first_wrong_11 (cs : Nat → Addr) : SD → Fl := sRet (mOwn (mVar 4))
noncomputable def m_first_wrong_12 (cs : Nat → Addr) : SD → Fl := sIf (mOr (mTest (mView (mCall0 (m_is_step_word cs) (mCons (mVar 5) (mNil))))) (mTest (mOp (dIn false) (mVar 5) (mVar 1)))) ((m_first_wrong_10 cs)) ((m_first_wrong_11 cs))
noncomputable def m_first_wrong_13 (cs : Nat → Addr) : SD → Fl := sIf (mTest (mOp dEq (mCutX (mVar 5) (oNone) (oSome (mC (.int 1)))) (mC (.str ")")))) (sSeq ((m_first_wrong_8 cs)) ((m_first_wrong_9 cs))) ((m_first_wrong_12 cs))
noncomputable def m_first_wrong_14 (cs : Nat → Addr) : SD → Fl := sIf (mTest (mOp dEq (mVar 5) (mC (.str "(")))) (sSeq ((m_first_wrong_3 cs)) (sSeq ((m_first_wrong_4 cs)) ((m_first_wrong_6 cs)))) ((m_first_wrong_13 cs))
noncomputable def m_first_wrong_15 (cs : Nat → Addr) : SD → Fl := sRet (mOwn (mVar 4))
noncomputable def m_first_wrong_16 (cs : Nat → Addr) : SD → Fl := sIf (mTest (mOp dGt (mOp dAdd (mOp dAdd (mOp dAdd (mVar 4) (mC (.int 1))) (mVar 2)) (mCall dInt2 (mCons (mVar 3) (mNil)))) (mC (.int 1000)))) ((m_first_wrong_15 cs)) (sNil)
noncomputable def m_first_wrong_b1 (cs : Nat → Addr) : SD → Fl := sSeq ((m_first_wrong_14 cs)) ((m_first_wrong_16 cs))
noncomputable def m_first_wrong_17 (cs : Nat → Addr) : SD → Fl := sFor (iEnumL (mCons (mVar 0) (mNil))) (tgT 2 (tgCons (tgN 4) (tgCons (tgN 5) (tgNil)))) ((m_first_wrong_b1 cs))
noncomputable def m_first_wrong_18 (cs : Nat → Addr) : SD → Fl := sRet (mOwn (mIf (mTest (mOp dEq (mVar 2) (mC (.int 0)))) (mC .non) (mCall dLen (mCons (mVar 0) (mNil)))))
noncomputable def m_first_wrong (cs : Nat → Addr) : List OT → ER OT := asDef 6 (
    sSeq ((m_first_wrong_1 cs))
    (sSeq ((m_first_wrong_2 cs))
    (sSeq ((m_first_wrong_17 cs))
    ((m_first_wrong_18 cs)))))
noncomputable def m_nodes_from_1 (cs : Nat → Addr) (rec : List OT → ER OT) : SD → Fl := sSet 2 (mLst (mNil))
noncomputable def m_nodes_from_2 (cs : Nat → Addr) (rec : List OT → ER OT) : SD → Fl := sSet 3 (mOwn (mOp dIx (mVar 0) (mVar 1)))
noncomputable def m_nodes_from_3 (cs : Nat → Addr) (rec : List OT → ER OT) : SD → Fl := sAsg (mView (mCall0 (rec) (mCons (mVar 0) (mCons (mOp dAdd (mVar 1) (mC (.int 1))) (mNil))))) (tgT 2 (tgCons (tgN 4) (tgCons (tgN 1) (tgNil))))
noncomputable def m_nodes_from_4 (cs : Nat → Addr) (rec : List OT → ER OT) : SD → Fl := sApp 2 (mOwn (mTup (mCons (mVar 4) (mCons (mCall dInt2 (mCons (mCutX (mOp dIx (mVar 0) (mVar 1)) (oSome (mC (.int 1))) (oNone)) (mNil))) (mNil)))))
noncomputable def m_nodes_from_5 (cs : Nat → Addr) (rec : List OT → ER OT) : SD → Fl := sApp 2 (mOwn (mTup (mCons (mOp dIx (mVar 3) (mC (.int 0))) (mCons (mIf (mTest (mOp dGt (mCall dLen (mCons (mVar 3) (mNil))) (mC (.int 1)))) (mCall dInt2 (mCons (mCutX (mVar 3) (oSome (mC (.int 1))) (oNone)) (mNil))) (mC (.int 1))) (mNil)))))
noncomputable def m_nodes_from_6 (cs : Nat → Addr) (rec : List OT → ER OT) : SD → Fl := sIf (mTest (mOp dEq (mVar 3) (mC (.str "(")))) (sSeq ((m_nodes_from_3 cs rec)) ((m_nodes_from_4 cs rec))) ((m_nodes_from_5 cs rec))
noncomputable def m_nodes_from_7 (cs : Nat → Addr) (rec : List OT → ER OT) : SD → Fl := sSet 1 (mOwn (mOp dAdd (mVar 1) (mC (.int 1))))
noncomputable def m_nodes_from_b1 (cs : Nat → Addr) (rec : List OT → ER OT) : SD → Fl := sSeq ((m_nodes_from_2 cs rec)) (sSeq ((m_nodes_from_6 cs rec)) ((m_nodes_from_7 cs rec)))
noncomputable def m_nodes_from_8 (cs : Nat → Addr) (rec : List OT → ER OT) : SD → Fl := sWhile (fun _ => 100000) (mAnd (mTest (mOp dLt (mVar 1) (mCall dLen (mCons (mVar 0) (mNil))))) (mTest (mOp dNe (mOp dIx (mOp dIx (mVar 0) (mVar 1)) (mC (.int 0))) (mC (.str ")"))))) ((m_nodes_from_b1 cs rec))
noncomputable def m_nodes_from_9 (cs : Nat → Addr) (rec : List OT → ER OT) : SD → Fl := sRet (mOwn (mTup (mCons (mCallT dTupOf (mCons (mFrz 2) (mNil))) (mCons (mVar 1) (mNil)))))
noncomputable def m_nodes_from_r (cs : Nat → Addr) (rec : List OT → ER OT) : List OT → ER OT := asDef 5 (
    sSeq ((m_nodes_from_1 cs rec))
    (sSeq ((m_nodes_from_8 cs rec))
    ((m_nodes_from_9 cs rec))))
noncomputable def m_nodes_from (cs : Nat → Addr) : Nat → List OT → ER OT
  | 0 => fun _ => .bad
  | n + 1 => m_nodes_from_r cs (m_nodes_from cs n)
noncomputable def m_nodes_in_1 (cs : Nat → Addr) : SD → Fl := sRet (mOwn (mOp dIx (mView (mCall0 (m_nodes_from cs 16) (mCons (mVar 0) (mCons (mC (.int 0)) (mNil))))) (mC (.int 0))))
noncomputable def m_nodes_in (cs : Nat → Addr) : List OT → ER OT := asDef 1 (
    (m_nodes_in_1 cs))
noncomputable def m_length_in_1 (cs : Nat → Addr) (rec : List OT → ER OT) : SD → Fl := sSet 1 (mOwn (mC (.int 0)))
noncomputable def m_length_in_2 (cs : Nat → Addr) (rec : List OT → ER OT) : SD → Fl := sSet 1 (mOwn (mOp dAdd (mVar 1) (mOp dMul (mVar 3) (mIf (mTest (mCall dIsi (mCons (mVar 2) (mCons (mC (.ty "str")) (mNil))))) (mC (.int 1)) (mView (mCall0 (rec) (mCons (mVar 2) (mNil))))))))
noncomputable def m_length_in_b1 (cs : Nat → Addr) (rec : List OT → ER OT) : SD → Fl := (m_length_in_2 cs rec)
noncomputable def m_length_in_3 (cs : Nat → Addr) (rec : List OT → ER OT) : SD → Fl := sFor (iTuP (mVar 0)) (tgT 2 (tgCons (tgN 2) (tgCons (tgN 3) (tgNil)))) ((m_length_in_b1 cs rec))
noncomputable def m_length_in_4 (cs : Nat → Addr) (rec : List OT → ER OT) : SD → Fl := sRet (mOwn (mVar 1))
noncomputable def m_length_in_r (cs : Nat → Addr) (rec : List OT → ER OT) : List OT → ER OT := asDef 4 (
    sSeq ((m_length_in_1 cs rec))
    (sSeq ((m_length_in_3 cs rec))
    ((m_length_in_4 cs rec))))
noncomputable def m_length_in (cs : Nat → Addr) : Nat → List OT → ER OT
  | 0 => fun _ => .bad
  | n + 1 => m_length_in_r cs (m_length_in cs n)
noncomputable def m_depth_in_c1 (cs : Nat → Addr) (rec : List OT → ER OT) : SD → ER OT := mComp (iTuP (mVar 0)) (tgT 2 (tgCons (tgN 1) (tgCons (tgN 2) (tgNil)))) (mNot (mTest (mCall dIsi (mCons (mVar 1) (mCons (mC (.ty "str")) (mNil)))))) (mOp dAdd (mC (.int 1)) (mView (mCall0 (rec) (mCons (mVar 1) (mNil))))) [1, 2]
noncomputable def m_depth_in_1 (cs : Nat → Addr) (rec : List OT → ER OT) : SD → Fl := sRet (mOwn (mCall dMax (mCons (mView (mCat (qNew (mLst (mCons (mC (.int 0)) (mNil)))) (qNew ((m_depth_in_c1 cs rec))))) (mNil))))
noncomputable def m_depth_in_r (cs : Nat → Addr) (rec : List OT → ER OT) : List OT → ER OT := asDef 3 (
    (m_depth_in_1 cs rec))
noncomputable def m_depth_in (cs : Nat → Addr) : Nat → List OT → ER OT
  | 0 => fun _ => .bad
  | n + 1 => m_depth_in_r cs (m_depth_in cs n)
noncomputable def m_Program___init___1 (cs : Nat → Addr) : SD → Fl := sRaiseX (cs 2) ["index"] (mCons (mC .non) (mNil))
noncomputable def m_Program___init___2 (cs : Nat → Addr) : SD → Fl := sIf (mNot (mTest (mCall (dIsiI (okC cs) "str") (mCons (mVar 1) (mCons (mC (.ty "str")) (mNil)))))) ((m_Program___init___1 cs)) (sNil)
noncomputable def m_Program___init___3 (cs : Nat → Addr) : SD → Fl := sSet 2 (mFz (mCall0 (m_words_of cs) (mCons (mVar 1) (mNil))))
noncomputable def m_Program___init___4 (cs : Nat → Addr) : SD → Fl := sSet 3 (mFz (mCall0 (m_first_wrong cs) (mCons (mVar 2) (mCons (mView (mLst (mNil))) (mNil)))))
noncomputable def m_Program___init___5 (cs : Nat → Addr) : SD → Fl := sRaiseX (cs 2) ["index"] (mCons (mVar 3) (mNil))
noncomputable def m_Program___init___6 (cs : Nat → Addr) : SD → Fl := sIf (mTest (mOp dNotN (mVar 3) (mC .non))) ((m_Program___init___5 cs)) (sNil)
noncomputable def m_Program___init___7 (cs : Nat → Addr) : SD → Fl := sFldSet (fun C => C == cs 0) 0 "own_text" (mOwn (mVar 1))
noncomputable def m_Program___init___8 (cs : Nat → Addr) : SD → Fl := sFldSet (fun C => C == cs 0) 0 "own_words" (mOwn (mCallT dTupOf (mCons (mVar 2) (mNil))))
noncomputable def m_Program___init___9 (cs : Nat → Addr) : SD → Fl := sFldSet (fun C => C == cs 0) 0 "own_nodes" (mFz (mCall0 (m_nodes_in cs) (mCons (mVar 2) (mNil))))
noncomputable def m_Program___init___10 (cs : Nat → Addr) : SD → Fl := sFldSet (fun C => C == cs 0) 0 "own_length" (mFz (mCall0 (m_length_in cs 16) (mCons (mFldO (fun C => C == cs 0) 0 "own_nodes") (mNil))))
noncomputable def m_Program___init___11 (cs : Nat → Addr) : SD → Fl := sFldSet (fun C => C == cs 0) 0 "own_depth" (mFz (mCall0 (m_depth_in cs 16) (mCons (mFldO (fun C => C == cs 0) 0 "own_nodes") (mNil))))
noncomputable def m_Program___init__ (cs : Nat → Addr) : List OT → ER OT := asDef 4 (
    sSeq ((m_Program___init___2 cs))
    (sSeq ((m_Program___init___3 cs))
    (sSeq ((m_Program___init___4 cs))
    (sSeq ((m_Program___init___6 cs))
    (sSeq ((m_Program___init___7 cs))
    (sSeq ((m_Program___init___8 cs))
    (sSeq ((m_Program___init___9 cs))
    (sSeq ((m_Program___init___10 cs))
    ((m_Program___init___11 cs))))))))))
noncomputable def m__law_bag_1 (cs : Nat → Addr) : SD → Fl := sRet (mLst (mCons (mCall dMax (mCons (mC (.int 0)) (mCons (mOp dSub (mVar 0) (mOp dPow (mC (.int 10)) (mC (.int 18)))) (mNil)))) (mCons (mVar 0) (mCons (mC (.int 0)) (mNil)))))
noncomputable def m__law_bag (cs : Nat → Addr) : List OT → ER OT := asDef 1 (
    (m__law_bag_1 cs))
noncomputable def m__law_pick_1 (cs : Nat → Addr) : SD → Fl := sSetAt 0 (mC (.int 2)) (mOwn (mOp dAdd (mAt (qSee 0) (mC (.int 2))) (mC (.int 1))))
noncomputable def m__law_pick_2 (cs : Nat → Addr) : SD → Fl := sSet 2 (mOwn (mOp dMod (mAt (qSee 0) (mC (.int 0))) (mVar 1)))
noncomputable def m__law_pick_3 (cs : Nat → Addr) : SD → Fl := sSetAt 0 (mC (.int 0)) (mOwn (mOp dDiv (mAt (qSee 0) (mC (.int 0))) (mVar 1)))
noncomputable def m__law_pick_4 (cs : Nat → Addr) : SD → Fl := sRet (mOwn (mVar 2))
noncomputable def m__law_pick_5 (cs : Nat → Addr) : SD → Fl := sIf (mTest (mOp dGt (mAt (qSee 0) (mC (.int 0))) (mC (.int 0)))) (sSeq ((m__law_pick_2 cs)) (sSeq ((m__law_pick_3 cs)) ((m__law_pick_4 cs)))) (sNil)
noncomputable def m__law_pick_6 (cs : Nat → Addr) : SD → Fl := sSet 3 (mOwn (mOp dMod (mOp dAdd (mOp dAdd (mOp dMul (mOp dMod (mAt (qSee 0) (mC (.int 1))) (mC (.int 2147483629))) (mC (.int 48271))) (mOp dMul (mAt (qSee 0) (mC (.int 2))) (mC (.int 69621)))) (mC (.int 12345))) (mC (.int 2147483647))))
noncomputable def m__law_pick_7 (cs : Nat → Addr) : SD → Fl := sSet 4 (mOwn (mOp dMod (mOp dAdd (mOp dMul (mVar 3) (mVar 3)) (mOp dMul (mAt (qSee 0) (mC (.int 2))) (mC (.int 40692)))) (mC (.int 2147483587))))
noncomputable def m__law_pick_8 (cs : Nat → Addr) : SD → Fl := sRet (mOwn (mOp dMod (mOp dDiv (mOp dAdd (mOp dMul (mVar 3) (mC (.int 2147483587))) (mVar 4)) (mC (.int 32))) (mVar 1)))
noncomputable def m__law_pick (cs : Nat → Addr) : List OT → ER OT := asDef 5 (
    sSeq ((m__law_pick_1 cs))
    (sSeq ((m__law_pick_5 cs))
    (sSeq ((m__law_pick_6 cs))
    (sSeq ((m__law_pick_7 cs))
    ((m__law_pick_8 cs))))))
noncomputable def m__law_number_1 (cs : Nat → Addr) : SD → Fl := sRet (mOwn (mCall dStr1 (mCons (mOp dAdd (mC (.int 2)) (mView (mCall1 (m__law_pick cs) (rSlot 0 (rFz (mOp dIx (mView (mLst (mCons (mC (.int 2)) (mCons (mC (.int 3)) (mCons (mC (.int 9)) (mCons (mC (.int 60)) (mCons (mOp dSub (mOp dPow (mC (.int 10)) (mC (.int 30))) (mC (.int 1))) (mNil)))))))) (mView (mCall1 (m__law_pick cs) (rSlot 0 (rFz (mOp dAdd (mC (.int 2)) (mOp dMul (mC (.int 3)) (mVar 1))) (rNil)))))) (rNil)))))) (mNil))))
noncomputable def m__law_number (cs : Nat → Addr) : List OT → ER OT := asDef 2 (
    (m__law_number_1 cs))
noncomputable def m__law_words_1 (cs : Nat → Addr) (rec : List OT → ER OT) : SD → Fl := sSet 5 (mLst (mNil))
noncomputable def m__law_words_2 (cs : Nat → Addr) (rec : List OT → ER OT) : SD → Fl := sSet 6 (mOwn (mOp dAdd (mC (.int 1)) (mView (mCall1 (m__law_pick cs) (rSlot 0 (rFz (mVar 1) (rNil)))))))
noncomputable def m__law_words_3 (cs : Nat → Addr) (rec : List OT → ER OT) : SD → Fl := sSet 7 (mFz (mCall1 (m__law_pick cs) (rSlot 0 (rFz (mC (.int 5)) (rNil)))))
noncomputable def m__law_words_4 (cs : Nat → Addr) (rec : List OT → ER OT) : SD → Fl := sSet 8 (mOwn (mOp dSub (mVar 6) (mCall dLen (mCons (mSee 5) (mNil)))))
noncomputable def m__law_words_5 (cs : Nat → Addr) (rec : List OT → ER OT) : SD → Fl := sSet 9 (mFz (mCall1 (rec) (rSlot 0 (rFz (mOp dSub (mVar 8) (mC (.int 2))) (rFz (mOp dSub (mVar 2) (mC (.int 1))) (rFz (mVar 3) (rFz (mVar 4) (rNil))))))))
noncomputable def m__law_words_6 (cs : Nat → Addr) (rec : List OT → ER OT) : SD → Fl := sSet 5 (mCat (qFz (mView (mCat (qNew (mCat (qSee 5) (qNew (mLst (mCons (mC (.str "(")) (mNil)))))) (qFz (mVar 9))))) (qNew (mLst (mCons (mOp dAdd (mC (.str ")")) (mView (mCall1 (m__law_number cs) (rSlot 0 (rFz (mVar 4) (rNil)))))) (mNil)))))
noncomputable def m__law_words_7 (cs : Nat → Addr) (rec : List OT → ER OT) : SD → Fl := sApp 5 (mOwn (mOp dAdd (mOp dIx (mVar 3) (mView (mCall1 (m__law_pick cs) (rSlot 0 (rFz (mCall dLen (mCons (mVar 3) (mNil))) (rNil)))))) (mOp dIx (mView (mLst (mCons (mC (.str "")) (mCons (mView (mCall1 (m__law_number cs) (rSlot 0 (rFz (mVar 4) (rNil))))) (mNil))))) (mCall dInt2 (mCons (mOp dEq (mVar 7) (mC (.int 1))) (mNil))))))
noncomputable def m__law_words_8 (cs : Nat → Addr) (rec : List OT → ER OT) : SD → Fl := sIf (mAnd (mTest (mOp dEq (mVar 7) (mC (.int 0)))) (mAnd (mTest (mOp dGt (mVar 2) (mC (.int 0)))) (mTest (mOp dGt (mVar 8) (mC (.int 2)))))) (sSeq ((m__law_words_5 cs rec)) ((m__law_words_6 cs rec))) ((m__law_words_7 cs rec))
noncomputable def m__law_words_b1 (cs : Nat → Addr) (rec : List OT → ER OT) : SD → Fl := sSeq ((m__law_words_3 cs rec)) (sSeq ((m__law_words_4 cs rec)) ((m__law_words_8 cs rec)))
noncomputable def m__law_words_9 (cs : Nat → Addr) (rec : List OT → ER OT) : SD → Fl := sWhile (fun _ => 100000) (mTest (mOp dLt (mCall dLen (mCons (mSee 5) (mNil))) (mVar 6))) ((m__law_words_b1 cs rec))
noncomputable def m__law_words_10 (cs : Nat → Addr) (rec : List OT → ER OT) : SD → Fl := sRet (mTake 5)
noncomputable def m__law_words_r (cs : Nat → Addr) (rec : List OT → ER OT) : List OT → ER OT := asDef 10 (
    sSeq ((m__law_words_1 cs rec))
    (sSeq ((m__law_words_2 cs rec))
    (sSeq ((m__law_words_9 cs rec))
    ((m__law_words_10 cs rec)))))
noncomputable def m__law_words (cs : Nat → Addr) : Nat → List OT → ER OT
  | 0 => fun _ => .bad
  | n + 1 => m__law_words_r cs (m__law_words cs n)
noncomputable def m__law_class_1 (cs : Nat → Addr) : SD → Fl := sSet 1 (mFz (mLst (mCons (mCall (dIsF (relC cs)) (mCons (mVar 0) (mCons (mC (.cls (cs 2))) (mNil)))) (mCons (mCall (dIsF (relC cs)) (mCons (mVar 0) (mCons (mC (.cls (cs 3))) (mNil)))) (mCons (mCall (dIsF (relC cs)) (mCons (mVar 0) (mCons (mC (.cls (cs 6))) (mNil)))) (mNil))))))
noncomputable def m__law_class_2 (cs : Nat → Addr) : SD → Fl := sSet 1 (mFz (mCat (qFz (mVar 1)) (qNew (mLst (mCons (mCall (dIsF (relC cs)) (mCons (mVar 0) (mCons (mC (.cls (cs 7))) (mNil)))) (mCons (mCall (dIsF (relC cs)) (mCons (mVar 0) (mCons (mC (.cls (cs 8))) (mNil)))) (mNil)))))))
noncomputable def m__law_class_3 (cs : Nat → Addr) : SD → Fl := sSet 1 (mFz (mCat (qFz (mVar 1)) (qNew (mLst (mCons (mCall (dIsF (relC cs)) (mCons (mVar 0) (mCons (mC (.cls (cs 9))) (mNil)))) (mCons (mCall (dIsF (relC cs)) (mCons (mVar 0) (mCons (mC (.cls (cs 10))) (mNil)))) (mCons (mCall (dIsF (relC cs)) (mCons (mVar 0) (mCons (mC (.cls (cs 11))) (mNil)))) (mNil))))))))
noncomputable def m__law_class_4 (cs : Nat → Addr) : SD → Fl := sSet 1 (mFz (mCat (qFz (mVar 1)) (qNew (mLst (mCons (mCall (dIsF (relC cs)) (mCons (mVar 0) (mCons (mC (.cls (cs 4))) (mNil)))) (mCons (mCall (dIsF (relC cs)) (mCons (mVar 0) (mCons (mC (.cls (cs 5))) (mNil)))) (mNil)))))))
noncomputable def m__law_class_5 (cs : Nat → Addr) : SD → Fl := sSet 2 (mFz (mLst (mCons (mC (.str "InvalidText")) (mCons (mC (.str "InvalidSource")) (mCons (mC (.str "InvalidProgram")) (mCons (mC (.str "InvalidTimes")) (mCons (mC (.str "InvalidIndex")) (mCons (mC (.str "InvalidLetter")) (mNil)))))))))
noncomputable def m__law_class_6 (cs : Nat → Addr) : SD → Fl := sSet 2 (mFz (mCat (qFz (mVar 2)) (qNew (mLst (mCons (mC (.str "InvalidName")) (mCons (mC (.str "HasPen")) (mCons (mC (.str "TooDeep")) (mCons (mC (.str "TooLarge")) (mNil)))))))))
noncomputable def m__law_class_7 (cs : Nat → Addr) : SD → Fl := sRet (mOwn (mC (.str "odd")))
noncomputable def m__law_class_8 (cs : Nat → Addr) : SD → Fl := sIf (mTest (mCall (dIsF (relC cs)) (mCons (mVar 0) (mCons (mTup (mCons (mC (.cls (cs 29))) (mCons (mC (.cls (cs 30))) (mCons (mC (.cls (cs 25))) (mCons (mC (.cls (cs 15))) (mCons (mC (.cls (cs 18))) (mCons (mC (.cls (cs 19))) (mNil)))))))) (mNil))))) ((m__law_class_7 cs)) (sNil)
noncomputable def m__law_class_9 (cs : Nat → Addr) : SD → Fl := sRet (mOwn (mC (.str "odd")))
noncomputable def m__law_class_10 (cs : Nat → Addr) : SD → Fl := sIf (mTest (mCall (dIsF (relC cs)) (mCons (mVar 0) (mCons (mTup (mCons (mC (.cls (cs 22))) (mCons (mC (.cls (cs 12))) (mCons (mC (.cls (cs 27))) (mCons (mC (.cls (cs 16))) (mCons (mC (.cls (cs 23))) (mNil))))))) (mNil))))) ((m__law_class_9 cs)) (sNil)
noncomputable def m__law_class_11 (cs : Nat → Addr) : SD → Fl := sRet (mOwn (mC (.str "odd")))
noncomputable def m__law_class_12 (cs : Nat → Addr) : SD → Fl := sIf (mTest (mCall (dIsF (relC cs)) (mCons (mVar 0) (mCons (mTup (mCons (mC (.cls (cs 14))) (mCons (mC (.cls (cs 13))) (mCons (mC (.cls (cs 17))) (mCons (mC (.cls (cs 26))) (mCons (mC (.cls (cs 21))) (mCons (mC (.cls (cs 24))) (mCons (mC (.cls (cs 20))) (mCons (mC (.cls (cs 28))) (mNil)))))))))) (mNil))))) ((m__law_class_11 cs)) (sNil)
noncomputable def m__law_class_13 (cs : Nat → Addr) : SD → Fl := sRet (mOwn (mC (.str "odd")))
noncomputable def m__law_class_14 (cs : Nat → Addr) : SD → Fl := sIf (mOr (mTest (mOp dNe (mBm D.isL dCountD (mVar 1) (mCons (mC (.bl true)) (mNil))) (mC (.int 1)))) (mNot (mTest (mCall (dIsF (relC cs)) (mCons (mVar 0) (mCons (mC (.ty "ValueError")) (mNil))))))) ((m__law_class_13 cs)) (sNil)
noncomputable def m__law_class_15 (cs : Nat → Addr) : SD → Fl := sSet 3 (mOwn (mOp dIx (mVar 2) (mBm D.isL dIndexD (mVar 1) (mCons (mC (.bl true)) (mNil)))))
noncomputable def m__law_class_16 (cs : Nat → Addr) : SD → Fl := sRet (mOwn (mOp dAdd (mOp dAdd (mVar 3) (mC (.str " "))) (mCall dRepr (mCons (mFldX (fun C => C == cs 2) "index" (mVar 0)) (mNil)))))
noncomputable def m__law_class_17 (cs : Nat → Addr) : SD → Fl := sIf (mTest (mOp dEq (mVar 3) (mC (.str "InvalidText")))) ((m__law_class_16 cs)) (sNil)
noncomputable def m__law_class_18 (cs : Nat → Addr) : SD → Fl := sRet (mOwn (mOp dAdd (mOp dAdd (mOp dAdd (mOp dAdd (mVar 3) (mC (.str " "))) (mBadX)) (mC (.str " "))) (mCall dRepr (mCons (mFldX (fun C => C == cs 2) "index" (mVar 0)) (mNil)))))
noncomputable def m__law_class_19 (cs : Nat → Addr) : SD → Fl := sIf (mTest (mOp dEq (mVar 3) (mC (.str "InvalidSource")))) ((m__law_class_18 cs)) (sNil)
noncomputable def m__law_class_20 (cs : Nat → Addr) : SD → Fl := sRet (mOwn (mOp dAdd (mVar 3) (mIf (mTest (mOp (dIn false) (mVar 3) (mView (mLst (mCons (mC (.str "TooDeep")) (mCons (mC (.str "TooLarge")) (mNil))))))) (mOp dAdd (mC (.str " ")) (mBadX)) (mC (.str "")))))
noncomputable def m__law_class (cs : Nat → Addr) : List OT → ER OT := asDef 4 (
    sSeq ((m__law_class_1 cs))
    (sSeq ((m__law_class_2 cs))
    (sSeq ((m__law_class_3 cs))
    (sSeq ((m__law_class_4 cs))
    (sSeq ((m__law_class_5 cs))
    (sSeq ((m__law_class_6 cs))
    (sSeq ((m__law_class_8 cs))
    (sSeq ((m__law_class_10 cs))
    (sSeq ((m__law_class_12 cs))
    (sSeq ((m__law_class_14 cs))
    (sSeq ((m__law_class_15 cs))
    (sSeq ((m__law_class_17 cs))
    (sSeq ((m__law_class_19 cs))
    ((m__law_class_20 cs)))))))))))))))
noncomputable def m__law_told_1 (cs : Nat → Addr) : SD → Fl := sSet 1 (mOwn (mC .non))
noncomputable def m__law_told_2 (cs : Nat → Addr) : SD → Fl := sDrop (mView (mMake (cs 0) (m_Program___init__ cs) (mCons (mVar 0) (mNil))))
noncomputable def m__law_told_t1 (cs : Nat → Addr) : SD → Fl := (m__law_told_2 cs)
noncomputable def m__law_told_3 (cs : Nat → Addr) : SD → Fl := sSet 1 (mOwn (mVar 2))
noncomputable def m__law_told_x1 (cs : Nat → Addr) : SD → Fl := (m__law_told_3 cs)
noncomputable def m__law_told_4 (cs : Nat → Addr) : SD → Fl := sTry (xT cs) 2 ((m__law_told_t1 cs)) ((m__law_told_x1 cs))
noncomputable def m__law_told_5 (cs : Nat → Addr) : SD → Fl := sRet (mOwn (mIf (mTest (mOp dIsN (mVar 1) (mC .non))) (mC (.str "fine")) (mView (mCall0 (m__law_class cs) (mCons (mVar 1) (mNil))))))
noncomputable def m__law_told (cs : Nat → Addr) : List OT → ER OT := asDef 3 (
    sSeq ((m__law_told_1 cs))
    (sSeq ((m__law_told_4 cs))
    ((m__law_told_5 cs))))
noncomputable def m__law_changed_1 (cs : Nat → Addr) : SD → Fl := sSet 2 (mCallL dListOf (mCons (mVar 1) (mNil)))
noncomputable def m__law_changed_2 (cs : Nat → Addr) : SD → Fl := sPar 3 4 (mFz (mCall1 (m__law_pick cs) (rSlot 0 (rFz (mCall dLen (mCons (mSee 2) (mNil))) (rNil))))) (mFz (mCall1 (m__law_pick cs) (rSlot 0 (rFz (mCall dLen (mCons (mSee 2) (mNil))) (rNil)))))
noncomputable def m__law_changed_3 (cs : Nat → Addr) : SD → Fl := sSet 5 (mFz (mLst (mCons (mC (.str "")) (mCons (mC (.str "x")) (mCons (mC (.str "f1")) (mCons (mC (.str "f0")) (mCons (mC (.str "f02")) (mCons (mC (.str "f-2")) (mCons (mC (.str "f+2")) (mCons (mC (.str "F")) (mCons (mC (.str "ff")) (mCons (mC (.str "2f")) (mCons (mC (.str ")")) (mCons (mC (.str ")1")) (mCons (mC (.str ")0")) (mCons (mC (.str ")02")) (mCons (mC (.str ")2")) (mCons (mC (.str "(")) (mCons (mC (.str "()")) (mCons (mC (.str "(2")) (mNil)))))))))))))))))))))
noncomputable def m__law_changed_4 (cs : Nat → Addr) : SD → Fl := sSet 5 (mFz (mCat (qFz (mVar 5)) (qNew (mLst (mCons (mOp dAdd (mC (.str "f1")) (mOp dMulX (mC (.str "0")) (mC (.int 30)))) (mCons (mOp dAdd (mOp dAdd (mC (.str "f1")) (mOp dMulX (mC (.str "0")) (mC (.int 29)))) (mC (.str "1"))) (mCons (mOp dAdd (mC (.str "f")) (mOp dMulX (mC (.str "9")) (mC (.int 31)))) (mCons (mOp dAdd (mC (.str "f")) (mOp dMulX (mC (.str "9")) (mC (.int 32)))) (mCons (mOp dAdd (mC (.str ")1")) (mOp dMulX (mC (.str "0")) (mC (.int 30)))) (mCons (mC (.str "f\n")) (mCons (mC (.str "f,")) (mNil))))))))))))
noncomputable def m__law_changed_5 (cs : Nat → Addr) : SD → Fl := sSet 5 (mFz (mCat (qFz (mVar 5)) (qNew (mLst (mCons (mC (.str "l2l")) (mCons (mC (.str "u2.0")) (mCons (mC (.str "d1e2")) (mCons (mC (.str "b2_0")) (mCons (mC (.str "r2 ")) (mCons (mC (.str " ")) (mCons (mC (.str "((")) (mCons (mC (.str "))")) (mCons (mC (.str "0")) (mCons (mC (.str "2")) (mCons (mOp dAdd (mC (.str "f")) (mOp dMulX (mC (.str "9")) (mC (.int 3000)))) (mCons (mC (.str "z2")) (mNil)))))))))))))))))
noncomputable def m__law_changed_6 (cs : Nat → Addr) : SD → Fl := sSet 5 (mFz (mCat (qFz (mVar 5)) (qNew (mLst (mCons (mC (.str "fblrud")) (mCons (mC (.str ")2)")) (mNil)))))))
noncomputable def m__law_changed_7 (cs : Nat → Addr) : SD → Fl := sSet 6 (mOwn (mOp dIx (mVar 5) (mView (mCall1 (m__law_pick cs) (rSlot 0 (rFz (mCall dLen (mCons (mVar 5) (mNil))) (rNil)))))))
noncomputable def m__law_changed_8 (cs : Nat → Addr) : SD → Fl := sSet 7 (mFz (mCall1 (m__law_pick cs) (rSlot 0 (rFz (mC (.int 5)) (rNil)))))
noncomputable def m__law_changed_9 (cs : Nat → Addr) : SD → Fl := sSetAt 2 (mVar 3) (mOwn (mVar 6))
noncomputable def m__law_changed_10 (cs : Nat → Addr) : SD → Fl := sIf (mTest (mOp dEq (mVar 7) (mC (.int 0)))) ((m__law_changed_9 cs)) (sNil)
noncomputable def m__law_changed_11 (cs : Nat → Addr) : SD → Fl := sIns 2 (mCons (mVar 3) (mCons (mVar 6) (mNil)))
noncomputable def m__law_changed_12 (cs : Nat → Addr) : SD → Fl := sIf (mTest (mOp dEq (mVar 7) (mC (.int 1)))) ((m__law_changed_11 cs)) (sNil)
noncomputable def m__law_changed_13 (cs : Nat → Addr) : SD → Fl := sDrop (mView (mPopAt 2 (mVar 3)))
noncomputable def m__law_changed_14 (cs : Nat → Addr) : SD → Fl := sIf (mTest (mOp dEq (mVar 7) (mC (.int 2)))) ((m__law_changed_13 cs)) (sNil)
noncomputable def m__law_changed_15 (cs : Nat → Addr) : SD → Fl := sIns 2 (mCons (mVar 4) (mCons (mView (mPopAt 2 (mVar 3))) (mNil)))
noncomputable def m__law_changed_16 (cs : Nat → Addr) : SD → Fl := sIf (mTest (mOp dEq (mVar 7) (mC (.int 3)))) ((m__law_changed_15 cs)) (sNil)
noncomputable def m__law_changed_17 (cs : Nat → Addr) : SD → Fl := sSetAt 2 (mVar 3) (mOwn (mOp dAdd (mOp dAdd (mCutX (mAt (qSee 2) (mVar 3)) (oNone) (oSome (mView (mCall1 (m__law_pick cs) (rSlot 0 (rFz (mC (.int 3)) (rNil))))))) (mOp dIx (mC (.str "fblrud()0123456789x")) (mView (mCall1 (m__law_pick cs) (rSlot 0 (rFz (mC (.int 19)) (rNil))))))) (mCutX (mAt (qSee 2) (mVar 3)) (oSome (mC (.int 1))) (oNone))))
noncomputable def m__law_changed_18 (cs : Nat → Addr) : SD → Fl := sIf (mTest (mOp dEq (mVar 7) (mC (.int 4)))) ((m__law_changed_17 cs)) (sNil)
noncomputable def m__law_changed_19 (cs : Nat → Addr) : SD → Fl := sRet (mOwn (mIf (mTest (mOp dNe (mSee 2) (mView (mLst (mNil))))) (mFrz 2) (mView (mLst (mCons (mC (.str "(")) (mNil))))))
noncomputable def m__law_changed (cs : Nat → Addr) : List OT → ER OT := asDef 8 (
    sSeq ((m__law_changed_1 cs))
    (sSeq ((m__law_changed_2 cs))
    (sSeq ((m__law_changed_3 cs))
    (sSeq ((m__law_changed_4 cs))
    (sSeq ((m__law_changed_5 cs))
    (sSeq ((m__law_changed_6 cs))
    (sSeq ((m__law_changed_7 cs))
    (sSeq ((m__law_changed_8 cs))
    (sSeq ((m__law_changed_10 cs))
    (sSeq ((m__law_changed_12 cs))
    (sSeq ((m__law_changed_14 cs))
    (sSeq ((m__law_changed_16 cs))
    (sSeq ((m__law_changed_18 cs))
    ((m__law_changed_19 cs)))))))))))))))
noncomputable def m__law_is_number_1 (cs : Nat → Addr) : SD → Fl := sRet (mOwn (mC (.bl false)))
noncomputable def m__law_is_number_2 (cs : Nat → Addr) : SD → Fl := sIf (mOr (mTest (mOp dEq (mVar 0) (mC (.str "")))) (mOr (mTest (mOp dGt (mCall dLen (mCons (mVar 0) (mNil))) (mC (.int 31)))) (mOr (mTest (mOp dNe (mBm D.isS dStrip (mVar 0) (mCons (mC (.str "0123456789")) (mNil))) (mC (.str "")))) (mTest (mOp dEq (mOp dIx (mVar 0) (mC (.int 0))) (mC (.str "0"))))))) ((m__law_is_number_1 cs)) (sNil)
noncomputable def m__law_is_number_3 (cs : Nat → Addr) : SD → Fl := sRet (mOwn (mChain dLe dLe (mC (.int 2)) (mCall dInt2 (mCons (mVar 0) (mNil))) (mOp dPow (mC (.int 10)) (mC (.int 30)))))
noncomputable def m__law_is_number (cs : Nat → Addr) : List OT → ER OT := asDef 1 (
    sSeq ((m__law_is_number_2 cs))
    ((m__law_is_number_3 cs)))
noncomputable def m__law_wrong_1 (cs : Nat → Addr) : SD → Fl := sSet 2 (mOwn (mC (.int 0)))
noncomputable def m__law_wrong_2 (cs : Nat → Addr) : SD → Fl := sSet 2 (mOwn (mOp dAdd (mVar 2) (mC (.int 1))))
noncomputable def m__law_wrong_3 (cs : Nat → Addr) : SD → Fl := sRet (mOwn (mVar 3))
noncomputable def m__law_wrong_4 (cs : Nat → Addr) : SD → Fl := sIf (mOr (mTest (mOp dEq (mVar 2) (mC (.int 0)))) (mOr (mTest (mOp dEq (mOp dIx (mVar 0) (mOp dSub (mVar 3) (mC (.int 1)))) (mC (.str "(")))) (mNot (mTest (mView (mCall0 (m__law_is_number cs) (mCons (mCutX (mVar 4) (oSome (mC (.int 1))) (oNone)) (mNil)))))))) ((m__law_wrong_3 cs)) (sNil)
noncomputable def m__law_wrong_5 (cs : Nat → Addr) : SD → Fl := sSet 2 (mOwn (mOp dSub (mVar 2) (mC (.int 1))))
noncomputable def m__law_wrong_6 (cs : Nat → Addr) : SD → Fl := sRet (mOwn (mVar 3))
noncomputable def m__law_wrong_7 (cs : Nat → Addr) : SD → Fl := sIf (mAnd (mTest (mOp (dIn true) (mVar 4) (mVar 1))) (mOr (mTest (mOp (dIn true) (mCutX (mVar 4) (oNone) (oSome (mC (.int 1)))) (mView (mCallL dListX (mCons (mC (.str "fblrud")) (mNil)))))) (mAnd (mTest (mOp dNe (mCutX (mVar 4) (oSome (mC (.int 1))) (oNone)) (mC (.str "")))) (mNot (mTest (mView (mCall0 (m__law_is_number cs) (mCons (mCutX (mVar 4) (oSome (mC (.int 1))) (oNone)) (mNil))))))))) ((m__law_wrong_6 cs)) (sNil)
noncomputable def m__law_wrong_8 (cs : Nat → Addr) : SD → Fl := sIf (mTest (mOp dEq (mCutX (mVar 4) (oNone) (oSome (mC (.int 1)))) (mC (.str ")")))) (sSeq ((m__law_wrong_4 cs)) ((m__law_wrong_5 cs))) ((m__law_wrong_7 cs))
noncomputable def m__law_wrong_9 (cs : Nat → Addr) : SD → Fl := sIf (mTest (mOp dEq (mVar 4) (mC (.str "(")))) ((m__law_wrong_2 cs)) ((m__law_wrong_8 cs))
noncomputable def m__law_wrong_10 (cs : Nat → Addr) : SD → Fl := sRet (mOwn (mVar 3))
noncomputable def m__law_wrong_11 (cs : Nat → Addr) : SD → Fl := sIf (mOr (mTest (mOp dGt (mVar 2) (mC (.int 12)))) (mTest (mOp dGt (mOp dAdd (mOp dAdd (mOp dAdd (mVar 3) (mC (.int 1))) (mVar 2)) (mCall dInt2 (mCons (mOp dEq (mVar 4) (mC (.str "("))) (mNil)))) (mC (.int 1000))))) ((m__law_wrong_10 cs)) (sNil)
noncomputable def m__law_wrong_b1 (cs : Nat → Addr) : SD → Fl := sSeq ((m__law_wrong_9 cs)) ((m__law_wrong_11 cs))
noncomputable def m__law_wrong_12 (cs : Nat → Addr) : SD → Fl := sFor (iEnumL (mCons (mVar 0) (mNil))) (tgT 2 (tgCons (tgN 3) (tgCons (tgN 4) (tgNil)))) ((m__law_wrong_b1 cs))
noncomputable def m__law_wrong_13 (cs : Nat → Addr) : SD → Fl := sRet (mOwn (mIf (mTest (mOp dGt (mVar 2) (mC (.int 0)))) (mCall dLen (mCons (mVar 0) (mNil))) (mC .non)))
noncomputable def m__law_wrong (cs : Nat → Addr) : List OT → ER OT := asDef 5 (
    sSeq ((m__law_wrong_1 cs))
    (sSeq ((m__law_wrong_12 cs))
    ((m__law_wrong_13 cs))))
noncomputable def m__law_right_1 (cs : Nat → Addr) : SD → Fl := sSet 1 (mOwn (mIf (mTest (mOp dNe (mVar 0) (mC (.str "")))) (mView (mBmL D.isS dSplit (mVar 0) (mCons (mC (.str " ")) (mNil)))) (mView (mLst (mNil)))))
noncomputable def m__law_right_2 (cs : Nat → Addr) : SD → Fl := sSet 2 (mFz (mCall0 (m__law_wrong cs) (mCons (mVar 1) (mCons (mView (mLst (mNil))) (mNil)))))
noncomputable def m__law_right_3 (cs : Nat → Addr) : SD → Fl := sRet (mOwn (mOp dEq (mView (mCall0 (m__law_told cs) (mCons (mVar 0) (mNil)))) (mIf (mTest (mOp dIsN (mVar 2) (mC .non))) (mC (.str "fine")) (mOp dAdd (mC (.str "InvalidText ")) (mCall dRepr (mCons (mVar 2) (mNil)))))))
noncomputable def m__law_right (cs : Nat → Addr) : List OT → ER OT := asDef 3 (
    sSeq ((m__law_right_1 cs))
    (sSeq ((m__law_right_2 cs))
    ((m__law_right_3 cs))))
noncomputable def m__law_long_right_1 (cs : Nat → Addr) : SD → Fl := sSet 1 (mFz (mCall1 (m__law_pick cs) (rSlot 0 (rFz (mC (.int 14)) (rNil)))))
noncomputable def m__law_long_right_2 (cs : Nat → Addr) : SD → Fl := sSet 2 (mOwn (mOp dAdd (mC (.int 985)) (mView (mCall1 (m__law_pick cs) (rSlot 0 (rFz (mC (.int 19)) (rNil)))))))
noncomputable def m__law_long_right_3 (cs : Nat → Addr) : SD → Fl := sSet 3 (mFz (mRepO (mLst (mCons (mC (.str "f")) (mNil))) (mView (mCall1 (m__law_pick cs) (rSlot 0 (rFz (mVar 2) (rNil)))))))
noncomputable def m__law_long_right_4 (cs : Nat → Addr) : SD → Fl := sSet 3 (mFz (mCat (qNew (mCat (qFz (mVar 3)) (qNew (mRepO (mLst (mCons (mC (.str "(")) (mNil))) (mVar 1))))) (qNew (mRepO (mLst (mCons (mC (.str "l")) (mNil))) (mOp dSub (mVar 2) (mCall dLen (mCons (mVar 3) (mNil))))))))
noncomputable def m__law_long_right_5 (cs : Nat → Addr) : SD → Fl := sSet 4 (mFz (mRepO (mLst (mCons (mC (.str ")2")) (mNil))) (mView (mCall1 (m__law_pick cs) (rSlot 0 (rFz (mC (.int 15)) (rNil)))))))
noncomputable def m__law_long_right_6 (cs : Nat → Addr) : SD → Fl := sRet (mOwn (mAndV (mView (mCall0 (m__law_right cs) (mCons (mBm D.isS dJoin (mC (.str " ")) (mCons (mView (mCat (qFz (mVar 3)) (qFz (mVar 4)))) (mNil))) (mNil)))) (mView (mCall0 (m__law_right cs) (mCons (mBm D.isS dJoin (mC (.str " ")) (mCons (mView (mRepO (mLst (mCons (mC (.str "f")) (mNil))) (mVar 2))) (mNil))) (mNil))))))
noncomputable def m__law_long_right (cs : Nat → Addr) : List OT → ER OT := asDef 5 (
    sSeq ((m__law_long_right_1 cs))
    (sSeq ((m__law_long_right_2 cs))
    (sSeq ((m__law_long_right_3 cs))
    (sSeq ((m__law_long_right_4 cs))
    (sSeq ((m__law_long_right_5 cs))
    ((m__law_long_right_6 cs)))))))
noncomputable def m_law_1 (cs : Nat → Addr) : SD → Fl := sRet (mOwn (mC (.bl false)))
noncomputable def m_law_2 (cs : Nat → Addr) : SD → Fl := sIf (mTest (mOp dNe (mView (mCall0 (m__law_told cs) (mCons (mVar 1) (mNil)))) (mC (.str "InvalidText None")))) ((m_law_1 cs)) (sNil)
noncomputable def m_law_b1 (cs : Nat → Addr) : SD → Fl := (m_law_2 cs)
noncomputable def m_law_3 (cs : Nat → Addr) : SD → Fl := sFor (iLst (mView (mLst (mCons (mC .non) (mCons (mC (.int 0)) (mCons (mC (.bl true)) (mCons (mView (mLst (mCons (mC (.str "f")) (mNil)))) (mCons (mTup (mCons (mC (.str "f")) (mNil))) (mCons (mDict0) (mCons (mTup (mNil)) (mCons (mView (mMake (cs 0) (m_Program___init__ cs) (mCons (mC (.str "f")) (mNil)))) (mNil)))))))))))) (tgN 1) ((m_law_b1 cs))
noncomputable def m_law_4 (cs : Nat → Addr) : SD → Fl := sSet 3 (mCall0 (m__law_bag cs) (mCons (mVar 2) (mNil)))
noncomputable def m_law_5 (cs : Nat → Addr) : SD → Fl := sSet 4 (mFz (mCall1 (m__law_words cs 16) (rSlot 3 (rFz (mOp dIx (mView (mLst (mCons (mC (.int 6)) (mCons (mC (.int 60)) (mNil))))) (mView (mCall1 (m__law_pick cs) (rSlot 3 (rFz (mC (.int 2)) (rNil)))))) (rFz (mC (.int 12)) (rFz (mC (.str "fblrud")) (rFz (mC (.int 1)) (rNil))))))))
noncomputable def m_law_6 (cs : Nat → Addr) : SD → Fl := sSet 6 (mFz (mCall1 (m__law_changed cs) (rSlot 3 (rFz (mVar 4) (rNil)))))
noncomputable def m_law_7 (cs : Nat → Addr) : SD → Fl := sSet 6 (mFz (mCall1 (m__law_changed cs) (rSlot 3 (rFz (mVar 6) (rNil)))))
noncomputable def m_law_8 (cs : Nat → Addr) : SD → Fl := sIf (mTest (mOp dEq (mView (mCall1 (m__law_pick cs) (rSlot 3 (rFz (mC (.int 3)) (rNil))))) (mC (.int 0)))) ((m_law_7 cs)) (sNil)
noncomputable def m_law_9 (cs : Nat → Addr) : SD → Fl := sRet (mOwn (mC (.bl false)))
noncomputable def m_law_10 (cs : Nat → Addr) : SD → Fl := sIf (mNot (mTest (mView (mCall0 (m__law_right cs) (mCons (mCutX (mBm D.isS dJoin (mC (.str " ")) (mCons (mVar 6) (mNil))) (oNone) (oSome (mC (.int 3900)))) (mNil)))))) ((m_law_9 cs)) (sNil)
noncomputable def m_law_b2 (cs : Nat → Addr) : SD → Fl := sSeq ((m_law_6 cs)) (sSeq ((m_law_8 cs)) ((m_law_10 cs)))
noncomputable def m_law_11 (cs : Nat → Addr) : SD → Fl := sFor (iRange1 (mCons (mC (.int 12)) (mNil))) (tgN 5) ((m_law_b2 cs))
noncomputable def m_law_12 (cs : Nat → Addr) : SD → Fl := sRet (mOwn (mC (.bl false)))
noncomputable def m_law_13 (cs : Nat → Addr) : SD → Fl := sIf (mOr (mNot (mTest (mView (mCall0 (m__law_right cs) (mCons (mBm D.isS dJoin (mC (.str " ")) (mCons (mVar 4) (mNil))) (mNil)))))) (mNot (mTest (mView (mCall1 (m__law_long_right cs) (rSlot 3 (rNil))))))) ((m_law_12 cs)) (sNil)
noncomputable def m_law_b3 (cs : Nat → Addr) : SD → Fl := sSeq ((m_law_4 cs)) (sSeq ((m_law_5 cs)) (sSeq ((m_law_11 cs)) ((m_law_13 cs))))
noncomputable def m_law_14 (cs : Nat → Addr) : SD → Fl := sFor (iLst (mView (mCat (qNew (mCutS (mVar 0) (oNone) (oSome (mC (.int 12))))) (qNew (mLst (mCons (mC (.int 0)) (mNil))))))) (tgN 2) ((m_law_b3 cs))
noncomputable def m_law_15 (cs : Nat → Addr) : SD → Fl := sSet 7 (mFz (mLst (mCons (mC (.str "")) (mCons (mC (.str " ")) (mCons (mC (.str "f ")) (mCons (mC (.str " f")) (mCons (mC (.str "f  l")) (mCons (mC (.str "(")) (mCons (mC (.str "( f")) (mCons (mC (.str "( )2")) (mCons (mC (.str "( f )")) (mCons (mC (.str "( f )2 )2")) (mCons (mC (.str "( ( f )2")) (mCons (mC (.str ")2")) (mCons (mC (.str "f\nl")) (mCons (mC (.str "f\tl")) (mNil)))))))))))))))))
noncomputable def m_law_c1 (cs : Nat → Addr) : SD → ER OT := mComp (iLst (mVar 7)) (tgN 8) (mNot (mTest (mView (mCall0 (m__law_right cs) (mCons (mVar 8) (mNil)))))) (mVar 8) [8]
noncomputable def m_law_16 (cs : Nat → Addr) : SD → Fl := sRet (mOwn (mOp dEq (mView ((m_law_c1 cs))) (mView (mLst (mNil)))))
noncomputable def m_law (cs : Nat → Addr) : List OT → ER OT := asDef 9 (
    sSeq ((m_law_3 cs))
    (sSeq ((m_law_14 cs))
    (sSeq ((m_law_15 cs))
    ((m_law_16 cs)))))
noncomputable def top (i : Nat) : Stmt := PySem.Challenge.pw_plotpens_k02_texts_refused.main.body.getD i (.Pass ⟨0, 0, 0, 0⟩)
noncomputable abbrev s_InvalidText___init__ : Stmt := inClass (top 3) 0
theorem sc_InvalidText___init__ : FnScope ["self", "index"] ["self", "index"] (defScope s_InvalidText___init__) := ⟨rfl, rfl, rfl, by decide +kernel, rfl, by decide +kernel, by decide +kernel⟩
noncomputable abbrev s_words_of : Stmt := top 45
noncomputable abbrev sc_words_of_N : List Str := ["text"]
theorem sc_words_of : FnScope ["text"] ["text"] (defScope s_words_of) := ⟨rfl, rfl, rfl, by decide +kernel, rfl, by decide +kernel, by decide +kernel⟩
noncomputable abbrev s_is_number : Stmt := top 43
noncomputable abbrev sc_is_number_N : List Str := ["signs", "sign"]
theorem sc_is_number : FnScope ["signs", "sign"] ["signs"] (defScope s_is_number) := ⟨rfl, rfl, rfl, by decide +kernel, rfl, by decide +kernel, by decide +kernel⟩
noncomputable abbrev s_is_step_word : Stmt := top 44
noncomputable abbrev sc_is_step_word_N : List Str := ["word"]
theorem sc_is_step_word : FnScope ["word"] ["word"] (defScope s_is_step_word) := ⟨rfl, rfl, rfl, by decide +kernel, rfl, by decide +kernel, by decide +kernel⟩
noncomputable abbrev s_first_wrong : Stmt := top 46
noncomputable abbrev sc_first_wrong_N : List Str := ["words", "names", "depth", "empty", "index", "word"]
theorem sc_first_wrong : FnScope ["words", "names", "depth", "empty", "index", "word"] ["words", "names"] (defScope s_first_wrong) := ⟨rfl, rfl, rfl, by decide +kernel, rfl, by decide +kernel, by decide +kernel⟩
noncomputable abbrev s_nodes_from : Stmt := top 47
noncomputable abbrev sc_nodes_from_N : List Str := ["words", "place", "found", "word", "body"]
theorem sc_nodes_from : FnScope ["words", "place", "found", "word", "body"] ["words", "place"] (defScope s_nodes_from) := ⟨rfl, rfl, rfl, by decide +kernel, rfl, by decide +kernel, by decide +kernel⟩
noncomputable abbrev s_nodes_in : Stmt := top 48
noncomputable abbrev sc_nodes_in_N : List Str := ["words"]
theorem sc_nodes_in : FnScope ["words"] ["words"] (defScope s_nodes_in) := ⟨rfl, rfl, rfl, by decide +kernel, rfl, by decide +kernel, by decide +kernel⟩
noncomputable abbrev s_length_in : Stmt := top 49
noncomputable abbrev sc_length_in_N : List Str := ["nodes", "found", "body", "number"]
theorem sc_length_in : FnScope ["nodes", "found", "body", "number"] ["nodes"] (defScope s_length_in) := ⟨rfl, rfl, rfl, by decide +kernel, rfl, by decide +kernel, by decide +kernel⟩
noncomputable abbrev s_depth_in : Stmt := top 50
noncomputable abbrev sc_depth_in_N : List Str := ["nodes", "body", "number"]
theorem sc_depth_in : FnScope ["nodes", "body", "number"] ["nodes"] (defScope s_depth_in) := ⟨rfl, rfl, rfl, by decide +kernel, rfl, by decide +kernel, by decide +kernel⟩
noncomputable abbrev s_Program___init__ : Stmt := inClass (top 53) 0
noncomputable abbrev sc_Program___init___N : List Str := ["self", "text", "words", "wrong"]
theorem sc_Program___init__ : FnScope ["self", "text", "words", "wrong"] ["self", "text"] (defScope s_Program___init__) := ⟨rfl, rfl, rfl, by decide +kernel, rfl, by decide +kernel, by decide +kernel⟩
noncomputable abbrev s__law_bag : Stmt := top 55
noncomputable abbrev sc__law_bag_N : List Str := ["cell"]
theorem sc__law_bag : FnScope ["cell"] ["cell"] (defScope s__law_bag) := ⟨rfl, rfl, rfl, by decide +kernel, rfl, by decide +kernel, by decide +kernel⟩
noncomputable abbrev s__law_pick : Stmt := top 56
noncomputable abbrev sc__law_pick_N : List Str := ["bag", "many", "told", "first", "second"]
theorem sc__law_pick : FnScope ["bag", "many", "told", "first", "second"] ["bag", "many"] (defScope s__law_pick) := ⟨rfl, rfl, rfl, by decide +kernel, rfl, by decide +kernel, by decide +kernel⟩
noncomputable abbrev s__law_number : Stmt := top 57
noncomputable abbrev sc__law_number_N : List Str := ["bag", "far"]
theorem sc__law_number : FnScope ["bag", "far"] ["bag", "far"] (defScope s__law_number) := ⟨rfl, rfl, rfl, by decide +kernel, rfl, by decide +kernel, by decide +kernel⟩
noncomputable abbrev s__law_words : Stmt := top 58
noncomputable abbrev sc__law_words_N : List Str := ["bag", "most", "deep", "letters", "far", "found", "many", "way", "room", "part"]
theorem sc__law_words : FnScope ["bag", "most", "deep", "letters", "far", "found", "many", "way", "room", "part"] ["bag", "most", "deep", "letters", "far"] (defScope s__law_words) := ⟨rfl, rfl, rfl, by decide +kernel, rfl, by decide +kernel, by decide +kernel⟩
noncomputable abbrev s__law_class : Stmt := top 62
noncomputable abbrev sc__law_class_N : List Str := ["caught", "some", "names", "name"]
theorem sc__law_class : FnScope ["caught", "some", "names", "name"] ["caught"] (defScope s__law_class) := ⟨rfl, rfl, rfl, by decide +kernel, rfl, by decide +kernel, by decide +kernel⟩
noncomputable abbrev s__law_told : Stmt := top 65
noncomputable abbrev sc__law_told_N : List Str := ["value", "caught", "e"]
theorem sc__law_told : FnScope ["value", "caught", "e"] ["value"] (defScope s__law_told) := ⟨rfl, rfl, rfl, by decide +kernel, rfl, by decide +kernel, by decide +kernel⟩
noncomputable abbrev s__law_changed : Stmt := top 67
noncomputable abbrev sc__law_changed_N : List Str := ["bag", "words", "row", "at", "other", "odds", "odd", "way"]
theorem sc__law_changed : FnScope ["bag", "words", "row", "at", "other", "odds", "odd", "way"] ["bag", "words"] (defScope s__law_changed) := ⟨rfl, rfl, rfl, by decide +kernel, rfl, by decide +kernel, by decide +kernel⟩
noncomputable abbrev s__law_is_number : Stmt := top 63
noncomputable abbrev sc__law_is_number_N : List Str := ["signs"]
theorem sc__law_is_number : FnScope ["signs"] ["signs"] (defScope s__law_is_number) := ⟨rfl, rfl, rfl, by decide +kernel, rfl, by decide +kernel, by decide +kernel⟩
noncomputable abbrev s__law_wrong : Stmt := top 64
noncomputable abbrev sc__law_wrong_N : List Str := ["words", "names", "opened", "k", "word"]
theorem sc__law_wrong : FnScope ["words", "names", "opened", "k", "word"] ["words", "names"] (defScope s__law_wrong) := ⟨rfl, rfl, rfl, by decide +kernel, rfl, by decide +kernel, by decide +kernel⟩
noncomputable abbrev s__law_right : Stmt := top 66
noncomputable abbrev sc__law_right_N : List Str := ["text", "words", "due"]
theorem sc__law_right : FnScope ["text", "words", "due"] ["text"] (defScope s__law_right) := ⟨rfl, rfl, rfl, by decide +kernel, rfl, by decide +kernel, by decide +kernel⟩
noncomputable abbrev s__law_long_right : Stmt := top 68
noncomputable abbrev sc__law_long_right_N : List Str := ["bag", "deep", "many", "row", "tails"]
theorem sc__law_long_right : FnScope ["bag", "deep", "many", "row", "tails"] ["bag"] (defScope s__law_long_right) := ⟨rfl, rfl, rfl, by decide +kernel, rfl, by decide +kernel, by decide +kernel⟩
noncomputable abbrev s_law : Stmt := top 69
noncomputable abbrev sc_law_N : List Str := ["script", "value", "cell", "bag", "words", "turn", "row", "some", "text"]
theorem sc_law : FnScope ["script", "value", "cell", "bag", "words", "turn", "row", "some", "text"] ["script"] (defScope s_law) := ⟨rfl, rfl, rfl, by decide +kernel, rfl, by decide +kernel, by decide +kernel⟩
/-- what the top has written -/
structure Tx (K : PySem.W.Frag) (mg : Str → Option Value) (ad : Nat → Addr) (fs : Nat → FuncData) (cs : Nat → Addr) : Prop where
  f_InvalidText___init__ : Fm K "__init__" "InvalidText.__init__" s_InvalidText___init__ (ad 0) (fs 0) ["self", "index"]
  f_words_of : Fd K mg "words_of" s_words_of (ad 1) (fs 1) ["text"]
  f_is_number : Fd K mg "is_number" s_is_number (ad 2) (fs 2) ["signs"]
  f_is_step_word : Fd K mg "is_step_word" s_is_step_word (ad 3) (fs 3) ["word"]
  f_first_wrong : Fd K mg "first_wrong" s_first_wrong (ad 4) (fs 4) ["words", "names"]
  f_nodes_from : Fd K mg "nodes_from" s_nodes_from (ad 5) (fs 5) ["words", "place"]
  f_nodes_in : Fd K mg "nodes_in" s_nodes_in (ad 6) (fs 6) ["words"]
  f_length_in : Fd K mg "length_in" s_length_in (ad 7) (fs 7) ["nodes"]
  f_depth_in : Fd K mg "depth_in" s_depth_in (ad 8) (fs 8) ["nodes"]
  f_Program___init__ : Fm K "__init__" "Program.__init__" s_Program___init__ (ad 9) (fs 9) ["self", "text"]
  f__law_bag : Fd K mg "_law_bag" s__law_bag (ad 10) (fs 10) ["cell"]
  f__law_pick : Fd K mg "_law_pick" s__law_pick (ad 11) (fs 11) ["bag", "many"]
  f__law_number : Fd K mg "_law_number" s__law_number (ad 12) (fs 12) ["bag", "far"]
  f__law_words : Fd K mg "_law_words" s__law_words (ad 13) (fs 13) ["bag", "most", "deep", "letters", "far"]
  f__law_class : Fd K mg "_law_class" s__law_class (ad 14) (fs 14) ["caught"]
  f__law_told : Fd K mg "_law_told" s__law_told (ad 15) (fs 15) ["value"]
  f__law_changed : Fd K mg "_law_changed" s__law_changed (ad 16) (fs 16) ["bag", "words"]
  f__law_is_number : Fd K mg "_law_is_number" s__law_is_number (ad 17) (fs 17) ["signs"]
  f__law_wrong : Fd K mg "_law_wrong" s__law_wrong (ad 18) (fs 18) ["words", "names"]
  f__law_right : Fd K mg "_law_right" s__law_right (ad 19) (fs 19) ["text"]
  f__law_long_right : Fd K mg "_law_long_right" s__law_long_right (ad 20) (fs 20) ["bag"]
  f_law : Fd K mg "law" s_law (ad 21) (fs 21) ["script"]
  z_ValueError : mg "ValueError" = none
  z_all : mg "all" = none
  z_enumerate : mg "enumerate" = none
  z_int : mg "int" = none
  z_isinstance : mg "isinstance" = none
  z_len : mg "len" = none
  z_list : mg "list" = none
  z_max : mg "max" = none
  z_range : mg "range" = none
  z_repr : mg "repr" = none
  z_str : mg "str" = none
  z_tuple : mg "tuple" = none
  v_DIGITS : ∃ u, mg "DIGITS" = some u ∧ RelV (.str "0123456789") u
  v_LETTERS : ∃ u, mg "LETTERS" = some u ∧ RelV (.str "fblrud") u
  v_MOST_DEPTH : ∃ u, mg "MOST_DEPTH" = some u ∧ RelV (.int 12) u
  v_MOST_DIGITS : ∃ u, mg "MOST_DIGITS" = some u ∧ RelV (.int 31) u
  v_MOST_TIMES : ∃ u, mg "MOST_TIMES" = some u ∧ RelV (.int 1000000000000000000000000000000) u
  v_MOST_WORDS : ∃ u, mg "MOST_WORDS" = some u ∧ RelV (.int 1000) u
  g_Program : mg "Program" = some (.ref (cs 0))
  c_Program : CF K (cs 0)
  m_Program : Mk K (cs 0) (ad 9)
  g_PlotError : mg "PlotError" = some (.ref (cs 1))
  g_InvalidText : mg "InvalidText" = some (.ref (cs 2))
  g_InvalidSource : mg "InvalidSource" = some (.ref (cs 3))
  g_TooDeep : mg "TooDeep" = some (.ref (cs 4))
  g_TooLarge : mg "TooLarge" = some (.ref (cs 5))
  g_InvalidProgram : mg "InvalidProgram" = some (.ref (cs 6))
  g_InvalidTimes : mg "InvalidTimes" = some (.ref (cs 7))
  g_InvalidIndex : mg "InvalidIndex" = some (.ref (cs 8))
  g_InvalidLetter : mg "InvalidLetter" = some (.ref (cs 9))
  g_InvalidName : mg "InvalidName" = some (.ref (cs 10))
  g_HasPen : mg "HasPen" = some (.ref (cs 11))
  g_InvalidMotion : mg "InvalidMotion" = some (.ref (cs 12))
  g_InvalidPose : mg "InvalidPose" = some (.ref (cs 13))
  g_InvalidPoint : mg "InvalidPoint" = some (.ref (cs 14))
  g_InvalidEdge : mg "InvalidEdge" = some (.ref (cs 15))
  g_InvalidPicture : mg "InvalidPicture" = some (.ref (cs 16))
  g_InvalidTurn : mg "InvalidTurn" = some (.ref (cs 17))
  g_InvalidFace : mg "InvalidFace" = some (.ref (cs 18))
  g_InvalidFaces : mg "InvalidFaces" = some (.ref (cs 19))
  g_NotEven : mg "NotEven" = some (.ref (cs 20))
  g_NotClosed : mg "NotClosed" = some (.ref (cs 21))
  g_InvalidIntervals : mg "InvalidIntervals" = some (.ref (cs 22))
  g_InvalidPlace : mg "InvalidPlace" = some (.ref (cs 23))
  g_NotDrifting : mg "NotDrifting" = some (.ref (cs 24))
  g_InvalidCount : mg "InvalidCount" = some (.ref (cs 25))
  g_NoSteps : mg "NoSteps" = some (.ref (cs 26))
  g_InvalidOperation : mg "InvalidOperation" = some (.ref (cs 27))
  g_Nothing : mg "Nothing" = some (.ref (cs 28))
  g_InvalidArt : mg "InvalidArt" = some (.ref (cs 29))
  g_InvalidCommand : mg "InvalidCommand" = some (.ref (cs 30))
  xi_InvalidText : XMkI K (cs 2) (ad 0) ["index"]
  xf_InvalidText : XfC K (cs 2)
  xn_InvalidText_index : PySem.W.findIn K (.ref (cs 2)) "index" = some none
  xrel : XRelOk K (relC cs)
  xt : ∀ C, xT cs C = true → PySem.W.exmOne K (.ref C) (.ref (cs 1)) = some true
  n_Program_own_depth : NoAttr K (cs 0) "own_depth"
  n_Program_own_length : NoAttr K (cs 0) "own_length"
  n_Program_own_nodes : NoAttr K (cs 0) "own_nodes"
  n_Program_own_text : NoAttr K (cs 0) "own_text"
  n_Program_own_words : NoAttr K (cs 0) "own_words"
  a_InvalidText___init__ : PySem.W.findIn K (.ref (cs 2)) "__init__" = some (some (.ref (ad 0)))
  i_InvalidText___init__ : PySem.W.isFn K (.ref (ad 0)) = true
  a_Program___init__ : PySem.W.findIn K (.ref (cs 0)) "__init__" = some (some (.ref (ad 9)))
  i_Program___init__ : PySem.W.isFn K (.ref (ad 9)) = true
  iy_str : ∀ C, okC cs C = true → PySem.W.kitOne K (.ref C) (.type "str") = some false
theorem Tx.cf {K : PySem.W.Frag} {mg : Str → Option Value} {ad : Nat → Addr} {fs : Nat → FuncData} {cs : Nat → Addr} (T : Tx K mg ad fs cs) : ∀ C, okC cs C = true → CF K C := fun C h => by
  simp only [okC, Bool.or_eq_true, beq_iff_eq, or_assoc] at h
  rcases h with rfl
  exact T.c_Program
section
variable {P : Program} {w : World} {K : PySem.W.Frag} {mg : Str → Option Value} {base : Heap} {ad : Nat → Addr} {fs : Nat → FuncData} {cs : Nat → Addr}
theorem kx_InvalidText_ (T : Tx K mg ad fs cs) : FnOk P w K mg base (L2.CX P w) 1 (ad 0) (fs 0) ["self", "index"] (spI K ["index"]) := init1 T.f_InvalidText___init__.F sc_InvalidText___init__ rfl
theorem k_words_of_ (T : Tx K mg ad fs cs) : FnG P w K mg base (L2.CX P w) 1 (ad 1) (fs 1) ["text"] (spD K 1 (m_words_of cs)) := by
  refine fn_mirror (N := sc_words_of_N) T.f_words_of.F sc_words_of fun X pvs W cdv A outer s H E hX tk hr => ?_
  subst hX
  have hu := hr.units
  exact (dss_one (ds_ret (DX.own (dx_if (dt_cmp (op_neX hu) f_ne (dx_var (pv 0)) dx_str (nomark _)) (DO.frz (do_split (dx_var (pv 0)) (da_cons dx_str da_nil))) (DO.frz (do_lst da_nil))))))
theorem k_is_number_ (T : Tx K mg ad fs cs) : FnG P w K mg base (L2.CX P w) 1 (ad 2) (fs 2) ["signs"] (spD K 1 (m_is_number cs)) := by
  refine fn_mirror (N := sc_is_number_N) T.f_is_number.F sc_is_number fun X pvs W cdv A outer s H E hX tk hr => ?_
  subst hX
  have hu := hr.units
  exact (dss_cons (ds_if (DW.dt (dw_or (dt_not (dt_chain op_le op_le f_le f_le dx_int (dx_callB call_len f_len (by rfl) T.z_len bo_len (da_cons (dx_var (pv 0)) da_nil)) (dx_const (v := .int 31) (by rfl) T.v_MOST_DIGITS fun _ => .int _))) (dw_or1 (dt_cmp (op_eqX hu) f_eq (dx_ix (dx_var (pv 0)) dx_int) dx_str (nomark _))))) (dss_one (ds_ret (DX.own dx_bl))) dss_nil)
    (dss_one (ds_ret (DX.own (dx_and (dx_callB (cr_all rfl) f_all (by rfl) T.z_all bo_all (da_cons (DO.frz (do_comp (own := [("sign", 1)]) rfl sc_is_number.nd (di_str (dx_var (pv 0))) (blkOk_by (N := sc_is_number_N) (sc := defScope s_is_number) (own := [("sign", 1)]) (by decide +kernel)) (fun _ _ _ _ _ => (dg_name (i := 1) sc_is_number.nd rfl (by first | exact Or.inl rfl | exact Or.inr rfl))) (fun _ _ _ _ _ => dts_nil) (fun _ _ _ _ _ => (dx_cmp op_in2 f_in2 (dx_var (pv 1)) (dx_const (v := .str "0123456789") (by rfl) T.v_DIGITS fun _ => .str _) (by with_unfolding_all rfl))) (by decide) (wip_name))) da_nil)) (dx_and1 (dx_chain op_le op_le f_le f_le dx_int (dx_callTy call_int2 f_int2 (by rfl) T.z_int bo_int (da_cons (dx_var (pv 0)) da_nil)) (dx_const (v := .int 1000000000000000000000000000000) (by rfl) T.v_MOST_TIMES fun _ => .int _))))))))
theorem k_is_step_word_ (T : Tx K mg ad fs cs) : FnG P w K mg base (L2.CX P w) 2 (ad 3) (fs 3) ["word"] (spD K 1 (m_is_step_word cs)) := by
  refine fn_mirror (N := sc_is_step_word_N) T.f_is_step_word.F sc_is_step_word fun X pvs W cdv A outer s H E hX tk hr => ?_
  subst hX
  have hu := hr.units
  have k_is_number := k_is_number_ (P := P) (w := w) (base := base) T
  exact (dss_one (ds_ret (DX.own (dx_and (dx_cmp (op_neX hu) f_ne (dx_cut (dx_var (pv 0)) dp_none (dp_some dx_int)) dx_str (nomark _)) (dx_and (dx_cmp op_in2 f_in2 (dx_cut (dx_var (pv 0)) dp_none (dp_some dx_int)) (dx_const (v := .str "fblrud") (by rfl) T.v_LETTERS fun _ => .str _) (by with_unfolding_all rfl)) (dx_and1 (dx_or (dx_cmp (op_eqX hu) f_eq (dx_callB call_len f_len (by rfl) T.z_len bo_len (da_cons (dx_var (pv 0)) da_nil)) dx_int (nomark _)) (dx_or1 (DO.frz (do_call0 k_is_number (hr.mono (by decide)) (by rfl) T.f_is_number.g T.f_is_number.F.kp T.f_is_number.b tk (da_cons (dx_cut (dx_var (pv 0)) (dp_some dx_int) dp_none) da_nil) (len_cons len_nil)))))))))))
theorem k_first_wrong_ (T : Tx K mg ad fs cs) : FnG P w K mg base (L2.CX P w) 3 (ad 4) (fs 4) ["words", "names"] (spD K 2 (m_first_wrong cs)) := by
  refine fn_mirror (N := sc_first_wrong_N) T.f_first_wrong.F sc_first_wrong fun X pvs W cdv A outer s H E hX tk hr => ?_
  subst hX
  have hu := hr.units
  have k_is_step_word := k_is_step_word_ (P := P) (w := w) (base := base) T
  have k_is_number := k_is_number_ (P := P) (w := w) (base := base) T
  exact (dss_cons (ds_set (i := 2) sc_first_wrong.nd rfl (by first | exact Or.inl rfl | exact Or.inr rfl) (DX.own dx_int))
    (dss_cons (ds_set (i := 3) sc_first_wrong.nd rfl (by first | exact Or.inl rfl | exact Or.inr rfl) (DX.own dx_bl))
    (dss_cons (ds_for (passes_of rfl) rfl (di_enum (by rfl) T.z_enumerate (da_cons (dx_var (pv 0)) da_nil)) (dg_tup rfl (dgs_cons (dg_name (i := 4) sc_first_wrong.nd rfl (by first | exact Or.inl rfl | exact Or.inr rfl)) (dgs_cons (dg_name (i := 5) sc_first_wrong.nd rfl (by first | exact Or.inl rfl | exact Or.inr rfl)) dgs_nil))) (dss_cons (ds_if (dt_cmp (op_eqX hu) f_eq (dx_var (pv 5)) dx_str (nomark _)) (dss_cons (ds_set (i := 2) sc_first_wrong.nd rfl (by first | exact Or.inl rfl | exact Or.inr rfl) (DX.own (dx_op2 op_addX f_add (dx_var (pv 2)) dx_int))) (dss_cons (ds_set (i := 3) sc_first_wrong.nd rfl (by first | exact Or.inl rfl | exact Or.inr rfl) (DX.own dx_bl)) (dss_one (ds_if (dt_cmp op_gt f_gt (dx_var (pv 2)) (dx_const (v := .int 12) (by rfl) T.v_MOST_DEPTH fun _ => .int _) (nomark _)) (dss_one (ds_ret (DX.own (dx_var (pv 4))))) dss_nil)))) (dss_one (ds_if (dt_cmp (op_eqX hu) f_eq (dx_cut (dx_var (pv 5)) dp_none (dp_some dx_int)) dx_str (nomark _)) (dss_cons (ds_if (DW.dt (dw_or (dt_cmp (op_eqX hu) f_eq (dx_var (pv 2)) dx_int (nomark _)) (dw_or (dt_val (dx_var (pv 3))) (dw_or1 (dt_not (dt_val (DO.frz (do_call0 k_is_number (hr.mono (by decide)) (by rfl) T.f_is_number.g T.f_is_number.F.kp T.f_is_number.b tk (da_cons (dx_cut (dx_var (pv 5)) (dp_some dx_int) dp_none) da_nil) (len_cons len_nil))))))))) (dss_one (ds_ret (DX.own (dx_var (pv 4))))) dss_nil) (dss_one (ds_set (i := 2) sc_first_wrong.nd rfl (by first | exact Or.inl rfl | exact Or.inr rfl) (DX.own (dx_op2 op_sub f_sub (dx_var (pv 2)) dx_int))))) (dss_one (ds_if (DW.dt (dw_or (dt_val (DO.frz (do_call0 k_is_step_word (hr.mono (by decide)) (by rfl) T.f_is_step_word.g T.f_is_step_word.F.kp T.f_is_step_word.b tk (da_cons (dx_var (pv 5)) da_nil) (len_cons len_nil)))) (dw_or1 (dt_cmp op_in2 f_in2 (dx_var (pv 5)) (dx_var (pv 1)) (by with_unfolding_all rfl))))) (dss_one (ds_set (i := 3) sc_first_wrong.nd rfl (by first | exact Or.inl rfl | exact Or.inr rfl) (DX.own dx_bl))) (dss_one (ds_ret (DX.own (dx_var (pv 4)))))))))) (dss_one (ds_if (dt_cmp op_gt f_gt (dx_op2 op_addX f_add (dx_op2 op_addX f_add (dx_op2 op_addX f_add (dx_var (pv 4)) dx_int) (dx_var (pv 2))) (dx_callTy call_int2 f_int2 (by rfl) T.z_int bo_int (da_cons (dx_var (pv 3)) da_nil))) (dx_const (v := .int 1000) (by rfl) T.v_MOST_WORDS fun _ => .int _) (nomark _)) (dss_one (ds_ret (DX.own (dx_var (pv 4))))) dss_nil))))
    (dss_one (ds_ret (DX.own (dx_if (dt_cmp (op_eqX hu) f_eq (dx_var (pv 2)) dx_int (nomark _)) dx_non (dx_callB call_len f_len (by rfl) T.z_len bo_len (da_cons (dx_var (pv 0)) da_nil)))))))))
theorem k_nodes_from_ (T : Tx K mg ad fs cs) : ∀ n : Nat, FnG P w K mg base (L2.CX P w) (n + 1) (ad 5) (fs 5) ["words", "place"] (spD K 2 (m_nodes_from cs n))
  | 0 => fn_bad
  | n + 1 => by
    have k_nodes_from := k_nodes_from_ T n
    refine fn_mirror (N := sc_nodes_from_N) T.f_nodes_from.F sc_nodes_from fun X pvs W cdv A outer s H E hX tk hr => ?_
    subst hX
    have hu := hr.units
    exact (dss_cons (ds_set (i := 2) sc_nodes_from.nd rfl (by first | exact Or.inl rfl | exact Or.inr rfl) (do_lst da_nil))
      (dss_cons (ds_while (fun _ => 100000) (passes_of rfl) (DW.dt (dw_and (dt_cmp op_ltX f_lt (dx_var (pv 1)) (dx_callB call_len f_len (by rfl) T.z_len bo_len (da_cons (dx_var (pv 0)) da_nil)) (nomark _)) (dw_and1 (dt_cmp (op_neX hu) f_ne (dx_ix (dx_ix (dx_var (pv 0)) (dx_var (pv 1))) dx_int) dx_str (nomark _))))) (dss_cons (ds_set (i := 3) sc_nodes_from.nd rfl (by first | exact Or.inl rfl | exact Or.inr rfl) (DX.own (dx_ix (dx_var (pv 0)) (dx_var (pv 1))))) (dss_cons (ds_if (dt_cmp (op_eqX hu) f_eq (dx_var (pv 3)) dx_str (nomark _)) (dss_cons (ds_asg (DO.frz (do_call0 k_nodes_from (hr.mono (by omega)) (by rfl) T.f_nodes_from.g T.f_nodes_from.F.kp T.f_nodes_from.b tk (da_cons (dx_var (pv 0)) (da_cons (dx_op2 op_addX f_add (dx_var (pv 1)) dx_int) da_nil)) (len_cons (len_cons len_nil)))) (dg_tup rfl (dgs_cons (dg_name (i := 4) sc_nodes_from.nd rfl (by first | exact Or.inl rfl | exact Or.inr rfl)) (dgs_cons (dg_name (i := 1) sc_nodes_from.nd rfl (by first | exact Or.inl rfl | exact Or.inr rfl)) dgs_nil)))) (dss_one (ds_app (pv 2) (DX.own (dx_tup (da_cons (dx_var (pv 4)) (da_cons (dx_callTy call_int2 f_int2 (by rfl) T.z_int bo_int (da_cons (dx_cut (dx_ix (dx_var (pv 0)) (dx_var (pv 1))) (dp_some dx_int) dp_none) da_nil)) da_nil))))))) (dss_one (ds_app (pv 2) (DX.own (dx_tup (da_cons (dx_ix (dx_var (pv 3)) dx_int) (da_cons (dx_if (dt_cmp op_gt f_gt (dx_callB call_len f_len (by rfl) T.z_len bo_len (da_cons (dx_var (pv 3)) da_nil)) dx_int (nomark _)) (dx_callTy call_int2 f_int2 (by rfl) T.z_int bo_int (da_cons (dx_cut (dx_var (pv 3)) (dp_some dx_int) dp_none) da_nil)) dx_int) da_nil))))))) (dss_one (ds_set (i := 1) sc_nodes_from.nd rfl (by first | exact Or.inl rfl | exact Or.inr rfl) (DX.own (dx_op2 op_addX f_add (dx_var (pv 1)) dx_int)))))))
      (dss_one (ds_ret (DX.own (dx_tup (da_cons (dx_callTyT call_tuple_of f_tupOf (by rfl) T.z_tuple bo_tuple (da_cons (dx_frz (pv 2)) da_nil)) (da_cons (dx_var (pv 1)) da_nil))))))))
theorem k_nodes_in_ (T : Tx K mg ad fs cs) : FnG P w K mg base (L2.CX P w) 18 (ad 6) (fs 6) ["words"] (spD K 1 (m_nodes_in cs)) := by
  refine fn_mirror (N := sc_nodes_in_N) T.f_nodes_in.F sc_nodes_in fun X pvs W cdv A outer s H E hX tk hr => ?_
  subst hX
  have hu := hr.units
  have k_nodes_from := k_nodes_from_ (P := P) (w := w) (base := base) T 16
  exact (dss_one (ds_ret (DX.own (dx_ix (DO.frz (do_call0 k_nodes_from (hr.mono (by decide)) (by rfl) T.f_nodes_from.g T.f_nodes_from.F.kp T.f_nodes_from.b tk (da_cons (dx_var (pv 0)) (da_cons dx_int da_nil)) (len_cons (len_cons len_nil)))) dx_int))))
theorem k_length_in_ (T : Tx K mg ad fs cs) : ∀ n : Nat, FnG P w K mg base (L2.CX P w) (n + 1) (ad 7) (fs 7) ["nodes"] (spD K 1 (m_length_in cs n))
  | 0 => fn_bad
  | n + 1 => by
    have k_length_in := k_length_in_ T n
    refine fn_mirror (N := sc_length_in_N) T.f_length_in.F sc_length_in fun X pvs W cdv A outer s H E hX tk hr => ?_
    subst hX
    have hu := hr.units
    exact (dss_cons (ds_set (i := 1) sc_length_in.nd rfl (by first | exact Or.inl rfl | exact Or.inr rfl) (DX.own dx_int))
      (dss_cons (ds_for (passes_of rfl) rfl (di_tup (dx_var (pv 0))) (dg_tup rfl (dgs_cons (dg_name (i := 2) sc_length_in.nd rfl (by first | exact Or.inl rfl | exact Or.inr rfl)) (dgs_cons (dg_name (i := 3) sc_length_in.nd rfl (by first | exact Or.inl rfl | exact Or.inr rfl)) dgs_nil))) (dss_one (ds_set (i := 1) sc_length_in.nd rfl (by first | exact Or.inl rfl | exact Or.inr rfl) (DX.own (dx_op2 op_addX f_add (dx_var (pv 1)) (dx_op2 op_mulW f_mul (dx_var (pv 3)) (dx_if (dt_val (dx_callB call_isi f_isi (by rfl) T.z_isinstance bo_isinstance (da_cons (dx_var (pv 2)) (da_cons (dx_ty (by rfl) T.z_str bo_str) da_nil)))) dx_int (DO.frz (do_call0 k_length_in (hr.mono (by omega)) (by rfl) T.f_length_in.g T.f_length_in.F.kp T.f_length_in.b tk (da_cons (dx_var (pv 2)) da_nil) (len_cons len_nil))))))))))
      (dss_one (ds_ret (DX.own (dx_var (pv 1)))))))
theorem k_depth_in_ (T : Tx K mg ad fs cs) : ∀ n : Nat, FnG P w K mg base (L2.CX P w) (n + 1) (ad 8) (fs 8) ["nodes"] (spD K 1 (m_depth_in cs n))
  | 0 => fn_bad
  | n + 1 => by
    have k_depth_in := k_depth_in_ T n
    refine fn_mirror (N := sc_depth_in_N) T.f_depth_in.F sc_depth_in fun X pvs W cdv A outer s H E hX tk hr => ?_
    subst hX
    have hu := hr.units
    exact (dss_one (ds_ret (DX.own (dx_callB (call_maxX rfl) f_max (by rfl) T.z_max bo_max (da_cons (DO.frz (do_cat (DO.dq (do_lst (da_cons dx_int da_nil))) (DO.dq (do_comp (own := [("body", 1), ("number", 2)]) rfl sc_depth_in.nd (di_tup (dx_var (pv 0))) (blkOk_by (N := sc_depth_in_N) (sc := defScope s_depth_in) (own := [("body", 1), ("number", 2)]) (by decide +kernel)) (fun _ _ _ _ _ => (dg_tup rfl (dgs_cons (dg_name (i := 1) sc_depth_in.nd rfl (by first | exact Or.inl rfl | exact Or.inr rfl)) (dgs_cons (dg_name (i := 2) sc_depth_in.nd rfl (by first | exact Or.inl rfl | exact Or.inr rfl)) dgs_nil)))) (fun _ _ _ _ _ => (dts_one (dt_not (dt_val (dx_callB call_isi f_isi (by rfl) T.z_isinstance bo_isinstance (da_cons (dx_var (pv 1)) (da_cons (dx_ty (by rfl) T.z_str bo_str) da_nil))))))) (fun _ _ _ _ _ => (dx_op2 op_addX f_add dx_int (DO.frz (do_call0 k_depth_in (hr.mono (by omega)) (by rfl) T.f_depth_in.g T.f_depth_in.F.kp T.f_depth_in.b takes0 (da_cons (dx_var (pv 1)) da_nil) (len_cons len_nil))))) (by decide) (wip_tup (wip_cons (wip_name) (wip_cons (wip_name) wip_nil))))))) da_nil)))))
theorem k_Program___init___ (T : Tx K mg ad fs cs) : FnG P w K mg base (L2.CX P w) 20 (ad 9) (fs 9) ["self", "text"] (spD K 2 (m_Program___init__ cs)) := by
  refine fn_mirror (N := sc_Program___init___N) T.f_Program___init__.F sc_Program___init__ fun X pvs W cdv A outer s H E hX tk hr => ?_
  subst hX
  have hu := hr.units
  have kx_InvalidText := kx_InvalidText_ (P := P) (w := w) (base := base) T
  have k_words_of := k_words_of_ (P := P) (w := w) (base := base) T
  have k_first_wrong := k_first_wrong_ (P := P) (w := w) (base := base) T
  have k_nodes_in := k_nodes_in_ (P := P) (w := w) (base := base) T
  have k_length_in := k_length_in_ (P := P) (w := w) (base := base) T 16
  have k_depth_in := k_depth_in_ (P := P) (w := w) (base := base) T 16
  exact (dss_cons (ds_if (dt_not (dt_val (dx_callB call_isi (f_isiI T.cf T.iy_str) (by rfl) T.z_isinstance bo_isinstance (da_cons (dx_var (pv 1)) (da_cons (dx_ty (by rfl) T.z_str bo_str) da_nil))))) (dss_one (ds_raiseX rfl tk T.xi_InvalidText kx_InvalidText (hr.mono (by decide)) T.f_InvalidText___init__.b (by rfl) T.g_InvalidText (da_cons dx_non da_nil))) dss_nil)
    (dss_cons (ds_set (i := 2) sc_Program___init__.nd rfl (by first | exact Or.inl rfl | exact Or.inr rfl) (DO.fz (do_call0 k_words_of (hr.mono (by decide)) (by rfl) T.f_words_of.g T.f_words_of.F.kp T.f_words_of.b tk (da_cons (dx_var (pv 1)) da_nil) (len_cons len_nil))))
    (dss_cons (ds_set (i := 3) sc_Program___init__.nd rfl (by first | exact Or.inl rfl | exact Or.inr rfl) (DO.fz (do_call0 k_first_wrong (hr.mono (by decide)) (by rfl) T.f_first_wrong.g T.f_first_wrong.F.kp T.f_first_wrong.b tk (da_cons (dx_var (pv 2)) (da_cons (DO.frz (do_lst da_nil)) da_nil)) (len_cons (len_cons len_nil)))))
    (dss_cons (ds_if (dt_cmp op_notN f_notN (dx_var (pv 3)) dx_non (nomark _)) (dss_one (ds_raiseX rfl tk T.xi_InvalidText kx_InvalidText (hr.mono (by decide)) T.f_InvalidText___init__.b (by rfl) T.g_InvalidText (da_cons (dx_var (pv 3)) da_nil))) dss_nil)
    (dss_cons (ds_fld (ok := (fun C => C == cs 0)) (pv 0) (DX.own (dx_var (pv 1))) (fun C h => by cases beq_iff_eq.mp h; exact ⟨T.c_Program.cl, T.n_Program_own_text⟩))
    (dss_cons (ds_fld (ok := (fun C => C == cs 0)) (pv 0) (DX.own (dx_callTyT call_tuple_of f_tupOf (by rfl) T.z_tuple bo_tuple (da_cons (dx_var (pv 2)) da_nil))) (fun C h => by cases beq_iff_eq.mp h; exact ⟨T.c_Program.cl, T.n_Program_own_words⟩))
    (dss_cons (ds_fld (ok := (fun C => C == cs 0)) (pv 0) (DO.fz (do_call0 k_nodes_in (hr.mono (by decide)) (by rfl) T.f_nodes_in.g T.f_nodes_in.F.kp T.f_nodes_in.b tk (da_cons (dx_var (pv 2)) da_nil) (len_cons len_nil))) (fun C h => by cases beq_iff_eq.mp h; exact ⟨T.c_Program.cl, T.n_Program_own_nodes⟩))
    (dss_cons (ds_fld (ok := (fun C => C == cs 0)) (pv 0) (DO.fz (do_call0 k_length_in (hr.mono (by decide)) (by rfl) T.f_length_in.g T.f_length_in.F.kp T.f_length_in.b tk (da_cons (dx_fldO (ok := (fun C => C == cs 0)) (pv 0) (fun C h => by cases beq_iff_eq.mp h; exact ⟨T.c_Program.cl, T.n_Program_own_nodes⟩)) da_nil) (len_cons len_nil))) (fun C h => by cases beq_iff_eq.mp h; exact ⟨T.c_Program.cl, T.n_Program_own_length⟩))
    (dss_one (ds_fld (ok := (fun C => C == cs 0)) (pv 0) (DO.fz (do_call0 k_depth_in (hr.mono (by decide)) (by rfl) T.f_depth_in.g T.f_depth_in.F.kp T.f_depth_in.b tk (da_cons (dx_fldO (ok := (fun C => C == cs 0)) (pv 0) (fun C h => by cases beq_iff_eq.mp h; exact ⟨T.c_Program.cl, T.n_Program_own_nodes⟩)) da_nil) (len_cons len_nil))) (fun C h => by cases beq_iff_eq.mp h; exact ⟨T.c_Program.cl, T.n_Program_own_depth⟩)))))))))))
theorem k__law_bag_ (T : Tx K mg ad fs cs) : FnG P w K mg base (L2.CX P w) 1 (ad 10) (fs 10) ["cell"] (spD K 1 (m__law_bag cs)) := by
  refine fn_mirror (N := sc__law_bag_N) T.f__law_bag.F sc__law_bag fun X pvs W cdv A outer s H E hX tk hr => ?_
  subst hX
  have hu := hr.units
  exact (dss_one (ds_ret (do_lst (da_cons (dx_callB (call_maxX rfl) f_max (by rfl) T.z_max bo_max (da_cons dx_int (da_cons (dx_op2 op_sub f_sub (dx_var (pv 0)) (dx_op2 op_powX f_pow dx_int dx_int)) da_nil))) (da_cons (dx_var (pv 0)) (da_cons dx_int da_nil))))))
theorem k__law_pick_ (T : Tx K mg ad fs cs) : FnG P w K mg base (L2.CX P w) 1 (ad 11) (fs 11) ["bag", "many"] (spD K 2 (m__law_pick cs)) := by
  refine fn_mirror (N := sc__law_pick_N) T.f__law_pick.F sc__law_pick fun X pvs W cdv A outer s H E hX tk hr => ?_
  subst hX
  have hu := hr.units
  exact (dss_cons (ds_setAt (pv 0) dx_int (DX.own (dx_op2 op_addX f_add (dx_at (dq_see (pv 0)) dx_int) dx_int)))
    (dss_cons (ds_if (dt_cmp op_gt f_gt (dx_at (dq_see (pv 0)) dx_int) dx_int (nomark _)) (dss_cons (ds_set (i := 2) sc__law_pick.nd rfl (by first | exact Or.inl rfl | exact Or.inr rfl) (DX.own (dx_op2 op_modN f_mod (dx_at (dq_see (pv 0)) dx_int) (dx_var (pv 1))))) (dss_cons (ds_setAt (pv 0) dx_int (DX.own (dx_op2 op_divX f_div (dx_at (dq_see (pv 0)) dx_int) (dx_var (pv 1))))) (dss_one (ds_ret (DX.own (dx_var (pv 2))))))) dss_nil)
    (dss_cons (ds_set (i := 3) sc__law_pick.nd rfl (by first | exact Or.inl rfl | exact Or.inr rfl) (DX.own (dx_op2 op_modN f_mod (dx_op2 op_addX f_add (dx_op2 op_addX f_add (dx_op2 op_mulW f_mul (dx_op2 op_modN f_mod (dx_at (dq_see (pv 0)) dx_int) dx_int) dx_int) (dx_op2 op_mulW f_mul (dx_at (dq_see (pv 0)) dx_int) dx_int)) dx_int) dx_int)))
    (dss_cons (ds_set (i := 4) sc__law_pick.nd rfl (by first | exact Or.inl rfl | exact Or.inr rfl) (DX.own (dx_op2 op_modN f_mod (dx_op2 op_addX f_add (dx_op2 op_mulW f_mul (dx_var (pv 3)) (dx_var (pv 3))) (dx_op2 op_mulW f_mul (dx_at (dq_see (pv 0)) dx_int) dx_int)) dx_int)))
    (dss_one (ds_ret (DX.own (dx_op2 op_modN f_mod (dx_op2 op_divX f_div (dx_op2 op_addX f_add (dx_op2 op_mulW f_mul (dx_var (pv 3)) dx_int) (dx_var (pv 4))) dx_int) (dx_var (pv 1))))))))))
theorem k__law_number_ (T : Tx K mg ad fs cs) : FnG P w K mg base (L2.CX P w) 2 (ad 12) (fs 12) ["bag", "far"] (spD K 2 (m__law_number cs)) := by
  refine fn_mirror (N := sc__law_number_N) T.f__law_number.F sc__law_number fun X pvs W cdv A outer s H E hX tk hr => ?_
  subst hX
  have hu := hr.units
  have k__law_pick := k__law_pick_ (P := P) (w := w) (base := base) T
  exact (dss_one (ds_ret (DX.own (dx_callTy call_str1 f_str1 (by rfl) T.z_str bo_str (da_cons (dx_op2 op_addX f_add dx_int (DO.frz (do_call1 k__law_pick (hr.mono (by decide)) (by rfl) T.f__law_pick.g T.f__law_pick.F.kp T.f__law_pick.b tk (dr_slot (pv 0) (dr_fz (dx_ix (DO.frz (do_lst (da_cons dx_int (da_cons dx_int (da_cons dx_int (da_cons dx_int (da_cons (dx_op2 op_sub f_sub (dx_op2 op_powX f_pow dx_int dx_int) dx_int) da_nil))))))) (DO.frz (do_call1 k__law_pick (hr.mono (by decide)) (by rfl) T.f__law_pick.g T.f__law_pick.F.kp T.f__law_pick.b tk (dr_slot (pv 0) (dr_fz (dx_op2 op_addX f_add dx_int (dx_op2 op_mulW f_mul dx_int (dx_var (pv 1)))) dr_nil)) (lenr_slot (lenr_fz lenr_nil))))) dr_nil)) (lenr_slot (lenr_fz lenr_nil))))) da_nil)))))
theorem k__law_words_ (T : Tx K mg ad fs cs) : ∀ n : Nat, FnG P w K mg base (L2.CX P w) (n + 3) (ad 13) (fs 13) ["bag", "most", "deep", "letters", "far"] (spD K 5 (m__law_words cs n))
  | 0 => fn_bad
  | n + 1 => by
    have k__law_words := k__law_words_ T n
    refine fn_mirror (N := sc__law_words_N) T.f__law_words.F sc__law_words fun X pvs W cdv A outer s H E hX tk hr => ?_
    subst hX
    have hu := hr.units
    have k__law_pick := k__law_pick_ (P := P) (w := w) (base := base) T
    have k__law_number := k__law_number_ (P := P) (w := w) (base := base) T
    exact (dss_cons (ds_set (i := 5) sc__law_words.nd rfl (by first | exact Or.inl rfl | exact Or.inr rfl) (do_lst da_nil))
      (dss_cons (ds_set (i := 6) sc__law_words.nd rfl (by first | exact Or.inl rfl | exact Or.inr rfl) (DX.own (dx_op2 op_addX f_add dx_int (DO.frz (do_call1 k__law_pick (hr.mono (by omega)) (by rfl) T.f__law_pick.g T.f__law_pick.F.kp T.f__law_pick.b tk (dr_slot (pv 0) (dr_fz (dx_var (pv 1)) dr_nil)) (lenr_slot (lenr_fz lenr_nil)))))))
      (dss_cons (ds_while (fun _ => 100000) (passes_of rfl) (dt_cmp op_ltX f_lt (dx_callB call_len f_len (by rfl) T.z_len bo_len (da_cons (dx_see (pv 5)) da_nil)) (dx_var (pv 6)) (nomark _)) (dss_cons (ds_set (i := 7) sc__law_words.nd rfl (by first | exact Or.inl rfl | exact Or.inr rfl) (DO.fz (do_call1 k__law_pick (hr.mono (by omega)) (by rfl) T.f__law_pick.g T.f__law_pick.F.kp T.f__law_pick.b tk (dr_slot (pv 0) (dr_fz dx_int dr_nil)) (lenr_slot (lenr_fz lenr_nil))))) (dss_cons (ds_set (i := 8) sc__law_words.nd rfl (by first | exact Or.inl rfl | exact Or.inr rfl) (DX.own (dx_op2 op_sub f_sub (dx_var (pv 6)) (dx_callB call_len f_len (by rfl) T.z_len bo_len (da_cons (dx_see (pv 5)) da_nil))))) (dss_one (ds_if (DW.dt (dw_and (dt_cmp (op_eqX hu) f_eq (dx_var (pv 7)) dx_int (nomark _)) (dw_and (dt_cmp op_gt f_gt (dx_var (pv 2)) dx_int (nomark _)) (dw_and1 (dt_cmp op_gt f_gt (dx_var (pv 8)) dx_int (nomark _)))))) (dss_cons (ds_set (i := 9) sc__law_words.nd rfl (by first | exact Or.inl rfl | exact Or.inr rfl) (DO.fz (do_call1 k__law_words (hr.mono (by omega)) (by rfl) T.f__law_words.g T.f__law_words.F.kp T.f__law_words.b tk (dr_slot (pv 0) (dr_fz (dx_op2 op_sub f_sub (dx_var (pv 8)) dx_int) (dr_fz (dx_op2 op_sub f_sub (dx_var (pv 2)) dx_int) (dr_fz (dx_var (pv 3)) (dr_fz (dx_var (pv 4)) dr_nil))))) (lenr_slot (lenr_fz (lenr_fz (lenr_fz (lenr_fz lenr_nil)))))))) (dss_one (ds_set (i := 5) sc__law_words.nd rfl (by first | exact Or.inl rfl | exact Or.inr rfl) (do_cat (DX.dq (DO.frz (do_cat (DO.dq (do_cat (dq_see (pv 5)) (DO.dq (do_lst (da_cons dx_str da_nil))))) (DX.dq (dx_var (pv 9)))))) (DO.dq (do_lst (da_cons (dx_op2 op_addX f_add dx_str (DO.frz (do_call1 k__law_number (hr.mono (by omega)) (by rfl) T.f__law_number.g T.f__law_number.F.kp T.f__law_number.b tk (dr_slot (pv 0) (dr_fz (dx_var (pv 4)) dr_nil)) (lenr_slot (lenr_fz lenr_nil))))) da_nil))))))) (dss_one (ds_app (pv 5) (DX.own (dx_op2 op_addX f_add (dx_ix (dx_var (pv 3)) (DO.frz (do_call1 k__law_pick (hr.mono (by omega)) (by rfl) T.f__law_pick.g T.f__law_pick.F.kp T.f__law_pick.b tk (dr_slot (pv 0) (dr_fz (dx_callB call_len f_len (by rfl) T.z_len bo_len (da_cons (dx_var (pv 3)) da_nil)) dr_nil)) (lenr_slot (lenr_fz lenr_nil))))) (dx_ix (DO.frz (do_lst (da_cons dx_str (da_cons (DO.frz (do_call1 k__law_number (hr.mono (by omega)) (by rfl) T.f__law_number.g T.f__law_number.F.kp T.f__law_number.b tk (dr_slot (pv 0) (dr_fz (dx_var (pv 4)) dr_nil)) (lenr_slot (lenr_fz lenr_nil)))) da_nil)))) (dx_callTy call_int2 f_int2 (by rfl) T.z_int bo_int (da_cons (dx_cmp (op_eqX hu) f_eq (dx_var (pv 7)) dx_int (nomark _)) da_nil))))))))))))
      (dss_one (ds_ret (do_take (pv 5)))))))
theorem k__law_class_ (T : Tx K mg ad fs cs) : FnG P w K mg base (L2.CX P w) 1 (ad 14) (fs 14) ["caught"] (spD K 1 (m__law_class cs)) := by
  refine fn_mirror (N := sc__law_class_N) T.f__law_class.F sc__law_class fun X pvs W cdv A outer s H E hX tk hr => ?_
  subst hX
  have hu := hr.units
  exact (dss_cons (ds_set (i := 1) sc__law_class.nd rfl (by first | exact Or.inl rfl | exact Or.inr rfl) (DO.fz (do_lst (da_cons (dx_callB call_isiF (f_isF T.xrel) (by rfl) T.z_isinstance bo_isinstance (da_cons (dx_var (pv 0)) (da_cons (dx_cls (by rfl) T.g_InvalidText) da_nil))) (da_cons (dx_callB call_isiF (f_isF T.xrel) (by rfl) T.z_isinstance bo_isinstance (da_cons (dx_var (pv 0)) (da_cons (dx_cls (by rfl) T.g_InvalidSource) da_nil))) (da_cons (dx_callB call_isiF (f_isF T.xrel) (by rfl) T.z_isinstance bo_isinstance (da_cons (dx_var (pv 0)) (da_cons (dx_cls (by rfl) T.g_InvalidProgram) da_nil))) da_nil))))))
    (dss_cons (ds_set (i := 1) sc__law_class.nd rfl (by first | exact Or.inl rfl | exact Or.inr rfl) (DO.fz (do_cat (DX.dq (dx_var (pv 1))) (DO.dq (do_lst (da_cons (dx_callB call_isiF (f_isF T.xrel) (by rfl) T.z_isinstance bo_isinstance (da_cons (dx_var (pv 0)) (da_cons (dx_cls (by rfl) T.g_InvalidTimes) da_nil))) (da_cons (dx_callB call_isiF (f_isF T.xrel) (by rfl) T.z_isinstance bo_isinstance (da_cons (dx_var (pv 0)) (da_cons (dx_cls (by rfl) T.g_InvalidIndex) da_nil))) da_nil)))))))
    (dss_cons (ds_set (i := 1) sc__law_class.nd rfl (by first | exact Or.inl rfl | exact Or.inr rfl) (DO.fz (do_cat (DX.dq (dx_var (pv 1))) (DO.dq (do_lst (da_cons (dx_callB call_isiF (f_isF T.xrel) (by rfl) T.z_isinstance bo_isinstance (da_cons (dx_var (pv 0)) (da_cons (dx_cls (by rfl) T.g_InvalidLetter) da_nil))) (da_cons (dx_callB call_isiF (f_isF T.xrel) (by rfl) T.z_isinstance bo_isinstance (da_cons (dx_var (pv 0)) (da_cons (dx_cls (by rfl) T.g_InvalidName) da_nil))) (da_cons (dx_callB call_isiF (f_isF T.xrel) (by rfl) T.z_isinstance bo_isinstance (da_cons (dx_var (pv 0)) (da_cons (dx_cls (by rfl) T.g_HasPen) da_nil))) da_nil))))))))
    (dss_cons (ds_set (i := 1) sc__law_class.nd rfl (by first | exact Or.inl rfl | exact Or.inr rfl) (DO.fz (do_cat (DX.dq (dx_var (pv 1))) (DO.dq (do_lst (da_cons (dx_callB call_isiF (f_isF T.xrel) (by rfl) T.z_isinstance bo_isinstance (da_cons (dx_var (pv 0)) (da_cons (dx_cls (by rfl) T.g_TooDeep) da_nil))) (da_cons (dx_callB call_isiF (f_isF T.xrel) (by rfl) T.z_isinstance bo_isinstance (da_cons (dx_var (pv 0)) (da_cons (dx_cls (by rfl) T.g_TooLarge) da_nil))) da_nil)))))))
    (dss_cons (ds_set (i := 2) sc__law_class.nd rfl (by first | exact Or.inl rfl | exact Or.inr rfl) (DO.fz (do_lst (da_cons dx_str (da_cons dx_str (da_cons dx_str (da_cons dx_str (da_cons dx_str (da_cons dx_str da_nil)))))))))
    (dss_cons (ds_set (i := 2) sc__law_class.nd rfl (by first | exact Or.inl rfl | exact Or.inr rfl) (DO.fz (do_cat (DX.dq (dx_var (pv 2))) (DO.dq (do_lst (da_cons dx_str (da_cons dx_str (da_cons dx_str (da_cons dx_str da_nil)))))))))
    (dss_cons (ds_if (dt_val (dx_callB call_isiF (f_isF T.xrel) (by rfl) T.z_isinstance bo_isinstance (da_cons (dx_var (pv 0)) (da_cons (dx_tup (da_cons (dx_cls (by rfl) T.g_InvalidArt) (da_cons (dx_cls (by rfl) T.g_InvalidCommand) (da_cons (dx_cls (by rfl) T.g_InvalidCount) (da_cons (dx_cls (by rfl) T.g_InvalidEdge) (da_cons (dx_cls (by rfl) T.g_InvalidFace) (da_cons (dx_cls (by rfl) T.g_InvalidFaces) da_nil))))))) da_nil)))) (dss_one (ds_ret (DX.own dx_str))) dss_nil)
    (dss_cons (ds_if (dt_val (dx_callB call_isiF (f_isF T.xrel) (by rfl) T.z_isinstance bo_isinstance (da_cons (dx_var (pv 0)) (da_cons (dx_tup (da_cons (dx_cls (by rfl) T.g_InvalidIntervals) (da_cons (dx_cls (by rfl) T.g_InvalidMotion) (da_cons (dx_cls (by rfl) T.g_InvalidOperation) (da_cons (dx_cls (by rfl) T.g_InvalidPicture) (da_cons (dx_cls (by rfl) T.g_InvalidPlace) da_nil)))))) da_nil)))) (dss_one (ds_ret (DX.own dx_str))) dss_nil)
    (dss_cons (ds_if (dt_val (dx_callB call_isiF (f_isF T.xrel) (by rfl) T.z_isinstance bo_isinstance (da_cons (dx_var (pv 0)) (da_cons (dx_tup (da_cons (dx_cls (by rfl) T.g_InvalidPoint) (da_cons (dx_cls (by rfl) T.g_InvalidPose) (da_cons (dx_cls (by rfl) T.g_InvalidTurn) (da_cons (dx_cls (by rfl) T.g_NoSteps) (da_cons (dx_cls (by rfl) T.g_NotClosed) (da_cons (dx_cls (by rfl) T.g_NotDrifting) (da_cons (dx_cls (by rfl) T.g_NotEven) (da_cons (dx_cls (by rfl) T.g_Nothing) da_nil))))))))) da_nil)))) (dss_one (ds_ret (DX.own dx_str))) dss_nil)
    (dss_cons (ds_if (DW.dt (dw_or (dt_cmp (op_neX hu) f_ne (dx_countD (by have := hr.un; omega) (dx_var (pv 1)) (da_cons dx_bl da_nil)) dx_int (nomark _)) (dw_or1 (dt_not (dt_val (dx_callB call_isiF (f_isF T.xrel) (by rfl) T.z_isinstance bo_isinstance (da_cons (dx_var (pv 0)) (da_cons (dx_ty (by rfl) T.z_ValueError bo_ValueError) da_nil)))))))) (dss_one (ds_ret (DX.own dx_str))) dss_nil)
    (dss_cons (ds_set (i := 3) sc__law_class.nd rfl (by first | exact Or.inl rfl | exact Or.inr rfl) (DX.own (dx_ix (dx_var (pv 2)) (dx_indexD (by have := hr.un; omega) (dx_var (pv 1)) (da_cons dx_bl da_nil)))))
    (dss_cons (ds_if (dt_cmp (op_eqX hu) f_eq (dx_var (pv 3)) dx_str (nomark _)) (dss_one (ds_ret (DX.own (dx_op2 op_addX f_add (dx_op2 op_addX f_add (dx_var (pv 3)) dx_str) (dx_callB (call_reprX hr.g hu) f_repr (by rfl) T.z_repr bo_repr (da_cons (dx_fldX (ok := (fun C => C == cs 2)) (dx_var (pv 0)) (fun C h => by cases beq_iff_eq.mp h; exact ⟨T.xf_InvalidText, T.xn_InvalidText_index⟩)) da_nil)))))) dss_nil)
    (dss_cons (ds_if (dt_cmp (op_eqX hu) f_eq (dx_var (pv 3)) dx_str (nomark _)) (dss_one (ds_ret (DX.own (dx_op2 op_addX f_add (dx_op2 op_addX f_add (dx_op2 op_addX f_add (dx_op2 op_addX f_add (dx_var (pv 3)) dx_str) (dx_bad (p := true) (k := true))) dx_str) (dx_callB (call_reprX hr.g hu) f_repr (by rfl) T.z_repr bo_repr (da_cons (dx_fldX (ok := (fun C => C == cs 2)) (dx_var (pv 0)) (fun C h => by cases beq_iff_eq.mp h; exact ⟨T.xf_InvalidText, T.xn_InvalidText_index⟩)) da_nil)))))) dss_nil)
    (dss_one (ds_ret (DX.own (dx_op2 op_addX f_add (dx_var (pv 3)) (dx_if (dt_cmp op_in2 f_in2 (dx_var (pv 3)) (DO.frz (do_lst (da_cons dx_str (da_cons dx_str da_nil)))) (by with_unfolding_all rfl)) (dx_op2 op_addX f_add dx_str (dx_bad (p := true) (k := true))) dx_str))))))))))))))))))
theorem k__law_told_ (T : Tx K mg ad fs cs) : FnG P w K mg base (L2.CX P w) 22 (ad 15) (fs 15) ["value"] (spD K 1 (m__law_told cs)) := by
  refine fn_mirror (N := sc__law_told_N) T.f__law_told.F sc__law_told fun X pvs W cdv A outer s H E hX tk hr => ?_
  subst hX
  have hu := hr.units
  have k_Program___init__ := k_Program___init___ (P := P) (w := w) (base := base) T
  have k__law_class := k__law_class_ (P := P) (w := w) (base := base) T
  exact (dss_cons (ds_set (i := 1) sc__law_told.nd rfl (by first | exact Or.inl rfl | exact Or.inr rfl) (DX.own dx_non))
    (dss_cons (ds_try (i := 2) rfl rfl rfl sc__law_told.nd rfl rfl ⟨rfl, by decide, .inl T.g_PlotError⟩ T.xt (fun W9 pn9 xe9 tk9 po9 => (dss_one (ds_expr (DO.frz (do_make T.m_Program k_Program___init__ (hr.mono (by decide)) (by rfl) T.g_Program T.f_Program___init__.b tk9 (da_cons (dx_var (pv 0)) da_nil) (len_cons len_nil)))))) (fun a9 pn9 => (dss_one (ds_set (i := 1) sc__law_told.nd rfl (by first | exact Or.inl rfl | exact Or.inr rfl) (DX.own (dx_var (pv 2)))))))
    (dss_one (ds_ret (DX.own (dx_if (dt_cmp op_isN f_isN (dx_var (pv 1)) dx_non (nomark _)) dx_str (DO.frz (do_call0 k__law_class (hr.mono (by decide)) (by rfl) T.f__law_class.g T.f__law_class.F.kp T.f__law_class.b tk (da_cons (dx_var (pv 1)) da_nil) (len_cons len_nil)))))))))
theorem k__law_changed_ (T : Tx K mg ad fs cs) : FnG P w K mg base (L2.CX P w) 2 (ad 16) (fs 16) ["bag", "words"] (spD K 2 (m__law_changed cs)) := by
  refine fn_mirror (N := sc__law_changed_N) T.f__law_changed.F sc__law_changed fun X pvs W cdv A outer s H E hX tk hr => ?_
  subst hX
  have hu := hr.units
  have k__law_pick := k__law_pick_ (P := P) (w := w) (base := base) T
  exact (dss_cons (ds_set (i := 2) sc__law_changed.nd rfl (by first | exact Or.inl rfl | exact Or.inr rfl) (do_callTy call_list_of f_listOf (by rfl) T.z_list bo_list (da_cons (dx_var (pv 1)) da_nil)))
    (dss_cons (ds_par (i := 3) (j := 4) rfl sc__law_changed.nd rfl rfl (by decide) rfl rfl (DO.fz (do_call1 k__law_pick (hr.mono (by decide)) (by rfl) T.f__law_pick.g T.f__law_pick.F.kp T.f__law_pick.b tk (dr_slot (pv 0) (dr_fz (dx_callB call_len f_len (by rfl) T.z_len bo_len (da_cons (dx_see (pv 2)) da_nil)) dr_nil)) (lenr_slot (lenr_fz lenr_nil)))) (DO.fz (do_call1 k__law_pick (hr.mono (by decide)) (by rfl) T.f__law_pick.g T.f__law_pick.F.kp T.f__law_pick.b tk (dr_slot (pv 0) (dr_fz (dx_callB call_len f_len (by rfl) T.z_len bo_len (da_cons (dx_see (pv 2)) da_nil)) dr_nil)) (lenr_slot (lenr_fz lenr_nil)))) rfl)
    (dss_cons (ds_set (i := 5) sc__law_changed.nd rfl (by first | exact Or.inl rfl | exact Or.inr rfl) (DO.fz (do_lst (da_cons dx_str (da_cons dx_str (da_cons dx_str (da_cons dx_str (da_cons dx_str (da_cons dx_str (da_cons dx_str (da_cons dx_str (da_cons dx_str (da_cons dx_str (da_cons dx_str (da_cons dx_str (da_cons dx_str (da_cons dx_str (da_cons dx_str (da_cons dx_str (da_cons dx_str (da_cons dx_str da_nil)))))))))))))))))))))
    (dss_cons (ds_set (i := 5) sc__law_changed.nd rfl (by first | exact Or.inl rfl | exact Or.inr rfl) (DO.fz (do_cat (DX.dq (dx_var (pv 5))) (DO.dq (do_lst (da_cons (dx_op2 op_addX f_add dx_str (dx_op2 op_mulX2 f_mulX dx_str dx_int)) (da_cons (dx_op2 op_addX f_add (dx_op2 op_addX f_add dx_str (dx_op2 op_mulX2 f_mulX dx_str dx_int)) dx_str) (da_cons (dx_op2 op_addX f_add dx_str (dx_op2 op_mulX2 f_mulX dx_str dx_int)) (da_cons (dx_op2 op_addX f_add dx_str (dx_op2 op_mulX2 f_mulX dx_str dx_int)) (da_cons (dx_op2 op_addX f_add dx_str (dx_op2 op_mulX2 f_mulX dx_str dx_int)) (da_cons dx_str (da_cons dx_str da_nil))))))))))))
    (dss_cons (ds_set (i := 5) sc__law_changed.nd rfl (by first | exact Or.inl rfl | exact Or.inr rfl) (DO.fz (do_cat (DX.dq (dx_var (pv 5))) (DO.dq (do_lst (da_cons dx_str (da_cons dx_str (da_cons dx_str (da_cons dx_str (da_cons dx_str (da_cons dx_str (da_cons dx_str (da_cons dx_str (da_cons dx_str (da_cons dx_str (da_cons (dx_op2 op_addX f_add dx_str (dx_op2 op_mulX2 f_mulX dx_str dx_int)) (da_cons dx_str da_nil)))))))))))))))))
    (dss_cons (ds_set (i := 5) sc__law_changed.nd rfl (by first | exact Or.inl rfl | exact Or.inr rfl) (DO.fz (do_cat (DX.dq (dx_var (pv 5))) (DO.dq (do_lst (da_cons dx_str (da_cons dx_str da_nil)))))))
    (dss_cons (ds_set (i := 6) sc__law_changed.nd rfl (by first | exact Or.inl rfl | exact Or.inr rfl) (DX.own (dx_ix (dx_var (pv 5)) (DO.frz (do_call1 k__law_pick (hr.mono (by decide)) (by rfl) T.f__law_pick.g T.f__law_pick.F.kp T.f__law_pick.b tk (dr_slot (pv 0) (dr_fz (dx_callB call_len f_len (by rfl) T.z_len bo_len (da_cons (dx_var (pv 5)) da_nil)) dr_nil)) (lenr_slot (lenr_fz lenr_nil)))))))
    (dss_cons (ds_set (i := 7) sc__law_changed.nd rfl (by first | exact Or.inl rfl | exact Or.inr rfl) (DO.fz (do_call1 k__law_pick (hr.mono (by decide)) (by rfl) T.f__law_pick.g T.f__law_pick.F.kp T.f__law_pick.b tk (dr_slot (pv 0) (dr_fz dx_int dr_nil)) (lenr_slot (lenr_fz lenr_nil)))))
    (dss_cons (ds_if (dt_cmp (op_eqX hu) f_eq (dx_var (pv 7)) dx_int (nomark _)) (dss_one (ds_setAt (pv 2) (dx_var (pv 3)) (DX.own (dx_var (pv 6))))) dss_nil)
    (dss_cons (ds_if (dt_cmp (op_eqX hu) f_eq (dx_var (pv 7)) dx_int (nomark _)) (dss_one (ds_ins (pv 2) (da_cons (dx_var (pv 3)) (da_cons (dx_var (pv 6)) da_nil)))) dss_nil)
    (dss_cons (ds_if (dt_cmp (op_eqX hu) f_eq (dx_var (pv 7)) dx_int (nomark _)) (dss_one (ds_expr (DO.frz (do_popAt (pv 2) (dx_var (pv 3)))))) dss_nil)
    (dss_cons (ds_if (dt_cmp (op_eqX hu) f_eq (dx_var (pv 7)) dx_int (nomark _)) (dss_one (ds_ins (pv 2) (da_cons (dx_var (pv 4)) (da_cons (DO.frz (do_popAt (pv 2) (dx_var (pv 3)))) da_nil)))) dss_nil)
    (dss_cons (ds_if (dt_cmp (op_eqX hu) f_eq (dx_var (pv 7)) dx_int (nomark _)) (dss_one (ds_setAt (pv 2) (dx_var (pv 3)) (DX.own (dx_op2 op_addX f_add (dx_op2 op_addX f_add (dx_cut (dx_at (dq_see (pv 2)) (dx_var (pv 3))) dp_none (dp_some (DO.frz (do_call1 k__law_pick (hr.mono (by decide)) (by rfl) T.f__law_pick.g T.f__law_pick.F.kp T.f__law_pick.b tk (dr_slot (pv 0) (dr_fz dx_int dr_nil)) (lenr_slot (lenr_fz lenr_nil)))))) (dx_ix dx_str (DO.frz (do_call1 k__law_pick (hr.mono (by decide)) (by rfl) T.f__law_pick.g T.f__law_pick.F.kp T.f__law_pick.b tk (dr_slot (pv 0) (dr_fz dx_int dr_nil)) (lenr_slot (lenr_fz lenr_nil)))))) (dx_cut (dx_at (dq_see (pv 2)) (dx_var (pv 3))) (dp_some dx_int) dp_none))))) dss_nil)
    (dss_one (ds_ret (DX.own (dx_if (dt_cmp (op_neX hu) f_ne (dx_see (pv 2)) (DO.frz (do_lst da_nil)) (nomark _)) (dx_frz (pv 2)) (DO.frz (do_lst (da_cons dx_str da_nil))))))))))))))))))))
theorem k__law_is_number_ (T : Tx K mg ad fs cs) : FnG P w K mg base (L2.CX P w) 1 (ad 17) (fs 17) ["signs"] (spD K 1 (m__law_is_number cs)) := by
  refine fn_mirror (N := sc__law_is_number_N) T.f__law_is_number.F sc__law_is_number fun X pvs W cdv A outer s H E hX tk hr => ?_
  subst hX
  have hu := hr.units
  exact (dss_cons (ds_if (DW.dt (dw_or (dt_cmp (op_eqX hu) f_eq (dx_var (pv 0)) dx_str (nomark _)) (dw_or (dt_cmp op_gt f_gt (dx_callB call_len f_len (by rfl) T.z_len bo_len (da_cons (dx_var (pv 0)) da_nil)) dx_int (nomark _)) (dw_or (dt_cmp (op_neX hu) f_ne (dx_strip (dx_var (pv 0)) (da_cons dx_str da_nil)) dx_str (nomark _)) (dw_or1 (dt_cmp (op_eqX hu) f_eq (dx_ix (dx_var (pv 0)) dx_int) dx_str (nomark _))))))) (dss_one (ds_ret (DX.own dx_bl))) dss_nil)
    (dss_one (ds_ret (DX.own (dx_chain op_le op_le f_le f_le dx_int (dx_callTy call_int2 f_int2 (by rfl) T.z_int bo_int (da_cons (dx_var (pv 0)) da_nil)) (dx_op2 op_powX f_pow dx_int dx_int))))))
theorem k__law_wrong_ (T : Tx K mg ad fs cs) : FnG P w K mg base (L2.CX P w) 2 (ad 18) (fs 18) ["words", "names"] (spD K 2 (m__law_wrong cs)) := by
  refine fn_mirror (N := sc__law_wrong_N) T.f__law_wrong.F sc__law_wrong fun X pvs W cdv A outer s H E hX tk hr => ?_
  subst hX
  have hu := hr.units
  have k__law_is_number := k__law_is_number_ (P := P) (w := w) (base := base) T
  exact (dss_cons (ds_set (i := 2) sc__law_wrong.nd rfl (by first | exact Or.inl rfl | exact Or.inr rfl) (DX.own dx_int))
    (dss_cons (ds_for (passes_of rfl) rfl (di_enum (by rfl) T.z_enumerate (da_cons (dx_var (pv 0)) da_nil)) (dg_tup rfl (dgs_cons (dg_name (i := 3) sc__law_wrong.nd rfl (by first | exact Or.inl rfl | exact Or.inr rfl)) (dgs_cons (dg_name (i := 4) sc__law_wrong.nd rfl (by first | exact Or.inl rfl | exact Or.inr rfl)) dgs_nil))) (dss_cons (ds_if (dt_cmp (op_eqX hu) f_eq (dx_var (pv 4)) dx_str (nomark _)) (dss_one (ds_set (i := 2) sc__law_wrong.nd rfl (by first | exact Or.inl rfl | exact Or.inr rfl) (DX.own (dx_op2 op_addX f_add (dx_var (pv 2)) dx_int)))) (dss_one (ds_if (dt_cmp (op_eqX hu) f_eq (dx_cut (dx_var (pv 4)) dp_none (dp_some dx_int)) dx_str (nomark _)) (dss_cons (ds_if (DW.dt (dw_or (dt_cmp (op_eqX hu) f_eq (dx_var (pv 2)) dx_int (nomark _)) (dw_or (dt_cmp (op_eqX hu) f_eq (dx_ix (dx_var (pv 0)) (dx_op2 op_sub f_sub (dx_var (pv 3)) dx_int)) dx_str (nomark _)) (dw_or1 (dt_not (dt_val (DO.frz (do_call0 k__law_is_number (hr.mono (by decide)) (by rfl) T.f__law_is_number.g T.f__law_is_number.F.kp T.f__law_is_number.b tk (da_cons (dx_cut (dx_var (pv 4)) (dp_some dx_int) dp_none) da_nil) (len_cons len_nil))))))))) (dss_one (ds_ret (DX.own (dx_var (pv 3))))) dss_nil) (dss_one (ds_set (i := 2) sc__law_wrong.nd rfl (by first | exact Or.inl rfl | exact Or.inr rfl) (DX.own (dx_op2 op_sub f_sub (dx_var (pv 2)) dx_int))))) (dss_one (ds_if (DW.dt (dw_and (dt_cmp op_notIn2 f_notIn2 (dx_var (pv 4)) (dx_var (pv 1)) (by with_unfolding_all rfl)) (dw_and1 (DW.dt (dw_or (dt_cmp op_notIn2 f_notIn2 (dx_cut (dx_var (pv 4)) dp_none (dp_some dx_int)) (DO.frz (do_callTy (call_listX hr.r.hd) f_listX (by rfl) T.z_list bo_list (da_cons dx_str da_nil))) (by with_unfolding_all rfl)) (dw_or1 (DW.dt (dw_and (dt_cmp (op_neX hu) f_ne (dx_cut (dx_var (pv 4)) (dp_some dx_int) dp_none) dx_str (nomark _)) (dw_and1 (dt_not (dt_val (DO.frz (do_call0 k__law_is_number (hr.mono (by decide)) (by rfl) T.f__law_is_number.g T.f__law_is_number.F.kp T.f__law_is_number.b tk (da_cons (dx_cut (dx_var (pv 4)) (dp_some dx_int) dp_none) da_nil) (len_cons len_nil)))))))))))))) (dss_one (ds_ret (DX.own (dx_var (pv 3))))) dss_nil))))) (dss_one (ds_if (DW.dt (dw_or (dt_cmp op_gt f_gt (dx_var (pv 2)) dx_int (nomark _)) (dw_or1 (dt_cmp op_gt f_gt (dx_op2 op_addX f_add (dx_op2 op_addX f_add (dx_op2 op_addX f_add (dx_var (pv 3)) dx_int) (dx_var (pv 2))) (dx_callTy call_int2 f_int2 (by rfl) T.z_int bo_int (da_cons (dx_cmp (op_eqX hu) f_eq (dx_var (pv 4)) dx_str (nomark _)) da_nil))) dx_int (nomark _))))) (dss_one (ds_ret (DX.own (dx_var (pv 3))))) dss_nil))))
    (dss_one (ds_ret (DX.own (dx_if (dt_cmp op_gt f_gt (dx_var (pv 2)) dx_int (nomark _)) (dx_callB call_len f_len (by rfl) T.z_len bo_len (da_cons (dx_var (pv 0)) da_nil)) dx_non))))))
theorem k__law_right_ (T : Tx K mg ad fs cs) : FnG P w K mg base (L2.CX P w) 23 (ad 19) (fs 19) ["text"] (spD K 1 (m__law_right cs)) := by
  refine fn_mirror (N := sc__law_right_N) T.f__law_right.F sc__law_right fun X pvs W cdv A outer s H E hX tk hr => ?_
  subst hX
  have hu := hr.units
  have k__law_wrong := k__law_wrong_ (P := P) (w := w) (base := base) T
  have k__law_told := k__law_told_ (P := P) (w := w) (base := base) T
  exact (dss_cons (ds_set (i := 1) sc__law_right.nd rfl (by first | exact Or.inl rfl | exact Or.inr rfl) (DX.own (dx_if (dt_cmp (op_neX hu) f_ne (dx_var (pv 0)) dx_str (nomark _)) (DO.frz (do_split (dx_var (pv 0)) (da_cons dx_str da_nil))) (DO.frz (do_lst da_nil)))))
    (dss_cons (ds_set (i := 2) sc__law_right.nd rfl (by first | exact Or.inl rfl | exact Or.inr rfl) (DO.fz (do_call0 k__law_wrong (hr.mono (by decide)) (by rfl) T.f__law_wrong.g T.f__law_wrong.F.kp T.f__law_wrong.b tk (da_cons (dx_var (pv 1)) (da_cons (DO.frz (do_lst da_nil)) da_nil)) (len_cons (len_cons len_nil)))))
    (dss_one (ds_ret (DX.own (dx_cmp (op_eqX hu) f_eq (DO.frz (do_call0 k__law_told (hr.mono (by decide)) (by rfl) T.f__law_told.g T.f__law_told.F.kp T.f__law_told.b tk (da_cons (dx_var (pv 0)) da_nil) (len_cons len_nil))) (dx_if (dt_cmp op_isN f_isN (dx_var (pv 2)) dx_non (nomark _)) dx_str (dx_op2 op_addX f_add dx_str (dx_callB (call_reprX hr.g hu) f_repr (by rfl) T.z_repr bo_repr (da_cons (dx_var (pv 2)) da_nil)))) (nomark _)))))))
theorem k__law_long_right_ (T : Tx K mg ad fs cs) : FnG P w K mg base (L2.CX P w) 24 (ad 20) (fs 20) ["bag"] (spD K 1 (m__law_long_right cs)) := by
  refine fn_mirror (N := sc__law_long_right_N) T.f__law_long_right.F sc__law_long_right fun X pvs W cdv A outer s H E hX tk hr => ?_
  subst hX
  have hu := hr.units
  have k__law_pick := k__law_pick_ (P := P) (w := w) (base := base) T
  have k__law_right := k__law_right_ (P := P) (w := w) (base := base) T
  exact (dss_cons (ds_set (i := 1) sc__law_long_right.nd rfl (by first | exact Or.inl rfl | exact Or.inr rfl) (DO.fz (do_call1 k__law_pick (hr.mono (by decide)) (by rfl) T.f__law_pick.g T.f__law_pick.F.kp T.f__law_pick.b tk (dr_slot (pv 0) (dr_fz dx_int dr_nil)) (lenr_slot (lenr_fz lenr_nil)))))
    (dss_cons (ds_set (i := 2) sc__law_long_right.nd rfl (by first | exact Or.inl rfl | exact Or.inr rfl) (DX.own (dx_op2 op_addX f_add dx_int (DO.frz (do_call1 k__law_pick (hr.mono (by decide)) (by rfl) T.f__law_pick.g T.f__law_pick.F.kp T.f__law_pick.b tk (dr_slot (pv 0) (dr_fz dx_int dr_nil)) (lenr_slot (lenr_fz lenr_nil)))))))
    (dss_cons (ds_set (i := 3) sc__law_long_right.nd rfl (by first | exact Or.inl rfl | exact Or.inr rfl) (DO.fz (do_repO (do_lst (da_cons dx_str da_nil)) (DO.frz (do_call1 k__law_pick (hr.mono (by decide)) (by rfl) T.f__law_pick.g T.f__law_pick.F.kp T.f__law_pick.b tk (dr_slot (pv 0) (dr_fz (dx_var (pv 2)) dr_nil)) (lenr_slot (lenr_fz lenr_nil)))))))
    (dss_cons (ds_set (i := 3) sc__law_long_right.nd rfl (by first | exact Or.inl rfl | exact Or.inr rfl) (DO.fz (do_cat (DO.dq (do_cat (DX.dq (dx_var (pv 3))) (DO.dq (do_repO (do_lst (da_cons dx_str da_nil)) (dx_var (pv 1)))))) (DO.dq (do_repO (do_lst (da_cons dx_str da_nil)) (dx_op2 op_sub f_sub (dx_var (pv 2)) (dx_callB call_len f_len (by rfl) T.z_len bo_len (da_cons (dx_var (pv 3)) da_nil))))))))
    (dss_cons (ds_set (i := 4) sc__law_long_right.nd rfl (by first | exact Or.inl rfl | exact Or.inr rfl) (DO.fz (do_repO (do_lst (da_cons dx_str da_nil)) (DO.frz (do_call1 k__law_pick (hr.mono (by decide)) (by rfl) T.f__law_pick.g T.f__law_pick.F.kp T.f__law_pick.b tk (dr_slot (pv 0) (dr_fz dx_int dr_nil)) (lenr_slot (lenr_fz lenr_nil)))))))
    (dss_one (ds_ret (DX.own (dx_and (DO.frz (do_call0 k__law_right (hr.mono (by decide)) (by rfl) T.f__law_right.g T.f__law_right.F.kp T.f__law_right.b tk (da_cons (dx_join dx_str (da_cons (DO.frz (do_cat (DX.dq (dx_var (pv 3))) (DX.dq (dx_var (pv 4))))) da_nil)) da_nil) (len_cons len_nil))) (dx_and1 (DO.frz (do_call0 k__law_right (hr.mono (by decide)) (by rfl) T.f__law_right.g T.f__law_right.F.kp T.f__law_right.b tk (da_cons (dx_join dx_str (da_cons (DO.frz (do_repO (do_lst (da_cons dx_str da_nil)) (dx_var (pv 2)))) da_nil)) da_nil) (len_cons len_nil)))))))))))))
theorem k_law_ (T : Tx K mg ad fs cs) : FnG P w K mg base (L2.CX P w) 26 (ad 21) (fs 21) ["script"] (spD K 1 (m_law cs)) := by
  refine fn_mirror (N := sc_law_N) T.f_law.F sc_law fun X pvs W cdv A outer s H E hX tk hr => ?_
  subst hX
  have hu := hr.units
  have k_Program___init__ := k_Program___init___ (P := P) (w := w) (base := base) T
  have k__law_bag := k__law_bag_ (P := P) (w := w) (base := base) T
  have k__law_words := k__law_words_ (P := P) (w := w) (base := base) T 16
  have k__law_told := k__law_told_ (P := P) (w := w) (base := base) T
  have k__law_changed := k__law_changed_ (P := P) (w := w) (base := base) T
  have k__law_pick := k__law_pick_ (P := P) (w := w) (base := base) T
  have k__law_right := k__law_right_ (P := P) (w := w) (base := base) T
  have k__law_long_right := k__law_long_right_ (P := P) (w := w) (base := base) T
  exact (dss_cons (ds_for (passes_of rfl) rfl (di_list (DO.frz (do_lst (da_cons dx_non (da_cons dx_int (da_cons dx_bl (da_cons (DO.frz (do_lst (da_cons dx_str da_nil))) (da_cons (dx_tup (da_cons dx_str da_nil)) (da_cons dx_dict0 (da_cons (dx_tup da_nil) (da_cons (DO.frz (do_make T.m_Program k_Program___init__ (hr.mono (by decide)) (by rfl) T.g_Program T.f_Program___init__.b tk (da_cons dx_str da_nil) (len_cons len_nil))) da_nil))))))))))) (dg_name (i := 1) sc_law.nd rfl (by first | exact Or.inl rfl | exact Or.inr rfl)) (dss_one (ds_if (dt_cmp (op_neX hu) f_ne (DO.frz (do_call0 k__law_told (hr.mono (by decide)) (by rfl) T.f__law_told.g T.f__law_told.F.kp T.f__law_told.b tk (da_cons (dx_var (pv 1)) da_nil) (len_cons len_nil))) dx_str (nomark _)) (dss_one (ds_ret (DX.own dx_bl))) dss_nil)))
    (dss_cons (ds_for (passes_of rfl) rfl (di_list (DO.frz (do_cat (DO.dq (do_cutS (dx_var (pv 0)) dp_none (dp_some dx_int))) (DO.dq (do_lst (da_cons dx_int da_nil)))))) (dg_name (i := 2) sc_law.nd rfl (by first | exact Or.inl rfl | exact Or.inr rfl)) (dss_cons (ds_set (i := 3) sc_law.nd rfl (by first | exact Or.inl rfl | exact Or.inr rfl) (do_call0 k__law_bag (hr.mono (by decide)) (by rfl) T.f__law_bag.g T.f__law_bag.F.kp T.f__law_bag.b tk (da_cons (dx_var (pv 2)) da_nil) (len_cons len_nil))) (dss_cons (ds_set (i := 4) sc_law.nd rfl (by first | exact Or.inl rfl | exact Or.inr rfl) (DO.fz (do_call1 k__law_words (hr.mono (by decide)) (by rfl) T.f__law_words.g T.f__law_words.F.kp T.f__law_words.b tk (dr_slot (pv 3) (dr_fz (dx_ix (DO.frz (do_lst (da_cons dx_int (da_cons dx_int da_nil)))) (DO.frz (do_call1 k__law_pick (hr.mono (by decide)) (by rfl) T.f__law_pick.g T.f__law_pick.F.kp T.f__law_pick.b tk (dr_slot (pv 3) (dr_fz dx_int dr_nil)) (lenr_slot (lenr_fz lenr_nil))))) (dr_fz dx_int (dr_fz dx_str (dr_fz dx_int dr_nil))))) (lenr_slot (lenr_fz (lenr_fz (lenr_fz (lenr_fz lenr_nil)))))))) (dss_cons (ds_for (passes_of rfl) rfl (di_range1 (by rfl) T.z_range (da_cons dx_int da_nil)) (dg_name (i := 5) sc_law.nd rfl (by first | exact Or.inl rfl | exact Or.inr rfl)) (dss_cons (ds_set (i := 6) sc_law.nd rfl (by first | exact Or.inl rfl | exact Or.inr rfl) (DO.fz (do_call1 k__law_changed (hr.mono (by decide)) (by rfl) T.f__law_changed.g T.f__law_changed.F.kp T.f__law_changed.b tk (dr_slot (pv 3) (dr_fz (dx_var (pv 4)) dr_nil)) (lenr_slot (lenr_fz lenr_nil))))) (dss_cons (ds_if (dt_cmp (op_eqX hu) f_eq (DO.frz (do_call1 k__law_pick (hr.mono (by decide)) (by rfl) T.f__law_pick.g T.f__law_pick.F.kp T.f__law_pick.b tk (dr_slot (pv 3) (dr_fz dx_int dr_nil)) (lenr_slot (lenr_fz lenr_nil)))) dx_int (nomark _)) (dss_one (ds_set (i := 6) sc_law.nd rfl (by first | exact Or.inl rfl | exact Or.inr rfl) (DO.fz (do_call1 k__law_changed (hr.mono (by decide)) (by rfl) T.f__law_changed.g T.f__law_changed.F.kp T.f__law_changed.b tk (dr_slot (pv 3) (dr_fz (dx_var (pv 6)) dr_nil)) (lenr_slot (lenr_fz lenr_nil)))))) dss_nil) (dss_one (ds_if (dt_not (dt_val (DO.frz (do_call0 k__law_right (hr.mono (by decide)) (by rfl) T.f__law_right.g T.f__law_right.F.kp T.f__law_right.b tk (da_cons (dx_cut (dx_join dx_str (da_cons (dx_var (pv 6)) da_nil)) dp_none (dp_some dx_int)) da_nil) (len_cons len_nil))))) (dss_one (ds_ret (DX.own dx_bl))) dss_nil))))) (dss_one (ds_if (DW.dt (dw_or (dt_not (dt_val (DO.frz (do_call0 k__law_right (hr.mono (by decide)) (by rfl) T.f__law_right.g T.f__law_right.F.kp T.f__law_right.b tk (da_cons (dx_join dx_str (da_cons (dx_var (pv 4)) da_nil)) da_nil) (len_cons len_nil))))) (dw_or1 (dt_not (dt_val (DO.frz (do_call1 k__law_long_right (hr.mono (by decide)) (by rfl) T.f__law_long_right.g T.f__law_long_right.F.kp T.f__law_long_right.b tk (dr_slot (pv 3) dr_nil) (lenr_slot lenr_nil)))))))) (dss_one (ds_ret (DX.own dx_bl))) dss_nil))))))
    (dss_cons (ds_set (i := 7) sc_law.nd rfl (by first | exact Or.inl rfl | exact Or.inr rfl) (DO.fz (do_lst (da_cons dx_str (da_cons dx_str (da_cons dx_str (da_cons dx_str (da_cons dx_str (da_cons dx_str (da_cons dx_str (da_cons dx_str (da_cons dx_str (da_cons dx_str (da_cons dx_str (da_cons dx_str (da_cons dx_str (da_cons dx_str da_nil)))))))))))))))))
    (dss_one (ds_ret (DX.own (dx_cmp (op_eqX hu) f_eq (DO.frz (do_comp (own := [("text", 8)]) rfl sc_law.nd (di_list (dx_var (pv 7))) (blkOk_by (N := sc_law_N) (sc := defScope s_law) (own := [("text", 8)]) (by decide +kernel)) (fun _ _ _ _ _ => (dg_name (i := 8) sc_law.nd rfl (by first | exact Or.inl rfl | exact Or.inr rfl))) (fun _ _ _ _ _ => (dts_one (dt_not (dt_val (DO.frz (do_call0 k__law_right (hr.mono (by decide)) (by rfl) T.f__law_right.g T.f__law_right.F.kp T.f__law_right.b takes0 (da_cons (dx_var (pv 8)) da_nil) (len_cons len_nil))))))) (fun _ _ _ _ _ => (dx_var (pv 8))) (by decide) (wip_name))) (DO.frz (do_lst da_nil)) (nomark _))))))))
end
set_option maxHeartbeats 0 in
theorem all_mk {l : PySem.W.OpenLaw} {w : World} {K : PySem.W.Frag} {h : Heap} {mg : Str → Option Value} {fa f1 f2 f3 f4 f5 f6 f7 f8 f9 f10 f11 f12 f13 f14 f15 f16 f17 f18 f19 f20 f21 f22 C0 C1 C2 C3 C4 C5 C6 C7 C8 C9 C10 C11 C12 C13 C14 C15 C16 C17 C18 C19 C20 C21 C22 C23 C24 C25 C26 C27 C28 C29 C30 : Addr} {tk_DIGITS : Tok} {tk_LETTERS : Tok} {tk_MOST_DEPTH : Tok} {tk_MOST_DIGITS : Tok} {tk_MOST_TIMES : Tok} {tk_MOST_WORDS : Tok} {xld_InvalidText : Option Addr} {xlc_InvalidText : ClassData} {xls_InvalidText : Array (Option Value)} (X : K.In h) (G : h.Ns mainGlobals mg) (hfa : mg "law" = some (.ref fa))
    {od1 an1 od2 an2 od3 an3 od4 an4 od5 an5 od6 an6 od7 an7 od8 an8 od9 an9 od10 an10 od11 an11 od12 an12 od13 an13 od14 an14 od15 an15 od16 an16 od17 an17 od18 an18 od19 an19 od20 an20 od21 an21 od22 an22 : Option Addr} {sl1 sl2 sl3 sl4 sl5 sl6 sl7 sl8 sl9 sl10 sl11 sl12 sl13 sl14 sl15 sl16 sl17 sl18 sl19 sl20 sl21 sl22 : Array (Option Value)} {oc1 dc1 pm1 cd1 ct1 kV1 oc2 dc2 pm2 cd2 ct2 kV2 oc3 dc3 pm3 cd3 ct3 kV3 oc4 dc4 pm4 cd4 ct4 kV4 oc5 dc5 pm5 cd5 ct5 kV5 oc6 dc6 pm6 cd6 ct6 kV6 oc7 dc7 pm7 cd7 ct7 kV7 oc8 dc8 pm8 cd8 ct8 kV8 oc9 dc9 pm9 cd9 ct9 kV9 oc10 dc10 pm10 cd10 ct10 kV10 oc11 dc11 pm11 cd11 ct11 kV11 oc12 dc12 pm12 cd12 ct12 kV12 oc13 dc13 pm13 cd13 ct13 kV13 oc14 dc14 pm14 cd14 ct14 kV14 oc15 dc15 pm15 cd15 ct15 kV15 oc16 dc16 pm16 cd16 ct16 kV16 oc17 dc17 pm17 cd17 ct17 kV17 oc18 dc18 pm18 cd18 ct18 kV18 oc19 dc19 pm19 cd19 ct19 kV19 oc20 dc20 pm20 cd20 ct20 kV20 oc21 dc21 pm21 cd21 ct21 kV21 oc22 dc22 pm22 cd22 ct22 kV22 : Value}
    (g_Program : PySem.W.nsIn K mainGlobals "Program" = some (some (.ref C0)))
    (g_PlotError : PySem.W.nsIn K mainGlobals "PlotError" = some (some (.ref C1)))
    (g_InvalidText : PySem.W.nsIn K mainGlobals "InvalidText" = some (some (.ref C2)))
    (g_InvalidSource : PySem.W.nsIn K mainGlobals "InvalidSource" = some (some (.ref C3)))
    (g_TooDeep : PySem.W.nsIn K mainGlobals "TooDeep" = some (some (.ref C4)))
    (g_TooLarge : PySem.W.nsIn K mainGlobals "TooLarge" = some (some (.ref C5)))
    (g_InvalidProgram : PySem.W.nsIn K mainGlobals "InvalidProgram" = some (some (.ref C6)))
    (g_InvalidTimes : PySem.W.nsIn K mainGlobals "InvalidTimes" = some (some (.ref C7)))
    (g_InvalidIndex : PySem.W.nsIn K mainGlobals "InvalidIndex" = some (some (.ref C8)))
    (g_InvalidLetter : PySem.W.nsIn K mainGlobals "InvalidLetter" = some (some (.ref C9)))
    (g_InvalidName : PySem.W.nsIn K mainGlobals "InvalidName" = some (some (.ref C10)))
    (g_HasPen : PySem.W.nsIn K mainGlobals "HasPen" = some (some (.ref C11)))
    (g_InvalidMotion : PySem.W.nsIn K mainGlobals "InvalidMotion" = some (some (.ref C12)))
    (g_InvalidPose : PySem.W.nsIn K mainGlobals "InvalidPose" = some (some (.ref C13)))
    (g_InvalidPoint : PySem.W.nsIn K mainGlobals "InvalidPoint" = some (some (.ref C14)))
    (g_InvalidEdge : PySem.W.nsIn K mainGlobals "InvalidEdge" = some (some (.ref C15)))
    (g_InvalidPicture : PySem.W.nsIn K mainGlobals "InvalidPicture" = some (some (.ref C16)))
    (g_InvalidTurn : PySem.W.nsIn K mainGlobals "InvalidTurn" = some (some (.ref C17)))
    (g_InvalidFace : PySem.W.nsIn K mainGlobals "InvalidFace" = some (some (.ref C18)))
    (g_InvalidFaces : PySem.W.nsIn K mainGlobals "InvalidFaces" = some (some (.ref C19)))
    (g_NotEven : PySem.W.nsIn K mainGlobals "NotEven" = some (some (.ref C20)))
    (g_NotClosed : PySem.W.nsIn K mainGlobals "NotClosed" = some (some (.ref C21)))
    (g_InvalidIntervals : PySem.W.nsIn K mainGlobals "InvalidIntervals" = some (some (.ref C22)))
    (g_InvalidPlace : PySem.W.nsIn K mainGlobals "InvalidPlace" = some (some (.ref C23)))
    (g_NotDrifting : PySem.W.nsIn K mainGlobals "NotDrifting" = some (some (.ref C24)))
    (g_InvalidCount : PySem.W.nsIn K mainGlobals "InvalidCount" = some (some (.ref C25)))
    (g_NoSteps : PySem.W.nsIn K mainGlobals "NoSteps" = some (some (.ref C26)))
    (g_InvalidOperation : PySem.W.nsIn K mainGlobals "InvalidOperation" = some (some (.ref C27)))
    (g_Nothing : PySem.W.nsIn K mainGlobals "Nothing" = some (some (.ref C28)))
    (g_InvalidArt : PySem.W.nsIn K mainGlobals "InvalidArt" = some (some (.ref C29)))
    (g_InvalidCommand : PySem.W.nsIn K mainGlobals "InvalidCommand" = some (some (.ref C30)))
    (a1 : PySem.W.findIn K (.ref C2) "__init__" = some (some (.ref f1)))
    (i1 : PySem.W.isFn K (.ref f1) = true)
    (l1 : K.lookup f1 = some ⟨oc1, od1, .func (PySem.W.fnOf "__init__" "InvalidText.__init__" (defArgs s_InvalidText___init__) (defBody s_InvalidText___init__) (defScope s_InvalidText___init__) .none kV1 dc1 pm1 an1 cd1 ct1), sl1⟩)
    (c1 : PySem.W.codeIn K cd1 "InvalidText.__init__" = true)
    (k1 : PySem.W.keepIn K (.ref f1) = true)
    (a2 : PySem.W.nsIn K mainGlobals "words_of" = some (some (.ref f2)))
    (l2 : K.lookup f2 = some ⟨oc2, od2, .func (PySem.W.fnOf "words_of" "words_of" (defArgs s_words_of) (defBody s_words_of) (defScope s_words_of) .none kV2 dc2 pm2 an2 cd2 ct2), sl2⟩)
    (c2 : PySem.W.codeIn K cd2 "words_of" = true)
    (k2 : PySem.W.keepIn K (.ref f2) = true)
    (a3 : PySem.W.nsIn K mainGlobals "is_number" = some (some (.ref f3)))
    (l3 : K.lookup f3 = some ⟨oc3, od3, .func (PySem.W.fnOf "is_number" "is_number" (defArgs s_is_number) (defBody s_is_number) (defScope s_is_number) .none kV3 dc3 pm3 an3 cd3 ct3), sl3⟩)
    (c3 : PySem.W.codeIn K cd3 "is_number" = true)
    (k3 : PySem.W.keepIn K (.ref f3) = true)
    (a4 : PySem.W.nsIn K mainGlobals "is_step_word" = some (some (.ref f4)))
    (l4 : K.lookup f4 = some ⟨oc4, od4, .func (PySem.W.fnOf "is_step_word" "is_step_word" (defArgs s_is_step_word) (defBody s_is_step_word) (defScope s_is_step_word) .none kV4 dc4 pm4 an4 cd4 ct4), sl4⟩)
    (c4 : PySem.W.codeIn K cd4 "is_step_word" = true)
    (k4 : PySem.W.keepIn K (.ref f4) = true)
    (a5 : PySem.W.nsIn K mainGlobals "first_wrong" = some (some (.ref f5)))
    (l5 : K.lookup f5 = some ⟨oc5, od5, .func (PySem.W.fnOf "first_wrong" "first_wrong" (defArgs s_first_wrong) (defBody s_first_wrong) (defScope s_first_wrong) .none kV5 dc5 pm5 an5 cd5 ct5), sl5⟩)
    (c5 : PySem.W.codeIn K cd5 "first_wrong" = true)
    (k5 : PySem.W.keepIn K (.ref f5) = true)
    (a6 : PySem.W.nsIn K mainGlobals "nodes_from" = some (some (.ref f6)))
    (l6 : K.lookup f6 = some ⟨oc6, od6, .func (PySem.W.fnOf "nodes_from" "nodes_from" (defArgs s_nodes_from) (defBody s_nodes_from) (defScope s_nodes_from) .none kV6 dc6 pm6 an6 cd6 ct6), sl6⟩)
    (c6 : PySem.W.codeIn K cd6 "nodes_from" = true)
    (k6 : PySem.W.keepIn K (.ref f6) = true)
    (a7 : PySem.W.nsIn K mainGlobals "nodes_in" = some (some (.ref f7)))
    (l7 : K.lookup f7 = some ⟨oc7, od7, .func (PySem.W.fnOf "nodes_in" "nodes_in" (defArgs s_nodes_in) (defBody s_nodes_in) (defScope s_nodes_in) .none kV7 dc7 pm7 an7 cd7 ct7), sl7⟩)
    (c7 : PySem.W.codeIn K cd7 "nodes_in" = true)
    (k7 : PySem.W.keepIn K (.ref f7) = true)
    (a8 : PySem.W.nsIn K mainGlobals "length_in" = some (some (.ref f8)))
    (l8 : K.lookup f8 = some ⟨oc8, od8, .func (PySem.W.fnOf "length_in" "length_in" (defArgs s_length_in) (defBody s_length_in) (defScope s_length_in) .none kV8 dc8 pm8 an8 cd8 ct8), sl8⟩)
    (c8 : PySem.W.codeIn K cd8 "length_in" = true)
    (k8 : PySem.W.keepIn K (.ref f8) = true)
    (a9 : PySem.W.nsIn K mainGlobals "depth_in" = some (some (.ref f9)))
    (l9 : K.lookup f9 = some ⟨oc9, od9, .func (PySem.W.fnOf "depth_in" "depth_in" (defArgs s_depth_in) (defBody s_depth_in) (defScope s_depth_in) .none kV9 dc9 pm9 an9 cd9 ct9), sl9⟩)
    (c9 : PySem.W.codeIn K cd9 "depth_in" = true)
    (k9 : PySem.W.keepIn K (.ref f9) = true)
    (a10 : PySem.W.findIn K (.ref C0) "__init__" = some (some (.ref f10)))
    (i10 : PySem.W.isFn K (.ref f10) = true)
    (l10 : K.lookup f10 = some ⟨oc10, od10, .func (PySem.W.fnOf "__init__" "Program.__init__" (defArgs s_Program___init__) (defBody s_Program___init__) (defScope s_Program___init__) .none kV10 dc10 pm10 an10 cd10 ct10), sl10⟩)
    (c10 : PySem.W.codeIn K cd10 "Program.__init__" = true)
    (k10 : PySem.W.keepIn K (.ref f10) = true)
    (a11 : PySem.W.nsIn K mainGlobals "_law_bag" = some (some (.ref f11)))
    (l11 : K.lookup f11 = some ⟨oc11, od11, .func (PySem.W.fnOf "_law_bag" "_law_bag" (defArgs s__law_bag) (defBody s__law_bag) (defScope s__law_bag) .none kV11 dc11 pm11 an11 cd11 ct11), sl11⟩)
    (c11 : PySem.W.codeIn K cd11 "_law_bag" = true)
    (k11 : PySem.W.keepIn K (.ref f11) = true)
    (a12 : PySem.W.nsIn K mainGlobals "_law_pick" = some (some (.ref f12)))
    (l12 : K.lookup f12 = some ⟨oc12, od12, .func (PySem.W.fnOf "_law_pick" "_law_pick" (defArgs s__law_pick) (defBody s__law_pick) (defScope s__law_pick) .none kV12 dc12 pm12 an12 cd12 ct12), sl12⟩)
    (c12 : PySem.W.codeIn K cd12 "_law_pick" = true)
    (k12 : PySem.W.keepIn K (.ref f12) = true)
    (a13 : PySem.W.nsIn K mainGlobals "_law_number" = some (some (.ref f13)))
    (l13 : K.lookup f13 = some ⟨oc13, od13, .func (PySem.W.fnOf "_law_number" "_law_number" (defArgs s__law_number) (defBody s__law_number) (defScope s__law_number) .none kV13 dc13 pm13 an13 cd13 ct13), sl13⟩)
    (c13 : PySem.W.codeIn K cd13 "_law_number" = true)
    (k13 : PySem.W.keepIn K (.ref f13) = true)
    (a14 : PySem.W.nsIn K mainGlobals "_law_words" = some (some (.ref f14)))
    (l14 : K.lookup f14 = some ⟨oc14, od14, .func (PySem.W.fnOf "_law_words" "_law_words" (defArgs s__law_words) (defBody s__law_words) (defScope s__law_words) .none kV14 dc14 pm14 an14 cd14 ct14), sl14⟩)
    (c14 : PySem.W.codeIn K cd14 "_law_words" = true)
    (k14 : PySem.W.keepIn K (.ref f14) = true)
    (a15 : PySem.W.nsIn K mainGlobals "_law_class" = some (some (.ref f15)))
    (l15 : K.lookup f15 = some ⟨oc15, od15, .func (PySem.W.fnOf "_law_class" "_law_class" (defArgs s__law_class) (defBody s__law_class) (defScope s__law_class) .none kV15 dc15 pm15 an15 cd15 ct15), sl15⟩)
    (c15 : PySem.W.codeIn K cd15 "_law_class" = true)
    (k15 : PySem.W.keepIn K (.ref f15) = true)
    (a16 : PySem.W.nsIn K mainGlobals "_law_told" = some (some (.ref f16)))
    (l16 : K.lookup f16 = some ⟨oc16, od16, .func (PySem.W.fnOf "_law_told" "_law_told" (defArgs s__law_told) (defBody s__law_told) (defScope s__law_told) .none kV16 dc16 pm16 an16 cd16 ct16), sl16⟩)
    (c16 : PySem.W.codeIn K cd16 "_law_told" = true)
    (k16 : PySem.W.keepIn K (.ref f16) = true)
    (a17 : PySem.W.nsIn K mainGlobals "_law_changed" = some (some (.ref f17)))
    (l17 : K.lookup f17 = some ⟨oc17, od17, .func (PySem.W.fnOf "_law_changed" "_law_changed" (defArgs s__law_changed) (defBody s__law_changed) (defScope s__law_changed) .none kV17 dc17 pm17 an17 cd17 ct17), sl17⟩)
    (c17 : PySem.W.codeIn K cd17 "_law_changed" = true)
    (k17 : PySem.W.keepIn K (.ref f17) = true)
    (a18 : PySem.W.nsIn K mainGlobals "_law_is_number" = some (some (.ref f18)))
    (l18 : K.lookup f18 = some ⟨oc18, od18, .func (PySem.W.fnOf "_law_is_number" "_law_is_number" (defArgs s__law_is_number) (defBody s__law_is_number) (defScope s__law_is_number) .none kV18 dc18 pm18 an18 cd18 ct18), sl18⟩)
    (c18 : PySem.W.codeIn K cd18 "_law_is_number" = true)
    (k18 : PySem.W.keepIn K (.ref f18) = true)
    (a19 : PySem.W.nsIn K mainGlobals "_law_wrong" = some (some (.ref f19)))
    (l19 : K.lookup f19 = some ⟨oc19, od19, .func (PySem.W.fnOf "_law_wrong" "_law_wrong" (defArgs s__law_wrong) (defBody s__law_wrong) (defScope s__law_wrong) .none kV19 dc19 pm19 an19 cd19 ct19), sl19⟩)
    (c19 : PySem.W.codeIn K cd19 "_law_wrong" = true)
    (k19 : PySem.W.keepIn K (.ref f19) = true)
    (a20 : PySem.W.nsIn K mainGlobals "_law_right" = some (some (.ref f20)))
    (l20 : K.lookup f20 = some ⟨oc20, od20, .func (PySem.W.fnOf "_law_right" "_law_right" (defArgs s__law_right) (defBody s__law_right) (defScope s__law_right) .none kV20 dc20 pm20 an20 cd20 ct20), sl20⟩)
    (c20 : PySem.W.codeIn K cd20 "_law_right" = true)
    (k20 : PySem.W.keepIn K (.ref f20) = true)
    (a21 : PySem.W.nsIn K mainGlobals "_law_long_right" = some (some (.ref f21)))
    (l21 : K.lookup f21 = some ⟨oc21, od21, .func (PySem.W.fnOf "_law_long_right" "_law_long_right" (defArgs s__law_long_right) (defBody s__law_long_right) (defScope s__law_long_right) .none kV21 dc21 pm21 an21 cd21 ct21), sl21⟩)
    (c21 : PySem.W.codeIn K cd21 "_law_long_right" = true)
    (k21 : PySem.W.keepIn K (.ref f21) = true)
    (a22 : PySem.W.nsIn K mainGlobals "law" = some (some (.ref f22)))
    (l22 : K.lookup f22 = some ⟨oc22, od22, .func (PySem.W.fnOf "law" "law" (defArgs s_law) (defBody s_law) (defScope s_law) .none kV22 dc22 pm22 an22 cd22 ct22), sl22⟩)
    (c22 : PySem.W.codeIn K cd22 "law" = true)
    (k22 : PySem.W.keepIn K (.ref f22) = true)
    (nd : ([C0, C1, C2, C3, C4, C5, C6, C7, C8, C9, C10, C11, C12, C13, C14, C15, C16, C17, C18, C19, C20, C21, C22, C23, C24, C25, C26, C27, C28, C29, C30] : List Addr).Nodup)
    (z_ValueError : PySem.W.nsIn K mainGlobals "ValueError" = some none)
    (z_all : PySem.W.nsIn K mainGlobals "all" = some none)
    (z_enumerate : PySem.W.nsIn K mainGlobals "enumerate" = some none)
    (z_int : PySem.W.nsIn K mainGlobals "int" = some none)
    (z_isinstance : PySem.W.nsIn K mainGlobals "isinstance" = some none)
    (z_len : PySem.W.nsIn K mainGlobals "len" = some none)
    (z_list : PySem.W.nsIn K mainGlobals "list" = some none)
    (z_max : PySem.W.nsIn K mainGlobals "max" = some none)
    (z_range : PySem.W.nsIn K mainGlobals "range" = some none)
    (z_repr : PySem.W.nsIn K mainGlobals "repr" = some none)
    (z_str : PySem.W.nsIn K mainGlobals "str" = some none)
    (z_tuple : PySem.W.nsIn K mainGlobals "tuple" = some none)
    (v_DIGITS : PySem.W.nsIn K mainGlobals "DIGITS" = some (some (.str "0123456789" tk_DIGITS)))
    (v_LETTERS : PySem.W.nsIn K mainGlobals "LETTERS" = some (some (.str "fblrud" tk_LETTERS)))
    (v_MOST_DEPTH : PySem.W.nsIn K mainGlobals "MOST_DEPTH" = some (some (.int 12 tk_MOST_DEPTH)))
    (v_MOST_DIGITS : PySem.W.nsIn K mainGlobals "MOST_DIGITS" = some (some (.int 31 tk_MOST_DIGITS)))
    (v_MOST_TIMES : PySem.W.nsIn K mainGlobals "MOST_TIMES" = some (some (.int 1000000000000000000000000000000 tk_MOST_TIMES)))
    (v_MOST_WORDS : PySem.W.nsIn K mainGlobals "MOST_WORDS" = some (some (.int 1000 tk_MOST_WORDS)))
    (pg_Program : PySem.W.plainGet K C0 Str.empty = true)
    (hd_Program : PySem.W.hasDictIn K C0 = true)
    (po_Program : PySem.W.plainOver K C0 = true)
    (sa_Program : PySem.W.findIn K (.ref C0) "__setattr__" = some (some (.builtin "object.__setattr__")))
    (ha_Program : PySem.W.findIn K (.ref C0) "__class__" = some (some (.builtin "object.__class__")))
    (hn_Program : PySem.W.specialIn K (.builtin "object.__class__") "__get__" = some (some (.builtin "getset_descriptor.__get__")))
    (ht_Program : PySem.W.takesIn K (.builtin "object.__class__") = some true)
    (hm_Program : PySem.W.mroIn K C0 (.type "object") = some true)
    (mk_Program : PySem.W.makesIn K C0 = true)
    (kc_Program : PySem.W.keepIn K (.ref C0) = true)
    (xl_InvalidText : K.lookup C2 = some ⟨.type "type", xld_InvalidText, .cls xlc_InvalidText, xls_InvalidText⟩)
    (xe_InvalidText : oexB C2 xlc_InvalidText xls_InvalidText = true)
    (xw_InvalidText : PySem.W.findIn K (.ref C2) "__setattr__" = some (some (.builtin "object.__setattr__")))
    (xk_InvalidText : PySem.W.keepIn K (.ref C2) = true)
    (xb_InvalidText : PySem.W.subIn K (.ref C2) (.type "BaseException") = some true)
    (xt_InvalidText : PySem.W.typeIn K (.ref C2) = some (.type "type"))
    (xn_InvalidText_index : PySem.W.findIn K (.ref C2) "index" = some none)
    (xs : PySem.W.specialIn K (.builtin "object.__class__") "__get__" = some (some (.builtin "getset_descriptor.__get__")))
    (xz : PySem.W.takesIn K (.builtin "object.__class__") = some true)
    (xg_InvalidText : PySem.W.findIn K (.ref C2) "__getattribute__" = some (some (.builtin "BaseException.__getattribute__")))
    (xn_InvalidText : PySem.W.findIn K (.ref C2) "__getattr__" = some none)
    (xd_InvalidText : PySem.W.hasDictIn K C2 = true)
    (xa_InvalidText : PySem.W.findIn K (.ref C2) "__class__" = some (some (.builtin "object.__class__")))
    (xo_InvalidText : PySem.W.mroIn K C2 (.type "object") = some true)
    (xv_InvalidText : PySem.W.subIn K (.ref C2) (.type "ValueError") = some true)
    (yc_InvalidArt : PySem.W.isClsIn K C29 = true)
    (yt_InvalidArt : PySem.W.typeIn K (.ref C29) = some (.type "type"))
    (ys_InvalidArt : PySem.W.subIn K (.ref C29) (.ref C29) = some true)
    (yc_InvalidCommand : PySem.W.isClsIn K C30 = true)
    (yt_InvalidCommand : PySem.W.typeIn K (.ref C30) = some (.type "type"))
    (ys_InvalidCommand : PySem.W.subIn K (.ref C30) (.ref C30) = some true)
    (yc_InvalidCount : PySem.W.isClsIn K C25 = true)
    (yt_InvalidCount : PySem.W.typeIn K (.ref C25) = some (.type "type"))
    (ys_InvalidCount : PySem.W.subIn K (.ref C25) (.ref C25) = some true)
    (yc_InvalidEdge : PySem.W.isClsIn K C15 = true)
    (yt_InvalidEdge : PySem.W.typeIn K (.ref C15) = some (.type "type"))
    (ys_InvalidEdge : PySem.W.subIn K (.ref C15) (.ref C15) = some true)
    (yc_InvalidFace : PySem.W.isClsIn K C18 = true)
    (yt_InvalidFace : PySem.W.typeIn K (.ref C18) = some (.type "type"))
    (ys_InvalidFace : PySem.W.subIn K (.ref C18) (.ref C18) = some true)
    (yc_InvalidFaces : PySem.W.isClsIn K C19 = true)
    (yt_InvalidFaces : PySem.W.typeIn K (.ref C19) = some (.type "type"))
    (ys_InvalidFaces : PySem.W.subIn K (.ref C19) (.ref C19) = some true)
    (yc_InvalidIntervals : PySem.W.isClsIn K C22 = true)
    (yt_InvalidIntervals : PySem.W.typeIn K (.ref C22) = some (.type "type"))
    (ys_InvalidIntervals : PySem.W.subIn K (.ref C22) (.ref C22) = some true)
    (yc_InvalidMotion : PySem.W.isClsIn K C12 = true)
    (yt_InvalidMotion : PySem.W.typeIn K (.ref C12) = some (.type "type"))
    (ys_InvalidMotion : PySem.W.subIn K (.ref C12) (.ref C12) = some true)
    (yc_InvalidOperation : PySem.W.isClsIn K C27 = true)
    (yt_InvalidOperation : PySem.W.typeIn K (.ref C27) = some (.type "type"))
    (ys_InvalidOperation : PySem.W.subIn K (.ref C27) (.ref C27) = some true)
    (yc_InvalidPicture : PySem.W.isClsIn K C16 = true)
    (yt_InvalidPicture : PySem.W.typeIn K (.ref C16) = some (.type "type"))
    (ys_InvalidPicture : PySem.W.subIn K (.ref C16) (.ref C16) = some true)
    (yc_InvalidPlace : PySem.W.isClsIn K C23 = true)
    (yt_InvalidPlace : PySem.W.typeIn K (.ref C23) = some (.type "type"))
    (ys_InvalidPlace : PySem.W.subIn K (.ref C23) (.ref C23) = some true)
    (yc_InvalidPoint : PySem.W.isClsIn K C14 = true)
    (yt_InvalidPoint : PySem.W.typeIn K (.ref C14) = some (.type "type"))
    (ys_InvalidPoint : PySem.W.subIn K (.ref C14) (.ref C14) = some true)
    (yc_InvalidPose : PySem.W.isClsIn K C13 = true)
    (yt_InvalidPose : PySem.W.typeIn K (.ref C13) = some (.type "type"))
    (ys_InvalidPose : PySem.W.subIn K (.ref C13) (.ref C13) = some true)
    (yc_InvalidTurn : PySem.W.isClsIn K C17 = true)
    (yt_InvalidTurn : PySem.W.typeIn K (.ref C17) = some (.type "type"))
    (ys_InvalidTurn : PySem.W.subIn K (.ref C17) (.ref C17) = some true)
    (yc_NoSteps : PySem.W.isClsIn K C26 = true)
    (yt_NoSteps : PySem.W.typeIn K (.ref C26) = some (.type "type"))
    (ys_NoSteps : PySem.W.subIn K (.ref C26) (.ref C26) = some true)
    (yc_NotClosed : PySem.W.isClsIn K C21 = true)
    (yt_NotClosed : PySem.W.typeIn K (.ref C21) = some (.type "type"))
    (ys_NotClosed : PySem.W.subIn K (.ref C21) (.ref C21) = some true)
    (yc_NotDrifting : PySem.W.isClsIn K C24 = true)
    (yt_NotDrifting : PySem.W.typeIn K (.ref C24) = some (.type "type"))
    (ys_NotDrifting : PySem.W.subIn K (.ref C24) (.ref C24) = some true)
    (yc_NotEven : PySem.W.isClsIn K C20 = true)
    (yt_NotEven : PySem.W.typeIn K (.ref C20) = some (.type "type"))
    (ys_NotEven : PySem.W.subIn K (.ref C20) (.ref C20) = some true)
    (yc_Nothing : PySem.W.isClsIn K C28 = true)
    (yt_Nothing : PySem.W.typeIn K (.ref C28) = some (.type "type"))
    (ys_Nothing : PySem.W.subIn K (.ref C28) (.ref C28) = some true)
    (yc_InvalidText : PySem.W.isClsIn K C2 = true)
    (yt_InvalidText : PySem.W.typeIn K (.ref C2) = some (.type "type"))
    (ys_InvalidText : PySem.W.subIn K (.ref C2) (.ref C2) = some true)
    (yc_InvalidSource : PySem.W.isClsIn K C3 = true)
    (yt_InvalidSource : PySem.W.typeIn K (.ref C3) = some (.type "type"))
    (ys_InvalidSource : PySem.W.subIn K (.ref C3) (.ref C3) = some true)
    (yc_InvalidProgram : PySem.W.isClsIn K C6 = true)
    (yt_InvalidProgram : PySem.W.typeIn K (.ref C6) = some (.type "type"))
    (ys_InvalidProgram : PySem.W.subIn K (.ref C6) (.ref C6) = some true)
    (yc_InvalidTimes : PySem.W.isClsIn K C7 = true)
    (yt_InvalidTimes : PySem.W.typeIn K (.ref C7) = some (.type "type"))
    (ys_InvalidTimes : PySem.W.subIn K (.ref C7) (.ref C7) = some true)
    (yc_InvalidIndex : PySem.W.isClsIn K C8 = true)
    (yt_InvalidIndex : PySem.W.typeIn K (.ref C8) = some (.type "type"))
    (ys_InvalidIndex : PySem.W.subIn K (.ref C8) (.ref C8) = some true)
    (yc_InvalidLetter : PySem.W.isClsIn K C9 = true)
    (yt_InvalidLetter : PySem.W.typeIn K (.ref C9) = some (.type "type"))
    (ys_InvalidLetter : PySem.W.subIn K (.ref C9) (.ref C9) = some true)
    (yc_InvalidName : PySem.W.isClsIn K C10 = true)
    (yt_InvalidName : PySem.W.typeIn K (.ref C10) = some (.type "type"))
    (ys_InvalidName : PySem.W.subIn K (.ref C10) (.ref C10) = some true)
    (yc_HasPen : PySem.W.isClsIn K C11 = true)
    (yt_HasPen : PySem.W.typeIn K (.ref C11) = some (.type "type"))
    (ys_HasPen : PySem.W.subIn K (.ref C11) (.ref C11) = some true)
    (yc_TooDeep : PySem.W.isClsIn K C4 = true)
    (yt_TooDeep : PySem.W.typeIn K (.ref C4) = some (.type "type"))
    (ys_TooDeep : PySem.W.subIn K (.ref C4) (.ref C4) = some true)
    (yc_TooLarge : PySem.W.isClsIn K C5 = true)
    (yt_TooLarge : PySem.W.typeIn K (.ref C5) = some (.type "type"))
    (ys_TooLarge : PySem.W.subIn K (.ref C5) (.ref C5) = some true)
    (yp_InvalidText_InvalidArt : PySem.W.subIn K (.ref C2) (.ref C29) = some false)
    (yp_InvalidText_InvalidCommand : PySem.W.subIn K (.ref C2) (.ref C30) = some false)
    (yp_InvalidText_InvalidCount : PySem.W.subIn K (.ref C2) (.ref C25) = some false)
    (yp_InvalidText_InvalidEdge : PySem.W.subIn K (.ref C2) (.ref C15) = some false)
    (yp_InvalidText_InvalidFace : PySem.W.subIn K (.ref C2) (.ref C18) = some false)
    (yp_InvalidText_InvalidFaces : PySem.W.subIn K (.ref C2) (.ref C19) = some false)
    (yp_InvalidText_InvalidIntervals : PySem.W.subIn K (.ref C2) (.ref C22) = some false)
    (yp_InvalidText_InvalidMotion : PySem.W.subIn K (.ref C2) (.ref C12) = some false)
    (yp_InvalidText_InvalidOperation : PySem.W.subIn K (.ref C2) (.ref C27) = some false)
    (yp_InvalidText_InvalidPicture : PySem.W.subIn K (.ref C2) (.ref C16) = some false)
    (yp_InvalidText_InvalidPlace : PySem.W.subIn K (.ref C2) (.ref C23) = some false)
    (yp_InvalidText_InvalidPoint : PySem.W.subIn K (.ref C2) (.ref C14) = some false)
    (yp_InvalidText_InvalidPose : PySem.W.subIn K (.ref C2) (.ref C13) = some false)
    (yp_InvalidText_InvalidTurn : PySem.W.subIn K (.ref C2) (.ref C17) = some false)
    (yp_InvalidText_NoSteps : PySem.W.subIn K (.ref C2) (.ref C26) = some false)
    (yp_InvalidText_NotClosed : PySem.W.subIn K (.ref C2) (.ref C21) = some false)
    (yp_InvalidText_NotDrifting : PySem.W.subIn K (.ref C2) (.ref C24) = some false)
    (yp_InvalidText_NotEven : PySem.W.subIn K (.ref C2) (.ref C20) = some false)
    (yp_InvalidText_Nothing : PySem.W.subIn K (.ref C2) (.ref C28) = some false)
    (yp_InvalidText_InvalidSource : PySem.W.subIn K (.ref C2) (.ref C3) = some false)
    (yp_InvalidText_InvalidProgram : PySem.W.subIn K (.ref C2) (.ref C6) = some false)
    (yp_InvalidText_InvalidTimes : PySem.W.subIn K (.ref C2) (.ref C7) = some false)
    (yp_InvalidText_InvalidIndex : PySem.W.subIn K (.ref C2) (.ref C8) = some false)
    (yp_InvalidText_InvalidLetter : PySem.W.subIn K (.ref C2) (.ref C9) = some false)
    (yp_InvalidText_InvalidName : PySem.W.subIn K (.ref C2) (.ref C10) = some false)
    (yp_InvalidText_HasPen : PySem.W.subIn K (.ref C2) (.ref C11) = some false)
    (yp_InvalidText_TooDeep : PySem.W.subIn K (.ref C2) (.ref C4) = some false)
    (yp_InvalidText_TooLarge : PySem.W.subIn K (.ref C2) (.ref C5) = some false)
    (zd : PySem.W.hasDictIn K C1 = true)
    (zb : PySem.W.subIn K (.ref C1) (.type "BaseException") = some true)
    (zt : PySem.W.typeIn K (.ref C1) = some (.type "type"))
    (zp_InvalidText : PySem.W.subIn K (.ref C2) (.ref C1) = some true)
    (n_Program_own_depth : PySem.W.findIn K (.ref C0) "own_depth" = some none)
    (n_Program_own_length : PySem.W.findIn K (.ref C0) "own_length" = some none)
    (n_Program_own_nodes : PySem.W.findIn K (.ref C0) "own_nodes" = some none)
    (n_Program_own_text : PySem.W.findIn K (.ref C0) "own_text" = some none)
    (n_Program_own_words : PySem.W.findIn K (.ref C0) "own_words" = some none)
    (iy_Program_str : PySem.W.subIn K (.ref C0) (.type "str") = some false) :
    ∃ fd : FuncData, (∀ (s : Shared) (v : Value), BindsTo s fd ⟨[v], []⟩ [("script", v)]) ∧ ∀ base : Heap, K.In base → base.Ns mainGlobals mg → ∃ cs : Nat → Addr, CsOk cs ∧ FnG l.prog w K mg base (L2.CX l.prog w) 26 fa fd ["script"] (spD K 1 (m_law cs)) := by
  have e := hfa.symm.trans (PySem.W.mg_of X G a22)
  cases e
  have F1 := fun_mk (st := s_InvalidText___init__) l1 c1 k1
  have b1 := F1.binds (ps := ["self", "index"]) fun _ _ _ _ _ _ us hl => ul2 hl fun _ _ => rfl
  have F2 := fun_mk (st := s_words_of) l2 c2 k2
  have b2 := F2.binds (ps := ["text"]) fun _ _ _ _ _ _ us hl => ul1 hl fun _ => rfl
  have F3 := fun_mk (st := s_is_number) l3 c3 k3
  have b3 := F3.binds (ps := ["signs"]) fun _ _ _ _ _ _ us hl => ul1 hl fun _ => rfl
  have F4 := fun_mk (st := s_is_step_word) l4 c4 k4
  have b4 := F4.binds (ps := ["word"]) fun _ _ _ _ _ _ us hl => ul1 hl fun _ => rfl
  have F5 := fun_mk (st := s_first_wrong) l5 c5 k5
  have b5 := F5.binds (ps := ["words", "names"]) fun _ _ _ _ _ _ us hl => ul2 hl fun _ _ => rfl
  have F6 := fun_mk (st := s_nodes_from) l6 c6 k6
  have b6 := F6.binds (ps := ["words", "place"]) fun _ _ _ _ _ _ us hl => ul2 hl fun _ _ => rfl
  have F7 := fun_mk (st := s_nodes_in) l7 c7 k7
  have b7 := F7.binds (ps := ["words"]) fun _ _ _ _ _ _ us hl => ul1 hl fun _ => rfl
  have F8 := fun_mk (st := s_length_in) l8 c8 k8
  have b8 := F8.binds (ps := ["nodes"]) fun _ _ _ _ _ _ us hl => ul1 hl fun _ => rfl
  have F9 := fun_mk (st := s_depth_in) l9 c9 k9
  have b9 := F9.binds (ps := ["nodes"]) fun _ _ _ _ _ _ us hl => ul1 hl fun _ => rfl
  have F10 := fun_mk (st := s_Program___init__) l10 c10 k10
  have b10 := F10.binds (ps := ["self", "text"]) fun _ _ _ _ _ _ us hl => ul2 hl fun _ _ => rfl
  have F11 := fun_mk (st := s__law_bag) l11 c11 k11
  have b11 := F11.binds (ps := ["cell"]) fun _ _ _ _ _ _ us hl => ul1 hl fun _ => rfl
  have F12 := fun_mk (st := s__law_pick) l12 c12 k12
  have b12 := F12.binds (ps := ["bag", "many"]) fun _ _ _ _ _ _ us hl => ul2 hl fun _ _ => rfl
  have F13 := fun_mk (st := s__law_number) l13 c13 k13
  have b13 := F13.binds (ps := ["bag", "far"]) fun _ _ _ _ _ _ us hl => ul2 hl fun _ _ => rfl
  have F14 := fun_mk (st := s__law_words) l14 c14 k14
  have b14 := F14.binds (ps := ["bag", "most", "deep", "letters", "far"]) fun _ _ _ _ _ _ us hl => ul5 hl fun _ _ _ _ _ => rfl
  have F15 := fun_mk (st := s__law_class) l15 c15 k15
  have b15 := F15.binds (ps := ["caught"]) fun _ _ _ _ _ _ us hl => ul1 hl fun _ => rfl
  have F16 := fun_mk (st := s__law_told) l16 c16 k16
  have b16 := F16.binds (ps := ["value"]) fun _ _ _ _ _ _ us hl => ul1 hl fun _ => rfl
  have F17 := fun_mk (st := s__law_changed) l17 c17 k17
  have b17 := F17.binds (ps := ["bag", "words"]) fun _ _ _ _ _ _ us hl => ul2 hl fun _ _ => rfl
  have F18 := fun_mk (st := s__law_is_number) l18 c18 k18
  have b18 := F18.binds (ps := ["signs"]) fun _ _ _ _ _ _ us hl => ul1 hl fun _ => rfl
  have F19 := fun_mk (st := s__law_wrong) l19 c19 k19
  have b19 := F19.binds (ps := ["words", "names"]) fun _ _ _ _ _ _ us hl => ul2 hl fun _ _ => rfl
  have F20 := fun_mk (st := s__law_right) l20 c20 k20
  have b20 := F20.binds (ps := ["text"]) fun _ _ _ _ _ _ us hl => ul1 hl fun _ => rfl
  have F21 := fun_mk (st := s__law_long_right) l21 c21 k21
  have b21 := F21.binds (ps := ["bag"]) fun _ _ _ _ _ _ us hl => ul1 hl fun _ => rfl
  have F22 := fun_mk (st := s_law) l22 c22 k22
  have b22 := F22.binds (ps := ["script"]) fun _ _ _ _ _ _ us hl => ul1 hl fun _ => rfl
  have T : Tx K mg (fun i => ([f1, f2, f3, f4, f5, f6, f7, f8, f9, f10, f11, f12, f13, f14, f15, f16, f17, f18, f19, f20, f21, fa] : List Addr).getD i 0) (fun i => ([PySem.W.fnOf "__init__" "InvalidText.__init__" (defArgs s_InvalidText___init__) (defBody s_InvalidText___init__) (defScope s_InvalidText___init__) .none kV1 dc1 pm1 an1 cd1 ct1, PySem.W.fnOf "words_of" "words_of" (defArgs s_words_of) (defBody s_words_of) (defScope s_words_of) .none kV2 dc2 pm2 an2 cd2 ct2, PySem.W.fnOf "is_number" "is_number" (defArgs s_is_number) (defBody s_is_number) (defScope s_is_number) .none kV3 dc3 pm3 an3 cd3 ct3, PySem.W.fnOf "is_step_word" "is_step_word" (defArgs s_is_step_word) (defBody s_is_step_word) (defScope s_is_step_word) .none kV4 dc4 pm4 an4 cd4 ct4, PySem.W.fnOf "first_wrong" "first_wrong" (defArgs s_first_wrong) (defBody s_first_wrong) (defScope s_first_wrong) .none kV5 dc5 pm5 an5 cd5 ct5, PySem.W.fnOf "nodes_from" "nodes_from" (defArgs s_nodes_from) (defBody s_nodes_from) (defScope s_nodes_from) .none kV6 dc6 pm6 an6 cd6 ct6, PySem.W.fnOf "nodes_in" "nodes_in" (defArgs s_nodes_in) (defBody s_nodes_in) (defScope s_nodes_in) .none kV7 dc7 pm7 an7 cd7 ct7, PySem.W.fnOf "length_in" "length_in" (defArgs s_length_in) (defBody s_length_in) (defScope s_length_in) .none kV8 dc8 pm8 an8 cd8 ct8, PySem.W.fnOf "depth_in" "depth_in" (defArgs s_depth_in) (defBody s_depth_in) (defScope s_depth_in) .none kV9 dc9 pm9 an9 cd9 ct9, PySem.W.fnOf "__init__" "Program.__init__" (defArgs s_Program___init__) (defBody s_Program___init__) (defScope s_Program___init__) .none kV10 dc10 pm10 an10 cd10 ct10, PySem.W.fnOf "_law_bag" "_law_bag" (defArgs s__law_bag) (defBody s__law_bag) (defScope s__law_bag) .none kV11 dc11 pm11 an11 cd11 ct11, PySem.W.fnOf "_law_pick" "_law_pick" (defArgs s__law_pick) (defBody s__law_pick) (defScope s__law_pick) .none kV12 dc12 pm12 an12 cd12 ct12, PySem.W.fnOf "_law_number" "_law_number" (defArgs s__law_number) (defBody s__law_number) (defScope s__law_number) .none kV13 dc13 pm13 an13 cd13 ct13, PySem.W.fnOf "_law_words" "_law_words" (defArgs s__law_words) (defBody s__law_words) (defScope s__law_words) .none kV14 dc14 pm14 an14 cd14 ct14, PySem.W.fnOf "_law_class" "_law_class" (defArgs s__law_class) (defBody s__law_class) (defScope s__law_class) .none kV15 dc15 pm15 an15 cd15 ct15, PySem.W.fnOf "_law_told" "_law_told" (defArgs s__law_told) (defBody s__law_told) (defScope s__law_told) .none kV16 dc16 pm16 an16 cd16 ct16, PySem.W.fnOf "_law_changed" "_law_changed" (defArgs s__law_changed) (defBody s__law_changed) (defScope s__law_changed) .none kV17 dc17 pm17 an17 cd17 ct17, PySem.W.fnOf "_law_is_number" "_law_is_number" (defArgs s__law_is_number) (defBody s__law_is_number) (defScope s__law_is_number) .none kV18 dc18 pm18 an18 cd18 ct18, PySem.W.fnOf "_law_wrong" "_law_wrong" (defArgs s__law_wrong) (defBody s__law_wrong) (defScope s__law_wrong) .none kV19 dc19 pm19 an19 cd19 ct19, PySem.W.fnOf "_law_right" "_law_right" (defArgs s__law_right) (defBody s__law_right) (defScope s__law_right) .none kV20 dc20 pm20 an20 cd20 ct20, PySem.W.fnOf "_law_long_right" "_law_long_right" (defArgs s__law_long_right) (defBody s__law_long_right) (defScope s__law_long_right) .none kV21 dc21 pm21 an21 cd21 ct21, PySem.W.fnOf "law" "law" (defArgs s_law) (defBody s_law) (defScope s_law) .none kV22 dc22 pm22 an22 cd22 ct22] : List FuncData).getD i (PySem.W.fnOf "__init__" "InvalidText.__init__" (defArgs s_InvalidText___init__) (defBody s_InvalidText___init__) (defScope s_InvalidText___init__) .none kV1 dc1 pm1 an1 cd1 ct1)) (fun i => ([C0, C1, C2, C3, C4, C5, C6, C7, C8, C9, C10, C11, C12, C13, C14, C15, C16, C17, C18, C19, C20, C21, C22, C23, C24, C25, C26, C27, C28, C29, C30] : List Addr).getD i 0) := by
    constructor
    · exact ⟨F1, b1⟩
    · exact ⟨F2, PySem.W.mg_of X G a2, b2⟩
    · exact ⟨F3, PySem.W.mg_of X G a3, b3⟩
    · exact ⟨F4, PySem.W.mg_of X G a4, b4⟩
    · exact ⟨F5, PySem.W.mg_of X G a5, b5⟩
    · exact ⟨F6, PySem.W.mg_of X G a6, b6⟩
    · exact ⟨F7, PySem.W.mg_of X G a7, b7⟩
    · exact ⟨F8, PySem.W.mg_of X G a8, b8⟩
    · exact ⟨F9, PySem.W.mg_of X G a9, b9⟩
    · exact ⟨F10, b10⟩
    · exact ⟨F11, PySem.W.mg_of X G a11, b11⟩
    · exact ⟨F12, PySem.W.mg_of X G a12, b12⟩
    · exact ⟨F13, PySem.W.mg_of X G a13, b13⟩
    · exact ⟨F14, PySem.W.mg_of X G a14, b14⟩
    · exact ⟨F15, PySem.W.mg_of X G a15, b15⟩
    · exact ⟨F16, PySem.W.mg_of X G a16, b16⟩
    · exact ⟨F17, PySem.W.mg_of X G a17, b17⟩
    · exact ⟨F18, PySem.W.mg_of X G a18, b18⟩
    · exact ⟨F19, PySem.W.mg_of X G a19, b19⟩
    · exact ⟨F20, PySem.W.mg_of X G a20, b20⟩
    · exact ⟨F21, PySem.W.mg_of X G a21, b21⟩
    · exact ⟨F22, PySem.W.mg_of X G a22, b22⟩
    · exact PySem.W.mg_none_of X G z_ValueError
    · exact PySem.W.mg_none_of X G z_all
    · exact PySem.W.mg_none_of X G z_enumerate
    · exact PySem.W.mg_none_of X G z_int
    · exact PySem.W.mg_none_of X G z_isinstance
    · exact PySem.W.mg_none_of X G z_len
    · exact PySem.W.mg_none_of X G z_list
    · exact PySem.W.mg_none_of X G z_max
    · exact PySem.W.mg_none_of X G z_range
    · exact PySem.W.mg_none_of X G z_repr
    · exact PySem.W.mg_none_of X G z_str
    · exact PySem.W.mg_none_of X G z_tuple
    · exact ⟨_, PySem.W.mg_of X G v_DIGITS, _, rfl⟩
    · exact ⟨_, PySem.W.mg_of X G v_LETTERS, _, rfl⟩
    · exact ⟨_, PySem.W.mg_of X G v_MOST_DEPTH, _, rfl⟩
    · exact ⟨_, PySem.W.mg_of X G v_MOST_DIGITS, _, rfl⟩
    · exact ⟨_, PySem.W.mg_of X G v_MOST_TIMES, _, rfl⟩
    · exact ⟨_, PySem.W.mg_of X G v_MOST_WORDS, _, rfl⟩
    · exact PySem.W.mg_of X G g_Program
    · exact ⟨⟨pg_Program, hd_Program, po_Program, sa_Program⟩, ha_Program, hn_Program, ht_Program, hm_Program⟩
    · exact ⟨mk_Program, a10, i10, kc_Program⟩
    · exact PySem.W.mg_of X G g_PlotError
    · exact PySem.W.mg_of X G g_InvalidText
    · exact PySem.W.mg_of X G g_InvalidSource
    · exact PySem.W.mg_of X G g_TooDeep
    · exact PySem.W.mg_of X G g_TooLarge
    · exact PySem.W.mg_of X G g_InvalidProgram
    · exact PySem.W.mg_of X G g_InvalidTimes
    · exact PySem.W.mg_of X G g_InvalidIndex
    · exact PySem.W.mg_of X G g_InvalidLetter
    · exact PySem.W.mg_of X G g_InvalidName
    · exact PySem.W.mg_of X G g_HasPen
    · exact PySem.W.mg_of X G g_InvalidMotion
    · exact PySem.W.mg_of X G g_InvalidPose
    · exact PySem.W.mg_of X G g_InvalidPoint
    · exact PySem.W.mg_of X G g_InvalidEdge
    · exact PySem.W.mg_of X G g_InvalidPicture
    · exact PySem.W.mg_of X G g_InvalidTurn
    · exact PySem.W.mg_of X G g_InvalidFace
    · exact PySem.W.mg_of X G g_InvalidFaces
    · exact PySem.W.mg_of X G g_NotEven
    · exact PySem.W.mg_of X G g_NotClosed
    · exact PySem.W.mg_of X G g_InvalidIntervals
    · exact PySem.W.mg_of X G g_InvalidPlace
    · exact PySem.W.mg_of X G g_NotDrifting
    · exact PySem.W.mg_of X G g_InvalidCount
    · exact PySem.W.mg_of X G g_NoSteps
    · exact PySem.W.mg_of X G g_InvalidOperation
    · exact PySem.W.mg_of X G g_Nothing
    · exact PySem.W.mg_of X G g_InvalidArt
    · exact PySem.W.mg_of X G g_InvalidCommand
    · exact ⟨oex_mk xl_InvalidText xe_InvalidText xw_InvalidText xb_InvalidText xt_InvalidText xk_InvalidText, a1, beq_iff_eq.mp i1, fun f hf => by simp only [List.mem_cons, List.not_mem_nil, or_false] at hf; rcases hf with rfl; exact xn_InvalidText_index⟩
    · exact ⟨xg_InvalidText, xn_InvalidText, xb_InvalidText, xd_InvalidText⟩
    · exact xn_InvalidText_index
    · exact relX_ok (fa_cons (⟨xg_InvalidText, xn_InvalidText, xb_InvalidText, xd_InvalidText, xa_InvalidText, xs, xz, xo_InvalidText⟩) fa_nil) (fa_cons ((fa_cons (kit_oth yc_InvalidArt yt_InvalidArt yp_InvalidText_InvalidArt ys_InvalidArt) (fa_cons (kit_oth yc_InvalidCommand yt_InvalidCommand yp_InvalidText_InvalidCommand ys_InvalidCommand) (fa_cons (kit_oth yc_InvalidCount yt_InvalidCount yp_InvalidText_InvalidCount ys_InvalidCount) (fa_cons (kit_oth yc_InvalidEdge yt_InvalidEdge yp_InvalidText_InvalidEdge ys_InvalidEdge) (fa_cons (kit_oth yc_InvalidFace yt_InvalidFace yp_InvalidText_InvalidFace ys_InvalidFace) (fa_cons (kit_oth yc_InvalidFaces yt_InvalidFaces yp_InvalidText_InvalidFaces ys_InvalidFaces) (fa_cons (kit_oth yc_InvalidIntervals yt_InvalidIntervals yp_InvalidText_InvalidIntervals ys_InvalidIntervals) (fa_cons (kit_oth yc_InvalidMotion yt_InvalidMotion yp_InvalidText_InvalidMotion ys_InvalidMotion) (fa_cons (kit_oth yc_InvalidOperation yt_InvalidOperation yp_InvalidText_InvalidOperation ys_InvalidOperation) (fa_cons (kit_oth yc_InvalidPicture yt_InvalidPicture yp_InvalidText_InvalidPicture ys_InvalidPicture) (fa_cons (kit_oth yc_InvalidPlace yt_InvalidPlace yp_InvalidText_InvalidPlace ys_InvalidPlace) (fa_cons (kit_oth yc_InvalidPoint yt_InvalidPoint yp_InvalidText_InvalidPoint ys_InvalidPoint) (fa_cons (kit_oth yc_InvalidPose yt_InvalidPose yp_InvalidText_InvalidPose ys_InvalidPose) (fa_cons (kit_oth yc_InvalidTurn yt_InvalidTurn yp_InvalidText_InvalidTurn ys_InvalidTurn) (fa_cons (kit_oth yc_NoSteps yt_NoSteps yp_InvalidText_NoSteps ys_NoSteps) (fa_cons (kit_oth yc_NotClosed yt_NotClosed yp_InvalidText_NotClosed ys_NotClosed) (fa_cons (kit_oth yc_NotDrifting yt_NotDrifting yp_InvalidText_NotDrifting ys_NotDrifting) (fa_cons (kit_oth yc_NotEven yt_NotEven yp_InvalidText_NotEven ys_NotEven) (fa_cons (kit_oth yc_Nothing yt_Nothing yp_InvalidText_Nothing ys_Nothing) (fa_cons (kit_self) (fa_cons (kit_oth yc_InvalidSource yt_InvalidSource yp_InvalidText_InvalidSource ys_InvalidSource) (fa_cons (kit_oth yc_InvalidProgram yt_InvalidProgram yp_InvalidText_InvalidProgram ys_InvalidProgram) (fa_cons (kit_oth yc_InvalidTimes yt_InvalidTimes yp_InvalidText_InvalidTimes ys_InvalidTimes) (fa_cons (kit_oth yc_InvalidIndex yt_InvalidIndex yp_InvalidText_InvalidIndex ys_InvalidIndex) (fa_cons (kit_oth yc_InvalidLetter yt_InvalidLetter yp_InvalidText_InvalidLetter ys_InvalidLetter) (fa_cons (kit_oth yc_InvalidName yt_InvalidName yp_InvalidText_InvalidName ys_InvalidName) (fa_cons (kit_oth yc_HasPen yt_HasPen yp_InvalidText_HasPen ys_HasPen) (fa_cons (kit_oth yc_TooDeep yt_TooDeep yp_InvalidText_TooDeep ys_TooDeep) (fa_cons (kit_oth yc_TooLarge yt_TooLarge yp_InvalidText_TooLarge ys_TooLarge) fa_nil)))))))))))))))))))))))))))))) fa_nil) (fa_cons (kit_ve xv_InvalidText) fa_nil)
    · exact xTest_ok (fa_cons (PySem.W.exm_ref zb zd zt zp_InvalidText) fa_nil)
    · exact n_Program_own_depth
    · exact n_Program_own_length
    · exact n_Program_own_nodes
    · exact n_Program_own_text
    · exact n_Program_own_words
    · exact a1
    · exact i1
    · exact a10
    · exact i10
    · exact fun D hD => by simp only [okC, Bool.or_eq_true, beq_iff_eq, or_assoc] at hD; rcases hD with hD <;> rw [hD]; exact kit_tyno (by decide +kernel) iy_Program_str
  exact ⟨PySem.W.fnOf "law" "law" (defArgs s_law) (defBody s_law) (defScope s_law) .none kV22 dc22 pm22 an22 cd22 ct22, fun s v => .of_eq rfl, fun base _ _ => ⟨fun i => ([C0, C1, C2, C3, C4, C5, C6, C7, C8, C9, C10, C11, C12, C13, C14, C15, C16, C17, C18, C19, C20, C21, C22, C23, C24, C25, C26, C27, C28, C29, C30] : List Addr).getD i 0, (cs_inj (l := [C0, C1, C2, C3, C4, C5, C6, C7, C8, C9, C10, C11, C12, C13, C14, C15, C16, C17, C18, C19, C20, C21, C22, C23, C24, C25, C26, C27, C28, C29, C30]) (fun i hi => cs_getD hi) nd), k_law_ (P := l.prog) (w := w) (base := base) T⟩⟩
noncomputable def W (l : List Nat) : Str := ⟨l.toArray⟩
theorem W_cps (l : List Nat) : (W l).cps.toList = l := rfl
theorem W_len (l : List Nat) : (W l).length = l.length := by show l.toArray.size = _; rw [List.size_toArray]
theorem W_tl (l : List Nat) : TL.tl (W l) = l := rfl
theorem W_iff (l m : List Nat) : (W l = W m) ↔ l = m := ⟨fun h => by have := congrArg (fun s => s.cps.toList) h; exact this, fun h => by rw [h]⟩
theorem cutS_W (l : List Nat) (lo hi : Option Int) : cutS (W l) lo hi = W (cutL l lo hi) := by
  unfold cutS cutL
  rw [W_len]
  rfl
theorem W_tail (l : List Nat) : cutS (W l) (some 1) none = W (l.drop 1) := by rw [cutS_W, cut_from1]
theorem W_head (l : List Nat) : cutS (W l) none (some 1) = W (l.take 1) := by rw [cutS_W, cut_to1]
theorem W_app (l m : List Nat) : W l ++ W m = W (l ++ m) := TL.ext_tl (by rw [TL.tl_append]; rfl)
theorem inS_W (c : Nat) (z : Str) : inS (W [c]) z = decide (c ∈ z.cps.toList) := rfl
theorem lit_ (s : String) (l : List Nat) (h : s.toList.map Char.toNat = l) : (Str.ofString s) = W l := TL.ext_tl (by rw [TL.tl_ofString, h]; rfl)
theorem lit_open : Str.ofString "(" = W [40] := lit_ _ _ rfl
theorem lit_close : Str.ofString ")" = W [41] := lit_ _ _ rfl
theorem lit_0 : Str.ofString "0" = W [48] := lit_ _ _ rfl
theorem lit_nil : Str.ofString "" = W [] := lit_ _ _ rfl
theorem lit_sp : Str.ofString " " = W [32] := lit_ _ _ rfl
theorem lit_dig : Str.ofString "0123456789" = W [48, 49, 50, 51, 52, 53, 54, 55, 56, 57] := lit_ _ _ rfl
theorem mem_dig (c : Nat) : c ∈ ([48, 49, 50, 51, 52, 53, 54, 55, 56, 57] : List Nat) ↔ 48 ≤ c ∧ c ≤ 57 := ⟨fun h => (by decide : ∀ x ∈ ([48, 49, 50, 51, 52, 53, 54, 55, 56, 57] : List Nat), 48 ≤ x ∧ x ≤ 57) c h, fun h => by
  have := (by decide : ∀ k < 10, 48 + k ∈ ([48, 49, 50, 51, 52, 53, 54, 55, 56, 57] : List Nat)) (c - 48) (by omega)
  rwa [show 48 + (c - 48) = c by omega] at this⟩
theorem lit_let : Str.ofString "fblrud" = W [102, 98, 108, 114, 117, 100] := lit_ _ _ rfl
theorem W_str (n : Nat) : (Str.ofString (toString ((n : Nat) : Int))) = W (TL.numL n) := TL.ext_tl (by rw [TL.tl_num]; rfl)
theorem str_num {n : Nat} (h : n < 2 ^ 1000) : dStr1 [.int (n : Int)] = some (.str (W (TL.numL n))) := by
  have h1 := log2_lt h
  show (if ((n : Int)).natAbs.log2 < 1920 then some (D.str (Str.ofString (toString (n : Int)))) else none) = _
  rw [if_pos (by rw [Int.natAbs_natCast]; omega), W_str]
theorem num_head : ∀ n : Nat, ∃ c r, TL.numL n = c :: r ∧ (1 ≤ n → c ≠ 48) := fun n => by
  induction n using Nat.strongRecOn with
  | ind n ih =>
    by_cases h : n < 10
    · exact ⟨_, [], TL.numL_lt h, by omega⟩
    · obtain ⟨c, r, e, q⟩ := ih (n / 10) (by omega)
      refine ⟨c, r ++ [48 + n % 10], by rw [TL.numL_step (by omega), e]; rfl, fun _ => q (by omega)⟩
theorem num_dig (n : Nat) : ∀ c ∈ TL.numL n, 48 ≤ c ∧ c ≤ 57 := fun c hc => by
  have := TL.numL_digits n
  exact this c hc
theorem int_W {n : Nat} (h : n < 10 ^ 600) : dInt2 [.str (W (TL.numL n))] = some (.int n) := by
  have hl := TL.numL_len (n := n) (k := 600) (by decide) h
  show (if (W (TL.numL n)).length ≤ 640 then (PySem.intText? (W (TL.numL n))).map D.int else none) = _
  rw [if_pos (by rw [W_len]; omega), ← W_str, TL.int_num (by omega)]
  rfl
inductive Nd where
  | st (c : Nat) (n : Nat)
  | rp (b : List Nd) (n : Nat)
noncomputable def letters : List Nat := [102, 98, 108, 114, 117, 100]
noncomputable def lw (c n : Nat) : List Nat := c :: if n = 1 then [] else TL.numL n
mutual
noncomputable def wd : Nd → List (List Nat)
  | .st c n => [lw c n]
  | .rp b n => [40] :: (wds b ++ [41 :: TL.numL n])
noncomputable def wds : List Nd → List (List Nat)
  | [] => []
  | a :: r => wd a ++ wds r
end
mutual
noncomputable def enc : Nd → D
  | .st c n => .tup [.str (W [c]), .int n]
  | .rp b n => .tup [.tup (encs b), .int n]
noncomputable def encs : List Nd → List D
  | [] => []
  | a :: r => enc a :: encs r
end
mutual
noncomputable def nlen : Nd → Nat
  | .st _ n => n
  | .rp b n => n * nlens b
noncomputable def nlens : List Nd → Nat
  | [] => 0
  | a :: r => nlen a + nlens r
end
mutual
noncomputable def ndp : Nd → Nat
  | .st _ _ => 0
  | .rp b _ => 1 + ndps b
noncomputable def ndps : List Nd → Nat
  | [] => 0
  | a :: r => max (ndp a) (ndps r)
end
mutual
noncomputable def nok : Nd → Prop
  | .st c n => c ∈ letters ∧ 1 ≤ n ∧ n ≤ 1000000000000000000000000000000
  | .rp b n => b ≠ [] ∧ 2 ≤ n ∧ n ≤ 1000000000000000000000000000000 ∧ noks b
noncomputable def noks : List Nd → Prop
  | [] => True
  | a :: r => nok a ∧ noks r
end
theorem wds_app : ∀ a b : List Nd, wds (a ++ b) = wds a ++ wds b
  | [], b => rfl
  | x :: r, b => by rw [List.cons_append, wds, wds, wds_app r b, List.append_assoc]
theorem ndps_app : ∀ a b : List Nd, ndps (a ++ b) = max (ndps a) (ndps b)
  | [], b => by rw [ndps, List.nil_append]; omega
  | x :: r, b => by rw [List.cons_append, ndps, ndps, ndps_app r b, Nat.max_assoc]
theorem noks_app : ∀ a b : List Nd, noks (a ++ b) ↔ noks a ∧ noks b
  | [], b => by rw [noks, List.nil_append]; simp
  | x :: r, b => by rw [List.cons_append, noks, noks, noks_app r b, and_assoc]
theorem wd_pos : ∀ a : Nd, 1 ≤ (wd a).length
  | .st c n => by rw [wd]; simp
  | .rp b n => by rw [wd]; simp
theorem len_wds : ∀ a : List Nd, a.length ≤ (wds a).length
  | [] => Nat.zero_le _
  | x :: r => by
    have := len_wds r
    have := wd_pos x
    rw [wds, List.length_cons, List.length_append]; omega
mutual
theorem nlen_lt : ∀ a : Nd, nok a → nlen a ≤ 2 ^ (100 * (wd a).length)
  | .st c n, h => by
    rw [nok] at h
    rw [nlen, wd]
    have : (2 : Nat) ^ 100 = 1267650600228229401496703205376 := by decide
    show n ≤ 2 ^ (100 * 1)
    omega
  | .rp b n, h => by
    rw [nok] at h
    have ih := nlens_lt b h.2.2.2
    rw [nlen, wd, List.length_cons, List.length_append, List.length_singleton]
    have e : 100 * ((wds b).length + 1 + 1) = 100 + (100 * (wds b).length + 100) := by omega
    rw [e, Nat.pow_add]
    have h1 : n ≤ 2 ^ 100 := by have : (2 : Nat) ^ 100 = 1267650600228229401496703205376 := by decide
                                omega
    refine Nat.le_trans (Nat.mul_le_mul h1 ih) (Nat.mul_le_mul_left _ ?_)
    exact Nat.pow_le_pow_right (by decide) (by omega)
theorem nlens_lt : ∀ a : List Nd, noks a → nlens a ≤ 2 ^ (100 * (wds a).length)
  | [], _ => by rw [nlens]; exact Nat.zero_le _
  | a :: r, h => by
    rw [noks] at h
    have h1 := nlen_lt a h.1
    have h2 := nlens_lt r h.2
    have hp := wd_pos a
    rw [nlens, wds, List.length_append]
    cases r with
    | nil =>
      rw [nlens, wds, List.length_nil, Nat.add_zero, Nat.add_zero]; exact h1
    | cons b r =>
      have hq := wd_pos b
      have hq2 : 1 ≤ (wds (b :: r)).length := by rw [wds, List.length_append]; omega
      have e1 : 2 ^ (100 * (wd a).length) ≤ 2 ^ (100 * ((wd a).length + (wds (b :: r)).length) - 1) := Nat.pow_le_pow_right (by decide) (by omega)
      have e2 : 2 ^ (100 * (wds (b :: r)).length) ≤ 2 ^ (100 * ((wd a).length + (wds (b :: r)).length) - 1) := Nat.pow_le_pow_right (by decide) (by omega)
      have e3 : 2 ^ (100 * ((wd a).length + (wds (b :: r)).length)) = 2 ^ (100 * ((wd a).length + (wds (b :: r)).length) - 1) * 2 := by
        rw [← Nat.pow_succ]; congr 1; omega
      omega
end
theorem chain_le {a b c : SD → ER D} {sd : SD} {i j k : Int} (h1 : a sd = .ok (.int i) sd) (h2 : b sd = .ok (.int j) sd) (h3 : c sd = .ok (.int k) sd) : mChain dLe dLe a b c sd = .ok (.bl (decide (i ≤ j) && decide (j ≤ k))) sd := by
  unfold mChain
  simp only [h1, h2, h3, ER.bind, dLe, ER.opt]
  by_cases h : i ≤ j <;> simp [h]
theorem bools_map {α : Type} (f : α → Bool) : ∀ l : List α, boolsOf (l.map fun x => D.bl (f x)) = some (l.map f)
  | [] => rfl
  | x :: r => by rw [List.map_cons, boolsOf, bools_map f r]; rfl
theorem is_number_ok (cs : Nat → Addr) {n : Nat} (h1 : 2 ≤ n) (h2 : n ≤ 1000000000000000000000000000000) : m_is_number cs [.fz (.str (W (TL.numL n)))] = .ok (.fz (.bl true)) ⟨[], [.fz (.str (W (TL.numL n)))]⟩ := by
  obtain ⟨c, r, e, hc⟩ := num_head n
  have hl := TL.numL_len (n := n) (k := 31) (by decide) (by omega)
  have hd := num_dig n
  have hi := int_W (n := n) (by
    have : (10 : Nat) ^ 31 ≤ 10 ^ 600 := Nat.pow_le_pow_right (by decide) (by decide)
    omega)
  generalize TL.numL n = l at *
  have hl1 : 1 ≤ l.length := by rw [e]; simp
  have dl : dLen [.str (W l)] = some (.int l.length) := by
    show (if (W l).length ≤ 16777216 then some (D.int (W l).length) else none) = _
    rw [W_len, if_pos (by omega)]
  have d0 : dIx (.str (W l)) (.int 0) = some (.str (W [c])) := by
    show (if (W l).length ≤ 16777216 then (atI l 0).map (fun c => D.str ⟨#[c]⟩) else none) = _
    rw [W_len, if_pos (by omega), e, show atI (c :: r) (0 : Int) = some c from atI_of (k := 0) rfl]
    rfl
  have q0 : dEq (.str (W [c])) (.str (Str.ofString "0")) = some (.bl false) := by
    have : ¬ W [c] = W [48] := fun z => by rw [W_iff] at z; simp at z; exact hc (by omega) z
    rw [lit_0]
    simp [dEq, eqB_str, this]
  have s2 : m_is_number_2 cs ⟨[.ow (.fz (.str (W l))), .un], [.fz (.str (W l))]⟩ = .nx ⟨[.ow (.fz (.str (W l))), .un], [.fz (.str (W l))]⟩ := by
    have ch := chain_le (a := mC (.int 1)) (b := mCall dLen (mCons (mVar 0) mNil)) (c := mC (.int 31)) (sd := ⟨[.ow (.fz (.str (W l))), .un], [.fz (.str (W l))]⟩) (i := 1) (j := l.length) (k := 31) rfl (by simp [mCall, mCons, mVar, mNil, ER.bind, dl, ER.opt]) rfl
    have z1 : (1 : Int) ≤ l.length := by omega
    have z2 : (l.length : Int) ≤ 31 := by omega
    simp only [z1, z2, decide_true, Bool.and_self] at ch
    simp only [m_is_number_2, sIf, mOr, mNot, mTest, ch, ER.bind, Bool.not_true, Bool.false_eq_true, if_false, mOp, mVar, List.getElem?_cons_zero, mC, d0, ER.opt, q0, ER.stm, sNil]
  have c1 : m_is_number_c1 cs ⟨[.ow (.fz (.str (W l))), .un], [.fz (.str (W l))]⟩ = .ok (.ol ((l.map fun _ => D.bl true).map .fz)) ⟨[.ow (.fz (.str (W l))), .un], [.fz (.str (W l))]⟩ :=
    mComp_map l (fun c => D.str (W [c])) (fun _ => D.bl true) rfl (by omega) fun c hc => ⟨⟨[.ow (.fz (.str (W l))), .ow (.fz (.str (W [c])))], [.fz (.str (W l))]⟩, rfl, rfl, by
      have hh := hd c hc
      have q : inS (W [c]) (Str.ofString "0123456789") = true := by
        rw [lit_dig, inS_W, W_cps]
        exact decide_eq_true ((mem_dig c).mpr hh)
      show ER.opt (dIn false (.str (W [c])) (.str (Str.ofString "0123456789"))) _ = _
      show ER.opt (some (D.bl (inS (W [c]) (Str.ofString "0123456789") != false))) _ = _
      rw [q]; rfl⟩
  have v1 : OT.views ((l.map fun _ => D.bl true).map .fz) = l.map fun _ => D.bl true := views_fz _
  have a1 : dAll [.lst (l.map fun _ => D.bl true)] = some (.bl true) := by
    show (boolsOf _).map _ = _
    rw [bools_map (fun _ => true)]
    simp
  have ch := chain_le (a := mC (.int 2)) (b := mCall dInt2 (mCons (mVar 0) mNil)) (c := mC (.int 1000000000000000000000000000000)) (sd := ⟨[.ow (.fz (.str (W l))), .un], [.fz (.str (W l))]⟩) (i := 2) (j := n) (k := 1000000000000000000000000000000) rfl (by simp [mCall, mCons, mVar, mNil, ER.bind, hi, ER.opt]) rfl
  have z1 : (2 : Int) ≤ n := by omega
  have z2 : (n : Int) ≤ 1000000000000000000000000000000 := by omega
  simp only [z1, z2, decide_true, Bool.and_self] at ch
  have s3 : m_is_number_3 cs ⟨[.ow (.fz (.str (W l))), .un], [.fz (.str (W l))]⟩ = .rt (.fz (.bl true)) ⟨[.ow (.fz (.str (W l))), .un], [.fz (.str (W l))]⟩ := by
    have a2 : mCall dAll (mCons (mView (m_is_number_c1 cs)) mNil) ⟨[.ow (.fz (.str (W l))), .un], [.fz (.str (W l))]⟩ = .ok (.bl true) ⟨[.ow (.fz (.str (W l))), .un], [.fz (.str (W l))]⟩ := by
      simp only [mCall, mCons, mView, c1, mNil, ER.bind, OT.view, v1, a1, ER.opt]
    simp only [m_is_number_3, sRet, mOwn, mAndV, a2, ch, ER.bind, ER.stm]
  have ent : entry 2 [.fz (.str (W l))] = ⟨[.ow (.fz (.str (W l))), .un], [.fz (.str (W l))]⟩ := rfl
  simp only [m_is_number, asDef, ent, sSeq, s2, s3, Fl.seq]
theorem step_word_ok (cs : Nat → Addr) {c n : Nat} (hc : c ∈ letters) (h1 : 1 ≤ n) (h2 : n ≤ 1000000000000000000000000000000) : m_is_step_word cs [.fz (.str (W (lw c n)))] = .ok (.fz (.bl true)) ⟨[], [.fz (.str (W (lw c n)))]⟩ := by
  have hh : cutS (W (lw c n)) none (some 1) = W [c] := by rw [W_head]; rfl
  have ht : cutS (W (lw c n)) (some 1) none = W (if n = 1 then [] else TL.numL n) := by rw [W_tail]; rfl
  have hl : (W (lw c n)).length ≤ 16777216 := by
    have hl := TL.numL_len (n := n) (k := 31) (by decide) (by omega)
    rw [W_len]
    unfold lw
    rw [List.length_cons]
    split <;> simp <;> omega
  have q1 : dNe (.str (W [c])) (.str (Str.ofString "")) = some (.bl true) := by
    have : ¬ W [c] = W [] := fun z => by rw [W_iff] at z; simp at z
    rw [lit_nil]
    simp [dNe, eqB_str, this]
  have q2 : dIn false (.str (W [c])) (.str (Str.ofString "fblrud")) = some (.bl true) := by
    show some (D.bl (inS (W [c]) (Str.ofString "fblrud") != false)) = _
    have : inS (W [c]) (Str.ofString "fblrud") = true := by
      rw [lit_let, inS_W, W_cps]
      exact decide_eq_true hc
    rw [this]; rfl
  have q3 : dLen [.str (W (lw c n))] = some (.int (lw c n).length) := by
    show (if (W (lw c n)).length ≤ 16777216 then some (D.int (W (lw c n)).length) else none) = _
    rw [if_pos hl, W_len]
  generalize hw : lw c n = w at *
  by_cases e : n = 1
  · subst e
    have e1 : w.length = 1 := by rw [← hw]; rfl
    rw [e1] at q3
    simp [m_is_step_word, m_is_step_word_1, -List.map_map, -List.map_take, -List.map_drop, -List.map_append, -List.map_reverse, asDef, entry, slotsOf, sSeq, sSet, sRet, sIf, sDrop, sNil, sBreak, sCont, sApp, sSetAt, setEnd, sAug, sAsg, sPar, mVar, mSee, mFrz, mTake, mC, mUn, mOp, mNil, mCons, mCall, mCallL, mTup, mLst, mView, mOwn, mFz, mTest, mAnd, mOr, mNot, mIf, mAndV, mOrV, mNotV, mChain, mAt, qSee, qFz, qNew, oNone, oSome, rNil, rSlot, rFz, mCall0, mCall1, oneSlot, noSlot, treesOf, SD.tree, SD.put, SD.putFz, tgN, tgNil, tgCons, tgT, ER.bind, ER.opt, ER.stm, Fl.seq, OT.view, OT.views, OT.items, fzOf, iLst, iTuP, iRange1, iRange2, iZip2, iEnumL, dIx, atI, ixN, dAdd, dSub, dNeg, dLt, dLe, dGt, dGe, dIsN, dNotN, isNonD, dEq, dNe, eqB_int, eqB_str, eqB_bl, eq_2, eq_3, dLen, dIsi, D.isA, tyName, dMod, dMax, dMin, mAtS, mBm, D.isL, D.isS, mCutX, hl, hh, ht, q1, q2, q3, -dNe, -dLen]
  · rw [if_neg e] at ht
    have e1 : ¬ ((w.length : Int) = 1) := by
      rw [← hw]
      unfold lw
      rw [if_neg e]
      obtain ⟨d, r, z, _⟩ := num_head n
      rw [z]
      simp
      omega
    have num := is_number_ok cs (n := n) (by omega) h2
    have q4 : dEq (.int w.length) (.int 1) = some (.bl false) := by simp [dEq, eqB_int]; omega
    simp [m_is_step_word, m_is_step_word_1, -List.map_map, -List.map_take, -List.map_drop, -List.map_append, -List.map_reverse, asDef, entry, slotsOf, sSeq, sSet, sRet, sIf, sDrop, sNil, sBreak, sCont, sApp, sSetAt, setEnd, sAug, sAsg, sPar, mVar, mSee, mFrz, mTake, mC, mUn, mOp, mNil, mCons, mCall, mCallL, mTup, mLst, mView, mOwn, mFz, mTest, mAnd, mOr, mNot, mIf, mAndV, mOrV, mNotV, mChain, mAt, qSee, qFz, qNew, oNone, oSome, rNil, rSlot, rFz, mCall0, mCall1, oneSlot, noSlot, treesOf, SD.tree, SD.put, SD.putFz, tgN, tgNil, tgCons, tgT, ER.bind, ER.opt, ER.stm, Fl.seq, OT.view, OT.views, OT.items, fzOf, iLst, iTuP, iRange1, iRange2, iZip2, iEnumL, dIx, atI, ixN, dAdd, dSub, dNeg, dLt, dLe, dGt, dGe, dIsN, dNotN, isNonD, dEq, dNe, eqB_int, eqB_str, eqB_bl, eq_2, eq_3, dLen, dIsi, D.isA, tyName, dMod, dMax, dMin, mAtS, mBm, D.isL, D.isS, mCutX, hl, hh, ht, q1, q2, q3, q4, num, -dNe, -dLen, -dEq]
noncomputable def Runs (g : D → SD → Option SD) (body : SD → Fl) (xs : List D) (a b : SD) : Prop := ∀ ys, goFor g body (xs ++ ys) a = goFor g body ys b
theorem Runs.nil {g : D → SD → Option SD} {body : SD → Fl} {a : SD} : Runs g body [] a a := fun _ => rfl
theorem Runs.one {g : D → SD → Option SD} {body : SD → Fl} {d : D} {a a1 b : SD} (h1 : g d a = some a1) (h2 : body a1 = .nx b) : Runs g body [d] a b := fun ys => by
  show (match g d a with
    | none => Fl.bad
    | some sd1 => match body sd1 with
      | .nx sd2 => goFor g body ys sd2
      | .ct sd2 => goFor g body ys sd2
      | .bk sd2 => .nx sd2
      | r => r) = _
  rw [h1]
  dsimp only
  rw [h2]
theorem Runs.app {g : D → SD → Option SD} {body : SD → Fl} {xs ys : List D} {a b c : SD} (h1 : Runs g body xs a b) (h2 : Runs g body ys b c) : Runs g body (xs ++ ys) a c := fun zs => by
  rw [List.append_assoc, h1, h2]
theorem Runs.all {g : D → SD → Option SD} {body : SD → Fl} {xs : List D} {a b : SD} (h : Runs g body xs a b) : goFor g body xs a = .nx b := by
  have := h []
  rw [List.append_nil] at this
  rw [this, goFor]
/-- numbered from i on -/
noncomputable def enD (i : Nat) (ws : List D) : List D := (ws.zipIdx i).map fun p => .tup [.int (p.2 : Int), p.1]
theorem enD_app (i : Nat) (a b : List D) : enD i (a ++ b) = enD i a ++ enD (i + a.length) b := by
  unfold enD
  rw [List.zipIdx_append, List.map_append]
theorem enD_cons (i : Nat) (x : D) (r : List D) : enD i (x :: r) = .tup [.int (i : Int), x] :: enD (i + 1) r := by
  unfold enD
  rw [List.zipIdx_cons]; rfl
noncomputable def WsD (ws : List (List Nat)) : List D := ws.map fun w => .str (W w)
theorem WsD_app (a b : List (List Nat)) : WsD (a ++ b) = WsD a ++ WsD b := List.map_append
theorem WsD_len (a : List (List Nat)) : (WsD a).length = a.length := List.length_map ..
noncomputable def fwSD (ws : D) (d : Nat) (e : Bool) (x4 x5 : S) : SD := ⟨[.ow (.fz ws), .ow (.fz (.lst [])), .ow (.fz (.int d)), .ow (.fz (.bl e)), x4, x5], [.fz ws, .fz (.lst [])]⟩
noncomputable abbrev fwG : D → SD → Option SD := tgT 2 (tgCons (tgN 4) (tgCons (tgN 5) (tgNil)))
theorem eq_W (l m : List Nat) : dEqB (.str (W l)) (.str (W m)) = some (decide (l = m)) := by
  rw [eqB_str]
  congr 1
  exact decide_eq_decide.mpr (W_iff l m)
theorem fw_open (cs : Nat → Addr) {ws : D} {d i : Nat} {e : Bool} (h1 : d + 1 ≤ 12) (h2 : i + 1 + (d + 1) + 1 ≤ 1000) : m_first_wrong_b1 cs (fwSD ws d e (.ow (.fz (.int i))) (.ow (.fz (.str (W [40]))))) = .nx (fwSD ws (d + 1) true (.ow (.fz (.int i))) (.ow (.fz (.str (W [40]))))) := by
  have z1 : ¬ (12 : Int) < (d : Int) + 1 := by omega
  have z2 : ¬ (1000 : Int) < (i : Int) + 1 + ((d : Int) + 1) + 1 := by omega
  have lo := lit_open
  simp [m_first_wrong_b1, m_first_wrong_14, m_first_wrong_3, m_first_wrong_4, m_first_wrong_6, m_first_wrong_16, fwSD, -List.map_map, -List.map_take, -List.map_drop, -List.map_append, -List.map_reverse, asDef, entry, slotsOf, sSeq, sSet, sRet, sIf, sDrop, sNil, sBreak, sCont, sApp, sSetAt, setEnd, sAug, sAsg, sPar, mVar, mSee, mFrz, mTake, mC, mUn, mOp, mNil, mCons, mCall, mCallL, mTup, mLst, mView, mOwn, mFz, mTest, mAnd, mOr, mNot, mIf, mAndV, mOrV, mNotV, mChain, mAt, qSee, qFz, qNew, oNone, oSome, rNil, rSlot, rFz, mCall0, mCall1, oneSlot, noSlot, treesOf, SD.tree, SD.put, SD.putFz, tgN, tgNil, tgCons, tgT, ER.bind, ER.opt, ER.stm, Fl.seq, OT.view, OT.views, OT.items, fzOf, iLst, iTuP, iRange1, iRange2, iZip2, iEnumL, dIx, atI, ixN, dAdd, dSub, dNeg, dLt, dLe, dGt, dGe, dIsN, dNotN, isNonD, dEq, dNe, eqB_int, eqB_str, eqB_bl, eq_2, eq_3, dLen, dIsi, D.isA, tyName, dMod, dMax, dMin, mAtS, mBm, D.isL, D.isS, lo, W_iff, z1, z2, dInt2]
theorem fw_close (cs : Nat → Addr) {ws : D} {d i n : Nat} (hn1 : 2 ≤ n) (hn2 : n ≤ 1000000000000000000000000000000) (h2 : i + 1 + d ≤ 1000) : m_first_wrong_b1 cs (fwSD ws (d + 1) false (.ow (.fz (.int i))) (.ow (.fz (.str (W (41 :: TL.numL n)))))) = .nx (fwSD ws d false (.ow (.fz (.int i))) (.ow (.fz (.str (W (41 :: TL.numL n)))))) := by
  have z1 : ¬ (d : Int) + 1 = 0 := by omega
  have z2 : ¬ (1000 : Int) < (i : Int) + 1 + (d : Int) := by omega
  have z3 : ¬ (1000 : Int) < (i : Int) + 1 + ((d : Int) + 1 - 1) := by omega
  have num := is_number_ok cs hn1 hn2
  have lo := lit_open
  have lc := lit_close
  have hh : cutS (W (41 :: TL.numL n)) none (some 1) = W [41] := by rw [W_head]; rfl
  have ht : cutS (W (41 :: TL.numL n)) (some 1) none = W (TL.numL n) := by rw [W_tail]; rfl
  have hl : (W (41 :: TL.numL n)).length ≤ 16777216 := by
    have hl := TL.numL_len (n := n) (k := 31) (by decide) (by omega)
    rw [W_len, List.length_cons]; omega
  have e1 : (d : Int) + 1 - 1 = d := by omega
  simp [m_first_wrong_b1, m_first_wrong_14, m_first_wrong_13, m_first_wrong_8, m_first_wrong_9, m_first_wrong_16, fwSD, -List.map_map, -List.map_take, -List.map_drop, -List.map_append, -List.map_reverse, asDef, entry, slotsOf, sSeq, sSet, sRet, sIf, sDrop, sNil, sBreak, sCont, sApp, sSetAt, setEnd, sAug, sAsg, sPar, mVar, mSee, mFrz, mTake, mC, mUn, mOp, mNil, mCons, mCall, mCallL, mTup, mLst, mView, mOwn, mFz, mTest, mAnd, mOr, mNot, mIf, mAndV, mOrV, mNotV, mChain, mAt, qSee, qFz, qNew, oNone, oSome, rNil, rSlot, rFz, mCall0, mCall1, oneSlot, noSlot, treesOf, SD.tree, SD.put, SD.putFz, tgN, tgNil, tgCons, tgT, ER.bind, ER.opt, ER.stm, Fl.seq, OT.view, OT.views, OT.items, fzOf, iLst, iTuP, iRange1, iRange2, iZip2, iEnumL, dIx, atI, ixN, dAdd, dSub, dNeg, dLt, dLe, dGt, dGe, dIsN, dNotN, isNonD, dEq, dNe, eqB_int, eqB_str, eqB_bl, eq_2, eq_3, dLen, dIsi, D.isA, tyName, dMod, dMax, dMin, mAtS, mBm, D.isL, D.isS, mCutX, lo, lc, W_iff, z1, z2, z3, dInt2, hh, ht, hl, num, e1]
theorem letter_ne {c : Nat} (h : c ∈ letters) : c ≠ 40 ∧ c ≠ 41 := by
  unfold letters at h
  simp at h
  omega
theorem fw_step (cs : Nat → Addr) {ws : D} {d i c n : Nat} {e : Bool} (hc : c ∈ letters) (hn1 : 1 ≤ n) (hn2 : n ≤ 1000000000000000000000000000000) (h2 : i + 1 + d ≤ 1000) : m_first_wrong_b1 cs (fwSD ws d e (.ow (.fz (.int i))) (.ow (.fz (.str (W (lw c n)))))) = .nx (fwSD ws d false (.ow (.fz (.int i))) (.ow (.fz (.str (W (lw c n)))))) := by
  have z2 : ¬ (1000 : Int) < (i : Int) + 1 + (d : Int) := by omega
  have sw := step_word_ok cs hc hn1 hn2
  have lo := lit_open
  have lc := lit_close
  have hh : cutS (W (lw c n)) none (some 1) = W [c] := by rw [W_head]; rfl
  have hl : (W (lw c n)).length ≤ 16777216 := by
    have hl := TL.numL_len (n := n) (k := 31) (by decide) (by omega)
    rw [W_len]
    unfold lw
    rw [List.length_cons]
    split <;> simp <;> omega
  obtain ⟨c1, c2⟩ := letter_ne hc
  have ne : ¬ lw c n = [40] := fun z => by
    unfold lw at z
    injection z with z1 z3
    exact c1 z1
  simp [m_first_wrong_b1, m_first_wrong_14, m_first_wrong_13, m_first_wrong_12, m_first_wrong_10, m_first_wrong_16, fwSD, -List.map_map, -List.map_take, -List.map_drop, -List.map_append, -List.map_reverse, asDef, entry, slotsOf, sSeq, sSet, sRet, sIf, sDrop, sNil, sBreak, sCont, sApp, sSetAt, setEnd, sAug, sAsg, sPar, mVar, mSee, mFrz, mTake, mC, mUn, mOp, mNil, mCons, mCall, mCallL, mTup, mLst, mView, mOwn, mFz, mTest, mAnd, mOr, mNot, mIf, mAndV, mOrV, mNotV, mChain, mAt, qSee, qFz, qNew, oNone, oSome, rNil, rSlot, rFz, mCall0, mCall1, oneSlot, noSlot, treesOf, SD.tree, SD.put, SD.putFz, tgN, tgNil, tgCons, tgT, ER.bind, ER.opt, ER.stm, Fl.seq, OT.view, OT.views, OT.items, fzOf, iLst, iTuP, iRange1, iRange2, iZip2, iEnumL, dIx, atI, ixN, dAdd, dSub, dNeg, dLt, dLe, dGt, dGe, dIsN, dNotN, isNonD, dEq, dNe, eqB_int, eqB_str, eqB_bl, eq_2, eq_3, dLen, dIsi, D.isA, tyName, dMod, dMax, dMin, mAtS, mBm, D.isL, D.isS, mCutX, lo, lc, W_iff, z2, dInt2, hh, hl, sw, ne, c2]
mutual
theorem fw_nd (cs : Nat → Addr) {ws : D} : ∀ (a : Nd) (i d : Nat) (e : Bool) (x4 x5 : S), nok a → d + ndp a ≤ 12 → i + (wd a).length + d ≤ 1000 → ∃ y4 y5, Runs fwG (m_first_wrong_b1 cs) (enD i (WsD (wd a))) (fwSD ws d e x4 x5) (fwSD ws d false y4 y5)
  | .st c n, i, d, e, x4, x5, h, _, hl => by
    rw [nok] at h
    rw [wd, List.length_singleton] at hl
    rw [wd]
    exact ⟨_, _, .one (a1 := fwSD ws d e (.ow (.fz (.int i))) (.ow (.fz (.str (W (lw c n)))))) rfl (fw_step cs h.1 h.2.1 h.2.2 (by omega))⟩
  | .rp b n, i, d, e, x4, x5, h, hd, hl => by
    rw [nok] at h
    rw [ndp] at hd
    rw [wd, List.length_cons, List.length_append, List.length_singleton] at hl
    rw [wd]
    have hb : 1 ≤ (wds b).length := by
      have := len_wds b
      cases b with
      | nil => exact absurd rfl h.1
      | cons _ _ => rw [List.length_cons] at this; omega
    obtain ⟨y4, y5, r1⟩ := fw_nds cs b (i + 1) (d + 1) true (.ow (.fz (.int i))) (.ow (.fz (.str (W [40])))) h.2.2.2 (by omega) (by omega)
    rw [if_neg h.1] at r1
    have o1 : Runs fwG (m_first_wrong_b1 cs) [.tup [.int (i : Int), .str (W [40])]] (fwSD ws d e x4 x5) (fwSD ws (d + 1) true (.ow (.fz (.int i))) (.ow (.fz (.str (W [40]))))) := .one (a1 := fwSD ws d e (.ow (.fz (.int i))) (.ow (.fz (.str (W [40]))))) rfl (fw_open cs (by omega) (by omega))
    have c1 : Runs fwG (m_first_wrong_b1 cs) [.tup [.int ((i + 1 + (wds b).length : Nat) : Int), .str (W (41 :: TL.numL n))]] (fwSD ws (d + 1) false y4 y5) (fwSD ws d false (.ow (.fz (.int (i + 1 + (wds b).length : Nat)))) (.ow (.fz (.str (W (41 :: TL.numL n)))))) := .one (a1 := fwSD ws (d + 1) false (.ow (.fz (.int (i + 1 + (wds b).length : Nat)))) (.ow (.fz (.str (W (41 :: TL.numL n)))))) rfl (fw_close cs h.2.1 h.2.2.1 (by omega))
    refine ⟨.ow (.fz (.int (i + 1 + (wds b).length : Nat))), .ow (.fz (.str (W (41 :: TL.numL n)))), ?_⟩
    have e0 : enD i (WsD ([40] :: (wds b ++ [41 :: TL.numL n]))) = [.tup [.int (i : Int), .str (W [40])]] ++ (enD (i + 1) (WsD (wds b)) ++ [.tup [.int ((i + 1 + (wds b).length : Nat) : Int), .str (W (41 :: TL.numL n))]]) := by
      show enD i (.str (W [40]) :: WsD (wds b ++ [41 :: TL.numL n])) = _
      rw [enD_cons, WsD_app, enD_app, WsD_len]
      rfl
    rw [e0]
    exact o1.app (r1.app c1)
theorem fw_nds (cs : Nat → Addr) {ws : D} : ∀ (l : List Nd) (i d : Nat) (e : Bool) (x4 x5 : S), noks l → d + ndps l ≤ 12 → i + (wds l).length + d ≤ 1000 → ∃ y4 y5, Runs fwG (m_first_wrong_b1 cs) (enD i (WsD (wds l))) (fwSD ws d e x4 x5) (fwSD ws d (if l = [] then e else false) y4 y5)
  | [], i, d, e, x4, x5, _, _, _ => ⟨x4, x5, by rw [if_pos rfl]; exact .nil⟩
  | a :: r, i, d, e, x4, x5, h, hd, hl => by
    rw [noks] at h
    rw [ndps] at hd
    rw [wds, List.length_append] at hl
    obtain ⟨y4, y5, r1⟩ := fw_nd cs a i d e x4 x5 h.1 (by omega) (by omega)
    obtain ⟨z4, z5, r2⟩ := fw_nds cs r (i + (wd a).length) d false y4 y5 h.2 (by omega) (by omega)
    refine ⟨z4, z5, ?_⟩
    rw [wds, WsD_app, enD_app, WsD_len, if_neg (by simp)]
    have e2 : (if r = [] then false else false) = false := by split <;> rfl
    rw [e2] at r2
    exact r1.app r2
end
theorem first_wrong_ok (cs : Nat → Addr) {l : List Nd} (h : noks l) (hd : ndps l ≤ 12) (hl : (wds l).length ≤ 1000) : m_first_wrong cs [.fz (.lst (WsD (wds l))), .fz (.lst [])] = .ok (.fz .non) ⟨[], [.fz (.lst (WsD (wds l))), .fz (.lst [])]⟩ := by
  obtain ⟨y4, y5, r⟩ := fw_nds cs (ws := .lst (WsD (wds l))) l 0 0 false .un .un h (by omega) (by omega)
  have e2 : (if l = [] then false else false) = false := by split <;> rfl
  rw [e2] at r
  have s1 : m_first_wrong_1 cs ⟨[.ow (.fz (.lst (WsD (wds l)))), .ow (.fz (.lst [])), .un, .un, .un, .un], [.fz (.lst (WsD (wds l))), .fz (.lst [])]⟩ = .nx ⟨[.ow (.fz (.lst (WsD (wds l)))), .ow (.fz (.lst [])), .ow (.fz (.int 0)), .un, .un, .un], [.fz (.lst (WsD (wds l))), .fz (.lst [])]⟩ := rfl
  have s2 : m_first_wrong_2 cs ⟨[.ow (.fz (.lst (WsD (wds l)))), .ow (.fz (.lst [])), .ow (.fz (.int 0)), .un, .un, .un], [.fz (.lst (WsD (wds l))), .fz (.lst [])]⟩ = .nx (fwSD (.lst (WsD (wds l))) 0 false .un .un) := rfl
  have s17 : m_first_wrong_17 cs (fwSD (.lst (WsD (wds l))) 0 false .un .un) = .nx (fwSD (.lst (WsD (wds l))) 0 false y4 y5) := r.all
  have s18 : m_first_wrong_18 cs (fwSD (.lst (WsD (wds l))) 0 false y4 y5) = .rt (.fz .non) (fwSD (.lst (WsD (wds l))) 0 false y4 y5) := by
    simp [m_first_wrong_18, fwSD, -List.map_map, -List.map_take, -List.map_drop, -List.map_append, -List.map_reverse, asDef, entry, slotsOf, sSeq, sSet, sRet, sIf, sDrop, sNil, sBreak, sCont, sApp, sSetAt, setEnd, sAug, sAsg, sPar, mVar, mSee, mFrz, mTake, mC, mUn, mOp, mNil, mCons, mCall, mCallL, mTup, mLst, mView, mOwn, mFz, mTest, mAnd, mOr, mNot, mIf, mAndV, mOrV, mNotV, mChain, mAt, qSee, qFz, qNew, oNone, oSome, rNil, rSlot, rFz, mCall0, mCall1, oneSlot, noSlot, treesOf, SD.tree, SD.put, SD.putFz, tgN, tgNil, tgCons, tgT, ER.bind, ER.opt, ER.stm, Fl.seq, OT.view, OT.views, OT.items, fzOf, iLst, iTuP, iRange1, iRange2, iZip2, iEnumL, dIx, atI, ixN, dAdd, dSub, dNeg, dLt, dLe, dGt, dGe, dIsN, dNotN, isNonD, dEq, dNe, eqB_int, eqB_str, eqB_bl, eq_2, eq_3, dLen, dIsi, D.isA, tyName, dMod, dMax, dMin, mAtS, mBm, D.isL, D.isS]
  have ent : entry 6 [.fz (.lst (WsD (wds l))), .fz (.lst [])] = ⟨[.ow (.fz (.lst (WsD (wds l)))), .ow (.fz (.lst [])), .un, .un, .un, .un], [.fz (.lst (WsD (wds l))), .fz (.lst [])]⟩ := rfl
  simp only [m_first_wrong, asDef, ent, sSeq, s1, s2, s17, s18, Fl.seq]
  rfl
noncomputable def nfSD (ws : List D) (p0 p : Nat) (found : List D) (x3 x4 : S) : SD := ⟨[.ow (.fz (.lst ws)), .ow (.fz (.int p)), .ow (.ol (found.map .fz)), x3, x4], [.fz (.lst ws), .fz (.int p0)]⟩
/-- a while that goes on -/
noncomputable def WGo (c : SD → ER Bool) (body : SD → Fl) (k : Nat) (a b : SD) : Prop := ∀ n, goWhile c body (n + k) a = goWhile c body n b
theorem WGo.nil {c : SD → ER Bool} {body : SD → Fl} {a : SD} : WGo c body 0 a a := fun _ => rfl
theorem WGo.one {c : SD → ER Bool} {body : SD → Fl} {a b : SD} (h1 : c a = .ok true a) (h2 : body a = .nx b) : WGo c body 1 a b := fun n => by
  show (c a).stm _ = _
  rw [h1]
  show (if true = true then (match body a with
      | .nx sd2 => goWhile c body n sd2
      | .ct sd2 => goWhile c body n sd2
      | .bk sd2 => .nx sd2
      | r => r) else .nx a) = _
  rw [if_pos rfl, h2]
theorem WGo.app {c : SD → ER Bool} {body : SD → Fl} {k l : Nat} {a b d : SD} (h1 : WGo c body k a b) (h2 : WGo c body l b d) : WGo c body (l + k) a d := fun n => by
  rw [← Nat.add_assoc, h1, h2]
theorem at_mid (pre : List (List Nat)) (w : List Nat) (post : List (List Nat)) : dIx (.lst (WsD (pre ++ w :: post))) (.int pre.length) = some (.str (W w)) := by
  show atI (WsD (pre ++ w :: post)) (pre.length : Int) = _
  refine atI_of ?_
  unfold WsD
  rw [List.getElem?_map, List.getElem?_append_right (Nat.le_refl _), Nat.sub_self]
  rfl
theorem at_sign (c : Nat) (r : List Nat) (h : r.length ≤ 100) : dIx (.str (W (c :: r))) (.int 0) = some (.str (W [c])) := by
  show (if (W (c :: r)).length ≤ 16777216 then (atI (c :: r) 0).map (fun c => D.str ⟨#[c]⟩) else none) = _
  rw [W_len, if_pos (by rw [List.length_cons]; omega), show atI (c :: r) (0 : Int) = some c from atI_of (k := 0) rfl]
  rfl
theorem lw_len {n : Nat} (h : n ≤ 1000000000000000000000000000000) : (if n = 1 then ([] : List Nat) else TL.numL n).length ≤ 31 := by
  have hl := TL.numL_len (n := n) (k := 31) (by decide) (by omega)
  split
  · simp
  · exact hl
theorem lw_int {n : Nat} (h : n ≤ 1000000000000000000000000000000) : dInt2 [.str (W (TL.numL n))] = some (.int n) := int_W (by
  have : (10 : Nat) ^ 31 ≤ 10 ^ 600 := Nat.pow_le_pow_right (by decide) (by decide)
  omega)
noncomputable abbrev nfC : SD → ER Bool := mAnd (mTest (mOp dLt (mVar 1) (mCall dLen (mCons (mVar 0) (mNil))))) (mTest (mOp dNe (mOp dIx (mOp dIx (mVar 0) (mVar 1)) (mC (.int 0))) (mC (.str ")"))))
theorem nf_cond {pre post : List (List Nat)} {c : Nat} {r : List Nat} {p0 : Nat} {found : List D} {x3 x4 : S} (hc : c ≠ 41) (hr : r.length ≤ 100) : nfC (nfSD (WsD (pre ++ (c :: r) :: post)) p0 pre.length found x3 x4) = .ok true (nfSD (WsD (pre ++ (c :: r) :: post)) p0 pre.length found x3 x4) := by
  have h1 := at_mid pre (c :: r) post
  have h2 := at_sign c r hr
  have h3 : (pre.length : Int) < ((WsD (pre ++ (c :: r) :: post)).length : Int) := by rw [WsD_len, List.length_append, List.length_cons]; omega
  have lc := lit_close
  generalize WsD (pre ++ (c :: r) :: post) = ws at *
  simp [nfC, nfSD, -List.map_map, -List.map_take, -List.map_drop, -List.map_append, -List.map_reverse, asDef, entry, slotsOf, sSeq, sSet, sRet, sIf, sDrop, sNil, sBreak, sCont, sApp, sSetAt, setEnd, sAug, sAsg, sPar, mVar, mSee, mFrz, mTake, mC, mUn, mOp, mNil, mCons, mCall, mCallL, mTup, mLst, mView, mOwn, mFz, mTest, mAnd, mOr, mNot, mIf, mAndV, mOrV, mNotV, mChain, mAt, qSee, qFz, qNew, oNone, oSome, rNil, rSlot, rFz, mCall0, mCall1, oneSlot, noSlot, treesOf, SD.tree, SD.put, SD.putFz, tgN, tgNil, tgCons, tgT, ER.bind, ER.opt, ER.stm, Fl.seq, OT.view, OT.views, OT.items, fzOf, iLst, iTuP, iRange1, iRange2, iZip2, iEnumL, dAdd, dSub, dNeg, dLt, dLe, dGt, dGe, dIsN, dNotN, isNonD, dEq, dNe, eqB_int, eqB_str, eqB_bl, eq_2, eq_3, dLen, dIsi, D.isA, tyName, dMod, dMax, dMin, mAtS, mBm, D.isL, D.isS, h1, h2, h3, lc, W_iff, hc]
theorem nf_stop {pre post : List (List Nat)} {p0 : Nat} {found : List D} {x3 x4 : S} (h : post = [] ∨ ∃ r t, post = (41 :: r) :: t ∧ r.length ≤ 100) : nfC (nfSD (WsD (pre ++ post)) p0 pre.length found x3 x4) = .ok false (nfSD (WsD (pre ++ post)) p0 pre.length found x3 x4) := by
  rcases h with rfl | ⟨r, t, rfl, hr⟩
  · have h3 : ¬ (pre.length : Int) < ((WsD (pre ++ [])).length : Int) := by rw [WsD_len, List.append_nil]; omega
    generalize WsD (pre ++ []) = ws at *
    simp [nfC, nfSD, -List.map_map, -List.map_take, -List.map_drop, -List.map_append, -List.map_reverse, asDef, entry, slotsOf, sSeq, sSet, sRet, sIf, sDrop, sNil, sBreak, sCont, sApp, sSetAt, setEnd, sAug, sAsg, sPar, mVar, mSee, mFrz, mTake, mC, mUn, mOp, mNil, mCons, mCall, mCallL, mTup, mLst, mView, mOwn, mFz, mTest, mAnd, mOr, mNot, mIf, mAndV, mOrV, mNotV, mChain, mAt, qSee, qFz, qNew, oNone, oSome, rNil, rSlot, rFz, mCall0, mCall1, oneSlot, noSlot, treesOf, SD.tree, SD.put, SD.putFz, tgN, tgNil, tgCons, tgT, ER.bind, ER.opt, ER.stm, Fl.seq, OT.view, OT.views, OT.items, fzOf, iLst, iTuP, iRange1, iRange2, iZip2, iEnumL, dAdd, dSub, dNeg, dLt, dLe, dGt, dGe, dIsN, dNotN, isNonD, dEq, dNe, eqB_int, eqB_str, eqB_bl, eq_2, eq_3, dLen, dIsi, D.isA, tyName, dMod, dMax, dMin, mAtS, mBm, D.isL, D.isS, h3]
  · have h1 := at_mid pre (41 :: r) t
    have h2 := at_sign 41 r hr
    have h3 : (pre.length : Int) < ((WsD (pre ++ (41 :: r) :: t)).length : Int) := by rw [WsD_len, List.length_append, List.length_cons]; omega
    have lc := lit_close
    generalize WsD (pre ++ (41 :: r) :: t) = ws at *
    simp [nfC, nfSD, -List.map_map, -List.map_take, -List.map_drop, -List.map_append, -List.map_reverse, asDef, entry, slotsOf, sSeq, sSet, sRet, sIf, sDrop, sNil, sBreak, sCont, sApp, sSetAt, setEnd, sAug, sAsg, sPar, mVar, mSee, mFrz, mTake, mC, mUn, mOp, mNil, mCons, mCall, mCallL, mTup, mLst, mView, mOwn, mFz, mTest, mAnd, mOr, mNot, mIf, mAndV, mOrV, mNotV, mChain, mAt, qSee, qFz, qNew, oNone, oSome, rNil, rSlot, rFz, mCall0, mCall1, oneSlot, noSlot, treesOf, SD.tree, SD.put, SD.putFz, tgN, tgNil, tgCons, tgT, ER.bind, ER.opt, ER.stm, Fl.seq, OT.view, OT.views, OT.items, fzOf, iLst, iTuP, iRange1, iRange2, iZip2, iEnumL, dAdd, dSub, dNeg, dLt, dLe, dGt, dGe, dIsN, dNotN, isNonD, dEq, dNe, eqB_int, eqB_str, eqB_bl, eq_2, eq_3, dLen, dIsi, D.isA, tyName, dMod, dMax, dMin, mAtS, mBm, D.isL, D.isS, h1, h2, h3, lc, W_iff]
theorem nf_st (cs : Nat → Addr) (rec : List OT → ER OT) {pre post : List (List Nat)} {c n p0 : Nat} {found : List D} {x3 x4 : S} (hc : c ∈ letters) (h1 : 1 ≤ n) (h2 : n ≤ 1000000000000000000000000000000) (hf : found.length ≤ 2000) :
    ∃ y3 y4, m_nodes_from_b1 cs rec (nfSD (WsD (pre ++ lw c n :: post)) p0 pre.length found x3 x4) = .nx (nfSD (WsD (pre ++ lw c n :: post)) p0 (pre.length + 1) (found ++ [enc (.st c n)]) y3 y4) := by
  have g1 := at_mid pre (lw c n) post
  have g2 : dIx (.str (W (lw c n))) (.int 0) = some (.str (W [c])) := at_sign c _ (by have := lw_len h2; omega)
  have lo := lit_open
  have hl : (W (lw c n)).length ≤ 16777216 := by
    have := lw_len h2
    rw [W_len]; unfold lw; rw [List.length_cons]; omega
  have dl : dLen [.str (W (lw c n))] = some (.int (lw c n).length) := by
    show (if (W (lw c n)).length ≤ 16777216 then some (D.int (W (lw c n)).length) else none) = _
    rw [if_pos hl, W_len]
  have ht : cutS (W (lw c n)) (some 1) none = W (if n = 1 then [] else TL.numL n) := by rw [W_tail]; rfl
  have ne : ¬ lw c n = [40] := fun z => by
    unfold lw at z
    injection z with z1 z3
    exact (letter_ne hc).1 z1
  have hi := lw_int h2
  have hfl : found.length < 16777216 := by omega
  have hw : 1 < (lw c n).length ↔ n ≠ 1 := by
    unfold lw
    by_cases e : n = 1
    · rw [if_pos e]; simp [e]
    · rw [if_neg e]
      obtain ⟨d, r, z, _⟩ := num_head n
      rw [z]; simp [e]
  have hp : ((pre.length : Int) + 1) = ((pre.length + 1 : Nat) : Int) := by omega
  refine ⟨.ow (.fz (.str (W (lw c n)))), x4, ?_⟩
  rw [enc]
  generalize WsD (pre ++ lw c n :: post) = ws at *
  generalize hww : lw c n = w at *
  generalize pre.length = p at *
  have s2 : m_nodes_from_2 cs rec (nfSD ws p0 p found x3 x4) = .nx (nfSD ws p0 p found (.ow (.fz (.str (W w)))) x4) := by
    simp [m_nodes_from_2, nfSD, -List.map_map, -List.map_take, -List.map_drop, -List.map_append, -List.map_reverse, asDef, entry, slotsOf, sSeq, sSet, sRet, sIf, sDrop, sNil, sBreak, sCont, sApp, sSetAt, setEnd, sAug, sAsg, sPar, mVar, mSee, mFrz, mTake, mC, mUn, mOp, mNil, mCons, mCall, mCallL, mTup, mLst, mView, mOwn, mFz, mTest, mAnd, mOr, mNot, mIf, mAndV, mOrV, mNotV, mChain, mAt, qSee, qFz, qNew, oNone, oSome, rNil, rSlot, rFz, mCall0, mCall1, oneSlot, noSlot, treesOf, SD.tree, SD.put, SD.putFz, tgN, tgNil, tgCons, tgT, ER.bind, ER.opt, ER.stm, Fl.seq, OT.view, OT.views, OT.items, fzOf, iLst, iTuP, iRange1, iRange2, iZip2, iEnumL, dAdd, dSub, dNeg, dLt, dLe, dGt, dGe, dIsN, dNotN, isNonD, dEq, dNe, eqB_int, eqB_str, eqB_bl, eq_2, eq_3, dLen, dIsi, D.isA, tyName, dMod, dMax, dMin, mAtS, mBm, D.isL, D.isS, g1]
  have s7 : m_nodes_from_7 cs rec (nfSD ws p0 p (found ++ [.tup [.str (W [c]), .int n]]) (.ow (.fz (.str (W w)))) x4) = .nx (nfSD ws p0 (p + 1) (found ++ [.tup [.str (W [c]), .int n]]) (.ow (.fz (.str (W w)))) x4) := by
    simp [m_nodes_from_7, nfSD, -List.map_map, -List.map_take, -List.map_drop, -List.map_append, -List.map_reverse, asDef, entry, slotsOf, sSeq, sSet, sRet, sIf, sDrop, sNil, sBreak, sCont, sApp, sSetAt, setEnd, sAug, sAsg, sPar, mVar, mSee, mFrz, mTake, mC, mUn, mOp, mNil, mCons, mCall, mCallL, mTup, mLst, mView, mOwn, mFz, mTest, mAnd, mOr, mNot, mIf, mAndV, mOrV, mNotV, mChain, mAt, qSee, qFz, qNew, oNone, oSome, rNil, rSlot, rFz, mCall0, mCall1, oneSlot, noSlot, treesOf, SD.tree, SD.put, SD.putFz, tgN, tgNil, tgCons, tgT, ER.bind, ER.opt, ER.stm, Fl.seq, OT.view, OT.views, OT.items, fzOf, iLst, iTuP, iRange1, iRange2, iZip2, iEnumL, dAdd, dSub, dNeg, dLt, dLe, dGt, dGe, dIsN, dNotN, isNonD, dEq, dNe, eqB_int, eqB_str, eqB_bl, eq_2, eq_3, dLen, dIsi, D.isA, tyName, dMod, dMax, dMin, mAtS, mBm, D.isL, D.isS]
  have s6 : m_nodes_from_6 cs rec (nfSD ws p0 p found (.ow (.fz (.str (W w)))) x4) = .nx (nfSD ws p0 p (found ++ [.tup [.str (W [c]), .int n]]) (.ow (.fz (.str (W w)))) x4) := by
    by_cases e : n = 1
    · have z : ¬ (1 : Int) < (w.length : Int) := fun z => (hw.mp (by omega)) e
      simp [m_nodes_from_6, m_nodes_from_5, nfSD, -List.map_map, -List.map_take, -List.map_drop, -List.map_append, -List.map_reverse, asDef, entry, slotsOf, sSeq, sSet, sRet, sIf, sDrop, sNil, sBreak, sCont, sApp, sSetAt, setEnd, sAug, sAsg, sPar, mVar, mSee, mFrz, mTake, mC, mUn, mOp, mNil, mCons, mCall, mCallL, mTup, mLst, mView, mOwn, mFz, mTest, mAnd, mOr, mNot, mIf, mAndV, mOrV, mNotV, mChain, mAt, qSee, qFz, qNew, oNone, oSome, rNil, rSlot, rFz, mCall0, mCall1, oneSlot, noSlot, treesOf, SD.tree, SD.put, SD.putFz, tgN, tgNil, tgCons, tgT, ER.bind, ER.opt, ER.stm, Fl.seq, OT.view, OT.views, OT.items, fzOf, iLst, iTuP, iRange1, iRange2, iZip2, iEnumL, dAdd, dSub, dNeg, dLt, dLe, dGt, dGe, dIsN, dNotN, isNonD, dEq, dNe, eqB_int, eqB_str, eqB_bl, eq_2, eq_3, dLen, dIsi, D.isA, tyName, dMod, dMax, dMin, mAtS, mBm, D.isL, D.isS, lo, W_iff, ne, g2, dl, z, -dLen, hfl]
      rw [e, List.map_append]; rfl
    · have z : (1 : Int) < (w.length : Int) := by have := hw.mpr e; omega
      rw [if_neg e] at ht
      simp [m_nodes_from_6, m_nodes_from_5, nfSD, -List.map_map, -List.map_take, -List.map_drop, -List.map_append, -List.map_reverse, asDef, entry, slotsOf, sSeq, sSet, sRet, sIf, sDrop, sNil, sBreak, sCont, sApp, sSetAt, setEnd, sAug, sAsg, sPar, mVar, mSee, mFrz, mTake, mC, mUn, mOp, mNil, mCons, mCall, mCallL, mTup, mLst, mView, mOwn, mFz, mTest, mAnd, mOr, mNot, mIf, mAndV, mOrV, mNotV, mChain, mAt, qSee, qFz, qNew, oNone, oSome, rNil, rSlot, rFz, mCall0, mCall1, oneSlot, noSlot, treesOf, SD.tree, SD.put, SD.putFz, tgN, tgNil, tgCons, tgT, ER.bind, ER.opt, ER.stm, Fl.seq, OT.view, OT.views, OT.items, fzOf, iLst, iTuP, iRange1, iRange2, iZip2, iEnumL, dAdd, dSub, dNeg, dLt, dLe, dGt, dGe, dIsN, dNotN, isNonD, dEq, dNe, eqB_int, eqB_str, eqB_bl, eq_2, eq_3, dLen, dIsi, D.isA, tyName, dMod, dMax, dMin, mAtS, mBm, D.isL, D.isS, mCutX, lo, W_iff, ne, g2, dl, z, -dLen, hfl, ht, hl, hi, -dInt2]
      rw [List.map_append]; rfl
  simp only [m_nodes_from_b1, sSeq, s2, s6, s7, Fl.seq]
theorem nf_rp (cs : Nat → Addr) (rec : List OT → ER OT) {pre post : List (List Nat)} {n p0 q : Nat} {body : D} {found : List D} {x3 x4 : S} {mid : List (List Nat)} {sd : SD} (h2 : n ≤ 1000000000000000000000000000000) (hf : found.length ≤ 2000) (hq : q = (pre ++ [40] :: mid).length)
    (hr : rec [.fz (.lst (WsD (pre ++ [40] :: (mid ++ (41 :: TL.numL n) :: post)))), .fz (.int (pre.length + 1 : Nat))] = .ok (.fz (.tup [body, .int q])) sd) :
    ∃ y3 y4, m_nodes_from_b1 cs rec (nfSD (WsD (pre ++ [40] :: (mid ++ (41 :: TL.numL n) :: post))) p0 pre.length found x3 x4) = .nx (nfSD (WsD (pre ++ [40] :: (mid ++ (41 :: TL.numL n) :: post))) p0 (q + 1) (found ++ [.tup [body, .int n]]) y3 y4) := by
  have g1 := at_mid pre [40] (mid ++ (41 :: TL.numL n) :: post)
  have g2 := at_mid (pre ++ [40] :: mid) (41 :: TL.numL n) post
  rw [← hq] at g2
  rw [show (pre ++ [40] :: mid) ++ (41 :: TL.numL n) :: post = pre ++ [40] :: (mid ++ (41 :: TL.numL n) :: post) by simp] at g2
  have lo := lit_open
  have hl : (W (41 :: TL.numL n)).length ≤ 16777216 := by
    have hl := TL.numL_len (n := n) (k := 31) (by decide) (by omega)
    rw [W_len, List.length_cons]; omega
  have ht : cutS (W (41 :: TL.numL n)) (some 1) none = W (TL.numL n) := by rw [W_tail]; rfl
  have hi := lw_int h2
  have hfl : found.length < 16777216 := by omega
  refine ⟨.ow (.fz (.str (W [40]))), .ow (.fz body), ?_⟩
  have hp : ((pre.length + 1 : Nat) : Int) = (pre.length : Int) + 1 := by omega
  rw [hp] at hr
  generalize WsD (pre ++ [40] :: (mid ++ (41 :: TL.numL n) :: post)) = ws at *
  clear hq
  generalize pre.length = p at *
  have s2 : m_nodes_from_2 cs rec (nfSD ws p0 p found x3 x4) = .nx (nfSD ws p0 p found (.ow (.fz (.str (W [40])))) x4) := by
    simp [m_nodes_from_2, nfSD, -List.map_map, -List.map_take, -List.map_drop, -List.map_append, -List.map_reverse, asDef, entry, slotsOf, sSeq, sSet, sRet, sIf, sDrop, sNil, sBreak, sCont, sApp, sSetAt, setEnd, sAug, sAsg, sPar, mVar, mSee, mFrz, mTake, mC, mUn, mOp, mNil, mCons, mCall, mCallL, mTup, mLst, mView, mOwn, mFz, mTest, mAnd, mOr, mNot, mIf, mAndV, mOrV, mNotV, mChain, mAt, qSee, qFz, qNew, oNone, oSome, rNil, rSlot, rFz, mCall0, mCall1, oneSlot, noSlot, treesOf, SD.tree, SD.put, SD.putFz, tgN, tgNil, tgCons, tgT, ER.bind, ER.opt, ER.stm, Fl.seq, OT.view, OT.views, OT.items, fzOf, iLst, iTuP, iRange1, iRange2, iZip2, iEnumL, dAdd, dSub, dNeg, dLt, dLe, dGt, dGe, dIsN, dNotN, isNonD, dEq, dNe, eqB_int, eqB_str, eqB_bl, eq_2, eq_3, dLen, dIsi, D.isA, tyName, dMod, dMax, dMin, mAtS, mBm, D.isL, D.isS, g1]
  have s3 : m_nodes_from_3 cs rec (nfSD ws p0 p found (.ow (.fz (.str (W [40])))) x4) = .nx (nfSD ws p0 q found (.ow (.fz (.str (W [40])))) (.ow (.fz body))) := by
    simp [m_nodes_from_3, nfSD, -List.map_map, -List.map_take, -List.map_drop, -List.map_append, -List.map_reverse, asDef, entry, slotsOf, sSeq, sSet, sRet, sIf, sDrop, sNil, sBreak, sCont, sApp, sSetAt, setEnd, sAug, sAsg, sPar, mVar, mSee, mFrz, mTake, mC, mUn, mOp, mNil, mCons, mCall, mCallL, mTup, mLst, mView, mOwn, mFz, mTest, mAnd, mOr, mNot, mIf, mAndV, mOrV, mNotV, mChain, mAt, qSee, qFz, qNew, oNone, oSome, rNil, rSlot, rFz, mCall0, mCall1, oneSlot, noSlot, treesOf, SD.tree, SD.put, SD.putFz, tgN, tgNil, tgCons, tgT, ER.bind, ER.opt, ER.stm, Fl.seq, OT.view, OT.views, OT.items, fzOf, iLst, iTuP, iRange1, iRange2, iZip2, iEnumL, dAdd, dSub, dNeg, dLt, dLe, dGt, dGe, dIsN, dNotN, isNonD, dEq, dNe, eqB_int, eqB_str, eqB_bl, eq_2, eq_3, dLen, dIsi, D.isA, tyName, dMod, dMax, dMin, mAtS, mBm, D.isL, D.isS, hr]
  have s4 : m_nodes_from_4 cs rec (nfSD ws p0 q found (.ow (.fz (.str (W [40])))) (.ow (.fz body))) = .nx (nfSD ws p0 q (found ++ [.tup [body, .int n]]) (.ow (.fz (.str (W [40])))) (.ow (.fz body))) := by
    simp [m_nodes_from_4, nfSD, -List.map_map, -List.map_take, -List.map_drop, -List.map_append, -List.map_reverse, asDef, entry, slotsOf, sSeq, sSet, sRet, sIf, sDrop, sNil, sBreak, sCont, sApp, sSetAt, setEnd, sAug, sAsg, sPar, mVar, mSee, mFrz, mTake, mC, mUn, mOp, mNil, mCons, mCall, mCallL, mTup, mLst, mView, mOwn, mFz, mTest, mAnd, mOr, mNot, mIf, mAndV, mOrV, mNotV, mChain, mAt, qSee, qFz, qNew, oNone, oSome, rNil, rSlot, rFz, mCall0, mCall1, oneSlot, noSlot, treesOf, SD.tree, SD.put, SD.putFz, tgN, tgNil, tgCons, tgT, ER.bind, ER.opt, ER.stm, Fl.seq, OT.view, OT.views, OT.items, fzOf, iLst, iTuP, iRange1, iRange2, iZip2, iEnumL, dAdd, dSub, dNeg, dLt, dLe, dGt, dGe, dIsN, dNotN, isNonD, dEq, dNe, eqB_int, eqB_str, eqB_bl, eq_2, eq_3, dLen, dIsi, D.isA, tyName, dMod, dMax, dMin, mAtS, mBm, D.isL, D.isS, mCutX, g2, ht, hl, hi, -dInt2, hfl]
    rw [List.map_append]; rfl
  have s6 : m_nodes_from_6 cs rec (nfSD ws p0 p found (.ow (.fz (.str (W [40])))) x4) = .nx (nfSD ws p0 q (found ++ [.tup [body, .int n]]) (.ow (.fz (.str (W [40])))) (.ow (.fz body))) := by
    have t6 : mTest (mOp dEq (mVar 3) (mC (.str "("))) (nfSD ws p0 p found (.ow (.fz (.str (W [40])))) x4) = .ok true (nfSD ws p0 p found (.ow (.fz (.str (W [40])))) x4) := by
      simp [nfSD, -List.map_map, -List.map_take, -List.map_drop, -List.map_append, -List.map_reverse, asDef, entry, slotsOf, sSeq, sSet, sRet, sIf, sDrop, sNil, sBreak, sCont, sApp, sSetAt, setEnd, sAug, sAsg, sPar, mVar, mSee, mFrz, mTake, mC, mUn, mOp, mNil, mCons, mCall, mCallL, mTup, mLst, mView, mOwn, mFz, mTest, mAnd, mOr, mNot, mIf, mAndV, mOrV, mNotV, mChain, mAt, qSee, qFz, qNew, oNone, oSome, rNil, rSlot, rFz, mCall0, mCall1, oneSlot, noSlot, treesOf, SD.tree, SD.put, SD.putFz, tgN, tgNil, tgCons, tgT, ER.bind, ER.opt, ER.stm, Fl.seq, OT.view, OT.views, OT.items, fzOf, iLst, iTuP, iRange1, iRange2, iZip2, iEnumL, dAdd, dSub, dNeg, dLt, dLe, dGt, dGe, dIsN, dNotN, isNonD, dEq, dNe, eqB_int, eqB_str, eqB_bl, eq_2, eq_3, dLen, dIsi, D.isA, tyName, dMod, dMax, dMin, mAtS, mBm, D.isL, D.isS, lo]
    simp only [m_nodes_from_6, sIf, t6, ER.stm, if_true, sSeq, s3, s4, Fl.seq]
  have s7 : m_nodes_from_7 cs rec (nfSD ws p0 q (found ++ [.tup [body, .int n]]) (.ow (.fz (.str (W [40])))) (.ow (.fz body))) = .nx (nfSD ws p0 (q + 1) (found ++ [.tup [body, .int n]]) (.ow (.fz (.str (W [40])))) (.ow (.fz body))) := by
    simp [m_nodes_from_7, nfSD, -List.map_map, -List.map_take, -List.map_drop, -List.map_append, -List.map_reverse, asDef, entry, slotsOf, sSeq, sSet, sRet, sIf, sDrop, sNil, sBreak, sCont, sApp, sSetAt, setEnd, sAug, sAsg, sPar, mVar, mSee, mFrz, mTake, mC, mUn, mOp, mNil, mCons, mCall, mCallL, mTup, mLst, mView, mOwn, mFz, mTest, mAnd, mOr, mNot, mIf, mAndV, mOrV, mNotV, mChain, mAt, qSee, qFz, qNew, oNone, oSome, rNil, rSlot, rFz, mCall0, mCall1, oneSlot, noSlot, treesOf, SD.tree, SD.put, SD.putFz, tgN, tgNil, tgCons, tgT, ER.bind, ER.opt, ER.stm, Fl.seq, OT.view, OT.views, OT.items, fzOf, iLst, iTuP, iRange1, iRange2, iZip2, iEnumL, dAdd, dSub, dNeg, dLt, dLe, dGt, dGe, dIsN, dNotN, isNonD, dEq, dNe, eqB_int, eqB_str, eqB_bl, eq_2, eq_3, dLen, dIsi, D.isA, tyName, dMod, dMax, dMin, mAtS, mBm, D.isL, D.isS]
  simp only [m_nodes_from_b1, sSeq, s2, s6, s7, Fl.seq]
theorem nf_loop (cs : Nat → Addr) (f : Nat) (ih : ∀ (pre post : List (List Nat)) (l : List Nd), noks l → ndps l < f → (wds l).length ≤ 1000 → (post = [] ∨ ∃ r t, post = (41 :: r) :: t ∧ r.length ≤ 100) → ∃ sd, m_nodes_from cs f [.fz (.lst (WsD (pre ++ (wds l ++ post)))), .fz (.int pre.length)] = .ok (.fz (.tup [.tup (encs l), .int ((pre ++ wds l).length : Nat)])) sd) :
    ∀ (l : List Nd) (pre post : List (List Nat)) (p0 : Nat) (found : List D) (x3 x4 : S), noks l → ndps l < f + 1 → (wds l).length ≤ 1000 → found.length + l.length ≤ 1500 → (post = [] ∨ ∃ r t, post = (41 :: r) :: t ∧ r.length ≤ 100) →
      ∃ y3 y4, WGo nfC (m_nodes_from_b1 cs (m_nodes_from cs f)) l.length (nfSD (WsD (pre ++ (wds l ++ post))) p0 pre.length found x3 x4) (nfSD (WsD (pre ++ (wds l ++ post))) p0 (pre ++ wds l).length (found ++ encs l) y3 y4)
  | [], pre, post, p0, found, x3, x4, _, _, _, _, _ => ⟨x3, x4, by
    rw [wds, encs, List.append_nil, List.append_nil]
    exact .nil⟩
  | .st c n :: r, pre, post, p0, found, x3, x4, h, hd, hl, hf, hp => by
    rw [noks, nok] at h
    rw [ndps] at hd
    rw [wds, wd, List.length_append, List.length_singleton] at hl
    rw [List.length_cons] at hf
    obtain ⟨y3, y4, e⟩ := nf_st cs (m_nodes_from cs f) (pre := pre) (post := wds r ++ post) (p0 := p0) (found := found) (x3 := x3) (x4 := x4) h.1.1 h.1.2.1 h.1.2.2 (by omega)
    have hc := nf_cond (pre := pre) (post := wds r ++ post) (c := c) (r := if n = 1 then [] else TL.numL n) (p0 := p0) (found := found) (x3 := x3) (x4 := x4) (letter_ne h.1.1).2 (by have := lw_len h.1.2.2; omega)
    obtain ⟨z3, z4, g⟩ := nf_loop cs f ih r (pre ++ [lw c n]) post p0 (found ++ [enc (.st c n)]) y3 y4 h.2 (by omega) (by omega) (by rw [List.length_append, List.length_singleton]; omega) hp
    refine ⟨z3, z4, ?_⟩
    have e1 : pre ++ (wds (.st c n :: r) ++ post) = pre ++ lw c n :: (wds r ++ post) := by rw [wds, wd]; simp
    have e2 : (pre ++ [lw c n]) ++ (wds r ++ post) = pre ++ lw c n :: (wds r ++ post) := by simp
    have e3 : (pre ++ [lw c n]) ++ wds r = pre ++ wds (.st c n :: r) := by rw [wds, wd]; simp
    have e4 : (pre ++ [lw c n]).length = pre.length + 1 := by simp
    rw [e2, e3, e4, List.append_assoc] at g
    rw [e1, encs]
    exact (WGo.one hc e).app g
  | .rp b n :: r, pre, post, p0, found, x3, x4, h, hd, hl, hf, hp => by
    rw [noks, nok] at h
    rw [ndps, ndp] at hd
    rw [wds, wd, List.length_append, List.length_cons, List.length_append, List.length_singleton] at hl
    rw [List.length_cons] at hf
    have e1 : pre ++ (wds (.rp b n :: r) ++ post) = pre ++ [40] :: (wds b ++ (41 :: TL.numL n) :: (wds r ++ post)) := by rw [wds, wd]; simp
    have nl : (TL.numL n).length ≤ 100 := by
      have hl := TL.numL_len (n := n) (k := 31) (by decide) (by omega)
      omega
    obtain ⟨sd, hr⟩ := ih (pre ++ [[40]]) ((41 :: TL.numL n) :: (wds r ++ post)) b h.1.2.2.2 (by omega) (by omega) (.inr ⟨_, _, rfl, nl⟩)
    have e2 : (pre ++ [[40]]) ++ (wds b ++ (41 :: TL.numL n) :: (wds r ++ post)) = pre ++ [40] :: (wds b ++ (41 :: TL.numL n) :: (wds r ++ post)) := by simp
    have e3 : (pre ++ [[40]]).length = pre.length + 1 := by simp
    have e4 : (pre ++ [[40]]) ++ wds b = pre ++ [40] :: wds b := by simp
    rw [e2, e3, e4] at hr
    obtain ⟨y3, y4, e⟩ := nf_rp cs (m_nodes_from cs f) (pre := pre) (post := wds r ++ post) (p0 := p0) (mid := wds b) (found := found) (x3 := x3) (x4 := x4) h.1.2.2.1 (by omega) rfl hr
    have hc := nf_cond (pre := pre) (post := wds b ++ (41 :: TL.numL n) :: (wds r ++ post)) (c := 40) (r := []) (p0 := p0) (found := found) (x3 := x3) (x4 := x4) (by decide) (by simp)
    obtain ⟨z3, z4, g⟩ := nf_loop cs f ih r (pre ++ wd (.rp b n)) post p0 (found ++ [enc (.rp b n)]) y3 y4 h.2 (by omega) (by omega) (by rw [List.length_append, List.length_singleton]; omega) hp
    refine ⟨z3, z4, ?_⟩
    have e5 : (pre ++ wd (.rp b n)) ++ (wds r ++ post) = pre ++ [40] :: (wds b ++ (41 :: TL.numL n) :: (wds r ++ post)) := by rw [wd]; simp
    have e6 : (pre ++ wd (.rp b n)) ++ wds r = pre ++ wds (.rp b n :: r) := by rw [wds]; simp
    have e7 : (pre ++ wd (.rp b n)).length = (pre ++ [40] :: wds b).length + 1 := by rw [wd]; simp; omega
    rw [e5, e6, e7, List.append_assoc] at g
    rw [e1, encs]
    rw [enc] at g ⊢
    exact (WGo.one hc e).app g
theorem nodes_from_ok (cs : Nat → Addr) : ∀ (f : Nat) (pre post : List (List Nat)) (l : List Nd), noks l → ndps l < f → (wds l).length ≤ 1000 → (post = [] ∨ ∃ r t, post = (41 :: r) :: t ∧ r.length ≤ 100) → ∃ sd, m_nodes_from cs f [.fz (.lst (WsD (pre ++ (wds l ++ post)))), .fz (.int pre.length)] = .ok (.fz (.tup [.tup (encs l), .int ((pre ++ wds l).length : Nat)])) sd
  | 0, pre, post, l, _, hd, _, _ => by omega
  | f + 1, pre, post, l, h, hd, hl, hp => by
    have hll := len_wds l
    obtain ⟨y3, y4, g⟩ := nf_loop cs f (nodes_from_ok cs f) l pre post pre.length [] .un .un h hd hl (by rw [List.length_nil]; omega) hp
    rw [List.nil_append] at g
    have st := nf_stop (pre := pre ++ wds l) (post := post) (p0 := pre.length) (found := encs l) (x3 := y3) (x4 := y4) hp
    rw [List.append_assoc] at st
    generalize WsD (pre ++ (wds l ++ post)) = ws at *
    have s1 : m_nodes_from_1 cs (m_nodes_from cs f) ⟨[.ow (.fz (.lst ws)), .ow (.fz (.int pre.length)), .un, .un, .un], [.fz (.lst ws), .fz (.int pre.length)]⟩ = .nx (nfSD ws pre.length pre.length [] .un .un) := rfl
    have s8 : m_nodes_from_8 cs (m_nodes_from cs f) (nfSD ws pre.length pre.length [] .un .un) = .nx (nfSD ws pre.length (pre ++ wds l).length (encs l) y3 y4) := by
      show goWhile nfC (m_nodes_from_b1 cs (m_nodes_from cs f)) 100000 _ = _
      have := g (100000 - l.length)
      rw [show 100000 - l.length + l.length = 100000 by omega] at this
      rw [this, show 100000 - l.length = (99999 - l.length) + 1 by omega]
      show (nfC (nfSD ws pre.length (pre ++ wds l).length (encs l) y3 y4)).stm _ = _
      rw [st]
      rfl
    have v9 : OT.views ((encs l).map .fz) = encs l := views_fz _
    have s9 : m_nodes_from_9 cs (m_nodes_from cs f) (nfSD ws pre.length (pre ++ wds l).length (encs l) y3 y4) = .rt (.fz (.tup [.tup (encs l), .int ((pre ++ wds l).length : Nat)])) ⟨[.ow (.fz (.lst ws)), .ow (.fz (.int (pre ++ wds l).length)), .ow (.fz (.lst (encs l))), y3, y4], [.fz (.lst ws), .fz (.int pre.length)]⟩ := by
      simp [m_nodes_from_9, nfSD, -List.map_map, -List.map_take, -List.map_drop, -List.map_append, -List.map_reverse, asDef, entry, slotsOf, sSeq, sSet, sRet, sIf, sDrop, sNil, sBreak, sCont, sApp, sSetAt, setEnd, sAug, sAsg, sPar, mVar, mSee, mFrz, mTake, mC, mUn, mOp, mNil, mCons, mCall, mCallL, mTup, mLst, mView, mOwn, mFz, mTest, mAnd, mOr, mNot, mIf, mAndV, mOrV, mNotV, mChain, mAt, qSee, qFz, qNew, oNone, oSome, rNil, rSlot, rFz, mCall0, mCall1, oneSlot, noSlot, treesOf, SD.tree, SD.put, SD.putFz, tgN, tgNil, tgCons, tgT, ER.bind, ER.opt, ER.stm, Fl.seq, OT.view, OT.views, OT.items, fzOf, iLst, iTuP, iRange1, iRange2, iZip2, iEnumL, dAdd, dSub, dNeg, dLt, dLe, dGt, dGe, dIsN, dNotN, isNonD, dEq, dNe, eqB_int, eqB_str, eqB_bl, eq_2, eq_3, dLen, dIsi, D.isA, tyName, dMod, dMax, dMin, mAtS, mBm, D.isL, D.isS, mFrz, mCallT, dTupOf, v9]
    have ent : entry 5 [.fz (.lst ws), .fz (.int pre.length)] = ⟨[.ow (.fz (.lst ws)), .ow (.fz (.int pre.length)), .un, .un, .un], [.fz (.lst ws), .fz (.int pre.length)]⟩ := rfl
    refine ⟨⟨[], [.fz (.lst ws), .fz (.int pre.length)]⟩, ?_⟩
    show m_nodes_from_r cs (m_nodes_from cs f) _ = _
    simp only [m_nodes_from_r, asDef, ent, sSeq, s1, s8, s9, Fl.seq]
theorem nodes_in_ok (cs : Nat → Addr) {l : List Nd} (h : noks l) (hd : ndps l ≤ 12) (hl : (wds l).length ≤ 1000) : m_nodes_in cs [.fz (.lst (WsD (wds l)))] = .ok (.fz (.tup (encs l))) ⟨[], [.fz (.lst (WsD (wds l)))]⟩ := by
  obtain ⟨sd, e⟩ := nodes_from_ok cs 16 [] [] l h (by omega) hl (.inl rfl)
  rw [List.nil_append, List.append_nil, List.nil_append, List.length_nil] at e
  have e : m_nodes_from cs 16 [.fz (.lst (WsD (wds l))), .fz (.int 0)] = .ok (.fz (.tup [.tup (encs l), .int ((wds l).length : Nat)])) sd := e
  generalize WsD (wds l) = ws at *
  simp [m_nodes_in, m_nodes_in_1, -List.map_map, -List.map_take, -List.map_drop, -List.map_append, -List.map_reverse, asDef, entry, slotsOf, sSeq, sSet, sRet, sIf, sDrop, sNil, sBreak, sCont, sApp, sSetAt, setEnd, sAug, sAsg, sPar, mVar, mSee, mFrz, mTake, mC, mUn, mOp, mNil, mCons, mCall, mCallL, mTup, mLst, mView, mOwn, mFz, mTest, mAnd, mOr, mNot, mIf, mAndV, mOrV, mNotV, mChain, mAt, qSee, qFz, qNew, oNone, oSome, rNil, rSlot, rFz, mCall0, mCall1, oneSlot, noSlot, treesOf, SD.tree, SD.put, SD.putFz, tgN, tgNil, tgCons, tgT, ER.bind, ER.opt, ER.stm, Fl.seq, OT.view, OT.views, OT.items, fzOf, iLst, iTuP, iRange1, iRange2, iZip2, iEnumL, dIx, atI, ixN, dAdd, dSub, dNeg, dLt, dLe, dGt, dGe, dIsN, dNotN, isNonD, dEq, dNe, eqB_int, eqB_str, eqB_bl, eq_2, eq_3, dLen, dIsi, D.isA, tyName, dMod, dMax, dMin, mAtS, mBm, D.isL, D.isS, e]
theorem log2_lt {n k : Nat} (h : n < 2 ^ k) : n.log2 < k + 1 := by
  by_cases e : n = 0
  · subst e; rw [Nat.log2_zero]; omega
  · have := (Nat.log2_lt e).mpr h; omega
theorem mul_ok {i j : Int} {a b : Nat} (hi : i.natAbs < 2 ^ a) (hj : j.natAbs < 2 ^ b) (h : a + b + 1 < 1000000) : dMul (.int i) (.int j) = some (.int (i * j)) := by
  have h1 := log2_lt hi
  have h2 := log2_lt hj
  show (if i.natAbs.log2 + j.natAbs.log2 < 1000000 then some (D.int (i * j)) else none) = _
  rw [if_pos (by omega)]
theorem bits_lt {i : Int} {a : Nat} (hi : i.natAbs < 2 ^ a) : Builtin.Int.intBits i ≤ a + 1 := by
  unfold Builtin.Int.intBits
  have h1 := log2_lt hi
  by_cases e : (i == 0) = true
  · rw [if_pos e]; omega
  · rw [if_neg e]; omega
theorem pow_ok {i : Int} {k a : Nat} (hi : i.natAbs < 2 ^ a) (h : (a + 1) * k ≤ 134217728) : dPow (.int i) (.int k) = some (.int (i ^ k)) := by
  have h1 := bits_lt hi
  have h2 : Builtin.Int.intBits i * k ≤ (a + 1) * k := Nat.mul_le_mul_right k h1
  show (if (0 : Int) ≤ (k : Int) ∧ (Builtin.Int.intBits i : Int) * (k : Int) ≤ 134217728 then some (D.int (i ^ (k : Int).toNat)) else none) = _
  rw [if_pos ⟨Int.natCast_nonneg k, by rw [← Int.natCast_mul]; omega⟩]
  rfl
theorem div_ok {i j : Int} {a : Nat} (hj : j.natAbs < 2 ^ a) (h0 : j ≠ 0) (h : a < 8999) : dDiv (.int i) (.int j) = some (.int (i.fdiv j)) := by
  have h1 := log2_lt hj
  show (if j ≠ 0 ∧ j.natAbs.log2 < 9000 then some (D.int (i.fdiv j)) else none) = _
  rw [if_pos ⟨h0, by omega⟩]
/-- a tank after at most n turns of its wheel -/
theorem p10 {k : Nat} {m : Int} (h : (10 : Int) ^ k = m) (hk : 5 * k ≤ 134217728 := by decide) : dPow (.int 10) (.int k) = some (.int m) := by
  rw [pow_ok (a := 4) (by decide) (by omega), h]
theorem isi_str (c : Nat) : dIsi [.str (W [c]), .ty "str"] = some (.bl true) := rfl
theorem isi_tup (ds : List D) : dIsi [.tup ds, .ty "str"] = some (.bl false) := rfl
noncomputable def liSD (ns : D) (f : Int) (x2 x3 : S) : SD := ⟨[.ow (.fz ns), .ow (.fz (.int f)), x2, x3], [.fz ns]⟩
theorem pow_wide {k : Nat} (h : k ≤ 400000) {n : Nat} (hn : n ≤ 2 ^ k) : ((n : Int)).natAbs < 2 ^ (k + 1) := by
  rw [Int.natAbs_natCast]
  have : 2 ^ k < 2 ^ (k + 1) := Nat.pow_lt_pow_right (by decide) (by omega)
  omega
theorem e30_lt {n : Nat} (h : n ≤ 1000000000000000000000000000000) : n ≤ 2 ^ 100 := by
  have : (2 : Nat) ^ 100 = 1267650600228229401496703205376 := by decide
  omega
theorem length_ok (cs : Nat → Addr) : ∀ (f : Nat) (l : List Nd), noks l → ndps l < f → (wds l).length ≤ 1000 → m_length_in cs f [.fz (.tup (encs l))] = .ok (.fz (.int (nlens l))) ⟨[], [.fz (.tup (encs l))]⟩
  | 0, l, _, hd, _ => by omega
  | f + 1, l, h, hd, hl => by
    have step : ∀ (r : List Nd) (ns : D) (a : Nat) (x2 x3 : S), noks r → ndps r < f + 1 → (wds r).length ≤ 1000 → ∃ y2 y3, Runs (tgT 2 (tgCons (tgN 2) (tgCons (tgN 3) (tgNil)))) (m_length_in_b1 cs (m_length_in cs f)) (encs r) (liSD ns a x2 x3) (liSD ns ((a + nlens r : Nat) : Int) y2 y3) := fun r => by
      induction r with
      | nil => exact fun ns a x2 x3 _ _ _ => ⟨x2, x3, by rw [nlens, encs, Nat.add_zero]; exact .nil⟩
      | cons x r ihr =>
        intro ns a x2 x3 h hd hl
        rw [noks] at h
        rw [ndps] at hd
        rw [wds, List.length_append] at hl
        cases x with
        | st c n =>
          rw [nok] at h
          have mu : dMul (.int n) (.int 1) = some (.int (n * 1)) := mul_ok (a := 101) (b := 10) (pow_wide (k := 100) (by decide) (e30_lt (by omega))) (by decide) (by decide)
          obtain ⟨z2, z3, g⟩ := ihr ns (a + n) (.ow (.fz (.str (W [c])))) (.ow (.fz (.int n))) h.2 (by omega) (by omega)
          refine ⟨z2, z3, ?_⟩
          rw [encs, enc, nlens, nlen, ← Nat.add_assoc]
          refine Runs.app (xs := [_]) (.one (a1 := liSD ns a (.ow (.fz (.str (W [c])))) (.ow (.fz (.int n)))) rfl ?_) g
          simp [m_length_in_b1, m_length_in_2, liSD, -List.map_map, -List.map_take, -List.map_drop, -List.map_append, -List.map_reverse, asDef, entry, slotsOf, sSeq, sSet, sRet, sIf, sDrop, sNil, sBreak, sCont, sApp, sSetAt, setEnd, sAug, sAsg, sPar, mVar, mSee, mFrz, mTake, mC, mUn, mOp, mNil, mCons, mCall, mCallL, mTup, mLst, mView, mOwn, mFz, mTest, mAnd, mOr, mNot, mIf, mAndV, mOrV, mNotV, mChain, mAt, qSee, qFz, qNew, oNone, oSome, rNil, rSlot, rFz, mCall0, mCall1, oneSlot, noSlot, treesOf, SD.tree, SD.put, SD.putFz, tgN, tgNil, tgCons, tgT, ER.bind, ER.opt, ER.stm, Fl.seq, OT.view, OT.views, OT.items, fzOf, iLst, iTuP, iRange1, iRange2, iZip2, iEnumL, dIx, atI, ixN, dAdd, dSub, dNeg, dLt, dLe, dGt, dGe, dIsN, dNotN, isNonD, dEq, dNe, eqB_int, eqB_str, eqB_bl, eq_2, eq_3, dLen, dIsi, D.isA, tyName, dMod, dMax, dMin, mAtS, mBm, D.isL, D.isS, isi_str, mu, -dIsi]
        | rp b n =>
          rw [nok] at h
          rw [ndp] at hd
          rw [wd, List.length_cons, List.length_append, List.length_singleton] at hl
          have hrec := length_ok cs f b h.1.2.2.2 (by omega) (by omega)
          have hb := nlens_lt b h.1.2.2.2
          have mu : dMul (.int n) (.int (nlens b)) = some (.int (n * nlens b)) := mul_ok (a := 101) (b := 100 * (wds b).length + 1) (pow_wide (k := 100) (by decide) (e30_lt (by omega))) (pow_wide (by omega) hb) (by omega)
          obtain ⟨z2, z3, g⟩ := ihr ns (a + n * nlens b) (.ow (.fz (.tup (encs b)))) (.ow (.fz (.int n))) h.2 (by omega) (by omega)
          refine ⟨z2, z3, ?_⟩
          rw [encs, enc, nlens, nlen, ← Nat.add_assoc]
          refine Runs.app (xs := [_]) (.one (a1 := liSD ns a (.ow (.fz (.tup (encs b)))) (.ow (.fz (.int n)))) rfl ?_) g
          simp [m_length_in_b1, m_length_in_2, liSD, -List.map_map, -List.map_take, -List.map_drop, -List.map_append, -List.map_reverse, asDef, entry, slotsOf, sSeq, sSet, sRet, sIf, sDrop, sNil, sBreak, sCont, sApp, sSetAt, setEnd, sAug, sAsg, sPar, mVar, mSee, mFrz, mTake, mC, mUn, mOp, mNil, mCons, mCall, mCallL, mTup, mLst, mView, mOwn, mFz, mTest, mAnd, mOr, mNot, mIf, mAndV, mOrV, mNotV, mChain, mAt, qSee, qFz, qNew, oNone, oSome, rNil, rSlot, rFz, mCall0, mCall1, oneSlot, noSlot, treesOf, SD.tree, SD.put, SD.putFz, tgN, tgNil, tgCons, tgT, ER.bind, ER.opt, ER.stm, Fl.seq, OT.view, OT.views, OT.items, fzOf, iLst, iTuP, iRange1, iRange2, iZip2, iEnumL, dIx, atI, ixN, dAdd, dSub, dNeg, dLt, dLe, dGt, dGe, dIsN, dNotN, isNonD, dEq, dNe, eqB_int, eqB_str, eqB_bl, eq_2, eq_3, dLen, dIsi, D.isA, tyName, dMod, dMax, dMin, mAtS, mBm, D.isL, D.isS, isi_tup, mu, hrec, -dIsi]
    obtain ⟨y2, y3, g⟩ := step l (.tup (encs l)) 0 .un .un h hd hl
    rw [Nat.zero_add] at g
    have s1 : m_length_in_1 cs (m_length_in cs f) ⟨[.ow (.fz (.tup (encs l))), .un, .un, .un], [.fz (.tup (encs l))]⟩ = .nx (liSD (.tup (encs l)) (0 : Nat) .un .un) := rfl
    have s3 : m_length_in_3 cs (m_length_in cs f) (liSD (.tup (encs l)) (0 : Nat) .un .un) = .nx (liSD (.tup (encs l)) (nlens l) y2 y3) := g.all
    have s4 : m_length_in_4 cs (m_length_in cs f) (liSD (.tup (encs l)) (nlens l) y2 y3) = .rt (.fz (.int (nlens l))) (liSD (.tup (encs l)) (nlens l) y2 y3) := rfl
    have ent : entry 4 [.fz (.tup (encs l))] = ⟨[.ow (.fz (.tup (encs l))), .un, .un, .un], [.fz (.tup (encs l))]⟩ := rfl
    show m_length_in_r cs (m_length_in cs f) _ = _
    simp only [m_length_in_r, asDef, ent, sSeq, s1, s3, s4, Fl.seq]
    rfl
/-- the depths of the repeats -/
noncomputable def bodies : List Nd → List Int
  | [] => []
  | .st _ _ :: r => bodies r
  | .rp b _ :: r => (1 + (ndps b : Int)) :: bodies r
theorem bodies_max : ∀ (l : List Nd) (m : Nat), (bodies l).foldl max (m : Int) = ((max m (ndps l) : Nat) : Int)
  | [], m => by rw [bodies, ndps, Nat.max_zero]; rfl
  | .st _ _ :: r, m => by rw [bodies, ndps, ndp, bodies_max r m, Nat.zero_max]
  | .rp b _ :: r, m => by
    rw [bodies, ndps, ndp, List.foldl_cons]
    rw [show max (m : Int) (1 + (ndps b : Int)) = ((max m (1 + ndps b) : Nat) : Int) by omega, bodies_max r, Nat.max_assoc]
theorem bodies_len : ∀ l : List Nd, (bodies l).length ≤ l.length
  | [] => Nat.le_refl _
  | .st _ _ :: r => by have := bodies_len r; rw [bodies, List.length_cons]; omega
  | .rp b _ :: r => by have := bodies_len r; rw [bodies, List.length_cons, List.length_cons]; omega
noncomputable def isRp : Nd → Bool
  | .st _ _ => false
  | .rp _ _ => true
noncomputable def bodyI : Nd → Int
  | .st _ _ => 0
  | .rp b _ => 1 + (ndps b : Int)
theorem bodies_eq : ∀ l : List Nd, (l.filter isRp).map bodyI = bodies l
  | [] => rfl
  | .st _ _ :: r => by rw [bodies, ← bodies_eq r]; rfl
  | .rp b _ :: r => by rw [bodies, ← bodies_eq r]; rfl
theorem encs_map : ∀ l : List Nd, encs l = l.map enc
  | [] => rfl
  | a :: r => by rw [encs, encs_map r]; rfl
theorem mem_nok {l : List Nd} (h : noks l) {a : Nd} (ha : a ∈ l) : nok a := by
  induction l with
  | nil => cases ha
  | cons b r ih =>
    rw [noks] at h
    rcases List.mem_cons.mp ha with rfl | q
    · exact h.1
    · exact ih h.2 q
theorem mem_ndp {l : List Nd} {a : Nd} (ha : a ∈ l) : ndp a ≤ ndps l := by
  induction l with
  | nil => cases ha
  | cons b r ih =>
    rw [ndps]
    rcases List.mem_cons.mp ha with rfl | q
    · omega
    · have := ih q; omega
theorem mem_wd {l : List Nd} {a : Nd} (ha : a ∈ l) : (wd a).length ≤ (wds l).length := by
  induction l with
  | nil => cases ha
  | cons b r ih =>
    rw [wds, List.length_append]
    rcases List.mem_cons.mp ha with rfl | q
    · omega
    · have := ih q; omega
theorem depth_ok' (cs : Nat → Addr) : ∀ (f : Nat) (l : List Nd), noks l → ndps l < f → (wds l).length ≤ 1000 → m_depth_in cs f [.fz (.tup (encs l))] = .ok (.fz (.int (ndps l))) ⟨[], [.fz (.tup (encs l))]⟩
  | 0, l, _, hd, _ => by omega
  | f + 1, l, h, hd, hl => by
    have hll := len_wds l
    have c1 : m_depth_in_c1 cs (m_depth_in cs f) ⟨[.ow (.fz (.tup (encs l))), .un, .un], [.fz (.tup (encs l))]⟩ = .ok (.ol (((l.filter isRp).map fun a => D.int (bodyI a)).map .fz)) ⟨[.ow (.fz (.tup (encs l))), .un, .un], [.fz (.tup (encs l))]⟩ := by
      refine mComp_of l enc isRp (fun a => D.int (bodyI a)) (by rw [encs_map]; rfl) (by omega) fun a ha => ?_
      have hn := mem_nok h ha
      have hdp := mem_ndp ha
      have hw := mem_wd ha
      cases a with
      | st c n => exact ⟨⟨[.ow (.fz (.tup (encs l))), .ow (.fz (.str (W [c]))), .ow (.fz (.int n))], [.fz (.tup (encs l))]⟩, by rw [enc]; rfl, rfl, rfl, fun z => (by cases z)⟩
      | rp b n =>
        rw [nok] at hn
        rw [ndp] at hdp
        rw [wd, List.length_cons, List.length_append, List.length_singleton] at hw
        have hrec := depth_ok' cs f b hn.2.2.2 (by omega) (by omega)
        refine ⟨⟨[.ow (.fz (.tup (encs l))), .ow (.fz (.tup (encs b))), .ow (.fz (.int n))], [.fz (.tup (encs l))]⟩, by rw [enc]; rfl, rfl, rfl, fun _ => ?_⟩
        simp [mOp, mC, mView, mCall0, mCons, mVar, mNil, ER.bind, ER.opt, hrec, OT.view, dAdd, bodyI]
    have e1 : ((l.filter isRp).map fun a => D.int (bodyI a)) = (bodies l).map D.int := by rw [← bodies_eq, List.map_map]; rfl
    rw [e1] at c1
    have v1 : OT.views ((((0 : Int) :: bodies l).map D.int).map .fz) = ((0 : Int) :: bodies l).map D.int := views_fz _
    have mx : dMax [.lst (((0 : Int) :: bodies l).map D.int)] = some (.int (ndps l)) := by
      show (match intsOf (((0 : Int) :: bodies l).map D.int) with
        | some (n :: r) => some (D.int (maxI (n :: r)))
        | _ => none) = _
      rw [intsOf_map]
      show some (D.int ((bodies l).foldl max ((0 : Nat) : Int))) = _
      rw [bodies_max, Nat.zero_max]
    have bl := bodies_len l
    have s1 : m_depth_in_1 cs (m_depth_in cs f) ⟨[.ow (.fz (.tup (encs l))), .un, .un], [.fz (.tup (encs l))]⟩ = .rt (.fz (.int (ndps l))) ⟨[.ow (.fz (.tup (encs l))), .un, .un], [.fz (.tup (encs l))]⟩ := by
      have q0 : qNew (mLst (mCons (mC (.int 0)) mNil)) ⟨[.ow (.fz (.tup (encs l))), .un, .un], [.fz (.tup (encs l))]⟩ = .ok [.int 0] ⟨[.ow (.fz (.tup (encs l))), .un, .un], [.fz (.tup (encs l))]⟩ := rfl
      have q1 : qNew (m_depth_in_c1 cs (m_depth_in cs f)) ⟨[.ow (.fz (.tup (encs l))), .un, .un], [.fz (.tup (encs l))]⟩ = .ok ((bodies l).map D.int) ⟨[.ow (.fz (.tup (encs l))), .un, .un], [.fz (.tup (encs l))]⟩ := by
        unfold qNew; rw [c1]; simp only [ER.bind, OT.items, fzOf_map, ER.opt]
      simp only [m_depth_in_1, sRet, mOwn, mCall, mCons, mView, mCat, q0, q1, mNil, ER.bind]
      rw [if_pos (by rw [List.length_map]; simp; omega)]
      show ER.stm (((ER.opt (dMax [OT.view (.ol ((((0 : Int) :: bodies l).map D.int).map .fz))]) _ : ER D)).bind _) _ = _
      rw [OT.view, v1, mx]
      rfl
    have ent : entry 3 [.fz (.tup (encs l))] = ⟨[.ow (.fz (.tup (encs l))), .un, .un], [.fz (.tup (encs l))]⟩ := rfl
    show m_depth_in_r cs (m_depth_in cs f) _ = _
    simp only [m_depth_in_r, asDef, ent, s1]
noncomputable def textOf (ws : List (List Nat)) : Str := Txt.join (W [32]) (ws.map W)
noncomputable def PD (cs : Nat → Addr) (l : List Nd) : D := .ins (cs 0) ["own_text", "own_words", "own_nodes", "own_length", "own_depth"] [.str (textOf (wds l)), .tup (WsD (wds l)), .tup (encs l), .int (nlens l), .int (ndps l)]
noncomputable def PO (cs : Nat → Addr) (l : List Nd) : OT := .oi (cs 0) ["own_text", "own_words", "own_nodes", "own_length", "own_depth"] [.fz (.str (textOf (wds l))), .fz (.tup (WsD (wds l))), .fz (.tup (encs l)), .fz (.int (nlens l)), .fz (.int (ndps l))]
theorem num_free (n : Nat) : (32 : Nat) ∉ TL.numL n := TL.numL_free (.inl (by decide))
mutual
theorem wd_free : ∀ a : Nd, nok a → ∀ w ∈ wd a, (32 : Nat) ∉ w ∧ w ≠ []
  | .st c n, h, w, hw => by
    rw [nok] at h
    rw [wd, List.mem_singleton] at hw
    subst hw
    unfold lw
    refine ⟨fun z => ?_, by simp⟩
    rcases List.mem_cons.mp z with z | z
    · have := h.1
      unfold letters at this
      simp at this
      omega
    · split at z
      · cases z
      · exact num_free n z
  | .rp b n, h, w, hw => by
    rw [nok] at h
    rw [wd] at hw
    rcases List.mem_cons.mp hw with rfl | hw
    · simp
    · rcases List.mem_append.mp hw with hw | hw
      · exact wds_free b h.2.2.2 w hw
      · rw [List.mem_singleton] at hw
        subst hw
        refine ⟨fun z => ?_, by simp⟩
        rcases List.mem_cons.mp z with z | z
        · omega
        · exact num_free n z
theorem wds_free : ∀ l : List Nd, noks l → ∀ w ∈ wds l, (32 : Nat) ∉ w ∧ w ≠ []
  | [], _, w, hw => by rw [wds] at hw; cases hw
  | a :: r, h, w, hw => by
    rw [noks] at h
    rw [wds] at hw
    rcases List.mem_append.mp hw with hw | hw
    · exact wd_free a h.1 w hw
    · exact wds_free r h.2 w hw
end
mutual
theorem wd_len : ∀ a : Nd, nok a → ∀ w ∈ wd a, w.length ≤ 40
  | .st c n, h, w, hw => by
    rw [nok] at h
    rw [wd, List.mem_singleton] at hw
    subst hw
    have := lw_len h.2.2
    unfold lw
    rw [List.length_cons]; omega
  | .rp b n, h, w, hw => by
    rw [nok] at h
    rw [wd] at hw
    rcases List.mem_cons.mp hw with rfl | hw
    · simp
    · rcases List.mem_append.mp hw with hw | hw
      · exact wds_wlen b h.2.2.2 w hw
      · rw [List.mem_singleton] at hw
        subst hw
        have hl := TL.numL_len (n := n) (k := 31) (by decide) (by omega)
        rw [List.length_cons]; omega
theorem wds_wlen : ∀ l : List Nd, noks l → ∀ w ∈ wds l, w.length ≤ 40
  | [], _, w, hw => by rw [wds] at hw; cases hw
  | a :: r, h, w, hw => by
    rw [noks] at h
    rw [wds] at hw
    rcases List.mem_append.mp hw with hw | hw
    · exact wd_len a h.1 w hw
    · exact wds_wlen r h.2 w hw
end
@[simp] theorem isiI_str (ok : Addr → Bool) (t : Str) : dIsiI ok "str" [.str t, .ty "str"] = some (.bl true) := rfl
theorem n_text_words : ¬ (Str.ofString "own_text" = Str.ofString "own_words") := by decide
theorem n_text_nodes : ¬ (Str.ofString "own_text" = Str.ofString "own_nodes") := by decide
theorem n_text_length : ¬ (Str.ofString "own_text" = Str.ofString "own_length") := by decide
theorem n_text_depth : ¬ (Str.ofString "own_text" = Str.ofString "own_depth") := by decide
theorem n_words_text : ¬ (Str.ofString "own_words" = Str.ofString "own_text") := by decide
theorem n_words_nodes : ¬ (Str.ofString "own_words" = Str.ofString "own_nodes") := by decide
theorem n_words_length : ¬ (Str.ofString "own_words" = Str.ofString "own_length") := by decide
theorem n_words_depth : ¬ (Str.ofString "own_words" = Str.ofString "own_depth") := by decide
theorem n_nodes_text : ¬ (Str.ofString "own_nodes" = Str.ofString "own_text") := by decide
theorem n_nodes_words : ¬ (Str.ofString "own_nodes" = Str.ofString "own_words") := by decide
theorem n_nodes_length : ¬ (Str.ofString "own_nodes" = Str.ofString "own_length") := by decide
theorem n_nodes_depth : ¬ (Str.ofString "own_nodes" = Str.ofString "own_depth") := by decide
theorem n_length_text : ¬ (Str.ofString "own_length" = Str.ofString "own_text") := by decide
theorem n_length_words : ¬ (Str.ofString "own_length" = Str.ofString "own_words") := by decide
theorem n_length_nodes : ¬ (Str.ofString "own_length" = Str.ofString "own_nodes") := by decide
theorem n_length_depth : ¬ (Str.ofString "own_length" = Str.ofString "own_depth") := by decide
theorem n_depth_text : ¬ (Str.ofString "own_depth" = Str.ofString "own_text") := by decide
theorem n_depth_words : ¬ (Str.ofString "own_depth" = Str.ofString "own_words") := by decide
theorem n_depth_nodes : ¬ (Str.ofString "own_depth" = Str.ofString "own_nodes") := by decide
theorem n_depth_length : ¬ (Str.ofString "own_depth" = Str.ofString "own_length") := by decide
theorem joinL_len : ∀ ws : List (List Nat), (∀ w ∈ ws, w.length ≤ 40) → (TL.joinL [32] ws).length ≤ 41 * ws.length
  | [], _ => by simp [TL.joinL]
  | [p], h => by
    have := h p (by simp)
    show p.length ≤ 41 * 1
    omega
  | p :: q :: r, h => by
    have ih := joinL_len (q :: r) fun w hw => h w (List.mem_cons_of_mem _ hw)
    have := h p (by simp)
    show (p ++ ([32] ++ TL.joinL [32] (q :: r))).length ≤ _
    rw [List.length_append, List.length_append, List.length_cons]
    simp at ih ⊢
    omega
theorem map_tl_W (ws : List (List Nat)) : (ws.map W).map TL.tl = ws := by
  rw [List.map_map]
  exact (List.map_congr_left fun w _ => rfl).trans (List.map_id _)
theorem textOf_tl (ws : List (List Nat)) : TL.tl (textOf ws) = TL.joinL [32] ws := by
  unfold textOf
  rw [TL.join_eq, TL.tl_join, map_tl_W]
  rfl
theorem textOf_len {ws : List (List Nat)} (h : ∀ w ∈ ws, w.length ≤ 40) : (textOf ws).length ≤ 41 * ws.length := by
  rw [TL.len_tl, textOf_tl]
  exact joinL_len ws h
theorem textOf_nil : textOf [] = W [] := TL.ext_tl (by rw [textOf_tl]; rfl)
theorem textOf_ne {ws : List (List Nat)} (h : ws ≠ []) (hw : ∀ w ∈ ws, w ≠ []) : textOf ws ≠ W [] := fun z => by
  have e := congrArg TL.tl z
  rw [textOf_tl] at e
  cases ws with
  | nil => exact h rfl
  | cons p r =>
    cases r with
    | nil => exact hw p (by simp) e
    | cons q r =>
      have e : p ++ ([32] ++ TL.joinL [32] (q :: r)) = [] := e
      simp at e
theorem textOf_split {ws : List (List Nat)} (h : ws ≠ []) (hw : ∀ w ∈ ws, (32 : Nat) ∉ w) : Txt.split (textOf ws) (W [32]) = ws.map W := by
  unfold textOf
  refine TL.split_join (s := 32) (S := []) rfl (by decide +kernel) (fun z => h (List.map_eq_nil_iff.mp z)) fun p hp => ?_
  obtain ⟨w, h1, rfl⟩ := List.mem_map.mp hp
  exact hw w h1
theorem words_of_ok (cs : Nat → Addr) {ws : List (List Nat)} (hl : ws.length ≤ 1000) (h1 : ∀ w ∈ ws, (32 : Nat) ∉ w ∧ w ≠ []) (h2 : ∀ w ∈ ws, w.length ≤ 40) : m_words_of cs [.fz (.str (textOf ws))] = .ok (.fz (.lst (WsD ws))) ⟨[], [.fz (.str (textOf ws))]⟩ := by
  have tl := textOf_len h2
  have ln := lit_nil
  have ls := lit_sp
  by_cases e : ws = []
  · subst e
    rw [textOf_nil]
    simp [m_words_of, m_words_of_1, -List.map_map, -List.map_take, -List.map_drop, -List.map_append, -List.map_reverse, asDef, entry, slotsOf, sSeq, sSet, sRet, sIf, sDrop, sNil, sBreak, sCont, sApp, sSetAt, setEnd, sAug, sAsg, sPar, mVar, mSee, mFrz, mTake, mC, mUn, mOp, mNil, mCons, mCall, mCallL, mTup, mLst, mView, mOwn, mFz, mTest, mAnd, mOr, mNot, mIf, mAndV, mOrV, mNotV, mChain, mAt, qSee, qFz, qNew, oNone, oSome, rNil, rSlot, rFz, mCall0, mCall1, oneSlot, noSlot, treesOf, SD.tree, SD.put, SD.putFz, tgN, tgNil, tgCons, tgT, ER.bind, ER.opt, ER.stm, Fl.seq, OT.view, OT.views, OT.items, fzOf, iLst, iTuP, iRange1, iRange2, iZip2, iEnumL, dIx, atI, ixN, dAdd, dSub, dNeg, dLt, dLe, dGt, dGe, dIsN, dNotN, isNonD, dEq, dNe, eqB_int, eqB_str, eqB_bl, eq_2, eq_3, dLen, dIsi, D.isA, tyName, dMod, dMax, dMin, mAtS, mBm, D.isL, D.isS, ln, W_iff]
    rfl
  · have ne := textOf_ne e fun w hw => (h1 w hw).2
    have sp := textOf_split e fun w hw => (h1 w hw).1
    have ds : dSplit (.str (textOf ws)) [.str (W [32])] = some (WsD ws) := by
      show (if ((W [32]).length == 0) = false ∧ (textOf ws).length + 2 ≤ 16777216 then some ((Txt.split (textOf ws) (W [32])).map D.str) else none) = _
      rw [if_pos ⟨rfl, by omega⟩, sp, List.map_map]
      rfl
    have v : OT.views ((WsD ws).map .fz) = WsD ws := views_fz _
    generalize textOf ws = t at *
    have q : dNe (.str t) (.str (W [])) = some (.bl true) := by simp [dNe, eqB_str, ne]
    simp [m_words_of, m_words_of_1, -List.map_map, -List.map_take, -List.map_drop, -List.map_append, -List.map_reverse, asDef, entry, slotsOf, sSeq, sSet, sRet, sIf, sDrop, sNil, sBreak, sCont, sApp, sSetAt, setEnd, sAug, sAsg, sPar, mVar, mSee, mFrz, mTake, mC, mUn, mOp, mNil, mCons, mCall, mCallL, mTup, mLst, mView, mOwn, mFz, mTest, mAnd, mOr, mNot, mIf, mAndV, mOrV, mNotV, mChain, mAt, qSee, qFz, qNew, oNone, oSome, rNil, rSlot, rFz, mCall0, mCall1, oneSlot, noSlot, treesOf, SD.tree, SD.put, SD.putFz, tgN, tgNil, tgCons, tgT, ER.bind, ER.opt, ER.stm, Fl.seq, OT.view, OT.views, OT.items, fzOf, iLst, iTuP, iRange1, iRange2, iZip2, iEnumL, dIx, atI, ixN, dAdd, dSub, dNeg, dLt, dLe, dGt, dGe, dIsN, dNotN, isNonD, dEq, dNe, eqB_int, eqB_str, eqB_bl, eq_2, eq_3, dLen, dIsi, D.isA, tyName, dMod, dMax, dMin, mAtS, mBm, D.isL, D.isS, ln, ls, q, -dNe, mBmL, ds, v]
/-- what is a program's tree -/
structure PrOk (l : List Nd) : Prop where
  ok : noks l
  dp : ndps l ≤ 12
  len : (wds l).length ≤ 1000
theorem PrOk.tree {l : List Nd} (h : PrOk l) : noks l := h.ok
theorem make_ok (cs : Nat → Addr) {l : List Nd} (h : PrOk l) : m_Program___init__ cs [.oi (cs 0) [] [], .fz (.str (textOf (wds l)))] = .ok (.fz .non) ⟨[], [PO cs l, .fz (.str (textOf (wds l)))]⟩ := by
  have w1 := words_of_ok cs h.len (wds_free l h.ok) (wds_wlen l h.ok)
  have w2 := first_wrong_ok cs h.ok h.dp h.len
  have w3 := nodes_in_ok cs h.ok h.dp h.len
  have w4 := length_ok cs 16 l h.ok (by have := h.dp; omega) h.len
  have w5 := depth_ok' cs 16 l h.ok (by have := h.dp; omega) h.len
  unfold PO
  generalize textOf (wds l) = t at *
  generalize WsD (wds l) = ws at *
  generalize encs l = es at *
  simp [m_Program___init__, m_Program___init___2, m_Program___init___3, m_Program___init___4, m_Program___init___6, m_Program___init___7, m_Program___init___8, m_Program___init___9, m_Program___init___10, m_Program___init___11, -List.map_map, -List.map_take, -List.map_drop, -List.map_append, -List.map_reverse, asDef, entry, slotsOf, sSeq, sSet, sRet, sIf, sDrop, sNil, sBreak, sCont, sApp, sSetAt, setEnd, sAug, sAsg, sPar, mVar, mSee, mFrz, mTake, mC, mUn, mOp, mNil, mCons, mCall, mCallL, mTup, mLst, mView, mOwn, mFz, mTest, mAnd, mOr, mNot, mIf, mAndV, mOrV, mNotV, mChain, mAt, qSee, qFz, qNew, oNone, oSome, rNil, rSlot, rFz, mCall0, mCall1, oneSlot, noSlot, treesOf, SD.tree, SD.put, SD.putFz, tgN, tgNil, tgCons, tgT, ER.bind, ER.opt, ER.stm, Fl.seq, OT.view, OT.views, OT.items, fzOf, iLst, iTuP, iRange1, iRange2, iZip2, iEnumL, dIx, atI, ixN, dAdd, dSub, dNeg, dLt, dLe, dGt, dGe, dIsN, dNotN, isNonD, dEq, dNe, eqB_int, eqB_str, eqB_bl, eq_2, eq_3, dLen, dIsi, D.isA, tyName, dMod, dMax, dMin, mAtS, mBm, D.isL, D.isS, mFld, fldD, mMake, mOwn2, mOwn1, mCallIns, mProp, mMeth, mB2, callFz, callFzQ, sFldSet, putO, idxN, cSame, cInt, D.isIns, D.isInt, dIsO, D.tyv, okC, sPar3, mCutX, mCat, dAll, boolsOf, sFor, goFor, rangeD, List.range, List.range.loop, sNever, mFldO, mCallT, dTupOf, n_text_words, n_text_nodes, n_text_length, n_text_depth, n_words_text, n_words_nodes, n_words_length, n_words_depth, n_nodes_text, n_nodes_words, n_nodes_length, n_nodes_depth, n_length_text, n_length_words, n_length_nodes, n_length_depth, n_depth_text, n_depth_words, n_depth_nodes, n_depth_length, w1, w2, w3, w4, w5]
theorem prog_make (cs : Nat → Addr) {l : List Nd} (h : PrOk l) {a : SD → ER (List D)} {sd sd1 : SD} (ha : a sd = .ok [.str (textOf (wds l))] sd1) : mMake (cs 0) (m_Program___init__ cs) a sd = .ok (PO cs l) sd1 := by
  have e := make_ok cs h
  unfold mMake
  rw [ha]
  simp only [ER.bind, List.map_cons, List.map_nil, e, List.getElem?_cons_zero]
theorem digits_many : ∀ {k n : Nat}, 10 ^ k ≤ n → k < (TL.numL n).length := by
  intro k
  induction k with
  | zero =>
    intro n _
    exact List.length_pos_iff.mpr (TL.numL_ne n)
  | succ k ih =>
    intro n h
    rw [Nat.pow_succ] at h
    have p : 1 ≤ 10 ^ k := Nat.one_le_pow _ _ (by decide)
    have := ih (n := n / 10) (by omega)
    rw [TL.numL_step (by omega), List.length_append, List.length_singleton]
    omega
theorem dig_num : ∀ (k : Nat) (s : List Nat), s.length = k → s ≠ [] → (∀ c ∈ s, 48 ≤ c ∧ c ≤ 57) → s.head? ≠ some 48 → ∃ n, 1 ≤ n ∧ s = TL.numL n := by
  intro k
  induction k with
  | zero => intro s hk hne; exact absurd (List.length_eq_zero_iff.mp hk) hne
  | succ k ih =>
    intro s hk hne hd hh
    obtain ⟨t, c, rfl⟩ : ∃ t c, s = t ++ [c] := ⟨s.dropLast, s.getLast hne, (List.dropLast_concat_getLast hne).symm⟩
    have hc := hd c (by simp)
    by_cases ht : t = []
    · subst ht
      have h48 : c ≠ 48 := fun z => hh (by rw [z]; rfl)
      refine ⟨c - 48, by omega, ?_⟩
      rw [TL.numL_lt (by omega), show 48 + (c - 48) = c by omega]
      rfl
    · obtain ⟨m, hm, rfl⟩ := ih t (by simpa using hk) ht (fun x hx => hd x (by simp [hx])) (fun z => hh (by rw [List.head?_append, z]; rfl))
      refine ⟨10 * m + (c - 48), by omega, ?_⟩
      have st := TL.numL_step (n := 10 * m + (c - 48)) (by omega)
      rw [show (10 * m + (c - 48)) / 10 = m by omega, show 48 + (10 * m + (c - 48)) % 10 = c by omega] at st
      exact st.symm
open Classical in
noncomputable def numB (s : List Nat) : Bool := decide (∃ n, s = TL.numL n ∧ 2 ≤ n ∧ n ≤ 1000000000000000000000000000000)
theorem numB_iff (s : List Nat) : numB s = true ↔ ∃ n, s = TL.numL n ∧ 2 ≤ n ∧ n ≤ 1000000000000000000000000000000 := by
  unfold numB
  simp
theorem numB_no {s : List Nat} (h : ¬ ∃ n, s = TL.numL n ∧ 2 ≤ n ∧ n ≤ 1000000000000000000000000000000) : numB s = false := by
  cases e : numB s with
  | false => rfl
  | true => exact absurd ((numB_iff s).mp e) h
theorem numB_num (n : Nat) : numB (TL.numL n) = (decide (2 ≤ (n : Int)) && decide ((n : Int) ≤ 1000000000000000000000000000000)) := by
  by_cases h : 2 ≤ n ∧ n ≤ 1000000000000000000000000000000
  · rw [(numB_iff _).mpr ⟨n, rfl, h⟩, decide_eq_true (show 2 ≤ (n : Int) by omega), decide_eq_true (show (n : Int) ≤ 1000000000000000000000000000000 by omega)]; rfl
  · rw [numB_no fun ⟨m, e, h1, h2⟩ => h (by rw [TL.numL_inj e]; exact ⟨h1, h2⟩)]
    by_cases h1 : 2 ≤ n
    · rw [decide_eq_true (show 2 ≤ (n : Int) by omega), decide_eq_false (show ¬ (n : Int) ≤ 1000000000000000000000000000000 by omega)]; rfl
    · rw [decide_eq_false (show ¬ 2 ≤ (n : Int) by omega)]; rfl
/-- what a number's signs are like -/
theorem numB_like {s : List Nat} (h : numB s = true) : 1 ≤ s.length ∧ s.length ≤ 31 ∧ s.head? ≠ some 48 ∧ ∀ c ∈ s, 48 ≤ c ∧ c ≤ 57 := by
  obtain ⟨n, rfl, h1, h2⟩ := (numB_iff s).mp h
  obtain ⟨c, r, e, hc⟩ := num_head n
  refine ⟨by rw [e]; simp, TL.numL_len (by decide) (by omega), ?_, num_dig n⟩
  rw [e]
  exact fun z => hc (by omega) (Option.some.inj z)
noncomputable def nuSD (l : List Nat) (x1 : S) : SD := ⟨[.ow (.fz (.str (W l))), x1], [.fz (.str (W l))]⟩
theorem len_S {l : List Nat} (h : l.length ≤ 16777216) : dLen [.str (W l)] = some (.int l.length) := by
  show (if (W l).length ≤ 16777216 then some (D.int (W l).length) else none) = _
  rw [W_len, if_pos h]
theorem ix0_S {c : Nat} {r : List Nat} (h : (c :: r).length ≤ 16777216) : dIx (.str (W (c :: r))) (.int 0) = some (.str (W [c])) := by
  show (if (W (c :: r)).length ≤ 16777216 then (atI (c :: r) 0).map (fun c => D.str ⟨#[c]⟩) else none) = _
  rw [W_len, if_pos h, show atI (c :: r) (0 : Int) = some c from atI_of (k := 0) rfl]
  rfl
theorem eq_S (l m : List Nat) : dEq (.str (W l)) (.str (W m)) = some (.bl (decide (l = m))) := by
  unfold dEq
  rw [eq_W]
  rfl
theorem ne_S (l m : List Nat) : dNe (.str (W l)) (.str (W m)) = some (.bl (!decide (l = m))) := by
  unfold dNe
  rw [eq_W]
  rfl
theorem in_dig (c : Nat) : dIn false (.str (W [c])) (.str (Str.ofString "0123456789")) = some (.bl (decide (48 ≤ c ∧ c ≤ 57))) := by
  show some (D.bl (inS (W [c]) (Str.ofString "0123456789") != false)) = _
  rw [lit_dig, inS_W, W_cps]
  have e : decide (c ∈ [48, 49, 50, 51, 52, 53, 54, 55, 56, 57]) = decide (48 ≤ c ∧ c ≤ 57) := decide_eq_decide.mpr (mem_dig c)
  rw [e]
  cases decide (48 ≤ c ∧ c ≤ 57) <;> rfl
theorem is_number_any (cs : Nat → Addr) (l : List Nat) (hl : l.length ≤ 16777216) : m_is_number cs [.fz (.str (W l))] = .ok (.fz (.bl (numB l))) ⟨[], [.fz (.str (W l))]⟩ := by
  have dl := len_S hl
  have ent : entry 2 [.fz (.str (W l))] = nuSD l .un := rfl
  have vl : mCall dLen (mCons (mVar 0) mNil) (nuSD l .un) = .ok (.int l.length) (nuSD l .un) := by
    show ER.bind _ _ = _
    simp [mCons, mVar, nuSD, mNil, ER.bind, dl, ER.opt]
  have ch := chain_le (a := mC (.int 1)) (b := mCall dLen (mCons (mVar 0) mNil)) (c := mC (.int 31)) (sd := nuSD l .un) (i := 1) (j := l.length) (k := 31) rfl vl rfl
  have v0 : mVar 0 (nuSD l .un) = .ok (.str (W l)) (nuSD l .un) := rfl
  have r1 : m_is_number_1 cs (nuSD l .un) = .rt (.fz (.bl false)) (nuSD l .un) := rfl
  by_cases h1 : 1 ≤ l.length ∧ l.length ≤ 31
  · have z1 : (1 : Int) ≤ l.length := by omega
    have z2 : (l.length : Int) ≤ 31 := by omega
    simp only [z1, z2, decide_true, Bool.and_self] at ch
    obtain ⟨c, r, rfl⟩ : ∃ c r, l = c :: r := by
      cases l with
      | nil => simp at h1
      | cons c r => exact ⟨c, r, rfl⟩
    have d0 := ix0_S hl
    have q0 := eq_S [c] [48]
    rw [← lit_0] at q0
    generalize hS : nuSD (c :: r) .un = sd at *
    by_cases h2 : c = 48
    · subst h2
      have s2 : m_is_number_2 cs sd = .rt (.fz (.bl false)) sd := by
        simp only [m_is_number_2, sIf, mOr, mNot, mTest, ch, ER.bind, Bool.not_true, Bool.false_eq_true, if_false, mOp, v0, mC, d0, ER.opt, q0, decide_true, ER.stm, if_true, r1]
      have e : numB (48 :: r) = false := numB_no fun z => (numB_like ((numB_iff _).mpr z)).2.2.1 rfl
      rw [e]
      unfold m_is_number asDef
      rw [ent]
      unfold sSeq
      rw [s2, ← hS]
      rfl
    · have n48 : ¬ [c] = [48] := fun z => h2 (by injection z)
      rw [decide_eq_false n48] at q0
      have s2 : m_is_number_2 cs sd = .nx sd := by
        simp only [m_is_number_2, sIf, mOr, mNot, mTest, ch, ER.bind, Bool.not_true, Bool.false_eq_true, if_false, mOp, v0, mC, d0, ER.opt, q0, ER.stm, sNil]
      have c1 : m_is_number_c1 cs sd = .ok (.ol (((c :: r).map fun x => D.bl (decide (48 ≤ x ∧ x ≤ 57))).map .fz)) sd := by
        rw [← hS]
        exact mComp_map (c :: r) (fun c => D.str (W [c])) (fun x => D.bl (decide (48 ≤ x ∧ x ≤ 57))) rfl (by omega) fun x hx => ⟨nuSD (c :: r) (.ow (.fz (.str (W [x])))), rfl, rfl, by
          show ER.opt (dIn false (.str (W [x])) (.str (Str.ofString "0123456789"))) _ = _
          rw [in_dig]; rfl⟩
      have v1 : OT.views (((c :: r).map fun x => D.bl (decide (48 ≤ x ∧ x ≤ 57))).map .fz) = (c :: r).map fun x => D.bl (decide (48 ≤ x ∧ x ≤ 57)) := views_fz _
      have a1 : dAll [.lst ((c :: r).map fun x => D.bl (decide (48 ≤ x ∧ x ≤ 57)))] = some (.bl (((c :: r).map fun x => decide (48 ≤ x ∧ x ≤ 57)).all id)) := by
        show (boolsOf _).map _ = _
        rw [bools_map (fun x => decide (48 ≤ x ∧ x ≤ 57))]
        rfl
      have a2 : mCall dAll (mCons (mView (m_is_number_c1 cs)) mNil) sd = .ok (.bl (((c :: r).map fun x => decide (48 ≤ x ∧ x ≤ 57)).all id)) sd := by
        simp only [mCall, mCons, mView, c1, mNil, ER.bind, OT.view, v1, a1, ER.opt]
      by_cases h3 : ∀ x ∈ c :: r, 48 ≤ x ∧ x ≤ 57
      · have all1 : ((c :: r).map fun x => decide (48 ≤ x ∧ x ≤ 57)).all id = true := by
          rw [List.all_map, List.all_eq_true]
          exact fun x hx => decide_eq_true (h3 x hx)
        obtain ⟨n, n1, en⟩ := dig_num _ (c :: r) rfl (by simp) h3 (fun z => h2 (Option.some.inj z))
        have nl : n < 10 ^ 600 := by
          have h31 : n < 10 ^ 31 := by
            apply Classical.byContradiction
            intro z
            -- as many digits as that are too many
            have : 10 ^ 31 ≤ n := by omega
            have h32 := h1.2
            rw [en] at h32
            exact absurd h32 (by
              have := digits_many (k := 31) (n := n) (by omega)
              omega)
          exact Nat.lt_of_lt_of_le h31 (Nat.pow_le_pow_right (by decide) (by decide))
        have hi := int_W nl
        rw [← en] at hi
        have ci : mCall dInt2 (mCons (mVar 0) mNil) sd = .ok (.int n) sd := by
          unfold mCall mCons mNil
          simp only [v0, ER.bind, hi, ER.opt]
        have ch2 := chain_le (a := mC (.int 2)) (b := mCall dInt2 (mCons (mVar 0) mNil)) (c := mC (.int 1000000000000000000000000000000)) (sd := sd) (i := 2) (j := n) (k := 1000000000000000000000000000000) rfl ci rfl
        rw [← numB_num, ← en] at ch2
        rw [all1] at a2
        have s3 : m_is_number_3 cs sd = .rt (.fz (.bl (numB (c :: r)))) sd := by
          simp only [m_is_number_3, sRet, mOwn, mAndV, a2, ch2, ER.bind, ER.stm]
        unfold m_is_number asDef
        rw [ent, seq_nx s2 s3, ← hS]
        rfl
      · have all1 : ((c :: r).map fun x => decide (48 ≤ x ∧ x ≤ 57)).all id = false := by
          cases e : ((c :: r).map fun x => decide (48 ≤ x ∧ x ≤ 57)).all id with
          | false => rfl
          | true =>
            rw [List.all_map, List.all_eq_true] at e
            exact absurd (fun x hx => of_decide_eq_true (e x hx)) h3
        rw [all1] at a2
        have s3 : m_is_number_3 cs sd = .rt (.fz (.bl false)) sd := by
          simp only [m_is_number_3, sRet, mOwn, mAndV, a2, ER.bind, ER.stm]
        have e : numB (c :: r) = false := numB_no fun z => h3 (numB_like ((numB_iff _).mpr z)).2.2.2
        unfold m_is_number asDef
        rw [e, ent, seq_nx s2 s3, ← hS]
        rfl
  · have z : (decide ((1 : Int) ≤ l.length) && decide ((l.length : Int) ≤ 31)) = false := by
      by_cases h : 1 ≤ l.length
      · rw [decide_eq_false (show ¬ (l.length : Int) ≤ 31 by omega), Bool.and_false]
      · rw [decide_eq_false (show ¬ (1 : Int) ≤ l.length by omega)]; rfl
    rw [z] at ch
    have s2 : m_is_number_2 cs (nuSD l .un) = .rt (.fz (.bl false)) (nuSD l .un) := by
      simp only [m_is_number_2, sIf, mOr, mNot, mTest, ch, ER.bind, Bool.not_false, if_true, ER.stm, r1]
    have e : numB l = false := numB_no fun z => h1 (by
      have := numB_like ((numB_iff _).mpr z)
      exact ⟨this.1, this.2.1⟩)
    unfold m_is_number asDef
    rw [e, ent]
    unfold sSeq
    rw [s2]
    rfl
theorem tw_last {p : Nat → Bool} {c : Nat} (h : p c = false) : ∀ xs : List Nat, ((xs ++ [c]).takeWhile p).length ≤ xs.length
  | [] => by simp [List.takeWhile, h]
  | x :: r => by
    rw [List.cons_append, List.takeWhile_cons]
    split
    · rw [List.length_cons, List.length_cons]
      exact Nat.succ_le_succ (tw_last h r)
    · exact Nat.zero_le _
theorem drop_tw (p : Nat → Bool) : ∀ l : List Nat, l.drop (l.takeWhile p).length = l.dropWhile p
  | [] => rfl
  | x :: r => by
    rw [List.takeWhile_cons, List.dropWhile_cons]
    split
    · rw [List.length_cons, List.drop_succ_cons]
      exact drop_tw p r
    · rfl
theorem dw_cases (p : Nat → Bool) : ∀ l : List Nat, (∀ c ∈ l, p c = true) ∧ l.dropWhile p = [] ∨ ∃ c r, l.dropWhile p = c :: r ∧ p c = false ∧ c ∈ l
  | [] => .inl ⟨fun c h => by simp at h, rfl⟩
  | x :: r => by
    rw [List.dropWhile_cons]
    by_cases hx : p x = true
    · rw [if_pos hx]
      rcases dw_cases p r with ⟨h1, h2⟩ | ⟨c, t, h1, h2, h3⟩
      · exact .inl ⟨fun c hc => by
          rcases List.mem_cons.mp hc with rfl | hc
          · exact hx
          · exact h1 c hc, h2⟩
      · exact .inr ⟨c, t, h1, h2, List.mem_cons_of_mem _ h3⟩
    · rw [if_neg hx]
      exact .inr ⟨x, r, rfl, by simpa using hx, List.mem_cons_self⟩
theorem strip_core (p : Nat → Bool) (l : List Nat) : (l.drop (l.takeWhile p).length).take (l.length - ((l.drop (l.takeWhile p).length).reverse.takeWhile p).length - (l.takeWhile p).length) = [] ↔ ∀ c ∈ l, p c = true := by
  have hlen : (l.dropWhile p).length = l.length - (l.takeWhile p).length := by rw [← drop_tw, List.length_drop]
  have hle : (l.takeWhile p).length ≤ l.length := (List.takeWhile_sublist p).length_le
  rw [drop_tw]
  rcases dw_cases p l with ⟨h1, h2⟩ | ⟨c, r, h1, h2, h3⟩
  · rw [h2]
    exact ⟨fun _ => h1, fun _ => List.take_nil⟩
  · have ht := tw_last h2 r.reverse
    have er : (l.dropWhile p).reverse = r.reverse ++ [c] := by rw [h1, List.reverse_cons]
    rw [← er, List.length_reverse] at ht
    have hl2 : (l.dropWhile p).length = r.length + 1 := by rw [h1]; rfl
    constructor
    · intro z
      exfalso
      have z := congrArg List.length z
      rw [List.length_take, List.length_nil, hl2] at z
      omega
    · intro z
      rw [z c h3] at h2
      cases h2
theorem strip_S {l : List Nat} (hl : l.length ≤ 16777216) : ∃ m, dStrip (.str (W l)) [.str (Str.ofString "0123456789")] = some (.str (W m)) ∧ (m = [] ↔ ∀ c ∈ l, 48 ≤ c ∧ c ≤ 57) := by
  refine ⟨TL.tl (Txt.stripChars (W l) (Str.ofString "0123456789")), ?_, ?_⟩
  · show (if (W l).length ≤ 16777216 then some (D.str (Txt.stripChars (W l) (Str.ofString "0123456789"))) else none) = _
    rw [W_len, if_pos hl]
    congr 2
  · have e : Txt.stripChars (W l) (Str.ofString "0123456789") = Txt.stripBy (Str.ofString "0123456789").cps.contains true true (W l) := rfl
    rw [e, PyProof.Rows.stripBy_eq, TL.tl_strSub]
    have lo : stripLo (Str.ofString "0123456789").cps.contains true (W l) = (l.takeWhile (Str.ofString "0123456789").cps.contains).length := rfl
    have hi : ∀ k, stripHi (Str.ofString "0123456789").cps.contains true (W l) k = l.length - ((l.drop k).reverse.takeWhile (Str.ofString "0123456789").cps.contains).length := fun k => by
      unfold stripHi
      rw [if_pos rfl, W_len]
      rfl
    rw [lo, hi, W_tl]
    refine (strip_core _ l).trans ?_
    have hp : ∀ c, (Str.ofString "0123456789").cps.contains c = true ↔ 48 ≤ c ∧ c ≤ 57 := fun c => by
      rw [lit_dig]
      unfold W
      rw [Array.contains_iff_mem, List.mem_toArray]
      exact mem_dig c
    exact ⟨fun h c hc => (hp c).mp (h c hc), fun h c hc => (hp c).mpr (h c hc)⟩
theorem op_t {f : D → D → Option D} {a b : SD → ER D} {sd sd1 sd2 : SD} {x y : D} {v : Bool} (ha : a sd = .ok x sd1) (hb : b sd1 = .ok y sd2) (h : f x y = some (.bl v)) : mTest (mOp f a b) sd = .ok v sd2 := by
  unfold mTest mOp
  rw [ha]
  simp only [ER.bind]
  rw [hb]
  simp only [ER.bind, h, ER.opt]
theorem or_l {a b : SD → ER Bool} {sd sd1 : SD} (h : a sd = .ok true sd1) : mOr a b sd = .ok true sd1 := by
  unfold mOr; rw [h]; rfl
theorem or_r {a b : SD → ER Bool} {sd sd1 sd2 : SD} {v : Bool} (h : a sd = .ok false sd1) (h2 : b sd1 = .ok v sd2) : mOr a b sd = .ok v sd2 := by
  unfold mOr; rw [h]; exact h2
theorem or_b {a b : SD → ER Bool} {sd : SD} {u v : Bool} (h : a sd = .ok u sd) (h2 : b sd = .ok v sd) : mOr a b sd = .ok (u || v) sd := by
  cases u with
  | true => exact or_l h
  | false => exact or_r h h2
theorem and_b {a b : SD → ER Bool} {sd : SD} {u v : Bool} (h : a sd = .ok u sd) (h2 : b sd = .ok v sd) : mAnd a b sd = .ok (u && v) sd := by
  unfold mAnd
  rw [h]
  cases u with
  | true => exact h2
  | false => rfl
theorem not_b {a : SD → ER Bool} {sd sd1 : SD} {u : Bool} (h : a sd = .ok u sd1) : mNot a sd = .ok (!u) sd1 := by
  unfold mNot; rw [h]; rfl
theorem if_b {c : SD → ER Bool} {a b : SD → Fl} {sd sd1 : SD} {u : Bool} (h : c sd = .ok u sd1) : sIf c a b sd = if u = true then a sd1 else b sd1 := by
  unfold sIf; rw [h]; rfl
theorem lnumber_any (cs : Nat → Addr) (l : List Nat) (hl : l.length ≤ 16777216) : m__law_is_number cs [.fz (.str (W l))] = .ok (.fz (.bl (numB l))) ⟨[], [.fz (.str (W l))]⟩ := by
  have ent : entry 1 [.fz (.str (W l))] = ⟨[.ow (.fz (.str (W l)))], [.fz (.str (W l))]⟩ := rfl
  generalize hS : (⟨[.ow (.fz (.str (W l)))], [.fz (.str (W l))]⟩ : SD) = sd at ent
  have v0 : mVar 0 sd = .ok (.str (W l)) sd := by rw [← hS]; rfl
  have out : sd.pa = [.fz (.str (W l))] := by rw [← hS]
  have vl : mCall dLen (mCons (mVar 0) mNil) sd = .ok (.int l.length) sd := by
    unfold mCall mCons mNil
    simp only [v0, ER.bind, len_S hl, ER.opt]
  have tA : mTest (mOp dEq (mVar 0) (mC (.str (Str.ofString "")))) sd = .ok (decide (l = [])) sd := op_t v0 rfl (by rw [lit_nil]; exact eq_S l [])
  have tB : mTest (mOp dGt (mCall dLen (mCons (mVar 0) mNil)) (mC (.int 31))) sd = .ok (decide ((31 : Int) < l.length)) sd := op_t vl rfl rfl
  obtain ⟨m, ms, mi⟩ := strip_S hl
  have vs : mBm D.isS dStrip (mVar 0) (mCons (mC (.str (Str.ofString "0123456789"))) mNil) sd = .ok (.str (W m)) sd := by
    unfold mBm mCons mNil
    simp only [v0, ER.bind, D.isS, if_true, mC, ms, ER.opt]
  have tC : mTest (mOp dNe (mBm D.isS dStrip (mVar 0) (mCons (mC (.str (Str.ofString "0123456789"))) mNil)) (mC (.str (Str.ofString "")))) sd = .ok (!decide (m = [])) sd := op_t vs rfl (by rw [lit_nil]; exact ne_S m [])
  have r1 : m__law_is_number_1 cs sd = .rt (.fz (.bl false)) sd := by rw [← hS]; rfl
  have bad : ∀ {u : Bool}, m__law_is_number_2 cs sd = .rt (.fz (.bl false)) sd → (¬ ∃ n, l = TL.numL n ∧ 2 ≤ n ∧ n ≤ 1000000000000000000000000000000) → m__law_is_number cs [.fz (.str (W l))] = .ok (.fz (.bl (numB l))) ⟨[], [.fz (.str (W l))]⟩ := fun {u} h2 hn => by
    unfold m__law_is_number asDef
    rw [numB_no hn, ent]
    unfold sSeq
    rw [h2]
    show ER.ok _ _ = _
    rw [out]
  by_cases h0 : l = []
  · rw [decide_eq_true h0] at tA
    refine bad (u := true) ?_ fun ⟨n, e, _⟩ => TL.numL_ne n (e.symm.trans h0)
    unfold m__law_is_number_2
    rw [if_b (or_l tA), if_pos rfl, r1]
  rw [decide_eq_false h0] at tA
  by_cases hb : l.length ≤ 31
  · rw [decide_eq_false (show ¬ (31 : Int) < l.length by omega)] at tB
    by_cases hd : ∀ c ∈ l, 48 ≤ c ∧ c ≤ 57
    · rw [decide_eq_true (mi.mpr hd)] at tC
      obtain ⟨c, r, e⟩ : ∃ c r, l = c :: r := by
        cases l with
        | nil => exact absurd rfl h0
        | cons c r => exact ⟨c, r, rfl⟩
      have d0 : dIx (.str (W l)) (.int 0) = some (.str (W [c])) := by rw [e]; exact ix0_S (by rw [← e]; exact hl)
      have vx : mOp dIx (mVar 0) (mC (.int 0)) sd = .ok (.str (W [c])) sd := by
        unfold mOp mC
        simp only [v0, ER.bind, d0, ER.opt]
      have tD : mTest (mOp dEq (mOp dIx (mVar 0) (mC (.int 0))) (mC (.str (Str.ofString "0")))) sd = .ok (decide ([c] = [48])) sd := op_t vx rfl (by rw [lit_0]; exact eq_S [c] [48])
      by_cases hc : c = 48
      · rw [decide_eq_true (show [c] = [48] by rw [hc])] at tD
        refine bad (u := true) ?_ fun z => (numB_like ((numB_iff _).mpr z)).2.2.1 (by rw [e, hc]; rfl)
        unfold m__law_is_number_2
        rw [if_b (or_r tA (or_r tB (or_r tC tD))), if_pos rfl, r1]
      · rw [decide_eq_false (show ¬ [c] = [48] from fun z => hc (by injection z))] at tD
        have s2 : m__law_is_number_2 cs sd = .nx sd := by
          unfold m__law_is_number_2
          rw [if_b (or_r tA (or_r tB (or_r tC tD))), if_neg Bool.false_ne_true]
          rfl
        obtain ⟨n, n1, en⟩ := dig_num _ l rfl h0 hd (by rw [e]; exact fun z => hc (Option.some.inj z))
        have nl : n < 10 ^ 600 := by
          have h31 : n < 10 ^ 31 := by
            apply Classical.byContradiction
            intro z
            have := digits_many (k := 31) (n := n) (by omega)
            rw [← en] at this
            omega
          exact Nat.lt_of_lt_of_le h31 (Nat.pow_le_pow_right (by decide) (by decide))
        have hi := int_W nl
        rw [← en] at hi
        have ci : mCall dInt2 (mCons (mVar 0) mNil) sd = .ok (.int n) sd := by
          unfold mCall mCons mNil
          simp only [v0, ER.bind, hi, ER.opt]
        have pw : mOp dPow (mC (.int 10)) (mC (.int 30)) sd = .ok (.int 1000000000000000000000000000000) sd := by
          unfold mOp mC
          simp only [ER.bind, show dPow (.int 10) (.int 30) = some (.int 1000000000000000000000000000000) from p10 (k := 30) (by decide), ER.opt]
        have ch2 := chain_le (a := mC (.int 2)) (b := mCall dInt2 (mCons (mVar 0) mNil)) (c := mOp dPow (mC (.int 10)) (mC (.int 30))) (sd := sd) (i := 2) (j := n) (k := 1000000000000000000000000000000) rfl ci pw
        rw [← numB_num, ← en] at ch2
        have s3 : m__law_is_number_3 cs sd = .rt (.fz (.bl (numB l))) sd := by
          unfold m__law_is_number_3 sRet mOwn
          simp only [ch2, ER.bind, ER.stm]
        unfold m__law_is_number asDef
        rw [ent, seq_nx s2 s3]
        show ER.ok _ _ = _
        rw [out]
    · rw [decide_eq_false (fun z => hd (mi.mp z))] at tC
      refine bad (u := true) ?_ fun z => hd (numB_like ((numB_iff _).mpr z)).2.2.2
      unfold m__law_is_number_2
      rw [if_b (or_r tA (or_r tB (or_l tC))), if_pos rfl, r1]
  · rw [decide_eq_true (show (31 : Int) < l.length by omega)] at tB
    refine bad (u := true) ?_ fun z => hb (numB_like ((numB_iff _).mpr z)).2.1
    unfold m__law_is_number_2
    rw [if_b (or_r tA (or_l tB)), if_pos rfl, r1]
noncomputable def sw (w : List Nat) : Bool := match w with
  | [] => false
  | c :: r => decide (c ∈ letters) && (decide (r = []) || numB r)
noncomputable def oneW (i d : Nat) (e : Bool) (w : List Nat) : Option (Nat × Bool) :=
  if w = [40] then (if d + 1 ≤ 12 ∧ i + 1 + (d + 1) + 1 ≤ 1000 then some (d + 1, true) else none)
  else if w.take 1 = [41] then (if d ≠ 0 ∧ e = false ∧ numB (w.drop 1) = true ∧ i + 1 + (d - 1) ≤ 1000 then some (d - 1, false) else none)
  else if sw w = true ∧ i + 1 + d ≤ 1000 then some (d, false) else none
noncomputable def fwR : List (List Nat) → Nat → Nat → Bool → Except Nat (Nat × Bool)
  | [], _, d, e => .ok (d, e)
  | w :: r, i, d, e => match oneW i d e w with
    | some (d2, e2) => fwR r (i + 1) d2 e2
    | none => .error i
noncomputable def due (ws : List (List Nat)) : Option Nat := match fwR ws 0 0 false with
  | .error k => some k
  | .ok (d, _) => if d = 0 then none else some ws.length
noncomputable def optN : Option Nat → D
  | none => .non
  | some k => .int k
theorem fwR_lt : ∀ (ws : List (List Nat)) (i d : Nat) (e : Bool) (k : Nat), fwR ws i d e = .error k → k < i + ws.length
  | [], i, d, e, k, h => by cases h
  | w :: r, i, d, e, k, h => by
    rw [fwR] at h
    rw [List.length_cons]
    split at h
    · have := fwR_lt r _ _ _ _ h; omega
    · cases h; omega
theorem due_le {ws : List (List Nat)} {k : Nat} (h : due ws = some k) : k ≤ ws.length := by
  unfold due at h
  split at h
  · rename_i e
    have := fwR_lt _ _ _ _ _ e
    cases h; omega
  · split at h
    · cases h
    · cases h; exact Nat.le_refl _
/-- one round of a loop decides the whole -/
theorem loop_R {g : D → SD → Option SD} {body : SD → Fl} (S : Nat → Bool → SD → Prop) (P : List OT) (Q : List (List Nat) → Prop)
    (hstep : ∀ (pre : List (List Nat)) (w : List Nat) (d : Nat) (e : Bool) (sd : SD), Q (pre ++ [w]) → S d e sd → (e = true ↔ ∃ p, pre = p ++ [[40]]) → d ≤ pre.length → ∃ sd1, g (.tup [.int (pre.length : Nat), .str (W w)]) sd = some sd1 ∧ match oneW pre.length d e w with
      | some (d2, e2) => ∃ sd2, body sd1 = .nx sd2 ∧ S d2 e2 sd2
      | none => ∃ sd2, body sd1 = .rt (.fz (.int (pre.length : Nat))) sd2 ∧ sd2.pa = P)
    (hQ : ∀ a b, Q (a ++ b) → Q a) :
    ∀ (ws pre : List (List Nat)) (d : Nat) (e : Bool) (sd : SD), Q (pre ++ ws) → S d e sd → (e = true ↔ ∃ p, pre = p ++ [[40]]) → d ≤ pre.length → match fwR ws pre.length d e with
      | .ok (d2, e2) => ∃ sd2, goFor g body (enD pre.length (WsD ws)) sd = .nx sd2 ∧ S d2 e2 sd2
      | .error k => ∃ sd2, goFor g body (enD pre.length (WsD ws)) sd = .rt (.fz (.int (k : Nat))) sd2 ∧ sd2.pa = P
  | [], pre, d, e, sd, _, hS, _, _ => by
    rw [fwR]
    exact ⟨sd, rfl, hS⟩
  | w :: r, pre, d, e, sd, hq, hS, he, hd => by
    have hq1 : Q (pre ++ [w]) := hQ _ r (by rw [List.append_assoc]; exact hq)
    obtain ⟨sd1, g1, h⟩ := hstep pre w d e sd hq1 hS he hd
    have eg : ∀ y, body sd1 = y → goFor g body (enD pre.length (WsD (w :: r))) sd = (match y with
        | .nx sd2 => goFor g body (enD (pre.length + 1) (WsD r)) sd2
        | .ct sd2 => goFor g body (enD (pre.length + 1) (WsD r)) sd2
        | .bk sd2 => .nx sd2
        | z => z) := fun y hy => by
      show goFor g body (enD pre.length (.str (W w) :: WsD r)) sd = _
      rw [enD_cons]
      show (match g _ sd with
        | none => Fl.bad
        | some sd1 => match body sd1 with
          | .nx sd2 => goFor g body _ sd2
          | .ct sd2 => goFor g body _ sd2
          | .bk sd2 => .nx sd2
          | r => r) = _
      rw [g1]
      dsimp only
      rw [hy]
    rw [fwR]
    cases ho : oneW pre.length d e w with
    | none =>
      rw [ho] at h
      obtain ⟨sd2, h1, h2⟩ := h
      exact ⟨sd2, eg _ h1, h2⟩
    | some q =>
      obtain ⟨d2, e2⟩ := q
      rw [ho] at h
      obtain ⟨sd2, h1, h2⟩ := h
      have he2 : e2 = true ↔ ∃ p, pre ++ [w] = p ++ [[40]] := by
        have hw : (∃ p, pre ++ [w] = p ++ [[40]]) ↔ w = [40] := by
          constructor
          · rintro ⟨p, hp⟩
            have := (List.append_inj' hp rfl).2
            injection this
          · rintro rfl
            exact ⟨pre, rfl⟩
        rw [hw]
        unfold oneW at ho
        by_cases z : w = [40]
        · rw [if_pos z] at ho
          split at ho
          · cases ho; simp [z]
          · cases ho
        · rw [if_neg z] at ho
          have : e2 = false := by
            split at ho
            · split at ho
              · cases ho; rfl
              · cases ho
            · split at ho
              · cases ho; rfl
              · cases ho
          simp [this, z]
      have hd2 : d2 ≤ (pre ++ [w]).length := by
        rw [List.length_append, List.length_singleton]
        unfold oneW at ho
        split at ho
        · split at ho
          · cases ho; omega
          · cases ho
        · split at ho
          · split at ho
            · cases ho; omega
            · cases ho
          · split at ho
            · cases ho; omega
            · cases ho
      have ih := loop_R S P Q hstep hQ r (pre ++ [w]) d2 e2 sd2 (by rw [List.append_assoc]; exact hq) h2 he2 hd2
      rw [List.length_append, List.length_singleton] at ih
      dsimp only
      cases hf : fwR r (pre.length + 1) d2 e2 with
      | ok q =>
        rw [hf] at ih
        obtain ⟨sd3, i1, i2⟩ := ih
        exact ⟨sd3, (eg _ h1).trans i1, i2⟩
      | error k =>
        rw [hf] at ih
        obtain ⟨sd3, i1, i2⟩ := ih
        exact ⟨sd3, (eg _ h1).trans i1, i2⟩
theorem cut1_S {a : SD → ER D} {sd sd1 : SD} {w : List Nat} (hw : w.length ≤ 16777216) (h : a sd = .ok (.str (W w)) sd1) : mCutX a oNone (oSome (mC (.int 1))) sd = .ok (.str (W (w.take 1))) sd1 := by
  unfold mCutX
  rw [h]
  show (if (W w).length ≤ 16777216 then ER.ok (D.str (cutS (W w) none (some 1))) sd1 else .bad) = _
  rw [W_len, if_pos hw, W_head]
theorem cutr_S {a : SD → ER D} {sd sd1 : SD} {w : List Nat} (hw : w.length ≤ 16777216) (h : a sd = .ok (.str (W w)) sd1) : mCutX a (oSome (mC (.int 1))) oNone sd = .ok (.str (W (w.drop 1))) sd1 := by
  unfold mCutX
  rw [h]
  show (if (W w).length ≤ 16777216 then ER.ok (D.str (cutS (W w) (some 1) none)) sd1 else .bad) = _
  rw [W_len, if_pos hw, W_tail]
theorem op_v {f : D → D → Option D} {a b : SD → ER D} {sd sd1 sd2 : SD} {x y z : D} (ha : a sd = .ok x sd1) (hb : b sd1 = .ok y sd2) (h : f x y = some z) : mOp f a b sd = .ok z sd2 := by
  unfold mOp
  rw [ha]
  simp only [ER.bind]
  rw [hb]
  simp only [ER.bind, h, ER.opt]
theorem andv_t {a b : SD → ER D} {sd sd1 : SD} (h : a sd = .ok (.bl true) sd1) : mAndV a b sd = b sd1 := by
  unfold mAndV; rw [h]; rfl
theorem andv_f {a b : SD → ER D} {sd sd1 : SD} (h : a sd = .ok (.bl false) sd1) : mAndV a b sd = .ok (.bl false) sd1 := by
  unfold mAndV; rw [h]; rfl
theorem orv_t {a b : SD → ER D} {sd sd1 : SD} (h : a sd = .ok (.bl true) sd1) : mOrV a b sd = .ok (.bl true) sd1 := by
  unfold mOrV; rw [h]; rfl
theorem orv_f {a b : SD → ER D} {sd sd1 : SD} (h : a sd = .ok (.bl false) sd1) : mOrV a b sd = b sd1 := by
  unfold mOrV; rw [h]; rfl
theorem call1_v {f : List OT → ER OT} {a : SD → ER D} {sd sd1 s2 : SD} {x y : D} (ha : a sd = .ok x sd1) (hf : f [.fz x] = .ok (.fz y) s2) : mView (mCall0 f (mCons a mNil)) sd = .ok y sd1 := by
  unfold mView mCall0 mCons mNil
  rw [ha]
  simp only [ER.bind, List.map, hf, OT.view]
theorem ret_d {m : SD → ER D} {sd sd1 : SD} {d : D} (h : m sd = .ok d sd1) : sRet (mOwn m) sd = .rt (.fz d) sd1 := by
  unfold sRet mOwn; rw [h]; rfl
theorem set_d {k : Nat} {m : SD → ER D} {sd : SD} {d : D} {l : List S} {pa : List OT} (h : m sd = .ok d ⟨l, pa⟩) (hk : k < l.length) : sSet k (mOwn m) sd = .nx ⟨l.set k (.ow (.fz d)), pa⟩ := by
  unfold sSet mOwn
  rw [h]
  show (if k < l.length then _ else _) = _
  rw [if_pos hk]
theorem len_v {a : SD → ER D} {sd sd1 : SD} {w : List Nat} (hw : w.length ≤ 16777216) (h : a sd = .ok (.str (W w)) sd1) : mCall dLen (mCons a mNil) sd = .ok (.int w.length) sd1 := by
  unfold mCall mCons mNil
  rw [h]
  simp only [ER.bind, len_S hw, ER.opt]
theorem in_let (w : List Nat) {c : Nat} {r : List Nat} (e : w = c :: r) : dIn false (.str (W (w.take 1))) (.str (Str.ofString "fblrud")) = some (.bl (decide (c ∈ letters))) := by
  subst e
  show some (D.bl (inS (W [c]) (Str.ofString "fblrud") != false)) = _
  rw [lit_let, inS_W, W_cps]
  show some (D.bl (decide (c ∈ letters) != false)) = _
  cases decide (c ∈ letters) <;> rfl
theorem step_word_any (cs : Nat → Addr) (w : List Nat) (hw : w.length ≤ 16777216) : m_is_step_word cs [.fz (.str (W w))] = .ok (.fz (.bl (sw w))) ⟨[], [.fz (.str (W w))]⟩ := by
  have ent : entry 1 [.fz (.str (W w))] = ⟨[.ow (.fz (.str (W w)))], [.fz (.str (W w))]⟩ := rfl
  generalize hS : (⟨[.ow (.fz (.str (W w)))], [.fz (.str (W w))]⟩ : SD) = sd at ent
  have v0 : mVar 0 sd = .ok (.str (W w)) sd := by rw [← hS]; rfl
  have pa : sd.pa = [.fz (.str (W w))] := by rw [← hS]
  have c1 := cut1_S hw v0
  have t1 : mOp dNe (mCutX (mVar 0) oNone (oSome (mC (.int 1)))) (mC (.str (Str.ofString ""))) sd = .ok (.bl (!decide (w.take 1 = []))) sd := op_v c1 rfl (by rw [lit_nil]; exact ne_S _ _)
  have fin : ∀ b, m_is_step_word_1 cs sd = .rt (.fz (.bl b)) sd → m_is_step_word cs [.fz (.str (W w))] = .ok (.fz (.bl b)) ⟨[], [.fz (.str (W w))]⟩ := fun b hb => by
    unfold m_is_step_word asDef
    rw [ent, hb]
    show ER.ok _ _ = _
    rw [pa]
  refine fin _ (ret_d ?_)
  cases w with
  | nil => exact andv_f t1
  | cons c r =>
    rw [andv_t t1]
    have t2 : mOp (dIn false) (mCutX (mVar 0) oNone (oSome (mC (.int 1)))) (mC (.str (Str.ofString "fblrud"))) sd = .ok (.bl (decide (c ∈ letters))) sd := op_v c1 rfl (in_let _ rfl)
    by_cases hc : c ∈ letters
    · rw [decide_eq_true hc] at t2
      rw [andv_t t2]
      have t3 : mOp dEq (mCall dLen (mCons (mVar 0) mNil)) (mC (.int 1)) sd = .ok (.bl (decide (r = []))) sd := op_v (len_v hw v0) rfl (by
        unfold dEq
        rw [eqB_int]
        show some (D.bl _) = _
        congr 2
        exact decide_eq_decide.mpr (by
          rw [List.length_cons]
          constructor
          · intro z
            exact List.length_eq_zero_iff.mp (by omega)
          · rintro rfl
            rfl))
      show _ = ER.ok (D.bl (decide (c ∈ letters) && (decide (r = []) || numB r))) sd
      rw [decide_eq_true hc, Bool.true_and]
      by_cases hr : r = []
      · rw [decide_eq_true hr] at t3
        rw [orv_t t3, decide_eq_true hr, Bool.true_or]
      · rw [decide_eq_false hr] at t3
        rw [orv_f t3, decide_eq_false hr, Bool.false_or]
        exact call1_v (cutr_S hw v0) (is_number_any cs r (by rw [List.length_cons] at hw; omega))
    · rw [decide_eq_false hc] at t2
      rw [andv_f t2]
      show _ = ER.ok (D.bl (decide (c ∈ letters) && _)) sd
      rw [decide_eq_false hc, Bool.false_and]
theorem int2_bl (b : Bool) : dInt2 [.bl b] = some (.int (if b = true then 1 else 0)) := by cases b <;> rfl
noncomputable abbrev fwR0 (ws : D) : List OT := [.fz ws, .fz (.lst [])]
theorem fw_one (cs : Nat → Addr) {ws : D} (i : Nat) (w : List Nat) (d : Nat) (e : Bool) (hw : w.length ≤ 16777216) : match oneW i d e w with
      | some (d2, e2) => m_first_wrong_b1 cs (fwSD ws d e (.ow (.fz (.int i))) (.ow (.fz (.str (W w))))) = .nx (fwSD ws d2 e2 (.ow (.fz (.int i))) (.ow (.fz (.str (W w)))))
      | none => ∃ sd2, m_first_wrong_b1 cs (fwSD ws d e (.ow (.fz (.int i))) (.ow (.fz (.str (W w))))) = .rt (.fz (.int i)) sd2 ∧ sd2.pa = fwR0 ws := by
  -- the last test of a round
  have s16 : ∀ (d : Nat) (e : Bool), m_first_wrong_16 cs (fwSD ws d e (.ow (.fz (.int i))) (.ow (.fz (.str (W w))))) = if i + 1 + d + (if e = true then 1 else 0) ≤ 1000 then .nx (fwSD ws d e (.ow (.fz (.int i))) (.ow (.fz (.str (W w))))) else .rt (.fz (.int i)) (fwSD ws d e (.ow (.fz (.int i))) (.ow (.fz (.str (W w))))) := fun d e => by
    have t : mTest (mOp dGt (mOp dAdd (mOp dAdd (mOp dAdd (mVar 4) (mC (.int 1))) (mVar 2)) (mCall dInt2 (mCons (mVar 3) mNil))) (mC (.int 1000))) (fwSD ws d e (.ow (.fz (.int i))) (.ow (.fz (.str (W w))))) = .ok (decide ((1000 : Int) < (i : Int) + 1 + d + (if e = true then 1 else 0))) (fwSD ws d e (.ow (.fz (.int i))) (.ow (.fz (.str (W w))))) := by cases e <;> rfl
    unfold m_first_wrong_16
    rw [if_b t]
    by_cases h : i + 1 + d + (if e = true then 1 else 0) ≤ 1000
    · rw [if_pos h, if_neg (by rw [decide_eq_false (by cases e <;> simp at h ⊢ <;> omega)]; exact Bool.false_ne_true)]
      rfl
    · rw [if_neg h, if_pos (by rw [decide_eq_true (by cases e <;> simp at h ⊢ <;> omega)])]
      rfl
  have t1 : mTest (mOp dEq (mVar 5) (mC (.str (Str.ofString "(")))) (fwSD ws d e (.ow (.fz (.int i))) (.ow (.fz (.str (W w))))) = .ok (decide (w = [40])) (fwSD ws d e (.ow (.fz (.int i))) (.ow (.fz (.str (W w))))) := op_t rfl rfl (by rw [lit_open]; exact eq_S w [40])
  unfold m_first_wrong_b1
  unfold oneW
  by_cases h1 : w = [40]
  · rw [if_pos h1]
    rw [decide_eq_true h1] at t1
    have e14 : ∀ x, m_first_wrong_6 cs (fwSD ws (d + 1) true (.ow (.fz (.int i))) (.ow (.fz (.str (W w))))) = x → m_first_wrong_14 cs (fwSD ws d e (.ow (.fz (.int i))) (.ow (.fz (.str (W w))))) = x := fun x hx => by
      unfold m_first_wrong_14
      rw [if_b t1, if_pos rfl]
      show m_first_wrong_6 cs (fwSD ws (d + 1) true (.ow (.fz (.int i))) (.ow (.fz (.str (W w))))) = x
      exact hx
    have t6 : mTest (mOp dGt (mVar 2) (mC (.int 12))) (fwSD ws (d + 1) true (.ow (.fz (.int i))) (.ow (.fz (.str (W w))))) = .ok (decide ((12 : Int) < (d + 1 : Nat))) (fwSD ws (d + 1) true (.ow (.fz (.int i))) (.ow (.fz (.str (W w))))) := rfl
    by_cases hd : d + 1 ≤ 12
    · have e6 : m_first_wrong_6 cs (fwSD ws (d + 1) true (.ow (.fz (.int i))) (.ow (.fz (.str (W w))))) = .nx (fwSD ws (d + 1) true (.ow (.fz (.int i))) (.ow (.fz (.str (W w))))) := by
        unfold m_first_wrong_6
        rw [if_b t6, if_neg (by rw [decide_eq_false (by omega)]; exact Bool.false_ne_true)]
        rfl
      have q := seq_nx (e14 _ e6) (s16 (d + 1) true)
      rw [if_pos rfl] at q
      by_cases hl : i + 1 + (d + 1) + 1 ≤ 1000
      · rw [if_pos hl] at q
        rw [if_pos ⟨hd, hl⟩]
        exact q
      · rw [if_neg hl] at q
        rw [if_neg fun z => hl z.2]
        exact ⟨_, q, rfl⟩
    · have e6 : m_first_wrong_6 cs (fwSD ws (d + 1) true (.ow (.fz (.int i))) (.ow (.fz (.str (W w))))) = .rt (.fz (.int i)) (fwSD ws (d + 1) true (.ow (.fz (.int i))) (.ow (.fz (.str (W w))))) := by
        unfold m_first_wrong_6
        rw [if_b t6, if_pos (by rw [decide_eq_true (by omega)])]
        rfl
      rw [if_neg fun z => hd z.1]
      refine ⟨fwSD ws (d + 1) true (.ow (.fz (.int i))) (.ow (.fz (.str (W w)))), ?_, rfl⟩
      unfold sSeq
      rw [e14 _ e6]
      rfl
  · rw [if_neg h1]
    rw [decide_eq_false h1] at t1
    have e14 : m_first_wrong_14 cs (fwSD ws d e (.ow (.fz (.int i))) (.ow (.fz (.str (W w))))) = m_first_wrong_13 cs (fwSD ws d e (.ow (.fz (.int i))) (.ow (.fz (.str (W w))))) := by
      unfold m_first_wrong_14
      rw [if_b t1, if_neg Bool.false_ne_true]
    have v5 : mVar 5 (fwSD ws d e (.ow (.fz (.int i))) (.ow (.fz (.str (W w))))) = .ok (.str (W w)) (fwSD ws d e (.ow (.fz (.int i))) (.ow (.fz (.str (W w))))) := rfl
    have t13 : mTest (mOp dEq (mCutX (mVar 5) oNone (oSome (mC (.int 1)))) (mC (.str (Str.ofString ")")))) (fwSD ws d e (.ow (.fz (.int i))) (.ow (.fz (.str (W w))))) = .ok (decide (w.take 1 = [41])) (fwSD ws d e (.ow (.fz (.int i))) (.ow (.fz (.str (W w))))) := op_t (cut1_S hw v5) rfl (by rw [lit_close]; exact eq_S _ _)
    by_cases h2 : w.take 1 = [41]
    · rw [if_pos h2]
      rw [decide_eq_true h2] at t13
      have e13 : m_first_wrong_13 cs (fwSD ws d e (.ow (.fz (.int i))) (.ow (.fz (.str (W w))))) = sSeq (m_first_wrong_8 cs) (m_first_wrong_9 cs) (fwSD ws d e (.ow (.fz (.int i))) (.ow (.fz (.str (W w))))) := by
        unfold m_first_wrong_13
        rw [if_b t13, if_pos rfl]
      have tA : mTest (mOp dEq (mVar 2) (mC (.int 0))) (fwSD ws d e (.ow (.fz (.int i))) (.ow (.fz (.str (W w))))) = .ok (decide (d = 0)) (fwSD ws d e (.ow (.fz (.int i))) (.ow (.fz (.str (W w))))) := op_t (x := .int d) rfl rfl (by
        unfold dEq
        rw [eqB_int]
        show some (D.bl _) = _
        congr 2
        exact decide_eq_decide.mpr (by omega))
      have tB : mTest (mVar 3) (fwSD ws d e (.ow (.fz (.int i))) (.ow (.fz (.str (W w))))) = .ok e (fwSD ws d e (.ow (.fz (.int i))) (.ow (.fz (.str (W w))))) := rfl
      have tC : mTest (mView (mCall0 (m_is_number cs) (mCons (mCutX (mVar 5) (oSome (mC (.int 1))) oNone) mNil))) (fwSD ws d e (.ow (.fz (.int i))) (.ow (.fz (.str (W w))))) = .ok (numB (w.drop 1)) (fwSD ws d e (.ow (.fz (.int i))) (.ow (.fz (.str (W w))))) := by
        unfold mTest
        rw [call1_v (cutr_S hw v5) (is_number_any cs (w.drop 1) (by rw [List.length_drop]; omega))]
        rfl
      have t8 := or_b tA (or_b tB (not_b tC))
      by_cases h3 : d ≠ 0 ∧ e = false ∧ numB (w.drop 1) = true
      · obtain ⟨a1, a2, a3⟩ := h3
        have e8 : m_first_wrong_8 cs (fwSD ws d e (.ow (.fz (.int i))) (.ow (.fz (.str (W w))))) = .nx (fwSD ws d e (.ow (.fz (.int i))) (.ow (.fz (.str (W w))))) := by
          unfold m_first_wrong_8
          rw [if_b t8, if_neg (by rw [decide_eq_false a1, a2, a3]; decide)]
          rfl
        have e9 : m_first_wrong_9 cs (fwSD ws d e (.ow (.fz (.int i))) (.ow (.fz (.str (W w))))) = .nx (fwSD ws (d - 1 : Nat) e (.ow (.fz (.int i))) (.ow (.fz (.str (W w))))) := by
          have : (d : Int) - 1 = ((d - 1 : Nat) : Int) := by omega
          have o : mOp dSub (mVar 2) (mC (.int 1)) (fwSD ws d e (.ow (.fz (.int i))) (.ow (.fz (.str (W w))))) = .ok (.int (d - 1 : Nat)) (fwSD ws d e (.ow (.fz (.int i))) (.ow (.fz (.str (W w))))) := op_v (x := .int d) rfl rfl (by rw [← this]; rfl)
          exact set_d o (by show 2 < 6; decide)
        have q := seq_nx (e14.trans (e13.trans (seq_nx e8 e9))) (s16 (d - 1) e)
        subst a2
        rw [if_neg Bool.false_ne_true, Nat.add_zero] at q
        by_cases hl : i + 1 + (d - 1) ≤ 1000
        · rw [if_pos hl] at q
          rw [if_pos ⟨a1, rfl, a3, hl⟩]
          exact q
        · rw [if_neg hl] at q
          rw [if_neg fun z => hl z.2.2.2]
          exact ⟨_, q, rfl⟩
      · rw [if_neg fun z => h3 ⟨z.1, z.2.1, z.2.2.1⟩]
        have e8 : m_first_wrong_8 cs (fwSD ws d e (.ow (.fz (.int i))) (.ow (.fz (.str (W w))))) = .rt (.fz (.int i)) (fwSD ws d e (.ow (.fz (.int i))) (.ow (.fz (.str (W w))))) := by
          unfold m_first_wrong_8
          rw [if_b t8, if_pos]
          · rfl
          · cases hz : (decide (d = 0) || (e || !numB (w.drop 1))) with
            | true => rfl
            | false =>
              simp only [Bool.or_eq_false_iff, decide_eq_false_iff_not, Bool.not_eq_false'] at hz
              exact absurd hz h3
        refine ⟨fwSD ws d e (.ow (.fz (.int i))) (.ow (.fz (.str (W w)))), ?_, rfl⟩
        unfold sSeq
        rw [e14, e13]
        unfold sSeq
        rw [e8]
        rfl
    · rw [if_neg h2]
      rw [decide_eq_false h2] at t13
      have e13 : m_first_wrong_13 cs (fwSD ws d e (.ow (.fz (.int i))) (.ow (.fz (.str (W w))))) = m_first_wrong_12 cs (fwSD ws d e (.ow (.fz (.int i))) (.ow (.fz (.str (W w))))) := by
        unfold m_first_wrong_13
        rw [if_b t13, if_neg Bool.false_ne_true]
      have tA : mTest (mView (mCall0 (m_is_step_word cs) (mCons (mVar 5) mNil))) (fwSD ws d e (.ow (.fz (.int i))) (.ow (.fz (.str (W w))))) = .ok (sw w) (fwSD ws d e (.ow (.fz (.int i))) (.ow (.fz (.str (W w))))) := by
        unfold mTest
        rw [call1_v v5 (step_word_any cs w hw)]
        rfl
      have tB : mTest (mOp (dIn false) (mVar 5) (mVar 1)) (fwSD ws d e (.ow (.fz (.int i))) (.ow (.fz (.str (W w))))) = .ok false (fwSD ws d e (.ow (.fz (.int i))) (.ow (.fz (.str (W w))))) := op_t rfl rfl rfl
      have t12 := or_b tA tB
      rw [Bool.or_false] at t12
      by_cases h3 : sw w = true
      · rw [h3] at t12
        have e12 : m_first_wrong_12 cs (fwSD ws d e (.ow (.fz (.int i))) (.ow (.fz (.str (W w))))) = .nx (fwSD ws d false (.ow (.fz (.int i))) (.ow (.fz (.str (W w))))) := by
          unfold m_first_wrong_12
          rw [if_b t12, if_pos rfl]
          rfl
        have q := seq_nx (e14.trans (e13.trans e12)) (s16 d false)
        rw [if_neg Bool.false_ne_true, Nat.add_zero] at q
        by_cases hl : i + 1 + d ≤ 1000
        · rw [if_pos hl] at q
          rw [if_pos ⟨h3, hl⟩]
          exact q
        · rw [if_neg hl] at q
          rw [if_neg fun z => hl z.2]
          exact ⟨_, q, rfl⟩
      · have h4 : sw w = false := by simpa using h3
        rw [h4] at t12
        have e12 : m_first_wrong_12 cs (fwSD ws d e (.ow (.fz (.int i))) (.ow (.fz (.str (W w))))) = .rt (.fz (.int i)) (fwSD ws d e (.ow (.fz (.int i))) (.ow (.fz (.str (W w))))) := by
          unfold m_first_wrong_12
          rw [if_b t12, if_neg Bool.false_ne_true]
          rfl
        rw [if_neg fun z => h3 z.1]
        refine ⟨fwSD ws d e (.ow (.fz (.int i))) (.ow (.fz (.str (W w)))), ?_, rfl⟩
        unfold sSeq
        rw [e14, e13, e12]
        rfl
theorem optN_le {ws : List (List Nat)} : optN (some ws.length) = .int (WsD ws).length := by rw [WsD_len]; rfl
theorem first_wrong_any (cs : Nat → Addr) {ws : List (List Nat)} (hl : ws.length ≤ 16777216) (hw : ∀ w ∈ ws, w.length ≤ 16777216) : m_first_wrong cs [.fz (.lst (WsD ws)), .fz (.lst [])] = .ok (.fz (optN (due ws))) ⟨[], [.fz (.lst (WsD ws)), .fz (.lst [])]⟩ := by
  have R := loop_R (g := fwG) (body := m_first_wrong_b1 cs) (fun d e sd => ∃ x4 x5, sd = fwSD (.lst (WsD ws)) d e x4 x5) (fwR0 (.lst (WsD ws))) (fun l => ∀ w ∈ l, w.length ≤ 16777216)
    (fun pre w d e sd hq hS he _ => by
      obtain ⟨x4, x5, rfl⟩ := hS
      refine ⟨fwSD (.lst (WsD ws)) d e (.ow (.fz (.int pre.length))) (.ow (.fz (.str (W w)))), rfl, ?_⟩
      have h := fw_one cs (ws := .lst (WsD ws)) pre.length w d e (hq w (by simp))
      revert h
      cases oneW pre.length d e w with
      | none => exact id
      | some q => exact fun h => ⟨_, h, _, _, rfl⟩)
    (fun a b h w hw => h w (List.mem_append_left _ hw)) ws [] 0 false (fwSD (.lst (WsD ws)) 0 false .un .un) (by rw [List.nil_append]; exact hw) ⟨_, _, rfl⟩ (by simp) (Nat.zero_le _)
  have s1 : m_first_wrong_1 cs ⟨[.ow (.fz (.lst (WsD ws))), .ow (.fz (.lst [])), .un, .un, .un, .un], fwR0 (.lst (WsD ws))⟩ = .nx ⟨[.ow (.fz (.lst (WsD ws))), .ow (.fz (.lst [])), .ow (.fz (.int 0)), .un, .un, .un], fwR0 (.lst (WsD ws))⟩ := rfl
  have s2 : m_first_wrong_2 cs ⟨[.ow (.fz (.lst (WsD ws))), .ow (.fz (.lst [])), .ow (.fz (.int 0)), .un, .un, .un], fwR0 (.lst (WsD ws))⟩ = .nx (fwSD (.lst (WsD ws)) 0 false .un .un) := rfl
  have s17 : ∀ x, goFor fwG (m_first_wrong_b1 cs) (enD 0 (WsD ws)) (fwSD (.lst (WsD ws)) 0 false .un .un) = x → m_first_wrong_17 cs (fwSD (.lst (WsD ws)) 0 false .un .un) = x := fun x h => h
  have ent : entry 6 [.fz (.lst (WsD ws)), .fz (.lst [])] = ⟨[.ow (.fz (.lst (WsD ws))), .ow (.fz (.lst [])), .un, .un, .un, .un], fwR0 (.lst (WsD ws))⟩ := rfl
  unfold m_first_wrong asDef
  rw [ent, seq_nx s1 (seq_nx s2 rfl)]
  unfold due
  rw [List.length_nil] at R
  cases hf : fwR ws 0 0 false with
  | error k =>
    rw [hf] at R
    obtain ⟨sd2, r1, r2⟩ := R
    unfold sSeq
    rw [s17 _ r1]
    show ER.ok _ _ = _
    rw [r2]
    rfl
  | ok q =>
    obtain ⟨d, e⟩ := q
    rw [hf] at R
    obtain ⟨sd2, r1, x4, x5, rfl⟩ := R
    have t18 : mTest (mOp dEq (mVar 2) (mC (.int 0))) (fwSD (.lst (WsD ws)) d e x4 x5) = .ok (decide (d = 0)) (fwSD (.lst (WsD ws)) d e x4 x5) := op_t (x := .int d) rfl rfl (by
        unfold dEq
        rw [eqB_int]
        show some (D.bl _) = _
        congr 2
        exact decide_eq_decide.mpr (by omega))
    have s18 : m_first_wrong_18 cs (fwSD (.lst (WsD ws)) d e x4 x5) = .rt (.fz (optN (if d = 0 then none else some ws.length))) (fwSD (.lst (WsD ws)) d e x4 x5) := by
      refine ret_d ?_
      unfold mIf
      rw [t18]
      by_cases hd : d = 0
      · rw [if_pos hd]
        show (if decide (d = 0) = true then _ else _) = _
        rw [if_pos (decide_eq_true hd)]
        rfl
      · rw [if_neg hd]
        show (if decide (d = 0) = true then _ else _) = _
        rw [if_neg (by simpa using hd), optN_le]
        rfl
    rw [seq_nx (s17 _ r1) s18]
    rfl
noncomputable def lwSD (ws : D) (d : Nat) (x3 x4 : S) : SD := ⟨[.ow (.fz ws), .ow (.fz (.lst [])), .ow (.fz (.int d)), x3, x4], fwR0 ws⟩
noncomputable abbrev lwG : D → SD → Option SD := tgT 2 (tgCons (tgN 3) (tgCons (tgN 4) (tgNil)))
theorem eqV_S (l m : List Nat) : eqV (.str (W l)) (.str (W m)) = decide (l = m) := by
  show (W l == W m) = _
  by_cases h : l = m
  · subst h; simp
  · rw [decide_eq_false h]
    exact beq_eq_false_iff_ne.mpr fun z => h ((W_iff l m).mp z)
noncomputable def noLet (w : List Nat) : Bool := match w with | [] => true | c :: _ => !decide (c ∈ letters)
theorem notin_let (w : List Nat) : dIn true (.str (W (w.take 1))) (.lst (letters.map fun c => D.str (W [c]))) = some (.bl (noLet w)) := by
  show some (D.bl (inV (.str (W (w.take 1))) (letters.map fun c => V.str (W [c])) != true)) = _
  congr 2
  unfold inV
  rw [List.any_map]
  cases w with
  | nil => rfl
  | cons c r =>
    show (letters.any (fun x => eqV (.str (W [x])) (.str (W [c]))) != true) = !decide (c ∈ letters)
    have : letters.any (fun x => eqV (.str (W [x])) (.str (W [c]))) = decide (c ∈ letters) := by
      rw [Bool.eq_iff_iff, List.any_eq_true, decide_eq_true_iff]
      constructor
      · rintro ⟨x, hx, hy⟩
        rw [eqV_S] at hy
        have : x = c := by simpa using hy
        exact this ▸ hx
      · intro h
        exact ⟨c, h, by rw [eqV_S]; simp⟩
    rw [this]
    cases decide (c ∈ letters) <;> rfl
theorem lw_one (cs : Nat → Addr) {ws : List (List Nat)} (pre : List (List Nat)) (w : List Nat) (d : Nat) (e : Bool) (hw : w.length ≤ 16777216) (hp : ∃ t, ws = pre ++ w :: t) (he : e = true ↔ ∃ p, pre = p ++ [[40]]) (hd : d ≤ pre.length) (h12 : d ≤ 12) : match oneW pre.length d e w with
      | some (d2, _) => d2 ≤ 12 ∧ m__law_wrong_b1 cs (lwSD (.lst (WsD ws)) d (.ow (.fz (.int pre.length))) (.ow (.fz (.str (W w))))) = .nx (lwSD (.lst (WsD ws)) d2 (.ow (.fz (.int pre.length))) (.ow (.fz (.str (W w)))))
      | none => ∃ sd2, m__law_wrong_b1 cs (lwSD (.lst (WsD ws)) d (.ow (.fz (.int pre.length))) (.ow (.fz (.str (W w))))) = .rt (.fz (.int pre.length)) sd2 ∧ sd2.pa = fwR0 (.lst (WsD ws)) := by
  -- the word before
  have hx : ∀ p x, pre = p ++ [x] → dIx (.lst (WsD ws)) (.int ((pre.length : Int) - 1)) = some (.str (W x)) := fun p x h => by
    obtain ⟨t, ht⟩ := hp
    have e1 : (pre.length : Int) - 1 = p.length := by rw [h, List.length_append, List.length_singleton]; omega
    have := at_mid p x (w :: t)
    rw [e1, ht, h, List.append_assoc]
    exact this
  have hne0 : d ≠ 0 → pre ≠ [] := fun z h => by rw [h] at hd; exact z (Nat.le_zero.mp hd)
  generalize pre.length = i at *
  generalize WsD ws = wd at *
  have s11 : ∀ (d : Nat), m__law_wrong_11 cs (lwSD (.lst wd) d (.ow (.fz (.int i))) (.ow (.fz (.str (W w))))) = if d ≤ 12 ∧ i + 1 + d + (if w = [40] then 1 else 0) ≤ 1000 then .nx (lwSD (.lst wd) d (.ow (.fz (.int i))) (.ow (.fz (.str (W w))))) else .rt (.fz (.int i)) (lwSD (.lst wd) d (.ow (.fz (.int i))) (.ow (.fz (.str (W w))))) := fun d => by
    have tA : mTest (mOp dGt (mVar 2) (mC (.int 12))) (lwSD (.lst wd) d (.ow (.fz (.int i))) (.ow (.fz (.str (W w))))) = .ok (decide ((12 : Int) < d)) (lwSD (.lst wd) d (.ow (.fz (.int i))) (.ow (.fz (.str (W w))))) := rfl
    have q : mOp dEq (mVar 4) (mC (.str (Str.ofString "("))) (lwSD (.lst wd) d (.ow (.fz (.int i))) (.ow (.fz (.str (W w))))) = .ok (.bl (decide (w = [40]))) (lwSD (.lst wd) d (.ow (.fz (.int i))) (.ow (.fz (.str (W w))))) := op_v rfl rfl (by rw [lit_open]; exact eq_S w [40])
    have q2 : mCall dInt2 (mCons (mOp dEq (mVar 4) (mC (.str (Str.ofString "(")))) mNil) (lwSD (.lst wd) d (.ow (.fz (.int i))) (.ow (.fz (.str (W w))))) = .ok (.int (if w = [40] then 1 else 0)) (lwSD (.lst wd) d (.ow (.fz (.int i))) (.ow (.fz (.str (W w))))) := by
      unfold mCall mCons mNil
      rw [q]
      simp only [ER.bind, int2_bl, ER.opt, decide_eq_true_eq]
    have q3 : mOp dAdd (mOp dAdd (mOp dAdd (mVar 3) (mC (.int 1))) (mVar 2)) (mCall dInt2 (mCons (mOp dEq (mVar 4) (mC (.str (Str.ofString "(")))) mNil)) (lwSD (.lst wd) d (.ow (.fz (.int i))) (.ow (.fz (.str (W w))))) = .ok (.int ((i : Int) + 1 + d + (if w = [40] then 1 else 0))) (lwSD (.lst wd) d (.ow (.fz (.int i))) (.ow (.fz (.str (W w))))) := op_v (x := .int ((i : Int) + 1 + d)) rfl q2 rfl
    have tB : mTest (mOp dGt (mOp dAdd (mOp dAdd (mOp dAdd (mVar 3) (mC (.int 1))) (mVar 2)) (mCall dInt2 (mCons (mOp dEq (mVar 4) (mC (.str (Str.ofString "(")))) mNil))) (mC (.int 1000))) (lwSD (.lst wd) d (.ow (.fz (.int i))) (.ow (.fz (.str (W w))))) = .ok (decide ((1000 : Int) < (i : Int) + 1 + d + (if w = [40] then 1 else 0))) (lwSD (.lst wd) d (.ow (.fz (.int i))) (.ow (.fz (.str (W w))))) := op_t q3 rfl rfl
    unfold m__law_wrong_11
    rw [if_b (or_b tA tB)]
    by_cases h : d ≤ 12 ∧ i + 1 + d + (if w = [40] then 1 else 0) ≤ 1000
    · rw [if_pos h, if_neg]
      · rfl
      · obtain ⟨h1, h2⟩ := h
        rw [decide_eq_false (by omega), decide_eq_false (by split at h2 <;> simp [*] <;> omega)]
        decide
    · rw [if_neg h, if_pos]
      · rfl
      · by_cases h1 : d ≤ 12
        · have h2 : ¬ i + 1 + d + (if w = [40] then 1 else 0) ≤ 1000 := fun z => h ⟨h1, z⟩
          rw [decide_eq_true (p := (1000 : Int) < _) (by split at h2 <;> simp [*] <;> omega), Bool.or_true]
        · rw [decide_eq_true (p := (12 : Int) < _) (by omega), Bool.true_or]
  have t1 : mTest (mOp dEq (mVar 4) (mC (.str (Str.ofString "(")))) (lwSD (.lst wd) d (.ow (.fz (.int i))) (.ow (.fz (.str (W w))))) = .ok (decide (w = [40])) (lwSD (.lst wd) d (.ow (.fz (.int i))) (.ow (.fz (.str (W w))))) := op_t rfl rfl (by rw [lit_open]; exact eq_S w [40])
  unfold m__law_wrong_b1
  unfold oneW
  by_cases h1 : w = [40]
  · rw [if_pos h1]
    rw [decide_eq_true h1] at t1
    have e9 : m__law_wrong_9 cs (lwSD (.lst wd) d (.ow (.fz (.int i))) (.ow (.fz (.str (W w))))) = .nx (lwSD (.lst wd) (d + 1) (.ow (.fz (.int i))) (.ow (.fz (.str (W w))))) := by
      unfold m__law_wrong_9
      rw [if_b t1, if_pos rfl]
      rfl
    have q := seq_nx e9 (s11 (d + 1))
    rw [if_pos h1] at q
    by_cases hl : d + 1 ≤ 12 ∧ i + 1 + (d + 1) + 1 ≤ 1000
    · rw [if_pos hl] at q
      rw [if_pos hl]
      exact ⟨hl.1, q⟩
    · rw [if_neg hl] at q
      rw [if_neg hl]
      exact ⟨_, q, rfl⟩
  · rw [if_neg h1]
    rw [decide_eq_false h1] at t1
    have e9 : m__law_wrong_9 cs (lwSD (.lst wd) d (.ow (.fz (.int i))) (.ow (.fz (.str (W w))))) = m__law_wrong_8 cs (lwSD (.lst wd) d (.ow (.fz (.int i))) (.ow (.fz (.str (W w))))) := by
      unfold m__law_wrong_9
      rw [if_b t1, if_neg Bool.false_ne_true]
    have v4 : mVar 4 (lwSD (.lst wd) d (.ow (.fz (.int i))) (.ow (.fz (.str (W w))))) = .ok (.str (W w)) (lwSD (.lst wd) d (.ow (.fz (.int i))) (.ow (.fz (.str (W w))))) := rfl
    have t8 : mTest (mOp dEq (mCutX (mVar 4) oNone (oSome (mC (.int 1)))) (mC (.str (Str.ofString ")")))) (lwSD (.lst wd) d (.ow (.fz (.int i))) (.ow (.fz (.str (W w))))) = .ok (decide (w.take 1 = [41])) (lwSD (.lst wd) d (.ow (.fz (.int i))) (.ow (.fz (.str (W w))))) := op_t (cut1_S hw v4) rfl (by rw [lit_close]; exact eq_S _ _)
    have tN : mTest (mView (mCall0 (m__law_is_number cs) (mCons (mCutX (mVar 4) (oSome (mC (.int 1))) oNone) mNil))) (lwSD (.lst wd) d (.ow (.fz (.int i))) (.ow (.fz (.str (W w))))) = .ok (numB (w.drop 1)) (lwSD (.lst wd) d (.ow (.fz (.int i))) (.ow (.fz (.str (W w))))) := by
      unfold mTest
      rw [call1_v (cutr_S hw v4) (lnumber_any cs (w.drop 1) (by rw [List.length_drop]; omega))]
      rfl
    by_cases h2 : w.take 1 = [41]
    · rw [if_pos h2]
      rw [decide_eq_true h2] at t8
      have e8 : m__law_wrong_8 cs (lwSD (.lst wd) d (.ow (.fz (.int i))) (.ow (.fz (.str (W w))))) = sSeq (m__law_wrong_4 cs) (m__law_wrong_5 cs) (lwSD (.lst wd) d (.ow (.fz (.int i))) (.ow (.fz (.str (W w))))) := by
        unfold m__law_wrong_8
        rw [if_b t8, if_pos rfl]
      have tA : mTest (mOp dEq (mVar 2) (mC (.int 0))) (lwSD (.lst wd) d (.ow (.fz (.int i))) (.ow (.fz (.str (W w))))) = .ok (decide (d = 0)) (lwSD (.lst wd) d (.ow (.fz (.int i))) (.ow (.fz (.str (W w))))) := op_t (x := .int d) rfl rfl (by
        unfold dEq
        rw [eqB_int]
        show some (D.bl _) = _
        congr 2
        exact decide_eq_decide.mpr (by omega))
      have t4 : mOr (mTest (mOp dEq (mVar 2) (mC (.int 0)))) (mOr (mTest (mOp dEq (mOp dIx (mVar 0) (mOp dSub (mVar 3) (mC (.int 1)))) (mC (.str (Str.ofString "("))))) (mNot (mTest (mView (mCall0 (m__law_is_number cs) (mCons (mCutX (mVar 4) (oSome (mC (.int 1))) (oNone)) (mNil))))))) (lwSD (.lst wd) d (.ow (.fz (.int i))) (.ow (.fz (.str (W w))))) = .ok (decide (d = 0) || (e || !numB (w.drop 1))) (lwSD (.lst wd) d (.ow (.fz (.int i))) (.ow (.fz (.str (W w))))) := by
        by_cases h0 : d = 0
        · rw [decide_eq_true h0] at tA
          rw [or_l tA, decide_eq_true h0, Bool.true_or]
        · rw [decide_eq_false h0] at tA
          rw [decide_eq_false h0, Bool.false_or]
          refine or_r tA ?_
          obtain ⟨p, x, hpx⟩ : ∃ p x, pre = p ++ [x] := by
            have hne := hne0 h0
            exact ⟨pre.dropLast, pre.getLast hne, (List.dropLast_concat_getLast hne).symm⟩
          have ex : e = decide (x = [40]) := by
            rw [Bool.eq_iff_iff, he, decide_eq_true_iff, hpx]
            constructor
            · rintro ⟨p2, h⟩
              have := (List.append_inj' h rfl).2
              injection this
            · rintro rfl
              exact ⟨p, rfl⟩
          have o1 : mOp dIx (mVar 0) (mOp dSub (mVar 3) (mC (.int 1))) (lwSD (.lst wd) d (.ow (.fz (.int i))) (.ow (.fz (.str (W w))))) = .ok (.str (W x)) (lwSD (.lst wd) d (.ow (.fz (.int i))) (.ow (.fz (.str (W w))))) := op_v rfl rfl (hx p x hpx)
          have tB := op_t (f := dEq) (b := mC (.str (Str.ofString "("))) o1 rfl (by rw [lit_open]; exact eq_S x [40])
          rw [ex]
          exact or_b tB (not_b tN)
      by_cases h3 : d ≠ 0 ∧ e = false ∧ numB (w.drop 1) = true
      · obtain ⟨a1, a2, a3⟩ := h3
        have e4 : m__law_wrong_4 cs (lwSD (.lst wd) d (.ow (.fz (.int i))) (.ow (.fz (.str (W w))))) = .nx (lwSD (.lst wd) d (.ow (.fz (.int i))) (.ow (.fz (.str (W w))))) := by
          unfold m__law_wrong_4
          rw [if_b t4, if_neg (by rw [decide_eq_false a1, a2, a3]; decide)]
          rfl
        have e5 : m__law_wrong_5 cs (lwSD (.lst wd) d (.ow (.fz (.int i))) (.ow (.fz (.str (W w))))) = .nx (lwSD (.lst wd) (d - 1 : Nat) (.ow (.fz (.int i))) (.ow (.fz (.str (W w))))) := by
          have : (d : Int) - 1 = ((d - 1 : Nat) : Int) := by omega
          have o : mOp dSub (mVar 2) (mC (.int 1)) (lwSD (.lst wd) d (.ow (.fz (.int i))) (.ow (.fz (.str (W w))))) = .ok (.int (d - 1 : Nat)) (lwSD (.lst wd) d (.ow (.fz (.int i))) (.ow (.fz (.str (W w))))) := op_v (x := .int d) rfl rfl (by rw [← this]; rfl)
          exact set_d o (by show 2 < 5; decide)
        have q := seq_nx (e9.trans (e8.trans (seq_nx e4 e5))) (s11 (d - 1))
        rw [if_neg h1, Nat.add_zero] at q
        by_cases hl : i + 1 + (d - 1) ≤ 1000
        · rw [if_pos ⟨by omega, hl⟩] at q
          rw [if_pos ⟨a1, a2, a3, hl⟩]
          exact ⟨by omega, q⟩
        · rw [if_neg fun z => hl z.2] at q
          rw [if_neg fun z => hl z.2.2.2]
          exact ⟨_, q, rfl⟩
      · rw [if_neg fun z => h3 ⟨z.1, z.2.1, z.2.2.1⟩]
        have e4 : m__law_wrong_4 cs (lwSD (.lst wd) d (.ow (.fz (.int i))) (.ow (.fz (.str (W w))))) = .rt (.fz (.int i)) (lwSD (.lst wd) d (.ow (.fz (.int i))) (.ow (.fz (.str (W w))))) := by
          unfold m__law_wrong_4
          rw [if_b t4, if_pos]
          · rfl
          · cases hz : (decide (d = 0) || (e || !numB (w.drop 1))) with
            | true => rfl
            | false =>
              simp only [Bool.or_eq_false_iff, decide_eq_false_iff_not, Bool.not_eq_false'] at hz
              exact absurd hz h3
        refine ⟨lwSD (.lst wd) d (.ow (.fz (.int i))) (.ow (.fz (.str (W w)))), ?_, rfl⟩
        unfold sSeq
        rw [e9, e8]
        unfold sSeq
        rw [e4]
        rfl
    · rw [if_neg h2]
      rw [decide_eq_false h2] at t8
      have e8 : m__law_wrong_8 cs (lwSD (.lst wd) d (.ow (.fz (.int i))) (.ow (.fz (.str (W w))))) = m__law_wrong_7 cs (lwSD (.lst wd) d (.ow (.fz (.int i))) (.ow (.fz (.str (W w))))) := by
        unfold m__law_wrong_8
        rw [if_b t8, if_neg Bool.false_ne_true]
      have tA : mTest (mOp (dIn true) (mVar 4) (mVar 1)) (lwSD (.lst wd) d (.ow (.fz (.int i))) (.ow (.fz (.str (W w))))) = .ok true (lwSD (.lst wd) d (.ow (.fz (.int i))) (.ow (.fz (.str (W w))))) := op_t rfl rfl rfl
      have tB : mTest (mOp (dIn true) (mCutX (mVar 4) oNone (oSome (mC (.int 1)))) (mView (mCallL dListX (mCons (mC (.str (Str.ofString "fblrud"))) mNil)))) (lwSD (.lst wd) d (.ow (.fz (.int i))) (.ow (.fz (.str (W w))))) = .ok (noLet w) (lwSD (.lst wd) d (.ow (.fz (.int i))) (.ow (.fz (.str (W w))))) := op_t (cut1_S hw v4) (y := .lst (letters.map fun c => D.str (W [c]))) (by rfl) (notin_let w)
      have tC : mTest (mOp dNe (mCutX (mVar 4) (oSome (mC (.int 1))) oNone) (mC (.str (Str.ofString "")))) (lwSD (.lst wd) d (.ow (.fz (.int i))) (.ow (.fz (.str (W w))))) = .ok (!decide (w.drop 1 = [])) (lwSD (.lst wd) d (.ow (.fz (.int i))) (.ow (.fz (.str (W w))))) := op_t (cutr_S hw v4) rfl (by rw [lit_nil]; exact ne_S _ _)
      have t7 := and_b tA (or_b tB (and_b tC (not_b tN)))
      have key : (true && ((noLet w) || ((!decide (w.drop 1 = [])) && !numB (w.drop 1)))) = !sw w := by
        cases w with
        | nil => rfl
        | cons c r =>
          show (true && ((!decide (c ∈ letters)) || ((!decide (r = [])) && !numB r))) = !(decide (c ∈ letters) && (decide (r = []) || numB r))
          cases decide (c ∈ letters) <;> cases decide (r = []) <;> cases numB r <;> rfl
      rw [key] at t7
      by_cases h3 : sw w = true
      · rw [h3] at t7
        have e7 : m__law_wrong_7 cs (lwSD (.lst wd) d (.ow (.fz (.int i))) (.ow (.fz (.str (W w))))) = .nx (lwSD (.lst wd) d (.ow (.fz (.int i))) (.ow (.fz (.str (W w))))) := by
          unfold m__law_wrong_7
          rw [if_b t7, if_neg (by decide)]
          rfl
        have q := seq_nx (e9.trans (e8.trans e7)) (s11 d)
        rw [if_neg h1, Nat.add_zero] at q
        by_cases hl : i + 1 + d ≤ 1000
        · rw [if_pos ⟨h12, hl⟩] at q
          rw [if_pos ⟨h3, hl⟩]
          exact ⟨h12, q⟩
        · rw [if_neg fun z => hl z.2] at q
          rw [if_neg fun z => hl z.2]
          exact ⟨_, q, rfl⟩
      · have h4 : sw w = false := by simpa using h3
        rw [h4] at t7
        have e7 : m__law_wrong_7 cs (lwSD (.lst wd) d (.ow (.fz (.int i))) (.ow (.fz (.str (W w))))) = .rt (.fz (.int i)) (lwSD (.lst wd) d (.ow (.fz (.int i))) (.ow (.fz (.str (W w))))) := by
          unfold m__law_wrong_7
          rw [if_b t7, if_pos (by decide)]
          rfl
        rw [if_neg fun z => h3 z.1]
        refine ⟨lwSD (.lst wd) d (.ow (.fz (.int i))) (.ow (.fz (.str (W w)))), ?_, rfl⟩
        unfold sSeq
        rw [e9, e8, e7]
        rfl
theorem law_wrong_any (cs : Nat → Addr) {ws : List (List Nat)} (hl : ws.length ≤ 16777216) (hw : ∀ w ∈ ws, w.length ≤ 16777216) : m__law_wrong cs [.fz (.lst (WsD ws)), .fz (.lst [])] = .ok (.fz (optN (due ws))) ⟨[], [.fz (.lst (WsD ws)), .fz (.lst [])]⟩ := by
  have R := loop_R (g := lwG) (body := m__law_wrong_b1 cs) (fun d e sd => d ≤ 12 ∧ ∃ x3 x4, sd = lwSD (.lst (WsD ws)) d x3 x4) (fwR0 (.lst (WsD ws))) (fun l => ∃ t, ws = l ++ t)
    (fun pre w d e sd hq hS he hd => by
      obtain ⟨h12, x3, x4, rfl⟩ := hS
      obtain ⟨t, ht⟩ := hq
      rw [List.append_assoc] at ht
      refine ⟨lwSD (.lst (WsD ws)) d (.ow (.fz (.int pre.length))) (.ow (.fz (.str (W w)))), rfl, ?_⟩
      have h := lw_one cs (ws := ws) pre w d e (hw w (by rw [ht]; simp)) ⟨t, ht⟩ he hd h12
      revert h
      cases oneW pre.length d e w with
      | none => exact id
      | some q => exact fun h => ⟨_, h.2, h.1, _, _, rfl⟩)
    (fun a b h => by
      obtain ⟨t, ht⟩ := h
      exact ⟨b ++ t, by rw [ht, List.append_assoc]⟩) ws [] 0 false (lwSD (.lst (WsD ws)) 0 .un .un) ⟨[], by simp⟩ ⟨Nat.zero_le _, _, _, rfl⟩ (by simp) (Nat.zero_le _)
  have s1 : m__law_wrong_1 cs ⟨[.ow (.fz (.lst (WsD ws))), .ow (.fz (.lst [])), .un, .un, .un], fwR0 (.lst (WsD ws))⟩ = .nx (lwSD (.lst (WsD ws)) 0 .un .un) := rfl
  have s12 : ∀ x, goFor lwG (m__law_wrong_b1 cs) (enD 0 (WsD ws)) (lwSD (.lst (WsD ws)) 0 .un .un) = x → m__law_wrong_12 cs (lwSD (.lst (WsD ws)) 0 .un .un) = x := fun x h => h
  have ent : entry 5 [.fz (.lst (WsD ws)), .fz (.lst [])] = ⟨[.ow (.fz (.lst (WsD ws))), .ow (.fz (.lst [])), .un, .un, .un], fwR0 (.lst (WsD ws))⟩ := rfl
  unfold m__law_wrong asDef
  rw [ent, seq_nx s1 rfl]
  unfold due
  rw [List.length_nil] at R
  cases hf : fwR ws 0 0 false with
  | error k =>
    rw [hf] at R
    obtain ⟨sd2, r1, r2⟩ := R
    unfold sSeq
    rw [s12 _ r1]
    show ER.ok _ _ = _
    rw [r2]
    rfl
  | ok q =>
    obtain ⟨d, e⟩ := q
    rw [hf] at R
    obtain ⟨sd2, r1, _, x3, x4, rfl⟩ := R
    have t13 : mTest (mOp dGt (mVar 2) (mC (.int 0))) (lwSD (.lst (WsD ws)) d x3 x4) = .ok (decide ((0 : Int) < d)) (lwSD (.lst (WsD ws)) d x3 x4) := rfl
    have s13 : m__law_wrong_13 cs (lwSD (.lst (WsD ws)) d x3 x4) = .rt (.fz (optN (if d = 0 then none else some ws.length))) (lwSD (.lst (WsD ws)) d x3 x4) := by
      refine ret_d ?_
      unfold mIf
      rw [t13]
      by_cases hd : d = 0
      · rw [if_pos hd]
        show (if decide ((0 : Int) < d) = true then _ else _) = _
        rw [if_neg (by rw [hd]; decide)]
        rfl
      · rw [if_neg hd]
        show (if decide ((0 : Int) < d) = true then _ else _) = _
        rw [if_pos (decide_eq_true (by omega)), optN_le]
        rfl
    rw [seq_nx (s12 _ r1) s13]
    rfl
noncomputable def flatU : List (List Nd) → List (List Nat)
  | [] => []
  | o :: up => flatU up ++ (wds o ++ [[40]])
noncomputable def okU : List (List Nd) → Prop
  | [] => True
  | o :: up => noks o ∧ up.length + ndps o ≤ 12 ∧ okU up
theorem sw_word {w : List Nat} (h : sw w = true) : ∃ c n, c ∈ letters ∧ 1 ≤ n ∧ n ≤ 1000000000000000000000000000000 ∧ w = lw c n := by
  cases w with
  | nil => cases h
  | cons c r =>
    have h : (decide (c ∈ letters) && (decide (r = []) || numB r)) = true := h
    rw [Bool.and_eq_true, Bool.or_eq_true, decide_eq_true_iff, decide_eq_true_iff] at h
    obtain ⟨hc, h | h⟩ := h
    · exact ⟨c, 1, hc, by omega, by omega, by rw [h]; rfl⟩
    · obtain ⟨n, e, h1, h2⟩ := (numB_iff r).mp h
      exact ⟨c, n, hc, by omega, h2, by unfold lw; rw [if_neg (by omega), e]⟩
theorem parse_all : ∀ (ws : List (List Nat)) (i : Nat) (up : List (List Nd)) (cur : List Nd) (e e2 : Bool), fwR ws i up.length e = .ok (0, e2) → okU up → noks cur → up.length + ndps cur ≤ 12 → (up ≠ [] → e = false → cur ≠ []) → ∃ l, flatU up ++ (wds cur ++ ws) = wds l ∧ noks l ∧ ndps l ≤ 12
  | [], i, up, cur, e, e2, h, _, hc, hd, _ => by
    rw [fwR] at h
    have hu : up = [] := by
      injection h with h
      injection h with h
      exact List.length_eq_zero_iff.mp h
    subst hu
    exact ⟨cur, by rw [flatU, List.nil_append, List.append_nil], hc, by rw [List.length_nil] at hd; omega⟩
  | w :: r, i, up, cur, e, e2, h, hu, hc, hd, hn => by
    rw [fwR] at h
    cases ho : oneW i up.length e w with
    | none => rw [ho] at h; cases h
    | some q =>
      obtain ⟨d2, e3⟩ := q
      rw [ho] at h
      have h : fwR r (i + 1) d2 e3 = .ok (0, e2) := h
      unfold oneW at ho
      by_cases h1 : w = [40]
      · rw [if_pos h1] at ho
        split at ho
        · rename_i hb
          cases ho
          obtain ⟨l, l1, l2, l3⟩ := parse_all r (i + 1) (cur :: up) [] true e2 h ⟨hc, hd, hu⟩ (by rw [noks]; exact True.intro) (by rw [List.length_cons, ndps]; omega) (fun _ z => by cases z)
          refine ⟨l, ?_, l2, l3⟩
          rw [← l1, flatU, wds, h1]
          simp
        · cases ho
      · rw [if_neg h1] at ho
        by_cases h2 : w.take 1 = [41]
        · rw [if_pos h2] at ho
          split at ho
          · rename_i hb
            obtain ⟨b1, b2, b3, b4⟩ := hb
            cases ho
            obtain ⟨o, up2, rfl⟩ : ∃ o up2, up = o :: up2 := by
              cases up with
              | nil => exact absurd rfl b1
              | cons o up2 => exact ⟨o, up2, rfl⟩
            obtain ⟨n, en, n1, n2⟩ := (numB_iff _).mp b3
            have ew : w = 41 :: TL.numL n := by
              cases w with
              | nil => cases h2
              | cons c t =>
                injection h2 with h2
                rw [← en, h2]; rfl
            obtain ⟨u1, u2, u3⟩ := hu
            rw [List.length_cons] at hd h
            have hne := hn (by simp) b2
            obtain ⟨l, l1, l2, l3⟩ := parse_all r (i + 1) up2 (o ++ [.rp cur n]) false e2 (by
              have : up2.length + 1 - 1 = up2.length := by omega
              rw [this] at h
              exact h) u3 ((noks_app _ _).mpr ⟨u1, by rw [noks, nok, noks]; exact ⟨⟨hne, n1, n2, hc⟩, True.intro⟩⟩) (by
              rw [ndps_app]
              have : ndps [Nd.rp cur n] = 1 + ndps cur := by rw [ndps, ndps, ndp]; omega
              rw [this]; omega) (fun _ _ => by simp)
            refine ⟨l, ?_, l2, l3⟩
            rw [← l1, flatU, wds_app, ew]
            have : wds [Nd.rp cur n] = [40] :: (wds cur ++ [41 :: TL.numL n]) := by rw [wds, wds, wd]; simp
            rw [this]
            simp
          · cases ho
        · rw [if_neg h2] at ho
          split at ho
          · rename_i hb
            cases ho
            obtain ⟨c, n, c1, c2, c3, ew⟩ := sw_word hb.1
            obtain ⟨l, l1, l2, l3⟩ := parse_all r (i + 1) up (cur ++ [.st c n]) false e2 h hu ((noks_app _ _).mpr ⟨hc, by rw [noks, nok, noks]; exact ⟨⟨c1, c2, c3⟩, True.intro⟩⟩) (by
              rw [ndps_app]
              have : ndps [Nd.st c n] = 0 := by rw [ndps, ndps, ndp]; rfl
              rw [this]; omega) (fun _ _ => by simp)
            refine ⟨l, ?_, l2, l3⟩
            rw [← l1, wds_app, ew]
            have : wds [Nd.st c n] = [lw c n] := by rw [wds, wds, wd]; simp
            rw [this]
            simp
          · cases ho
theorem fwR_len : ∀ (ws : List (List Nat)) (i d : Nat) (e : Bool) (q : Nat × Bool), fwR ws i d e = .ok q → ws = [] ∨ i + ws.length ≤ 1000
  | [], _, _, _, _, _ => .inl rfl
  | w :: r, i, d, e, q, h => by
    refine .inr ?_
    rw [fwR] at h
    cases ho : oneW i d e w with
    | none => rw [ho] at h; cases h
    | some p =>
      obtain ⟨d2, e2⟩ := p
      rw [ho] at h
      have h : fwR r (i + 1) d2 e2 = .ok q := h
      rw [List.length_cons]
      rcases fwR_len r (i + 1) d2 e2 q h with rfl | z
      · have : i + 1 ≤ 1000 := by
          unfold oneW at ho
          split at ho
          · split at ho
            · omega
            · cases ho
          · split at ho
            · split at ho
              · omega
              · cases ho
            · split at ho
              · omega
              · cases ho
        rw [List.length_nil]; omega
      · omega
theorem due_none {ws : List (List Nat)} (h : due ws = none) : ∃ l, wds l = ws ∧ PrOk l := by
  unfold due at h
  cases hf : fwR ws 0 0 false with
  | error k => rw [hf] at h; cases h
  | ok q =>
    obtain ⟨d, e⟩ := q
    rw [hf] at h
    have h : (if d = 0 then none else some ws.length) = none := h
    split at h
    · rename_i hd
      subst hd
      obtain ⟨l, l1, l2, l3⟩ := parse_all ws 0 [] [] false e hf True.intro (by rw [noks]; exact True.intro) (by rw [ndps]; decide) (fun z => absurd rfl z)
      rw [flatU, wds, List.nil_append, List.nil_append] at l1
      refine ⟨l, l1.symm, l2, l3, ?_⟩
      rw [← l1]
      rcases fwR_len ws 0 0 false _ hf with z | z
      · rw [z]; exact Nat.zero_le _
      · omega
    · cases h
noncomputable def wordsOf (t : Str) : List (List Nat) := if t = W [] then [] else (Txt.split t (W [32])).map TL.tl
theorem W_tl2 (s : Str) : W (TL.tl s) = s := rfl
theorem map_W_tl : ∀ l : List Str, (l.map TL.tl).map W = l
  | [] => rfl
  | s :: r => by rw [List.map_cons, List.map_cons, map_W_tl r, W_tl2]
theorem text_words (t : Str) : textOf (wordsOf t) = t := by
  unfold wordsOf
  split
  · rename_i h
    rw [textOf_nil, h]
  · unfold textOf
    rw [map_W_tl, TL.join_eq]
    exact PySem.StrLaws.join_split t (W [32])
theorem sum_mem : ∀ {l : List Nat} {x : Nat}, x ∈ l → x ≤ l.sum
  | a :: r, x, h => by
    rw [List.sum_cons]
    rcases List.mem_cons.mp h with rfl | h
    · omega
    · have := sum_mem h; omega
theorem words_size (t : Str) : (wordsOf t).length ≤ t.length + 1 ∧ ∀ w ∈ wordsOf t, w.length ≤ t.length + 1 := by
  unfold wordsOf
  split
  · exact ⟨Nat.zero_le _, fun w h => by cases h⟩
  · have h := PyProof.Rows.split_weight t (W [32]) (by rw [W_len]; decide)
    refine ⟨by rw [List.length_map]; omega, fun w hw => ?_⟩
    obtain ⟨s, hs, rfl⟩ := List.mem_map.mp hw
    have := sum_mem (List.mem_map_of_mem (f := fun s : Str => s.length) hs)
    rw [← TL.len_tl]
    omega
theorem words_v {sd : SD} {a : SD → ER D} {t : Str} (ha : a sd = .ok (.str t) sd) (hl : t.length ≤ 16777000) : mIf (mTest (mOp dNe a (mC (.str (Str.ofString ""))))) (mView (mBmL D.isS dSplit a (mCons (mC (.str (Str.ofString " "))) mNil))) (mView (mLst mNil)) sd = .ok (.lst (WsD (wordsOf t))) sd := by
  have t1 : mTest (mOp dNe a (mC (.str (Str.ofString "")))) sd = .ok (!decide (t = W [])) sd := op_t ha rfl (by
    rw [lit_nil]
    unfold dNe
    rw [eqB_str]
    rfl)
  unfold mIf wordsOf
  rw [t1]
  by_cases h : t = W []
  · rw [if_pos h]
    show (if (!decide (t = W [])) = true then _ else _) = _
    rw [if_neg (by rw [decide_eq_true h]; decide)]
    rfl
  · rw [if_neg h]
    show (if (!decide (t = W [])) = true then _ else _) = _
    rw [if_pos (by rw [decide_eq_false h]; decide)]
    have ds : dSplit (.str t) [.str (Str.ofString " ")] = some (WsD ((Txt.split t (W [32])).map TL.tl)) := by
      rw [lit_sp]
      show (if ((W [32]).length == 0) = false ∧ t.length + 2 ≤ 16777216 then some ((Txt.split t (W [32])).map D.str) else none) = _
      rw [if_pos ⟨rfl, by omega⟩]
      unfold WsD
      rw [List.map_map]
      rfl
    have e : mBmL D.isS dSplit a (mCons (mC (.str (Str.ofString " "))) mNil) sd = .ok (.ol ((WsD ((Txt.split t (W [32])).map TL.tl)).map .fz)) sd := by
      unfold mBmL
      rw [ha]
      show ER.opt ((dSplit (.str t) [.str (Str.ofString " ")]).map fun cs => OT.ol (cs.map .fz)) sd = _
      rw [ds]
      rfl
    unfold mView
    rw [e]
    show ER.ok (OT.view (.ol _)) sd = _
    rw [OT.view, views_fz]
theorem words_of_any (cs : Nat → Addr) {t : Str} (hl : t.length ≤ 16777000) : m_words_of cs [.fz (.str t)] = .ok (.fz (.lst (WsD (wordsOf t)))) ⟨[], [.fz (.str t)]⟩ := by
  have h := words_v (a := mVar 0) (sd := ⟨[.ow (.fz (.str t))], [.fz (.str t)]⟩) (t := t) rfl hl
  have ent : entry 1 [.fz (.str t)] = ⟨[.ow (.fz (.str t))], [.fz (.str t)]⟩ := rfl
  unfold m_words_of asDef
  rw [ent, show m_words_of_1 cs ⟨[.ow (.fz (.str t))], [.fz (.str t)]⟩ = _ from ret_d h]
theorem call2_v {f : List OT → ER OT} {a b : SD → ER D} {sd s2 : SD} {x z y : D} (ha : a sd = .ok x sd) (hb : b sd = .ok z sd) (hf : f [.fz x, .fz z] = .ok (.fz y) s2) : mView (mCall0 f (mCons a (mCons b mNil))) sd = .ok y sd := by
  unfold mView mCall0 mCons mNil
  rw [ha]
  simp only [ER.bind]
  rw [hb]
  simp only [ER.bind, List.map, hf, OT.view]
theorem calld_v {f : List D → Option D} {a b : SD → ER D} {sd : SD} {x z y : D} (ha : a sd = .ok x sd) (hb : b sd = .ok z sd) (hf : f [x, z] = some y) : mCall f (mCons a (mCons b mNil)) sd = .ok y sd := by
  unfold mCall mCons mNil
  rw [ha]
  simp only [ER.bind]
  rw [hb]
  simp only [ER.bind, hf, ER.opt]
noncomputable def iS (cs : Nat → Addr) (t d : D) (x2 x3 : S) : SD := ⟨[.pa 0, .ow (.fz d), x2, x3], [.oi (cs 0) [] [], .fz t]⟩
noncomputable def XT (cs : Nat → Addr) (d : D) : Exn := ⟨cs 2, some [("index", d)]⟩
theorem init_kind (cs : Nat → Addr) {d : D} (h : dIsiI (okC cs) "str" [d, .ty "str"] = some (.bl false)) : m_Program___init__ cs [.oi (cs 0) [] [], .fz d] = .rz (XT cs .non) ⟨[], [.oi (cs 0) [] [], .fz d]⟩ := by
  have ent : entry 4 [.oi (cs 0) [] [], .fz d] = iS cs d d .un .un := rfl
  have t : mNot (mTest (mCall (dIsiI (okC cs) "str") (mCons (mVar 1) (mCons (mC (.ty "str")) mNil)))) (iS cs d d .un .un) = .ok true (iS cs d d .un .un) := by
    refine not_b (u := false) ?_
    unfold mTest
    rw [calld_v (a := mVar 1) (b := mC (.ty "str")) (sd := iS cs d d .un .un) (x := d) (z := .ty "str") rfl rfl h]
    rfl
  have s2 : m_Program___init___2 cs (iS cs d d .un .un) = .rz (XT cs .non) (iS cs d d .un .un) := by
    unfold m_Program___init___2
    rw [if_b t, if_pos rfl]
    rfl
  unfold m_Program___init__ asDef
  rw [ent]
  unfold sSeq
  rw [s2]
  rfl
theorem init_bad (cs : Nat → Addr) {t : Str} {k : Nat} (hl : t.length ≤ 16777000) (h : due (wordsOf t) = some k) : m_Program___init__ cs [.oi (cs 0) [] [], .fz (.str t)] = .rz (XT cs (.int k)) ⟨[], [.oi (cs 0) [] [], .fz (.str t)]⟩ := by
  have ent : entry 4 [.oi (cs 0) [] [], .fz (.str t)] = iS cs (.str t) (.str t) .un .un := rfl
  obtain ⟨z1, z2⟩ := words_size t
  have w1 := words_of_any cs hl
  have w2 := first_wrong_any cs (ws := wordsOf t) (by omega) (fun w hw => by have := z2 w hw; omega)
  rw [h] at w2
  have s2 : m_Program___init___2 cs (iS cs (.str t) (.str t) .un .un) = .nx (iS cs (.str t) (.str t) .un .un) := rfl
  have s3 : m_Program___init___3 cs (iS cs (.str t) (.str t) .un .un) = .nx (iS cs (.str t) (.str t) (.ow (.fz (.lst (WsD (wordsOf t))))) .un) := by
    refine set_d (l := [.pa 0, .ow (.fz (.str t)), .un, .un]) (call1_v (a := mVar 1) (x := .str t) (sd1 := iS cs (.str t) (.str t) .un .un) rfl w1) (by show 2 < 4; decide)
  have s4 : m_Program___init___4 cs (iS cs (.str t) (.str t) (.ow (.fz (.lst (WsD (wordsOf t))))) .un) = .nx (iS cs (.str t) (.str t) (.ow (.fz (.lst (WsD (wordsOf t))))) (.ow (.fz (.int k)))) := by
    refine set_d (l := [.pa 0, .ow (.fz (.str t)), .ow (.fz (.lst (WsD (wordsOf t)))), .un]) (d := .int k) ?_ (by show 3 < 4; decide)
    exact call2_v (sd := iS cs (.str t) (.str t) (.ow (.fz (.lst (WsD (wordsOf t))))) .un) (a := mVar 2) (b := mView (mLst mNil)) rfl rfl w2
  have s6 : m_Program___init___6 cs (iS cs (.str t) (.str t) (.ow (.fz (.lst (WsD (wordsOf t))))) (.ow (.fz (.int k)))) = .rz (XT cs (.int k)) (iS cs (.str t) (.str t) (.ow (.fz (.lst (WsD (wordsOf t))))) (.ow (.fz (.int k)))) := rfl
  unfold m_Program___init__ asDef
  rw [ent, seq_nx s2 (seq_nx s3 (seq_nx s4 rfl))]
  unfold sSeq
  rw [s6]
  rfl
theorem init_good (cs : Nat → Addr) {t : Str} (h : due (wordsOf t) = none) : ∃ l, PrOk l ∧ textOf (wds l) = t := by
  obtain ⟨l, l1, l2⟩ := due_none h
  exact ⟨l, l2, by rw [l1, text_words]⟩
noncomputable def nonX : List Nat := [29, 30, 25, 15, 18, 19, 22, 12, 27, 16, 23, 14, 13, 17, 26, 21, 24, 20, 28, 2, 3, 6, 7, 8, 9, 10, 11, 4, 5]
theorem rel_cs (cs : Nat → Addr) (hc : CsOk cs) {j : Nat} (hj : nonX.contains j = true) : relC cs (cs 2) (.ref (cs j)) = some (2 == j || j == 1) := by
  have h2 : j < 31 := (show ∀ j ∈ nonX, j < 31 by decide) j (List.contains_iff_mem.mp hj)
  show (ixOf cs 31 (cs 2)).bind (fun i => relT cs 31 1 _ _ i (.ref (cs j))) = _
  rw [ixOf_cs hc (by decide)]
  show (ixOf cs 31 (cs j)).bind (fun j => if (([2] : List Nat).contains 2 && nonX.contains j) = true then some (2 == j || j == 1) else none) = _
  rw [ixOf_cs hc h2]
  show (if (([2] : List Nat).contains 2 && nonX.contains j) = true then some (2 == j || j == 1) else none) = _
  rw [hj]
  rfl
noncomputable def XD (cs : Nat → Addr) (d : D) : D := .exc (cs 2) ["index"] [d]
theorem isF_cls (cs : Nat → Addr) (hc : CsOk cs) {j : Nat} {d : D} (hj : nonX.contains j = true) : dIsF (relC cs) [XD cs d, .cls (cs j)] = some (.bl (2 == j || j == 1)) := by
  show (relC cs (cs 2) (.ref (cs j))).map D.bl = _
  rw [rel_cs cs hc hj]
  rfl
theorem relAny_cs (cs : Nat → Addr) (hc : CsOk cs) : ∀ js : List Nat, (∀ j ∈ js, nonX.contains j = true ∧ (2 == j || j == 1) = false) → relAny (relC cs) (cs 2) (js.map fun j => D.cls (cs j)) = some false
  | [], _ => rfl
  | j :: r, h => by
    obtain ⟨h1, h2⟩ := h j List.mem_cons_self
    rw [List.map_cons]
    show (match relC cs (cs 2) (.ref (cs j)) with
      | some true => (relAny (relC cs) (cs 2) (r.map fun j => D.cls (cs j))).map fun _ => true
      | some false => relAny (relC cs) (cs 2) (r.map fun j => D.cls (cs j))
      | none => none) = _
    rw [rel_cs cs hc h1, h2]
    exact relAny_cs cs hc r fun k hk => h k (List.mem_cons_of_mem _ hk)
theorem isF_tup (cs : Nat → Addr) (hc : CsOk cs) {d : D} (j : Nat) (js : List Nat) (h : ∀ k ∈ j :: js, nonX.contains k = true ∧ (2 == k || k == 1) = false) : dIsF (relC cs) [XD cs d, .tup (D.cls (cs j) :: js.map fun j => D.cls (cs j))] = some (.bl false) := by
  have e := relAny_cs cs hc (j :: js) h
  rw [List.map_cons] at e
  show (if D.cls (cs j) :: js.map (fun j => D.cls (cs j)) = [] then none else (relAny (relC cs) (cs 2) (D.cls (cs j) :: js.map fun j => D.cls (cs j))).map D.bl) = _
  rw [if_neg (by simp), e]
  rfl
theorem isF_ve (cs : Nat → Addr) (hc : CsOk cs) {d : D} : dIsF (relC cs) [XD cs d, .ty "ValueError"] = some (.bl true) := by
  show (relC cs (cs 2) (.type "ValueError")).map D.bl = _
  have e : relC cs (cs 2) (.type "ValueError") = some true := by
    show (ixOf cs 31 (cs 2)).bind (fun i => relT cs 31 1 _ _ i (.type "ValueError")) = _
    rw [ixOf_cs hc (by decide)]
    rfl
  rw [e]
  rfl
noncomputable def b10 : List D := [.bl true, .bl false, .bl false, .bl false, .bl false, .bl false, .bl false, .bl false, .bl false, .bl false]
noncomputable def nam6 : List D := [.str "InvalidText", .str "InvalidSource", .str "InvalidProgram", .str "InvalidTimes", .str "InvalidIndex", .str "InvalidLetter"]
noncomputable def nam10 : List D := nam6 ++ [.str "InvalidName", .str "HasPen", .str "TooDeep", .str "TooLarge"]
noncomputable def kS (x : D) (x1 x2 x3 : S) : SD := ⟨[.ow (.fz x), x1, x2, x3], [.fz x]⟩
/-- what is said of a text that is refused -/
noncomputable def sayW (s : Str) : Str := Str.ofString "InvalidText " ++ s
theorem class_ok (cs : Nat → Addr) (hc : CsOk cs) {d : D} {s : Str} (hs : dRepr [d] = some (.str s)) (hl : s.length ≤ 2000) : m__law_class cs [.fz (XD cs d)] = .ok (.fz (.str (sayW s))) ⟨[], [.fz (XD cs d)]⟩ := by
  have e := fun j (hj : nonX.contains j = true) => isF_cls cs hc (j := j) (d := d) hj
  have t1 := isF_tup cs hc (d := d) 29 [30, 25, 15, 18, 19] (by decide)
  have t2 := isF_tup cs hc (d := d) 22 [12, 27, 16, 23] (by decide)
  have t3 := isF_tup cs hc (d := d) 14 [13, 17, 26, 21, 24, 20, 28] (by decide)
  have tv := isF_ve cs hc (d := d)
  have e2 := e 2 rfl
  have e3 := e 3 rfl
  have e6 := e 6 rfl
  have e7 := e 7 rfl
  have e8 := e 8 rfl
  have e9 := e 9 rfl
  have e10 := e 10 rfl
  have e11 := e 11 rfl
  have e4 := e 4 rfl
  have e5 := e 5 rfl
  have fl : mFldX (fun C => C == cs 2) "index" (mVar 0) = fun sd => (mVar 0 sd).bind fun x sd1 => match x with
    | .exc C ns vs => if (C == cs 2) = true then ER.opt (fldD "index" ns vs) sd1 else .bad
    | _ => .bad := rfl
  have hx : ∀ x1 x2 x3, mFldX (fun C => C == cs 2) "index" (mVar 0) (kS (XD cs d) x1 x2 x3) = .ok d (kS (XD cs d) x1 x2 x3) := fun x1 x2 x3 => by
    show (if (cs 2 == cs 2) = true then ER.opt (fldD "index" ["index"] [d]) (kS (XD cs d) x1 x2 x3) else .bad) = _
    rw [if_pos (by simp)]
    rfl
  simp only [List.map] at t1 t2 t3
  generalize hX : XD cs d = X at *
  have s1 : m__law_class_1 cs (kS X .un .un .un) = .nx (kS X (.ow (.fz (.lst (b10.take 3)))) .un .un) := by
    simp [m__law_class_1, -List.map_map, -List.map_take, -List.map_drop, -List.map_append, -List.map_reverse, asDef, entry, slotsOf, sSeq, sSet, sRet, sIf, sDrop, sNil, sBreak, sCont, sApp, sSetAt, setEnd, sAug, sAsg, sPar, mVar, mSee, mFrz, mTake, mC, mUn, mOp, mNil, mCons, mCall, mCallL, mTup, mLst, mView, mOwn, mFz, mTest, mAnd, mOr, mNot, mIf, mAndV, mOrV, mNotV, mChain, mAt, qSee, qFz, qNew, oNone, oSome, rNil, rSlot, rFz, mCall0, mCall1, oneSlot, noSlot, treesOf, SD.tree, SD.put, SD.putFz, tgN, tgNil, tgCons, tgT, ER.bind, ER.opt, ER.stm, Fl.seq, OT.view, OT.views, OT.items, fzOf, iLst, iTuP, iRange1, iRange2, iZip2, iEnumL, dIx, atI, ixN, dAdd, dSub, dNeg, dLt, dLe, dGt, dGe, dIsN, dNotN, isNonD, dEq, dNe, eqB_int, eqB_str, eqB_bl, eq_2, eq_3, dLen, dIsi, D.isA, tyName, dMod, dMax, dMin, mAtS, mBm, D.isL, D.isS, -dIsF, kS, e2, e3, e6, b10]
  have s2 : m__law_class_2 cs (kS X (.ow (.fz (.lst (b10.take 3)))) .un .un) = .nx (kS X (.ow (.fz (.lst (b10.take 5)))) .un .un) := by
    simp [m__law_class_2, -List.map_map, -List.map_take, -List.map_drop, -List.map_append, -List.map_reverse, asDef, entry, slotsOf, sSeq, sSet, sRet, sIf, sDrop, sNil, sBreak, sCont, sApp, sSetAt, setEnd, sAug, sAsg, sPar, mVar, mSee, mFrz, mTake, mC, mUn, mOp, mNil, mCons, mCall, mCallL, mTup, mLst, mView, mOwn, mFz, mTest, mAnd, mOr, mNot, mIf, mAndV, mOrV, mNotV, mChain, mAt, qSee, qFz, qNew, oNone, oSome, rNil, rSlot, rFz, mCall0, mCall1, oneSlot, noSlot, treesOf, SD.tree, SD.put, SD.putFz, tgN, tgNil, tgCons, tgT, ER.bind, ER.opt, ER.stm, Fl.seq, OT.view, OT.views, OT.items, fzOf, iLst, iTuP, iRange1, iRange2, iZip2, iEnumL, dIx, atI, ixN, dAdd, dSub, dNeg, dLt, dLe, dGt, dGe, dIsN, dNotN, isNonD, dEq, dNe, eqB_int, eqB_str, eqB_bl, eq_2, eq_3, dLen, dIsi, D.isA, tyName, dMod, dMax, dMin, mAtS, mBm, D.isL, D.isS, mCat, -dIsF, kS, e7, e8, b10]
  have s3 : m__law_class_3 cs (kS X (.ow (.fz (.lst (b10.take 5)))) .un .un) = .nx (kS X (.ow (.fz (.lst (b10.take 8)))) .un .un) := by
    simp [m__law_class_3, -List.map_map, -List.map_take, -List.map_drop, -List.map_append, -List.map_reverse, asDef, entry, slotsOf, sSeq, sSet, sRet, sIf, sDrop, sNil, sBreak, sCont, sApp, sSetAt, setEnd, sAug, sAsg, sPar, mVar, mSee, mFrz, mTake, mC, mUn, mOp, mNil, mCons, mCall, mCallL, mTup, mLst, mView, mOwn, mFz, mTest, mAnd, mOr, mNot, mIf, mAndV, mOrV, mNotV, mChain, mAt, qSee, qFz, qNew, oNone, oSome, rNil, rSlot, rFz, mCall0, mCall1, oneSlot, noSlot, treesOf, SD.tree, SD.put, SD.putFz, tgN, tgNil, tgCons, tgT, ER.bind, ER.opt, ER.stm, Fl.seq, OT.view, OT.views, OT.items, fzOf, iLst, iTuP, iRange1, iRange2, iZip2, iEnumL, dIx, atI, ixN, dAdd, dSub, dNeg, dLt, dLe, dGt, dGe, dIsN, dNotN, isNonD, dEq, dNe, eqB_int, eqB_str, eqB_bl, eq_2, eq_3, dLen, dIsi, D.isA, tyName, dMod, dMax, dMin, mAtS, mBm, D.isL, D.isS, mCat, -dIsF, kS, e9, e10, e11, b10]
  have s4 : m__law_class_4 cs (kS X (.ow (.fz (.lst (b10.take 8)))) .un .un) = .nx (kS X (.ow (.fz (.lst b10))) .un .un) := by
    simp [m__law_class_4, -List.map_map, -List.map_take, -List.map_drop, -List.map_append, -List.map_reverse, asDef, entry, slotsOf, sSeq, sSet, sRet, sIf, sDrop, sNil, sBreak, sCont, sApp, sSetAt, setEnd, sAug, sAsg, sPar, mVar, mSee, mFrz, mTake, mC, mUn, mOp, mNil, mCons, mCall, mCallL, mTup, mLst, mView, mOwn, mFz, mTest, mAnd, mOr, mNot, mIf, mAndV, mOrV, mNotV, mChain, mAt, qSee, qFz, qNew, oNone, oSome, rNil, rSlot, rFz, mCall0, mCall1, oneSlot, noSlot, treesOf, SD.tree, SD.put, SD.putFz, tgN, tgNil, tgCons, tgT, ER.bind, ER.opt, ER.stm, Fl.seq, OT.view, OT.views, OT.items, fzOf, iLst, iTuP, iRange1, iRange2, iZip2, iEnumL, dIx, atI, ixN, dAdd, dSub, dNeg, dLt, dLe, dGt, dGe, dIsN, dNotN, isNonD, dEq, dNe, eqB_int, eqB_str, eqB_bl, eq_2, eq_3, dLen, dIsi, D.isA, tyName, dMod, dMax, dMin, mAtS, mBm, D.isL, D.isS, mCat, -dIsF, kS, e4, e5, b10]
  have s5 : m__law_class_5 cs (kS X (.ow (.fz (.lst b10))) .un .un) = .nx (kS X (.ow (.fz (.lst b10))) (.ow (.fz (.lst nam6))) .un) := rfl
  have s6 : m__law_class_6 cs (kS X (.ow (.fz (.lst b10))) (.ow (.fz (.lst nam6))) .un) = .nx (kS X (.ow (.fz (.lst b10))) (.ow (.fz (.lst nam10))) .un) := rfl
  have s8 : m__law_class_8 cs (kS X (.ow (.fz (.lst b10))) (.ow (.fz (.lst nam10))) .un) = .nx (kS X (.ow (.fz (.lst b10))) (.ow (.fz (.lst nam10))) .un) := by
    simp [m__law_class_8, -List.map_map, -List.map_take, -List.map_drop, -List.map_append, -List.map_reverse, asDef, entry, slotsOf, sSeq, sSet, sRet, sIf, sDrop, sNil, sBreak, sCont, sApp, sSetAt, setEnd, sAug, sAsg, sPar, mVar, mSee, mFrz, mTake, mC, mUn, mOp, mNil, mCons, mCall, mCallL, mTup, mLst, mView, mOwn, mFz, mTest, mAnd, mOr, mNot, mIf, mAndV, mOrV, mNotV, mChain, mAt, qSee, qFz, qNew, oNone, oSome, rNil, rSlot, rFz, mCall0, mCall1, oneSlot, noSlot, treesOf, SD.tree, SD.put, SD.putFz, tgN, tgNil, tgCons, tgT, ER.bind, ER.opt, ER.stm, Fl.seq, OT.view, OT.views, OT.items, fzOf, iLst, iTuP, iRange1, iRange2, iZip2, iEnumL, dIx, atI, ixN, dAdd, dSub, dNeg, dLt, dLe, dGt, dGe, dIsN, dNotN, isNonD, dEq, dNe, eqB_int, eqB_str, eqB_bl, eq_2, eq_3, dLen, dIsi, D.isA, tyName, dMod, dMax, dMin, mAtS, mBm, D.isL, D.isS, -dIsF, kS, t1]
  have s10 : m__law_class_10 cs (kS X (.ow (.fz (.lst b10))) (.ow (.fz (.lst nam10))) .un) = .nx (kS X (.ow (.fz (.lst b10))) (.ow (.fz (.lst nam10))) .un) := by
    simp [m__law_class_10, -List.map_map, -List.map_take, -List.map_drop, -List.map_append, -List.map_reverse, asDef, entry, slotsOf, sSeq, sSet, sRet, sIf, sDrop, sNil, sBreak, sCont, sApp, sSetAt, setEnd, sAug, sAsg, sPar, mVar, mSee, mFrz, mTake, mC, mUn, mOp, mNil, mCons, mCall, mCallL, mTup, mLst, mView, mOwn, mFz, mTest, mAnd, mOr, mNot, mIf, mAndV, mOrV, mNotV, mChain, mAt, qSee, qFz, qNew, oNone, oSome, rNil, rSlot, rFz, mCall0, mCall1, oneSlot, noSlot, treesOf, SD.tree, SD.put, SD.putFz, tgN, tgNil, tgCons, tgT, ER.bind, ER.opt, ER.stm, Fl.seq, OT.view, OT.views, OT.items, fzOf, iLst, iTuP, iRange1, iRange2, iZip2, iEnumL, dIx, atI, ixN, dAdd, dSub, dNeg, dLt, dLe, dGt, dGe, dIsN, dNotN, isNonD, dEq, dNe, eqB_int, eqB_str, eqB_bl, eq_2, eq_3, dLen, dIsi, D.isA, tyName, dMod, dMax, dMin, mAtS, mBm, D.isL, D.isS, -dIsF, kS, t2]
  have s12 : m__law_class_12 cs (kS X (.ow (.fz (.lst b10))) (.ow (.fz (.lst nam10))) .un) = .nx (kS X (.ow (.fz (.lst b10))) (.ow (.fz (.lst nam10))) .un) := by
    simp [m__law_class_12, -List.map_map, -List.map_take, -List.map_drop, -List.map_append, -List.map_reverse, asDef, entry, slotsOf, sSeq, sSet, sRet, sIf, sDrop, sNil, sBreak, sCont, sApp, sSetAt, setEnd, sAug, sAsg, sPar, mVar, mSee, mFrz, mTake, mC, mUn, mOp, mNil, mCons, mCall, mCallL, mTup, mLst, mView, mOwn, mFz, mTest, mAnd, mOr, mNot, mIf, mAndV, mOrV, mNotV, mChain, mAt, qSee, qFz, qNew, oNone, oSome, rNil, rSlot, rFz, mCall0, mCall1, oneSlot, noSlot, treesOf, SD.tree, SD.put, SD.putFz, tgN, tgNil, tgCons, tgT, ER.bind, ER.opt, ER.stm, Fl.seq, OT.view, OT.views, OT.items, fzOf, iLst, iTuP, iRange1, iRange2, iZip2, iEnumL, dIx, atI, ixN, dAdd, dSub, dNeg, dLt, dLe, dGt, dGe, dIsN, dNotN, isNonD, dEq, dNe, eqB_int, eqB_str, eqB_bl, eq_2, eq_3, dLen, dIsi, D.isA, tyName, dMod, dMax, dMin, mAtS, mBm, D.isL, D.isS, -dIsF, kS, t3]
  have c1 : dCountD (.lst b10) [.bl true] = some (.int 1) := rfl
  have c2 : dIndexD (.lst b10) [.bl true] = some (.int 0) := rfl
  have s14 : m__law_class_14 cs (kS X (.ow (.fz (.lst b10))) (.ow (.fz (.lst nam10))) .un) = .nx (kS X (.ow (.fz (.lst b10))) (.ow (.fz (.lst nam10))) .un) := by
    simp [m__law_class_14, -List.map_map, -List.map_take, -List.map_drop, -List.map_append, -List.map_reverse, asDef, entry, slotsOf, sSeq, sSet, sRet, sIf, sDrop, sNil, sBreak, sCont, sApp, sSetAt, setEnd, sAug, sAsg, sPar, mVar, mSee, mFrz, mTake, mC, mUn, mOp, mNil, mCons, mCall, mCallL, mTup, mLst, mView, mOwn, mFz, mTest, mAnd, mOr, mNot, mIf, mAndV, mOrV, mNotV, mChain, mAt, qSee, qFz, qNew, oNone, oSome, rNil, rSlot, rFz, mCall0, mCall1, oneSlot, noSlot, treesOf, SD.tree, SD.put, SD.putFz, tgN, tgNil, tgCons, tgT, ER.bind, ER.opt, ER.stm, Fl.seq, OT.view, OT.views, OT.items, fzOf, iLst, iTuP, iRange1, iRange2, iZip2, iEnumL, dIx, atI, ixN, dAdd, dSub, dNeg, dLt, dLe, dGt, dGe, dIsN, dNotN, isNonD, dEq, dNe, eqB_int, eqB_str, eqB_bl, eq_2, eq_3, dLen, dIsi, D.isA, tyName, dMod, dMax, dMin, mAtS, mBm, D.isL, D.isS, -dIsF, kS, tv, c1, D.isL]
  have s15 : m__law_class_15 cs (kS X (.ow (.fz (.lst b10))) (.ow (.fz (.lst nam10))) .un) = .nx (kS X (.ow (.fz (.lst b10))) (.ow (.fz (.lst nam10))) (.ow (.fz (.str "InvalidText")))) := rfl
  have s17 : m__law_class_17 cs (kS X (.ow (.fz (.lst b10))) (.ow (.fz (.lst nam10))) (.ow (.fz (.str "InvalidText")))) = .rt (.fz (.str (sayW s))) (kS X (.ow (.fz (.lst b10))) (.ow (.fz (.lst nam10))) (.ow (.fz (.str "InvalidText")))) := by
    have q : mTest (mOp dEq (mVar 3) (mC (.str "InvalidText"))) (kS X (.ow (.fz (.lst b10))) (.ow (.fz (.lst nam10))) (.ow (.fz (.str "InvalidText")))) = .ok true (kS X (.ow (.fz (.lst b10))) (.ow (.fz (.lst nam10))) (.ow (.fz (.str "InvalidText")))) := rfl
    unfold m__law_class_17
    rw [if_b q, if_pos rfl]
    have r1 : mCall dRepr (mCons (mFldX (fun C => C == cs 2) "index" (mVar 0)) mNil) (kS X (.ow (.fz (.lst b10))) (.ow (.fz (.lst nam10))) (.ow (.fz (.str "InvalidText")))) = .ok (.str s) (kS X (.ow (.fz (.lst b10))) (.ow (.fz (.lst nam10))) (.ow (.fz (.str "InvalidText")))) := by
      unfold mCall mCons mNil
      rw [hx]
      simp only [ER.bind, hs, ER.opt]
    refine ret_d (op_v (x := .str (sayW Str.empty)) (by rfl) r1 ?_)
    show (if (sayW Str.empty).length + s.length ≤ 16777216 then some (D.str (sayW Str.empty ++ s)) else none) = _
    rw [if_pos (by have : (sayW Str.empty).length = 12 := rfl; omega)]
    have : sayW Str.empty = Str.ofString "InvalidText " := by rfl
    rw [this]; rfl
  have ent : entry 4 [.fz X] = kS X .un .un .un := rfl
  unfold m__law_class asDef
  rw [ent, seq_nx s1 (seq_nx s2 (seq_nx s3 (seq_nx s4 (seq_nx s5 (seq_nx s6 (seq_nx s8 (seq_nx s10 (seq_nx s12 (seq_nx s14 (seq_nx s15 rfl))))))))))]
  unfold sSeq
  rw [s17]
  rfl
noncomputable def toS (d : D) (x y : S) : SD := ⟨[.ow (.fz d), x, y], [.fz d]⟩
theorem xT_cs (cs : Nat → Addr) (hc : CsOk cs) : xT cs (cs 2) = true := by
  show (match ixOf cs 31 (cs 2) with
    | some i => ([2] : List Nat).contains i
    | none => false) = true
  rw [ixOf_cs hc (by decide)]
  rfl
theorem told_rz (cs : Nat → Addr) (hc : CsOk cs) {v d : D} {s : Str} (hs : dRepr [d] = some (.str s)) (hl : s.length ≤ 2000) (hi : m_Program___init__ cs [.oi (cs 0) [] [], .fz v] = .rz (XT cs d) ⟨[], [.oi (cs 0) [] [], .fz v]⟩) : m__law_told cs [.fz v] = .ok (.fz (.str (sayW s))) ⟨[], [.fz v]⟩ := by
  have ent : entry 3 [.fz v] = toS v .un .un := rfl
  have s1 : m__law_told_1 cs (toS v .un .un) = .nx (toS v (.ow (.fz .non)) .un) := rfl
  have b : m__law_told_t1 cs (toS v (.ow (.fz .non)) .un) = .rz (XT cs d) (toS v (.ow (.fz .non)) .un) := by
    show (ER.stm (mView (mMake (cs 0) (m_Program___init__ cs) (mCons (mVar 0) (mNil))) (toS v (.ow (.fz .non)) .un)) fun _ sd1 => Fl.nx sd1) = _
    have : mMake (cs 0) (m_Program___init__ cs) (mCons (mVar 0) (mNil)) (toS v (.ow (.fz .non)) .un) = .rz (XT cs d) (toS v (.ow (.fz .non)) .un) := by
      show (match m_Program___init__ cs [.oi (cs 0) [] [], .fz v] with
        | .ok (.fz .non) sd' => match sd'.pa[0]? with
          | some t => ER.ok t (toS v (.ow (.fz .non)) .un)
          | none => .bad
        | .rz x sd' => match sd'.pa[0]? with
          | some _ => .rz x (toS v (.ow (.fz .non)) .un)
          | none => .bad
        | _ => .bad) = _
      rw [hi]
      rfl
    unfold mView
    rw [this]
    rfl
  have s4 : m__law_told_4 cs (toS v (.ow (.fz .non)) .un) = .nx (toS v (.ow (.fz (XD cs d))) .un) := by
    show (match m__law_told_t1 cs (toS v (.ow (.fz .non)) .un) with
      | .rz x sd1 => if xT cs x.C = true ∧ 2 < sd1.sl.length ∧ x.okB = true then (m__law_told_x1 cs { sd1 with sl := sd1.sl.set 2 (.ow (.fz x.toD)) }).unset 2 else .bad
      | r => r) = _
    rw [b]
    dsimp only
    rw [if_pos (show xT cs (XT cs d).C = true ∧ 2 < (toS v (.ow (.fz .non)) .un).sl.length ∧ (XT cs d).okB = true from ⟨xT_cs cs hc, (show 2 < 3 from by decide), rfl⟩)]
    rfl
  have hk := class_ok cs hc hs hl
  have s5 : m__law_told_5 cs (toS v (.ow (.fz (XD cs d))) .un) = .rt (.fz (.str (sayW s))) (toS v (.ow (.fz (XD cs d))) .un) := by
    refine ret_d ?_
    have t : mTest (mOp dIsN (mVar 1) (mC .non)) (toS v (.ow (.fz (XD cs d))) .un) = .ok false (toS v (.ow (.fz (XD cs d))) .un) := rfl
    unfold mIf
    rw [t]
    exact call1_v (a := mVar 1) rfl hk
  unfold m__law_told asDef
  rw [ent, seq_nx s1 (seq_nx s4 s5)]
  rfl
theorem told_fine (cs : Nat → Addr) {l : List Nd} (h : PrOk l) : m__law_told cs [.fz (.str (textOf (wds l)))] = .ok (.fz (.str "fine")) ⟨[], [.fz (.str (textOf (wds l)))]⟩ := by
  generalize hv : D.str (textOf (wds l)) = v
  have ent : entry 3 [.fz v] = toS v .un .un := rfl
  have s1 : m__law_told_1 cs (toS v .un .un) = .nx (toS v (.ow (.fz .non)) .un) := rfl
  have s4 : m__law_told_4 cs (toS v (.ow (.fz .non)) .un) = .nx (toS v (.ow (.fz .non)) .un) := by
    have b : m__law_told_t1 cs (toS v (.ow (.fz .non)) .un) = .nx (toS v (.ow (.fz .non)) .un) := by
      have := prog_make cs h (a := mCons (mVar 0) mNil) (sd := toS v (.ow (.fz .non)) .un) (sd1 := toS v (.ow (.fz .non)) .un) (by rw [← hv]; rfl)
      show (ER.stm (mView (mMake (cs 0) (m_Program___init__ cs) (mCons (mVar 0) (mNil))) (toS v (.ow (.fz .non)) .un)) fun _ sd1 => Fl.nx sd1) = _
      unfold mView
      rw [this]
      rfl
    show (match m__law_told_t1 cs (toS v (.ow (.fz .non)) .un) with
      | .rz x sd1 => if xT cs x.C = true ∧ 2 < sd1.sl.length ∧ x.okB = true then (m__law_told_x1 cs { sd1 with sl := sd1.sl.set 2 (.ow (.fz x.toD)) }).unset 2 else .bad
      | r => r) = _
    rw [b]
  have s5 : m__law_told_5 cs (toS v (.ow (.fz .non)) .un) = .rt (.fz (.str "fine")) (toS v (.ow (.fz .non)) .un) := rfl
  unfold m__law_told asDef
  rw [ent, seq_nx s1 (seq_nx s4 s5)]
  rfl
theorem repr_non : ∃ s, dRepr [.non] = some (.str s) ∧ s.length ≤ 2000 ∧ sayW s = "InvalidText None" := ⟨_, rfl, by decide +kernel, by decide +kernel⟩
theorem repr_nat {k : Nat} (h : k ≤ 20000000) : ∃ s, dRepr [.int k] = some (.str s) ∧ s.length ≤ 2000 := by
  have h1 : k < 2 ^ 100 := Nat.lt_of_le_of_lt h (by decide)
  have h2 := log2_lt h1
  have hp : (PyData.int (k : Int)).showable = true := by
    simp [PyData.showable]
    omega
  refine ⟨_, dRepr_of (p := .int k) rfl hp (by simp [PyData.depth]) (by rw [szP]; decide), ?_⟩
  have := shown_sz hp
  rw [szP] at this
  omega
/-- a text is told of as the law says -/
theorem right_ok (cs : Nat → Addr) (hc : CsOk cs) {t : Str} (hl : t.length ≤ 16000000) : m__law_right cs [.fz (.str t)] = .ok (.fz (.bl true)) ⟨[], [.fz (.str t)]⟩ := by
  obtain ⟨z1, z2⟩ := words_size t
  have w2 := law_wrong_any cs (ws := wordsOf t) (by omega) (fun w hw => by have := z2 w hw; omega)
  let S := fun (x1 x2 : S) => (⟨[.ow (.fz (.str t)), x1, x2], [.fz (.str t)]⟩ : SD)
  have ent : entry 3 [.fz (.str t)] = S .un .un := rfl
  have s1 : m__law_right_1 cs (S .un .un) = .nx (S (.ow (.fz (.lst (WsD (wordsOf t))))) .un) := by
    exact set_d (l := [.ow (.fz (.str t)), .un, .un]) (words_v (a := mVar 0) (sd := S .un .un) rfl (by omega)) (by show 1 < 3; decide)
  have s2 : m__law_right_2 cs (S (.ow (.fz (.lst (WsD (wordsOf t))))) .un) = .nx (S (.ow (.fz (.lst (WsD (wordsOf t))))) (.ow (.fz (optN (due (wordsOf t)))))) := by
    refine set_d (l := [.ow (.fz (.str t)), .ow (.fz (.lst (WsD (wordsOf t)))), .un]) ?_ (by show 2 < 3; decide)
    exact call2_v (sd := S (.ow (.fz (.lst (WsD (wordsOf t))))) .un) (a := mVar 1) (b := mView (mLst mNil)) rfl rfl w2
  unfold m__law_right asDef
  rw [ent, seq_nx s1 (seq_nx s2 rfl)]
  generalize hSd : S (.ow (.fz (.lst (WsD (wordsOf t))))) (.ow (.fz (optN (due (wordsOf t))))) = sd
  have v0 : mVar 0 sd = .ok (.str t) sd := by rw [← hSd]; rfl
  have v2 : mVar 2 sd = .ok (optN (due (wordsOf t))) sd := by rw [← hSd]; rfl
  have pa : sd.pa = [.fz (.str t)] := by rw [← hSd]
  have fin : ∀ {s : Str}, mView (mCall0 (m__law_told cs) (mCons (mVar 0) mNil)) sd = .ok (.str s) sd → mIf (mTest (mOp dIsN (mVar 2) (mC .non))) (mC (.str "fine")) (mOp dAdd (mC (.str "InvalidText ")) (mCall dRepr (mCons (mVar 2) mNil))) sd = .ok (.str s) sd → m__law_right_3 cs sd = .rt (.fz (.bl true)) sd := fun {s} h1 h2 => by
    refine ret_d (op_v h1 h2 ?_)
    show (dEqB (.str s) (.str s)).map D.bl = _
    rw [eqB_str]
    simp
  have res : m__law_right_3 cs sd = .rt (.fz (.bl true)) sd := by
    cases hd : due (wordsOf t) with
    | none =>
      rw [hd] at v2
      obtain ⟨l, l1, l2⟩ := init_good cs hd
      have tf := told_fine cs l1
      rw [l2] at tf
      refine fin (call1_v v0 tf) ?_
      have q : mTest (mOp dIsN (mVar 2) (mC .non)) sd = .ok true sd := op_t v2 rfl rfl
      unfold mIf
      rw [q]
      rfl
    | some k =>
      rw [hd] at v2
      have hk := due_le hd
      obtain ⟨s, r1, r2⟩ := repr_nat (k := k) (by omega)
      have tf := told_rz cs hc r1 r2 (init_bad cs (by omega) hd)
      refine fin (call1_v v0 tf) ?_
      have q : mTest (mOp dIsN (mVar 2) (mC .non)) sd = .ok false sd := op_t v2 rfl rfl
      unfold mIf
      rw [q]
      refine op_v (x := .str "InvalidText ") (y := .str s) (sd1 := sd) rfl ?_ ?_
      · unfold mCall mCons mNil
        rw [v2]
        show ER.opt (dRepr [.int k]) sd = _
        rw [r1]
        rfl
      · show (if (Str.ofString "InvalidText ").length + s.length ≤ 16777216 then some (D.str (Str.ofString "InvalidText " ++ s)) else none) = _
        rw [if_pos (by have : (Str.ofString "InvalidText ").length = 12 := rfl; omega)]
        rfl
  unfold sSeq at *
  rw [res]
  show ER.ok _ _ = _
  rw [pa]
noncomputable def Bg (n : Nat) (t : OT) : Prop := ∃ (a b c : Int), t = .ol [.fz (.int a), .fz (.int b), .fz (.int c)] ∧ 0 ≤ c ∧ c ≤ n
theorem Bg.mono {n m : Nat} {t : OT} (h : Bg n t) (hm : n ≤ m) : Bg m t := by
  obtain ⟨a, b, c, h1, h2, h3⟩ := h
  exact ⟨a, b, c, h1, h2, by omega⟩
theorem bag_ok (cs : Nat → Addr) (cell : Int) : ∃ t, Bg 0 t ∧ m__law_bag cs [.fz (.int cell)] = .ok t ⟨[], [.fz (.int cell)]⟩ := by
  have e18 : dPow (.int 10) (.int 18) = some (.int 1000000000000000000) := p10 (k := 18) (by decide)
  refine ⟨.ol [.fz (.int (max 0 (cell - 1000000000000000000))), .fz (.int cell), .fz (.int 0)], ⟨_, _, _, rfl, by omega, by omega⟩, ?_⟩
  simp [m__law_bag_1, m__law_bag, -List.map_map, -List.map_take, -List.map_drop, -List.map_append, -List.map_reverse, asDef, entry, slotsOf, sSeq, sSet, sRet, sIf, sDrop, sNil, sBreak, sCont, sApp, sSetAt, setEnd, sAug, sAsg, sPar, mVar, mSee, mFrz, mTake, mC, mUn, mOp, mNil, mCons, mCall, mCallL, mTup, mLst, mView, mOwn, mFz, mTest, mAnd, mOr, mNot, mIf, mAndV, mOrV, mNotV, mChain, mAt, qSee, qFz, qNew, oNone, oSome, rNil, rSlot, rFz, mCall0, mCall1, oneSlot, noSlot, treesOf, SD.tree, SD.put, SD.putFz, tgN, tgNil, tgCons, tgT, ER.bind, ER.opt, ER.stm, Fl.seq, OT.view, OT.views, OT.items, fzOf, iLst, iTuP, iRange1, iRange2, iZip2, iEnumL, dIx, atI, ixN, dAdd, dSub, dNeg, dLt, dLe, dGt, dGe, dIsN, dNotN, isNonD, dEq, dNe, eqB_int, eqB_str, eqB_bl, eq_2, eq_3, dLen, dIsi, D.isA, tyName, dMod, dMax, dMin, mAtS, mBm, D.isL, D.isS, e18]
theorem pick_ok (cs : Nat → Addr) {n : Nat} {t : OT} {m : Int} (h : Bg n t) (hn : n < 2 ^ 64) (h1 : 0 < m) (h2 : m.natAbs < 2 ^ 8000) : ∃ (v : Int) (t' : OT), 0 ≤ v ∧ v < m ∧ Bg (n + 1) t' ∧ m__law_pick cs [t, .fz (.int m)] = .ok (.fz (.int v)) ⟨[], [t', .fz (.int m)]⟩ := by
  obtain ⟨a, b, c, rfl, hc, hc2⟩ := h
  have hm0 : ¬ m = 0 := by omega
  by_cases ha : 0 < a
  · refine ⟨a.fmod m, .ol [.fz (.int (a.fdiv m)), .fz (.int b), .fz (.int (c + 1))], Int.fmod_nonneg_of_pos _ h1, Int.fmod_lt_of_pos _ h1, ⟨_, _, _, rfl, by omega, by omega⟩, ?_⟩
    have e1 := div_ok (i := a) h2 hm0 (by decide)
    simp [m__law_pick_1, m__law_pick_2, m__law_pick_3, m__law_pick_4, m__law_pick_5, m__law_pick_6, m__law_pick_7, m__law_pick_8, m__law_pick, -List.map_map, -List.map_take, -List.map_drop, -List.map_append, -List.map_reverse, asDef, entry, slotsOf, sSeq, sSet, sRet, sIf, sDrop, sNil, sBreak, sCont, sApp, sSetAt, setEnd, sAug, sAsg, sPar, mVar, mSee, mFrz, mTake, mC, mUn, mOp, mNil, mCons, mCall, mCallL, mTup, mLst, mView, mOwn, mFz, mTest, mAnd, mOr, mNot, mIf, mAndV, mOrV, mNotV, mChain, mAt, qSee, qFz, qNew, oNone, oSome, rNil, rSlot, rFz, mCall0, mCall1, oneSlot, noSlot, treesOf, SD.tree, SD.put, SD.putFz, tgN, tgNil, tgCons, tgT, ER.bind, ER.opt, ER.stm, Fl.seq, OT.view, OT.views, OT.items, fzOf, iLst, iTuP, iRange1, iRange2, iZip2, iEnumL, dIx, atI, ixN, dAdd, dSub, dNeg, dLt, dLe, dGt, dGe, dIsN, dNotN, isNonD, dEq, dNe, eqB_int, eqB_str, eqB_bl, eq_2, eq_3, dLen, dIsi, D.isA, tyName, dMod, dMax, dMin, mAtS, mBm, D.isL, D.isS, ha, hm0, e1]
  · obtain ⟨x, hx⟩ : ∃ x, x = b.fmod 2147483629 := ⟨_, rfl⟩
    have x0 : 0 ≤ x := by rw [hx]; exact Int.fmod_nonneg_of_pos _ (by decide)
    have x1 : x < 2147483629 := by rw [hx]; exact Int.fmod_lt_of_pos _ (by decide)
    have m1 : dMul (.int x) (.int 48271) = some (.int (x * 48271)) := mul_ok (a := 100) (b := 100) (by omega) (by decide) (by decide)
    have m2 : dMul (.int (c + 1)) (.int 69621) = some (.int ((c + 1) * 69621)) := mul_ok (a := 100) (b := 100) (by omega) (by decide) (by decide)
    have m3 : dMul (.int (c + 1)) (.int 40692) = some (.int ((c + 1) * 40692)) := mul_ok (a := 100) (b := 100) (by omega) (by decide) (by decide)
    obtain ⟨y, hy⟩ : ∃ y, y = (x * 48271 + (c + 1) * 69621 + 12345).fmod 2147483647 := ⟨_, rfl⟩
    have y0 : 0 ≤ y := by rw [hy]; exact Int.fmod_nonneg_of_pos _ (by decide)
    have y1 : y < 2147483647 := by rw [hy]; exact Int.fmod_lt_of_pos _ (by decide)
    have m4 : dMul (.int y) (.int y) = some (.int (y * y)) := mul_ok (a := 100) (b := 100) (by omega) (by omega) (by decide)
    have m5 : dMul (.int y) (.int 2147483587) = some (.int (y * 2147483587)) := mul_ok (a := 100) (b := 100) (by omega) (by decide) (by decide)
    have d1 : ∀ z : Int, dDiv (.int z) (.int 32) = some (.int (z.fdiv 32)) := fun z => div_ok (a := 30) (by decide) (by decide) (by decide)
    refine ⟨((y * 2147483587 + (y * y + (c + 1) * 40692).fmod 2147483587).fdiv 32).fmod m, .ol [.fz (.int a), .fz (.int b), .fz (.int (c + 1))], Int.fmod_nonneg_of_pos _ h1, Int.fmod_lt_of_pos _ h1, ⟨_, _, _, rfl, by omega, by omega⟩, ?_⟩
    simp [m__law_pick_1, m__law_pick_2, m__law_pick_3, m__law_pick_4, m__law_pick_5, m__law_pick_6, m__law_pick_7, m__law_pick_8, m__law_pick, -List.map_map, -List.map_take, -List.map_drop, -List.map_append, -List.map_reverse, asDef, entry, slotsOf, sSeq, sSet, sRet, sIf, sDrop, sNil, sBreak, sCont, sApp, sSetAt, setEnd, sAug, sAsg, sPar, mVar, mSee, mFrz, mTake, mC, mUn, mOp, mNil, mCons, mCall, mCallL, mTup, mLst, mView, mOwn, mFz, mTest, mAnd, mOr, mNot, mIf, mAndV, mOrV, mNotV, mChain, mAt, qSee, qFz, qNew, oNone, oSome, rNil, rSlot, rFz, mCall0, mCall1, oneSlot, noSlot, treesOf, SD.tree, SD.put, SD.putFz, tgN, tgNil, tgCons, tgT, ER.bind, ER.opt, ER.stm, Fl.seq, OT.view, OT.views, OT.items, fzOf, iLst, iTuP, iRange1, iRange2, iZip2, iEnumL, dIx, atI, ixN, dAdd, dSub, dNeg, dLt, dLe, dGt, dGe, dIsN, dNotN, isNonD, dEq, dNe, eqB_int, eqB_str, eqB_bl, eq_2, eq_3, dLen, dIsi, D.isA, tyName, dMod, dMax, dMin, mAtS, mBm, D.isL, D.isS, ha, hm0, ← hx, m1, m2, m3, ← hy, m4, m5, d1]
/-- a call that hands over the bag and one thing more -/
theorem call_bag {f : List OT → ER OT} {i : Nat} {a : SD → ER D} {sd sd1 s2 : SD} {d : D} {r t t0 t' : OT} (ha : a sd = .ok d sd1) (h0 : sd.tree i = some t0) (h1 : sd1.tree i = some t) (hf : f [t, .fz d] = .ok r s2) (hp : s2.pa[0]? = some t') : mCall1 f (rSlot i (rFz a rNil)) sd = .ok r (sd1.put i t') := by
  have e : rSlot i (rFz a rNil) sd = .ok [.sl i, .fz d] sd1 := by
    unfold rSlot
    rw [h0]
    show ER.bind (rFz a rNil sd) _ = _
    unfold rFz
    rw [ha]
    rfl
  have e2 : treesOf sd1 [.sl i, .fz d] = some [t, .fz d] := by
    show (sd1.tree i).bind _ = _
    rw [h1]
    rfl
  unfold mCall1
  rw [e]
  show (match oneSlot [.sl i, .fz d], treesOf sd1 [.sl i, .fz d] with
  | some (m, i), some ts => match f ts with
    | .ok t sd' => match sd'.pa[m]? with
      | some t' => ER.ok t (sd1.put i t')
      | none => ER.bad
    | .rz x sd' => match sd'.pa[m]? with
      | some t' => ER.rz x (sd1.put i t')
      | none => ER.bad
    | .bad => ER.bad
  | _, _ => ER.bad) = _
  rw [e2]
  show (match f [t, .fz d] with
    | .ok t sd' => match sd'.pa[0]? with
      | some t' => ER.ok t (sd1.put i t')
      | none => .bad
    | .rz x sd' => match sd'.pa[0]? with
      | some t' => .rz x (sd1.put i t')
      | none => .bad
    | .bad => .bad) = _
  rw [hf]
  show (match s2.pa[0]? with
      | some t' => ER.ok r (sd1.put i t')
      | none => .bad) = _
  rw [hp]
theorem cons_v {a : SD → ER D} {r : SD → ER (List D)} {sd sd1 sd2 : SD} {x : D} {xs : List D} (ha : a sd = .ok x sd1) (hr : r sd1 = .ok xs sd2) : mCons a r sd = .ok (x :: xs) sd2 := by
  unfold mCons
  rw [ha]
  show ER.bind (r sd1) _ = _
  rw [hr]
  rfl
theorem call_v {f : List D → Option D} {a : SD → ER (List D)} {sd sd1 : SD} {xs : List D} {y : D} (h : a sd = .ok xs sd1) (hf : f xs = some y) : mCall f a sd = .ok y sd1 := by
  unfold mCall
  rw [h]
  show ER.opt (f xs) sd1 = _
  rw [hf]
  rfl
theorem lst_o {a : SD → ER (List D)} {sd sd1 : SD} {xs : List D} (h : a sd = .ok xs sd1) (hl : xs.length ≤ 16777216) : mLst a sd = .ok (.ol (xs.map .fz)) sd1 := by
  unfold mLst
  rw [h]
  show (if xs.length ≤ 16777216 then ER.ok (OT.ol (xs.map .fz)) sd1 else .bad) = _
  rw [if_pos hl]
theorem view_v {a : SD → ER OT} {sd sd1 : SD} {xs : List D} (h : a sd = .ok (.ol (xs.map .fz)) sd1) : mView a sd = .ok (.lst xs) sd1 := by
  unfold mView
  rw [h]
  show ER.ok (OT.view (.ol _)) sd1 = _
  rw [OT.view, views_fz]
theorem lst_v {a : SD → ER (List D)} {sd sd1 : SD} {xs : List D} (h : a sd = .ok xs sd1) (hl : xs.length ≤ 16777216) : mView (mLst a) sd = .ok (.lst xs) sd1 := view_v (lst_o h hl)
/-- a draw -/
theorem pick_call (cs : Nat → Addr) {n i : Nat} {a : SD → ER D} {sd sd1 : SD} {t t0 : OT} {m : Int} (ha : a sd = .ok (.int m) sd1) (h0 : sd.tree i = some t0) (h1 : sd1.tree i = some t) (hb : Bg n t) (hn : n < 2 ^ 64) (hm : 0 < m) (hm2 : m.natAbs < 2 ^ 8000) : ∃ (v : Int) (t' : OT), 0 ≤ v ∧ v < m ∧ Bg (n + 1) t' ∧ mView (mCall1 (m__law_pick cs) (rSlot i (rFz a rNil))) sd = .ok (.int v) (sd1.put i t') := by
  obtain ⟨v, t', v0, v1, b', e⟩ := pick_ok cs hb hn hm hm2
  refine ⟨v, t', v0, v1, b', ?_⟩
  unfold mView
  rw [call_bag ha h0 h1 e rfl]
  rfl
noncomputable def OkW (n : Nat) (w : List Nat) : Prop := w.length ≤ n ∧ ∀ c ∈ w, c < 200
noncomputable def nuS (b : OT) : SD := ⟨[.pa 0, .ow (.fz (.int 1))], [b, .fz (.int 1)]⟩
theorem number_ok (cs : Nat → Addr) {n : Nat} {t : OT} (h : Bg n t) (hn : n + 2 < 2 ^ 64) : ∃ (w : List Nat) (t' : OT), OkW 31 w ∧ Bg (n + 2) t' ∧ m__law_number cs [t, .fz (.int 1)] = .ok (.fz (.str (W w))) ⟨[], [t', .fz (.int 1)]⟩ := by
  have ent : entry 2 [t, .fz (.int 1)] = nuS t ∨ True := .inr trivial
  obtain ⟨a, b, c, rfl, hc, hc2⟩ := h
  have ent : entry 2 [.ol [.fz (.int a), .fz (.int b), .fz (.int c)], .fz (.int 1)] = nuS (.ol [.fz (.int a), .fz (.int b), .fz (.int c)]) := rfl
  have h : Bg n (.ol [.fz (.int a), .fz (.int b), .fz (.int c)]) := ⟨_, _, _, rfl, hc, hc2⟩
  generalize OT.ol [.fz (.int a), .fz (.int b), .fz (.int c)] = t at *
  have e30 : mOp dSub (mOp dPow (mC (.int 10)) (mC (.int 30))) (mC (.int 1)) (nuS t) = .ok (.int (1000000000000000000000000000000 - 1)) (nuS t) := by
    refine op_v (x := .int 1000000000000000000000000000000) ?_ rfl rfl
    exact op_v rfl rfl (p10 (k := 30) (by decide))
  obtain ⟨v, t1, v0, v1, b1, p1⟩ := pick_call cs (a := mOp dAdd (mC (.int 2)) (mOp dMul (mC (.int 3)) (mVar 1))) (i := 0) (sd := nuS t) (sd1 := nuS t) (m := 5) rfl rfl rfl h (by omega) (by decide) (by decide)
  have l1 : mView (mLst (mCons (mC (.int 2)) (mCons (mC (.int 3)) (mCons (mC (.int 9)) (mCons (mC (.int 60)) (mCons (mOp dSub (mOp dPow (mC (.int 10)) (mC (.int 30))) (mC (.int 1))) (mNil))))))) (nuS t) = .ok (.lst [.int 2, .int 3, .int 9, .int 60, .int (1000000000000000000000000000000 - 1)]) (nuS t) := by
    exact lst_v (cons_v rfl (cons_v rfl (cons_v rfl (cons_v rfl (cons_v e30 rfl))))) (by decide)
  obtain ⟨far, f0, f1, ix⟩ : ∃ far : Int, 0 < far ∧ far ≤ 1000000000000000000000000000000 - 1 ∧ dIx (.lst [.int 2, .int 3, .int 9, .int 60, .int (1000000000000000000000000000000 - 1)]) (.int v) = some (.int far) := by
    have : v = 0 ∨ v = 1 ∨ v = 2 ∨ v = 3 ∨ v = 4 := by omega
    rcases this with rfl | rfl | rfl | rfl | rfl
    · exact ⟨2, by decide, by decide, rfl⟩
    · exact ⟨3, by decide, by decide, rfl⟩
    · exact ⟨9, by decide, by decide, rfl⟩
    · exact ⟨60, by decide, by decide, rfl⟩
    · exact ⟨1000000000000000000000000000000 - 1, by decide, by decide, rfl⟩
  have i1 := op_v l1 p1 ix
  obtain ⟨u, t2, u0, u1, b2, p2⟩ := pick_call cs (i := 0) i1 (t0 := t) (t := t1) rfl rfl b1 (by omega) f0 (by
    have : (2 : Nat) ^ 8000 ≥ 2 ^ 200 := Nat.pow_le_pow_right (by decide) (by decide)
    have b200 : (2 : Nat) ^ 200 = 1606938044258990275541962092341162602522202993782792835301376 := by decide
    omega)
  have o1 : mOp dAdd (mC (.int 2)) _ (nuS t) = .ok (.int ((2 + u.toNat : Nat) : Int)) _ := op_v (f := dAdd) (x := .int 2) rfl p2 (by
    show some (D.int (2 + u)) = _
    congr 2
    omega)
  refine ⟨TL.numL (2 + u.toNat), t2, ⟨TL.numL_len (by decide) (by omega), fun c hc => by have := num_dig _ c hc; omega⟩, b2, ?_⟩
  have st : dStr1 [.int ((2 + u.toNat : Nat) : Int)] = some (.str (W (TL.numL (2 + u.toNat)))) := str_num (by
    have : (2 : Nat) ^ 1000 ≥ 2 ^ 200 := Nat.pow_le_pow_right (by decide) (by decide)
    have b200 : (2 : Nat) ^ 200 = 1606938044258990275541962092341162602522202993782792835301376 := by decide
    omega)
  unfold m__law_number asDef
  rw [ent]
  have s1 : m__law_number_1 cs (nuS t) = .rt (.fz (.str (W (TL.numL (2 + u.toNat))))) (((nuS t).put 0 t1).put 0 t2) := by
    refine ret_d ?_
    exact call_v (cons_v o1 rfl) st
  rw [s1]
  rfl
theorem while_go {c : SD → ER Bool} {body : SD → Fl} (I : Nat → SD → Prop) (J : SD → Prop) (h : ∀ k sd, I k sd → (c sd = .ok false sd ∧ J sd) ∨ (c sd = .ok true sd ∧ ∃ sd2 k2, k2 < k ∧ body sd = .nx sd2 ∧ I k2 sd2)) : ∀ n k sd, I k sd → k < n → ∃ sd', goWhile c body n sd = .nx sd' ∧ J sd'
  | 0, k, sd, _, hk => by omega
  | n + 1, k, sd, hI, hk => by
    rcases h k sd hI with ⟨h1, h2⟩ | ⟨h1, sd2, k2, h2, h3, h4⟩
    · refine ⟨sd, ?_, h2⟩
      unfold goWhile
      rw [h1]
      rfl
    · obtain ⟨sd', g1, g2⟩ := while_go I J h n k2 sd2 h4 (by omega)
      refine ⟨sd', ?_, g2⟩
      unfold goWhile
      rw [h1]
      show (match body sd with
      | .nx sd2 => goWhile c body n sd2
      | .ct sd2 => goWhile c body n sd2
      | .bk sd2 => .nx sd2
      | r => r) = _
      rw [h3]
      exact g1
theorem noSlot_fz : ∀ ds : List D, noSlot (ds.map DL.Arg.fz) = true
  | [] => rfl
  | d :: r => noSlot_fz r
theorem treesOf_fz (sd : SD) : ∀ ds : List D, treesOf sd (ds.map DL.Arg.fz) = some (ds.map OT.fz)
  | [] => rfl
  | d :: r => by
    show (treesOf sd (r.map DL.Arg.fz)).map _ = _
    rw [treesOf_fz sd r]
    rfl
/-- a call that hands over the bag first -/
theorem call_bags {f : List OT → ER OT} {i : Nat} {rr : SD → ER (List DL.Arg)} {sd sd1 s2 : SD} {ds : List D} {r t t0 t' : OT} (ha : rr sd = .ok (ds.map .fz) sd1) (h0 : sd.tree i = some t0) (h1 : sd1.tree i = some t) (hf : f (t :: ds.map .fz) = .ok r s2) (hp : s2.pa[0]? = some t') : mCall1 f (rSlot i rr) sd = .ok r (sd1.put i t') := by
  have e : rSlot i rr sd = .ok (.sl i :: ds.map .fz) sd1 := by
    unfold rSlot
    rw [h0]
    show ER.bind (rr sd) _ = _
    rw [ha]
    rfl
  have e2 : treesOf sd1 (.sl i :: ds.map .fz) = some (t :: ds.map .fz) := by
    show (sd1.tree i).bind (fun t => (treesOf sd1 (ds.map .fz)).map (t :: ·)) = _
    rw [h1, treesOf_fz]
    rfl
  have e3 : oneSlot (.sl i :: ds.map .fz) = some (0, i) := by
    show (if noSlot (ds.map DL.Arg.fz) = true then some (0, i) else none) = _
    rw [noSlot_fz]
    rfl
  unfold mCall1
  rw [e]
  simp only [ER.bind]
  rw [e3, e2]
  simp only
  rw [hf]
  simp only
  rw [hp]
theorem rfz_v {a : SD → ER D} {r : SD → ER (List DL.Arg)} {sd sd1 sd2 : SD} {d : D} {ds : List D} (ha : a sd = .ok d sd1) (hr : r sd1 = .ok (ds.map .fz) sd2) : rFz a r sd = .ok ((d :: ds).map .fz) sd2 := by
  unfold rFz
  rw [ha]
  simp only [ER.bind]
  rw [hr]
  rfl
theorem cat_v {a b : SD → ER (List D)} {sd sd1 sd2 : SD} {xs ys : List D} (ha : a sd = .ok xs sd1) (hb : b sd1 = .ok ys sd2) (hl : xs.length + ys.length ≤ 16777216) : mCat a b sd = .ok (.ol ((xs ++ ys).map .fz)) sd2 := by
  unfold mCat
  rw [ha]
  simp only [ER.bind]
  rw [hb]
  simp only
  rw [if_pos hl]
theorem qnew_v {a : SD → ER OT} {sd sd1 : SD} {xs : List D} (h : a sd = .ok (.ol (xs.map .fz)) sd1) : qNew a sd = .ok xs sd1 := by
  unfold qNew
  rw [h]
  show ER.opt (fzOf (xs.map .fz)) sd1 = _
  rw [fzOf_map]
  rfl
theorem qfz_v {a : SD → ER D} {sd sd1 : SD} {xs : List D} (h : a sd = .ok (.lst xs) sd1) : qFz a sd = .ok xs sd1 := by
  unfold qFz
  rw [h]
  rfl
theorem set_o {k : Nat} {m : SD → ER OT} {sd : SD} {o : OT} {l : List S} {pa : List OT} (h : m sd = .ok o ⟨l, pa⟩) (hk : k < l.length) : sSet k m sd = .nx ⟨l.set k (.ow o), pa⟩ := by
  unfold sSet
  rw [h]
  show (if k < l.length then _ else _) = _
  rw [if_pos hk]
theorem own_v {m : SD → ER D} {sd sd1 : SD} {d : D} (h : m sd = .ok d sd1) : mOwn m sd = .ok (.fz d) sd1 := by
  unfold mOwn; rw [h]; rfl
theorem num_call (cs : Nat → Addr) {n i : Nat} {a : SD → ER D} {sd sd1 : SD} {t t0 : OT} (ha : a sd = .ok (.int 1) sd1) (h0 : sd.tree i = some t0) (h1 : sd1.tree i = some t) (hb : Bg n t) (hn : n + 2 < 2 ^ 64) : ∃ (w : List Nat) (t' : OT), OkW 31 w ∧ Bg (n + 2) t' ∧ mView (mCall1 (m__law_number cs) (rSlot i (rFz a rNil))) sd = .ok (.str (W w)) (sd1.put i t') := by
  obtain ⟨w, t', hw, b', e⟩ := number_ok cs hb hn
  refine ⟨w, t', hw, b', ?_⟩
  unfold mView
  rw [call_bag ha h0 h1 e rfl]
  rfl
noncomputable abbrev LET : D := .str (Str.ofString "fblrud")
noncomputable def wS (b : OT) (m d : Nat) (found : List (List Nat)) (many : Nat) (x7 x8 x9 : S) : SD := ⟨[.pa 0, .ow (.fz (.int m)), .ow (.fz (.int d)), .ow (.fz LET), .ow (.fz (.int 1)), .ow (.ol ((WsD found).map .fz)), .ow (.fz (.int many)), x7, x8, x9], [b, .fz (.int m), .fz (.int d), .fz LET, .fz (.int 1)]⟩
noncomputable def Sh (ws : List (List Nat)) : Prop := ∀ w ∈ ws, OkW 40 w
section
variable (cs : Nat → Addr) (rec : List OT → ER OT) {b : OT} {m d many : Nat} {found : List (List Nat)} {x7 x8 x9 : S}
theorem ws_see : mSee 5 (wS b m d found many x7 x8 x9) = .ok (.lst (WsD found)) (wS b m d found many x7 x8 x9) := by
  show ER.ok (OT.view (.ol _)) _ = _
  rw [OT.view, views_fz]
theorem ws_len : mCall dLen (mCons (mSee 5) mNil) (wS b m d found many x7 x8 x9) = .ok (.int found.length) (wS b m d found many x7 x8 x9) := call_v (cons_v ws_see rfl) (by
  show some (D.int (WsD found).length) = _
  rw [WsD_len])
theorem ws_cond : mTest (mOp dLt (mCall dLen (mCons (mSee 5) (mNil))) (mVar 6)) (wS b m d found many x7 x8 x9) = .ok (decide (found.length < many)) (wS b m d found many x7 x8 x9) := op_t ws_len (y := .int many) rfl (by
  show some (D.bl (decide ((found.length : Int) < (many : Int)))) = _
  congr 2
  exact decide_eq_decide.mpr (by omega))
theorem ws_3 {n : Nat} (hb : Bg n b) (hn : n < 2 ^ 64) : ∃ (v : Int) (b' : OT), Bg (n + 1) b' ∧ m__law_words_3 cs rec (wS b m d found many x7 x8 x9) = .nx (wS b' m d found many (.ow (.fz (.int v))) x8 x9) := by
  obtain ⟨v, b', v0, v1, h1, e⟩ := pick_call cs (a := mC (.int 5)) (i := 0) (sd := wS b m d found many x7 x8 x9) (sd1 := wS b m d found many x7 x8 x9) rfl rfl rfl hb hn (by decide) (by decide)
  refine ⟨v, b', h1, ?_⟩
  exact set_d (l := (wS b' m d found many x7 x8 x9).sl) e (by show 7 < 10; decide)
theorem ws_4 (h : found.length < many) : m__law_words_4 cs rec (wS b m d found many x7 x8 x9) = .nx (wS b m d found many x7 (.ow (.fz (.int (many - found.length : Nat)))) x9) := by
  have o : mOp dSub (mVar 6) (mCall dLen (mCons (mSee 5) (mNil))) (wS b m d found many x7 x8 x9) = .ok (.int (many - found.length : Nat)) (wS b m d found many x7 x8 x9) := op_v (x := .int many) rfl ws_len (by
    show some (D.int ((many : Int) - found.length)) = _
    congr 2
    omega)
  exact set_d (l := (wS b m d found many x7 x8 x9).sl) o (by show 8 < 10; decide)
theorem ix_W {l : List Nat} {v : Int} (h0 : 0 ≤ v) (h1 : v < l.length) (hl : l.length ≤ 16777216) : ∃ c, c ∈ l ∧ dIx (.str (W l)) (.int v) = some (.str (W [c])) := by
  have hv : v.toNat < l.length := by omega
  refine ⟨l[v.toNat], List.getElem_mem hv, ?_⟩
  show (if (W l).length ≤ 16777216 then (atI l v).map (fun c => D.str ⟨#[c]⟩) else none) = _
  have := atI_of (xs := l) (k := v.toNat) (v := l[v.toNat]) (by simp [hv])
  rw [show ((v.toNat : Nat) : Int) = v by omega] at this
  rw [W_len, if_pos hl, this]
  rfl
theorem ix_let {v : Int} (h0 : 0 ≤ v) (h1 : v < 6) : ∃ c, c < 200 ∧ dIx LET (.int v) = some (.str (W [c])) := by
  obtain ⟨c, hc, e⟩ := ix_W (l := [102, 98, 108, 114, 117, 100]) h0 h1 (by decide)
  exact ⟨c, (by decide : ∀ c ∈ ([102, 98, 108, 114, 117, 100] : List Nat), c < 200) c hc, by rw [← lit_let] at e; exact e⟩
theorem ws_7 {n : Nat} {way : Int} (hb : Bg n b) (hn : n + 3 < 2 ^ 64) (hl : found.length < 1000) : ∃ (w : List Nat) (b' : OT), OkW 40 w ∧ Bg (n + 3) b' ∧ m__law_words_7 cs rec (wS b m d found many (.ow (.fz (.int way))) x8 x9) = .nx (wS b' m d (found ++ [w]) many (.ow (.fz (.int way))) x8 x9) := by
  obtain ⟨v, b1, v0, v1, h1, e1⟩ := pick_call cs (a := mCall dLen (mCons (mVar 3) mNil)) (i := 0) (sd := wS b m d found many (.ow (.fz (.int way))) x8 x9) (sd1 := wS b m d found many (.ow (.fz (.int way))) x8 x9) (m := 6) rfl rfl rfl hb (by omega) (by decide) (by decide)
  obtain ⟨c, hc2, hc⟩ := ix_let v0 v1
  have o1 := op_v (f := dIx) (a := mVar 3) (sd := wS b m d found many (.ow (.fz (.int way))) x8 x9) (x := LET) rfl e1 hc
  obtain ⟨w, b2, hw, h2, e2⟩ := num_call cs (a := mVar 4) (i := 0) (sd := wS b1 m d found many (.ow (.fz (.int way))) x8 x9) (sd1 := wS b1 m d found many (.ow (.fz (.int way))) x8 x9) rfl rfl rfl h1 (by omega)
  have l2 : mView (mLst (mCons (mC (.str (Str.ofString ""))) (mCons (mView (mCall1 (m__law_number cs) (rSlot 0 (rFz (mVar 4) rNil)))) mNil))) (wS b1 m d found many (.ow (.fz (.int way))) x8 x9) = .ok (.lst [.str (Str.ofString ""), .str (W w)]) (wS b2 m d found many (.ow (.fz (.int way))) x8 x9) := lst_v (cons_v rfl (cons_v e2 rfl)) (by show 2 ≤ 16777216; decide)
  have q : mCall dInt2 (mCons (mOp dEq (mVar 7) (mC (.int 1))) mNil) (wS b2 m d found many (.ow (.fz (.int way))) x8 x9) = .ok (.int (if (decide (way = 1)) = true then 1 else 0)) (wS b2 m d found many (.ow (.fz (.int way))) x8 x9) := call_v (cons_v (op_v (f := dEq) (x := .int way) (y := .int 1) (z := .bl (decide (way = 1))) rfl rfl (by unfold dEq; rw [eqB_int]; rfl)) rfl) (int2_bl _)
  obtain ⟨u, hu, ix⟩ : ∃ u : List Nat, OkW 31 u ∧ dIx (.lst [.str (Str.ofString ""), .str (W w)]) (.int (if (decide (way = 1)) = true then 1 else 0)) = some (.str (W u)) := by
    by_cases hway : way = 1
    · exact ⟨w, hw, by rw [decide_eq_true hway]; rfl⟩
    · exact ⟨[], ⟨by decide, fun c hc => by cases hc⟩, by rw [decide_eq_false hway, lit_nil]; rfl⟩
  have o2 := op_v l2 q ix
  have o3 : mOp dAdd _ _ (wS b m d found many (.ow (.fz (.int way))) x8 x9) = .ok (.str (W (c :: u))) _ := op_v (f := dAdd) o1 o2 (by
    show (if (W [c]).length + (W u).length ≤ 16777216 then some (D.str (W [c] ++ W u)) else none) = _
    rw [W_len, W_len, if_pos (by rw [List.length_singleton]; have := hu.1; omega), W_app]
    rfl)
  refine ⟨c :: u, b2, ⟨by rw [List.length_cons]; have := hu.1; omega, fun x hx => by
    rcases List.mem_cons.mp hx with rfl | hx
    · exact hc2
    · exact hu.2 x hx⟩, h2.mono (by omega), ?_⟩
  unfold m__law_words_7 sApp
  have t0 : (wS b m d found many (.ow (.fz (.int way))) x8 x9).tree 5 = some (.ol ((WsD found).map .fz)) := rfl
  rw [t0]
  simp only
  rw [own_v o3]
  show (if ((WsD found).map OT.fz).length < 16777216 then Fl.nx ((wS b2 m d found many (.ow (.fz (.int way))) x8 x9).put 5 (.ol ((WsD found).map .fz ++ [.fz (.str (W (c :: u)))]))) else .bad) = _
  rw [if_pos (by rw [List.length_map, WsD_len]; omega)]
  show Fl.nx (wS b2 m d found many (.ow (.fz (.int way))) x8 x9 |>.put 5 _) = _
  have : (WsD found).map OT.fz ++ [.fz (.str (W (c :: u)))] = (WsD (found ++ [c :: u])).map OT.fz := by rw [WsD_app, List.map_append]; rfl
  rw [this]
  rfl
theorem ws_6 {n : Nat} {part : List (List Nat)} (hb : Bg n b) (hn : n + 3 < 2 ^ 64) (hl : found.length + part.length < 1000) : ∃ (w : List Nat) (b' : OT), OkW 40 w ∧ Bg (n + 2) b' ∧ m__law_words_6 cs rec (wS b m d found many x7 x8 (.ow (.fz (.lst (WsD part))))) = .nx (wS b' m d (found ++ [[40]] ++ part ++ [w]) many x7 x8 (.ow (.fz (.lst (WsD part))))) := by
  obtain ⟨w, b2, hw, h2, e2⟩ := num_call cs (a := mVar 4) (i := 0) (sd := wS b m d found many x7 x8 (.ow (.fz (.lst (WsD part))))) (sd1 := wS b m d found many x7 x8 (.ow (.fz (.lst (WsD part))))) rfl rfl rfl hb (by omega)
  refine ⟨41 :: w, b2, ⟨by rw [List.length_cons]; have := hw.1; omega, fun x hx => by
    rcases List.mem_cons.mp hx with rfl | hx
    · decide
    · exact hw.2 x hx⟩, h2, ?_⟩
  have q5 : qSee 5 (wS b m d found many x7 x8 (.ow (.fz (.lst (WsD part))))) = .ok (WsD found) (wS b m d found many x7 x8 (.ow (.fz (.lst (WsD part))))) := by
    show ER.opt (fzOf ((WsD found).map .fz)) _ = _
    rw [fzOf_map]
    rfl
  have c1 := cat_v q5 (qnew_v (lst_o (a := mCons (mC (.str (Str.ofString "("))) mNil) (xs := [.str (Str.ofString "(")]) rfl (by decide))) (by rw [WsD_len, List.length_singleton]; omega)
  have c2 := cat_v (qnew_v c1) (qfz_v (a := mVar 9) (xs := WsD part) rfl) (by rw [List.length_append, WsD_len, WsD_len, List.length_singleton]; omega)
  have o : mOp dAdd (mC (.str (Str.ofString ")"))) (mView (mCall1 (m__law_number cs) (rSlot 0 (rFz (mVar 4) rNil)))) (wS b m d found many x7 x8 (.ow (.fz (.lst (WsD part))))) = .ok (.str (W (41 :: w))) (wS b2 m d found many x7 x8 (.ow (.fz (.lst (WsD part))))) := op_v (x := .str (Str.ofString ")")) rfl e2 (by
    rw [lit_close]
    show (if (W [41]).length + (W w).length ≤ 16777216 then some (D.str (W [41] ++ W w)) else none) = _
    rw [W_len, W_len, if_pos (by rw [List.length_singleton]; have := hw.1; omega), W_app]
    rfl)
  have c3 := cat_v (qfz_v (view_v c2)) (qnew_v (lst_o (cons_v o (r := mNil) rfl) (by show 1 ≤ 16777216; decide))) (by rw [List.length_append, List.length_append, WsD_len, WsD_len, List.length_singleton, List.length_singleton]; omega)
  have r := set_o (k := 5) (l := (wS b2 m d found many x7 x8 (.ow (.fz (.lst (WsD part))))).sl) c3 (by show 5 < 10; decide)
  have e : WsD found ++ [.str (Str.ofString "(")] ++ WsD part ++ [.str (W (41 :: w))] = WsD (found ++ [[40]] ++ part ++ [41 :: w]) := by
    rw [WsD_app, WsD_app, WsD_app, lit_open]
    rfl
  rw [e] at r
  exact r
end
/-- what a call of words gives -/
noncomputable def WordsOk (f : List OT → ER OT) (d : Nat) : Prop := ∀ (n m : Nat) (b : OT), 1 ≤ m → m ≤ 60 → Bg n b → n + 5 * m + 10 < 2 ^ 64 → ∃ (ws : List (List Nat)) (b' : OT), f [b, .fz (.int m), .fz (.int d), .fz LET, .fz (.int 1)] = .ok (.ol ((WsD ws).map .fz)) ⟨[], [b', .fz (.int m), .fz (.int d), .fz LET, .fz (.int 1)]⟩ ∧ Bg (n + 1 + 5 * ws.length) b' ∧ 1 ≤ ws.length ∧ ws.length ≤ m ∧ Sh ws
noncomputable def wI (n m d many k : Nat) (sd : SD) : Prop := ∃ b found x7 x8 x9, sd = wS b m d found many x7 x8 x9 ∧ k = many - found.length ∧ found.length ≤ many ∧ Bg (n + 1 + 5 * found.length) b ∧ Sh found
theorem sh_app {a b : List (List Nat)} (h1 : Sh a) (h2 : Sh b) : Sh (a ++ b) := fun w hw => by
  rcases List.mem_append.mp hw with h | h
  · exact h1 w h
  · exact h2 w h
theorem sh_one {w : List Nat} (h : OkW 40 w) : Sh [w] := fun x hx => by
  rw [List.mem_singleton.mp hx]; exact h
theorem ws_body (cs : Nat → Addr) (rec : List OT → ER OT) {n m d many : Nat} (hm : many ≤ m) (hm2 : m ≤ 60) (hn : n + 5 * m + 10 < 2 ^ 64) (hr : ∀ d2, d = d2 + 1 → WordsOk rec d2) {k : Nat} {b : OT} {found : List (List Nat)} {x7 x8 x9 : S} (hk : k = many - found.length) (hf : found.length < many) (hb : Bg (n + 1 + 5 * found.length) b) (hs : Sh found) :
    ∃ sd2 k2, k2 < k ∧ m__law_words_b1 cs rec (wS b m d found many x7 x8 x9) = .nx sd2 ∧ wI n m d many k2 sd2 := by
  obtain ⟨way, b1, h1, s3⟩ := ws_3 cs rec (m := m) (d := d) (many := many) (found := found) (x7 := x7) (x8 := x8) (x9 := x9) hb (by omega)
  have s4 := ws_4 cs rec (b := b1) (m := m) (d := d) (x7 := .ow (.fz (.int way))) (x8 := x8) (x9 := x9) hf
  generalize hroom : many - found.length = room at *
  let S1 := wS b1 m d found many (.ow (.fz (.int way))) (.ow (.fz (.int room))) x9
  have tA : mTest (mOp dEq (mVar 7) (mC (.int 0))) S1 = .ok (decide (way = 0)) S1 := op_t (x := .int way) (y := .int 0) rfl rfl (by unfold dEq; rw [eqB_int]; rfl)
  have tB : mTest (mOp dGt (mVar 2) (mC (.int 0))) S1 = .ok (decide ((0 : Int) < d)) S1 := op_t (x := .int d) (y := .int 0) rfl rfl rfl
  have tC : mTest (mOp dGt (mVar 8) (mC (.int 2))) S1 = .ok (decide ((2 : Int) < room)) S1 := op_t (x := .int room) (y := .int 2) rfl rfl rfl
  have t8 := and_b tA (and_b tB tC)
  unfold m__law_words_b1
  by_cases hc : (decide (way = 0) && (decide ((0 : Int) < d) && decide ((2 : Int) < room))) = true
  · rw [hc] at t8
    simp only [Bool.and_eq_true, decide_eq_true_eq] at hc
    obtain ⟨c1, c2, c3⟩ := hc
    obtain ⟨d2, rfl⟩ : ∃ d2, d = d2 + 1 := ⟨d - 1, by omega⟩
    obtain ⟨part, b2, e, h2, p1, p2, p3⟩ := hr d2 rfl (n + 1 + 5 * found.length + 1) (room - 2) b1 (by omega) (by omega) h1 (by omega)
    have a1 : mOp dSub (mVar 8) (mC (.int 2)) S1 = .ok (.int (room - 2 : Nat)) S1 := op_v (x := .int room) (y := .int 2) rfl rfl (by
      show some (D.int ((room : Int) - 2)) = _
      congr 2
      omega)
    have a2 : mOp dSub (mVar 2) (mC (.int 1)) S1 = .ok (.int d2) S1 := op_v (x := .int (d2 + 1 : Nat)) (y := .int 1) rfl rfl (by
      show some (D.int (((d2 + 1 : Nat) : Int) - 1)) = _
      congr 2
      omega)
    have args : (rFz (mOp dSub (mVar 8) (mC (.int 2))) (rFz (mOp dSub (mVar 2) (mC (.int 1))) (rFz (mVar 3) (rFz (mVar 4) rNil)))) S1 = .ok (([.int (room - 2 : Nat), .int d2, LET, .int 1] : List D).map .fz) S1 := rfz_v a1 (rfz_v a2 (rfz_v (ds := [.int 1]) rfl (rfz_v (ds := []) rfl rfl)))
    have cl := call_bags (f := rec) (i := 0) args (t0 := b1) (t := b1) rfl rfl e rfl
    have s5 : m__law_words_5 cs rec S1 = .nx (wS b2 m (d2 + 1) found many (.ow (.fz (.int way))) (.ow (.fz (.int room))) (.ow (.fz (.lst (WsD part))))) :=
      set_d (k := 9) (l := (wS b2 m (d2 + 1) found many (.ow (.fz (.int way))) (.ow (.fz (.int room))) x9).sl) (view_v cl) (by show 9 < 10; decide)
    obtain ⟨w, b3, hw, h3, s6⟩ := ws_6 cs rec (m := m) (d := d2 + 1) (many := many) (found := found) (x7 := .ow (.fz (.int way))) (x8 := .ow (.fz (.int room))) (part := part) h2 (by omega) (by omega)
    have s8 : m__law_words_8 cs rec S1 = .nx (wS b3 m (d2 + 1) (found ++ [[40]] ++ part ++ [w]) many (.ow (.fz (.int way))) (.ow (.fz (.int room))) (.ow (.fz (.lst (WsD part))))) := by
      unfold m__law_words_8
      rw [if_b t8, if_pos rfl]
      exact seq_nx s5 s6
    have len : (found ++ [[40]] ++ part ++ [w]).length = found.length + 1 + part.length + 1 := by simp only [List.length_append, List.length_singleton]
    refine ⟨_, many - (found ++ [[40]] ++ part ++ [w]).length, by rw [len]; omega, seq_nx s3 (seq_nx s4 s8), _, _, _, _, _, rfl, rfl, by rw [len]; omega, h3.mono (by rw [len]; omega), sh_app (sh_app (sh_app hs (sh_one ⟨by decide, by decide⟩)) p3) (sh_one hw)⟩
  · have hc : (decide (way = 0) && (decide ((0 : Int) < d) && decide ((2 : Int) < room))) = false := by simpa using hc
    rw [hc] at t8
    obtain ⟨w, b2, hw, h2, s7⟩ := ws_7 cs rec (m := m) (d := d) (many := many) (found := found) (way := way) (x8 := .ow (.fz (.int room))) (x9 := x9) h1 (by omega) (by omega)
    have s8 : m__law_words_8 cs rec S1 = .nx (wS b2 m d (found ++ [w]) many (.ow (.fz (.int way))) (.ow (.fz (.int room))) x9) := by
      unfold m__law_words_8
      rw [if_b t8, if_neg Bool.false_ne_true]
      exact s7
    have len : (found ++ [w]).length = found.length + 1 := by simp only [List.length_append, List.length_singleton]
    refine ⟨_, many - (found ++ [w]).length, by rw [len]; omega, seq_nx s3 (seq_nx s4 s8), _, _, _, _, _, rfl, rfl, by rw [len]; omega, h2.mono (by rw [len]; omega), sh_app hs (sh_one hw)⟩
theorem words_r (cs : Nat → Addr) (rec : List OT → ER OT) {d : Nat} (hr : ∀ d2, d = d2 + 1 → WordsOk rec d2) : WordsOk (m__law_words_r cs rec) d := by
  intro n m b hm1 hm2 hb hn
  have ent : ∀ (x y z : Int), entry 10 [.ol [.fz (.int x), .fz (.int y), .fz (.int z)], .fz (.int m), .fz (.int d), .fz LET, .fz (.int 1)] = ⟨[.pa 0, .ow (.fz (.int m)), .ow (.fz (.int d)), .ow (.fz LET), .ow (.fz (.int 1)), .un, .un, .un, .un, .un], [.ol [.fz (.int x), .fz (.int y), .fz (.int z)], .fz (.int m), .fz (.int d), .fz LET, .fz (.int 1)]⟩ := fun _ _ _ => rfl
  have ent : entry 10 [b, .fz (.int m), .fz (.int d), .fz LET, .fz (.int 1)] = ⟨[.pa 0, .ow (.fz (.int m)), .ow (.fz (.int d)), .ow (.fz LET), .ow (.fz (.int 1)), .un, .un, .un, .un, .un], [b, .fz (.int m), .fz (.int d), .fz LET, .fz (.int 1)]⟩ := by
    obtain ⟨x, y, z, rfl, _, _⟩ := hb
    exact ent x y z
  let S0 := fun (x : OT) (x5 x6 : S) => (⟨[.pa 0, .ow (.fz (.int m)), .ow (.fz (.int d)), .ow (.fz LET), .ow (.fz (.int 1)), x5, x6, .un, .un, .un], [x, .fz (.int m), .fz (.int d), .fz LET, .fz (.int 1)]⟩ : SD)
  have s1 : m__law_words_1 cs rec (S0 b .un .un) = .nx (S0 b (.ow (.ol [])) .un) := rfl
  obtain ⟨v, b1, v0, v1, h1, e⟩ := pick_call cs (a := mVar 1) (i := 0) (sd := S0 b (.ow (.ol [])) .un) (sd1 := S0 b (.ow (.ol [])) .un) (m := m) rfl rfl rfl hb (by omega) (by omega) (by
    have : (2 : Nat) ^ 8000 ≥ 2 ^ 20 := Nat.pow_le_pow_right (by decide) (by decide)
    have : (2 : Nat) ^ 20 = 1048576 := by decide
    omega)
  obtain ⟨many, hmany⟩ : ∃ many : Nat, (many : Int) = 1 + v := ⟨(1 + v).toNat, by omega⟩
  have s2 : m__law_words_2 cs rec (S0 b (.ow (.ol [])) .un) = .nx (wS b1 m d [] many .un .un .un) := by
    refine set_d (l := (S0 b1 (.ow (.ol [])) .un).sl) (op_v (x := .int 1) rfl e (z := .int many) ?_) (by show 6 < 10; decide)
    rw [hmany]
    rfl
  obtain ⟨sd', w1, b2, found, x7, x8, x9, rfl, h2, h3, h4⟩ := while_go (c := mTest (mOp dLt (mCall dLen (mCons (mSee 5) (mNil))) (mVar 6))) (body := m__law_words_b1 cs rec) (wI n m d many) (fun sd => ∃ b found x7 x8 x9, sd = wS b m d found many x7 x8 x9 ∧ found.length = many ∧ Bg (n + 1 + 5 * found.length) b ∧ Sh found)
    (fun k sd hI => by
      obtain ⟨b, found, x7, x8, x9, rfl, hk, hf, hb, hs⟩ := hI
      have hc := ws_cond (b := b) (m := m) (d := d) (many := many) (found := found) (x7 := x7) (x8 := x8) (x9 := x9)
      by_cases hlt : found.length < many
      · rw [decide_eq_true hlt] at hc
        exact .inr ⟨hc, ws_body cs rec (by omega) hm2 hn hr hk hlt hb hs⟩
      · rw [decide_eq_false hlt] at hc
        exact .inl ⟨hc, _, _, _, _, _, rfl, by omega, hb, hs⟩)
    100000 many (wS b1 m d [] many .un .un .un) ⟨_, _, _, _, _, rfl, rfl, Nat.zero_le _, h1, fun w hw => by cases hw⟩ (by omega)
  have s9 : m__law_words_9 cs rec (wS b1 m d [] many .un .un .un) = .nx (wS b2 m d found many x7 x8 x9) := w1
  refine ⟨found, b2, ?_, h3, by omega, by omega, h4⟩
  unfold m__law_words_r asDef
  rw [ent, seq_nx s1 (seq_nx s2 (seq_nx s9 rfl))]
  rfl
theorem words_ok (cs : Nat → Addr) : ∀ (f d : Nat), d < f → WordsOk (m__law_words cs f) d
  | 0, d, h => by omega
  | f + 1, d, h => by
    have hr : ∀ d2, d = d2 + 1 → WordsOk (m__law_words cs f) d2 := fun d2 e => words_ok cs f d2 (by omega)
    exact words_r cs (m__law_words cs f) hr
noncomputable def OkD (n : Nat) (d : D) : Prop := ∃ w, d = .str (W w) ∧ OkW n w
noncomputable def OkDs (n : Nat) (ds : List D) : Prop := ∀ d ∈ ds, OkD n d
noncomputable def OkR (n : Nat) (ws : List (List Nat)) : Prop := ∀ w ∈ ws, OkW n w
theorem OkW.mono {n m : Nat} {w : List Nat} (h : OkW n w) (hm : n ≤ m) : OkW m w := ⟨Nat.le_trans h.1 hm, h.2⟩
theorem okd_nil {n : Nat} : OkDs n [] := fun d h => by cases h
theorem okd_cons {n : Nat} {d : D} {r : List D} (h : OkD n d) (hr : OkDs n r) : OkDs n (d :: r) := fun x hx => by
  rcases List.mem_cons.mp hx with rfl | hx
  · exact h
  · exact hr x hx
theorem okd_app {n : Nat} {a b : List D} (h : OkDs n a) (hr : OkDs n b) : OkDs n (a ++ b) := fun x hx => by
  rcases List.mem_append.mp hx with hx | hx
  · exact h x hx
  · exact hr x hx
theorem okd_lit (s : String) (h : (s.toList.map Char.toNat).length ≤ 3001 ∧ ∀ c ∈ s.toList.map Char.toNat, c < 200) : OkD 3001 (.str (Str.ofString s)) := ⟨s.toList.map Char.toNat, by rw [lit_ s _ rfl], h⟩
theorem rep_list (c : Nat) : ∀ (k : Nat) (acc : Array Nat), ((List.replicate k (#[c] : Array Nat)).foldl (· ++ ·) acc).toList = acc.toList ++ List.replicate k c
  | 0, acc => by simp
  | k + 1, acc => by
    rw [List.replicate_succ, List.foldl_cons, rep_list c k, List.replicate_succ]
    simp
theorem mul_lit (c k : Nat) (hk : k ≤ 16777216) : dMulX (.str (W [c])) (.int k) = some (.str (W (List.replicate k c))) := by
  show (if (0 : Int) ≤ (k : Int) ∧ (k : Int) ≤ 16777216 ∧ (W [c]).length * (k : Int).toNat ≤ 16777216 then some (D.str (repS (W [c]) k)) else none) = _
  rw [if_pos ⟨by omega, by omega, by rw [W_len, List.length_singleton, Int.toNat_natCast]; omega⟩]
  congr 2
  apply TL.ext_tl
  show ((List.replicate (k : Int).toNat (#[c] : Array Nat)).foldl (· ++ ·) #[]).toList = List.replicate k c
  rw [rep_list, Int.toNat_natCast]
  simp
theorem okd_rep (c k : Nat) (hc : c < 200) (hk : k ≤ 3001) : OkW k (List.replicate k c) := ⟨by rw [List.length_replicate]; exact Nat.le_refl _, fun x hx => by rw [(List.mem_replicate.mp hx).2]; exact hc⟩
theorem okw_app {n m : Nat} {a b : List Nat} (h1 : OkW n a) (h2 : OkW m b) : OkW (n + m) (a ++ b) := ⟨by rw [List.length_append]; have := h1.1; have := h2.1; omega, fun x hx => by
  rcases List.mem_append.mp hx with hx | hx
  · exact h1.2 x hx
  · exact h2.2 x hx⟩
theorem add_S {a b : List Nat} (h : a.length + b.length ≤ 16777216) : dAdd (.str (W a)) (.str (W b)) = some (.str (W (a ++ b))) := by
  show (if (W a).length + (W b).length ≤ 16777216 then some (D.str (W a ++ W b)) else none) = _
  rw [W_len, W_len, if_pos h, W_app]
/-- a sign or two, then many of one -/
theorem times_v (s t : String) (l : List Nat) (c k : Nat) {sd : SD} (h1 : Str.ofString s = W l) (h2 : Str.ofString t = W [c]) (hl : l.length ≤ 10) (hk : k ≤ 3001) : mOp dAdd (mC (.str (Str.ofString s))) (mOp dMulX (mC (.str (Str.ofString t))) (mC (.int (k : Int)))) sd = .ok (.str (W (l ++ List.replicate k c))) sd := by
  refine op_v (sd1 := sd) rfl (op_v (sd1 := sd) rfl rfl (by rw [h2]; exact mul_lit c k (by omega))) ?_
  rw [h1]
  exact add_S (by rw [List.length_replicate]; omega)
theorem at_D {n : Nat} {ds : List D} (h : OkDs n ds) {v : Int} (h0 : 0 ≤ v) (h1 : v < ds.length) : ∃ w, dIx (.lst ds) (.int v) = some (.str (W w)) ∧ OkW n w := by
  have hv : v.toNat < ds.length := by omega
  obtain ⟨w, e, hw⟩ := h ds[v.toNat] (List.getElem_mem hv)
  refine ⟨w, ?_, hw⟩
  show atI ds v = _
  have := atI_of (xs := ds) (k := v.toNat) (v := ds[v.toNat]) (by simp [hv])
  rw [show ((v.toNat : Nat) : Int) = v by omega] at this
  rw [this, e]
theorem at_R {ws : List (List Nat)} {v : Int} (h0 : 0 ≤ v) (h1 : v < ws.length) : ∃ w, atI (WsD ws) v = some (.str (W w)) ∧ w ∈ ws := by
  have hv : v.toNat < ws.length := by omega
  refine ⟨ws[v.toNat], ?_, List.getElem_mem hv⟩
  have := atI_of (xs := WsD ws) (k := v.toNat) (v := .str (W ws[v.toNat])) (by unfold WsD; simp [hv])
  rw [show ((v.toNat : Nat) : Int) = v by omega] at this
  exact this
noncomputable def cS (b : OT) (ws : D) (row : List (List Nat)) (x3 x4 x5 x6 x7 : S) : SD := ⟨[.pa 0, .ow (.fz ws), .ow (.ol ((WsD row).map .fz)), x3, x4, x5, x6, x7], [b, .fz ws]⟩
section
variable (cs : Nat → Addr) {b : OT} {ws : D} {row : List (List Nat)} {x3 x4 x5 x6 x7 : S}
theorem cs_see : mSee 2 (cS b ws row x3 x4 x5 x6 x7) = .ok (.lst (WsD row)) (cS b ws row x3 x4 x5 x6 x7) := by
  show ER.ok (OT.view (.ol _)) _ = _
  rw [OT.view, views_fz]
theorem cs_len : mCall dLen (mCons (mSee 2) mNil) (cS b ws row x3 x4 x5 x6 x7) = .ok (.int row.length) (cS b ws row x3 x4 x5 x6 x7) := call_v (cons_v cs_see rfl) (by
  show some (D.int (WsD row).length) = _
  rw [WsD_len])
theorem cs_q : qSee 2 (cS b ws row x3 x4 x5 x6 x7) = .ok (WsD row) (cS b ws row x3 x4 x5 x6 x7) := by
  show ER.opt (fzOf ((WsD row).map .fz)) _ = _
  rw [fzOf_map]
  rfl
noncomputable def OD (ds : D) : Prop := ∃ l : List D, ds = .lst l ∧ l.length = 39 ∧ OkDs 3001 l
theorem odds_ok : ∃ ods, OD ods ∧ (sSeq (m__law_changed_3 cs) (sSeq (m__law_changed_4 cs) (sSeq (m__law_changed_5 cs) (m__law_changed_6 cs)))) (cS b ws row x3 x4 x5 x6 x7) = .nx (cS b ws row x3 x4 (.ow (.fz ods)) x6 x7) := by
  let l3 : List D := [.str (Str.ofString ""), .str (Str.ofString "x"), .str (Str.ofString "f1"), .str (Str.ofString "f0"), .str (Str.ofString "f02"), .str (Str.ofString "f-2"), .str (Str.ofString "f+2"), .str (Str.ofString "F"), .str (Str.ofString "ff"), .str (Str.ofString "2f"), .str (Str.ofString ")"), .str (Str.ofString ")1"), .str (Str.ofString ")0"), .str (Str.ofString ")02"), .str (Str.ofString ")2"), .str (Str.ofString "("), .str (Str.ofString "()"), .str (Str.ofString "(2")]
  have k3 : OkDs 3001 l3 := (okd_cons (okd_lit "" (by decide)) (okd_cons (okd_lit "x" (by decide)) (okd_cons (okd_lit "f1" (by decide)) (okd_cons (okd_lit "f0" (by decide)) (okd_cons (okd_lit "f02" (by decide)) (okd_cons (okd_lit "f-2" (by decide)) (okd_cons (okd_lit "f+2" (by decide)) (okd_cons (okd_lit "F" (by decide)) (okd_cons (okd_lit "ff" (by decide)) (okd_cons (okd_lit "2f" (by decide)) (okd_cons (okd_lit ")" (by decide)) (okd_cons (okd_lit ")1" (by decide)) (okd_cons (okd_lit ")0" (by decide)) (okd_cons (okd_lit ")02" (by decide)) (okd_cons (okd_lit ")2" (by decide)) (okd_cons (okd_lit "(" (by decide)) (okd_cons (okd_lit "()" (by decide)) (okd_cons (okd_lit "(2" (by decide)) okd_nil))))))))))))))))))
  let l4 : List D := [.str (W ([102, 49] ++ List.replicate 30 48)), .str (W (([102, 49] ++ List.replicate 29 48) ++ [49])), .str (W ([102] ++ List.replicate 31 57)), .str (W ([102] ++ List.replicate 32 57)), .str (W ([41, 49] ++ List.replicate 30 48)), .str (Str.ofString "f\n"), .str (Str.ofString "f,")]
  have rp : ∀ (l : List Nat) (c k : Nat), OkW 10 l → c < 200 → k ≤ 2991 → OkD 3001 (.str (W (l ++ List.replicate k c))) := fun l c k h1 h2 h3 => ⟨_, rfl, (okw_app h1 (okd_rep c k h2 (by omega))).mono (by omega)⟩
  have k4 : OkDs 3001 l4 := okd_cons (rp _ _ _ ⟨by decide, by decide⟩ (by decide) (by decide)) (okd_cons ⟨_, rfl, (okw_app (okw_app (n := 2) ⟨by decide, by decide⟩ (okd_rep 48 29 (by decide) (by decide))) (m := 1) ⟨by decide, by decide⟩).mono (by decide)⟩ (okd_cons (rp _ _ _ ⟨by decide, by decide⟩ (by decide) (by decide)) (okd_cons (rp _ _ _ ⟨by decide, by decide⟩ (by decide) (by decide)) (okd_cons (rp _ _ _ ⟨by decide, by decide⟩ (by decide) (by decide)) (okd_cons (okd_lit "f\n" (by decide)) (okd_cons (okd_lit "f," (by decide)) okd_nil))))))
  let l5 : List D := [.str (Str.ofString "l2l"), .str (Str.ofString "u2.0"), .str (Str.ofString "d1e2"), .str (Str.ofString "b2_0"), .str (Str.ofString "r2 "), .str (Str.ofString " "), .str (Str.ofString "(("), .str (Str.ofString "))"), .str (Str.ofString "0"), .str (Str.ofString "2"), .str (W ([102] ++ List.replicate 3000 57)), .str (Str.ofString "z2")]
  have k5 : OkDs 3001 l5 := (okd_cons (okd_lit "l2l" (by decide)) (okd_cons (okd_lit "u2.0" (by decide)) (okd_cons (okd_lit "d1e2" (by decide)) (okd_cons (okd_lit "b2_0" (by decide)) (okd_cons (okd_lit "r2 " (by decide)) (okd_cons (okd_lit " " (by decide)) (okd_cons (okd_lit "((" (by decide)) (okd_cons (okd_lit "))" (by decide)) (okd_cons (okd_lit "0" (by decide)) (okd_cons (okd_lit "2" (by decide)) (okd_cons ⟨_, rfl, (okw_app (n := 1) ⟨by decide, by decide⟩ (okd_rep 57 3000 (by decide) (by decide))).mono (by decide)⟩ (okd_cons (okd_lit "z2" (by decide)) okd_nil))))))))))))
  let l6 : List D := [.str (Str.ofString "fblrud"), .str (Str.ofString ")2)")]
  have k6 : OkDs 3001 l6 := (okd_cons (okd_lit "fblrud" (by decide)) (okd_cons (okd_lit ")2)" (by decide)) okd_nil))
  have s3 : m__law_changed_3 cs (cS b ws row x3 x4 x5 x6 x7) = .nx (cS b ws row x3 x4 (.ow (.fz (.lst l3))) x6 x7) := rfl
  have w1 : Str.ofString "f1" = W [102, 49] := lit_ _ _ rfl
  have w2 : Str.ofString "f" = W [102] := lit_ _ _ rfl
  have w3 : Str.ofString ")1" = W [41, 49] := lit_ _ _ rfl
  have w4 : Str.ofString "9" = W [57] := lit_ _ _ rfl
  have w5 : Str.ofString "1" = W [49] := lit_ _ _ rfl
  have s4 : m__law_changed_4 cs (cS b ws row x3 x4 (.ow (.fz (.lst l3))) x6 x7) = .nx (cS b ws row x3 x4 (.ow (.fz (.lst (l3 ++ l4)))) x6 x7) := by
    refine set_d (l := (cS b ws row x3 x4 (.ow (.fz (.lst l3))) x6 x7).sl) (view_v (cat_v (sd1 := cS b ws row x3 x4 (.ow (.fz (.lst l3))) x6 x7) (xs := l3) (ys := l4) rfl (qnew_v (lst_o (xs := l4) ?_ (by show 7 ≤ 16777216; decide))) (by show 18 + 7 ≤ 16777216; decide))) (by show 5 < 8; decide)
    exact cons_v (times_v "f1" "0" _ 48 30 w1 lit_0 (by decide) (by decide)) (cons_v (op_v (times_v "f1" "0" _ 48 29 w1 lit_0 (by decide) (by decide)) rfl (by rw [w5]; exact add_S (by simp))) (cons_v (times_v "f" "9" _ 57 31 w2 w4 (by decide) (by decide)) (cons_v (times_v "f" "9" _ 57 32 w2 w4 (by decide) (by decide)) (cons_v (times_v ")1" "0" _ 48 30 w3 lit_0 (by decide) (by decide)) rfl))))
  have s5 : m__law_changed_5 cs (cS b ws row x3 x4 (.ow (.fz (.lst (l3 ++ l4)))) x6 x7) = .nx (cS b ws row x3 x4 (.ow (.fz (.lst (l3 ++ l4 ++ l5)))) x6 x7) := by
    refine set_d (l := (cS b ws row x3 x4 (.ow (.fz (.lst (l3 ++ l4)))) x6 x7).sl) (view_v (cat_v (sd1 := cS b ws row x3 x4 (.ow (.fz (.lst (l3 ++ l4)))) x6 x7) (xs := l3 ++ l4) (ys := l5) rfl (qnew_v (lst_o (xs := l5) ?_ (by show 12 ≤ 16777216; decide))) (by show 25 + 12 ≤ 16777216; decide))) (by show 5 < 8; decide)
    exact cons_v rfl (cons_v rfl (cons_v rfl (cons_v rfl (cons_v rfl (cons_v rfl (cons_v rfl (cons_v rfl (cons_v rfl (cons_v rfl (cons_v (times_v "f" "9" _ 57 3000 w2 w4 (by decide) (by decide)) rfl))))))))))
  have s6 : m__law_changed_6 cs (cS b ws row x3 x4 (.ow (.fz (.lst (l3 ++ l4 ++ l5)))) x6 x7) = .nx (cS b ws row x3 x4 (.ow (.fz (.lst (l3 ++ l4 ++ l5 ++ l6)))) x6 x7) := by
    exact set_d (l := (cS b ws row x3 x4 (.ow (.fz (.lst (l3 ++ l4 ++ l5)))) x6 x7).sl) (view_v (cat_v (sd1 := cS b ws row x3 x4 (.ow (.fz (.lst (l3 ++ l4 ++ l5)))) x6 x7) (xs := l3 ++ l4 ++ l5) (ys := l6) rfl (qnew_v (lst_o (xs := l6) rfl (by show 2 ≤ 16777216; decide))) (by show 37 + 2 ≤ 16777216; decide))) (by show 5 < 8; decide)
  exact ⟨_, ⟨_, rfl, rfl, okd_app (okd_app (okd_app k3 k4) k5) k6⟩, seq_nx s3 (seq_nx s4 (seq_nx s5 s6))⟩
end
section
variable (cs : Nat → Addr) {b : OT} {ws : D} {row : List (List Nat)} {x3 x4 x5 x6 x7 : S} {n L : Nat}
theorem par_v {i j : Nat} {ma mb : SD → ER OT} {sd sd1 : SD} {t u : OT} {l : List S} {pa : List OT} (ha : ma sd = .ok t sd1) (hb : mb sd1 = .ok u ⟨l, pa⟩) (hi : i < l.length) (hj : j < l.length) : sPar i j ma mb sd = .nx ⟨(l.set i (.ow t)).set j (.ow u), pa⟩ := by
  unfold sPar
  rw [ha]
  show ER.stm (mb sd1) _ = _
  rw [hb]
  show (if i < l.length ∧ j < l.length then _ else _) = _
  rw [if_pos ⟨hi, hj⟩]
noncomputable abbrev iv (i : Int) : S := .ow (.fz (.int i))
theorem ch_2 (hb : Bg n b) (hn : n + 2 < 2 ^ 64) (h1 : 1 ≤ row.length) (h2 : row.length ≤ 1000) : ∃ (v w : Int) (b' : OT), 0 ≤ v ∧ v < row.length ∧ 0 ≤ w ∧ w < row.length ∧ Bg (n + 2) b' ∧ m__law_changed_2 cs (cS b ws row x3 x4 x5 x6 x7) = .nx (cS b' ws row (iv v) (iv w) x5 x6 x7) := by
  have big : (row.length : Int).natAbs < 2 ^ 8000 := by
    have : (2 : Nat) ^ 8000 ≥ 2 ^ 20 := Nat.pow_le_pow_right (by decide) (by decide)
    have : (2 : Nat) ^ 20 = 1048576 := by decide
    omega
  obtain ⟨v, b1, v0, v1, hb1, e1⟩ := pick_call cs (i := 0) (t0 := b) (t := b) (cs_len (b := b) (ws := ws) (row := row) (x3 := x3) (x4 := x4) (x5 := x5) (x6 := x6) (x7 := x7)) rfl rfl hb (by omega) (by omega) big
  obtain ⟨w, b2, w0, w1, hb2, e2⟩ := pick_call cs (i := 0) (t0 := b1) (t := b1) (cs_len (b := b1) (ws := ws) (row := row) (x3 := x3) (x4 := x4) (x5 := x5) (x6 := x6) (x7 := x7)) rfl rfl hb1 (by omega) (by omega) big
  refine ⟨v, w, b2, v0, v1, w0, w1, hb2, ?_⟩
  exact par_v (l := (cS b2 ws row x3 x4 x5 x6 x7).sl) (own_v e1) (own_v e2) (by show 3 < 8; decide) (by show 4 < 8; decide)
theorem ch_7 {ods : D} (ho : OD ods) (hb : Bg n b) (hn : n + 2 < 2 ^ 64) : ∃ (w : List Nat) (b' : OT), OkW 3001 w ∧ Bg (n + 1) b' ∧ m__law_changed_7 cs (cS b ws row x3 x4 (.ow (.fz ods)) x6 x7) = .nx (cS b' ws row x3 x4 (.ow (.fz ods)) (.ow (.fz (.str (W w)))) x7) := by
  obtain ⟨l, rfl, hl, hk⟩ := ho
  obtain ⟨v, b1, v0, v1, hb1, e1⟩ := pick_call cs (a := mCall dLen (mCons (mVar 5) mNil)) (i := 0) (sd := cS b ws row x3 x4 (.ow (.fz (.lst l))) x6 x7) (sd1 := cS b ws row x3 x4 (.ow (.fz (.lst l))) x6 x7) (m := 39) (call_v (cons_v rfl rfl) (by show some (D.int l.length) = _; rw [hl]; rfl)) rfl rfl hb (by omega) (by decide) (by decide)
  obtain ⟨w, hw, hk2⟩ := at_D hk v0 (by omega)
  refine ⟨w, b1, hk2, hb1, ?_⟩
  exact set_d (l := (cS b1 ws row x3 x4 (.ow (.fz (.lst l))) x6 x7).sl) (op_v (a := mVar 5) (x := .lst l) rfl e1 hw) (by show 6 < 8; decide)
theorem ch_8 (hb : Bg n b) (hn : n + 2 < 2 ^ 64) : ∃ (v : Int) (b' : OT), 0 ≤ v ∧ v < 5 ∧ Bg (n + 1) b' ∧ m__law_changed_8 cs (cS b ws row x3 x4 x5 x6 x7) = .nx (cS b' ws row x3 x4 x5 x6 (iv v)) := by
  obtain ⟨v, b1, v0, v1, hb1, e1⟩ := pick_call cs (a := mC (.int 5)) (i := 0) (sd := cS b ws row x3 x4 x5 x6 x7) (sd1 := cS b ws row x3 x4 x5 x6 x7) (m := 5) rfl rfl rfl hb (by omega) (by decide) (by decide)
  exact ⟨v, b1, v0, v1, hb1, set_d (l := (cS b1 ws row x3 x4 x5 x6 x7).sl) e1 (by show 7 < 8; decide)⟩
theorem way_t (k : Int) {v : Int} : mTest (mOp dEq (mVar 7) (mC (.int k))) (cS b ws row x3 x4 x5 x6 (iv v)) = .ok (decide (v = k)) (cS b ws row x3 x4 x5 x6 (iv v)) := op_t (x := .int v) (y := .int k) rfl rfl (by unfold dEq; rw [eqB_int]; rfl)
theorem way_no {k v : Int} {body : SD → Fl} (h : v ≠ k) : sIf (mTest (mOp dEq (mVar 7) (mC (.int k)))) body sNil (cS b ws row x3 x4 x5 x6 (iv v)) = .nx (cS b ws row x3 x4 x5 x6 (iv v)) := by
  rw [if_b (way_t k), decide_eq_false h, if_neg Bool.false_ne_true]
  rfl
theorem way_yes {k : Int} {body : SD → Fl} : sIf (mTest (mOp dEq (mVar 7) (mC (.int k)))) body sNil (cS b ws row x3 x4 x5 x6 (iv k)) = body (cS b ws row x3 x4 x5 x6 (iv k)) := by
  rw [if_b (way_t k), decide_eq_true rfl, if_pos rfl]
theorem ixN_of {m : Nat} {v : Int} (h0 : 0 ≤ v) (h1 : v < m) : ixN m v = some v.toNat := by
  unfold ixN
  rw [if_pos h0, if_pos h1]
/-- x[at] = a word -/
theorem setat_v {sd : SD} {w : List Nat} {at_ : Int} {m : SD → ER D} {b2 : OT} (hm : m (cS b ws row (iv at_) x4 x5 x6 x7) = .ok (.str (W w)) (cS b2 ws row (iv at_) x4 x5 x6 x7)) (h0 : 0 ≤ at_) (h1 : at_ < row.length) : sSetAt 2 (mVar 3) (mOwn m) (cS b ws row (iv at_) x4 x5 x6 x7) = .nx (cS b2 ws (row.set at_.toNat w) (iv at_) x4 x5 x6 x7) := by
  unfold sSetAt
  rw [own_v hm]
  show setEnd 2 (.fz (.str (W w))) (.int at_) (cS b2 ws row (iv at_) x4 x5 x6 x7) = _
  show (match ixN ((WsD row).map OT.fz).length at_ with
    | some j => Fl.nx ((cS b2 ws row (iv at_) x4 x5 x6 x7).put 2 (.ol (((WsD row).map OT.fz).set j (.fz (.str (W w))))))
    | none => .bad) = _
  rw [ixN_of h0 (by rw [List.length_map, WsD_len]; exact h1)]
  have e : ((WsD row).map OT.fz).set at_.toNat (.fz (.str (W w))) = (WsD (row.set at_.toNat w)).map .fz := by
    unfold WsD
    rw [List.map_set, List.map_set]
  show Fl.nx ((cS b2 ws row (iv at_) x4 x5 x6 x7).put 2 (.ol (((WsD row).map OT.fz).set at_.toNat (.fz (.str (W w)))))) = _
  rw [e]
  rfl
theorem okr_set {w : List Nat} (h : OkR L row) (hw : OkW L w) (k : Nat) : OkR L (row.set k w) := fun x hx => by
  rcases List.mem_or_eq_of_mem_set hx with hx | rfl
  · exact h x hx
  · exact hw
theorem take_W (l : List Nat) (k : Nat) : cutS (W l) none (some (k : Int)) = W (l.take k) := by
  rw [cutS_W]
  congr 1
  unfold cutL
  rw [HT.sIx_none, HT.sIx_nat, List.drop_zero, Nat.sub_zero]
  by_cases h : k ≤ l.length
  · rw [Nat.min_eq_left h]
  · rw [Nat.min_eq_right (by omega), List.take_of_length_le (Nat.le_refl _), List.take_of_length_le (by omega)]
theorem okw_drop {w : List Nat} (h : OkW L w) : OkW L (w.drop 1) := ⟨by rw [List.length_drop]; have := h.1; omega, fun c hc => h.2 c (List.mem_of_mem_drop hc)⟩
theorem ix_sign {v : Int} (h0 : 0 ≤ v) (h1 : v < 19) : ∃ c, c < 200 ∧ dIx (.str (Str.ofString "fblrud()0123456789x")) (.int v) = some (.str (W [c])) := by
  obtain ⟨c, hc, e⟩ := ix_W (l := [102, 98, 108, 114, 117, 100, 40, 41, 48, 49, 50, 51, 52, 53, 54, 55, 56, 57, 120]) h0 h1 (by decide)
  exact ⟨c, (by decide : ∀ c ∈ ([102, 98, 108, 114, 117, 100, 40, 41, 48, 49, 50, 51, 52, 53, 54, 55, 56, 57, 120] : List Nat), c < 200) c hc, by rw [lit_ "fblrud()0123456789x" [102, 98, 108, 114, 117, 100, 40, 41, 48, 49, 50, 51, 52, 53, 54, 55, 56, 57, 120] rfl]; exact e⟩
/-- one sign more or less -/
theorem ch_17 {at_ : Int} (hb : Bg n b) (hn : n + 2 < 2 ^ 64) (h0 : 0 ≤ at_) (h1 : at_ < row.length) (hr : OkR L row) (hL : L ≤ 100000) : ∃ (row' : List (List Nat)) (b' : OT), row'.length = row.length ∧ OkR (L + 3) row' ∧ Bg (n + 2) b' ∧ m__law_changed_17 cs (cS b ws row (iv at_) x4 x5 x6 x7) = .nx (cS b' ws row' (iv at_) x4 x5 x6 x7) := by
  obtain ⟨w, hw, hm⟩ := at_R h0 h1
  have okw := hr w hm
  have at_v : ∀ b, mAt (qSee 2) (mVar 3) (cS b ws row (iv at_) x4 x5 x6 x7) = .ok (.str (W w)) (cS b ws row (iv at_) x4 x5 x6 x7) := fun b => by
    unfold mAt
    rw [cs_q]
    show ER.opt (atI (WsD row) at_) _ = _
    rw [hw]
    rfl
  have hwl : w.length ≤ 16777216 := by have := okw.1; omega
  obtain ⟨v, b1, v0, v1, hb1, e1⟩ := pick_call cs (a := mC (.int 3)) (i := 0) (sd := cS b ws row (iv at_) x4 x5 x6 x7) (sd1 := cS b ws row (iv at_) x4 x5 x6 x7) (m := 3) rfl rfl rfl hb (by omega) (by decide) (by decide)
  have c1 : mCutX (mAt (qSee 2) (mVar 3)) oNone (oSome (mView (mCall1 (m__law_pick cs) (rSlot 0 (rFz (mC (.int 3)) rNil))))) (cS b ws row (iv at_) x4 x5 x6 x7) = .ok (.str (W (w.take v.toNat))) (cS b1 ws row (iv at_) x4 x5 x6 x7) := by
    unfold mCutX
    rw [at_v]
    simp only [ER.bind, oNone]
    unfold oSome
    rw [e1]
    show (if (W w).length ≤ 16777216 then ER.ok (D.str (cutS (W w) none (some v))) (cS b1 ws row (iv at_) x4 x5 x6 x7) else .bad) = _
    rw [W_len, if_pos hwl, show v = ((v.toNat : Nat) : Int) by omega, take_W, Int.toNat_natCast]
  obtain ⟨u, b2, u0, u1, hb2, e2⟩ := pick_call cs (a := mC (.int 19)) (i := 0) (sd := cS b1 ws row (iv at_) x4 x5 x6 x7) (sd1 := cS b1 ws row (iv at_) x4 x5 x6 x7) (m := 19) rfl rfl rfl hb1 (by omega) (by decide) (by decide)
  obtain ⟨c, hc, ic⟩ := ix_sign u0 u1
  have o1 := op_v (f := dIx) (a := mC (.str (Str.ofString "fblrud()0123456789x"))) (sd := cS b1 ws row (iv at_) x4 x5 x6 x7) rfl e2 ic
  have tl : (w.take v.toNat).length ≤ 2 := by rw [List.length_take]; omega
  have o2 := op_v (f := dAdd) c1 o1 (add_S (by rw [List.length_singleton]; omega))
  have c3 := cutr_S hwl (at_v b2)
  have o3 := op_v (f := dAdd) o2 c3 (add_S (by rw [List.length_append, List.length_singleton, List.length_drop]; have := okw.1; omega))
  refine ⟨row.set at_.toNat _, b2, List.length_set, okr_set (fun x hx => (hr x hx).mono (by omega)) ?_ _, hb2, setat_v (sd := ⟨[], []⟩) o3 h0 h1⟩
  have k1 : OkW 2 (w.take v.toNat) := ⟨tl, fun c hc => okw.2 c (List.mem_of_mem_take hc)⟩
  have k2 : OkW 1 [c] := ⟨by simp, fun x hx => by rw [List.mem_singleton.mp hx]; exact hc⟩
  exact (okw_app (okw_app k1 k2) (okw_drop okw)).mono (by omega)
theorem ch_9 {at_ : Int} {w : List Nat} (h0 : 0 ≤ at_) (h1 : at_ < row.length) (hr : OkR L row) (hw : OkW L w) : ∃ (row' : List (List Nat)), row'.length = row.length ∧ OkR L row' ∧ m__law_changed_9 cs (cS b ws row (iv at_) x4 x5 (.ow (.fz (.str (W w)))) x7) = .nx (cS b ws row' (iv at_) x4 x5 (.ow (.fz (.str (W w)))) x7) :=
  ⟨row.set at_.toNat w, List.length_set, okr_set hr hw _, setat_v (sd := ⟨[], []⟩) (m := mVar 6) rfl h0 h1⟩
theorem ins_v {k : Int} {w : List Nat} {m : SD → ER (List D)} {row2 : List (List Nat)} {sd : SD} (hm : m sd = .ok [.int k, .str (W w)] (cS b ws row2 x3 x4 x5 x6 x7)) (ht : ∃ ts, sd.tree 2 = some (.ol ts)) (h0 : 0 ≤ k) (h1 : k < 1000) (hl : row2.length ≤ 1000) : sIns 2 m sd = .nx (cS b ws (row2.take k.toNat ++ [w] ++ row2.drop k.toNat) x3 x4 x5 x6 x7) := by
  obtain ⟨ts, ht⟩ := ht
  unfold sIns
  rw [ht]
  show ER.stm (m sd) (insEnd 2) = _
  rw [hm]
  show (if 0 ≤ k ∧ k < 2 ^ 63 ∧ ((WsD row2).map OT.fz).length < 16777216 then Fl.nx ((cS b ws row2 x3 x4 x5 x6 x7).put 2 (.ol (((WsD row2).map OT.fz).take k.toNat ++ [.fz (.str (W w))] ++ ((WsD row2).map OT.fz).drop k.toNat))) else .bad) = _
  rw [if_pos ⟨h0, by omega, by rw [List.length_map, WsD_len]; omega⟩]
  have e : ((WsD row2).map OT.fz).take k.toNat ++ [.fz (.str (W w))] ++ ((WsD row2).map OT.fz).drop k.toNat = (WsD (row2.take k.toNat ++ [w] ++ row2.drop k.toNat)).map .fz := by
    rw [WsD_app, WsD_app, List.map_append, List.map_append]
    unfold WsD
    rw [List.map_take, List.map_take, List.map_drop, List.map_drop]
    rfl
  rw [e]
  rfl
theorem okr_ins {w : List Nat} (h : OkR L row) (hw : OkW L w) (k : Nat) : OkR L (row.take k ++ [w] ++ row.drop k) := fun x hx => by
  rcases List.mem_append.mp hx with hx | hx
  · rcases List.mem_append.mp hx with hx | hx
    · exact h x (List.mem_of_mem_take hx)
    · rw [List.mem_singleton.mp hx]; exact hw
  · exact h x (List.mem_of_mem_drop hx)
theorem len_ins (w : List Nat) (k : Nat) : (row.take k ++ [w] ++ row.drop k).length = row.length + 1 := by
  rw [List.length_append, List.length_append, List.length_take, List.length_drop, List.length_singleton]; omega
theorem ch_11 {at_ : Int} {w : List Nat} (h0 : 0 ≤ at_) (h1 : at_ < row.length) (hl : row.length ≤ 500) (hr : OkR L row) (hw : OkW L w) : ∃ (row' : List (List Nat)), row'.length = row.length + 1 ∧ OkR L row' ∧ m__law_changed_11 cs (cS b ws row (iv at_) x4 x5 (.ow (.fz (.str (W w)))) x7) = .nx (cS b ws row' (iv at_) x4 x5 (.ow (.fz (.str (W w)))) x7) :=
  ⟨_, len_ins w at_.toNat, okr_ins hr hw _, ins_v (k := at_) (w := w) (row2 := row) (m := mCons (mVar 3) (mCons (mVar 6) mNil)) rfl ⟨_, rfl⟩ h0 (by omega) (by omega)⟩
theorem er_map {α β : Type} (f : α → β) : ∀ (l : List α) (k : Nat), (l.map f).eraseIdx k = (l.eraseIdx k).map f
  | [], _ => rfl
  | a :: r, 0 => rfl
  | a :: r, k + 1 => by
    show f a :: (r.map f).eraseIdx k = f a :: (r.eraseIdx k).map f
    rw [er_map f r k]
theorem pop_v {at_ : Int} (h0 : 0 ≤ at_) (h1 : at_ < row.length) (hl : row.length ≤ 500) : ∃ w, w ∈ row ∧ mView (mPopAt 2 (mVar 3)) (cS b ws row (iv at_) x4 x5 x6 x7) = .ok (.str (W w)) (cS b ws (row.eraseIdx at_.toNat) (iv at_) x4 x5 x6 x7) := by
  have hv : at_.toNat < row.length := by omega
  refine ⟨row[at_.toNat], List.getElem_mem hv, ?_⟩
  have e : mPopAt 2 (mVar 3) (cS b ws row (iv at_) x4 x5 x6 x7) = .ok (.fz (.str (W row[at_.toNat]))) (cS b ws (row.eraseIdx at_.toNat) (iv at_) x4 x5 x6 x7) := by
    show (if -(2 ^ 63) ≤ at_ ∧ at_ < 2 ^ 63 then match seqIndex? at_ ((WsD row).map OT.fz).length with
      | some j => match ((WsD row).map OT.fz)[j]? with
        | some t => ER.ok t ((cS b ws row (iv at_) x4 x5 x6 x7).put 2 (.ol (((WsD row).map OT.fz).eraseIdx j)))
        | none => .bad
      | none => .bad
      else .bad) = _
    rw [if_pos ⟨by omega, by omega⟩]
    have s : seqIndex? at_ ((WsD row).map OT.fz).length = some at_.toNat := by
      rw [List.length_map, WsD_len]
      exact (ixN_seq (ixN_of h0 h1)).1
    rw [s]
    have g : ((WsD row).map OT.fz)[at_.toNat]? = some (.fz (.str (W row[at_.toNat]))) := by
      unfold WsD
      simp [hv]
    show (match ((WsD row).map OT.fz)[at_.toNat]? with
        | some t => ER.ok t ((cS b ws row (iv at_) x4 x5 x6 x7).put 2 (.ol (((WsD row).map OT.fz).eraseIdx at_.toNat)))
        | none => .bad) = _
    rw [g]
    have er : ((WsD row).map OT.fz).eraseIdx at_.toNat = (WsD (row.eraseIdx at_.toNat)).map .fz := by
      unfold WsD
      rw [er_map, er_map]
    show ER.ok _ ((cS b ws row (iv at_) x4 x5 x6 x7).put 2 (.ol (((WsD row).map OT.fz).eraseIdx at_.toNat))) = _
    rw [er]
    rfl
  unfold mView
  rw [e]
  rfl
theorem okr_er (h : OkR L row) (k : Nat) : OkR L (row.eraseIdx k) := fun x hx => h x (List.mem_of_mem_eraseIdx hx)
theorem ch_13 {at_ : Int} (h0 : 0 ≤ at_) (h1 : at_ < row.length) (hl : row.length ≤ 500) (hr : OkR L row) : ∃ (row' : List (List Nat)), row'.length ≤ row.length ∧ OkR L row' ∧ m__law_changed_13 cs (cS b ws row (iv at_) x4 x5 x6 x7) = .nx (cS b ws row' (iv at_) x4 x5 x6 x7) := by
  obtain ⟨w, hw, e⟩ := pop_v (b := b) (ws := ws) (x4 := x4) (x5 := x5) (x6 := x6) (x7 := x7) h0 h1 hl
  refine ⟨_, (List.eraseIdx_sublist _ _).length_le, okr_er hr at_.toNat, ?_⟩
  unfold m__law_changed_13 sDrop
  rw [e]
  rfl
theorem ch_15 {at_ other : Int} (h0 : 0 ≤ at_) (h1 : at_ < row.length) (h2 : 0 ≤ other) (h3 : other < row.length) (hl : row.length ≤ 500) (hr : OkR L row) : ∃ (row' : List (List Nat)), row'.length ≤ row.length + 1 ∧ 1 ≤ row'.length ∧ OkR L row' ∧ m__law_changed_15 cs (cS b ws row (iv at_) (iv other) x5 x6 x7) = .nx (cS b ws row' (iv at_) (iv other) x5 x6 x7) := by
  obtain ⟨w, hw, e⟩ := pop_v (b := b) (ws := ws) (x4 := iv other) (x5 := x5) (x6 := x6) (x7 := x7) h0 h1 hl
  have hle := (List.eraseIdx_sublist row at_.toNat).length_le
  refine ⟨_, ?_, ?_, okr_ins (okr_er hr at_.toNat) (hr w hw) other.toNat, ins_v (k := other) (m := mCons (mVar 4) (mCons (mView (mPopAt 2 (mVar 3))) mNil)) (cons_v (sd1 := cS b ws row (iv at_) (iv other) x5 x6 x7) (x := .int other) rfl (cons_v e rfl)) ⟨_, rfl⟩ h2 (by omega) (by omega)⟩
  · rw [len_ins]; omega
  · rw [len_ins]; omega
theorem ws_py : ∀ l : List (List Nat), D.pys (WsD l) = some (l.map fun w => PyData.str (W w))
  | [] => by rw [show WsD [] = [] from rfl, D.pys]; rfl
  | c :: r => by rw [show WsD (c :: r) = D.str (W c) :: WsD r from rfl, D.pys, ws_py r, D.py]; rfl
theorem ws_lay : ∀ l : List (List Nat), OkR L l → PyData.canLayAll0 (l.map fun w => PyData.str (W w)) = true
  | [], _ => by rw [List.map_nil, PyData.canLayAll0]
  | c :: r, h => by
    rw [List.map_cons, PyData.canLayAll0, ws_lay r fun w hw => h w (List.mem_cons_of_mem _ hw), PyData.canLay0, Bool.and_true]
    have h := (h c (by simp)).2
    show PyData.strOk (W c) = true
    unfold PyData.strOk
    rw [show (W c).cps = c.toArray from rfl]
    simp only [List.all_toArray, List.all_eq_true, decide_eq_true_eq]
    intro x hx
    have := h x hx
    omega
theorem ws_dep : ∀ l : List (List Nat), PyData.depthAll (l.map fun w => PyData.str (W w)) = 0
  | [] => by rw [List.map_nil, PyData.depthAll]
  | c :: r => by rw [List.map_cons, PyData.depthAll, ws_dep r, PyData.depth]; rfl
theorem ws_ne (h : OkR L row) : dNe (.lst (WsD row)) (.lst []) = some (.bl (!decide (row = []))) := by
  have e : dEqB (.lst (WsD row)) (.lst []) = match (D.lst (WsD row)).py, (D.lst []).py with
    | some p, some q => if (SeqAt.shaped p && SeqAt.shaped q) = true then some (PyData.eqv p q) else none
    | _, _ => none := rfl
  have q1 : (D.lst (WsD row)).py = some (.list (row.map fun w => PyData.str (W w))) := by rw [D.py, ws_py]; rfl
  have q2 : (D.lst []).py = some (.list []) := rfl
  have q3 : SeqAt.shaped (.list (row.map fun w => PyData.str (W w))) = true := by
    unfold SeqAt.shaped
    rw [PyData.canLay0, ws_lay _ h, PyData.depth, ws_dep]; rfl
  have q4 : SeqAt.shaped (.list []) = true := rfl
  unfold dNe
  rw [e, q1, q2]
  dsimp only
  rw [q3, q4]
  cases row <;> rfl
theorem ch_19 (h : OkR L row) : ∃ ws' sd', m__law_changed_19 cs (cS b ws row x3 x4 x5 x6 x7) = .rt (.fz (.lst (WsD ws'))) sd' ∧ sd'.pa = [b, .fz ws] ∧ 1 ≤ ws'.length ∧ ws'.length ≤ row.length + 1 ∧ OkR (L + 1) ws' := by
  have t : mTest (mOp dNe (mSee 2) (mView (mLst mNil))) (cS b ws row x3 x4 x5 x6 x7) = .ok (!decide (row = [])) (cS b ws row x3 x4 x5 x6 x7) := op_t cs_see rfl (ws_ne h)
  by_cases hr : row = []
  · rw [decide_eq_true hr] at t
    refine ⟨[[40]], cS b ws row x3 x4 x5 x6 x7, ret_d ?_, rfl, by simp, by simp, fun w hw => by rw [List.mem_singleton.mp hw]; exact ⟨by simp, by decide⟩⟩
    unfold mIf
    rw [t]
    show mView (mLst (mCons (mC (.str (Str.ofString "("))) mNil)) _ = _
    rw [lst_v (a := mCons (mC (.str (Str.ofString "("))) mNil) (sd1 := cS b ws row x3 x4 x5 x6 x7) (xs := [.str (Str.ofString "(")]) rfl (by decide), lit_open]
    rfl
  · rw [decide_eq_false hr] at t
    refine ⟨row, _, ret_d (sd1 := ⟨(cS b ws row x3 x4 x5 x6 x7).sl.set 2 (.ow (.fz (.lst (WsD row)))), [b, .fz ws]⟩) ?_, rfl, by
      cases row with
      | nil => exact absurd rfl hr
      | cons _ _ => simp, by omega, fun w hw => (h w hw).mono (by omega)⟩
    unfold mIf
    rw [t]
    show mFrz 2 (cS b ws row x3 x4 x5 x6 x7) = _
    show ER.ok (OT.view (.ol ((WsD row).map .fz))) (⟨(cS b ws row x3 x4 x5 x6 x7).sl.set 2 (.ow (.fz (OT.view (.ol ((WsD row).map .fz))))), [b, .fz ws]⟩ : SD) = _
    rw [OT.view, views_fz]
/-- a row changed: words again -/
theorem changed_ok {wl : List (List Nat)} (hb : Bg n b) (hn : n + 6 < 2 ^ 64) (h1 : 1 ≤ wl.length) (h2 : wl.length ≤ 400) (hr : OkR L wl) (hL : L ≤ 100000) (hL2 : 3001 ≤ L) : ∃ wl' b', m__law_changed cs [b, .fz (.lst (WsD wl))] = .ok (.fz (.lst (WsD wl'))) ⟨[], [b', .fz (.lst (WsD wl))]⟩ ∧ Bg (n + 6) b' ∧ 1 ≤ wl'.length ∧ wl'.length ≤ wl.length + 2 ∧ OkR (L + 4) wl' := by
  have ent : entry 8 [b, .fz (.lst (WsD wl))] = ⟨[.pa 0, .ow (.fz (.lst (WsD wl))), .un, .un, .un, .un, .un, .un], [b, .fz (.lst (WsD wl))]⟩ := by
    obtain ⟨x, y, z, rfl, _, _⟩ := hb
    rfl
  have s1 : m__law_changed_1 cs ⟨[.pa 0, .ow (.fz (.lst (WsD wl))), .un, .un, .un, .un, .un, .un], [b, .fz (.lst (WsD wl))]⟩ = .nx (cS b (.lst (WsD wl)) wl .un .un .un .un .un) := rfl
  obtain ⟨v, w, b1, v0, v1, w0, w1, hb1, s2⟩ := ch_2 cs (ws := .lst (WsD wl)) (row := wl) (x3 := .un) (x4 := .un) (x5 := .un) (x6 := .un) (x7 := .un) hb (by omega) h1 (by omega)
  obtain ⟨ods, ho, s3⟩ := odds_ok cs (b := b1) (ws := .lst (WsD wl)) (row := wl) (x3 := iv v) (x4 := iv w) (x5 := .un) (x6 := .un) (x7 := .un)
  obtain ⟨od, b2, hod, hb2, s7⟩ := ch_7 cs (ws := .lst (WsD wl)) (row := wl) (x3 := iv v) (x4 := iv w) (x6 := .un) (x7 := .un) ho hb1 (by omega)
  obtain ⟨way, b3, y0, y1, hb3, s8⟩ := ch_8 cs (ws := .lst (WsD wl)) (row := wl) (x3 := iv v) (x4 := iv w) (x5 := .ow (.fz ods)) (x6 := .ow (.fz (.str (W od)))) (x7 := .un) hb2 (by omega)
  have mid : ∃ row' b4, row'.length ≤ wl.length + 1 ∧ OkR (L + 3) row' ∧ Bg (n + 6) b4 ∧ sSeq (m__law_changed_10 cs) (sSeq (m__law_changed_12 cs) (sSeq (m__law_changed_14 cs) (sSeq (m__law_changed_16 cs) (sSeq (m__law_changed_18 cs) (m__law_changed_19 cs))))) (cS b3 (.lst (WsD wl)) wl (iv v) (iv w) (.ow (.fz ods)) (.ow (.fz (.str (W od)))) (iv way)) = m__law_changed_19 cs (cS b4 (.lst (WsD wl)) row' (iv v) (iv w) (.ow (.fz ods)) (.ow (.fz (.str (W od)))) (iv way)) := by
    have hod2 : OkW L od := hod.mono hL2
    have : way = 0 ∨ way = 1 ∨ way = 2 ∨ way = 3 ∨ way = 4 := by omega
    rcases this with rfl | rfl | rfl | rfl | rfl
    · obtain ⟨row', l1, o1, e⟩ := ch_9 cs (b := b3) (ws := .lst (WsD wl)) (x4 := iv w) (x5 := .ow (.fz ods)) (x7 := iv 0) v0 v1 hr hod2
      exact ⟨row', b3, by omega, fun x hx => (o1 x hx).mono (by omega), hb3.mono (by omega), seq_nx (way_yes.trans e) (seq_nx (way_no (by decide)) (seq_nx (way_no (by decide)) (seq_nx (way_no (by decide)) (seq_nx (way_no (by decide)) rfl))))⟩
    · obtain ⟨row', l1, o1, e⟩ := ch_11 cs (b := b3) (ws := .lst (WsD wl)) (x4 := iv w) (x5 := .ow (.fz ods)) (x7 := iv 1) v0 v1 (by omega) hr hod2
      exact ⟨row', b3, by omega, fun x hx => (o1 x hx).mono (by omega), hb3.mono (by omega), seq_nx (way_no (by decide)) (seq_nx (way_yes.trans e) (seq_nx (way_no (by decide)) (seq_nx (way_no (by decide)) (seq_nx (way_no (by decide)) rfl))))⟩
    · obtain ⟨row', l1, o1, e⟩ := ch_13 cs (b := b3) (ws := .lst (WsD wl)) (x4 := iv w) (x5 := .ow (.fz ods)) (x6 := .ow (.fz (.str (W od)))) (x7 := iv 2) v0 v1 (by omega) hr
      exact ⟨row', b3, by omega, fun x hx => (o1 x hx).mono (by omega), hb3.mono (by omega), seq_nx (way_no (by decide)) (seq_nx (way_no (by decide)) (seq_nx (way_yes.trans e) (seq_nx (way_no (by decide)) (seq_nx (way_no (by decide)) rfl))))⟩
    · obtain ⟨row', l1, l2, o1, e⟩ := ch_15 cs (b := b3) (ws := .lst (WsD wl)) (x5 := .ow (.fz ods)) (x6 := .ow (.fz (.str (W od)))) (x7 := iv 3) v0 v1 w0 w1 (by omega) hr
      exact ⟨row', b3, by omega, fun x hx => (o1 x hx).mono (by omega), hb3.mono (by omega), seq_nx (way_no (by decide)) (seq_nx (way_no (by decide)) (seq_nx (way_no (by decide)) (seq_nx (way_yes.trans e) (seq_nx (way_no (by decide)) rfl))))⟩
    · obtain ⟨row', b4, l1, o1, hb4, e⟩ := ch_17 cs (ws := .lst (WsD wl)) (x4 := iv w) (x5 := .ow (.fz ods)) (x6 := .ow (.fz (.str (W od)))) (x7 := iv 4) hb3 (by omega) v0 v1 hr hL
      exact ⟨row', b4, by omega, o1, hb4.mono (by omega), seq_nx (way_no (by decide)) (seq_nx (way_no (by decide)) (seq_nx (way_no (by decide)) (seq_nx (way_no (by decide)) (seq_nx (way_yes.trans e) rfl))))⟩
  obtain ⟨row', b4, r1, r2, hb4, s10⟩ := mid
  obtain ⟨ws', sd', s19, pa, q1, q2, q3⟩ := ch_19 cs (b := b4) (ws := .lst (WsD wl)) (x3 := iv v) (x4 := iv w) (x5 := .ow (.fz ods)) (x6 := .ow (.fz (.str (W od)))) (x7 := iv way) r2
  refine ⟨ws', b4, ?_, hb4, q1, by omega, q3⟩
  have s36 : ∀ r, (sSeq (m__law_changed_7 cs) (sSeq (m__law_changed_8 cs) (sSeq (m__law_changed_10 cs) (sSeq (m__law_changed_12 cs) (sSeq (m__law_changed_14 cs) (sSeq (m__law_changed_16 cs) (sSeq (m__law_changed_18 cs) (m__law_changed_19 cs)))))))) (cS b1 (.lst (WsD wl)) wl (iv v) (iv w) (.ow (.fz ods)) .un .un) = r → sSeq (m__law_changed_3 cs) (sSeq (m__law_changed_4 cs) (sSeq (m__law_changed_5 cs) (sSeq (m__law_changed_6 cs) (sSeq (m__law_changed_7 cs) (sSeq (m__law_changed_8 cs) (sSeq (m__law_changed_10 cs) (sSeq (m__law_changed_12 cs) (sSeq (m__law_changed_14 cs) (sSeq (m__law_changed_16 cs) (sSeq (m__law_changed_18 cs) (m__law_changed_19 cs))))))))))) (cS b1 (.lst (WsD wl)) wl (iv v) (iv w) .un .un .un) = r := fun r hr => by
    have assoc : ∀ (a b c d e : SD → Fl) (sd : SD), sSeq a (sSeq b (sSeq c (sSeq d e))) sd = sSeq (sSeq a (sSeq b (sSeq c d))) e sd := fun a b c d e sd => by
      unfold sSeq
      cases a sd with
      | nx s1 =>
        show (b s1).seq _ = Fl.seq (Fl.seq (b s1) _) _
        cases b s1 with
        | nx s2 =>
          show (c s2).seq _ = Fl.seq (Fl.seq (c s2) _) _
          cases c s2 <;> rfl
        | _ => rfl
      | _ => rfl
    rw [assoc]
    exact seq_nx s3 hr
  unfold m__law_changed asDef
  rw [ent, seq_nx s1 (seq_nx s2 (s36 _ (seq_nx s7 (seq_nx s8 s10)))), s19]
  show ER.ok _ _ = _
  rw [pa]
end
theorem joinL_le (L : Nat) : ∀ ws : List (List Nat), (∀ w ∈ ws, w.length ≤ L) → (TL.joinL [32] ws).length ≤ (L + 1) * ws.length
  | [], _ => Nat.zero_le _
  | [w], h => by
    have := h w (by simp)
    show w.length ≤ _
    rw [List.length_singleton]; omega
  | w :: v :: r, h => by
    have := h w (by simp)
    have ih := joinL_le L (v :: r) fun x hx => h x (List.mem_cons_of_mem _ hx)
    show (w ++ ([32] ++ TL.joinL [32] (v :: r))).length ≤ _
    rw [List.length_append, List.length_append, List.length_singleton, List.length_cons (a := w), Nat.mul_succ]
    omega
theorem text_le {L : Nat} {ws : List (List Nat)} (h : ∀ w ∈ ws, w.length ≤ L) : (textOf ws).length ≤ (L + 1) * ws.length := by
  rw [TL.len_tl, textOf_tl]
  exact joinL_le L ws h
theorem strsOf_ws : ∀ ws : List (List Nat), strsOf (WsD ws) = some (ws.map W)
  | [] => rfl
  | w :: r => by
    show (strsOf (D.str (W w) :: WsD r)) = _
    rw [strsOf, strsOf_ws r]
    rfl
theorem sum_le (L : Nat) : ∀ ws : List (List Nat), (∀ w ∈ ws, w.length ≤ L) → ((ws.map W).map (·.length)).sum ≤ L * ws.length
  | [], _ => Nat.zero_le _
  | w :: r, h => by
    have := h w (by simp)
    have ih := sum_le L r fun x hx => h x (List.mem_cons_of_mem _ hx)
    rw [List.map_cons, List.map_cons, List.sum_cons, W_len, List.length_cons, Nat.mul_succ]
    omega
theorem join_v {a : SD → ER D} {sd sd1 : SD} {L N : Nat} {ws : List (List Nat)} (ha : a sd = .ok (.lst (WsD ws)) sd1) (h : ∀ w ∈ ws, w.length ≤ L) (hN : ws.length ≤ N) (hl : (L + 1) * N ≤ 16000000) : mBm D.isS dJoin (mC (.str (Str.ofString " "))) (mCons a mNil) sd = .ok (.str (textOf ws)) sd1 := by
  have hm : (L + 1) * ws.length ≤ (L + 1) * N := Nat.mul_le_mul_left _ hN
  rw [Nat.succ_mul] at hm
  have hs := sum_le L ws h
  have j : dJoin (.str (Str.ofString " ")) [.lst (WsD ws)] = some (.str (textOf ws)) := by
    show (strsOf (WsD ws)).bind (fun ys => if (ys.map (·.length)).sum + ys.length * (Str.ofString " ").length ≤ 16777216 then some (D.str (Txt.join (Str.ofString " ") ys)) else none) = _
    rw [strsOf_ws]
    show (if ((ws.map W).map (·.length)).sum + (ws.map W).length * (Str.ofString " ").length ≤ 16777216 then some (D.str (Txt.join (Str.ofString " ") (ws.map W))) else none) = _
    rw [if_pos (by rw [List.length_map, show (Str.ofString " ").length = 1 from rfl]; omega), lit_sp]
    rfl
  unfold mBm
  show (if D.isS (.str (Str.ofString " ")) = true then ER.bind (mCons a mNil sd) (fun ds sd2 => ER.opt (dJoin (.str (Str.ofString " ")) ds) sd2) else ER.bad) = _
  rw [if_pos (show D.isS (.str (Str.ofString " ")) = true from rfl), cons_v (r := mNil) ha rfl]
  show ER.opt (dJoin (.str (Str.ofString " ")) [.lst (WsD ws)]) sd1 = _
  rw [j]
  rfl
/-- one thing many times -/
theorem rep_v {a : SD → ER OT} {b : SD → ER D} {sd sd1 sd2 : SD} {w : List Nat} {k : Nat} (ha : a sd = .ok (.ol ((WsD [w]).map .fz)) sd1) (hb : b sd1 = .ok (.int k) sd2) (hk : k ≤ 5000) : mRepO a b sd = .ok (.ol ((WsD (List.replicate k w)).map .fz)) sd2 := by
  unfold mRepO
  rw [ha]
  simp only [ER.bind]
  rw [hb]
  show (if (0 : Int) ≤ (k : Int) ∧ (k : Int) < 2 ^ 63 ∧ ([D.str (W w)]).length * (k : Int).toNat ≤ 16777216 then ER.ok (OT.ol ((List.replicate (k : Int).toNat [D.str (W w)]).flatten.map .fz)) sd2 else .bad) = _
  rw [if_pos ⟨by omega, by omega, by rw [List.length_singleton, Int.toNat_natCast]; omega⟩, Int.toNat_natCast]
  have : ∀ k, (List.replicate k [D.str (W w)]).flatten = WsD (List.replicate k w) := fun k => by
    induction k with
    | zero => rfl
    | succ k ih =>
      rw [List.replicate_succ, List.flatten_cons, ih, List.replicate_succ]
      rfl
  rw [this]
theorem okr_rep {L k : Nat} {w : List Nat} (h : w.length ≤ L) : ∀ x ∈ List.replicate k w, x.length ≤ L := fun x hx => by
  rw [(List.mem_replicate.mp hx).2]; exact h
theorem len_app {L : Nat} {a b : List (List Nat)} (h1 : ∀ w ∈ a, w.length ≤ L) (h2 : ∀ w ∈ b, w.length ≤ L) : ∀ w ∈ a ++ b, w.length ≤ L := fun x hx => by
  rcases List.mem_append.mp hx with hx | hx
  · exact h1 x hx
  · exact h2 x hx
noncomputable def gS (b : OT) (x1 x2 x3 x4 : S) : SD := ⟨[.pa 0, x1, x2, x3, x4], [b]⟩
theorem pick_fz (cs : Nat → Addr) {n i : Nat} {a : SD → ER D} {sd sd1 : SD} {t t0 : OT} {m : Nat} (ha : a sd = .ok (.int m) sd1) (h0 : sd.tree i = some t0) (h1 : sd1.tree i = some t) (hb : Bg n t) (hn : n < 2 ^ 64) (hm : 0 < m) (hm2 : m ≤ 5000) : ∃ (v : Nat) (t' : OT), v < m ∧ Bg (n + 1) t' ∧ mView (mCall1 (m__law_pick cs) (rSlot i (rFz a rNil))) sd = .ok (.int v) (sd1.put i t') := by
  obtain ⟨v, t', v0, v1, b', e⟩ := pick_call cs ha h0 h1 hb hn (by omega) (by
    have : (2 : Nat) ^ 8000 ≥ 2 ^ 20 := Nat.pow_le_pow_right (by decide) (by decide)
    have : (2 : Nat) ^ 20 = 1048576 := by decide
    omega)
  obtain ⟨u, rfl⟩ : ∃ u : Nat, v = (u : Int) := ⟨v.toNat, by omega⟩
  exact ⟨u, t', by omega, b', e⟩
theorem one_v {s : String} {w : List Nat} {sd : SD} (h : Str.ofString s = W w) : mLst (mCons (mC (.str (Str.ofString s))) mNil) sd = .ok (.ol ((WsD [w]).map .fz)) sd := by
  rw [lst_o (a := mCons (mC (.str (Str.ofString s))) mNil) (sd1 := sd) (xs := [.str (Str.ofString s)]) rfl (by show 1 ≤ 16777216; decide), h]
  rfl
theorem right_call (cs : Nat → Addr) (hc : CsOk cs) {a : SD → ER D} {sd sd1 : SD} {t : Str} (ha : a sd = .ok (.str t) sd1) (hl : t.length ≤ 16000000) : mView (mCall0 (m__law_right cs) (mCons a mNil)) sd = .ok (.bl true) sd1 := call1_v ha (right_ok cs hc hl)
theorem long_ok (cs : Nat → Addr) (hc : CsOk cs) {n : Nat} {b : OT} (hb : Bg n b) (hn : n + 10 < 2 ^ 64) : ∃ b', Bg (n + 10) b' ∧ m__law_long_right cs [b] = .ok (.fz (.bl true)) ⟨[], [b']⟩ := by
  have ent : entry 5 [b] = gS b .un .un .un .un := by
    obtain ⟨x, y, z, rfl, _, _⟩ := hb
    rfl
  obtain ⟨deep, b1, d1, hb1, e1⟩ := pick_fz cs (a := mC (.int 14)) (i := 0) (sd := gS b .un .un .un .un) (sd1 := gS b .un .un .un .un) (m := 14) rfl rfl rfl hb (by omega) (by decide) (by decide)
  have s1 : m__law_long_right_1 cs (gS b .un .un .un .un) = .nx (gS b1 (iv deep) .un .un .un) := set_d (l := (gS b1 .un .un .un .un).sl) e1 (by show 1 < 5; decide)
  obtain ⟨v, b2, d2, hb2, e2⟩ := pick_fz cs (a := mC (.int 19)) (i := 0) (sd := gS b1 (iv deep) .un .un .un) (sd1 := gS b1 (iv deep) .un .un .un) (m := 19) rfl rfl rfl hb1 (by omega) (by decide) (by decide)
  obtain ⟨many, hmany⟩ : ∃ many : Nat, many = 985 + v := ⟨_, rfl⟩
  have s2 : m__law_long_right_2 cs (gS b1 (iv deep) .un .un .un) = .nx (gS b2 (iv deep) (iv many) .un .un) := by
    refine set_d (l := (gS b2 (iv deep) .un .un .un).sl) (op_v (x := .int 985) (z := .int many) rfl e2 ?_) (by show 2 < 5; decide)
    show some (D.int (985 + (v : Int))) = _
    rw [show (985 + (v : Int)) = (many : Int) by omega]
  obtain ⟨u, b3, d3, hb3, e3⟩ := pick_fz cs (a := mVar 2) (i := 0) (sd := gS b2 (iv deep) (iv many) .un .un) (sd1 := gS b2 (iv deep) (iv many) .un .un) (m := many) rfl rfl rfl hb2 (by omega) (by omega) (by omega)
  have wf : Str.ofString "f" = W [102] := lit_ _ _ rfl
  have wl : Str.ofString "l" = W [108] := lit_ _ _ rfl
  have wc : Str.ofString ")2" = W [41, 50] := lit_ _ _ rfl
  have s3 : m__law_long_right_3 cs (gS b2 (iv deep) (iv many) .un .un) = .nx (gS b3 (iv deep) (iv many) (.ow (.fz (.lst (WsD (List.replicate u [102]))))) .un) :=
    set_d (l := (gS b3 (iv deep) (iv many) .un .un).sl) (view_v (rep_v (one_v wf) e3 (by omega))) (by show 3 < 5; decide)
  let row := List.replicate u [102] ++ List.replicate deep [40] ++ List.replicate (many - u) [108]
  have s4 : m__law_long_right_4 cs (gS b3 (iv deep) (iv many) (.ow (.fz (.lst (WsD (List.replicate u [102]))))) .un) = .nx (gS b3 (iv deep) (iv many) (.ow (.fz (.lst (WsD row)))) .un) := by
    have c1 := cat_v (a := qFz (mVar 3)) (sd := gS b3 (iv deep) (iv many) (.ow (.fz (.lst (WsD (List.replicate u [102]))))) .un) (sd1 := gS b3 (iv deep) (iv many) (.ow (.fz (.lst (WsD (List.replicate u [102]))))) .un) (xs := WsD (List.replicate u [102])) rfl (qnew_v (rep_v (one_v (s := "(") lit_open) (b := mVar 1) (k := deep) rfl (by omega))) (by rw [WsD_len, WsD_len, List.length_replicate, List.length_replicate]; omega)
    have sub : mOp dSub (mVar 2) (mCall dLen (mCons (mVar 3) mNil)) (gS b3 (iv deep) (iv many) (.ow (.fz (.lst (WsD (List.replicate u [102]))))) .un) = .ok (.int (many - u : Nat)) (gS b3 (iv deep) (iv many) (.ow (.fz (.lst (WsD (List.replicate u [102]))))) .un) := op_v (x := .int many) rfl (call_v (y := .int u) (cons_v (a := mVar 3) rfl rfl) (by
      show some (D.int (WsD _).length) = _
      rw [WsD_len, List.length_replicate])) (by
      show some (D.int ((many : Int) - u)) = _
      rw [show ((many : Int) - u) = ((many - u : Nat) : Int) by omega])
    have c2 := cat_v (qnew_v c1) (qnew_v (rep_v (one_v wl) sub (by omega))) (by rw [List.length_append, WsD_len, WsD_len, WsD_len, List.length_replicate, List.length_replicate, List.length_replicate]; omega)
    have r := set_d (k := 3) (l := (gS b3 (iv deep) (iv many) (.ow (.fz (.lst (WsD (List.replicate u [102]))))) .un).sl) (view_v c2) (by show 3 < 5; decide)
    rw [← WsD_app, ← WsD_app] at r
    exact r
  obtain ⟨q, b4, d4, hb4, e4⟩ := pick_fz cs (a := mC (.int 15)) (i := 0) (sd := gS b3 (iv deep) (iv many) (.ow (.fz (.lst (WsD row)))) .un) (sd1 := gS b3 (iv deep) (iv many) (.ow (.fz (.lst (WsD row)))) .un) (m := 15) rfl rfl rfl hb3 (by omega) (by decide) (by decide)
  have s5 : m__law_long_right_5 cs (gS b3 (iv deep) (iv many) (.ow (.fz (.lst (WsD row)))) .un) = .nx (gS b4 (iv deep) (iv many) (.ow (.fz (.lst (WsD row)))) (.ow (.fz (.lst (WsD (List.replicate q [41, 50])))))) :=
    set_d (l := (gS b4 (iv deep) (iv many) (.ow (.fz (.lst (WsD row)))) .un).sl) (view_v (rep_v (one_v wc) e4 (by omega))) (by show 4 < 5; decide)
  generalize hSd : gS b4 (iv deep) (iv many) (.ow (.fz (.lst (WsD row)))) (.ow (.fz (.lst (WsD (List.replicate q [41, 50]))))) = sd at s5
  have v3 : qFz (mVar 3) sd = .ok (WsD row) sd := by rw [← hSd]; rfl
  have v4 : qFz (mVar 4) sd = .ok (WsD (List.replicate q [41, 50])) sd := by rw [← hSd]; rfl
  have v2 : mVar 2 sd = .ok (.int many) sd := by rw [← hSd]; rfl
  have hrow : ∀ w ∈ row ++ List.replicate q [41, 50], w.length ≤ 2 := len_app (len_app (len_app (okr_rep (by decide)) (okr_rep (by decide))) (okr_rep (by decide))) (okr_rep (by decide))
  have hlen : (row ++ List.replicate q [41, 50]).length ≤ 5000 := by
    simp only [row, List.length_append, List.length_replicate]
    omega
  have c6 := cat_v v3 v4 (by rw [WsD_len, WsD_len, ← List.length_append]; omega)
  rw [← WsD_app] at c6
  have j1 := join_v (N := 5000) (view_v c6) hrow hlen (by decide)
  have k1 := right_call cs hc j1 (by have := text_le hrow; omega)
  have j2 := join_v (L := 1) (N := 5000) (view_v (rep_v (one_v wf) v2 (by omega))) (okr_rep (by decide)) (by rw [List.length_replicate]; omega) (by decide)
  have k2 := right_call cs hc j2 (by
    have := text_le (L := 1) (ws := List.replicate many [102]) (okr_rep (by decide))
    rw [List.length_replicate] at this
    omega)
  have s6 : m__law_long_right_6 cs sd = .rt (.fz (.bl true)) sd := ret_d ((andv_t k1).trans k2)
  refine ⟨b4, hb4.mono (by omega), ?_⟩
  unfold m__law_long_right asDef
  rw [ent, seq_nx s1 (seq_nx s2 (seq_nx s3 (seq_nx s4 (seq_nx s5 s6)))), ← hSd]
  rfl
noncomputable def lS (ns : List Int) (x1 x2 x3 x4 x5 x6 x7 x8 : S) : SD := ⟨[.ow (.fz (.scr ns)), x1, x2, x3, x4, x5, x6, x7, x8], [.fz (.scr ns)]⟩
theorem okr_sh {L : Nat} {ws : List (List Nat)} (h : Sh ws) (hL : 40 ≤ L) : OkR L ws := fun w hw => (h w hw).mono hL
theorem okr_len {L : Nat} {ws : List (List Nat)} (h : OkR L ws) : ∀ w ∈ ws, w.length ≤ L := fun w hw => (h w hw).1
section
variable (cs : Nat → Addr) (hc : CsOk cs) {ns : List Int} {x1 x2 x3 x4 x5 x6 x7 x8 : S}
/-- values that are no text -/
noncomputable def NoS (cs : Nat → Addr) (d : D) : Prop := dIsiI (okC cs) "str" [d, .ty "str"] = some (.bl false)
include hc
theorem told_kind {d : D} (h : NoS cs d) : m__law_told cs [.fz d] = .ok (.fz (.str "InvalidText None")) ⟨[], [.fz d]⟩ := by
  obtain ⟨s, r1, r2, r3⟩ := repr_non
  have := told_rz cs hc r1 r2 (init_kind cs h)
  rw [r3] at this
  exact this
theorem law_kinds : ∃ y1, m_law_3 cs (lS ns x1 x2 x3 x4 x5 x6 x7 x8) = .nx (lS ns y1 x2 x3 x4 x5 x6 x7 x8) := by
  have pf : PrOk [.st 102 1] := ⟨by rw [noks, noks, nok]; exact ⟨⟨by decide, by decide, by decide⟩, True.intro⟩, by decide, by decide⟩
  have tf : textOf (wds [.st 102 1]) = Str.ofString "f" := by
    rw [show wds [.st 102 1] = [[102]] from rfl, lit_ "f" [102] rfl]
    rfl
  have mk := prog_make cs pf (a := mCons (mC (.str (Str.ofString "f"))) mNil) (sd := lS ns x1 x2 x3 x4 x5 x6 x7 x8) (sd1 := lS ns x1 x2 x3 x4 x5 x6 x7 x8) (by rw [tf]; rfl)
  have mv : mView (mMake (cs 0) (m_Program___init__ cs) (mCons (mC (.str (Str.ofString "f"))) mNil)) (lS ns x1 x2 x3 x4 x5 x6 x7 x8) = .ok (PD cs [.st 102 1]) (lS ns x1 x2 x3 x4 x5 x6 x7 x8) := by
    unfold mView
    rw [mk]
    rfl
  have l1 := lst_v (xs := [.non, .int 0, .bl true, .lst [.str (Str.ofString "f")], .tup [.str (Str.ofString "f")], .dic false [] [], .tup [], PD cs [.st 102 1]]) (a := mCons (mC .non) (mCons (mC (.int 0)) (mCons (mC (.bl true)) (mCons (mView (mLst (mCons (mC (.str (Str.ofString "f"))) (mNil)))) (mCons (mTup (mCons (mC (.str (Str.ofString "f"))) (mNil))) (mCons (mDict0) (mCons (mTup (mNil)) (mCons (mView (mMake (cs 0) (m_Program___init__ cs) (mCons (mC (.str (Str.ofString "f"))) (mNil)))) (mNil)))))))))
    (sd := lS ns x1 x2 x3 x4 x5 x6 x7 x8) (sd1 := lS ns x1 x2 x3 x4 x5 x6 x7 x8) (cons_v rfl (cons_v rfl (cons_v rfl (cons_v rfl (cons_v rfl (cons_v rfl (cons_v rfl (cons_v mv rfl)))))))) (by show 8 ≤ 16777216; decide)
  have hl : ∀ d ∈ ([.non, .int 0, .bl true, .lst [.str (Str.ofString "f")], .tup [.str (Str.ofString "f")], .dic false [] [], .tup [], PD cs [.st 102 1]] : List D), NoS cs d := by
    intro d hd
    simp only [List.mem_cons, List.not_mem_nil, or_false] at hd
    rcases hd with h | h | h | h | h | h | h | h <;> subst h
    · rfl
    · rfl
    · rfl
    · rfl
    · rfl
    · rfl
    · rfl
    · show (if okC cs (cs 0) = true then some (Value.ref (cs 0)) else none).map (fun _ => D.bl false) = _
      rw [if_pos (show okC cs (cs 0) = true by unfold okC; simp)]
      rfl
  obtain ⟨sd', w, hI⟩ := sFor_inv (it := iLst (mView (mLst (mCons (mC .non) (mCons (mC (.int 0)) (mCons (mC (.bl true)) (mCons (mView (mLst (mCons (mC (.str (Str.ofString "f"))) (mNil)))) (mCons (mTup (mCons (mC (.str (Str.ofString "f"))) (mNil))) (mCons (mDict0) (mCons (mTup (mNil)) (mCons (mView (mMake (cs 0) (m_Program___init__ cs) (mCons (mC (.str (Str.ofString "f"))) (mNil)))) (mNil)))))))))))) (g := tgN 1) (body := m_law_b1 cs) (sd := lS ns x1 x2 x3 x4 x5 x6 x7 x8) ([.non, .int 0, .bl true, .lst [.str (Str.ofString "f")], .tup [.str (Str.ofString "f")], .dic false [] [], .tup [], PD cs [.st 102 1]] : List D) (fun d => d)
    (fun r sd => (∀ d ∈ r, NoS cs d) ∧ ∃ y1, sd = lS ns y1 x2 x3 x4 x5 x6 x7 x8) (by
      unfold iLst
      rw [l1]
      rfl) ⟨hl, _, rfl⟩ fun d r sd hI => by
      obtain ⟨hr, y1, rfl⟩ := hI
      refine ⟨lS ns (.ow (.fz d)) x2 x3 x4 x5 x6 x7 x8, lS ns (.ow (.fz d)) x2 x3 x4 x5 x6 x7 x8, rfl, .inl ?_, fun e he => hr e (List.mem_cons_of_mem _ he), _, rfl⟩
      have t := call1_v (a := mVar 1) (sd := lS ns (.ow (.fz d)) x2 x3 x4 x5 x6 x7 x8) rfl (told_kind cs hc (hr d List.mem_cons_self))
      have q := op_t (f := dNe) (b := mC (.str (Str.ofString "InvalidText None"))) (v := false) t rfl rfl
      unfold m_law_b1 m_law_2
      exact (if_b q).trans rfl
  obtain ⟨_, y1, rfl⟩ := hI
  exact ⟨y1, w⟩
omit hc in
theorem cut_mem {d : D} (h : d ∈ cutL (ns.map D.int) none (some 12)) : ∃ i, d = .int i := by
  unfold cutL at h
  have h2 := List.mem_of_mem_drop (List.mem_of_mem_take h)
  obtain ⟨i, _, e⟩ := List.mem_map.mp h2
  exact ⟨i, e.symm⟩
/-- one row, tried -/
theorem law_row {n : Nat} {b : OT} {wl : List (List Nat)} (hb : Bg n b) (hn : n + 20 < 2 ^ 64) (h1 : 1 ≤ wl.length) (h2 : wl.length ≤ 100) (hw : Sh wl) : ∃ b' y6, Bg (n + 13) b' ∧ m_law_b2 cs (lS ns x1 x2 (.ow b) (.ow (.fz (.lst (WsD wl)))) x5 x6 x7 x8) = .nx (lS ns x1 x2 (.ow b') (.ow (.fz (.lst (WsD wl)))) x5 y6 x7 x8) := by
  obtain ⟨w1, b1, e1, hb1, l1, l2, ok1⟩ := changed_ok cs hb (by omega) h1 (by omega) (okr_sh hw (by decide : 40 ≤ 3001)) (by decide) (by decide)
  have s6 : m_law_6 cs (lS ns x1 x2 (.ow b) (.ow (.fz (.lst (WsD wl)))) x5 x6 x7 x8) = .nx (lS ns x1 x2 (.ow b1) (.ow (.fz (.lst (WsD wl)))) x5 (.ow (.fz (.lst (WsD w1)))) x7 x8) := by
    have c := call_bag (f := m__law_changed cs) (i := 3) (a := mVar 4) (sd := lS ns x1 x2 (.ow b) (.ow (.fz (.lst (WsD wl)))) x5 x6 x7 x8) (sd1 := lS ns x1 x2 (.ow b) (.ow (.fz (.lst (WsD wl)))) x5 x6 x7 x8) (t0 := b) (t := b) rfl rfl rfl e1 rfl
    have c2 : mView (mCall1 (m__law_changed cs) (rSlot 3 (rFz (mVar 4) rNil))) (lS ns x1 x2 (.ow b) (.ow (.fz (.lst (WsD wl)))) x5 x6 x7 x8) = .ok (.lst (WsD w1)) (lS ns x1 x2 (.ow b1) (.ow (.fz (.lst (WsD wl)))) x5 x6 x7 x8) := by
      unfold mView
      rw [c]
      rfl
    exact set_d (l := (lS ns x1 x2 (.ow b1) (.ow (.fz (.lst (WsD wl)))) x5 x6 x7 x8).sl) c2 (by show 6 < 9; decide)
  obtain ⟨v, b2, v1, hb2, e2⟩ := pick_fz cs (a := mC (.int 3)) (i := 3) (sd := lS ns x1 x2 (.ow b1) (.ow (.fz (.lst (WsD wl)))) x5 (.ow (.fz (.lst (WsD w1)))) x7 x8) (sd1 := lS ns x1 x2 (.ow b1) (.ow (.fz (.lst (WsD wl)))) x5 (.ow (.fz (.lst (WsD w1)))) x7 x8) (m := 3) rfl rfl rfl hb1 (by omega) (by decide) (by decide)
  have t8 := op_t (f := dEq) (b := mC (.int 0)) (v := decide ((v : Int) = 0)) e2 rfl (by unfold dEq; rw [eqB_int]; rfl)
  have s8 : ∃ w2 b3, Bg (n + 13) b3 ∧ w2.length ≤ 104 ∧ OkR 3009 w2 ∧ m_law_8 cs (lS ns x1 x2 (.ow b1) (.ow (.fz (.lst (WsD wl)))) x5 (.ow (.fz (.lst (WsD w1)))) x7 x8) = .nx (lS ns x1 x2 (.ow b3) (.ow (.fz (.lst (WsD wl)))) x5 (.ow (.fz (.lst (WsD w2)))) x7 x8) := by
    unfold m_law_8
    rw [if_b t8]
    by_cases hv : (v : Int) = 0
    · rw [decide_eq_true hv, if_pos rfl]
      obtain ⟨w2, b3, e3, hb3, l3, l4, ok2⟩ := changed_ok cs hb2 (by omega) l1 (by omega) ok1 (by decide) (by decide)
      refine ⟨w2, b3, hb3.mono (by omega), by omega, fun w hw => (ok2 w hw).mono (by decide), ?_⟩
      have c := call_bag (f := m__law_changed cs) (i := 3) (a := mVar 6) (sd := lS ns x1 x2 (.ow b2) (.ow (.fz (.lst (WsD wl)))) x5 (.ow (.fz (.lst (WsD w1)))) x7 x8) (sd1 := lS ns x1 x2 (.ow b2) (.ow (.fz (.lst (WsD wl)))) x5 (.ow (.fz (.lst (WsD w1)))) x7 x8) (t0 := b2) (t := b2) rfl rfl rfl e3 rfl
      have c2 : mView (mCall1 (m__law_changed cs) (rSlot 3 (rFz (mVar 6) rNil))) (lS ns x1 x2 (.ow b2) (.ow (.fz (.lst (WsD wl)))) x5 (.ow (.fz (.lst (WsD w1)))) x7 x8) = .ok (.lst (WsD w2)) (lS ns x1 x2 (.ow b3) (.ow (.fz (.lst (WsD wl)))) x5 (.ow (.fz (.lst (WsD w1)))) x7 x8) := by
        unfold mView
        rw [c]
        rfl
      exact set_d (l := (lS ns x1 x2 (.ow b3) (.ow (.fz (.lst (WsD wl)))) x5 (.ow (.fz (.lst (WsD w1)))) x7 x8).sl) c2 (by show 6 < 9; decide)
    · rw [decide_eq_false hv, if_neg Bool.false_ne_true]
      exact ⟨w1, b2, hb2.mono (by omega), by omega, fun w hw => (ok1 w hw).mono (by decide), rfl⟩
  obtain ⟨w2, b3, hb3, l4, ok2, s8⟩ := s8
  refine ⟨b3, .ow (.fz (.lst (WsD w2))), hb3, seq_nx s6 (seq_nx s8 ?_)⟩
  have j := join_v (N := 104) (a := mVar 6) (sd := lS ns x1 x2 (.ow b3) (.ow (.fz (.lst (WsD wl)))) x5 (.ow (.fz (.lst (WsD w2)))) x7 x8) rfl (okr_len ok2) l4 (by decide)
  have tl := text_le (okr_len ok2)
  have c10 : mCutX (mBm D.isS dJoin (mC (.str (Str.ofString " "))) (mCons (mVar 6) mNil)) oNone (oSome (mC (.int 3900))) (lS ns x1 x2 (.ow b3) (.ow (.fz (.lst (WsD wl)))) x5 (.ow (.fz (.lst (WsD w2)))) x7 x8) = .ok (.str (W ((TL.tl (textOf w2)).take 3900))) (lS ns x1 x2 (.ow b3) (.ow (.fz (.lst (WsD wl)))) x5 (.ow (.fz (.lst (WsD w2)))) x7 x8) := by
    unfold mCutX
    rw [j]
    show (if (textOf w2).length ≤ 16777216 then ER.ok (D.str (cutS (textOf w2) none (some 3900))) (lS ns x1 x2 (.ow b3) (.ow (.fz (.lst (WsD wl)))) x5 (.ow (.fz (.lst (WsD w2)))) x7 x8) else .bad) = _
    rw [if_pos (by omega)]
    have := take_W (TL.tl (textOf w2)) 3900
    rw [W_tl2] at this
    rw [show (3900 : Int) = ((3900 : Nat) : Int) from rfl, this]
  have k := right_call cs hc c10 (by rw [W_len, List.length_take]; omega)
  have t10 : mNot (mTest (mView (mCall0 (m__law_right cs) (mCons (mCutX (mBm D.isS dJoin (mC (.str (Str.ofString " "))) (mCons (mVar 6) mNil)) oNone (oSome (mC (.int 3900)))) mNil)))) (lS ns x1 x2 (.ow b3) (.ow (.fz (.lst (WsD wl)))) x5 (.ow (.fz (.lst (WsD w2)))) x7 x8) = .ok false (lS ns x1 x2 (.ow b3) (.ow (.fz (.lst (WsD wl)))) x5 (.ow (.fz (.lst (WsD w2)))) x7 x8) := by
    refine not_b (u := true) ?_
    unfold mTest
    rw [k]
    rfl
  unfold m_law_10
  exact (if_b t10).trans rfl
theorem law_cell (cell : Int) : ∃ y3 y4 y5 y6, m_law_b3 cs (lS ns x1 (.ow (.fz (.int cell))) x3 x4 x5 x6 x7 x8) = .nx (lS ns x1 (.ow (.fz (.int cell))) y3 y4 y5 y6 x7 x8) := by
  obtain ⟨b0, hb0, e0⟩ := bag_ok cs cell
  have s4 : m_law_4 cs (lS ns x1 (.ow (.fz (.int cell))) x3 x4 x5 x6 x7 x8) = .nx (lS ns x1 (.ow (.fz (.int cell))) (.ow b0) x4 x5 x6 x7 x8) := by
    have c : mCall0 (m__law_bag cs) (mCons (mVar 2) mNil) (lS ns x1 (.ow (.fz (.int cell))) x3 x4 x5 x6 x7 x8) = .ok b0 (lS ns x1 (.ow (.fz (.int cell))) x3 x4 x5 x6 x7 x8) := by
      unfold mCall0
      rw [cons_v (a := mVar 2) (r := mNil) (sd := lS ns x1 (.ow (.fz (.int cell))) x3 x4 x5 x6 x7 x8) rfl rfl]
      show (match m__law_bag cs [.fz (.int cell)] with
        | .ok t _ => ER.ok t (lS ns x1 (.ow (.fz (.int cell))) x3 x4 x5 x6 x7 x8)
        | .rz x _ => .rz x (lS ns x1 (.ow (.fz (.int cell))) x3 x4 x5 x6 x7 x8)
        | .bad => .bad) = _
      rw [e0]
    exact set_o (l := (lS ns x1 (.ow (.fz (.int cell))) x3 x4 x5 x6 x7 x8).sl) c (by show 3 < 9; decide)
  obtain ⟨v, b1, v1, hb1, e1⟩ := pick_fz cs (a := mC (.int 2)) (i := 3) (sd := lS ns x1 (.ow (.fz (.int cell))) (.ow b0) x4 x5 x6 x7 x8) (sd1 := lS ns x1 (.ow (.fz (.int cell))) (.ow b0) x4 x5 x6 x7 x8) (m := 2) rfl rfl rfl hb0 (by decide) (by decide) (by decide)
  obtain ⟨most, m1, m2, im⟩ : ∃ most : Nat, 1 ≤ most ∧ most ≤ 60 ∧ dIx (.lst [.int 6, .int 60]) (.int v) = some (.int most) := by
    have : v = 0 ∨ v = 1 := by omega
    rcases this with rfl | rfl
    · exact ⟨6, by decide, by decide, rfl⟩
    · exact ⟨60, by decide, by decide, rfl⟩
  obtain ⟨wl, b2, ew, hb2, l1, l2, sh⟩ := words_ok cs 16 12 (by decide) 1 most b1 m1 m2 hb1 (by omega)
  have args : rFz (mOp dIx (mView (mLst (mCons (mC (.int 6)) (mCons (mC (.int 60)) (mNil))))) (mView (mCall1 (m__law_pick cs) (rSlot 3 (rFz (mC (.int 2)) (rNil)))))) (rFz (mC (.int 12)) (rFz (mC (.str (Str.ofString "fblrud"))) (rFz (mC (.int 1)) (rNil)))) (lS ns x1 (.ow (.fz (.int cell))) (.ow b0) x4 x5 x6 x7 x8) = .ok (([.int most, .int (12 : Nat), LET, .int 1] : List D).map .fz) (lS ns x1 (.ow (.fz (.int cell))) (.ow b1) x4 x5 x6 x7 x8) :=
    rfz_v (op_v (lst_v (sd := lS ns x1 (.ow (.fz (.int cell))) (.ow b0) x4 x5 x6 x7 x8) (sd1 := lS ns x1 (.ow (.fz (.int cell))) (.ow b0) x4 x5 x6 x7 x8) (xs := [.int 6, .int 60]) rfl (by decide)) e1 im) (rfz_v (sd1 := lS ns x1 (.ow (.fz (.int cell))) (.ow b1) x4 x5 x6 x7 x8) (d := .int (12 : Nat)) rfl (rfz_v (sd1 := lS ns x1 (.ow (.fz (.int cell))) (.ow b1) x4 x5 x6 x7 x8) (d := LET) rfl (rfz_v (ds := []) (sd1 := lS ns x1 (.ow (.fz (.int cell))) (.ow b1) x4 x5 x6 x7 x8) (d := .int 1) rfl rfl)))
  have cw := call_bags (f := m__law_words cs 16) (i := 3) args (t0 := b0) (t := b1) rfl rfl ew rfl
  have s5 : m_law_5 cs (lS ns x1 (.ow (.fz (.int cell))) (.ow b0) x4 x5 x6 x7 x8) = .nx (lS ns x1 (.ow (.fz (.int cell))) (.ow b2) (.ow (.fz (.lst (WsD wl)))) x5 x6 x7 x8) :=
    set_d (k := 4) (l := (lS ns x1 (.ow (.fz (.int cell))) (.ow b2) x4 x5 x6 x7 x8).sl) (view_v cw) (by show 4 < 9; decide)
  have hb2 : Bg 400 b2 := hb2.mono (by omega)
  obtain ⟨sd', w11, hI⟩ := sFor_inv (it := iRange1 (mCons (mC (.int 12)) (mNil))) (g := tgN 5) (body := m_law_b2 cs) (sd := lS ns x1 (.ow (.fz (.int cell))) (.ow b2) (.ow (.fz (.lst (WsD wl)))) x5 x6 x7 x8) (sd1 := lS ns x1 (.ow (.fz (.int cell))) (.ow b2) (.ow (.fz (.lst (WsD wl)))) x5 x6 x7 x8) (List.range 12) (fun i : Nat => D.int (0 + (i : Int)))
    (fun r sd => r.length ≤ 12 ∧ ∃ b y5 y6, Bg (400 + 13 * (12 - r.length)) b ∧ sd = lS ns x1 (.ow (.fz (.int cell))) (.ow b) (.ow (.fz (.lst (WsD wl)))) y5 y6 x7 x8) rfl ⟨by decide, _, _, _, hb2.mono (by omega), rfl⟩ fun k r sd hI => by
      obtain ⟨hr, b, y5, y6, hb, rfl⟩ := hI
      rw [List.length_cons] at hr hb
      obtain ⟨b', y6', hb', e⟩ := law_row cs hc (ns := ns) (x1 := x1) (x2 := .ow (.fz (.int cell))) (x5 := .ow (.fz (.int (0 + (k : Int))))) (x6 := y6) (x7 := x7) (x8 := x8) hb (by omega) l1 (by omega) sh
      exact ⟨_, _, rfl, .inl e, by omega, b', _, y6', hb'.mono (by omega), rfl⟩
  obtain ⟨_, b3, y5, y6, hb3, rfl⟩ := hI
  have hb3 : Bg 600 b3 := hb3.mono (by rw [List.length_nil]; decide)
  have j := join_v (L := 40) (N := 60) (a := mVar 4) (sd := lS ns x1 (.ow (.fz (.int cell))) (.ow b3) (.ow (.fz (.lst (WsD wl)))) y5 y6 x7 x8) (sd1 := lS ns x1 (.ow (.fz (.int cell))) (.ow b3) (.ow (.fz (.lst (WsD wl)))) y5 y6 x7 x8) rfl (okr_len (okr_sh sh (Nat.le_refl _))) (by omega) (by decide)
  have tl := text_le (okr_len (okr_sh sh (Nat.le_refl _)))
  have k := right_call cs hc j (by omega)
  have tA : mNot (mTest (mView (mCall0 (m__law_right cs) (mCons (mBm D.isS dJoin (mC (.str (Str.ofString " "))) (mCons (mVar 4) mNil)) mNil)))) (lS ns x1 (.ow (.fz (.int cell))) (.ow b3) (.ow (.fz (.lst (WsD wl)))) y5 y6 x7 x8) = .ok false (lS ns x1 (.ow (.fz (.int cell))) (.ow b3) (.ow (.fz (.lst (WsD wl)))) y5 y6 x7 x8) := by
    refine not_b (u := true) ?_
    unfold mTest
    rw [k]
    rfl
  obtain ⟨b4, hb4, e4⟩ := long_ok cs hc hb3 (by decide)
  have cl := call_bags (f := m__law_long_right cs) (i := 3) (rr := rNil) (ds := []) (sd := lS ns x1 (.ow (.fz (.int cell))) (.ow b3) (.ow (.fz (.lst (WsD wl)))) y5 y6 x7 x8) (sd1 := lS ns x1 (.ow (.fz (.int cell))) (.ow b3) (.ow (.fz (.lst (WsD wl)))) y5 y6 x7 x8) (t0 := b3) (t := b3) rfl rfl rfl e4 rfl
  have tB : mNot (mTest (mView (mCall1 (m__law_long_right cs) (rSlot 3 rNil)))) (lS ns x1 (.ow (.fz (.int cell))) (.ow b3) (.ow (.fz (.lst (WsD wl)))) y5 y6 x7 x8) = .ok false (lS ns x1 (.ow (.fz (.int cell))) (.ow b4) (.ow (.fz (.lst (WsD wl)))) y5 y6 x7 x8) := by
    refine not_b (u := true) ?_
    unfold mTest mView
    rw [cl]
    rfl
  have s13 : m_law_13 cs (lS ns x1 (.ow (.fz (.int cell))) (.ow b3) (.ow (.fz (.lst (WsD wl)))) y5 y6 x7 x8) = .nx (lS ns x1 (.ow (.fz (.int cell))) (.ow b4) (.ow (.fz (.lst (WsD wl)))) y5 y6 x7 x8) := by
    unfold m_law_13
    exact (if_b (or_r tA tB)).trans rfl
  exact ⟨_, _, _, _, seq_nx s4 (seq_nx s5 (seq_nx w11 s13))⟩
theorem law_some : ∃ sd', (sSeq (m_law_15 cs) (m_law_16 cs)) (lS ns x1 x2 x3 x4 x5 x6 x7 x8) = .rt (.fz (.bl true)) sd' := by
  let l : List Str := [Str.ofString "", Str.ofString " ", Str.ofString "f ", Str.ofString " f", Str.ofString "f  l", Str.ofString "(", Str.ofString "( f", Str.ofString "( )2", Str.ofString "( f )", Str.ofString "( f )2 )2", Str.ofString "( ( f )2", Str.ofString ")2", Str.ofString "f\nl", Str.ofString "f\tl"]
  have hl : ∀ s ∈ l, s.length ≤ 100 := by decide
  have s15 : m_law_15 cs (lS ns x1 x2 x3 x4 x5 x6 x7 x8) = .nx (lS ns x1 x2 x3 x4 x5 x6 (.ow (.fz (.lst (l.map D.str)))) x8) := rfl
  have z := mComp_of (mi := iLst (mVar 7)) (g := tgN 8) (c := mNot (mTest (mView (mCall0 (m__law_right cs) (mCons (mVar 8) (mNil)))))) (elt := mVar 8) (vs := [8]) (sd := lS ns x1 x2 x3 x4 x5 x6 (.ow (.fz (.lst (l.map D.str)))) x8) (sd1 := lS ns x1 x2 x3 x4 x5 x6 (.ow (.fz (.lst (l.map D.str)))) x8) l D.str (fun _ => false) D.str rfl (by show 14 ≤ 16777216; decide) fun s hs => by
    refine ⟨lS ns x1 x2 x3 x4 x5 x6 (.ow (.fz (.lst (l.map D.str)))) (.ow (.fz (.str s))), rfl, rfl, ?_, fun z => by cases z⟩
    refine not_b (u := true) ?_
    unfold mTest
    rw [right_call cs hc (a := mVar 8) (sd := lS ns x1 x2 x3 x4 x5 x6 (.ow (.fz (.lst (l.map D.str)))) (.ow (.fz (.str s)))) (t := s) rfl (by have := hl s hs; omega)]
    rfl
  have hf : l.filter (fun _ => false) = [] := rfl
  rw [hf] at z
  have z2 : mView (m_law_c1 cs) (lS ns x1 x2 x3 x4 x5 x6 (.ow (.fz (.lst (l.map D.str)))) x8) = .ok (.lst []) (lS ns x1 x2 x3 x4 x5 x6 (.ow (.fz (.lst (l.map D.str)))) x8) := by
    unfold mView
    rw [show m_law_c1 cs (lS ns x1 x2 x3 x4 x5 x6 (.ow (.fz (.lst (l.map D.str)))) x8) = _ from z]
    rfl
  have z3 := op_v (f := dEq) (b := mView (mLst mNil)) (y := .lst []) (z := .bl true) z2 (sd2 := lS ns x1 x2 x3 x4 x5 x6 (.ow (.fz (.lst (l.map D.str)))) x8) rfl rfl
  exact ⟨lS ns x1 x2 x3 x4 x5 x6 (.ow (.fz (.lst (l.map D.str)))) x8, seq_nx s15 (ret_d z3)⟩
end
theorem law_true (cs : Nat → Addr) (hc : CsOk cs) (ns : List Int) (hl : ns.length ≤ 63) (hb : ∀ z ∈ ns, Builtin.Int.intBits z ≤ 1048576) : ∃ sd, m_law cs [.fz (.scr ns)] = .ok (.fz (.bl true)) sd := by
  have ent : entry 9 [.fz (.scr ns)] = lS ns .un .un .un .un .un .un .un .un := rfl
  obtain ⟨y1, s3⟩ := law_kinds cs hc (ns := ns) (x1 := .un) (x2 := .un) (x3 := .un) (x4 := .un) (x5 := .un) (x6 := .un) (x7 := .un) (x8 := .un)
  have hcl : (cutL (ns.map D.int) none (some 12)).length ≤ 63 := by
    unfold cutL
    rw [List.length_take, List.length_drop, List.length_map]
    omega
  have it := view_v (cat_v (a := qNew (mCutS (mVar 0) oNone (oSome (mC (.int 12))))) (sd := lS ns y1 .un .un .un .un .un .un .un) (sd1 := lS ns y1 .un .un .un .un .un .un .un) (xs := cutL (ns.map D.int) none (some 12)) (qnew_v rfl) (qnew_v (lst_o (a := mCons (mC (.int 0)) mNil) (sd1 := lS ns y1 .un .un .un .un .un .un .un) (xs := [.int 0]) rfl (by decide))) (by rw [List.length_singleton]; omega))
  obtain ⟨sd', w14, hI⟩ := sFor_inv (it := iLst (mView (mCat (qNew (mCutS (mVar 0) (oNone) (oSome (mC (.int 12))))) (qNew (mLst (mCons (mC (.int 0)) (mNil))))))) (g := tgN 2) (body := m_law_b3 cs) (sd := lS ns y1 .un .un .un .un .un .un .un) (cutL (ns.map D.int) none (some 12) ++ [.int 0]) (fun d => d)
    (fun r sd => (∀ d ∈ r, ∃ i, d = .int i) ∧ ∃ z2 z3 z4 z5 z6, sd = lS ns y1 z2 z3 z4 z5 z6 .un .un) (by
      unfold iLst
      rw [it]
      show ER.ok _ _ = _
      rw [List.map_id'']
      intro x; rfl) ⟨fun d hd => by
        rcases List.mem_append.mp hd with h | h
        · exact cut_mem h
        · exact ⟨0, List.mem_singleton.mp h⟩, _, _, _, _, _, rfl⟩ fun d r sd hI => by
      obtain ⟨hr, z2, z3, z4, z5, z6, rfl⟩ := hI
      obtain ⟨i, rfl⟩ := hr d List.mem_cons_self
      obtain ⟨u3, u4, u5, u6, e⟩ := law_cell cs hc (ns := ns) (x1 := y1) (x3 := z3) (x4 := z4) (x5 := z5) (x6 := z6) (x7 := .un) (x8 := .un) i
      exact ⟨_, _, rfl, .inl e, fun d hd => hr d (List.mem_cons_of_mem _ hd), _, _, _, _, _, rfl⟩
  obtain ⟨_, z2, z3, z4, z5, z6, rfl⟩ := hI
  obtain ⟨sd2, s15⟩ := law_some cs hc (ns := ns) (x1 := y1) (x2 := z2) (x3 := z3) (x4 := z4) (x5 := z5) (x6 := z6) (x7 := .un) (x8 := .un)
  refine ⟨⟨[], sd2.pa⟩, ?_⟩
  unfold m_law asDef
  rw [ent, seq_nx s3 (seq_nx (show m_law_14 cs _ = _ from w14) s15)]
theorem walk {l : PySem.W.OpenLaw} {q : Program} {loose : List Str} {XP : (Str → Option Value) → Heap → Prop} {YP : World → Heap → Prop} {d : DefRec} {K : Params → PySem.W.Frag} (hn : l.most = some 63) (hdf : d.params.defaults = [])
    (hY : ∀ (w : World) (h : Heap), YP w h → (K w.params).In h)
    (F : ∀ (w : World) (mg : Str → Option Value) (fa : Addr) (h : Heap), (K w.params).In h → h.Ns mainGlobals mg → mg d.name = some (.ref fa) →
      ∃ fd : FuncData, (∀ (s : Shared) (u : Value), BindsTo s fd ⟨[u], []⟩ [("script", u)]) ∧ ∀ base : Heap, (K w.params).In base → base.Ns mainGlobals mg → ∃ cs : Nat → Addr, CsOk cs ∧ FnG l.prog w (K w.params) mg base (L2.CX l.prog w) 26 fa fd ["script"] (spD (K w.params) 1 (m_law cs))) :
    PySem.W.WalkO q loose XP YP l.row.toRowW d [] (fun f vs => PySem.call f vs) :=
  walk_G (n := 63) (k := 26) (x := "script") (sp := fun w vs H Q E => (∀ cs, CsOk cs → spD (K w.params) 1 (m_law cs) vs H Q E)) hn (by decide) hdf ⟨⟨rfl, by decide, by decide⟩, rfl⟩ hY (fun w mg fa h a b c => by
    obtain ⟨fd, h1, h2⟩ := F w mg fa h a b c
    refine ⟨fd, h1, fun base hb hg => ?_⟩
    obtain ⟨cs, hc, h3⟩ := h2 base hb hg
    exact ⟨fun vs H Q E hs => h3.len vs H Q E (hs cs hc), fun A out s H args us vs Q E r e0 bd rel hs => h3.run A out s H args us vs Q E r e0 bd rel (hs cs hc)⟩) fun w H a ns hl hb hS cs hc => law_sp hS (law_true cs hc ns hl hb)
end Lw
open PySem PySem.W PyProof.Rows
set_option maxRecDepth 100000 in
set_option maxHeartbeats 0 in
theorem PySem.Challenge.cw_plotpens_k02_texts_refused_holds : PySem.Challenge.rw_plotpens_k02_texts_refused.Holds := by
  w_on; o_law; k_head; (case hw => w_witness2)
  k_fill
  refine Lw.walk (l := PySem.Challenge.rw_plotpens_k02_texts_refused) rfl rfl (fun w h Y => PySem.W.kIn_of Y) ?F
  case F =>
    intro w mg fa h KX G hmg
    refine' Lw.all_mk KX G hmg ?g_Program ?g_PlotError ?g_InvalidText ?g_InvalidSource ?g_TooDeep ?g_TooLarge ?g_InvalidProgram ?g_InvalidTimes ?g_InvalidIndex ?g_InvalidLetter ?g_InvalidName ?g_HasPen ?g_InvalidMotion ?g_InvalidPose ?g_InvalidPoint ?g_InvalidEdge ?g_InvalidPicture ?g_InvalidTurn ?g_InvalidFace ?g_InvalidFaces ?g_NotEven ?g_NotClosed ?g_InvalidIntervals ?g_InvalidPlace ?g_NotDrifting ?g_InvalidCount ?g_NoSteps ?g_InvalidOperation ?g_Nothing ?g_InvalidArt ?g_InvalidCommand ?a1 ?i1 ?l1 ?c1 ?k1 ?a2 ?l2 ?c2 ?k2 ?a3 ?l3 ?c3 ?k3 ?a4 ?l4 ?c4 ?k4 ?a5 ?l5 ?c5 ?k5 ?a6 ?l6 ?c6 ?k6 ?a7 ?l7 ?c7 ?k7 ?a8 ?l8 ?c8 ?k8 ?a9 ?l9 ?c9 ?k9 ?a10 ?i10 ?l10 ?c10 ?k10 ?a11 ?l11 ?c11 ?k11 ?a12 ?l12 ?c12 ?k12 ?a13 ?l13 ?c13 ?k13 ?a14 ?l14 ?c14 ?k14 ?a15 ?l15 ?c15 ?k15 ?a16 ?l16 ?c16 ?k16 ?a17 ?l17 ?c17 ?k17 ?a18 ?l18 ?c18 ?k18 ?a19 ?l19 ?c19 ?k19 ?a20 ?l20 ?c20 ?k20 ?a21 ?l21 ?c21 ?k21 ?a22 ?l22 ?c22 ?k22 ?nd ?z_ValueError ?z_all ?z_enumerate ?z_int ?z_isinstance ?z_len ?z_list ?z_max ?z_range ?z_repr ?z_str ?z_tuple ?v_DIGITS ?v_LETTERS ?v_MOST_DEPTH ?v_MOST_DIGITS ?v_MOST_TIMES ?v_MOST_WORDS ?pg_Program ?hd_Program ?po_Program ?sa_Program ?ha_Program ?hn_Program ?ht_Program ?hm_Program ?mk_Program ?kc_Program ?xl_InvalidText ?xe_InvalidText ?xw_InvalidText ?xk_InvalidText ?xb_InvalidText ?xt_InvalidText ?xn_InvalidText_index ?xs ?xz ?xg_InvalidText ?xn_InvalidText ?xd_InvalidText ?xa_InvalidText ?xo_InvalidText ?xv_InvalidText ?yc_InvalidArt ?yt_InvalidArt ?ys_InvalidArt ?yc_InvalidCommand ?yt_InvalidCommand ?ys_InvalidCommand ?yc_InvalidCount ?yt_InvalidCount ?ys_InvalidCount ?yc_InvalidEdge ?yt_InvalidEdge ?ys_InvalidEdge ?yc_InvalidFace ?yt_InvalidFace ?ys_InvalidFace ?yc_InvalidFaces ?yt_InvalidFaces ?ys_InvalidFaces ?yc_InvalidIntervals ?yt_InvalidIntervals ?ys_InvalidIntervals ?yc_InvalidMotion ?yt_InvalidMotion ?ys_InvalidMotion ?yc_InvalidOperation ?yt_InvalidOperation ?ys_InvalidOperation ?yc_InvalidPicture ?yt_InvalidPicture ?ys_InvalidPicture ?yc_InvalidPlace ?yt_InvalidPlace ?ys_InvalidPlace ?yc_InvalidPoint ?yt_InvalidPoint ?ys_InvalidPoint ?yc_InvalidPose ?yt_InvalidPose ?ys_InvalidPose ?yc_InvalidTurn ?yt_InvalidTurn ?ys_InvalidTurn ?yc_NoSteps ?yt_NoSteps ?ys_NoSteps ?yc_NotClosed ?yt_NotClosed ?ys_NotClosed ?yc_NotDrifting ?yt_NotDrifting ?ys_NotDrifting ?yc_NotEven ?yt_NotEven ?ys_NotEven ?yc_Nothing ?yt_Nothing ?ys_Nothing ?yc_InvalidText ?yt_InvalidText ?ys_InvalidText ?yc_InvalidSource ?yt_InvalidSource ?ys_InvalidSource ?yc_InvalidProgram ?yt_InvalidProgram ?ys_InvalidProgram ?yc_InvalidTimes ?yt_InvalidTimes ?ys_InvalidTimes ?yc_InvalidIndex ?yt_InvalidIndex ?ys_InvalidIndex ?yc_InvalidLetter ?yt_InvalidLetter ?ys_InvalidLetter ?yc_InvalidName ?yt_InvalidName ?ys_InvalidName ?yc_HasPen ?yt_HasPen ?ys_HasPen ?yc_TooDeep ?yt_TooDeep ?ys_TooDeep ?yc_TooLarge ?yt_TooLarge ?ys_TooLarge ?yp_InvalidText_InvalidArt ?yp_InvalidText_InvalidCommand ?yp_InvalidText_InvalidCount ?yp_InvalidText_InvalidEdge ?yp_InvalidText_InvalidFace ?yp_InvalidText_InvalidFaces ?yp_InvalidText_InvalidIntervals ?yp_InvalidText_InvalidMotion ?yp_InvalidText_InvalidOperation ?yp_InvalidText_InvalidPicture ?yp_InvalidText_InvalidPlace ?yp_InvalidText_InvalidPoint ?yp_InvalidText_InvalidPose ?yp_InvalidText_InvalidTurn ?yp_InvalidText_NoSteps ?yp_InvalidText_NotClosed ?yp_InvalidText_NotDrifting ?yp_InvalidText_NotEven ?yp_InvalidText_Nothing ?yp_InvalidText_InvalidSource ?yp_InvalidText_InvalidProgram ?yp_InvalidText_InvalidTimes ?yp_InvalidText_InvalidIndex ?yp_InvalidText_InvalidLetter ?yp_InvalidText_InvalidName ?yp_InvalidText_HasPen ?yp_InvalidText_TooDeep ?yp_InvalidText_TooLarge ?zd ?zb ?zt ?zp_InvalidText ?n_Program_own_depth ?n_Program_own_length ?n_Program_own_nodes ?n_Program_own_text ?n_Program_own_words ?iy_Program_str
    (case g_Program => k_is); (case g_PlotError => k_is); (case g_InvalidText => k_is); (case g_InvalidSource => k_is); (case g_TooDeep => k_is); (case g_TooLarge => k_is); (case g_InvalidProgram => k_is); (case g_InvalidTimes => k_is)
    (case g_InvalidIndex => k_is); (case g_InvalidLetter => k_is); (case g_InvalidName => k_is); (case g_HasPen => k_is); (case g_InvalidMotion => k_is); (case g_InvalidPose => k_is); (case g_InvalidPoint => k_is); (case g_InvalidEdge => k_is)
    (case g_InvalidPicture => k_is); (case g_InvalidTurn => k_is); (case g_InvalidFace => k_is); (case g_InvalidFaces => k_is); (case g_NotEven => k_is); (case g_NotClosed => k_is); (case g_InvalidIntervals => k_is); (case g_InvalidPlace => k_is)
    (case g_NotDrifting => k_is); (case g_InvalidCount => k_is); (case g_NoSteps => k_is); (case g_InvalidOperation => k_is); (case g_Nothing => k_is); (case g_InvalidArt => k_is); (case g_InvalidCommand => k_is); (case a1 => k_is)
    (case i1 => k_is); (case l1 => k_is); (case c1 => k_is); (case k1 => k_is); (case a2 => k_is); (case l2 => k_is); (case c2 => k_is); (case k2 => k_is)
    (case a3 => k_is); (case l3 => k_is); (case c3 => k_is); (case k3 => k_is); (case a4 => k_is); (case l4 => k_is); (case c4 => k_is); (case k4 => k_is)
    (case a5 => k_is); (case l5 => k_is); (case c5 => k_is); (case k5 => k_is); (case a6 => k_is); (case l6 => k_is); (case c6 => k_is); (case k6 => k_is)
    (case a7 => k_is); (case l7 => k_is); (case c7 => k_is); (case k7 => k_is); (case a8 => k_is); (case l8 => k_is); (case c8 => k_is); (case k8 => k_is)
    (case a9 => k_is); (case l9 => k_is); (case c9 => k_is); (case k9 => k_is); (case a10 => k_is); (case i10 => k_is); (case l10 => k_is); (case c10 => k_is)
    (case k10 => k_is); (case a11 => k_is); (case l11 => k_is); (case c11 => k_is); (case k11 => k_is); (case a12 => k_is); (case l12 => k_is); (case c12 => k_is)
    (case k12 => k_is); (case a13 => k_is); (case l13 => k_is); (case c13 => k_is); (case k13 => k_is); (case a14 => k_is); (case l14 => k_is); (case c14 => k_is)
    (case k14 => k_is); (case a15 => k_is); (case l15 => k_is); (case c15 => k_is); (case k15 => k_is); (case a16 => k_is); (case l16 => k_is); (case c16 => k_is)
    (case k16 => k_is); (case a17 => k_is); (case l17 => k_is); (case c17 => k_is); (case k17 => k_is); (case a18 => k_is); (case l18 => k_is); (case c18 => k_is)
    (case k18 => k_is); (case a19 => k_is); (case l19 => k_is); (case c19 => k_is); (case k19 => k_is); (case a20 => k_is); (case l20 => k_is); (case c20 => k_is)
    (case k20 => k_is); (case a21 => k_is); (case l21 => k_is); (case c21 => k_is); (case k21 => k_is); (case a22 => k_is); (case l22 => k_is); (case c22 => k_is)
    (case k22 => k_is); (case z_ValueError => k_is); (case z_all => k_is); (case z_enumerate => k_is); (case z_int => k_is); (case z_isinstance => k_is); (case z_len => k_is); (case z_list => k_is)
    (case z_max => k_is); (case z_range => k_is); (case z_repr => k_is); (case z_str => k_is); (case z_tuple => k_is); (case v_DIGITS => k_is); (case v_LETTERS => k_is); (case v_MOST_DEPTH => k_is)
    (case v_MOST_DIGITS => k_is); (case v_MOST_TIMES => k_is); (case v_MOST_WORDS => k_is); (case pg_Program => k_is); (case hd_Program => k_is); (case po_Program => k_is); (case sa_Program => k_is); (case ha_Program => k_is)
    (case hn_Program => k_is); (case ht_Program => k_is); (case hm_Program => k_is); (case mk_Program => k_is); (case kc_Program => k_is); (case xl_InvalidText => k_is); (case xw_InvalidText => k_is); (case xk_InvalidText => k_is)
    (case xb_InvalidText => k_is); (case xt_InvalidText => k_is); (case xn_InvalidText_index => k_is); (case xs => k_is); (case xz => k_is); (case xg_InvalidText => k_is); (case xn_InvalidText => k_is); (case xd_InvalidText => k_is)
    (case xa_InvalidText => k_is); (case xo_InvalidText => k_is); (case xv_InvalidText => k_is); (case yc_InvalidArt => k_is); (case yt_InvalidArt => k_is); (case ys_InvalidArt => k_is); (case yc_InvalidCommand => k_is); (case yt_InvalidCommand => k_is)
    (case ys_InvalidCommand => k_is); (case yc_InvalidCount => k_is); (case yt_InvalidCount => k_is); (case ys_InvalidCount => k_is); (case yc_InvalidEdge => k_is); (case yt_InvalidEdge => k_is); (case ys_InvalidEdge => k_is); (case yc_InvalidFace => k_is)
    (case yt_InvalidFace => k_is); (case ys_InvalidFace => k_is); (case yc_InvalidFaces => k_is); (case yt_InvalidFaces => k_is); (case ys_InvalidFaces => k_is); (case yc_InvalidIntervals => k_is); (case yt_InvalidIntervals => k_is); (case ys_InvalidIntervals => k_is)
    (case yc_InvalidMotion => k_is); (case yt_InvalidMotion => k_is); (case ys_InvalidMotion => k_is); (case yc_InvalidOperation => k_is); (case yt_InvalidOperation => k_is); (case ys_InvalidOperation => k_is); (case yc_InvalidPicture => k_is); (case yt_InvalidPicture => k_is)
    (case ys_InvalidPicture => k_is); (case yc_InvalidPlace => k_is); (case yt_InvalidPlace => k_is); (case ys_InvalidPlace => k_is); (case yc_InvalidPoint => k_is); (case yt_InvalidPoint => k_is); (case ys_InvalidPoint => k_is); (case yc_InvalidPose => k_is)
    (case yt_InvalidPose => k_is); (case ys_InvalidPose => k_is); (case yc_InvalidTurn => k_is); (case yt_InvalidTurn => k_is); (case ys_InvalidTurn => k_is); (case yc_NoSteps => k_is); (case yt_NoSteps => k_is); (case ys_NoSteps => k_is)
    (case yc_NotClosed => k_is); (case yt_NotClosed => k_is); (case ys_NotClosed => k_is); (case yc_NotDrifting => k_is); (case yt_NotDrifting => k_is); (case ys_NotDrifting => k_is); (case yc_NotEven => k_is); (case yt_NotEven => k_is)
    (case ys_NotEven => k_is); (case yc_Nothing => k_is); (case yt_Nothing => k_is); (case ys_Nothing => k_is); (case yc_InvalidText => k_is); (case yt_InvalidText => k_is); (case ys_InvalidText => k_is); (case yc_InvalidSource => k_is)
    (case yt_InvalidSource => k_is); (case ys_InvalidSource => k_is); (case yc_InvalidProgram => k_is); (case yt_InvalidProgram => k_is); (case ys_InvalidProgram => k_is); (case yc_InvalidTimes => k_is); (case yt_InvalidTimes => k_is); (case ys_InvalidTimes => k_is)
    (case yc_InvalidIndex => k_is); (case yt_InvalidIndex => k_is); (case ys_InvalidIndex => k_is); (case yc_InvalidLetter => k_is); (case yt_InvalidLetter => k_is); (case ys_InvalidLetter => k_is); (case yc_InvalidName => k_is); (case yt_InvalidName => k_is)
    (case ys_InvalidName => k_is); (case yc_HasPen => k_is); (case yt_HasPen => k_is); (case ys_HasPen => k_is); (case yc_TooDeep => k_is); (case yt_TooDeep => k_is); (case ys_TooDeep => k_is); (case yc_TooLarge => k_is)
    (case yt_TooLarge => k_is); (case ys_TooLarge => k_is); (case yp_InvalidText_InvalidArt => k_is); (case yp_InvalidText_InvalidCommand => k_is); (case yp_InvalidText_InvalidCount => k_is); (case yp_InvalidText_InvalidEdge => k_is); (case yp_InvalidText_InvalidFace => k_is); (case yp_InvalidText_InvalidFaces => k_is)
    (case yp_InvalidText_InvalidIntervals => k_is); (case yp_InvalidText_InvalidMotion => k_is); (case yp_InvalidText_InvalidOperation => k_is); (case yp_InvalidText_InvalidPicture => k_is); (case yp_InvalidText_InvalidPlace => k_is); (case yp_InvalidText_InvalidPoint => k_is); (case yp_InvalidText_InvalidPose => k_is); (case yp_InvalidText_InvalidTurn => k_is)
    (case yp_InvalidText_NoSteps => k_is); (case yp_InvalidText_NotClosed => k_is); (case yp_InvalidText_NotDrifting => k_is); (case yp_InvalidText_NotEven => k_is); (case yp_InvalidText_Nothing => k_is); (case yp_InvalidText_InvalidSource => k_is); (case yp_InvalidText_InvalidProgram => k_is); (case yp_InvalidText_InvalidTimes => k_is)
    (case yp_InvalidText_InvalidIndex => k_is); (case yp_InvalidText_InvalidLetter => k_is); (case yp_InvalidText_InvalidName => k_is); (case yp_InvalidText_HasPen => k_is); (case yp_InvalidText_TooDeep => k_is); (case yp_InvalidText_TooLarge => k_is); (case zd => k_is); (case zb => k_is)
    (case zt => k_is); (case zp_InvalidText => k_is); (case n_Program_own_depth => k_is); (case n_Program_own_length => k_is); (case n_Program_own_nodes => k_is); (case n_Program_own_text => k_is); (case n_Program_own_words => k_is); (case iy_Program_str => k_is)
    (case nd => decide)
    (case xe_InvalidText => rfl)
