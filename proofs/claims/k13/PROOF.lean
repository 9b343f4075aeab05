import PyProof.Rows.All
import Wide.All
import OpenK.AllK
import Wide.FinOn
import HandS.ForMost
import HandS.Exc
import HandS.TryOnly
import HandS.ExcOwn
import HandS.WordsExc
import HandS.CallSlots
import HandS.Wide
import HandS.IsInst
import HandS.SortRule
import HandS.SortInts
import HandS.EndBits
import HandS.TupAny
import HandS.Style
import HandS.Property
import HandS.SlotsOwn
import HandS.Star
import KE.KOpsOwn
import PyProof.InstNe
import PyProof.ReprRoads
import PySem.Challenge.RW_plotpens_k13_motions_put_together
set_option Elab.async false
set_option linter.all false
set_option maxRecDepth 100000
/-! DL0: values without a heap (D), owned trees (OT), what they stand for, the state of a frame. -/
namespace DL
open PySem PySem.Spec L2

/-- a dict's key by its value -/
inductive DKey where
  | k (k : Key)
  | t (ks : List Key)
  deriving DecidableEq

/-- a value that nobody changes any more -/
inductive D where
  | non
  | bl (b : Bool)
  | int (i : Int)
  | str (x : Str)
  | ty (n : String)
  | cls (C : Addr)
  | tup (xs : List D)
  | lst (xs : List D)
  | scr (ns : List Int)
  | dic (ks : List DKey) (vs : List D)
  | ins (C : Addr) (ns : List Str) (vs : List D)

/-- a value that one name alone reaches (fz: a D) -/
inductive OT where
  | fz (d : D)
  | ol (ts : List OT)
  | od (tk : Bool) (ks : List DKey) (ts : List OT)
  | oi (C : Addr) (ns : List Str) (ts : List OT)

mutual
inductive Rep (K : PySem.W.Frag) (F : Hp) : V → D → Prop
  | non : Rep K F .non .non
  | bl (b : Bool) : Rep K F (.bl b) (.bl b)
  | int (i : Int) : Rep K F (.int i) (.int i)
  | str (x : Str) : Rep K F (.str x) (.str x)
  | ty (n : String) : Rep K F (.ty n) (.ty n)
  | cls (C : Addr) : Rep K F (.ref C) (.cls C)
  | tup {a : Addr} {vs : List V} {ds : List D} : SqT K F a vs → Reps K F vs ds → Rep K F (.ref a) (.tup ds)
  | lst {a : Addr} {vs : List V} {ds : List D} : Rd F a (.lst vs) → Reps K F vs ds → Rep K F (.ref a) (.lst ds)
  | scr {a : Addr} {ns : List Int} : SqL K F a (ns.map V.int) → Rep K F (.ref a) (.scr ns)
  | dicK {a : Addr} {kvs : List (Key × V)} {ds : List D} : F a = some (.dK kvs) → Reps K F (kvs.map (·.2)) ds → Rep K F (.ref a) (.dic (kvs.map fun p => .k p.1) ds)
  | dicT {a : Addr} {kvs : List (List Key × V)} {ds : List D} : F a = some (.dT kvs) → Reps K F (kvs.map (·.2)) ds → Rep K F (.ref a) (.dic (kvs.map fun p => .t p.1) ds)
  | ins {a C dx : Addr} {fvs : List (Str × V)} {ds : List D} : F a = some (.ins C dx fvs) → Reps K F (fvs.map (·.2)) ds → Rep K F (.ref a) (.ins C (fvs.map (·.1)) ds)
inductive Reps (K : PySem.W.Frag) (F : Hp) : List V → List D → Prop
  | nil : Reps K F [] []
  | cons {v : V} {vs : List V} {d : D} {ds : List D} : Rep K F v d → Reps K F vs ds → Reps K F (v :: vs) (d :: ds)
end

theorem Same.rd {H H' : Hp} {a : Addr} {u : HO} (e : Same H H') (h : Rd H a u) : Rd H' a u := by
  rcases h with h | ⟨o, h⟩
  · exact .inl (e _ _ h)
  · exact .inr ⟨o, e _ _ h⟩
theorem Same.sqt {K : PySem.W.Frag} {H H' : Hp} {a : Addr} {xs : List V} (e : Same H H') (h : SqT K H a xs) : SqT K H' a xs := by
  rcases h with h | h
  · exact .inl (Same.rd e h)
  · exact .inr h
theorem Same.upd {H : Hp} {p : Addr} {o : HO} (h : H p = none) : Same H (upd H p o) := fun a u e => by
  rw [upd_ne (ne_of_none e h)]; exact e

section
variable {K : PySem.W.Frag} {F F' H H' : Hp}
mutual
theorem Rep.mono (e : Same F F') : ∀ {v : V} {d : D}, Rep K F v d → Rep K F' v d
  | _, _, .non => .non
  | _, _, .bl b => .bl b
  | _, _, .int i => .int i
  | _, _, .str x => .str x
  | _, _, .ty n => .ty n
  | _, _, .cls C => .cls C
  | _, _, .tup h r => .tup (Same.sqt e h) (Reps.mono e r)
  | _, _, .lst h r => .lst (Same.rd e h) (Reps.mono e r)
  | _, _, .scr h => .scr (e.seq h)
  | _, _, .dicK h r => .dicK (e _ _ h) (Reps.mono e r)
  | _, _, .dicT h r => .dicT (e _ _ h) (Reps.mono e r)
  | _, _, .ins h r => .ins (e _ _ h) (Reps.mono e r)
theorem Reps.mono (e : Same F F') : ∀ {vs : List V} {ds : List D}, Reps K F vs ds → Reps K F' vs ds
  | _, _, .nil => .nil
  | _, _, .cons h r => .cons (Rep.mono e h) (Reps.mono e r)
end
theorem Reps.length : ∀ {vs : List V} {ds : List D}, Reps K F vs ds → vs.length = ds.length
  | _, _, .nil => rfl
  | _, _, .cons _ r => by rw [List.length_cons, List.length_cons, Reps.length r]
theorem Reps.get : ∀ {vs : List V} {ds : List D} {i : Nat} {d : D}, Reps K F vs ds → ds[i]? = some d → ∃ v, vs[i]? = some v ∧ Rep K F v d
  | _, _, _, _, .nil, e => by simp at e
  | _, _, 0, _, .cons h _, e => by simp at e; subst e; exact ⟨_, rfl, h⟩
  | _, _, i + 1, _, .cons _ r, e => by
    obtain ⟨v, h1, h2⟩ := Reps.get (i := i) r (by simpa using e)
    exact ⟨v, by simpa using h1, h2⟩
theorem Reps.get' : ∀ {vs : List V} {ds : List D} {i : Nat} {v : V}, Reps K F vs ds → vs[i]? = some v → ∃ d, ds[i]? = some d ∧ Rep K F v d
  | _, _, _, _, .nil, e => by simp at e
  | _, _, 0, _, .cons h _, e => by simp at e; subst e; exact ⟨_, rfl, h⟩
  | _, _, i + 1, _, .cons _ r, e => by
    obtain ⟨d, h1, h2⟩ := Reps.get' (i := i) r (by simpa using e)
    exact ⟨d, by simpa using h1, h2⟩
theorem Reps.append : ∀ {vs ws : List V} {ds es : List D}, Reps K F vs ds → Reps K F ws es → Reps K F (vs ++ ws) (ds ++ es)
  | _, _, _, _, .nil, s => s
  | _, _, _, _, .cons h r, s => .cons h (Reps.append r s)
theorem Reps.one {v : V} {d : D} (h : Rep K F v d) : Reps K F [v] [d] := .cons h .nil
theorem Reps.take : ∀ {vs : List V} {ds : List D} (n : Nat), Reps K F vs ds → Reps K F (vs.take n) (ds.take n)
  | _, _, 0, _ => .nil
  | _, _, _ + 1, .nil => .nil
  | _, _, n + 1, .cons h r => .cons h (Reps.take n r)
theorem Reps.drop : ∀ {vs : List V} {ds : List D} (n : Nat), Reps K F vs ds → Reps K F (vs.drop n) (ds.drop n)
  | _, _, 0, r => r
  | _, _, _ + 1, .nil => .nil
  | _, _, n + 1, .cons _ r => Reps.drop n r
theorem Reps.dropLast {vs : List V} {ds : List D} (r : Reps K F vs ds) : Reps K F vs.dropLast ds.dropLast := by
  rw [List.dropLast_eq_take, List.dropLast_eq_take, r.length]; exact r.take _
theorem Reps.reverse : ∀ {vs : List V} {ds : List D}, Reps K F vs ds → Reps K F vs.reverse ds.reverse
  | _, _, .nil => .nil
  | _, _, .cons h r => by rw [List.reverse_cons, List.reverse_cons]; exact (Reps.reverse r).append (.one h)
theorem Reps.set : ∀ {vs : List V} {ds : List D} {v : V} {d : D} (i : Nat), Rep K F v d → Reps K F vs ds → Reps K F (vs.set i v) (ds.set i d)
  | _, _, _, _, _, _, .nil => .nil
  | _, _, _, _, 0, h, .cons _ r => .cons h r
  | _, _, _, _, i + 1, h, .cons k r => .cons k (Reps.set i h r)
/-- ints -/
theorem Reps.ints : ∀ (ns : List Int), Reps K F (ns.map V.int) (ns.map D.int)
  | [] => .nil
  | n :: r => .cons (.int n) (Reps.ints r)
theorem Reps.of_ints : ∀ {ns : List Int} {vs : List V}, Reps K F vs (ns.map D.int) → vs = ns.map V.int
  | [], _, .nil => rfl
  | n :: r, _, .cons h k => by cases h; rw [List.map_cons, Reps.of_ints k]
end

/-! ### owned trees -/
mutual
def OT.view : OT → D
  | .fz d => d
  | .ol ts => .lst (OT.views ts)
  | .od _ ks ts => .dic ks (OT.views ts)
  | .oi C ns ts => .ins C ns (OT.views ts)
def OT.views : List OT → List D
  | [] => []
  | t :: ts => t.view :: OT.views ts
end
theorem views_eq : ∀ ts : List OT, OT.views ts = ts.map OT.view
  | [] => by rw [OT.views]; rfl
  | t :: ts => by rw [OT.views, views_eq ts]; rfl
theorem views_fz : ∀ ds : List D, OT.views (ds.map OT.fz) = ds
  | [] => by rw [List.map_nil, OT.views]
  | d :: ds => by rw [List.map_cons, OT.views, OT.view, views_fz ds]

mutual
def RepO (K : PySem.W.Frag) (F H : Hp) : OT → V → (Addr → Prop) → Prop
  | .fz d, v, _ => Rep K F v d
  | .ol ts, v, P => ∃ (a : Addr) (vs : List V), v = .ref a ∧ P a ∧ H a = some (.lst vs) ∧ RepOs K F H ts vs (fun x => P x ∧ x ≠ a)
  | .od tk ks ts, v, P => ∃ (a : Addr), v = .ref a ∧ P a ∧
      ((tk = false ∧ ∃ kvs : List (Key × V), H a = some (.dK kvs) ∧ ks = kvs.map (fun p => DKey.k p.1) ∧ RepOs K F H ts (kvs.map (·.2)) (fun x => P x ∧ x ≠ a)) ∨
       (tk = true ∧ ∃ kvs : List (List Key × V), H a = some (.dT kvs) ∧ ks = kvs.map (fun p => DKey.t p.1) ∧ RepOs K F H ts (kvs.map (·.2)) (fun x => P x ∧ x ≠ a)))
  | .oi C ns ts, v, P => ∃ (a dx : Addr) (fvs : List (Str × V)), v = .ref a ∧ P a ∧ H a = some (.ins C dx fvs) ∧ ns = fvs.map (·.1) ∧ RepOs K F H ts (fvs.map (·.2)) (fun x => P x ∧ x ≠ a)
def RepOs (K : PySem.W.Frag) (F H : Hp) : List OT → List V → (Addr → Prop) → Prop
  | [], vs, _ => vs = []
  | t :: ts, vs, P => ∃ (v : V) (ws : List V) (P1 P2 : Addr → Prop), vs = v :: ws ∧ (∀ x, P1 x → P x) ∧ (∀ x, P2 x → P x ∧ ¬ P1 x) ∧ RepO K F H t v P1 ∧ RepOs K F H ts ws P2
end

section
variable {K : PySem.W.Frag} {F F' H H' : Hp}
mutual
theorem RepO.mono (e : Same F F') : ∀ {t : OT} {v : V} {P P' : Addr → Prop}, (∀ x, P x → P' x ∧ H' x = H x) → RepO K F H t v P → RepO K F' H' t v P'
  | .fz d, v, P, P', _, h => by
    unfold RepO at h ⊢
    exact h.mono e
  | .ol ts, v, P, P', k, h => by
    unfold RepO at h ⊢
    obtain ⟨a, vs, rfl, pa, ha, r⟩ := h
    exact ⟨a, vs, rfl, (k a pa).1, by rw [(k a pa).2]; exact ha, RepOs.mono e (fun x hx => ⟨⟨(k x hx.1).1, hx.2⟩, (k x hx.1).2⟩) r⟩
  | .od tk ks ts, v, P, P', k, h => by
    unfold RepO at h ⊢
    obtain ⟨a, rfl, pa, h⟩ := h
    refine ⟨a, rfl, (k a pa).1, ?_⟩
    rcases h with ⟨e0, kvs, ha, hk, r⟩ | ⟨e0, kvs, ha, hk, r⟩
    · exact .inl ⟨e0, kvs, by rw [(k a pa).2]; exact ha, hk, RepOs.mono e (fun x hx => ⟨⟨(k x hx.1).1, hx.2⟩, (k x hx.1).2⟩) r⟩
    · exact .inr ⟨e0, kvs, by rw [(k a pa).2]; exact ha, hk, RepOs.mono e (fun x hx => ⟨⟨(k x hx.1).1, hx.2⟩, (k x hx.1).2⟩) r⟩
  | .oi C ns ts, v, P, P', k, h => by
    unfold RepO at h ⊢
    obtain ⟨a, dx, fvs, rfl, pa, ha, hn, r⟩ := h
    exact ⟨a, dx, fvs, rfl, (k a pa).1, by rw [(k a pa).2]; exact ha, hn, RepOs.mono e (fun x hx => ⟨⟨(k x hx.1).1, hx.2⟩, (k x hx.1).2⟩) r⟩
theorem RepOs.mono (e : Same F F') : ∀ {ts : List OT} {vs : List V} {P P' : Addr → Prop}, (∀ x, P x → P' x ∧ H' x = H x) → RepOs K F H ts vs P → RepOs K F' H' ts vs P'
  | [], vs, P, P', _, h => by
    unfold RepOs at h ⊢
    exact h
  | t :: ts, vs, P, P', k, h => by
    unfold RepOs at h ⊢
    obtain ⟨v, ws, P1, P2, rfl, h1, h2, r1, r2⟩ := h
    exact ⟨v, ws, P1, P2, rfl, fun x hx => (k x (h1 x hx)).1, fun x hx => ⟨(k x (h2 x hx).1).1, (h2 x hx).2⟩, RepO.mono e (fun x hx => ⟨hx, (k x (h1 x hx)).2⟩) r1, RepOs.mono e (fun x hx => ⟨hx, (k x (h2 x hx).1).2⟩) r2⟩
end
mutual
/-- frozen: the tree's own cells stand in F' as they stand in H -/
theorem RepO.frz (e : Same F F') : ∀ {t : OT} {v : V} {P : Addr → Prop}, (∀ x, P x → ∀ o, H x = some o → F' x = some o) → RepO K F H t v P → Rep K F' v t.view
  | .fz d, v, P, _, h => by
    unfold RepO at h
    rw [OT.view]
    exact h.mono e
  | .ol ts, v, P, k, h => by
    unfold RepO at h
    obtain ⟨a, vs, rfl, pa, ha, r⟩ := h
    rw [OT.view]
    exact .lst (.inl (k a pa _ ha)) (RepOs.frz e (fun x hx => k x hx.1) r)
  | .od tk ks ts, v, P, k, h => by
    unfold RepO at h
    obtain ⟨a, rfl, pa, h⟩ := h
    rw [OT.view]
    rcases h with ⟨e0, kvs, ha, hk, r⟩ | ⟨e0, kvs, ha, hk, r⟩
    · subst hk; exact .dicK (k a pa _ ha) (RepOs.frz e (fun x hx => k x hx.1) r)
    · subst hk; exact .dicT (k a pa _ ha) (RepOs.frz e (fun x hx => k x hx.1) r)
  | .oi C ns ts, v, P, k, h => by
    unfold RepO at h
    obtain ⟨a, dx, fvs, rfl, pa, ha, hn, r⟩ := h
    rw [OT.view]
    subst hn
    exact .ins (k a pa _ ha) (RepOs.frz e (fun x hx => k x hx.1) r)
theorem RepOs.frz (e : Same F F') : ∀ {ts : List OT} {vs : List V} {P : Addr → Prop}, (∀ x, P x → ∀ o, H x = some o → F' x = some o) → RepOs K F H ts vs P → Reps K F' vs (OT.views ts)
  | [], vs, P, _, h => by
    unfold RepOs at h
    subst h
    rw [OT.views]
    exact .nil
  | t :: ts, vs, P, k, h => by
    unfold RepOs at h
    obtain ⟨v, ws, P1, P2, rfl, h1, h2, r1, r2⟩ := h
    rw [OT.views]
    exact .cons (RepO.frz e (fun x hx => k x (h1 x hx)) r1) (RepOs.frz e (fun x hx => k x (h2 x hx).1) r2)
end
/-- a list of frozen items -/
theorem repOs_fz : ∀ {ds : List D} {vs : List V} {P : Addr → Prop}, RepOs K F H (ds.map OT.fz) vs P → Reps K F vs ds
  | [], vs, P, h => by
    rw [List.map_nil] at h
    unfold RepOs at h
    subst h
    exact .nil
  | d :: ds, vs, P, h => by
    rw [List.map_cons] at h
    unfold RepOs at h
    obtain ⟨v, ws, P1, P2, rfl, h1, h2, r1, r2⟩ := h
    unfold RepO at r1
    exact .cons r1 (repOs_fz r2)
theorem repOs_of : ∀ {ds : List D} {vs : List V} (P : Addr → Prop), Reps K F vs ds → RepOs K F H (ds.map OT.fz) vs P
  | [], vs, P, h => by
    cases h
    rw [List.map_nil]
    unfold RepOs
    rfl
  | d :: ds, vs, P, h => by
    cases h with
    | cons h r =>
      rw [List.map_cons]
      unfold RepOs
      refine ⟨_, _, fun _ => False, P, rfl, fun x z => z.elim, fun x z => ⟨z, id⟩, ?_, repOs_of P r⟩
      unfold RepO
      exact h
theorem RepOs.length : ∀ {ts : List OT} {vs : List V} {P : Addr → Prop}, RepOs K F H ts vs P → vs.length = ts.length
  | [], vs, P, h => by
    unfold RepOs at h
    subst h; rfl
  | t :: ts, vs, P, h => by
    unfold RepOs at h
    obtain ⟨v, ws, P1, P2, rfl, h1, h2, r1, r2⟩ := h
    rw [List.length_cons, List.length_cons, RepOs.length r2]
end

/-! ### a frame's state -/
/-- a slot: nothing known; a tree; the tree of the j-th parameter that the caller goes on with -/
inductive S where
  | un
  | ow (t : OT)
  | pa (j : Nat)
structure SD where
  sl : List S
  pa : List OT

structure Own (K : PySem.W.Frag) (pv : List V) (G F : Hp) (sd : SD) (σ : St) (H : Hp) (o : Nat ⊕ Nat → Addr → Prop) : Prop where
  fh : Same F H
  gh : Same G H
  fg : ∀ a, F a ≠ none → G a = none
  oh : ∀ i a, o i a → H a ≠ none ∧ F a = none ∧ G a = none
  oo : ∀ i j a, o i a → o j a → i = j
  len : σ.length = sd.sl.length
  sl : ∀ (i : Nat) (t : OT), sd.sl[i]? = some (S.ow t) → ∃ v : V, σ[i]? = some (some v) ∧ RepO K F H t v (o (.inl i))
  sp : ∀ (i j : Nat), sd.sl[i]? = some (S.pa j) → ∃ v : V, pv[j]? = some v ∧ σ[i]? = some (some v)
  pr : ∀ (j : Nat) (t : OT), sd.pa[j]? = some t → ∃ v : V, pv[j]? = some v ∧ RepO K F H t v (o (.inr j))
def StR (K : PySem.W.Frag) (pv : List V) (G F : Hp) (sd : SD) (σ : St) (H : Hp) : Prop := ∃ o, Own K pv G F sd σ H o
/-- .. and one tree more, that no name reaches yet -/
def StR1 (K : PySem.W.Frag) (pv : List V) (G F : Hp) (sd : SD) (σ : St) (H : Hp) (v : V) (t : OT) : Prop :=
  ∃ o P, Own K pv G F sd σ H o ∧ RepO K F H t v P ∧ ∀ a, P a → H a ≠ none ∧ F a = none ∧ G a = none ∧ ∀ i, ¬ o i a

section
variable {K : PySem.W.Frag} {pv : List V} {G F F' H H' : Hp} {sd : SD} {σ : St} {o : Nat ⊕ Nat → Addr → Prop}
theorem Own.fresh (W : Own K pv G F sd σ H o) {p : Addr} (hp : H p = none) : F p = none ∧ G p = none ∧ ∀ i, ¬ o i p :=
  ⟨W.fh.free hp, W.gh.free hp, fun i q => (W.oh i p q).1 hp⟩
/-- the heap grows, F grows by what is new -/
theorem Own.grow (W : Own K pv G F sd σ H o) (h : Same H H') (f : Same F F') (fh : Same F' H') (fn : ∀ a, F' a ≠ none → F a ≠ none ∨ H a = none) : Own K pv G F' sd σ H' o where
  fh := fh
  gh := W.gh.trans h
  fg := fun a ha => by
    rcases fn a ha with z | z
    · exact W.fg a z
    · exact W.gh.free z
  oh := fun i a q => by
    obtain ⟨h1, h2, h3⟩ := W.oh i a q
    refine ⟨?_, ?_, h3⟩
    · cases e : H a with
      | none => exact absurd e h1
      | some u => rw [h _ _ e]; simp
    · cases e : F' a with
      | none => rfl
      | some u =>
        rcases fn a (by rw [e]; simp) with z | z
        · exact absurd h2 z
        · exact absurd z h1
  oo := W.oo
  len := W.len
  sl := fun i t e => by
    obtain ⟨v, h1, h2⟩ := W.sl i t e
    refine ⟨v, h1, h2.mono f fun x hx => ⟨hx, ?_⟩⟩
    have n := (W.oh _ x hx).1
    cases e : H x with
    | none => exact absurd e n
    | some u => exact h _ _ e
  sp := W.sp
  pr := fun j t e => by
    obtain ⟨v, h1, h2⟩ := W.pr j t e
    refine ⟨v, h1, h2.mono f fun x hx => ⟨hx, ?_⟩⟩
    have n := (W.oh _ x hx).1
    cases e : H x with
    | none => exact absurd e n
    | some u => exact h _ _ e
theorem StR.fh (s : StR K pv G F sd σ H) : Same F H := let ⟨_, W⟩ := s; W.fh
/-- a new object, frozen at once -/
theorem StR.new {p : Addr} {u : HO} (s : StR K pv G F sd σ H) (hp : H p = none) : StR K pv G (upd F p u) sd σ (upd H p u) := by
  obtain ⟨o, W⟩ := s
  have n := W.fresh hp
  refine ⟨o, W.grow (Same.upd hp) (Same.upd n.1) (fun a x e => ?_) fun a ha => ?_⟩
  · by_cases h : a = p
    · subst h; rw [upd_same] at e ⊢; exact e
    · rw [upd_ne h] at e ⊢; exact W.fh a x e
  · by_cases h : a = p
    · subst h; exact .inr hp
    · rw [upd_ne h] at ha; exact .inl ha
theorem StR.sameNew {p : Addr} {u : HO} (s : StR K pv G F sd σ H) (hp : H p = none) : Same F (upd F p u) := by
  obtain ⟨o, W⟩ := s
  exact Same.upd (W.fresh hp).1
/-- a new list, not frozen -/
theorem StR.newL {p : Addr} {vs : List V} {ds : List D} (s : StR K pv G F sd σ H) (hp : H p = none) (r : Reps K F vs ds) : StR1 K pv G F sd σ (upd H p (.lst vs)) (.ref p) (.ol (ds.map .fz)) := by
  obtain ⟨o, W⟩ := s
  have n := W.fresh hp
  refine ⟨o, fun x => x = p, W.grow (Same.upd hp) (Same.refl _) (fun a x e => ?_) (fun a ha => .inl ha), ?_, fun a ha => ?_⟩
  · rw [upd_ne (fun z => by rw [z, n.1] at e; cases e)]; exact W.fh a x e
  · unfold RepO
    exact ⟨p, vs, rfl, rfl, upd_same, repOs_of _ r⟩
  · subst ha
    exact ⟨by rw [upd_same]; simp, n.1, n.2.1, n.2.2⟩
/-- the tree is frozen -/
theorem StR1.frz {v : V} {t : OT} (s : StR1 K pv G F sd σ H v t) : ∃ F', Same F F' ∧ StR K pv G F' sd σ H ∧ Rep K F' v t.view := by
  classical
  obtain ⟨o, P, W, r, k⟩ := s
  let F' : Hp := fun a => if P a then H a else F a
  have f1 : Same F F' := fun a u e => by
    have : ¬ P a := fun z => by rw [(k a z).2.1] at e; cases e
    show (if P a then H a else F a) = some u
    rw [if_neg this]; exact e
  have f2 : Same F' H := fun a u e => by
    by_cases z : P a
    · have e : (if P a then H a else F a) = some u := e
      rw [if_pos z] at e; exact e
    · have e : (if P a then H a else F a) = some u := e
      rw [if_neg z] at e; exact W.fh a u e
  refine ⟨F', f1, ⟨o, ⟨f2, W.gh, fun a ha => ?_, fun i a q => ?_, W.oo, W.len, fun i t e => ?_, W.sp, fun j t e => ?_⟩⟩, r.frz f1 fun x hx u e => ?_⟩
  · by_cases z : P a
    · exact (k a z).2.2.1
    · have ha : (if P a then H a else F a) ≠ none := ha
      rw [if_neg z] at ha; exact W.fg a ha
  · have z : ¬ P a := fun z => (k a z).2.2.2 i q
    obtain ⟨h1, h2, h3⟩ := W.oh i a q
    refine ⟨h1, ?_, h3⟩
    show (if P a then H a else F a) = none
    rw [if_neg z]; exact h2
  · obtain ⟨v, h1, h2⟩ := W.sl i t e
    exact ⟨v, h1, h2.mono f1 fun x hx => ⟨hx, rfl⟩⟩
  · obtain ⟨v, h1, h2⟩ := W.pr j t e
    exact ⟨v, h1, h2.mono f1 fun x hx => ⟨hx, rfl⟩⟩
  · show (if P x then H x else F x) = some u
    rw [if_pos hx]; exact e
theorem StR1.drop {v : V} {t : OT} (s : StR1 K pv G F sd σ H v t) : StR K pv G F sd σ H := let ⟨o, _, W, _⟩ := s; ⟨o, W⟩
theorem StR1.fz {v : V} {d : D} (s : StR K pv G F sd σ H) (r : Rep K F v d) : StR1 K pv G F sd σ H v (.fz d) := by
  obtain ⟨o, W⟩ := s
  refine ⟨o, fun _ => False, W, ?_, fun a z => z.elim⟩
  unfold RepO; exact r
/-- the tree becomes slot i's -/
theorem StR1.store {v : V} {t : OT} {i : Nat} (s : StR1 K pv G F sd σ H v t) (hi : i < sd.sl.length) : StR K pv G F { sd with sl := sd.sl.set i (.ow t) } (σ.set i (some v)) H := by
  classical
  obtain ⟨o, P, W, r, k⟩ := s
  refine ⟨fun j a => if j = .inl i then P a else o j a, ⟨W.fh, W.gh, W.fg, fun j a q => ?_, fun j l a q q' => ?_, by simpa using W.len, fun j t' e => ?_, fun j l e => ?_, fun j t' e => ?_⟩⟩
  · by_cases z : j = .inl i
    · rw [if_pos z] at q; exact ⟨(k a q).1, (k a q).2.1, (k a q).2.2.1⟩
    · rw [if_neg z] at q; exact W.oh j a q
  · by_cases z : j = .inl i
    · rw [if_pos z] at q
      by_cases y : l = .inl i
      · rw [z, y]
      · rw [if_neg y] at q'; exact absurd q' ((k a q).2.2.2 l)
    · rw [if_neg z] at q
      by_cases y : l = .inl i
      · rw [if_pos y] at q'; exact absurd q ((k a q').2.2.2 j)
      · rw [if_neg y] at q'; exact W.oo j l a q q'
  · have hs : i < σ.length := by rw [W.len]; exact hi
    by_cases z : i = j
    · subst z
      have e : (sd.sl.set i (S.ow t))[i]? = some (S.ow t') := e
      rw [List.getElem?_set_self hi] at e
      cases e
      refine ⟨v, List.getElem?_set_self hs, ?_⟩
      exact r.mono (Same.refl _) fun x hx => ⟨by show (if Sum.inl i = Sum.inl i then P x else o (Sum.inl i) x); rw [if_pos rfl]; exact hx, rfl⟩
    · have e : (sd.sl.set i (S.ow t))[j]? = some (S.ow t') := e
      rw [List.getElem?_set_ne z] at e
      obtain ⟨w, h1, h2⟩ := W.sl j t' e
      refine ⟨w, by rw [List.getElem?_set_ne z]; exact h1, ?_⟩
      exact h2.mono (Same.refl _) fun x hx => ⟨by show (if Sum.inl j = Sum.inl i then P x else o (Sum.inl j) x); rw [if_neg (fun y => z (Sum.inl.inj y).symm)]; exact hx, rfl⟩
  · by_cases z : i = j
    · subst z
      have e : (sd.sl.set i (S.ow t))[i]? = some (S.pa l) := e
      rw [List.getElem?_set_self hi] at e
      cases e
    · have e : (sd.sl.set i (S.ow t))[j]? = some (S.pa l) := e
      rw [List.getElem?_set_ne z] at e
      obtain ⟨w, h1, h2⟩ := W.sp j l e
      exact ⟨w, h1, by rw [List.getElem?_set_ne z]; exact h2⟩
  · obtain ⟨w, h1, h2⟩ := W.pr j t' e
    exact ⟨w, h1, h2.mono (Same.refl _) fun x hx => ⟨by show (if Sum.inr j = Sum.inl i then P x else o (Sum.inr j) x); rw [if_neg (by intro y; cases y)]; exact hx, rfl⟩⟩
end
end DL

/-! DL1: the judgements over values: expressions (DX, DO), arguments (DA), tests (DT). -/
namespace DL
open PySem PySem.Spec L2

structure Exn where
  C : Addr
  fs : Option (List (Str × D))
/-- what an expression gives: a value and the state behind; an exception; nothing told -/
inductive ER (α : Type) where
  | ok (a : α) (sd : SD)
  | rz (x : Exn) (sd : SD)
  | bad
def ER.bind {α γ : Type} (r : ER α) (f : α → SD → ER γ) : ER γ :=
  match r with
  | .ok a sd => f a sd
  | .rz x sd => .rz x sd
  | .bad => .bad
def ER.opt {α : Type} (o : Option α) (sd : SD) : ER α :=
  match o with
  | some a => .ok a sd
  | none => .bad
theorem ER.bind_ok {α γ : Type} {a : α} {sd : SD} {f : α → SD → ER γ} : (ER.ok a sd).bind f = f a sd := rfl
theorem ER.bind_rz {α γ : Type} {x : Exn} {sd : SD} {f : α → SD → ER γ} : (ER.rz x sd : ER α).bind f = .rz x sd := rfl
theorem ER.bind_bad {α γ : Type} {f : α → SD → ER γ} : (ER.bad : ER α).bind f = .bad := rfl
theorem ER.opt_some {α : Type} {a : α} {sd : SD} : ER.opt (some a) sd = .ok a sd := rfl
theorem ER.opt_none {α : Type} {sd : SD} : ER.opt (none : Option α) sd = .bad := rfl

def RepX (K : PySem.W.Frag) (F : Hp) (cls : Value) (dd : Option Addr) (x : Exn) : Prop :=
  cls = .ref x.C ∧ match x.fs with
  | none => dd = none
  | some l => ∃ (d : Addr) (fvs : List (Str × V)), dd = some d ∧ F d = some (.xd fvs) ∧ fvs.map (·.1) = l.map (·.1) ∧ Reps K F (fvs.map (·.2)) (l.map (·.2))
theorem RepX.mono {K : PySem.W.Frag} {F F' : Hp} {cls : Value} {dd : Option Addr} {x : Exn} (e : Same F F') (h : RepX K F cls dd x) : RepX K F' cls dd x := by
  obtain ⟨h1, h2⟩ := h
  refine ⟨h1, ?_⟩
  revert h2
  cases x.fs with
  | none => exact id
  | some l => exact fun ⟨d, fvs, a, b, c, r⟩ => ⟨d, fvs, a, e _ _ b, c, r.mono e⟩

/-- a result's relation: G, F, the state, the heap, the slots, what lies there, what is meant -/
abbrev RSt (β α : Type) := Hp → Hp → SD → Hp → L2.St → β → α → Prop
def Meets {α β : Type} (K : PySem.W.Frag) (pv : List V) (W : WX) (G : Hp) (σ : L2.St) (RS : RSt β α) (p : Bool) (sd : SD) (F H : Hp) (r : ER α) (Q : β → Hp → Prop) (P : Prop) : Prop :=
  match r with
  | .ok a sd' => (∀ v F' H', Same F F' → StR K pv G F' sd' σ H' → RS G F' sd' H' σ v a → (p = true → Same H H' ∧ sd' = sd) → Q v H') → P
  | .rz x sd' => (∀ cls dd F' H', Same F F' → StR K pv G F' sd' σ H' → RepX K F' cls dd x → W cls dd σ H') → P
  | .bad => True

section
variable {α β γ δ : Type} {K : PySem.W.Frag} {pv : List V} {W : WX} {G F H : Hp} {σ : L2.St} {sd : SD} {p q : Bool}
theorem Meets.bind {RS : RSt β α} {RS' : RSt δ γ} {r : ER α} {f : α → SD → ER γ} {Q : δ → Hp → Prop} {k : β → Hp → Prop} {P : Prop} (h : Meets K pv W G σ RS p sd F H r k P)
    (g : ∀ v F1 H1 a sd1, Same F F1 → StR K pv G F1 sd1 σ H1 → RS G F1 sd1 H1 σ v a → (p = true → Same H H1 ∧ sd1 = sd) → Meets K pv W G σ RS' q sd1 F1 H1 (f a sd1) Q (k v H1)) :
    Meets K pv W G σ RS' (p && q) sd F H (r.bind f) Q P := by
  cases r with
  | bad => exact True.intro
  | rz x sd' => exact h
  | ok a sd1 =>
    show Meets K pv W G σ RS' (p && q) sd F H (f a sd1) Q P
    have h' : (∀ v F' H', Same F F' → StR K pv G F' sd1 σ H' → RS G F' sd1 H' σ v a → (p = true → Same H H' ∧ sd1 = sd) → k v H') → P := h
    have g' := fun v F1 H1 s1 s2 s3 s4 => g v F1 H1 a sd1 s1 s2 s3 s4
    revert g'
    cases f a sd1 with
    | bad => exact fun _ => True.intro
    | rz x sd2 =>
      intro g' hW
      refine h' fun v F1 H1 s1 s2 s3 s4 => ?_
      exact g' v F1 H1 s1 s2 s3 s4 fun cls dd F2 H2 t1 t2 t3 => hW cls dd F2 H2 (s1.trans t1) t2 t3
    | ok c sd2 =>
      intro g' hQ
      refine h' fun v F1 H1 s1 s2 s3 s4 => ?_
      refine g' v F1 H1 s1 s2 s3 s4 fun w F2 H2 t1 t2 t3 t4 => hQ w F2 H2 (s1.trans t1) t2 t3 fun z => ?_
      rw [Bool.and_eq_true] at z
      obtain ⟨a1, a2⟩ := s4 z.1
      obtain ⟨b1, b2⟩ := t4 z.2
      exact ⟨a1.trans b1, b2.trans a2⟩
/-- the same value another way -/
theorem Meets.imp {f : α → γ} {RS : RSt β α} {RS' : RSt δ γ} {r : ER α} {r' : ER γ} {Q : δ → Hp → Prop} {k : β → Hp → Prop} {P P' : Prop} (h : Meets K pv W G σ RS p sd F H r k P) (hP : P → P')
    (hr : r' = r.bind (fun a sd1 => .ok (f a) sd1)) (g : ∀ v F1 H1 a sd1, r = .ok a sd1 → Same F F1 → StR K pv G F1 sd1 σ H1 → RS G F1 sd1 H1 σ v a → (p = true → Same H H1 ∧ sd1 = sd) → (∀ w F2 H2, Same F1 F2 → StR K pv G F2 sd1 σ H2 → RS' G F2 sd1 H2 σ w (f a) → Same H1 H2 → Q w H2) → k v H1) :
    Meets K pv W G σ RS' p sd F H r' Q P' := by
  subst hr
  cases r with
  | bad => exact True.intro
  | rz x sd' => exact fun hW => hP (h hW)
  | ok a sd1 =>
    intro hQ
    refine hP (h fun v F1 H1 s1 s2 s3 s4 => g v F1 H1 a sd1 rfl s1 s2 s3 s4 fun w F2 H2 t1 t2 t3 t4 => hQ w F2 H2 (s1.trans t1) t2 t3 fun z => ?_)
    obtain ⟨a1, a2⟩ := s4 z
    exact ⟨a1.trans t4, a2⟩
/-- an answer at once -/
theorem Meets.here {RS : RSt β α} {a : α} {v : β} {Q : β → Hp → Prop} {P : Prop} (s : StR K pv G F sd σ H) (r : RS G F sd H σ v a) (hP : Q v H → P) : Meets K pv W G σ RS p sd F H (.ok a sd) Q P :=
  fun hQ => hP (hQ v F H (Same.refl _) s r fun _ => ⟨Same.refl _, rfl⟩)
end

/-- k: frozen; else to be read in the heap as it stands -/
def RSx (K : PySem.W.Frag) (k : Bool) : RSt V D := fun _ F _ H _ v d => Rep K (if k = true then F else H) v d
def RSo (K : PySem.W.Frag) (pv : List V) : RSt V OT := fun G F sd H σ v t => StR1 K pv G F sd σ H v t
def RSl (K : PySem.W.Frag) (k : Bool) : RSt (List V) (List D) := fun _ F _ H _ vs ds => Reps K (if k = true then F else H) vs ds
def RSb : RSt Bool Bool := fun _ _ _ _ _ b c => b = c

def TrX (K : PySem.W.Frag) (pv : List V) (W : WX) (p k : Bool) (te : TE) (m : SD → ER D) : Prop := ∀ G F sd σ H Q, StR K pv G F sd σ H → Meets K pv W G σ (RSx K k) p sd F H (m sd) Q (te σ H Q)
def TrO (K : PySem.W.Frag) (pv : List V) (W : WX) (p : Bool) (te : TE) (m : SD → ER OT) : Prop := ∀ G F sd σ H Q, StR K pv G F sd σ H → Meets K pv W G σ (RSo K pv) p sd F H (m sd) Q (te σ H Q)
def TrA (K : PySem.W.Frag) (pv : List V) (W : WX) (p k : Bool) (ta : TA) (m : SD → ER (List D)) : Prop := ∀ G F sd σ H Q, StR K pv G F sd σ H → Meets K pv W G σ (RSl K k) p sd F H (m sd) Q (ta σ H Q)
def TrT (K : PySem.W.Frag) (pv : List V) (W : WX) (p : Bool) (tt : TT) (m : SD → ER Bool) : Prop := ∀ G F sd σ H Q, StR K pv G F sd σ H → Meets K pv W G σ RSb p sd F H (m sd) Q (tt σ H Q)

/-- an expression: p: it changes nothing; k: its value is frozen -/
structure DX (X : Cx) (pv : List V) (W : WX) (p k : Bool) (e : Expr) (m : SD → ER D) : Prop where
  ex : ∃ te, PE X e te ∧ TrX X.K pv W p k te m
/-- an expression whose value is new -/
structure DO (X : Cx) (pv : List V) (W : WX) (p : Bool) (e : Expr) (m : SD → ER OT) : Prop where
  ex : ∃ te, PE X e te ∧ TrO X.K pv W p te m
structure DA (X : Cx) (pv : List V) (W : WX) (p k : Bool) (es : List Expr) (m : SD → ER (List D)) : Prop where
  ex : ∃ ta, PA X es ta ∧ TrA X.K pv W p k ta m
structure DT (X : Cx) (pv : List V) (W : WX) (p : Bool) (e : Expr) (m : SD → ER Bool) : Prop where
  ex : ∃ tt, PT X e tt ∧ TrT X.K pv W p tt m
/-- and, or -/
structure DW (X : Cx) (pv : List V) (W : WX) (p : Bool) (e : Expr) (m : SD → ER Bool) : Prop where
  ex : ∃ tt, PW X e tt ∧ TrT X.K pv W p tt m

/-! ### the words of a mirror -/
def mVar (i : Nat) : SD → ER D := fun sd => match sd.sl[i]? with
  | some (.ow (.fz d)) => .ok d sd
  | _ => .bad
/-- what stands there, to be read at once -/
def mSee (i : Nat) : SD → ER D := fun sd => match sd.sl[i]? with
  | some (.ow t) => .ok t.view sd
  | some (.pa j) => ER.opt ((sd.pa[j]?).map OT.view) sd
  | _ => .bad
/-- what stands there, never changed from now on -/
def mFrz (i : Nat) : SD → ER D := fun sd => match sd.sl[i]? with
  | some (.ow t) => .ok t.view { sd with sl := sd.sl.set i (.ow (.fz t.view)) }
  | _ => .bad
/-- what stands there, taken away -/
def mTake (i : Nat) : SD → ER OT := fun sd => match sd.sl[i]? with
  | some (.ow t) => .ok t { sd with sl := sd.sl.set i .un }
  | _ => .bad
def mC (d : D) : SD → ER D := fun sd => .ok d sd
def mUn (f : D → Option D) (a : SD → ER D) : SD → ER D := fun sd => (a sd).bind fun x sd1 => ER.opt (f x) sd1
def mOp (f : D → D → Option D) (a b : SD → ER D) : SD → ER D := fun sd => (a sd).bind fun x sd1 => (b sd1).bind fun y sd2 => ER.opt (f x y) sd2
def mNil : SD → ER (List D) := fun sd => .ok [] sd
def mCons (a : SD → ER D) (r : SD → ER (List D)) : SD → ER (List D) := fun sd => (a sd).bind fun x sd1 => (r sd1).bind fun xs sd2 => .ok (x :: xs) sd2
def mCall (f : List D → Option D) (a : SD → ER (List D)) : SD → ER D := fun sd => (a sd).bind fun xs sd1 => ER.opt (f xs) sd1
def mCallO (f : List D → Option OT) (a : SD → ER (List D)) : SD → ER OT := fun sd => (a sd).bind fun xs sd1 => ER.opt (f xs) sd1
def mTup (a : SD → ER (List D)) : SD → ER D := fun sd => (a sd).bind fun xs sd1 => if xs.length ≤ 16777216 then .ok (.tup xs) sd1 else .bad
def mLst (a : SD → ER (List D)) : SD → ER OT := fun sd => (a sd).bind fun xs sd1 => if xs.length ≤ 16777216 then .ok (.ol (xs.map .fz)) sd1 else .bad
def mView (a : SD → ER OT) : SD → ER D := fun sd => (a sd).bind fun t sd1 => .ok t.view sd1
def mOwn (a : SD → ER D) : SD → ER OT := fun sd => (a sd).bind fun d sd1 => .ok (.fz d) sd1
def mTest (a : SD → ER D) : SD → ER Bool := fun sd => (a sd).bind fun x sd1 => match x with
  | .bl b => .ok b sd1
  | _ => .bad
def mAnd (a b : SD → ER Bool) : SD → ER Bool := fun sd => (a sd).bind fun x sd1 => if x = true then b sd1 else .ok false sd1
def mOr (a b : SD → ER Bool) : SD → ER Bool := fun sd => (a sd).bind fun x sd1 => if x = true then .ok true sd1 else b sd1
def mNot (a : SD → ER Bool) : SD → ER Bool := fun sd => (a sd).bind fun x sd1 => .ok (!x) sd1
def mIf (c : SD → ER Bool) (a b : SD → ER D) : SD → ER D := fun sd => (c sd).bind fun x sd1 => if x = true then a sd1 else b sd1
def mB (a : SD → ER Bool) : SD → ER D := fun sd => (a sd).bind fun x sd1 => .ok (.bl x) sd1

section
variable {X : Cx} {pv : List V} {W : WX} {p q k l : Bool} {e a b : Expr} {es : List Expr}

theorem RSx.see {K : PySem.W.Frag} {k : Bool} {G F H : Hp} {sd : SD} {σ : L2.St} {v : V} {d : D} (r : RSx K k G F sd H σ v d) (s : StR K pv G F sd σ H) : Rep K H v d := by
  unfold RSx at r
  cases k with
  | true => exact Rep.mono s.fh r
  | false => exact r
theorem RSl.see {K : PySem.W.Frag} {k : Bool} {G F H : Hp} {sd : SD} {σ : L2.St} {v : List V} {d : List D} (r : RSl K k G F sd H σ v d) (s : StR K pv G F sd σ H) : Reps K H v d := by
  unfold RSl at r
  cases k with
  | true => exact Reps.mono s.fh r
  | false => exact r
/-- a frozen value may be seen -/
theorem DX.see {m : SD → ER D} (h : DX X pv W p true e m) : DX X pv W p false e m := by
  obtain ⟨te, h1, h2⟩ := h
  refine ⟨te, h1, fun G F sd σ H Q s => ?_⟩
  have z := h2 G F sd σ H Q s
  revert z
  cases m sd with
  | bad => exact id
  | rz x sd1 => exact id
  | ok d sd1 => exact fun z hQ => z fun v F1 H1 s1 s2 s3 s4 => hQ v F1 H1 s1 s2 (RSx.see s3 s2) s4
theorem DO.frz {m : SD → ER OT} (h : DO X pv W p e m) : DX X pv W p true e (mView m) := by
  obtain ⟨te, h1, h2⟩ := h
  refine ⟨te, h1, fun G F sd σ H Q s => ?_⟩
  refine Meets.imp (f := OT.view) (h2 G F sd σ H Q s) id rfl fun v F1 H1 t sd1 _ s1 s2 s3 s4 hQ => ?_
  obtain ⟨F2, t1, t2, t3⟩ := StR1.frz s3
  exact hQ v F2 H1 t1 t2 t3 (Same.refl _)
theorem DO.see {m : SD → ER OT} (h : DO X pv W p e m) : DX X pv W p false e (mView m) := h.frz.see
theorem DX.own {m : SD → ER D} (h : DX X pv W p true e m) : DO X pv W p e (mOwn m) := by
  obtain ⟨te, h1, h2⟩ := h
  refine ⟨te, h1, fun G F sd σ H Q s => ?_⟩
  refine Meets.imp (f := OT.fz) (h2 G F sd σ H Q s) id rfl fun v F1 H1 t sd1 _ s1 s2 s3 s4 hQ => ?_
  exact hQ v F1 H1 (Same.refl _) s2 (StR1.fz s2 s3) (Same.refl _)

/-! ### names, constants -/
theorem dx_var {i : Nat} {x : Str} {pos : Pos} (h : PE X (.Name x pos) (tVar i)) : DX X pv W true true (.Name x pos) (mVar i) := by
  refine ⟨_, h, fun G F sd σ H Q s => ?_⟩
  unfold mVar
  split
  · rename_i d e
    obtain ⟨o, w⟩ := id s
    obtain ⟨v, h1, h2⟩ := w.sl i _ e
    unfold RepO at h2
    exact Meets.here s (show RSx X.K true G F sd H σ v d from h2) fun q => ⟨v, h1, q⟩
  · exact True.intro
theorem dx_see {i : Nat} {x : Str} {pos : Pos} (h : PE X (.Name x pos) (tVar i)) : DX X pv W true false (.Name x pos) (mSee i) := by
  refine ⟨_, h, fun G F sd σ H Q s => ?_⟩
  unfold mSee
  split
  · rename_i t e
    obtain ⟨o, w⟩ := id s
    obtain ⟨v, h1, h2⟩ := w.sl i _ e
    exact Meets.here s (show RSx X.K false G F sd H σ v t.view from h2.frz w.fh fun _ _ _ z => z) fun q => ⟨v, h1, q⟩
  · rename_i j e
    obtain ⟨o, w⟩ := id s
    obtain ⟨v, h1, h2⟩ := w.sp i j e
    cases e2 : sd.pa[j]? with
    | none => exact True.intro
    | some t =>
      obtain ⟨v', h3, h4⟩ := w.pr j t e2
      rw [h1] at h3; cases h3
      exact Meets.here s (show RSx X.K false G F sd H σ v t.view from h4.frz w.fh fun _ _ _ z => z) fun q => ⟨v, h2, q⟩
  · exact True.intro
theorem dx_c {v : V} {d : D} (h : PE X e (tC v)) (r : ∀ F, Rep X.K F v d) : DX X pv W true true e (mC d) :=
  ⟨_, h, fun G F sd σ H Q s => Meets.here s (r F) id⟩
theorem dx_int {i : Int} {j : Nat} {pos : Pos} : DX X pv W true true (.Constant (.int i) j pos) (mC (.int i)) := dx_c pe_int fun _ => .int i
theorem dx_bl {b : Bool} {j : Nat} {pos : Pos} : DX X pv W true true (.Constant (.bool b) j pos) (mC (.bl b)) := dx_c pe_bl fun _ => .bl b
theorem dx_non {j : Nat} {pos : Pos} : DX X pv W true true (.Constant .none j pos) (mC .non) := dx_c pe_non fun _ => .non
theorem dx_str {x : Str} {j : Nat} {pos : Pos} : DX X pv W true true (.Constant (.str x) j pos) (mC (.str x)) := dx_c pe_str fun _ => .str x

/-! ### operators by values -/
/-- a flat value has its own V -/
def D.sc : D → Option V
  | .non => some .non
  | .bl b => some (.bl b)
  | .int i => some (.int i)
  | .str x => some (.str x)
  | .ty n => some (.ty n)
  | .cls C => some (.ref C)
  | _ => none
theorem Rep.sc {K : PySem.W.Frag} {F : Hp} {d : D} {v : V} (h : d.sc = some v) : Rep K F v d := by
  cases d <;> simp only [D.sc, Option.some.injEq, reduceCtorEq] at h <;> subst h <;> constructor
/-- an operator that gives a flat value -/
def Op2S (K : PySem.W.Frag) (r : R2) (f : D → D → Option D) : Prop := ∀ H x y a b c, Rep K H x a → Rep K H y b → f a b = some c → ∃ v, c.sc = some v ∧ ∀ Q : VK, Q v H → r x y H Q
theorem tr_op2 {r : R2} {f : D → D → Option D} {ta tb : TE} {ma mb : SD → ER D} (hf : Op2S X.K r f) (ha : TrX X.K pv W p k ta ma) (hb : TrX X.K pv W q l tb mb) (hk : (k || q) = true) : TrX X.K pv W (p && q) true (tOp r ta tb) (mOp f ma mb) := by
  intro G F sd σ H Q s
  refine Meets.bind (ha G F sd σ H _ s) fun x F1 H1 dx sd1 s1 s2 s3 s4 => ?_
  have hq : q = (q && true) := by cases q <;> rfl
  rw [hq]
  refine Meets.bind (hb G F1 sd1 σ H1 _ s2) fun y F2 H2 dy sd2 t1 t2 t3 t4 => ?_
  have rx : Rep X.K H2 x dx := by
    cases k with
    | true => exact Rep.mono t2.fh (Rep.mono t1 s3)
    | false => exact Rep.mono (t4 (by simpa using hk)).1 s3
  cases e : f dx dy with
  | none => exact True.intro
  | some c =>
    obtain ⟨v, h1, h2⟩ := hf H2 x y dx dy c rx (RSx.see t3 t2) e
    exact Meets.here t2 (show RSx X.K true G F2 sd2 H2 σ v c from Rep.sc h1) (h2 Q)
theorem dx_op2 {op : Operator} {r : R2} {f : D → D → Option D} {pos : Pos} {ma mb : SD → ER D} (ho : OpR X (binaryOp op) r) (hf : Op2S X.K r f) (ha : DX X pv W p k a ma) (hb : DX X pv W q l b mb) (hk : (k || q) = true := by rfl) :
    DX X pv W (p && q) true (.BinOp a op b pos) (mOp f ma mb) := by
  obtain ⟨ta, a1, a2⟩ := ha
  obtain ⟨tb, b1, b2⟩ := hb
  exact ⟨_, pe_op ho a1 b1, tr_op2 hf a2 b2 hk⟩
theorem dx_cmp {op : CmpOp} {r : R2} {f : D → D → Option D} {pos : Pos} {ma mb : SD → ER D} (ho : OpR X (compareOp op) r) (hf : Op2S X.K r f) (ha : DX X pv W p k a ma) (hb : DX X pv W q l b mb) (hm : behindInMarks op b = false) (hk : (k || q) = true := by rfl) :
    DX X pv W (p && q) true (.Compare a [op] [b] pos) (mOp f ma mb) := by
  obtain ⟨ta, a1, a2⟩ := ha
  obtain ⟨tb, b1, b2⟩ := hb
  exact ⟨_, pe_cmpR ho a1 b1 hm, tr_op2 hf a2 b2 hk⟩
theorem tr_test {te : TE} {m : SD → ER D} (h : TrX X.K pv W p k te m) : TrT X.K pv W p (tTest te) (mTest m) := by
  intro G F sd σ H Q s
  have hp : p = (p && true) := by cases p <;> rfl
  rw [hp]
  refine Meets.bind (h G F sd σ H _ s) fun x F1 H1 dx sd1 s1 s2 s3 s4 => ?_
  have r := RSx.see s3 s2
  cases dx with
  | bl b =>
    cases r
    exact Meets.here s2 (show RSb G F1 sd1 H1 σ b b from rfl) fun q => ⟨b, rfl, q⟩
  | _ => exact True.intro
theorem dt_cmp {op : CmpOp} {r : R2} {f : D → D → Option D} {pos : Pos} {ma mb : SD → ER D} (ho : OpR X (compareOp op) r) (hf : Op2S X.K r f) (ha : DX X pv W p k a ma) (hb : DX X pv W q l b mb) (hm : behindInMarks op b = false) (hk : (k || q) = true := by rfl) :
    DT X pv W (p && q) (.Compare a [op] [b] pos) (mTest (mOp f ma mb)) := by
  obtain ⟨ta, a1, a2⟩ := ha
  obtain ⟨tb, b1, b2⟩ := hb
  exact ⟨_, pt_cmpR ho a1 b1 hm, tr_test (tr_op2 hf a2 b2 hk)⟩
/-- an expression that gives True or False, as a test -/
theorem dt_val {m : SD → ER D} (h : DX X pv W p k e m) (he : ∀ whole, isTrue e X.env whole = (do let v ← whole; standAt e.pos; holding [v] (truthy v)) := by intro _; rfl) : DT X pv W p e (mTest m) := by
  obtain ⟨te, a1, a2⟩ := h
  exact ⟨_, pt_val a1 he, tr_test a2⟩
theorem DW.dt {m : SD → ER Bool} (h : DW X pv W p e m) : DT X pv W p e m := by
  obtain ⟨tt, a1, a2⟩ := h
  exact ⟨tt, a1.pt, a2⟩
theorem tr_not {tt : TT} {m : SD → ER Bool} (h : TrT X.K pv W p tt m) : TrT X.K pv W p (tNot tt) (mNot m) := by
  intro G F sd σ H Q s
  have hp : p = (p && true) := by cases p <;> rfl
  rw [hp]
  refine Meets.bind (h G F sd σ H _ s) fun x F1 H1 dx sd1 s1 s2 s3 s4 => ?_
  exact Meets.here s2 (show RSb G F1 sd1 H1 σ (!x) (!dx) from congrArg _ s3) id
theorem dt_not {pos : Pos} {m : SD → ER Bool} (h : DT X pv W p e m) : DT X pv W p (.UnaryOp .Not e pos) (mNot m) := by
  obtain ⟨tt, a1, a2⟩ := h
  exact ⟨_, pt_not a1, tr_not a2⟩
theorem tr_and {t u : TT} {ma mb : SD → ER Bool} (h : TrT X.K pv W p t ma) (h2 : TrT X.K pv W q u mb) : TrT X.K pv W (p && q) (tAnd t u) (mAnd ma mb) := by
  intro G F sd σ H Q s
  refine Meets.bind (h G F sd σ H _ s) fun x F1 H1 dx sd1 s1 s2 s3 s4 => ?_
  have s3 : x = dx := s3
  subst s3
  cases x with
  | true => exact h2 G F1 sd1 σ H1 Q s2
  | false => exact Meets.here s2 (show RSb G F1 sd1 H1 σ false false from rfl) id
theorem tr_or {t u : TT} {ma mb : SD → ER Bool} (h : TrT X.K pv W p t ma) (h2 : TrT X.K pv W q u mb) : TrT X.K pv W (p && q) (tOr t u) (mOr ma mb) := by
  intro G F sd σ H Q s
  refine Meets.bind (h G F sd σ H _ s) fun x F1 H1 dx sd1 s1 s2 s3 s4 => ?_
  have s3 : x = dx := s3
  subst s3
  cases x with
  | false => exact h2 G F1 sd1 σ H1 Q s2
  | true => exact Meets.here s2 (show RSb G F1 sd1 H1 σ true true from rfl) id
theorem dw_and1 {pos : Pos} {m : SD → ER Bool} (h : DT X pv W p a m) : DW X pv W p (.BoolOp .And [a] pos) m := by
  obtain ⟨tt, a1, a2⟩ := h
  exact ⟨tt, pw_and1 a1, a2⟩
theorem dw_or1 {pos : Pos} {m : SD → ER Bool} (h : DT X pv W p a m) : DW X pv W p (.BoolOp .Or [a] pos) m := by
  obtain ⟨tt, a1, a2⟩ := h
  exact ⟨tt, pw_or1 a1, a2⟩
theorem dw_and {pos : Pos} {ma mb : SD → ER Bool} (h : DT X pv W p a ma) (h2 : DW X pv W q (.BoolOp .And (b :: es) pos) mb) : DW X pv W (p && q) (.BoolOp .And (a :: b :: es) pos) (mAnd ma mb) := by
  obtain ⟨t, a1, a2⟩ := h
  obtain ⟨u, b1, b2⟩ := h2
  exact ⟨_, pw_and a1 b1, tr_and a2 b2⟩
theorem dw_or {pos : Pos} {ma mb : SD → ER Bool} (h : DT X pv W p a ma) (h2 : DW X pv W q (.BoolOp .Or (b :: es) pos) mb) : DW X pv W (p && q) (.BoolOp .Or (a :: b :: es) pos) (mOr ma mb) := by
  obtain ⟨t, a1, a2⟩ := h
  obtain ⟨u, b1, b2⟩ := h2
  exact ⟨_, pw_or a1 b1, tr_or a2 b2⟩

/-! ### argument lists, displays -/
theorem da_nil : DA X pv W true true [] mNil := ⟨_, pa_nil, fun G F sd σ H Q s => Meets.here s (show RSl X.K true G F sd H σ [] [] from .nil) id⟩
theorem da_cons {ma : SD → ER D} {mr : SD → ER (List D)} (ha : DX X pv W p k e ma) (hr : DA X pv W q l es mr) (hk : (k || q) = true := by rfl) (hs : starEach (e :: es) X.env = (false, eval e X.env) :: starEach es X.env := by rfl) : DA X pv W (p && q) (k && l) (e :: es) (mCons ma mr) := by
  obtain ⟨te, a1, a2⟩ := ha
  obtain ⟨tr, b1, b2⟩ := hr
  refine ⟨_, pa_cons a1 b1 hs, fun G F sd σ H Q s => ?_⟩
  refine Meets.bind (a2 G F sd σ H _ s) fun x F1 H1 dx sd1 s1 s2 s3 s4 => ?_
  have hq : q = (q && true) := by cases q <;> rfl
  rw [hq]
  refine Meets.bind (b2 G F1 sd1 σ H1 _ s2) fun xs F2 H2 ds sd2 t1 t2 t3 t4 => ?_
  refine Meets.here t2 (show RSl X.K (k && l) G F2 sd2 H2 σ (x :: xs) (dx :: ds) from ?_) id
  show Reps X.K (if (k && l) = true then F2 else H2) (x :: xs) (dx :: ds)
  cases k with
  | true =>
    have r : Rep X.K F2 x dx := Rep.mono t1 s3
    cases l with
    | true => exact .cons r t3
    | false => exact .cons (Rep.mono t2.fh r) t3
  | false => exact .cons (Rep.mono (t4 (by simpa using hk)).1 s3) (RSl.see t3 t2)
theorem dx_tup {x1 : Nat} {pos : Pos} {m : SD → ER (List D)} (h : DA X pv W p true es m) : DX X pv W p true (.Tuple es x1 pos) (mTup m) := by
  obtain ⟨ta, a1, a2⟩ := h
  refine ⟨_, pe_tup a1, fun G F sd σ H Q s => ?_⟩
  have hp : p = (p && true) := by cases p <;> rfl
  rw [hp]
  refine Meets.bind (a2 G F sd σ H _ s) fun vs F1 H1 ds sd1 s1 s2 s3 s4 => ?_
  split
  · rename_i hl
    intro hQ
    refine ⟨by rw [Reps.length s3, sizeLine_eq]; exact hl, fun p hp => ?_⟩
    exact hQ _ _ _ (s2.sameNew hp) (s2.new hp) (.tup (.inl (.inl upd_same)) (Reps.mono (s2.sameNew hp) s3)) fun _ => ⟨Same.upd hp, rfl⟩
  · exact True.intro
theorem do_lst {pos : Pos} {m : SD → ER (List D)} (h : DA X pv W p true es m) : DO X pv W p (.List es pos) (mLst m) := by
  obtain ⟨ta, a1, a2⟩ := h
  refine ⟨_, pe_lst a1, fun G F sd σ H Q s => ?_⟩
  have hp : p = (p && true) := by cases p <;> rfl
  rw [hp]
  refine Meets.bind (a2 G F sd σ H _ s) fun vs F1 H1 ds sd1 s1 s2 s3 s4 => ?_
  split
  · rename_i hl
    intro hQ
    refine ⟨by rw [Reps.length s3, sizeLine_eq]; exact hl, fun p hp => ?_⟩
    have z := s2.newL hp s3
    exact hQ _ _ _ (Same.refl _) z.drop z fun _ => ⟨Same.upd hp, rfl⟩
  · exact True.intro

/-! ### conditional expressions -/
theorem dx_if {c : Expr} {pos : Pos} {mc : SD → ER Bool} {ma mb : SD → ER D} {q' : Bool} (hc : DT X pv W p c mc) (ha : DX X pv W q k a ma) (hb : DX X pv W q' k b mb) : DX X pv W (p && (q && q')) k (.IfExp c a b pos) (mIf mc ma mb) := by
  obtain ⟨tc, c1, c2⟩ := hc
  obtain ⟨ta, a1, a2⟩ := ha
  obtain ⟨tb, b1, b2⟩ := hb
  refine ⟨_, pe_ifExp c1 a1 b1, fun G F sd σ H Q s => ?_⟩
  refine Meets.bind (c2 G F sd σ H _ s) fun x F1 H1 dx sd1 s1 s2 s3 s4 => ?_
  have s3 : x = dx := s3
  subst s3
  have wk : ∀ {p' : Bool} {r : ER D} {P : Prop}, ((q && q') = true → p' = true) → Meets X.K pv W G σ (RSx X.K k) p' sd1 F1 H1 r Q P → Meets X.K pv W G σ (RSx X.K k) (q && q') sd1 F1 H1 r Q P := fun {p' r P} hpp z => by
    revert z
    cases r with
    | bad => exact id
    | rz y sd2 => exact id
    | ok d sd2 => exact fun z hQ => z fun v F2 H2 t1 t2 t3 t4 => hQ v F2 H2 t1 t2 t3 fun w => t4 (hpp w)
  cases x with
  | true => exact wk (fun z => (Bool.and_eq_true _ _ ▸ z : q = true ∧ q' = true).1) (a2 G F1 sd1 σ H1 Q s2)
  | false => exact wk (fun z => (Bool.and_eq_true _ _ ▸ z : q = true ∧ q' = true).2) (b2 G F1 sd1 σ H1 Q s2)
end

/-! ### defs called where no text of a list is under way (so that repr may be walked) -/
open PyProof.Rows (envOfC IntsAre AllBare)
/-- room for calls, and no guard on the stack -/
structure RoomG (k : Nat) (A : Around) : Prop where
  r : Room k A
  g : A.guards = some []
section
variable {j k : Nat} {A : Around}
theorem RoomG.mono (x : RoomG k A) (h : j ≤ k) : RoomG j A := ⟨x.r.mono h, x.g⟩
theorem RoomG.in1 (x : RoomG (k + 1) A) : RoomG k A.in1 := ⟨x.r.in1, x.g⟩
theorem RoomG.deeper (x : RoomG (k + 1) A) (env : Env) : RoomG k (A.deeper env) := ⟨x.r.deeper env, x.g⟩
theorem RoomG.make (x : RoomG (k + 1) A) (C : Addr) (us : List Value) (kw : List (Str × Value)) : RoomG k (A.under (.builtin "type.__call__" ⟨.ref C :: us, kw⟩)) := ⟨x.r.make C us kw, by
  have e := x.g
  first | exact e | (simp [Around.under, Code.isGuard, guardIds, e])⟩
theorem RoomG.units (x : RoomG k A) : A.units + 64 < cLine := x.r.units
theorem RoomG.units0 (x : RoomG k A) : A.units < cLine := x.r.units0
theorem RoomG.un (x : RoomG k A) : A.units + 16 * k + 200 < cLine := x.r.un
theorem RoomG.hd (x : RoomG k A) : A.handled = none := x.r.hd
theorem RoomG.depth (x : RoomG k A) : A.depth < recursionLimit := x.r.depth
end
structure FnG (P : Program) (w : World) (K : PySem.W.Frag) (mg : Str → Option Value) (base : Heap) (C : CXT) (k : Nat) (f : Addr) (fd : FuncData) (ps : List Str) (sp : Sp) : Prop where
  len : ∀ vs H Q E, sp vs H Q E → vs.length = ps.length
  run : ∀ (A : Around) (out : List Env) (s : Shared) (H : Hp) (args : Args) (us : List Value) (vs : List V) (Q : VK) (E : XK), RoomG k A → Env0 P w K mg base A out s H → BindsTo s fd args (ps.zip us) → Vals vs us → sp vs H Q E →
    codeAny (model P w) A (.call (.ref f) args) (CR C out P w H s Q E) s
theorem FnG.mono {P : Program} {w : World} {K : PySem.W.Frag} {mg : Str → Option Value} {base : Heap} {C : CXT} {j k : Nat} {f : Addr} {fd : FuncData} {ps : List Str} {sp : Sp} (F : FnG P w K mg base C j f fd ps sp) (h : j ≤ k) : FnG P w K mg base C k f fd ps sp :=
  ⟨F.len, fun A out s H args us vs Q E x => F.run A out s H args us vs Q E (x.mono h)⟩
/-- a def by its body, there -/
theorem fun_okG {P : Program} {w : World} {K : PySem.W.Frag} {mg : Str → Option Value} {base : Heap} {x qual : Str} {st : Stmt} {f : Addr} {fd : FuncData} {N ps : List Str} {k : Nat} {sp : Sp} (F : Fun K x qual st f fd) (S : FnScope N ps (defScope st)) (len : ∀ vs H Q E, sp vs H Q E → vs.length = ps.length)
    (body : ∀ (cdv : Value) (A : Around) (out : List Env) (s : Shared) (H : Hp) (vs : List V) (Q : VK) (E : XK), RoomG k (A.deeper (envOfC qual (defScope st) s.heap.objs.size f cdv)) → sp vs H Q E →
      ∃ t, PSs (cxOf (L2.CX P w) P w K mg base N qual (defScope st) f cdv A out s H E) (defBody st) t ∧ t { nx := fun _ H' => Q .non H', rt := Q } (L2.start N vs) H) : FnG P w K mg base (L2.CX P w) (k + 1) f fd ps sp := by
  obtain ⟨oc, od, kV, doc, pm, an, cdv, ct, osl, rfl, lk, hcd⟩ := F.ex
  refine ⟨len, fun A out s H args us vs Q E room e0 bnd rel hsp => ?_⟩
  have grows := fun (b : Addr) (o : Obj) (e : base.get? b = some o) => (e0.bs b o e).1
  have inK : K.In s.heap := e0.mod.kin.keeps grows
  refine codeAny_call_function room.depth (inK _ _ lk) rfl S.co S.gen rfl (PySem.W.codeRec_of inK hcd) (bnd _ _ _ _ (wpAny_newFunctionEnv_cells S.kind (fun y hy => ?_) fun env he s1 z => ?_))
  · rcases S.par y.1 (List.of_mem_zip (a := y.1) (b := y.2) hy).1 with q | q
    · exact .inl q
    · exact .inr ⟨q, PySem.W.cellsFrom_some _ _ _ (.inl q)⟩
  · subst he
    obtain ⟨t, ht, hq⟩ := body cdv A out s H vs Q E (room.deeper _) hsp
    have I := inv_start (CX := L2.CX P w) (E := E) S room.hd e0 (len _ _ _ _ hsp) rel z
    refine ⟨(e0.mod.nolimit.keeps grows).keeps z.toInCall.keep, codeAny_func (wpAny_mono (ht.run [] s1 (L2.start N vs) H _ I hq) (fun fl s2 hs => ?_) fun e s2 hs => hs)⟩
    cases fl with
    | ret u =>
      obtain ⟨v, _, H2, J, rv, q⟩ := hs
      exact ⟨v, H2, J.os, J.bare, J.base, J.hok, rv, q⟩
    | next =>
      obtain ⟨_, H2, J, q⟩ := hs
      exact ⟨V.non, H2, J.os, J.bare, J.base, J.hok, rfl, q⟩
    | brk => exact (let ⟨_, _, _, q⟩ := hs; False.elim q)
    | cont => exact (let ⟨_, _, _, q⟩ := hs; False.elim q)
section
variable {X : Cx} {W : WX} {f : Addr} {fd : FuncData} {ps : List Str} {sp : Sp} {k : Nat} {pins : List (Addr × Obj)} {σ : L2.St} {H : Hp} {s : Shared} {Q : VK} {us : List Value} {vs : List V} {x : Str} {p pos : Pos} {e : Expr} {es : List Expr} {t : TA} {E : L2.St → XK}
theorem code_G (F : FnG X.prog X.w X.K X.mg X.base (L2.CX X.prog X.w) k f fd ps sp) (hr : RoomG k X.A) (hb : Binds X.K fd ps []) (hx : PassesAt (L2.CX X.prog X.w) X σ (E σ)) (I : Inv X pins σ H s) (r : Vals vs us) (h : sp vs H Q (E σ)) :
    codeAny (model X.prog X.w) X.A (.call (.ref f) ⟨us, []⟩) (wants (EP X pins σ Q) X.xe) s := by
  have hl : (us ++ []).length = ps.length := by rw [List.append_nil, ← r.length, F.len _ _ _ _ h]
  have b := hb s us I.kIn hl
  rw [List.append_nil] at b
  refine codeAny_mono (F.run X.A X.stack s H ⟨us, []⟩ us vs Q (E σ) hr I.env0 b r h) fun res s2 hq => ?_
  cases res with
  | error e => exact hx pins H s e s2 I hq
  | ok fl =>
    cases fl with
    | ret u => exact I.after hq
    | next => exact hq.elim
    | brk => exact hq.elim
    | cont => exact hq.elim
theorem run_G (F : FnG X.prog X.w X.K X.mg X.base (L2.CX X.prog X.w) k f fd ps sp) (hr : RoomG k X.A) (hb : Binds X.K fd ps []) (hx : PassesAt (L2.CX X.prog X.w) X σ (E σ)) (I : Inv X pins σ H s) (r : Vals vs us) (h : sp vs H Q (E σ)) :
    wpAny (model X.prog X.w) X.A (call (.ref f) us) (EP X pins σ Q) X.xe s := wpAny_call (code_G F hr hb hx I r h)
/-- f(e, ..) -/
theorem pe_callG (F : FnG X.prog X.w X.K X.mg X.base (L2.CX X.prog X.w) k f fd ps sp) (hr : RoomG k X.A) (hg : Gl X x) (hm : X.mg x = some (.ref f)) (hk : PySem.W.keepIn X.K (.ref f) = true) (hb : Binds X.K fd ps []) (tk : Takes X W) (ha : PA X (e :: es) t)
    (hdb : (x == ("__debug__" : Str)) = false := by decide) (he : starEach (e :: es) X.env = (false, eval e X.env) :: starEach es X.env := by rfl) (hpl : (backTo pos (starEach es X.env)).any (·.1) = false := by rfl) :
    PE X (.Call (.Name x p) (e :: es) [] pos) (fun σ H Q => t σ H fun vs H1 => sp vs H1 Q (WE W σ)) :=
  ⟨fun pins s σ H Q I h => wpAny_Call_Name_kw (ld_glob I hg hm (PySem.W.callWith_K (h₀ := X.base) I.ok.mod.kin hk (thn (ha.run pos pins s σ H _ I h) fun us s1 ⟨vs, H1, I1, r, q⟩ => ⟨I1.kIn, run_G F hr hb (passAt tk σ) I1 r q⟩) he hpl) hdb)⟩
end

/-! ### the law's own call -/
theorem law_G {P : Program} {w : World} {K : PySem.W.Frag} {mg mb : Str → Option Value} {k : Nat} {fa a : Addr} {fd : FuncData} {x : Str} {sp : Sp} {sc : Shared} {vs : List Value} {ns : List Int} (kx : K.In sc.heap) (g1 : sc.heap.Ns mainGlobals mg) (g2 : sc.heap.Ns builtinsNs mb)
    (g3 : ∀ x : Str, x ≠ "__name__" → mb x = bootBuiltins x) (g4 : sc.heap.NoLimit) (g5 : sc.gens = #[]) (ha : sc.heap.get? a = some { cls := .type "list", data := .seq vs.toArray }) (hi : IntsAre vs ns) (hl : ns.length ≤ sizeLine) (hr : RoomG k callerA)
    (F : ∀ base : Heap, K.In base → base.Ns mainGlobals mg → FnG P w K mg base (L2.CX P w) k fa fd [x] sp) (hbind : ∀ (s : Shared) (u : Value), BindsTo s fd ⟨[u], []⟩ [(x, u)]) (hsp : ∀ T : Hp, Only T → SqL K T a (ns.map V.int) → sp [.ref a] T (fun v _ => v = .bl true) fun _ _ _ => False)
    (no : ∀ T e s', L2.CX P w [] T sc (fun _ _ _ => False) e s' → False) : codeAny (model P w) callerA (.call (.ref fa) ⟨[.ref a], []⟩) (fun r s' => r = .ok (.ret (.bool true)) ∧ OldK sc.heap s'.heap ∧ s'.os = sc.os ∧ AllBare s'.gens) sc := by
  have go : ∀ T : Hp, Only T → SqL K T a (ns.map V.int) → HOk P w T sc.heap → (∀ b, T b ≠ none → b = a) → (T a ≠ none → K.lookup a = none) → codeAny (model P w) callerA (.call (.ref fa) ⟨[.ref a], []⟩) (fun r s' => r = .ok (.ret (.bool true)) ∧ OldK sc.heap s'.heap ∧ s'.os = sc.os ∧ AllBare s'.gens) sc := fun T only seq hok one own => by
    have isA : ∀ {b : Addr}, (∃ u, T b = some u) → b = a := fun {b} ⟨u, q⟩ => one b (by rw [q]; simp)
    have free : ∀ {b : Addr} {P : Prop}, (b = a → False) → T b = none := fun {b _} n => by
      cases q : T b with
      | none => rfl
      | some u => exact (n (isA ⟨u, q⟩)).elim
    have ns2 : ∀ {b : Addr} {m : Str → Option Value}, sc.heap.Ns b m → (hidT sc.heap T).Ns b m := fun {b m} ⟨o, es, ep, e, d, r⟩ => ⟨o, es, ep, hidT_get e (free (P := True) fun z => by
      subst z
      rw [ha] at e; cases e
      exact (nomatch (show Data.seq vs.toArray _ = Data.dict es ep from d))), d, r⟩
    have kin : K.In (hidT sc.heap T) := fun b o e => hidT_get (kx b o e) (by
      cases q : T b with
      | none => rfl
      | some u =>
        have z := isA ⟨u, q⟩
        subst z
        rw [own (by rw [q]; simp)] at e; cases e)
    obtain ⟨mc, c1, c2⟩ := g4
    have e0 : Env0 P w K mg (hidT sc.heap T) callerA [] sc T := ⟨rfl, ⟨kin, ns2 g1, ⟨mb, ns2 g2, g3⟩, ⟨mc, ns2 c1, c2⟩⟩, fun b o e => of_hidT e, Nat.le_of_eq (hidT_size _ _), trivial, fun b hb => (nomatch (show b ∈ ([] : List Addr) from hb)), hok, .of_eq g5⟩
    refine codeAny_mono ((F _ kin (ns2 g1)).run callerA [] sc T ⟨[.ref a], []⟩ [.ref a] [.ref a] _ _ hr e0 (hbind sc (.ref a)) (.cons rfl .nil) (hsp T only seq)) fun r s2 h => ?_
    cases r with
    | error e => exact (no T e s2 h).elim
    | ok fl =>
      cases fl with
      | next => exact h.elim
      | brk => exact h.elim
      | cont => exact h.elim
      | ret u =>
        obtain ⟨v, T2, os, bare, un, hok2, ru, q⟩ := h
        have q : v = .bl true := q
        subst q
        cases (show u = Value.bool true from ru)
        refine ⟨rfl, OldK.of_keep fun b o e => ?_, os, bare⟩
        cases q : T b with
        | none => exact un.keep b o e q (fun z => nomatch (show b ∈ ([] : List Addr) from z)) (by simp)
        | some u =>
          rcases only b with z | ⟨ob, xs, z⟩
          · rw [q] at z; cases z
          · obtain ⟨m1, _⟩ := hok b _ z
            obtain ⟨m2, _⟩ := hok2 b _ (un.frzs b ob _ z)
            rw [e] at m1; cases m1
            exact m2
  cases hk : K.lookup a with
  | some o =>
    have e := kx a o hk
    rw [ha] at e
    cases e
    exact go (fun _ => none) (fun _ => .inl rfl) (.inr ⟨_, vs.toArray, _, hk, rfl, rfl, rfl, by rw [List.size_toArray, hi.length]; exact hl, by simpa using vals_ints hi⟩) (fun b u z => nomatch (show (none : Option HO) = some u from z)) (fun b z => absurd rfl z) fun z => absurd rfl z
  | none =>
    let T : Hp := fun b => if b = a then some (.frz { cls := .type "list", data := .seq vs.toArray } (.lst (ns.map V.int))) else none
    have t1 : T a = some (.frz { cls := .type "list", data := .seq vs.toArray } (.lst (ns.map V.int))) := if_pos rfl
    have t2 : ∀ b, b ≠ a → T b = none := fun b n => if_neg n
    refine go T (fun b => ?_) (.inl (.inr ⟨_, t1⟩)) (fun b u z => ?_) (fun b z => Classical.byContradiction fun n => z (t2 b n)) fun _ => hk
    · by_cases e : b = a
      · subst e; exact .inr ⟨_, _, t1⟩
      · exact .inl (t2 b e)
    · by_cases e : b = a
      · subst e
        rw [t1] at z; cases z
        exact ⟨ha, by rw [List.length_map]; exact hl, vs, _, vals_ints hi, ha⟩
      · rw [t2 b e] at z; cases z
open PyProof.Rows in
theorem walk_G {l : PySem.W.OpenLaw} {n k : Nat} {q : Program} {loose : List Str} {XP : (Str → Option Value) → Heap → Prop} {YP : World → Heap → Prop} {d : DefRec} {K : Params → PySem.W.Frag} {sp : World → Sp} {x : Str} (hn : l.most = some n) (hn2 : n ≤ sizeLine) (hdf : d.params.defaults = []) (hr : RoomG k callerA)
    (hY : ∀ (w : World) (h : Heap), YP w h → (K w.params).In h) (F : ∀ (w : World) (mg : Str → Option Value) (fa : Addr) (h : Heap), (K w.params).In h → h.Ns mainGlobals mg → mg d.name = some (.ref fa) → ∃ fd : FuncData, (∀ (s : Shared) (u : Value), BindsTo s fd ⟨[u], []⟩ [(x, u)]) ∧
        ∀ base : Heap, (K w.params).In base → base.Ns mainGlobals mg → FnG l.prog w (K w.params) mg base (L2.CX l.prog w) k fa fd [x] (sp w))
    (hsp : ∀ (w : World) (H : Hp) (a : Addr) (ns : List Int), ns.length ≤ n → (∀ z ∈ ns, Builtin.Int.intBits z ≤ 1048576) → SqL (K w.params) H a (ns.map V.int) → sp w [.ref a] H (fun v _ => v = .bl true) fun _ _ _ => False) : PySem.W.WalkO q loose XP YP l.row.toRowW d [] (fun f vs => PySem.call f vs) := by
  refine Att.attach_callB hn hdf fun w s0 sc mg mb fa o pm cd doc a vs ns G Y ho hd hcd hmg hobj hints hlen hbits hg => ?_
  obtain ⟨fd, hb, hF⟩ := F w mg fa _ (hY w _ Y) G.T.g hmg
  refine law_G (hY w _ Y) G.T.g G.T.b G.T.builtins G.T.nolimit hg hobj hints (Nat.le_trans hlen hn2) hr hF hb (fun T _ hS => hsp w T a ns hlen hbits hS) fun T e s' z => ?_
  obtain ⟨_, _, _, _, _, _, _, _, _, _, _, _, q⟩ := z
  exact q
end DL

/-! DL2: calls of defs, statements, a def by its mirror. -/
namespace DL
open PySem PySem.Spec L2

/-! ### a tree put aside -/
section
variable {K : PySem.W.Frag} {pv : List V} {G F H : Hp} {sd : SD} {σ : L2.St}
theorem StR1.hide {v : V} {t : OT} (s : StR1 K pv G F sd σ H v t) : ∃ G', Same G G' ∧ StR K pv G' F sd σ H ∧
    ∀ (F' : Hp) (sd' : SD) (σ' : L2.St) (H' : Hp), Same F F' → StR K pv G' F' sd' σ' H' → StR1 K pv G F' sd' σ' H' v t := by
  classical
  obtain ⟨o, P, W, r, k⟩ := s
  refine ⟨fun a => if P a then H a else G a, fun a u e => ?_, ⟨o, W.fh, fun a u e => ?_, fun a ha => ?_, fun i a q => ?_, W.oo, W.len, W.sl, W.sp, W.pr⟩, fun F' sd' σ' H' f ⟨o', W'⟩ => ?_⟩
  · have : ¬ P a := fun z => by rw [(k a z).2.2.1] at e; cases e
    show (if P a then H a else G a) = some u
    rw [if_neg this]; exact e
  · have e : (if P a then H a else G a) = some u := e
    by_cases z : P a
    · rw [if_pos z] at e; exact e
    · rw [if_neg z] at e; exact W.gh a u e
  · show (if P a then H a else G a) = none
    by_cases z : P a
    · exact absurd (k a z).2.1 ha
    · rw [if_neg z]; exact W.fg a ha
  · obtain ⟨h1, h2, h3⟩ := W.oh i a q
    refine ⟨h1, h2, ?_⟩
    show (if P a then H a else G a) = none
    rw [if_neg fun z => (k a z).2.2.2 i q]; exact h3
  · have up : ∀ a, P a → (if P a then H a else G a) = H a := fun a z => if_pos z
    have hH : ∀ a, P a → H' a = H a := fun a z => by
      cases e : H a with
      | none => exact absurd e (k a z).1
      | some u => exact W'.gh a u (by rw [up a z]; exact e)
    have ne : ∀ a, P a → (if P a then H a else G a) ≠ none := fun a z => by rw [up a z]; exact (k a z).1
    refine ⟨o', P, ⟨W'.fh, fun a u e => ?_, fun a ha => ?_, fun i a q => ?_, W'.oo, W'.len, W'.sl, W'.sp, W'.pr⟩, r.mono f fun x hx => ⟨hx, hH x hx⟩, fun a z => ⟨?_, ?_, (k a z).2.2.1, fun i q => ?_⟩⟩
    · by_cases z : P a
      · rw [(k a z).2.2.1] at e; cases e
      · exact W'.gh a u (by show (if P a then H a else G a) = some u; rw [if_neg z]; exact e)
    · by_cases z : P a
      · exact (k a z).2.2.1
      · have q := W'.fg a ha
        have q : (if P a then H a else G a) = none := q
        rw [if_neg z] at q; exact q
    · obtain ⟨h1, h2, h3⟩ := W'.oh i a q
      refine ⟨h1, h2, ?_⟩
      by_cases z : P a
      · exact (k a z).2.2.1
      · have h3 : (if P a then H a else G a) = none := h3
        rw [if_neg z] at h3; exact h3
    · rw [hH a z]; exact (k a z).1
    · cases e : F' a with
      | none => rfl
      | some u => exact absurd (W'.fg a (by rw [e]; simp)) (ne a z)
    · exact absurd (W'.oh i a q).2.2 (ne a z)

/-- what a callee is given: all of the frame is put aside but the trees handed over. idx: where the callee's parameters come from -/
theorem StR.give {ts : List OT} {vs : List V} (s : StR K pv G F sd σ H) (hr : Reps K F vs (ts.map OT.view) ∧ ts.all (fun t => match t with | .fz _ => true | _ => false) = true) :
    ∃ G', StR K vs G' F ⟨[], ts⟩ [] H ∧ (∀ (F' H' : Hp) (v : V) (t : OT) (sd1 : SD), Same F F' → StR1 K vs G' F' sd1 [] H' v t → StR1 K pv G F' sd σ H' v t ∧ Same H H') ∧
      (∀ (F' H' : Hp) (sd1 : SD), Same F F' → StR K vs G' F' sd1 [] H' → StR K pv G F' sd σ H' ∧ Same H H') := by
  classical
  obtain ⟨hr, hfz⟩ := hr
  obtain ⟨o, W⟩ := s
  have back : ∀ (F' H' : Hp) (o' : Nat ⊕ Nat → Addr → Prop) (sd1 : SD), Same F F' → Own K vs (fun a => if F a = none then H a else none) F' sd1 [] H' o' → Same H H' ∧ Own K pv G F' sd σ H' o := fun F' H' o' sd1 f W' => by
    have hh : Same H H' := fun a u e => by
      by_cases z : F a = none
      · exact W'.gh a u (by show (if F a = none then H a else none) = some u; rw [if_pos z]; exact e)
      · cases e2 : F a with
        | none => exact absurd e2 z
        | some u' =>
          have := W.fh a u' e2
          rw [e] at this; cases this
          exact W'.fh a u (f a u e2)
    refine ⟨hh, W.grow hh f W'.fh fun a ha => ?_⟩
    by_cases z : F a = none
    · have q := W'.fg a ha
      have q : (if F a = none then H a else none) = none := q
      rw [if_pos z] at q; exact .inr q
    · exact .inl z
  refine ⟨fun a => if F a = none then H a else none, ⟨fun _ _ => False, W.fh, fun a u e => ?_, fun a ha => if_neg ha, fun i a q => q.elim, fun i j a q => q.elim, rfl, fun i t e => by simp at e, fun i j e => by simp at e, fun j t e => ?_⟩, fun F' H' v t sd1 f ⟨o', P, W', r, k⟩ => ?_, fun F' H' sd1 f ⟨o', W'⟩ => ?_⟩
  · have e : (if F a = none then H a else none) = some u := e
    by_cases z : F a = none
    · rw [if_pos z] at e; exact e
    · rw [if_neg z] at e; cases e
  · have e : ts[j]? = some t := e
    have ef := List.all_eq_true.mp hfz t (List.mem_of_getElem? e)
    cases t with
    | fz d =>
      obtain ⟨v, h1, h2⟩ := hr.get (i := j) (d := d) (by rw [List.getElem?_map, e]; rfl)
      refine ⟨v, h1, ?_⟩
      unfold RepO; exact h2
    | ol _ => cases ef
    | od _ _ _ => cases ef
    | oi _ _ _ => cases ef
  · obtain ⟨hh, W2⟩ := back F' H' o' sd1 f W'
    refine ⟨⟨o, P, W2, r, fun a z => ?_⟩, hh⟩
    obtain ⟨h1, h2, h3, h4⟩ := k a z
    have fa : F a = none := f.free h2
    have h3 : (if F a = none then H a else none) = none := h3
    rw [if_pos fa] at h3
    exact ⟨h1, h2, W.gh.free h3, fun i q => (W.oh i a q).1 h3⟩
  · obtain ⟨hh, W2⟩ := back F' H' o' sd1 f W'
    exact ⟨⟨o, W2⟩, hh⟩
end

/-! ### what a def promises: its mirror -/
def spD (K : PySem.W.Frag) (n : Nat) (m : List OT → ER OT) : Sp := fun vs H Q E => vs.length = n ∧ ∃ (G F : Hp) (ts : List OT), ts.length = n ∧ StR K vs G F ⟨[], ts⟩ [] H ∧
  match m ts with
  | .ok t sd' => ∀ v F' H', Same F F' → StR1 K vs G F' sd' [] H' v t → Q v H'
  | .rz x sd' => ∀ cls dd F' H', Same F F' → StR K vs G F' sd' [] H' → RepX K F' cls dd x → E cls dd H'
  | .bad => False

def mCall0 (f : List OT → ER OT) (a : SD → ER (List D)) : SD → ER OT := fun sd => (a sd).bind fun ds sd1 =>
  match f (ds.map .fz) with
  | .ok t _ => .ok t sd1
  | .rz x _ => .rz x sd1
  | .bad => .bad
theorem map_view_fz : ∀ ds : List D, (ds.map OT.fz).map OT.view = ds
  | [] => rfl
  | d :: ds => by rw [List.map_cons, List.map_cons, OT.view, map_view_fz ds]
theorem all_fz : ∀ ds : List D, (ds.map OT.fz).all (fun t => match t with | .fz _ => true | _ => false) = true
  | [] => rfl
  | d :: ds => by rw [List.map_cons, List.all_cons, all_fz ds]; rfl
section
variable {X : Cx} {pv : List V} {W : WX} {p q k l : Bool} {e a b : Expr} {es : List Expr}
theorem tr_call0 {sp : Sp} {n : Nat} {f : List OT → ER OT} {ta : TA} {m : SD → ER (List D)} (hsp : sp = spD X.K n f) (hn : ∀ sd ds sd1, m sd = .ok ds sd1 → ds.length = n) (h : TrA X.K pv W p true ta m) :
    TrO X.K pv W p (fun σ H Q => ta σ H fun vs H1 => sp vs H1 Q (WE W σ)) (mCall0 f m) := by
  intro G F sd σ H Q s
  subst hsp
  have z := h G F sd σ H (fun vs H1 => spD X.K n f vs H1 Q (WE W σ)) s
  unfold mCall0
  have hn := hn sd
  revert z hn
  cases m sd with
  | bad => exact fun _ _ => True.intro
  | rz x sd1 => exact fun z _ => z
  | ok ds sd1 =>
    intro z hn
    have hn := hn ds sd1 rfl
    show Meets X.K pv W G σ (RSo X.K pv) p sd F H (match f (ds.map .fz) with
      | .ok t _ => .ok t sd1
      | .rz x _ => .rz x sd1
      | .bad => .bad) Q _
    cases e : f (ds.map .fz) with
    | bad => exact True.intro
    | rz x s' =>
      intro hW
      refine z fun vs F1 H1 s1 s2 s3 s4 => ?_
      have s3 : Reps X.K F1 vs ds := s3
      obtain ⟨G', g1, g2, g3⟩ := s2.give (ts := ds.map .fz) (vs := vs) ⟨by rw [map_view_fz]; exact s3, all_fz ds⟩
      refine ⟨by rw [s3.length, hn], G', F1, ds.map .fz, by rw [List.length_map, hn], g1, ?_⟩
      rw [e]
      intro cls dd F2 H2 t1 t2 t3
      obtain ⟨u1, u2⟩ := g3 F2 H2 s' t1 t2
      exact hW cls dd F2 H2 (s1.trans t1) u1 t3
    | ok t s' =>
      intro hQ
      refine z fun vs F1 H1 s1 s2 s3 s4 => ?_
      have s3 : Reps X.K F1 vs ds := s3
      obtain ⟨G', g1, g2, g3⟩ := s2.give (ts := ds.map .fz) (vs := vs) ⟨by rw [map_view_fz]; exact s3, all_fz ds⟩
      refine ⟨by rw [s3.length, hn], G', F1, ds.map .fz, by rw [List.length_map, hn], g1, ?_⟩
      rw [e]
      intro v F2 H2 t1 t2
      obtain ⟨u1, u2⟩ := g2 F2 H2 v t s' t1 t2
      refine hQ v F2 H2 (s1.trans t1) u1.drop u1 fun hp => ?_
      obtain ⟨a1, a2⟩ := s4 hp
      exact ⟨a1.trans u2, a2⟩
/-- how many arguments there are -/
theorem len_nil : ∀ sd ds sd1, mNil sd = .ok ds sd1 → ds.length = 0 := fun sd ds sd1 h => by cases h; rfl
theorem len_cons {ma : SD → ER D} {mr : SD → ER (List D)} {n : Nat} (h : ∀ sd ds sd1, mr sd = .ok ds sd1 → ds.length = n) : ∀ sd ds sd1, mCons ma mr sd = .ok ds sd1 → ds.length = n + 1 := fun sd ds sd1 e => by
  unfold mCons at e
  cases e1 : ma sd with
  | bad => rw [e1] at e; cases e
  | rz x s => rw [e1] at e; cases e
  | ok d s =>
    rw [e1] at e
    have e : (mr s).bind (fun xs sd2 => ER.ok (d :: xs) sd2) = .ok ds sd1 := e
    cases e2 : mr s with
    | bad => rw [e2] at e; cases e
    | rz x s2 => rw [e2] at e; cases e
    | ok ys s2 =>
      rw [e2] at e
      cases e
      rw [List.length_cons, h s ys _ e2]
theorem do_call0 {n j : Nat} {f : Addr} {fd : FuncData} {ps : List Str} {x : Str} {pp pos : Pos} {g : List OT → ER OT} {m : SD → ER (List D)} (F : FnG X.prog X.w X.K X.mg X.base (L2.CX X.prog X.w) j f fd ps (spD X.K n g)) (hr : RoomG j X.A) (hg : Gl X x)
    (hm : X.mg x = some (.ref f)) (hk : PySem.W.keepIn X.K (.ref f) = true) (hb : Binds X.K fd ps []) (tk : Takes X W) (ha : DA X pv W p true (e :: es) m) (hn : ∀ sd ds sd1, m sd = .ok ds sd1 → ds.length = n)
    (hdb : (x == ("__debug__" : Str)) = false := by decide) (he : starEach (e :: es) X.env = (false, eval e X.env) :: starEach es X.env := by rfl) (hpl : (backTo pos (starEach es X.env)).any (·.1) = false := by rfl) :
    DO X pv W p (.Call (.Name x pp) (e :: es) [] pos) (mCall0 g m) := by
  obtain ⟨ta, a1, a2⟩ := ha
  exact ⟨_, pe_callG F hr hg hm hk hb tk a1 hdb he hpl, tr_call0 rfl hn a2⟩
end

/-! ### statements -/
inductive Fl where
  | nx (sd : SD)
  | rt (t : OT) (sd : SD)
  | bk (sd : SD)
  | ct (sd : SD)
  | rz (x : Exn) (sd : SD)
  | bad
def ER.stm {α : Type} (r : ER α) (f : α → SD → Fl) : Fl :=
  match r with
  | .ok a sd => f a sd
  | .rz x sd => .rz x sd
  | .bad => .bad
theorem ER.stm_ok {α : Type} {a : α} {sd : SD} {f : α → SD → Fl} : (ER.ok a sd).stm f = f a sd := rfl
def Fl.seq (r : Fl) (f : SD → Fl) : Fl :=
  match r with
  | .nx sd => f sd
  | r => r
def MeetsS (K : PySem.W.Frag) (pv : List V) (W : WX) (G : Hp) (F : Hp) (r : Fl) (D : Ends) (P : Prop) : Prop :=
  match r with
  | .nx sd' => (∀ F' σ' H', Same F F' → StR K pv G F' sd' σ' H' → D.nx σ' H') → P
  | .rt t sd' => (∀ v F' σ' H', Same F F' → StR1 K pv G F' sd' σ' H' v t → D.rt v H') → P
  | .bk sd' => (∀ F' σ' H', Same F F' → StR K pv G F' sd' σ' H' → D.bk σ' H') → P
  | .ct sd' => (∀ F' σ' H', Same F F' → StR K pv G F' sd' σ' H' → D.ct σ' H') → P
  | .rz x sd' => (∀ cls dd F' σ' H', Same F F' → StR K pv G F' sd' σ' H' → RepX K F' cls dd x → W cls dd σ' H') → P
  | .bad => True
def TrS (K : PySem.W.Frag) (pv : List V) (W : WX) (ts : TS) (m : SD → Fl) : Prop := ∀ G F sd σ H D, StR K pv G F sd σ H → MeetsS K pv W G F (m sd) D (ts D σ H)
structure DS (X : Cx) (pv : List V) (W : WX) (st : Stmt) (m : SD → Fl) : Prop where
  ex : ∃ ts, PS X st ts ∧ TrS X.K pv W ts m
structure DSs (X : Cx) (pv : List V) (W : WX) (st : List Stmt) (m : SD → Fl) : Prop where
  ex : ∃ ts, PSs X st ts ∧ TrS X.K pv W ts m
section
variable {α β : Type} {K : PySem.W.Frag} {pv : List V} {W : WX} {G F H : Hp} {σ : L2.St} {sd : SD} {p q : Bool}
theorem Meets.stm {RS : RSt β α} {r : ER α} {f : α → SD → Fl} {D : Ends} {k : β → Hp → Prop} {P : Prop} (h : Meets K pv W G σ RS p sd F H r k P)
    (g : ∀ v F1 H1 a sd1, Same F F1 → StR K pv G F1 sd1 σ H1 → RS G F1 sd1 H1 σ v a → MeetsS K pv W G F1 (f a sd1) D (k v H1)) : MeetsS K pv W G F (r.stm f) D P := by
  cases r with
  | bad => exact True.intro
  | rz x sd' => exact fun hW => h fun cls dd F1 H1 s1 s2 s3 => hW cls dd F1 σ H1 s1 s2 s3
  | ok a sd1 =>
    show MeetsS K pv W G F (f a sd1) D P
    have h' : (∀ v F' H', Same F F' → StR K pv G F' sd1 σ H' → RS G F' sd1 H' σ v a → (p = true → Same H H' ∧ sd1 = sd) → k v H') → P := h
    have g' := fun v F1 H1 s1 s2 s3 => g v F1 H1 a sd1 s1 s2 s3
    revert g'
    cases f a sd1 with
    | bad => exact fun _ => True.intro
    | rz x sd2 => exact fun g' hW => h' fun v F1 H1 s1 s2 s3 s4 => g' v F1 H1 s1 s2 s3 fun cls dd F2 σ2 H2 t1 t2 t3 => hW cls dd F2 σ2 H2 (s1.trans t1) t2 t3
    | nx sd2 => exact fun g' hQ => h' fun v F1 H1 s1 s2 s3 s4 => g' v F1 H1 s1 s2 s3 fun F2 σ2 H2 t1 t2 => hQ F2 σ2 H2 (s1.trans t1) t2
    | bk sd2 => exact fun g' hQ => h' fun v F1 H1 s1 s2 s3 s4 => g' v F1 H1 s1 s2 s3 fun F2 σ2 H2 t1 t2 => hQ F2 σ2 H2 (s1.trans t1) t2
    | ct sd2 => exact fun g' hQ => h' fun v F1 H1 s1 s2 s3 s4 => g' v F1 H1 s1 s2 s3 fun F2 σ2 H2 t1 t2 => hQ F2 σ2 H2 (s1.trans t1) t2
    | rt t sd2 => exact fun g' hQ => h' fun v F1 H1 s1 s2 s3 s4 => g' v F1 H1 s1 s2 s3 fun v2 F2 σ2 H2 t1 t2 => hQ v2 F2 σ2 H2 (s1.trans t1) t2
theorem MeetsS.seq {r : Fl} {f : SD → Fl} {D : Ends} {N : L2.St → Hp → Prop} {P : Prop} (h : MeetsS K pv W G F r { D with nx := N } P)
    (g : ∀ F1 σ1 H1 sd1, Same F F1 → StR K pv G F1 sd1 σ1 H1 → MeetsS K pv W G F1 (f sd1) D (N σ1 H1)) : MeetsS K pv W G F (r.seq f) D P := by
  cases r with
  | bad => exact True.intro
  | rz x sd' => exact h
  | bk sd' => exact h
  | ct sd' => exact h
  | rt t sd' => exact h
  | nx sd1 =>
    show MeetsS K pv W G F (f sd1) D P
    have h' : (∀ F' σ' H', Same F F' → StR K pv G F' sd1 σ' H' → N σ' H') → P := h
    have g' := fun F1 σ1 H1 s1 s2 => g F1 σ1 H1 sd1 s1 s2
    revert g'
    cases f sd1 with
    | bad => exact fun _ => True.intro
    | rz x sd2 => exact fun g' hW => h' fun F1 σ1 H1 s1 s2 => g' F1 σ1 H1 s1 s2 fun cls dd F2 σ2 H2 t1 t2 t3 => hW cls dd F2 σ2 H2 (s1.trans t1) t2 t3
    | nx sd2 => exact fun g' hQ => h' fun F1 σ1 H1 s1 s2 => g' F1 σ1 H1 s1 s2 fun F2 σ2 H2 t1 t2 => hQ F2 σ2 H2 (s1.trans t1) t2
    | bk sd2 => exact fun g' hQ => h' fun F1 σ1 H1 s1 s2 => g' F1 σ1 H1 s1 s2 fun F2 σ2 H2 t1 t2 => hQ F2 σ2 H2 (s1.trans t1) t2
    | ct sd2 => exact fun g' hQ => h' fun F1 σ1 H1 s1 s2 => g' F1 σ1 H1 s1 s2 fun F2 σ2 H2 t1 t2 => hQ F2 σ2 H2 (s1.trans t1) t2
    | rt t sd2 => exact fun g' hQ => h' fun F1 σ1 H1 s1 s2 => g' F1 σ1 H1 s1 s2 fun v2 F2 σ2 H2 t1 t2 => hQ v2 F2 σ2 H2 (s1.trans t1) t2
theorem MeetsS.imp {r : Fl} {D : Ends} {P P' : Prop} (h : MeetsS K pv W G F r D P) (hP : P → P') : MeetsS K pv W G F r D P' := by
  cases r with
  | bad => exact True.intro
  | rz x sd' => exact fun z => hP (h z)
  | bk sd' => exact fun z => hP (h z)
  | ct sd' => exact fun z => hP (h z)
  | rt t sd' => exact fun z => hP (h z)
  | nx sd' => exact fun z => hP (h z)
end

/-! ### the words of statements -/
def sNil : SD → Fl := .nx
def sSeq (a b : SD → Fl) : SD → Fl := fun sd => (a sd).seq b
def sSet (i : Nat) (m : SD → ER OT) : SD → Fl := fun sd => (m sd).stm fun t sd1 => if i < sd1.sl.length then .nx { sd1 with sl := sd1.sl.set i (.ow t) } else .bad
def sRet (m : SD → ER OT) : SD → Fl := fun sd => (m sd).stm fun t sd1 => .rt t sd1
def sIf (c : SD → ER Bool) (a b : SD → Fl) : SD → Fl := fun sd => (c sd).stm fun x sd1 => if x = true then a sd1 else b sd1
def sDrop (m : SD → ER D) : SD → Fl := fun sd => (m sd).stm fun _ sd1 => .nx sd1
def sNever : SD → Fl := fun _ => .bad
def sBreak : SD → Fl := .bk
def sCont : SD → Fl := .ct
section
variable {X : Cx} {pv : List V} {W : WX} {p q k l : Bool} {e a b : Expr} {es : List Expr} {pos : Pos}
theorem dss_nil : DSs X pv W [] sNil := ⟨_, pss_nil, fun G F sd σ H D s hQ => hQ F σ H (Same.refl _) s⟩
theorem tr_seq {t u : TS} {ma mb : SD → Fl} (h1 : TrS X.K pv W t ma) (h2 : TrS X.K pv W u mb) : TrS X.K pv W (tSeq t u) (sSeq ma mb) := fun G F sd σ H D s =>
  MeetsS.seq (N := u D) (h1 G F sd σ H { D with nx := u D } s) fun F1 σ1 H1 sd1 s1 s2 => h2 G F1 sd1 σ1 H1 D s2
theorem dss_cons {st : Stmt} {rest : List Stmt} {ma mb : SD → Fl} (h1 : DS X pv W st ma) (h2 : DSs X pv W rest mb) : DSs X pv W (st :: rest) (sSeq ma mb) := by
  obtain ⟨t, a1, a2⟩ := h1
  obtain ⟨u, b1, b2⟩ := h2
  exact ⟨_, pss_cons a1 b1, tr_seq a2 b2⟩
theorem dss_one {st : Stmt} {ma : SD → Fl} (h1 : DS X pv W st ma) : DSs X pv W [st] ma := by
  obtain ⟨t, a1, a2⟩ := h1
  exact ⟨_, pss_one a1, a2⟩
theorem ds_never {st : Stmt} : DS X pv W st sNever := ⟨_, ps_never, fun G F sd σ H D s => True.intro⟩
theorem dss_never {st : List Stmt} : DSs X pv W st sNever := ⟨_, pss_never, fun G F sd σ H D s => True.intro⟩
theorem ds_pass : DS X pv W (.Pass pos) sNil := ⟨_, ps_pass, fun G F sd σ H D s hQ => hQ F σ H (Same.refl _) s⟩
theorem ds_break : DS X pv W (.Break pos) sBreak := ⟨_, ps_break, fun G F sd σ H D s hQ => hQ F σ H (Same.refl _) s⟩
theorem ds_cont : DS X pv W (.Continue pos) sCont := ⟨_, ps_continue, fun G F sd σ H D s hQ => hQ F σ H (Same.refl _) s⟩
theorem tr_set {te : TE} {i : Nat} {m : SD → ER OT} (h : TrO X.K pv W p te m) : TrS X.K pv W (tAsg te (gName i)) (sSet i m) := by
  intro G F sd σ H D s
  refine Meets.stm (h G F sd σ H _ s) fun v F1 H1 t sd1 s1 s2 s3 => ?_
  split
  · rename_i hi
    exact fun hQ => hQ F1 _ H1 (Same.refl _) (StR1.store s3 hi)
  · exact True.intro
theorem ds_set {i : Nat} {x : Str} {pos' : Pos} {m : SD → ER OT} (hN : X.N.Nodup) (hi : X.N[i]? = some x) (hx : Loc X.env.scope x) (he : DO X pv W p e m) (hs : swapsWith e (some (.Name x pos')) pos.line X.env = pure false := by rfl)
    (hf : X.fn x = true ∨ X.env.scope.names.lookup x = some .local := by first | exact .inl rfl | exact .inr rfl | assumption) : DS X pv W (.Assign [.Name x pos'] e pos) (sSet i m) := by
  obtain ⟨te, a1, a2⟩ := he
  exact ⟨_, ps_set hN hi hx a1 hs hf, tr_set a2⟩
theorem ds_ret {m : SD → ER OT} (he : DO X pv W p e m) : DS X pv W (.Return (some e) pos) (sRet m) := by
  obtain ⟨te, a1, a2⟩ := he
  refine ⟨_, ps_ret a1, fun G F sd σ H D s => ?_⟩
  exact Meets.stm (a2 G F sd σ H D.rt s) fun v F1 H1 t sd1 s1 s2 s3 hQ => hQ v F1 σ H1 (Same.refl _) s3
theorem ds_retN : DS X pv W (.Return none pos) (sRet (mOwn (mC .non))) := by
  refine ⟨_, ps_retN, fun G F sd σ H D s hQ => ?_⟩
  exact hQ .non F σ H (Same.refl _) (StR1.fz s .non)
theorem ds_if {c : Expr} {sa sb : List Stmt} {mc : SD → ER Bool} {ma mb : SD → Fl} (hc : DT X pv W p c mc) (ha : DSs X pv W sa ma) (hb : DSs X pv W sb mb) : DS X pv W (.If c sa sb pos) (sIf mc ma mb) := by
  obtain ⟨tc, c1, c2⟩ := hc
  obtain ⟨t, a1, a2⟩ := ha
  obtain ⟨u, b1, b2⟩ := hb
  refine ⟨_, ps_if c1 a1 b1, fun G F sd σ H D s => ?_⟩
  refine Meets.stm (c2 G F sd σ H _ s) fun x F1 H1 dx sd1 s1 s2 s3 => ?_
  have s3 : x = dx := s3
  subst s3
  cases x with
  | true => exact a2 G F1 sd1 σ H1 D s2
  | false => exact b2 G F1 sd1 σ H1 D s2
theorem ds_expr {m : SD → ER D} (he : DX X pv W p k e m) (hs : swapsWith e none pos.line X.env = pure false := by rfl) : DS X pv W (.Expr e pos) (sDrop m) := by
  obtain ⟨te, a1, a2⟩ := he
  refine ⟨_, ps_expr a1 hs, fun G F sd σ H D s => ?_⟩
  exact Meets.stm (a2 G F sd σ H _ s) fun v F1 H1 d sd1 s1 s2 s3 hQ => hQ F1 σ H1 (Same.refl _) s2
end

/-! ### a def by its mirror -/
/-- the slots at the entry: a parameter that is handed over as a tree is the caller's -/
def slotsOf : Nat → List OT → List S
  | _, [] => []
  | j, .fz d :: ts => .ow (.fz d) :: slotsOf (j + 1) ts
  | j, _ :: ts => .pa j :: slotsOf (j + 1) ts
theorem slotsOf_length : ∀ (j : Nat) (ts : List OT), (slotsOf j ts).length = ts.length
  | _, [] => rfl
  | j, .fz d :: ts => by rw [slotsOf, List.length_cons, List.length_cons, slotsOf_length]
  | j, .ol _ :: ts => by rw [slotsOf, List.length_cons, List.length_cons, slotsOf_length] <;> exact fun _ h => nomatch h
  | j, .od _ _ _ :: ts => by rw [slotsOf, List.length_cons, List.length_cons, slotsOf_length] <;> exact fun _ h => nomatch h
  | j, .oi _ _ _ :: ts => by rw [slotsOf, List.length_cons, List.length_cons, slotsOf_length] <;> exact fun _ h => nomatch h
theorem slotsOf_get : ∀ (j : Nat) (ts : List OT) (i : Nat) (t : OT), ts[i]? = some t → (slotsOf j ts)[i]? = some (match t with | .fz d => .ow (.fz d) | _ => .pa (j + i))
  | j, [], i, t, h => by simp at h
  | j, .fz d :: ts, 0, t, h => by simp at h; subst h; rw [slotsOf]; rfl
  | j, .ol _ :: ts, 0, t, h => by simp at h; subst h; rw [slotsOf]; rfl; exact fun _ h => nomatch h
  | j, .od _ _ _ :: ts, 0, t, h => by simp at h; subst h; rw [slotsOf]; rfl; exact fun _ h => nomatch h
  | j, .oi _ _ _ :: ts, 0, t, h => by simp at h; subst h; rw [slotsOf]; rfl; exact fun _ h => nomatch h
  | j, .fz d :: ts, i + 1, t, h => by
    rw [slotsOf]
    have z := slotsOf_get (j + 1) ts i t (by simpa using h)
    rw [List.getElem?_cons_succ, z, Nat.add_right_comm, Nat.add_assoc]
  | j, .ol _ :: ts, i + 1, t, h => by
    rw [slotsOf]
    · have z := slotsOf_get (j + 1) ts i t (by simpa using h)
      rw [List.getElem?_cons_succ, z, Nat.add_right_comm, Nat.add_assoc]
    · exact fun _ h => nomatch h
  | j, .od _ _ _ :: ts, i + 1, t, h => by
    rw [slotsOf]
    · have z := slotsOf_get (j + 1) ts i t (by simpa using h)
      rw [List.getElem?_cons_succ, z, Nat.add_right_comm, Nat.add_assoc]
    · exact fun _ h => nomatch h
  | j, .oi _ _ _ :: ts, i + 1, t, h => by
    rw [slotsOf]
    · have z := slotsOf_get (j + 1) ts i t (by simpa using h)
      rw [List.getElem?_cons_succ, z, Nat.add_right_comm, Nat.add_assoc]
    · exact fun _ h => nomatch h
/-- the state at a def's entry; n: the names of the def -/
def entry (n : Nat) (ts : List OT) : SD := ⟨slotsOf 0 ts ++ List.replicate (n - ts.length) .un, ts⟩
/-- a body as a def's mirror -/
def asDef (n : Nat) (body : SD → Fl) : List OT → ER OT := fun ts => match body (entry n ts) with
  | .rt t sd => .ok t ⟨[], sd.pa⟩
  | .nx sd => .ok (.fz .non) ⟨[], sd.pa⟩
  | .rz x sd => .rz x ⟨[], sd.pa⟩
  | _ => .bad
section
variable {K : PySem.W.Frag} {pv : List V} {G F H : Hp} {sd : SD} {σ : L2.St}
theorem StR.bare (s : StR K pv G F sd σ H) : StR K pv G F ⟨[], sd.pa⟩ [] H := by
  obtain ⟨o, W⟩ := s
  exact ⟨o, W.fh, W.gh, W.fg, W.oh, W.oo, rfl, fun i t e => by simp at e, fun i j e => by simp at e, W.pr⟩
theorem StR1.bare {v : V} {t : OT} (s : StR1 K pv G F sd σ H v t) : StR1 K pv G F ⟨[], sd.pa⟩ [] H v t := by
  obtain ⟨o, P, W, r⟩ := s
  exact ⟨o, P, ⟨W.fh, W.gh, W.fg, W.oh, W.oo, rfl, fun i t e => by simp at e, fun i j e => by simp at e, W.pr⟩, r⟩
theorem StR.enter {ts : List OT} {vs : List V} {N : List Str} (s : StR K vs G F ⟨[], ts⟩ [] H) (hl : vs.length = ts.length) (hN : ts.length ≤ N.length) : StR K vs G F (entry N.length ts) (L2.start N vs) H := by
  obtain ⟨o, W⟩ := s
  have at1 : ∀ (i : Nat) (S1 : S), (entry N.length ts).sl[i]? = some S1 → S1 ≠ .un → ∃ t v, ts[i]? = some t ∧ vs[i]? = some v ∧ (L2.start N vs)[i]? = some (some v) ∧ S1 = (match t with | .fz d => .ow (.fz d) | _ => .pa i) := fun i S1 e hu => by
    have e : (slotsOf 0 ts ++ List.replicate (N.length - ts.length) .un)[i]? = some S1 := e
    by_cases hi : i < ts.length
    · have h1 : ts[i]? = some ts[i] := by simp [hi]
      have z := slotsOf_get 0 ts i _ h1
      rw [List.getElem?_append_left (by rw [slotsOf_length]; exact hi), z] at e
      have hv : i < vs.length := by omega
      refine ⟨ts[i], vs[i], h1, by simp [hv], ?_, ?_⟩
      · unfold L2.start
        rw [List.getElem?_append_left (by simpa using hv), List.getElem?_map]
        simp [hv]
      · have e := Option.some.inj e
        rw [← e]
        cases ts[i] <;> simp
    · rw [List.getElem?_append_right (by rw [slotsOf_length]; omega), List.getElem?_replicate] at e
      split at e
      · exact absurd (Option.some.inj e).symm hu
      · cases e
  refine ⟨fun i a => match i with | .inl _ => False | .inr j => o (.inr j) a, W.fh, W.gh, W.fg, fun i a q => ?_, fun i j a q q' => ?_, ?_, fun i t e => ?_, fun i j e => ?_, fun j t e => ?_⟩
  · cases i with
    | inl _ => exact q.elim
    | inr j => exact W.oh (.inr j) a q
  · cases i with
    | inl _ => exact q.elim
    | inr i =>
      cases j with
      | inl _ => exact q'.elim
      | inr j => exact W.oo _ _ a q q'
  · unfold L2.start entry
    rw [List.length_append, List.length_append, List.length_map, List.length_replicate, List.length_replicate, slotsOf_length, hl]
  · obtain ⟨t', v, h1, h2, h3, h4⟩ := at1 i _ e (by intro z; cases z)
    cases t' with
    | fz d =>
      have h4 : S.ow t = .ow (.fz d) := h4
      cases h4
      obtain ⟨v', q1, q2⟩ := W.pr i _ h1
      rw [h2] at q1; cases q1
      refine ⟨v, h3, ?_⟩
      unfold RepO at q2 ⊢
      exact q2
    | ol _ => cases h4
    | od _ _ _ => cases h4
    | oi _ _ _ => cases h4
  · obtain ⟨t', v, h1, h2, h3, h4⟩ := at1 i _ e (by intro z; cases z)
    cases t' with
    | fz d => cases h4
    | ol _ =>
      cases h4; exact ⟨v, h2, h3⟩
    | od _ _ _ =>
      cases h4; exact ⟨v, h2, h3⟩
    | oi _ _ _ =>
      cases h4; exact ⟨v, h2, h3⟩
  · exact W.pr j t e
end
/-- THE RULE for a def -/
theorem fn_mirror {P : Program} {w : World} {K : PySem.W.Frag} {mg : Str → Option Value} {base : Heap} {x qual : Str} {st : Stmt} {f : Addr} {fd : FuncData} {N ps : List Str} {k : Nat} {body : SD → Fl} (F : Fun K x qual st f fd) (S : FnScope N ps (defScope st))
    (h : ∀ (X : Cx) (pv : List V) (W : WX) (cdv : Value) (A : Around) (outer : List Env) (s : Shared) (H : Hp) (E : XK), X = cxOf (L2.CX P w) P w K mg base N qual (defScope st) f cdv A outer s H E → Takes X W → RoomG k X.A → DSs X pv W (defBody st) body) :
    FnG P w K mg base (L2.CX P w) (k + 1) f fd ps (spD K ps.length (asDef N.length body)) := by
  refine fun_okG F S (fun vs H Q E hs => hs.1) fun cdv A outer s H vs Q E hr hs => ?_
  obtain ⟨hl, G, Fz, ts, htl, hst, hm⟩ := hs
  obtain ⟨t, h1, h2⟩ := h _ vs (fun cls d _ H => E cls d H) cdv A outer s H E rfl (takes_of rfl rfl rfl rfl) hr
  refine ⟨t, h1, ?_⟩
  have hpl : ps.length ≤ N.length := by have := congrArg List.length S.pre; rw [List.length_take] at this; omega
  have z := h2 G Fz (entry N.length ts) (L2.start N vs) H { nx := fun _ H' => Q .non H', rt := Q } (hst.enter (by omega) (by omega))
  unfold asDef at hm
  revert z hm
  cases body (entry N.length ts) with
  | bad => exact fun hm _ => hm.elim
  | bk sd' => exact fun hm _ => hm.elim
  | ct sd' => exact fun hm _ => hm.elim
  | nx sd' => exact fun hm z => z fun F' σ' H' s1 s2 => hm .non F' H' s1 (StR1.fz s2.bare .non)
  | rt t sd' => exact fun hm z => z fun v F' σ' H' s1 s2 => hm v F' H' s1 s2.bare
  | rz e sd' => exact fun hm z => z fun cls dd F' σ' H' s1 s2 s3 => hm cls dd F' H' s1 s2.bare s3
end DL

/-! DL3: operators, built-in functions, subscripts, slices. -/
namespace DL
open PySem PySem.Spec L2
open PyProof.Rows (floordiv_int mod_int' pow_int)

/-! ### arithmetic -/
def dAdd : D → D → Option D
  | .int i, .int j => some (.int (i + j))
  | .str x, .str y => if x.length + y.length ≤ 16777216 then some (.str (x ++ y)) else none
  | _, _ => none
def dSub : D → D → Option D
  | .int i, .int j => some (.int (i - j))
  | _, _ => none
def dMul : D → D → Option D
  | .int i, .int j => if i.natAbs.log2 + j.natAbs.log2 < 1000000 then some (.int (i * j)) else none
  | _, _ => none
def dDiv : D → D → Option D
  | .int i, .int j => if j ≠ 0 ∧ j.natAbs.log2 < 9000 then some (.int (i.fdiv j)) else none
  | _, _ => none
def dMod : D → D → Option D
  | .int i, .int j => if j ≠ 0 then some (.int (i.fmod j)) else none
  | _, _ => none
def dPow : D → D → Option D
  | .int i, .int j => if 0 ≤ j ∧ (Builtin.Int.intBits i : Int) * j ≤ 134217728 then some (.int (i ^ j.toNat)) else none
  | _, _ => none
def dNeg : D → Option D
  | .int i => some (.int (-i))
  | _ => none
def dLt : D → D → Option D
  | .int i, .int j => some (.bl (decide (i < j)))
  | .str x, .str y => some (.bl (decide (x.cps.toList < y.cps.toList)))
  | _, _ => none
def dLe : D → D → Option D
  | .int i, .int j => some (.bl (decide (i ≤ j)))
  | _, _ => none
def dGt : D → D → Option D
  | .int i, .int j => some (.bl (decide (j < i)))
  | _, _ => none
def dGe : D → D → Option D
  | .int i, .int j => some (.bl (decide (j ≤ i)))
  | _, _ => none
def isNonD : D → Bool
  | .non => true
  | _ => false
def dIsN : D → D → Option D
  | a, .non => some (.bl (isNonD a))
  | _, _ => none
def dNotN : D → D → Option D
  | a, .non => some (.bl (!isNonD a))
  | _, _ => none

section
variable {X : Cx}
def rDiv : R2 := rI (fun _ j => j ≠ 0 ∧ j.natAbs.log2 < 9000) fun i j => .int (i.fdiv j)
theorem op_divX : OpR X (binaryOp .FloorDiv) rDiv := opI fun _ _ _ _ _ _ _ hc q => floordiv_int hc.1 q (.inl (PyProof.noPylong_of_log2 hc.2))
def rPow : R2 := rI (fun i j => 0 ≤ j ∧ (Builtin.Int.intBits i : Int) * j ≤ 134217728) fun i j => .int (i ^ j.toNat)
theorem op_powX : OpR X (binaryOp .Pow) rPow := opI fun _ _ _ _ _ _ _ hc q => pow_int hc.1 (by have := hc.2; simpa using this) q
def rAddX : R2 := fun x y H Q => (rI0 fun i j => .int (i + j)) x y H Q ∨ ∃ i j, x = .str i ∧ y = .str j ∧ i.length + j.length ≤ sizeLine ∧ Q (.str (i ++ j)) H
theorem op_addX : OpR X (binaryOp .Add) rAddX := op_add.or op_add_str
end
section
variable {K : PySem.W.Frag}
theorem f_add : Op2S K rAddX dAdd := by
  intro H x y a b c ra rb h
  cases ra <;> cases rb <;> simp only [dAdd, reduceCtorEq, Option.some.injEq] at h
  · subst h
    exact ⟨_, rfl, fun Q q => .inl ⟨_, _, rfl, rfl, q⟩⟩
  · split at h
    · rename_i hl
      cases h
      exact ⟨_, rfl, fun Q q => .inr ⟨_, _, rfl, rfl, by rw [sizeLine_eq]; exact hl, q⟩⟩
    · cases h
theorem f_sub : Op2S K (rI0 fun i j => .int (i - j)) dSub := by
  intro H x y a b c ra rb h
  cases ra <;> cases rb <;> simp only [dSub, reduceCtorEq, Option.some.injEq] at h
  subst h
  exact ⟨_, rfl, fun Q q => ⟨_, _, rfl, rfl, q⟩⟩
theorem f_mul : Op2S K (rI CMulW fun i j => .int (i * j)) dMul := by
  intro H x y a b c ra rb h
  cases ra <;> cases rb <;> simp only [dMul, reduceCtorEq] at h
  split at h
  · rename_i hl
    cases h
    exact ⟨_, rfl, fun Q q => ⟨_, _, rfl, rfl, hl, q⟩⟩
  · cases h
theorem f_div : Op2S K rDiv dDiv := by
  intro H x y a b c ra rb h
  cases ra <;> cases rb <;> simp only [dDiv, reduceCtorEq] at h
  split at h
  · rename_i hl
    cases h
    exact ⟨_, rfl, fun Q q => ⟨_, _, rfl, rfl, hl, q⟩⟩
  · cases h
theorem f_mod : Op2S K (rI (fun _ j => j ≠ 0) fun i j => .int (i.fmod j)) dMod := by
  intro H x y a b c ra rb h
  cases ra <;> cases rb <;> simp only [dMod, reduceCtorEq] at h
  split at h
  · rename_i hl
    cases h
    exact ⟨_, rfl, fun Q q => ⟨_, _, rfl, rfl, hl, q⟩⟩
  · cases h
theorem f_pow : Op2S K rPow dPow := by
  intro H x y a b c ra rb h
  cases ra <;> cases rb <;> simp only [dPow, reduceCtorEq] at h
  split at h
  · rename_i hl
    cases h
    exact ⟨_, rfl, fun Q q => ⟨_, _, rfl, rfl, hl, q⟩⟩
  · cases h
def rLtX : R2 := fun x y H Q => (rI0 fun i j => .bl (decide (i < j))) x y H Q ∨ ∃ i j, x = .str i ∧ y = .str j ∧ Q (.bl (decide (i.cps.toList < j.cps.toList))) H
theorem op_ltX {X : Cx} : OpR X (compareOp .Lt) rLtX := op_lt.or op_lt_str
theorem f_lt : Op2S K rLtX dLt := by
  intro H x y a b c ra rb h
  cases ra <;> cases rb <;> simp only [dLt, reduceCtorEq, Option.some.injEq] at h
  · subst h
    exact ⟨_, rfl, fun Q q => .inl ⟨_, _, rfl, rfl, q⟩⟩
  · subst h
    exact ⟨_, rfl, fun Q q => .inr ⟨_, _, rfl, rfl, q⟩⟩
theorem f_le : Op2S K (rI0 fun i j => .bl (decide (i ≤ j))) dLe := by
  intro H x y a b c ra rb h
  cases ra <;> cases rb <;> simp only [dLe, reduceCtorEq, Option.some.injEq] at h
  subst h
  exact ⟨_, rfl, fun Q q => ⟨_, _, rfl, rfl, q⟩⟩
theorem f_gt : Op2S K (rI0 fun i j => .bl (decide (j < i))) dGt := by
  intro H x y a b c ra rb h
  cases ra <;> cases rb <;> simp only [dGt, reduceCtorEq, Option.some.injEq] at h
  subst h
  exact ⟨_, rfl, fun Q q => ⟨_, _, rfl, rfl, q⟩⟩
theorem f_ge : Op2S K (rI0 fun i j => .bl (decide (j ≤ i))) dGe := by
  intro H x y a b c ra rb h
  cases ra <;> cases rb <;> simp only [dGe, reduceCtorEq, Option.some.injEq] at h
  subst h
  exact ⟨_, rfl, fun Q q => ⟨_, _, rfl, rfl, q⟩⟩
theorem rep_non {F : Hp} {x : V} {a : D} (r : Rep K F x a) : decide (x = .non) = isNonD a := by
  cases r <;> rfl
theorem f_isN : Op2S K (fun x y H Q => y = .non ∧ Q (.bl (decide (x = .non))) H) dIsN := by
  intro H x y a b c ra rb h
  cases rb <;> simp only [dIsN, reduceCtorEq, Option.some.injEq] at h
  subst h
  exact ⟨_, rfl, fun Q q => ⟨rfl, by rw [rep_non ra]; exact q⟩⟩
theorem f_notN : Op2S K (fun x y H Q => y = .non ∧ Q (.bl (!decide (x = .non))) H) dNotN := by
  intro H x y a b c ra rb h
  cases rb <;> simp only [dNotN, reduceCtorEq, Option.some.injEq] at h
  subst h
  exact ⟨_, rfl, fun Q q => ⟨rfl, by rw [rep_non ra]; exact q⟩⟩
end

/-! ### == of data -/
mutual
def D.py : D → Option PyData
  | .non => some .none
  | .bl b => some (.bool b)
  | .int i => some (.int i)
  | .str x => some (.str x)
  | .tup xs => (D.pys xs).map .tuple
  | .lst xs => (D.pys xs).map .list
  | _ => none
def D.pys : List D → Option (List PyData)
  | [] => some []
  | d :: ds => d.py.bind fun p => (D.pys ds).map (p :: ·)
end
section
variable {K : PySem.W.Frag} {F : Hp}
mutual
theorem Rep.dp : ∀ {v : V} {d : D} {p : PyData}, Rep K F v d → d.py = some p → Dp K F v p
  | _, _, _, .non, h => by rw [D.py] at h; cases h; exact .non
  | _, _, _, .bl b, h => by rw [D.py] at h; cases h; exact .bl b
  | _, _, _, .int i, h => by rw [D.py] at h; cases h; exact .int i
  | _, _, _, .str x, h => by rw [D.py] at h; cases h; exact .str x
  | _, _, _, .ty n, h => by simp [D.py] at h
  | _, _, _, .cls C, h => by simp [D.py] at h
  | _, _, p, .tup (ds := ds) s r, h => by
    rw [D.py] at h
    cases e : D.pys ds with
    | none => rw [e] at h; cases h
    | some ps => rw [e] at h; cases h; exact .tup s (Reps.dp r e)
  | _, _, p, .lst (ds := ds) s r, h => by
    rw [D.py] at h
    cases e : D.pys ds with
    | none => rw [e] at h; cases h
    | some ps => rw [e] at h; cases h; exact .lst (.inl s) (Reps.dp r e)
  | _, _, _, .scr _, h => by simp [D.py] at h
  | _, _, _, .dicK _ _, h => by simp [D.py] at h
  | _, _, _, .dicT _ _, h => by simp [D.py] at h
  | _, _, _, .ins _ _, h => by simp [D.py] at h
theorem Reps.dp : ∀ {vs : List V} {ds : List D} {ps : List PyData}, Reps K F vs ds → D.pys ds = some ps → DpAll K F vs ps
  | _, _, _, .nil, h => by rw [D.pys] at h; cases h; exact .nil
  | _, _, ps, .cons (d := d) (ds := ds) r1 r2, h => by
    rw [D.pys] at h
    cases e : d.py with
    | none => rw [e] at h; cases h
    | some p =>
      rw [e] at h
      cases e2 : D.pys ds with
      | none => rw [e2] at h; cases h
      | some qs => rw [e2] at h; cases h; exact .cons (Rep.dp r1 e) (Reps.dp r2 e2)
end
end
def dEqB (a b : D) : Option Bool := match a, b with
  | .int i, .int j => some (decide (i = j))
  | .str x, .str y => some (decide (x = y))
  | .bl x, .bl y => some (decide (x = y))
  | a, b => match a.py, b.py with
    | some p, some q => if (SeqAt.shaped p && SeqAt.shaped q) = true then some (PyData.eqv p q) else none
    | _, _ => none
def dEq (a b : D) : Option D := (dEqB a b).map .bl
def dNe (a b : D) : Option D := (dEqB a b).map fun c => .bl (!c)
def rEqX (K : PySem.W.Frag) : R2 := fun x y H Q => rEq x y H Q ∨ rEqD K x y H Q
def rNeX (K : PySem.W.Frag) : R2 := fun x y H Q => rNe x y H Q ∨ rNeD K x y H Q
theorem op_eqX {X : Cx} (hu : X.A.units + 64 < cLine) : OpR X (compareOp .Eq) (rEqX X.K) := op_eq.or (op_eqD hu)
theorem op_neX {X : Cx} (hu : X.A.units + 64 < cLine) : OpR X (compareOp .NotEq) (rNeX X.K) := op_ne.or (op_neD hu)
section
variable {K : PySem.W.Frag}
theorem eqB_of {H : Hp} {x y : V} {a b : D} {c : Bool} (ra : Rep K H x a) (rb : Rep K H y b) (h : dEqB a b = some c) :
    (scal x y = true ∧ decide (x = y) = c) ∨ ∃ d e, Dp K H x d ∧ Dp K H y e ∧ SeqAt.shaped d = true ∧ SeqAt.shaped e = true ∧ PyData.eqv d e = c := by
  have gen : (match a.py, b.py with
    | some p, some q => if (SeqAt.shaped p && SeqAt.shaped q) = true then some (PyData.eqv p q) else none
    | _, _ => none) = some c → (scal x y = true ∧ decide (x = y) = c) ∨ ∃ d e, Dp K H x d ∧ Dp K H y e ∧ SeqAt.shaped d = true ∧ SeqAt.shaped e = true ∧ PyData.eqv d e = c := fun h => by
    cases e1 : a.py with
    | none => rw [e1] at h; cases h
    | some p =>
      cases e2 : b.py with
      | none => rw [e1, e2] at h; cases h
      | some q =>
        rw [e1, e2] at h
        have h : (if (SeqAt.shaped p && SeqAt.shaped q) = true then some (PyData.eqv p q) else none) = some c := h
        split at h
        · rename_i hs
          rw [Bool.and_eq_true] at hs
          cases h
          exact .inr ⟨p, q, ra.dp e1, rb.dp e2, hs.1, hs.2, rfl⟩
        · cases h
  unfold dEqB at h
  split at h
  · cases ra; cases rb
    cases h
    exact .inl ⟨rfl, by simp⟩
  · cases ra; cases rb
    cases h
    exact .inl ⟨rfl, by simp⟩
  · cases ra; cases rb
    cases h
    exact .inl ⟨rfl, by simp⟩
  · exact gen h
theorem f_eq : Op2S K (rEqX K) dEq := by
  intro H x y a b c ra rb h
  unfold dEq at h
  cases e : dEqB a b with
  | none => rw [e] at h; cases h
  | some k =>
    rw [e] at h; cases h
    refine ⟨_, rfl, fun Q q => ?_⟩
    rcases eqB_of ra rb e with ⟨h1, h2⟩ | ⟨d, d2, h1, h2, h3, h4, h5⟩
    · subst h2; exact .inl ⟨h1, q⟩
    · subst h5; exact .inr ⟨d, d2, h1, h2, h3, h4, q⟩
theorem f_ne : Op2S K (rNeX K) dNe := by
  intro H x y a b c ra rb h
  unfold dNe at h
  cases e : dEqB a b with
  | none => rw [e] at h; cases h
  | some k =>
    rw [e] at h; cases h
    refine ⟨_, rfl, fun Q q => ?_⟩
    rcases eqB_of ra rb e with ⟨h1, h2⟩ | ⟨d, d2, h1, h2, h3, h4, h5⟩
    · subst h2; exact .inl ⟨h1, q⟩
    · subst h5; exact .inr ⟨d, d2, h1, h2, h3, h4, q⟩
end

/-! ### unary minus, and, or, not as values, chains -/
section
variable {X : Cx} {pv : List V} {W : WX} {p q k l : Bool} {e a b c : Expr} {es : List Expr} {pos : Pos}
theorem dx_neg {m : SD → ER D} (h : DX X pv W p k a m) : DX X pv W p true (.UnaryOp .USub a pos) (mUn dNeg m) := by
  obtain ⟨te, a1, a2⟩ := h
  refine ⟨_, pe_un un_neg a1, fun G F sd σ H Q s => ?_⟩
  have hp : p = (p && true) := by cases p <;> rfl
  rw [hp]
  refine Meets.bind (a2 G F sd σ H _ s) fun x F1 H1 dx sd1 s1 s2 s3 s4 => ?_
  have r := RSx.see s3 s2
  cases dx with
  | int i =>
    cases r
    exact Meets.here s2 (show RSx X.K true G F1 sd1 H1 σ (.int (-i)) (.int (-i)) from .int _) fun q => ⟨i, rfl, q⟩
  | _ => exact True.intro
/-- True or False -/
def mBool (a : SD → ER D) : SD → ER D := fun sd => (a sd).bind fun x sd1 => match x with
  | .bl b => .ok (.bl b) sd1
  | _ => .bad
def mAndV (a b : SD → ER D) : SD → ER D := fun sd => (a sd).bind fun x sd1 => match x with
  | .bl true => b sd1
  | .bl false => .ok (.bl false) sd1
  | _ => .bad
def mOrV (a b : SD → ER D) : SD → ER D := fun sd => (a sd).bind fun x sd1 => match x with
  | .bl true => .ok (.bl true) sd1
  | .bl false => b sd1
  | _ => .bad
def mNotV (a : SD → ER D) : SD → ER D := fun sd => (a sd).bind fun x sd1 => match x with
  | .bl b => .ok (.bl (!b)) sd1
  | _ => .bad
theorem dx_one {op : BoolOp} {m : SD → ER D} (h : DX X pv W p k a m) (hop : ∀ {te : TE}, PE X a te → PE X (.BoolOp op [a] pos) te) : DX X pv W p k (.BoolOp op [a] pos) m := by
  obtain ⟨te, a1, a2⟩ := h
  exact ⟨te, hop a1, a2⟩
theorem dx_and {ma mb : SD → ER D} (h : DX X pv W p k a ma) (h2 : DX X pv W q true (.BoolOp .And (b :: es) pos) mb) : DX X pv W (p && q) true (.BoolOp .And (a :: b :: es) pos) (mAndV ma mb) := by
  obtain ⟨te, a1, a2⟩ := h
  obtain ⟨tf, b1, b2⟩ := h2
  refine ⟨_, pe_and a1 b1, fun G F sd σ H Q s => ?_⟩
  refine Meets.bind (a2 G F sd σ H _ s) fun x F1 H1 dx sd1 s1 s2 s3 s4 => ?_
  have r := RSx.see s3 s2
  cases dx with
  | bl b =>
    cases r
    cases b with
    | true =>
      refine Meets.imp (f := id) (b2 G F1 sd1 σ H1 Q s2) (fun z => ⟨true, rfl, by rw [if_pos rfl]; exact z⟩) ?_ fun v F2 H2 a2 sd2 _ t1 t2 t3 t4 hQ => hQ v F2 H2 (Same.refl _) t2 t3 (Same.refl _)
      show mb sd1 = (mb sd1).bind fun a sd1 => .ok a sd1
      cases mb sd1 <;> rfl
    | false => exact Meets.here s2 (show RSx X.K true G F1 sd1 H1 σ (.bl false) (.bl false) from .bl _) fun q => ⟨false, rfl, by rw [if_neg (by decide)]; exact q⟩
  | _ => exact True.intro
theorem dx_or {ma mb : SD → ER D} (h : DX X pv W p k a ma) (h2 : DX X pv W q true (.BoolOp .Or (b :: es) pos) mb) : DX X pv W (p && q) true (.BoolOp .Or (a :: b :: es) pos) (mOrV ma mb) := by
  obtain ⟨te, a1, a2⟩ := h
  obtain ⟨tf, b1, b2⟩ := h2
  refine ⟨_, pe_or a1 b1, fun G F sd σ H Q s => ?_⟩
  refine Meets.bind (a2 G F sd σ H _ s) fun x F1 H1 dx sd1 s1 s2 s3 s4 => ?_
  have r := RSx.see s3 s2
  cases dx with
  | bl b =>
    cases r
    cases b with
    | false =>
      refine Meets.imp (f := id) (b2 G F1 sd1 σ H1 Q s2) (fun z => ⟨false, rfl, by rw [if_neg (by decide)]; exact z⟩) ?_ fun v F2 H2 a2 sd2 _ t1 t2 t3 t4 hQ => hQ v F2 H2 (Same.refl _) t2 t3 (Same.refl _)
      show mb sd1 = (mb sd1).bind fun a sd1 => .ok a sd1
      cases mb sd1 <;> rfl
    | true => exact Meets.here s2 (show RSx X.K true G F1 sd1 H1 σ (.bl true) (.bl true) from .bl _) fun q => ⟨true, rfl, by rw [if_pos rfl]; exact q⟩
  | _ => exact True.intro
theorem dx_and1 {m : SD → ER D} (h : DX X pv W p k a m) : DX X pv W p k (.BoolOp .And [a] pos) m := dx_one h fun z => pe_one z
theorem dx_or1 {m : SD → ER D} (h : DX X pv W p k a m) : DX X pv W p k (.BoolOp .Or [a] pos) m := dx_one h fun z => pe_one z
theorem dx_not {m : SD → ER D} (h : DX X pv W p k a m) : DX X pv W p true (.UnaryOp .Not a pos) (mNotV m) := by
  obtain ⟨te, a1, a2⟩ := h
  refine ⟨_, pe_not a1, fun G F sd σ H Q s => ?_⟩
  have hp : p = (p && true) := by cases p <;> rfl
  rw [hp]
  refine Meets.bind (a2 G F sd σ H _ s) fun x F1 H1 dx sd1 s1 s2 s3 s4 => ?_
  have r := RSx.see s3 s2
  cases dx with
  | bl b =>
    cases r
    exact Meets.here s2 (show RSx X.K true G F1 sd1 H1 σ (.bl (!b)) (.bl (!b)) from .bl _) fun q => ⟨b, rfl, q⟩
  | _ => exact True.intro
/-- a < b < c -/
def mChain (f g : D → D → Option D) (a b c : SD → ER D) : SD → ER D := fun sd => (a sd).bind fun x sd1 => (b sd1).bind fun y sd2 => match f x y with
  | some (.bl true) => (c sd2).bind fun z sd3 => ER.opt (g y z) sd3
  | some (.bl false) => .ok (.bl false) sd2
  | _ => .bad
end
end DL

/-! DL4: chains, built-in functions, subscripts, slices. -/
namespace DL
open PySem PySem.Spec L2
section
variable {α β : Type} {K : PySem.W.Frag} {pv : List V} {W : WX} {G F H : Hp} {σ : L2.St} {sd : SD} {p q : Bool}
theorem Meets.to {RS : RSt β α} {r : ER α} {Q : β → Hp → Prop} {P P' : Prop} (h : Meets K pv W G σ RS p sd F H r Q P) (hP : P → P') : Meets K pv W G σ RS p sd F H r Q P' := by
  cases r with
  | bad => exact True.intro
  | rz x sd' => exact fun z => hP (h z)
  | ok a sd' => exact fun z => hP (h z)
theorem Meets.bindL {γ δ : Type} {RS : RSt β α} {RS' : RSt δ γ} {r : ER α} {f : α → SD → ER γ} {Q : δ → Hp → Prop} {k : β → Hp → Prop} {P : Prop} (h : Meets K pv W G σ RS p sd F H r k P)
    (g : ∀ v F1 H1 a sd1, Same F F1 → StR K pv G F1 sd1 σ H1 → RS G F1 sd1 H1 σ v a → (p = true → Same H H1 ∧ sd1 = sd) → Meets K pv W G σ RS' true sd1 F1 H1 (f a sd1) Q (k v H1)) :
    Meets K pv W G σ RS' p sd F H (r.bind f) Q P := by
  have z := Meets.bind h g
  have hp : (p && true) = p := by cases p <;> rfl
  rw [hp] at z
  exact z
end
section
variable {X : Cx} {pv : List V} {W : WX} {p q k l : Bool} {e a b c : Expr} {es : List Expr} {pos : Pos}
theorem tr_chain {r r' : R2} {f g : D → D → Option D} {ta tb tc : TE} {ma mb mc : SD → ER D} {q' l' : Bool} (hf : Op2S X.K r f) (hg : Op2S X.K r' g) (ha : TrX X.K pv W p k ta ma) (hb : TrX X.K pv W q l tb mb) (hc : TrX X.K pv W q' l' tc mc)
    (hk : (k || q) = true) (hk2 : (l || q') = true) : TrX X.K pv W (p && (q && q')) true (tChain r r' ta tb tc) (mChain f g ma mb mc) := by
  intro G F sd σ H Q s
  refine Meets.bind (ha G F sd σ H _ s) fun x F1 H1 dx sd1 s1 s2 s3 s4 => ?_
  refine Meets.bind (hb G F1 sd1 σ H1 _ s2) fun y F2 H2 dy sd2 t1 t2 t3 t4 => ?_
  have rx : Rep X.K H2 x dx := by
    cases k with
    | true => exact Rep.mono t2.fh (Rep.mono t1 s3)
    | false => exact Rep.mono (t4 (by simpa using hk)).1 s3
  split
  · rename_i e
    obtain ⟨v, h1, h2⟩ := hf H2 x y dx dy _ rx (RSx.see t3 t2) e
    cases h1
    refine Meets.to (Meets.bindL (hc G F2 sd2 σ H2 (fun w' H4 => r' y w' H4 Q) t2) fun z F3 H3 dz sd3 u1 u2 u3 u4 => ?_) fun z => h2 _ ⟨true, rfl, by rw [if_pos rfl]; exact z⟩
    have ry : Rep X.K H3 y dy := by
      cases l with
      | true => exact Rep.mono u2.fh (Rep.mono u1 t3)
      | false => exact Rep.mono (u4 (by simpa using hk2)).1 t3
    cases e2 : g dy dz with
    | none => exact True.intro
    | some c =>
      obtain ⟨v, h1, h2⟩ := hg H3 y z dy dz c ry (RSx.see u3 u2) e2
      exact Meets.here u2 (show RSx X.K true G F3 sd3 H3 σ v c from Rep.sc h1) (h2 Q)
  · rename_i e
    obtain ⟨v, h1, h2⟩ := hf H2 x y dx dy _ rx (RSx.see t3 t2) e
    cases h1
    exact Meets.here t2 (show RSx X.K true G F2 sd2 H2 σ (.bl false) (.bl false) from .bl _) fun q => h2 _ ⟨false, rfl, by rw [if_neg (by decide)]; exact q⟩
  · exact True.intro
theorem dx_chain {op op' : CmpOp} {r r' : R2} {f g : D → D → Option D} {ma mb mc : SD → ER D} {q' l' : Bool} (ho : OpR X (compareOp op) r) (ho' : OpR X (compareOp op') r') (hf : Op2S X.K r f) (hg : Op2S X.K r' g) (ha : DX X pv W p k a ma) (hb : DX X pv W q l b mb)
    (hc : DX X pv W q' l' c mc) (hk : (k || q) = true := by rfl) (hk2 : (l || q') = true := by rfl) (hm : lastMarks [op, op'] [b, c] = false := by with_unfolding_all rfl) : DX X pv W (p && (q && q')) true (.Compare a [op, op'] [b, c] pos) (mChain f g ma mb mc) := by
  obtain ⟨ta, a1, a2⟩ := ha
  obtain ⟨tb, b1, b2⟩ := hb
  obtain ⟨tc, c1, c2⟩ := hc
  exact ⟨_, pe_chain ho ho' a1 b1 c1 hm, tr_chain hf hg a2 b2 c2 hk hk2⟩
theorem dt_chain {op op' : CmpOp} {r r' : R2} {f g : D → D → Option D} {ma mb mc : SD → ER D} {q' l' : Bool} (ho : OpR X (compareOp op) r) (ho' : OpR X (compareOp op') r') (hf : Op2S X.K r f) (hg : Op2S X.K r' g) (ha : DX X pv W p k a ma) (hb : DX X pv W q l b mb)
    (hc : DX X pv W q' l' c mc) (hk : (k || q) = true := by rfl) (hk2 : (l || q') = true := by rfl) (hm : lastMarks [op, op'] [b, c] = false := by with_unfolding_all rfl) : DT X pv W (p && (q && q')) (.Compare a [op, op'] [b, c] pos) (mTest (mChain f g ma mb mc)) := by
  obtain ⟨ta, a1, a2⟩ := ha
  obtain ⟨tb, b1, b2⟩ := hb
  obtain ⟨tc, c1, c2⟩ := hc
  exact ⟨_, pt_chain ho ho' a1 b1 c1 hm, tr_test (tr_chain hf hg a2 b2 c2 hk hk2)⟩

/-! ### built-in functions -/
/-- a call that gives a flat value -/
def CallS (K : PySem.W.Frag) (r : List V → Hp → VK → Prop) (f : List D → Option D) : Prop := ∀ H xs ds c, Reps K H xs ds → f ds = some c → ∃ v, c.sc = some v ∧ ∀ Q : VK, Q v H → r xs H Q
/-- a call that gives a new list -/
def CallL (K : PySem.W.Frag) (r : List V → Hp → VK → Prop) (f : List D → Option (List D)) : Prop := ∀ F H xs ds cs, Same F H → Reps K F xs ds → f ds = some cs → ∀ Q : VK, (∀ p vs, H p = none → Reps K F vs cs → Q (.ref p) (upd H p (.lst vs))) → r xs H Q
def mCallL (f : List D → Option (List D)) (a : SD → ER (List D)) : SD → ER OT := fun sd => (a sd).bind fun xs sd1 => ER.opt ((f xs).map fun cs => .ol (cs.map .fz)) sd1
theorem tr_callS {r : List V → Hp → VK → Prop} {f : List D → Option D} {ta : TA} {m : SD → ER (List D)} (hf : CallS X.K r f) (h : TrA X.K pv W p k ta m) : TrX X.K pv W p true (tCB r ta) (mCall f m) := by
  intro G F sd σ H Q s
  refine Meets.bindL (h G F sd σ H _ s) fun xs F1 H1 ds sd1 s1 s2 s3 s4 => ?_
  cases e : f ds with
  | none => exact True.intro
  | some c =>
    obtain ⟨v, h1, h2⟩ := hf H1 xs ds c (RSl.see s3 s2) e
    exact Meets.here s2 (show RSx X.K true G F1 sd1 H1 σ v c from Rep.sc h1) (h2 Q)
theorem tr_callL {r : List V → Hp → VK → Prop} {f : List D → Option (List D)} {ta : TA} {m : SD → ER (List D)} (hf : CallL X.K r f) (h : TrA X.K pv W p true ta m) : TrO X.K pv W p (tCB r ta) (mCallL f m) := by
  intro G F sd σ H Q s
  refine Meets.bindL (h G F sd σ H _ s) fun xs F1 H1 ds sd1 s1 s2 s3 s4 => ?_
  cases e : f ds with
  | none => exact True.intro
  | some cs =>
    intro hQ
    refine hf F1 H1 xs ds cs s2.fh s3 e Q fun p vs hp hr => ?_
    have z := s2.newL hp hr
    exact hQ _ _ _ (Same.refl _) z.drop z fun _ => ⟨Same.upd hp, rfl⟩
theorem dx_callB {x : Str} {id : String} {pp : Pos} {r : List V → Hp → VK → Prop} {f : List D → Option D} {m : SD → ER (List D)} (hc : CallR X (.builtin id) r) (hf : CallS X.K r f) (hg : Gl X x) (hm : X.mg x = none) (hv : bootBuiltins x = some (.builtin id)) (ha : DA X pv W p k (e :: es) m)
    (hn : x ≠ "__name__" := by decide) (hdb : (x == ("__debug__" : Str)) = false := by decide) (he : starEach (e :: es) X.env = (false, eval e X.env) :: starEach es X.env := by rfl) (hpl : (backTo pos (starEach es X.env)).any (·.1) = false := by rfl) :
    DX X pv W p true (.Call (.Name x pp) (e :: es) [] pos) (mCall f m) := by
  obtain ⟨ta, a1, a2⟩ := ha
  exact ⟨_, pe_callB hc hg hm hv a1 hn hdb he hpl, tr_callS hf a2⟩
theorem do_callB {x : Str} {id : String} {pp : Pos} {r : List V → Hp → VK → Prop} {f : List D → Option (List D)} {m : SD → ER (List D)} (hc : CallR X (.builtin id) r) (hf : CallL X.K r f) (hg : Gl X x) (hm : X.mg x = none) (hv : bootBuiltins x = some (.builtin id)) (ha : DA X pv W p true (e :: es) m)
    (hn : x ≠ "__name__" := by decide) (hdb : (x == ("__debug__" : Str)) = false := by decide) (he : starEach (e :: es) X.env = (false, eval e X.env) :: starEach es X.env := by rfl) (hpl : (backTo pos (starEach es X.env)).any (·.1) = false := by rfl) :
    DO X pv W p (.Call (.Name x pp) (e :: es) [] pos) (mCallL f m) := by
  obtain ⟨ta, a1, a2⟩ := ha
  exact ⟨_, pe_callB hc hg hm hv a1 hn hdb he hpl, tr_callL hf a2⟩
theorem dx_callTy {x : Str} {T : String} {pp : Pos} {r : List V → Hp → VK → Prop} {f : List D → Option D} {m : SD → ER (List D)} (hc : CallR X (.type T) r) (hf : CallS X.K r f) (hg : Gl X x) (hm : X.mg x = none) (hv : bootBuiltins x = some (.type T)) (ha : DA X pv W p k (e :: es) m)
    (hn : x ≠ "__name__" := by decide) (hdb : (x == ("__debug__" : Str)) = false := by decide) (he : starEach (e :: es) X.env = (false, eval e X.env) :: starEach es X.env := by rfl) (hpl : (backTo pos (starEach es X.env)).any (·.1) = false := by rfl) :
    DX X pv W p true (.Call (.Name x pp) (e :: es) [] pos) (mCall f m) := by
  obtain ⟨ta, a1, a2⟩ := ha
  exact ⟨_, pe_callTy hc hg hm hv a1 hn hdb he hpl, tr_callS hf a2⟩
theorem do_callTy {x : Str} {T : String} {pp : Pos} {r : List V → Hp → VK → Prop} {f : List D → Option (List D)} {m : SD → ER (List D)} (hc : CallR X (.type T) r) (hf : CallL X.K r f) (hg : Gl X x) (hm : X.mg x = none) (hv : bootBuiltins x = some (.type T)) (ha : DA X pv W p true (e :: es) m)
    (hn : x ≠ "__name__" := by decide) (hdb : (x == ("__debug__" : Str)) = false := by decide) (he : starEach (e :: es) X.env = (false, eval e X.env) :: starEach es X.env := by rfl) (hpl : (backTo pos (starEach es X.env)).any (·.1) = false := by rfl) :
    DO X pv W p (.Call (.Name x pp) (e :: es) [] pos) (mCallL f m) := by
  obtain ⟨ta, a1, a2⟩ := ha
  exact ⟨_, pe_callTy hc hg hm hv a1 hn hdb he hpl, tr_callL hf a2⟩

theorem reps1 {K : PySem.W.Frag} {F : Hp} {vs : List V} {d : D} (r : Reps K F vs [d]) : ∃ v, vs = [v] ∧ Rep K F v d := by
  cases r with
  | cons h t => cases t; exact ⟨_, rfl, h⟩
theorem reps2 {K : PySem.W.Frag} {F : Hp} {vs : List V} {d d' : D} (r : Reps K F vs [d, d']) : ∃ v v', vs = [v, v'] ∧ Rep K F v d ∧ Rep K F v' d' := by
  cases r with
  | cons h t =>
    obtain ⟨v', rfl, h'⟩ := reps1 t
    exact ⟨_, _, rfl, h, h'⟩
def dLen : List D → Option D
  | [.lst xs] => some (.int xs.length)
  | [.tup xs] => some (.int xs.length)
  | [.str x] => if x.length ≤ 16777216 then some (.int x.length) else none
  | [.scr ns] => some (.int ns.length)
  | _ => none
theorem f_len {K : PySem.W.Frag} : CallS K (fun xs H Q => ∃ x n, xs = [x] ∧ LenV K x H n ∧ Q (.int n) H) dLen := by
  intro H xs ds c r h
  unfold dLen at h
  split at h
  · obtain ⟨v, rfl, r1⟩ := reps1 r
    cases r1 with
    | lst s t =>
      cases h
      exact ⟨_, rfl, fun Q q => ⟨_, _, rfl, .inl ⟨_, .inl s, rfl⟩, by rw [t.length]; exact q⟩⟩
  · obtain ⟨v, rfl, r1⟩ := reps1 r
    cases r1 with
    | tup s t =>
      cases h
      exact ⟨_, rfl, fun Q q => ⟨_, _, rfl, .inr ⟨_, s, rfl⟩, by rw [t.length]; exact q⟩⟩
  · obtain ⟨v, rfl, r1⟩ := reps1 r
    cases r1
    split at h
    · rename_i hl
      cases h
      exact ⟨_, rfl, fun Q q => ⟨_, _, rfl, (show LenV K (.str _) H _ from ⟨by rw [sizeLine_eq]; exact hl, rfl⟩), q⟩⟩
    · cases h
  · obtain ⟨v, rfl, r1⟩ := reps1 r
    cases r1 with
    | scr s =>
      cases h
      exact ⟨_, rfl, fun Q q => ⟨_, _, rfl, .inl ⟨_, s, rfl⟩, by rw [List.length_map]; exact q⟩⟩
  · cases h
/-- the ints of a list -/
def intsOf : List D → Option (List Int)
  | [] => some []
  | .int i :: r => (intsOf r).map (i :: ·)
  | _ => none
theorem intsOf_map : ∀ ns : List Int, intsOf (ns.map D.int) = some ns
  | [] => rfl
  | n :: r => by rw [List.map_cons, intsOf, intsOf_map r]; rfl
theorem reps_ints {K : PySem.W.Frag} {F : Hp} : ∀ {ds : List D} {vs : List V} {ns : List Int}, Reps K F vs ds → intsOf ds = some ns → vs = ns.map V.int ∧ ds = ns.map D.int
  | [], _, _, .nil, h => by cases h; exact ⟨rfl, rfl⟩
  | d :: ds, _, ns, .cons r t, h => by
    cases d with
    | int i =>
      rw [intsOf] at h
      cases e : intsOf ds with
      | none => rw [e] at h; cases h
      | some ms =>
        rw [e] at h; cases h
        cases r
        obtain ⟨h1, h2⟩ := reps_ints t e
        exact ⟨by rw [h1]; rfl, by rw [h2]; rfl⟩
    | _ => simp [intsOf] at h
def dSum : List D → Option D
  | [.lst ds] => (intsOf ds).map fun ns => .int ns.sum
  | _ => none
theorem f_sum {K : PySem.W.Frag} : CallS K (rSum K) dSum := by
  intro H xs ds c r h
  unfold dSum at h
  split at h
  · obtain ⟨v, rfl, r1⟩ := reps1 r
    cases r1 with
    | @lst a vs ds s t =>
      obtain ⟨ns, e, h⟩ := Option.map_eq_some_iff.mp h
      cases h
      obtain ⟨h1, h2⟩ := reps_ints t e
      subst h1
      exact ⟨_, rfl, fun Q q => ⟨a, ns, rfl, .inl s, q⟩⟩
  · cases h
def maxI : List Int → Int
  | [] => 0
  | n :: r => r.foldl max n
def minI : List Int → Int
  | [] => 0
  | n :: r => r.foldl min n
theorem foldl_max : ∀ (r : List Int) (n : Int), (r.foldl max n = n ∨ r.foldl max n ∈ r) ∧ n ≤ r.foldl max n ∧ ∀ y ∈ r, y ≤ r.foldl max n
  | [], n => ⟨.inl rfl, Int.le_refl _, fun y h => by cases h⟩
  | m :: r, n => by
    obtain ⟨h1, h2, h3⟩ := foldl_max r (max n m)
    rw [List.foldl_cons]
    have e1 : n ≤ max n m := Int.le_max_left ..
    have e2 : m ≤ max n m := Int.le_max_right ..
    refine ⟨?_, Int.le_trans e1 h2, fun y hy => ?_⟩
    · rcases h1 with h1 | h1
      · by_cases z : n ≤ m
        · rw [h1]; rw [show max n m = m by omega]; exact .inr List.mem_cons_self
        · rw [h1]; exact .inl (by omega)
      · exact .inr (List.mem_cons_of_mem _ h1)
    · rcases List.mem_cons.mp hy with rfl | hy
      · exact Int.le_trans e2 h2
      · exact h3 y hy
theorem foldl_min : ∀ (r : List Int) (n : Int), (r.foldl min n = n ∨ r.foldl min n ∈ r) ∧ r.foldl min n ≤ n ∧ ∀ y ∈ r, r.foldl min n ≤ y
  | [], n => ⟨.inl rfl, Int.le_refl _, fun y h => by cases h⟩
  | m :: r, n => by
    obtain ⟨h1, h2, h3⟩ := foldl_min r (min n m)
    rw [List.foldl_cons]
    have e1 : min n m ≤ n := Int.min_le_left ..
    have e2 : min n m ≤ m := Int.min_le_right ..
    refine ⟨?_, Int.le_trans h2 e1, fun y hy => ?_⟩
    · rcases h1 with h1 | h1
      · by_cases z : m ≤ n
        · rw [h1]; rw [show min n m = m by omega]; exact .inr List.mem_cons_self
        · rw [h1]; exact .inl (by omega)
      · exact .inr (List.mem_cons_of_mem _ h1)
    · rcases List.mem_cons.mp hy with rfl | hy
      · exact Int.le_trans h2 e2
      · exact h3 y hy
theorem maxI_mem {n : Int} {r : List Int} : maxI (n :: r) ∈ n :: r := by
  obtain ⟨h1, _, _⟩ := foldl_max r n
  show r.foldl max n ∈ _
  rcases h1 with h1 | h1
  · rw [h1]; exact List.mem_cons_self
  · exact List.mem_cons_of_mem _ h1
theorem maxI_ge {n : Int} {r : List Int} : ∀ y ∈ n :: r, y ≤ maxI (n :: r) := fun y hy => by
  obtain ⟨_, h2, h3⟩ := foldl_max r n
  rcases List.mem_cons.mp hy with rfl | hy
  · exact h2
  · exact h3 y hy
theorem minI_mem {n : Int} {r : List Int} : minI (n :: r) ∈ n :: r := by
  obtain ⟨h1, _, _⟩ := foldl_min r n
  show r.foldl min n ∈ _
  rcases h1 with h1 | h1
  · rw [h1]; exact List.mem_cons_self
  · exact List.mem_cons_of_mem _ h1
theorem minI_le {n : Int} {r : List Int} : ∀ y ∈ n :: r, minI (n :: r) ≤ y := fun y hy => by
  obtain ⟨_, h2, h3⟩ := foldl_min r n
  rcases List.mem_cons.mp hy with rfl | hy
  · exact h2
  · exact h3 y hy
def dMax : List D → Option D
  | [.int i, .int j] => some (.int (max i j))
  | [.lst ds] => match intsOf ds with
    | some (n :: r) => some (.int (maxI (n :: r)))
    | _ => none
  | _ => none
def dMin : List D → Option D
  | [.int i, .int j] => some (.int (min i j))
  | [.lst ds] => match intsOf ds with
    | some (n :: r) => some (.int (minI (n :: r)))
    | _ => none
  | _ => none
def rMaxX (K : PySem.W.Frag) : List V → Hp → VK → Prop := fun xs H Q => (∃ i j, xs = [.int i, .int j] ∧ Q (.int (if j > i then j else i)) H) ∨ rMax K xs H Q
def rMinX (K : PySem.W.Frag) : List V → Hp → VK → Prop := fun xs H Q => (∃ i j, xs = [.int i, .int j] ∧ Q (.int (if j < i then j else i)) H) ∨ rMin K xs H Q
theorem call_maxX (hc : X.calm = true) : CallR X (.builtin "max") (rMaxX X.K) := (call_max2 hc).or (cr_max hc)
theorem call_minX (hc : X.calm = true) : CallR X (.builtin "min") (rMinX X.K) := (call_min2 hc).or (cr_min hc)
theorem f_max {K : PySem.W.Frag} : CallS K (rMaxX K) dMax := by
  intro H xs ds c r h
  unfold dMax at h
  split at h
  · rename_i i j
    obtain ⟨v, v', rfl, r1, r2⟩ := reps2 r
    cases r1; cases r2; cases h
    refine ⟨_, rfl, fun Q q => .inl ⟨_, _, rfl, ?_⟩⟩
    have e : (if j > i then j else i) = max i j := by split <;> omega
    rw [e]; exact q
  · obtain ⟨v, rfl, r1⟩ := reps1 r
    cases r1 with
    | @lst a vs ds s t =>
      split at h
      · rename_i n rr e
        cases h
        obtain ⟨h1, h2⟩ := reps_ints t e
        subst h1
        refine ⟨_, rfl, fun Q q => .inr ⟨a, n :: rr, rfl, .inl s, by simp, fun m hm hge => ?_⟩⟩
        have e : m = maxI (n :: rr) := Int.le_antisymm (maxI_ge m hm) (hge _ maxI_mem)
        rw [e]; exact q
      · cases h
  · cases h
theorem f_min {K : PySem.W.Frag} : CallS K (rMinX K) dMin := by
  intro H xs ds c r h
  unfold dMin at h
  split at h
  · rename_i i j
    obtain ⟨v, v', rfl, r1, r2⟩ := reps2 r
    cases r1; cases r2; cases h
    refine ⟨_, rfl, fun Q q => .inl ⟨_, _, rfl, ?_⟩⟩
    have e : (if j < i then j else i) = min i j := by split <;> omega
    rw [e]; exact q
  · obtain ⟨v, rfl, r1⟩ := reps1 r
    cases r1 with
    | @lst a vs ds s t =>
      split at h
      · rename_i n rr e
        cases h
        obtain ⟨h1, h2⟩ := reps_ints t e
        subst h1
        refine ⟨_, rfl, fun Q q => .inr ⟨a, n :: rr, rfl, .inl s, by simp, fun m hm hge => ?_⟩⟩
        have e : m = minI (n :: rr) := Int.le_antisymm (hge _ minI_mem) (minI_le m hm)
        rw [e]; exact q
      · cases h
  · cases h
/-- the bools of a list -/
def boolsOf : List D → Option (List Bool)
  | [] => some []
  | .bl b :: r => (boolsOf r).map (b :: ·)
  | _ => none
theorem boolsOf_map : ∀ ns : List Bool, boolsOf (ns.map D.bl) = some ns
  | [] => rfl
  | n :: r => by rw [List.map_cons, boolsOf, boolsOf_map r]; rfl
theorem reps_bools {K : PySem.W.Frag} {F : Hp} : ∀ {ds : List D} {vs : List V} {ns : List Bool}, Reps K F vs ds → boolsOf ds = some ns → vs = ns.map V.bl
  | [], _, _, .nil, h => by cases h; rfl
  | d :: ds, _, ns, .cons r t, h => by
    cases d with
    | bl i =>
      rw [boolsOf] at h
      cases e : boolsOf ds with
      | none => rw [e] at h; cases h
      | some ms =>
        rw [e] at h; cases h
        cases r
        rw [reps_bools t e]; rfl
    | _ => simp [boolsOf] at h
def dAll : List D → Option D
  | [.lst ds] => (boolsOf ds).map fun bs => .bl (bs.all id)
  | _ => none
def dAny : List D → Option D
  | [.lst ds] => (boolsOf ds).map fun bs => .bl (bs.any id)
  | _ => none
theorem f_all {K : PySem.W.Frag} : CallS K (rAll K) dAll := by
  intro H xs ds c r h
  unfold dAll at h
  split at h
  · obtain ⟨v, rfl, r1⟩ := reps1 r
    cases r1 with
    | @lst a vs ds s t =>
      obtain ⟨ns, e, h⟩ := Option.map_eq_some_iff.mp h
      cases h
      have h1 := reps_bools t e
      subst h1
      exact ⟨_, rfl, fun Q q => ⟨a, ns, rfl, .inl s, q⟩⟩
  · cases h
theorem f_any {K : PySem.W.Frag} : CallS K (rAny K) dAny := by
  intro H xs ds c r h
  unfold dAny at h
  split at h
  · obtain ⟨v, rfl, r1⟩ := reps1 r
    cases r1 with
    | @lst a vs ds s t =>
      obtain ⟨ns, e, h⟩ := Option.map_eq_some_iff.mp h
      cases h
      have h1 := reps_bools t e
      subst h1
      exact ⟨_, rfl, fun Q q => ⟨a, ns, rfl, .inl s, q⟩⟩
  · cases h
end
end DL

/-! DL5: sorted of ints, of tuples of ints of any length. -/
namespace DL
open PySem PySem.Spec L2
open PyProof.Rows (IntsAre seqObj)

/-! ### the order of lists of ints -/
abbrev lexI : List Int → List Int → Bool := HT.lexLt
theorem lexI_asym : ∀ a b : List Int, lexI a b = true → lexI b a = false
  | [], [], h => by cases h
  | [], _ :: _, _ => rfl
  | _ :: _, [], h => by cases h
  | x :: a, y :: b, h => by
    unfold lexI at h ⊢
    rw [HT.lexLt_cons] at h ⊢
    by_cases e : x = y
    · rw [if_pos e] at h
      rw [if_pos e.symm]
      exact lexI_asym a b h
    · rw [if_neg e] at h
      rw [if_neg (Ne.symm e)]
      have h := of_decide_eq_true h
      exact decide_eq_false (by omega)
theorem lexI_tr : ∀ a b c : List Int, lexI b a = false → lexI c b = false → lexI c a = false
  | _, _, [], _, h2 => by
    rename_i a b h1
    cases b with
    | nil => cases a with
      | nil => rfl
      | cons x a => exact h1
    | cons y b => cases h2
  | [], _, _ :: _, _, _ => rfl
  | x :: a, [], z :: c, h1, _ => by cases h1
  | x :: a, y :: b, z :: c, h1, h2 => by
    unfold lexI at h1 h2 ⊢
    rw [HT.lexLt_cons] at h1 h2 ⊢
    by_cases e1 : y = x
    · rw [if_pos e1] at h1
      by_cases e2 : z = y
      · rw [if_pos e2] at h2
        rw [if_pos (e2.trans e1)]
        exact lexI_tr a b c h1 h2
      · rw [if_neg e2] at h2
        have h2 := of_decide_eq_false h2
        rw [if_neg (by omega)]
        exact decide_eq_false (by omega)
    · rw [if_neg e1] at h1
      have h1 := of_decide_eq_false h1
      by_cases e2 : z = y
      · rw [if_neg (by omega)]
        exact decide_eq_false (by omega)
      · rw [if_neg e2] at h2
        have h2 := of_decide_eq_false h2
        rw [if_neg (by omega)]
        exact decide_eq_false (by omega)
theorem lexI_eq : ∀ a b : List Int, lexI a b = false → lexI b a = false → a = b
  | [], [], _, _ => rfl
  | [], _ :: _, h, _ => by cases h
  | _ :: _, [], _, h => by cases h
  | x :: a, y :: b, h1, h2 => by
    unfold lexI at h1 h2
    rw [HT.lexLt_cons] at h1 h2
    by_cases e : x = y
    · rw [if_pos e] at h1
      rw [if_pos e.symm] at h2
      rw [e, lexI_eq a b h1 h2]
    · rw [if_neg e] at h1
      rw [if_neg (Ne.symm e)] at h2
      have h1 := of_decide_eq_false h1
      have h2 := of_decide_eq_false h2
      exact absurd (show x = y by omega) e
def leI (a b : List Int) : Bool := !lexI b a
def sortT (l : List (List Int)) : List (List Int) := l.mergeSort leI
def sortI (l : List Int) : List Int := l.mergeSort (fun a b => decide (a ≤ b))
theorem leI_total (a b : List Int) : (leI a b || leI b a) = true := by
  unfold leI
  cases h : lexI b a with
  | false => rfl
  | true => rw [lexI_asym _ _ h]; rfl
theorem leI_trans (a b c : List Int) (h1 : leI a b = true) (h2 : leI b c = true) : leI a c = true := by
  unfold leI at *
  simp only [Bool.not_eq_true'] at *
  exact lexI_tr a b c h1 h2
theorem sortT_pw (l : List (List Int)) : (sortT l).Pairwise (fun a b => leI a b = true) := List.pairwise_mergeSort leI_trans leI_total l
theorem sortT_perm (l : List (List Int)) : (sortT l).Perm l := List.mergeSort_perm l leI
theorem sortI_perm (l : List Int) : (sortI l).Perm l := List.mergeSort_perm l _
theorem sortI_pw (l : List Int) : (sortI l).Pairwise (· ≤ ·) := by
  have h := List.pairwise_mergeSort (le := fun a b : Int => decide (a ≤ b)) (fun a b c h1 h2 => by simp at *; omega) (fun a b => by simp; omega) l
  exact h.imp fun z => by simpa using z
/-- two sorted arrangements are one -/
theorem pw_uniq {α : Type} {r : α → α → Prop} (anti : ∀ a b, r a b → r b a → a = b) : ∀ {l m : List α}, l.Perm m → l.Pairwise r → m.Pairwise r → l = m
  | [], m, p, _, _ => (List.nil_perm.mp p).symm
  | a :: l, [], p, _, _ => by have := p.length_eq; simp at this
  | a :: l, b :: m, p, h1, h2 => by
    have e : a = b := by
      rcases List.mem_cons.mp (p.mem_iff.mp (List.mem_cons_self : a ∈ a :: l)) with e | ha
      · exact e
      · rcases List.mem_cons.mp (p.mem_iff.mpr (List.mem_cons_self : b ∈ b :: m)) with e | hb
        · exact e.symm
        · exact anti a b ((List.pairwise_cons.mp h1).1 b hb) ((List.pairwise_cons.mp h2).1 a ha)
    subst e
    rw [pw_uniq anti (List.perm_cons a |>.mp p) (List.pairwise_cons.mp h1).2 (List.pairwise_cons.mp h2).2]
theorem sortI_uniq {l m : List Int} (p : m.Perm l) (h : m.Pairwise (· ≤ ·)) : m = sortI l := pw_uniq (fun a b h1 h2 => Int.le_antisymm h1 h2) (p.trans (sortI_perm l).symm) h (sortI_pw l)
theorem sortT_uniq {l m : List (List Int)} (p : m.Perm l) (h : m.Pairwise (fun a b => leI a b = true)) : m = sortT l := by
  refine pw_uniq (fun a b h1 h2 => ?_) (p.trans (sortT_perm l).symm) h (sortT_pw l)
  unfold leI at h1 h2
  simp only [Bool.not_eq_true'] at h1 h2
  exact lexI_eq a b h2 h1

/-! ### the machine's sort over tuples of ints -/
def IsIT (h : Heap) (v : Value) (ns : List Int) : Prop := ∃ a o its n, v = .ref a ∧ h.get? a = some o ∧ o.cls = .type "tuple" ∧ o.data = .seq its n ∧ IntsAre its.toList ns
theorem IsIT.keeps {h h' : Heap} {v : Value} {ns : List Int} (p : IsIT h v ns) (k : ∀ b o, h.get? b = some o → o.cls = .type "tuple" → h'.get? b = some o) : IsIT h' v ns := by
  obtain ⟨a, o, its, n, e, ho, hc, hd⟩ := p
  exact ⟨a, o, its, n, e, k _ _ ho hc, hc, hd⟩
section
variable {prog : Program} {w : World} {A : Around} {E : Value → Shared → Prop} {s : Shared}
theorem oneLt_any (c : Bool) {p q : Int} {t u : Tok} {Q : Bool → Shared → Prop} (h : Q (decide (p < q)) s) : wpAny (model prog w) A (PyProof.Rows.oneLt' c (.int p t) (.int q u)) Q E s := by
  cases c with
  | true => exact PyProof.Rows.oneLt_int h
  | false => exact PySem.W.kat_one _ _ (PyProof.Rows.lt_int (Q := PySem.W.BoolBack Q) h)
theorem lex_go {b fin : Bool} {Q : Bool → Shared → Prop} : ∀ (ns ms : List Int) (xs ys : List Value) (i : Nat), IntsAre xs ns → IntsAre ys ms → fin = decide (ns.length < ms.length) → Q (lexI ns ms) s → PySem.W.KatLex prog w A b fin Q (xs.zip ys) i s
  | [], [], _, _, _, .nil, .nil, hf, h => by subst hf; exact PySem.W.kat_nil h
  | [], m :: ms, _, _, _, .nil, .cons _ _ _, hf, h => by
    have e : decide (([] : List Int).length < (m :: ms).length) = true := by simp
    rw [e] at hf
    subst hf; exact PySem.W.kat_nil h
  | n :: ns, [], _, _, _, .cons _ _ _, .nil, hf, h => by
    have e : decide ((n :: ns).length < ([] : List Int).length) = false := by simp
    rw [e] at hf
    subst hf; exact PySem.W.kat_nil h
  | n :: ns, m :: ms, _, _, i, .cons _ t hx, .cons _ u hy, hf, h => by
    refine PySem.W.kat_cons (SeqAt.EqAt.int_int n t m u prog w _ _ ?_)
    unfold lexI at h
    rw [HT.lexLt_cons] at h
    refine PySem.W.kat_go (fun e1 => ?_) fun e1 => ?_
    · have ex : n = m := by simpa using e1
      rw [if_pos ex] at h
      exact PySem.W.kat_yes (lex_go ns ms _ _ (i + 1) hx hy (by rw [hf]; simp) h)
    · have ex : ¬ n = m := by simpa using e1
      rw [if_neg ex] at h
      exact PySem.W.kat_no (oneLt_any _ h)
theorem it_cmp {vs : List Value} {k : Value → List Int} (hp : ∀ v ∈ vs, IsIT s.heap v (k v)) : SrtO.Cmp prog w A s (PyProof.Rows.tuples' true) (fun p => p.1 ∈ vs) (SrtO.lt2 fun v u => lexI (k v) (k u)) := by
  intro p q hm hm'
  show wpAny (model prog w) A (PyProof.Rows.keyLt' (PyProof.Rows.tuples' true) p.1 q.1) (fun r s' => s' = s ∧ r = lexI (k p.1) (k q.1)) (fun _ _ => False) s
  obtain ⟨a, o, its, n, e, ho, hc, hd, hi⟩ := hp _ hm
  obtain ⟨a', o', its', n', e', ho', hc', hd', hi'⟩ := hp _ hm'
  generalize k p.1 = x at hi ⊢
  generalize k q.1 = y at hi' ⊢
  rw [e, e']
  refine PySem.W.kat_lt ho hd ho' hd' ?_
  exact lex_go _ _ _ _ 0 hi hi' (by rw [← hi.length, ← hi'.length, Array.length_toList, Array.length_toList]) ⟨rfl, rfl⟩
theorem it_firsts {h : Heap} {k : Value → List Int} : ∀ {vs : List Value}, (∀ v ∈ vs, IsIT h v (k v) ∧ k v ≠ []) → ∃ fs : List Value, PySem.W.KatTups h vs fs ∧ fs.length = vs.length ∧ ∀ f ∈ fs, ∃ x t, f = Value.int x t
  | [], _ => ⟨[], PySem.W.KatTups.nil, rfl, fun _ hm => by simp at hm⟩
  | v :: vs, hp => by
    obtain ⟨fs, h1, h2, h3⟩ := it_firsts (vs := vs) fun v' hm => hp v' (List.mem_cons_of_mem _ hm)
    obtain ⟨⟨a, o, its, n, e, ho, hc, hd, hi⟩, hne⟩ := hp v (List.mem_cons_self ..)
    subst e
    obtain ⟨y, ys, eq⟩ : ∃ y ys, its.toList = y :: ys := by
      cases q : its.toList with
      | nil =>
        rw [q] at hi
        generalize k (Value.ref a) = z at hi hne
        cases hi
        exact absurd rfl hne
      | cons y ys => exact ⟨y, ys, rfl⟩
    rw [eq] at hi
    obtain ⟨x, t, rfl⟩ : ∃ x t, y = Value.int x t := by
      generalize k (Value.ref a) = z at hi
      cases hi
      exact ⟨_, _, rfl⟩
    have e2 : its[0]? = some (.int x t) := by
      rw [← Array.getElem?_toList, eq]; rfl
    refine ⟨.int x t :: fs, PySem.W.KatTups.cons ho hc hd e2 h1, by rw [List.length_cons, List.length_cons, h2], fun f hm => ?_⟩
    rcases List.mem_cons.mp hm with rfl | hm
    · exact ⟨x, t, rfl⟩
    · exact h3 f hm
theorem it_sortable {a : Addr} {vs : List Value} {k : Value → List Int} (h0 : 0 < vs.length) (hp : ∀ v ∈ vs, IsIT s.heap v (k v) ∧ k v ≠ []) (ha : ∀ o, s.heap.get? a = some o → o.cls ≠ .type "tuple") : SrtO.SortableO prog w A s a vs fun v u => lexI (k v) (k u) := by
  intro h' keep
  have hp' : ∀ v ∈ vs, IsIT h' v (k v) ∧ k v ≠ [] := fun v hm => ⟨(hp v hm).1.keeps fun b o e c => keep b o (fun z => by subst z; exact ha o e c) e, (hp v hm).2⟩
  obtain ⟨fs, h1, h2, h3⟩ := it_firsts hp'
  refine ⟨PyProof.Rows.tuples' true, fun Q E hq => ?_, it_cmp fun v hm => (hp' v hm).1⟩
  refine PySem.W.kat_kind (T := .type "int") h1 (by omega) (fun f hm => ?_) (by rfl) ?_
  · obtain ⟨x, t, rfl⟩ := h3 f hm
    exact PySem.W.Looks.now
  · have e : (Value.type "int" != Value.type "tuple") = true := by first | decide +kernel | rfl | decide
    rw [e]
    exact hq
theorem swo_lexI (k : Value → List Int) : SrtO.Swo fun v u => lexI (k v) (k u) := ⟨fun x y h => lexI_asym _ _ h, fun x y z h1 h2 => lexI_tr _ _ _ h1 h2⟩
theorem sorted_it {l : Addr} {vs : List Value} {k : Value → List Int} {Q : Value → Shared → Prop} (hl : s.heap.IsList l vs.toArray) (hz : vs.length ≤ sizeLine) (hp : ∀ v ∈ vs, IsIT s.heap v (k v) ∧ k v ≠ [])
    (h : ∀ (h' : Heap) (d : Addr) (out : List Value), SrtO.Srtd (fun v u => lexI (k v) (k u)) out → SrtO.Stb (fun v u => lexI (k v) (k u)) out vs → (∀ b o, s.heap.get? b = some o → h'.get? b = some o) → s.heap.objs.size ≤ d → (∃ n, h'.get? d = some (seqObj "list" out.toArray n)) → Q (.ref d) { s with heap := h' }) :
    wpAny (model prog w) A (call (.builtin "sorted") [.ref l]) Q E s := by
  refine SrtO.sorted_ord (swo_lexI k) hl hz (fun h2 h₁ a ha kk => ?_) fun out hs hb => ?_
  · refine it_sortable (s := { s with heap := h₁ }) (by omega) (fun v hm => ⟨(hp v hm).1.keeps fun b o e _ => (kk b o e).2, (hp v hm).2⟩) fun o e => ?_
    have e' : some o = some (seqObj "list" vs.toArray 0) := e.symm.trans ha
    cases e'
    intro c
    exact absurd (Value.type.inj c) (by decide)
  · exact h _ _ out hs hb (fun b o e => PyProof.Rows.sortedAll_old e) (Nat.le_succ _) (PyProof.Rows.sortedAll_at s.heap vs out.toArray)
end

/-! ### the rule -/
/-- the tuples of ints in a list -/
def tupsOf : List D → Option (List (List Int))
  | [] => some []
  | .tup xs :: r => (intsOf xs).bind fun ns => if ns = [] then none else (tupsOf r).map (ns :: ·)
  | _ => none
def tupD (ns : List Int) : D := .tup (ns.map .int)
def rSortT (K : PySem.W.Frag) : List V → Hp → VK → Prop := fun vs H Q => ∃ (a : Addr) (xs : List V) (ps : List (List Int)), vs = [V.ref a] ∧ SqL K H a xs ∧ Paired (fun x ns => ns ≠ [] ∧ ∃ t, x = V.ref t ∧ SqT K H t (ns.map V.int)) xs ps ∧
  ∀ ys p, ys.Perm xs → (∀ (R : V → List Int → Prop), Paired R xs ps → Paired R ys (sortT ps)) → H p = none → Q (.ref p) (upd H p (.lst ys))
theorem paired_mem {α β : Type} {R : α → β → Prop} : ∀ {xs : List α} {ps : List β}, Paired R xs ps → ∀ x ∈ xs, ∃ p ∈ ps, R x p
  | _, _, .nil, x, h => by cases h
  | _, _, .cons r t, x, h => by
    rcases List.mem_cons.mp h with rfl | h
    · exact ⟨_, List.mem_cons_self, r⟩
    · obtain ⟨p, h1, h2⟩ := paired_mem t x h
      exact ⟨p, List.mem_cons_of_mem _ h1, h2⟩
theorem paired_map {α β : Type} {R : α → β → Prop} {f : α → β} : ∀ {xs : List α} {ps : List β}, Paired R xs ps → (∀ x ∈ xs, ∀ p, R x p → f x = p) → xs.map f = ps
  | _, _, .nil, _ => rfl
  | _, _, .cons r t, h => by
    rw [List.map_cons, h _ List.mem_cons_self _ r, paired_map t fun x hx => h x (List.mem_cons_of_mem _ hx)]
theorem paired_of {α β : Type} {R : α → β → Prop} {f : α → β} : ∀ (xs : List α), (∀ x ∈ xs, R x (f x)) → Paired R xs (xs.map f)
  | [], _ => .nil
  | x :: xs, h => .cons (h x List.mem_cons_self) (paired_of xs fun y hy => h y (List.mem_cons_of_mem _ hy))
theorem ints_inj : ∀ {l : List Value} {x y : List Int}, IntsAre l x → IntsAre l y → x = y
  | _, _, _, .nil, .nil => rfl
  | _, _, _, .cons _ _ h, .cons _ _ h' => by rw [ints_inj h h']
section
variable {X : Cx}
theorem cr_sortTup : CallR X (.builtin "sorted") (rSortT X.K) := by
  classical
  intro pins s σ H vs us Q I r h
  obtain ⟨a, xs, ps, rfl, hs, hx, q⟩ := h
  obtain ⟨its, rv, hl, hz⟩ := I.list hs
  obtain ⟨u, rfl, ru⟩ := vals1 r
  obtain rfl : u = Value.ref a := ru
  obtain ⟨e1, e2⟩ := refs_back rv fun x m => by
    obtain ⟨p, _, _, t, e, _⟩ := paired_mem hx x m
    exact ⟨t, e⟩
  let k : Value → List Int := fun u => if z : ∃ ns, IsIT s.heap u ns then z.choose else []
  have uniq : ∀ u ns, IsIT s.heap u ns → k u = ns := fun u ns hu => by
    have z : ∃ ns, IsIT s.heap u ns := ⟨ns, hu⟩
    have ek : k u = z.choose := dif_pos z
    obtain ⟨a1, o1, i1, n1, e1, h1, c1, d1, j1⟩ := z.choose_spec
    obtain ⟨a2, o2, i2, n2, e2, h2, c2, d2, j2⟩ := hu
    rw [e1] at e2; cases e2
    rw [h1] at h2; cases h2
    rw [d1] at d2; cases d2
    rw [ek]
    exact ints_inj j1 j2
  have raw : ∀ t ns, SqT X.K H t (ns.map V.int) → IsIT s.heap (.ref t) ns := fun t ns ht => by
    obtain ⟨its2, r2, ⟨o, ho, hc, n, hd⟩, _⟩ := I.tuple ht
    exact ⟨t, o, _, n, rfl, ho, hc, hd, by simpa using r2.ints⟩
  have hk : ∀ x ∈ xs, ∀ ns, (ns ≠ [] ∧ ∃ t, x = V.ref t ∧ SqT X.K H t (ns.map V.int)) → ∃ t, x = .ref t ∧ k (.ref t) = ns ∧ IsIT s.heap (.ref t) ns ∧ ns ≠ [] := fun x hm ns ⟨hne, t, et, ht⟩ => ⟨t, et, uniq _ _ (raw t ns ht), raw t ns ht, hne⟩
  let kV : V → List Int := fun x => match x with
    | .ref t => k (.ref t)
    | _ => []
  have hkV : xs.map kV = ps := paired_map hx fun x hm ns hr => by
    obtain ⟨t, rfl, h1, _⟩ := hk x hm ns hr
    exact h1
  refine sorted_it (k := k) hl.isList (by rw [← rv.length]; exact hz) (fun v hv => ?_) fun h' d out h1 h2 kp hd hn => ?_
  · obtain ⟨t, rfl⟩ := e2 v hv
    have hm : V.ref t ∈ xs := by rw [e1]; exact List.mem_map.mpr ⟨_, hv, rfl⟩
    obtain ⟨ns, _, hr⟩ := paired_mem hx _ hm
    obtain ⟨t', e, h3, h4, h5⟩ := hk _ hm ns hr
    cases e
    rw [h3]
    exact ⟨h4, h5⟩
  · have h3 : ∀ u ∈ out, ∃ a, u = Value.ref a := fun u hu => e2 u (h2.perm.mem_iff.mp hu)
    obtain ⟨n, hn⟩ := hn
    have hb : (out.map backV).Perm xs := by
      rw [e1]
      exact h2.perm.map _
    have hkb : ∀ u ∈ out, kV (backV u) = k u := fun u hu => by
      obtain ⟨t, rfl⟩ := h3 u hu
      rfl
    have hso : (out.map backV).map kV = sortT ps := by
      refine sortT_uniq ?_ ?_
      · rw [← hkV]
        exact hb.map _
      · rw [List.map_map, show out.map (kV ∘ backV) = out.map k from List.map_congr_left hkb, List.pairwise_map]
        exact h1.imp fun z => by unfold leI; simpa using z
    refine ⟨.ref d, upd H d (.lst (out.map backV)), I.laid (t' := s.toks) kp hd ⟨?_, out, n, vals_back h3, hn⟩, rfl, q _ d hb (fun R hR => ?_) (I.hok.fresh hd)⟩
    · rw [hb.length_eq]
      exact hz
    · rw [← hso]
      refine paired_of _ fun y hy => ?_
      have hy' : y ∈ xs := hb.mem_iff.mp hy
      obtain ⟨ns, _, hr⟩ := paired_mem hR y hy'
      obtain ⟨i, hi⟩ := List.getElem?_of_mem hy'
      have both : ∀ {ys : List V} {qs : List (List Int)} {R1 R2 : V → List Int → Prop}, Paired R1 ys qs → Paired R2 ys qs → ∀ y ∈ ys, ∃ q, R1 y q ∧ R2 y q := by
        intro ys qs R1 R2 p1
        induction p1 with
        | nil => intro _ y h; cases h
        | cons r1 t1 ih =>
          intro p2 y h
          cases p2 with
          | cons r2 t2 =>
            rcases List.mem_cons.mp h with rfl | h
            · exact ⟨_, r1, r2⟩
            · exact ih t2 y h
      obtain ⟨q, q1, q2⟩ := both hR hx y hy'
      obtain ⟨t, rfl, h4, _⟩ := hk y hy' q q2
      show R (V.ref t) (k (.ref t))
      rw [h4]
      exact q1
end
def dSortT : List D → Option (List D)
  | [.lst ds] => match intsOf ds with
    | some ns => some ((sortI ns).map .int)
    | none => (tupsOf ds).map fun ps => (sortT ps).map tupD
  | _ => none
def rSortX (K : PySem.W.Frag) : List V → Hp → VK → Prop := fun xs H Q => rSortedI K xs H Q ∨ rSortT K xs H Q
theorem call_sortX {X : Cx} : CallR X (.builtin "sorted") (rSortX X.K) := cr_sortedI.or cr_sortTup
theorem tups_rep {K : PySem.W.Frag} {F : Hp} : ∀ {ds : List D} {vs : List V} {ps : List (List Int)}, Reps K F vs ds → tupsOf ds = some ps → Paired (fun x ns => ns ≠ [] ∧ ∃ t, x = V.ref t ∧ SqT K F t (ns.map V.int)) vs ps ∧ ds = ps.map tupD
  | [], _, _, .nil, h => by cases h; exact ⟨.nil, rfl⟩
  | d :: ds, _, ps, .cons r t, h => by
    cases d with
    | tup xs =>
      rw [tupsOf] at h
      obtain ⟨ns, hn, h⟩ := Option.bind_eq_some_iff.mp h
      split at h
      · cases h
      · rename_i hne
        obtain ⟨qs, e, h⟩ := Option.map_eq_some_iff.mp h
        subst h
        cases r with
        | tup s rr =>
          obtain ⟨h1, h2⟩ := reps_ints rr hn
          obtain ⟨k1, k2⟩ := tups_rep t e
          subst h1
          refine ⟨.cons ⟨hne, _, rfl, s⟩ k1, ?_⟩
          rw [List.map_cons, ← k2]
          unfold tupD
          rw [← h2]
    | _ => simp [tupsOf] at h
theorem paired_reps {K : PySem.W.Frag} {F : Hp} : ∀ {vs : List V} {ps : List (List Int)}, Paired (fun x ns => Rep K F x (tupD ns)) vs ps → Reps K F vs (ps.map tupD)
  | _, _, .nil => .nil
  | _, _, .cons r t => .cons r (paired_reps t)
theorem reps_paired {K : PySem.W.Frag} {F : Hp} : ∀ {vs : List V} {ps : List (List Int)}, Reps K F vs (ps.map tupD) → Paired (fun x ns => Rep K F x (tupD ns)) vs ps
  | _, [], .nil => .nil
  | _, p :: ps, .cons r t => .cons r (reps_paired t)
theorem f_sortX {K : PySem.W.Frag} : CallL K (rSortX K) dSortT := by
  intro F H xs ds cs hle r h Q hQ
  unfold dSortT at h
  split at h
  · obtain ⟨v, rfl, r1⟩ := reps1 r
    cases r1 with
    | @lst a vs _ s t =>
      split at h
      · rename_i ns e
        cases h
        obtain ⟨h1, h2⟩ := reps_ints t e
        subst h1
        refine .inl ⟨a, ns, rfl, hle.seq (.inl s), fun ns' p hp hpw hf => ?_⟩
        refine hQ p _ hf ?_
        rw [sortI_uniq hp hpw]
        exact Reps.ints _
      · obtain ⟨ps, e, h⟩ := Option.map_eq_some_iff.mp h
        subst h
        obtain ⟨h1, h2⟩ := tups_rep t e
        refine .inr ⟨a, vs, ps, rfl, hle.seq (.inl s), ?_, fun ys p hperm hR hf => ?_⟩
        · exact Paired.mapP h1 fun x ns ⟨n1, t, e, q⟩ => ⟨n1, t, e, Same.sqt hle q⟩
        · subst h2
          exact hQ p _ hf (paired_reps (hR _ (reps_paired t)))
  · cases h
end DL

/-! DL6: isinstance of built-in types, subscripts, slices, lists put together. -/
namespace DL
open PySem PySem.Spec L2

/-! ### isinstance -/
def D.isA (d : D) (n : String) : Option Bool :=
  match d with
  | .non => some false
  | .bl _ => some (n == "bool" || n == "int")
  | .int _ => some (n == "int")
  | .str _ => some (n == "str")
  | .tup _ => some (n == "tuple")
  | .lst _ => some (n == "list")
  | .scr _ => some (n == "list")
  | .dic _ _ => some (n == "dict")
  | _ => none
def tyName (n : String) : Bool := n == "bool" || n == "int" || n == "str" || n == "tuple" || n == "list" || n == "dict"
def dIsi : List D → Option D
  | [d, .ty n] => if tyName n = true then (d.isA n).map .bl else none
  | _ => none
theorem kitB_all : ∀ n ∈ ["bool", "int", "str", "tuple", "list", "dict"], kitB "NoneType" n = some false ∧ kitB "bool" n = some (n == "bool" || n == "int") ∧ kitB "int" n = some (n == "int") ∧ kitB "str" n = some (n == "str") ∧
    kitB "tuple" n = some (n == "tuple") ∧ kitB "list" n = some (n == "list") ∧ kitB "dict" n = some (n == "dict") := by decide +kernel
theorem kitB_is {n : String} (h : tyName n = true) : kitB "NoneType" n = some false ∧ kitB "bool" n = some (n == "bool" || n == "int") ∧ kitB "int" n = some (n == "int") ∧ kitB "str" n = some (n == "str") ∧
    kitB "tuple" n = some (n == "tuple") ∧ kitB "list" n = some (n == "list") ∧ kitB "dict" n = some (n == "dict") := by
  refine kitB_all n ?_
  unfold tyName at h
  simp only [Bool.or_eq_true, beq_iff_eq] at h
  simp only [List.mem_cons, List.not_mem_nil, or_false]
  rcases h with ((((h | h) | h) | h) | h) | h <;> simp [h]
theorem tyx_tup {K : PySem.W.Frag} {H : Hp} {a : Addr} {xs : List V} (h : SqT K H a xs) : TyX K H (.ref a) (.type "tuple") := by
  rcases h with (h | ⟨o, h⟩) | ⟨o, its, n, h1, h2, _⟩
  · exact .base (.tup h)
  · exact .fTuple h
  · exact .kTuple h1 h2
theorem tyx_lst {K : PySem.W.Frag} {H : Hp} {a : Addr} {xs : List V} (h : SqL K H a xs) : TyX K H (.ref a) (.type "list") := by
  rcases h with (h | ⟨o, h⟩) | ⟨o, its, n, h1, h2, _⟩
  · exact .base (.lst h)
  · exact .base (.frz h)
  · exact .kList h1 h2
theorem f_isi {K : PySem.W.Frag} : CallS K (rIsi K) dIsi := by
  intro H xs ds c r h
  unfold dIsi at h
  split at h
  · rename_i d n
    obtain ⟨v, v', rfl, r1, r2⟩ := reps2 r
    cases r2
    split at h
    · rename_i hn
      obtain ⟨b, e, h⟩ := Option.map_eq_some_iff.mp h
      subst h
      obtain ⟨k0, k1, k2, k3, k4, k5, k6⟩ := kitB_is hn
      refine ⟨.bl b, rfl, fun Q q => ?_⟩
      have go : ∀ {t : String}, TyX K H v (.type t) → kitB t n = some b → rIsi K [v, .ty n] H Q := fun ht hk => ⟨v, .ty n, _, _, b, rfl, .ty n, ht, kit_ty hk, q⟩
      cases r1 with
      | non => exact go (.base .non) (by rw [k0]; exact e)
      | bl x => exact go (.base (.bl x)) (by rw [k1]; exact e)
      | int x => exact go (.base (.int x)) (by rw [k2]; exact e)
      | str x => exact go (.base (.str x)) (by rw [k3]; exact e)
      | ty x => cases e
      | cls x => cases e
      | tup s t => exact go (tyx_tup s) (by rw [k4]; exact e)
      | lst s t => exact go (tyx_lst (.inl s)) (by rw [k5]; exact e)
      | scr s => exact go (tyx_lst s) (by rw [k5]; exact e)
      | dicK s t => exact go (.base (.dK s)) (by rw [k6]; exact e)
      | dicT s t => exact go (.base (.dT s)) (by rw [k6]; exact e)
      | ins s t => cases e
    · cases h
  · cases h
section
variable {X : Cx} {pv : List V} {W : WX} {p q k l : Bool} {e a b c : Expr} {es : List Expr} {pos : Pos}
/-- a built-in class's name -/
theorem dx_ty {x : Str} {T : String} {pp : Pos} (hg : Gl X x) (hm : X.mg x = none) (hv : bootBuiltins x = some (.type T)) (hn : x ≠ "__name__" := by decide) (hd : (x == ("__debug__" : Str)) = false := by decide) : DX X pv W true true (.Name x pp) (mC (.ty T)) :=
  dx_c (pe_bltn (v := .ty T) hg hm hv rfl hn hd) fun _ => .ty T
/-- a constant of the module -/
theorem dx_glob {x : Str} {v : V} {d : D} {u : Value} {pp : Pos} (hg : Gl X x) (hm : X.mg x = some u) (r : RelV v u) (hr : ∀ F, Rep X.K F v d) (hd : (x == ("__debug__" : Str)) = false := by decide) : DX X pv W true true (.Name x pp) (mC d) :=
  dx_c (pe_glob hg hm r hd) hr

/-! ### subscripts -/
def dIx : D → D → Option D
  | .lst xs, .int i => atI xs i
  | .tup xs, .int i => atI xs i
  | .scr ns, .int i => (atI ns i).map .int
  | .str z, .int i => if z.length ≤ 16777216 then (atI z.cps.toList i).map fun c => .str ⟨#[c]⟩ else none
  | _, _ => none
theorem reps_at {K : PySem.W.Frag} {F : Hp} {vs : List V} {ds : List D} {i : Int} {d : D} (r : Reps K F vs ds) (h : atI ds i = some d) : ∃ v, atI vs i = some v ∧ Rep K F v d := by
  unfold atI at h ⊢
  rw [r.length]
  cases e : ixN ds.length i with
  | none => rw [e] at h; cases h
  | some j =>
    rw [e] at h
    exact r.get h
theorem ix_go {K : PySem.W.Frag} {F H : Hp} {x y : V} {a b c : D} (hF : Same F H) (ra : Rep K F x a) (rb : Rep K H y b) (h : dIx a b = some c) : ∃ v, Rep K F v c ∧ ∀ Q : VK, Q v H → rIx K x y H Q := by
  unfold dIx at h
  split at h
  · cases rb
    cases ra with
    | lst s t =>
      obtain ⟨v, h1, h2⟩ := reps_at t h
      exact ⟨v, h2, fun Q q => .inl ⟨_, _, _, v, rfl, rfl, hF.seq (.inl s), h1, q⟩⟩
  · cases rb
    cases ra with
    | tup s t =>
      obtain ⟨v, h1, h2⟩ := reps_at t h
      exact ⟨v, h2, fun Q q => .inr (.inl ⟨_, _, _, v, rfl, rfl, Same.sqt hF s, h1, q⟩)⟩
  · cases rb
    cases ra with
    | scr s =>
      obtain ⟨n, e, h⟩ := Option.map_eq_some_iff.mp h
      subst h
      exact ⟨_, .int n, fun Q q => .inl ⟨_, _, _, .int n, rfl, rfl, hF.seq s, by unfold atI at e ⊢; rw [List.length_map]; cases e2 : ixN _ _ with
        | none => rw [e2] at e; cases e
        | some j => rw [e2] at e; show (List.map V.int _)[j]? = _; rw [List.getElem?_map]; have e : _[j]? = some n := e; rw [e]; rfl, q⟩⟩
  · cases rb
    cases ra
    split at h
    · rename_i hl
      obtain ⟨c', e, h⟩ := Option.map_eq_some_iff.mp h
      subst h
      exact ⟨_, .str _, fun Q q => .inr (.inr ⟨_, _, c', rfl, rfl, by rw [sizeLine_eq]; exact hl, e, q⟩)⟩
    · cases h
  · cases h
theorem dx_ix {ma mb : SD → ER D} (ha : DX X pv W p k a ma) (hb : DX X pv W q l b mb) (hk : (k || q) = true := by rfl) (hs : PlainIx b := by exact fun _ _ => rfl) : DX X pv W (p && q) k (.Subscript a b pos) (mOp dIx ma mb) := by
  obtain ⟨ta, a1, a2⟩ := ha
  obtain ⟨tb, b1, b2⟩ := hb
  refine ⟨_, pe_ix ix_seq a1 b1 hs, fun G F sd σ H Q s => ?_⟩
  refine Meets.bind (a2 G F sd σ H _ s) fun x F1 H1 dx sd1 s1 s2 s3 s4 => ?_
  refine Meets.bindL (b2 G F1 sd1 σ H1 _ s2) fun y F2 H2 dy sd2 t1 t2 t3 t4 => ?_
  cases e : dIx dx dy with
  | none => exact True.intro
  | some c =>
    cases k with
    | true =>
      obtain ⟨v, h1, h2⟩ := ix_go t2.fh (Rep.mono t1 (show Rep X.K F1 x dx from s3)) (RSx.see t3 t2) e
      exact Meets.here t2 (show RSx X.K true G F2 sd2 H2 σ v c from h1) (h2 Q)
    | false =>
      obtain ⟨v, h1, h2⟩ := ix_go (Same.refl H2) (Rep.mono (t4 (by simpa using hk)).1 (show Rep X.K H1 x dx from s3)) (RSx.see t3 t2) e
      exact Meets.here t2 (show RSx X.K false G F2 sd2 H2 σ v c from h1) (h2 Q)
/-- a flat value that was seen is frozen -/
def mFlat (a : SD → ER D) : SD → ER D := fun sd => (a sd).bind fun x sd1 => if x.sc.isSome = true then .ok x sd1 else .bad
theorem rep_flat {K : PySem.W.Frag} {F H : Hp} {v : V} {d : D} (r : Rep K H v d) (h : d.sc.isSome = true) : Rep K F v d := by
  cases r <;> first | (simp [D.sc] at h; done) | constructor
theorem DX.flat {m : SD → ER D} (h : DX X pv W p k e m) : DX X pv W p true e (mFlat m) := by
  obtain ⟨te, h1, h2⟩ := h
  refine ⟨te, h1, fun G F sd σ H Q s => ?_⟩
  have z := h2 G F sd σ H Q s
  unfold mFlat
  revert z
  cases m sd with
  | bad => exact id
  | rz x sd1 => exact id
  | ok d sd1 =>
    intro z
    show Meets X.K pv W G σ (RSx X.K true) p sd F H (if d.sc.isSome = true then .ok d sd1 else .bad) Q _
    split
    · rename_i hf
      exact fun hQ => z fun v F1 H1 s1 s2 s3 s4 => hQ v F1 H1 s1 s2 (rep_flat (RSx.see s3 s2) hf) s4
    · exact True.intro

/-! ### lists to be read: their items are frozen -/
def RSq (K : PySem.W.Frag) (k : Bool) : RSt V (List D) := fun _ F _ H _ v ds => ∃ a vs, v = .ref a ∧ Rd (if k = true then F else H) a (.lst vs) ∧ Reps K F vs ds
def TrQ (K : PySem.W.Frag) (pv : List V) (W : WX) (p k : Bool) (te : TE) (m : SD → ER (List D)) : Prop := ∀ G F sd σ H Q, StR K pv G F sd σ H → Meets K pv W G σ (RSq K k) p sd F H (m sd) Q (te σ H Q)
structure DQ (X : Cx) (pv : List V) (W : WX) (p k : Bool) (e : Expr) (m : SD → ER (List D)) : Prop where
  ex : ∃ te, PE X e te ∧ TrQ X.K pv W p k te m
def qFz (a : SD → ER D) : SD → ER (List D) := fun sd => (a sd).bind fun x sd1 => match x with
  | .lst ds => .ok ds sd1
  | _ => .bad
/-- the items, if they are all frozen -/
def fzOf : List OT → Option (List D)
  | [] => some []
  | .fz d :: r => (fzOf r).map (d :: ·)
  | _ => none
theorem fzOf_map : ∀ ds : List D, fzOf (ds.map OT.fz) = some ds
  | [] => rfl
  | d :: ds => by rw [List.map_cons, fzOf, fzOf_map ds]; rfl
theorem fzOf_eq : ∀ {ts : List OT} {ds : List D}, fzOf ts = some ds → ts = ds.map OT.fz
  | [], ds, h => by cases h; rfl
  | .fz d :: r, ds, h => by
    rw [fzOf] at h
    obtain ⟨es, e, h⟩ := Option.map_eq_some_iff.mp h
    subst h
    rw [fzOf_eq e]; rfl
  | .ol _ :: _, _, h => by simp [fzOf] at h
  | .od _ _ _ :: _, _, h => by simp [fzOf] at h
  | .oi _ _ _ :: _, _, h => by simp [fzOf] at h
def SD.tree (sd : SD) (i : Nat) : Option OT := match sd.sl[i]? with
  | some (.ow t) => some t
  | some (.pa j) => sd.pa[j]?
  | _ => none
def OT.items : OT → Option (List D)
  | .ol ts => fzOf ts
  | .fz (.lst ds) => some ds
  | _ => none
def qSee (i : Nat) : SD → ER (List D) := fun sd => ER.opt ((sd.tree i).bind OT.items) sd
def qNew (a : SD → ER OT) : SD → ER (List D) := fun sd => (a sd).bind fun t sd1 => ER.opt t.items sd1
theorem items_rep {K : PySem.W.Frag} {F H : Hp} {t : OT} {v : V} {P : Addr → Prop} {ds : List D} (hF : Same F H) (r : RepO K F H t v P) (h : t.items = some ds) : ∃ a vs, v = .ref a ∧ Rd H a (.lst vs) ∧ Reps K F vs ds := by
  cases t with
  | ol ts =>
    have h : fzOf ts = some ds := h
    have e := fzOf_eq h
    subst e
    unfold RepO at r
    obtain ⟨a, vs, rfl, _, h1, h2⟩ := r
    exact ⟨a, vs, rfl, .inl h1, repOs_fz h2⟩
  | fz d =>
    unfold RepO at r
    cases d with
    | lst es =>
      have h : some es = some ds := h
      cases h
      cases r with
      | lst s t => exact ⟨_, _, rfl, Same.rd hF s, t⟩
    | _ => cases h
  | od _ _ _ => cases h
  | oi _ _ _ => cases h
theorem StR.tree {K : PySem.W.Frag} {G F H : Hp} {sd : SD} {σ : L2.St} {i : Nat} {t : OT} (s : StR K pv G F sd σ H) (h : sd.tree i = some t) : ∃ v P, σ[i]? = some (some v) ∧ RepO K F H t v P := by
  obtain ⟨o, w⟩ := s
  unfold SD.tree at h
  split at h
  · rename_i t' e
    cases h
    obtain ⟨v, h1, h2⟩ := w.sl i _ e
    exact ⟨v, _, h1, h2⟩
  · rename_i j e
    obtain ⟨v, h1, h2⟩ := w.sp i j e
    obtain ⟨v', h3, h4⟩ := w.pr j t h
    rw [h1] at h3; cases h3
    exact ⟨v, _, h2, h4⟩
  · cases h
theorem DX.dq {m : SD → ER D} (h : DX X pv W p true e m) : DQ X pv W p true e (qFz m) := by
  obtain ⟨te, h1, h2⟩ := h
  refine ⟨te, h1, fun G F sd σ H Q s => ?_⟩
  have z := h2 G F sd σ H Q s
  unfold qFz
  revert z
  cases m sd with
  | bad => exact id
  | rz x sd1 => exact id
  | ok d sd1 =>
    intro z
    cases d with
    | lst ds =>
      intro hQ
      refine z fun v F1 H1 s1 s2 s3 s4 => hQ v F1 H1 s1 s2 ?_ s4
      have s3 : Rep X.K F1 v (.lst ds) := s3
      cases s3 with
      | lst s t => exact ⟨_, _, rfl, s, t⟩
    | _ => exact True.intro
theorem dq_see {i : Nat} {x : Str} {pp : Pos} (h : PE X (.Name x pp) (tVar i)) : DQ X pv W true false (.Name x pp) (qSee i) := by
  refine ⟨_, h, fun G F sd σ H Q s => ?_⟩
  unfold qSee
  cases e : sd.tree i with
  | none => exact True.intro
  | some t =>
    cases e2 : t.items with
    | none =>
      show Meets X.K pv W G σ (RSq X.K false) true sd F H (ER.opt (t.items) sd) Q _
      rw [e2]; exact True.intro
    | some ds =>
      show Meets X.K pv W G σ (RSq X.K false) true sd F H (ER.opt (t.items) sd) Q _
      rw [e2]
      obtain ⟨v, P, h1, h2⟩ := s.tree e
      exact Meets.here s (show RSq X.K false G F sd H σ v ds from items_rep s.fh h2 e2) fun q => ⟨v, h1, q⟩
theorem DO.dq {m : SD → ER OT} (h : DO X pv W p e m) : DQ X pv W p false e (qNew m) := by
  obtain ⟨te, h1, h2⟩ := h
  refine ⟨te, h1, fun G F sd σ H Q s => ?_⟩
  have z := h2 G F sd σ H Q s
  unfold qNew
  revert z
  cases m sd with
  | bad => exact id
  | rz x sd1 => exact id
  | ok t sd1 =>
    intro z
    show Meets X.K pv W G σ (RSq X.K false) p sd F H (ER.opt t.items sd1) Q _
    cases e2 : t.items with
    | none => exact True.intro
    | some ds =>
      intro hQ
      refine z fun v F1 H1 s1 s2 s3 s4 => hQ v F1 H1 s1 s2 ?_ s4
      obtain ⟨o, P, w, r, _⟩ := s3
      exact items_rep w.fh r e2
theorem RSq.see {K : PySem.W.Frag} {k : Bool} {G F H : Hp} {sd : SD} {σ : L2.St} {v : V} {ds : List D} (r : RSq K k G F sd H σ v ds) (s : StR K pv G F sd σ H) : ∃ a vs, v = .ref a ∧ Rd H a (.lst vs) ∧ Reps K F vs ds := by
  obtain ⟨a, vs, e, h1, h2⟩ := r
  refine ⟨a, vs, e, ?_, h2⟩
  cases k with
  | true => exact Same.rd s.fh h1
  | false => exact h1
/-- carried on to a later heap -/
theorem RSq.on {K : PySem.W.Frag} {k q : Bool} {G F H F2 H2 : Hp} {sd sd2 sd3 : SD} {σ : L2.St} {v : V} {ds : List D} (r : RSq K k G F sd H σ v ds) (hk : (k || q) = true) (t1 : Same F F2) (t2 : StR K pv G F2 sd2 σ H2) (t4 : q = true → Same H H2 ∧ sd2 = sd3) : ∃ a vs, v = .ref a ∧ Rd H2 a (.lst vs) ∧ Reps K F2 vs ds := by
  obtain ⟨a, vs, e, h1, h2⟩ := r
  refine ⟨a, vs, e, ?_, h2.mono t1⟩
  cases k with
  | true => exact Same.rd t2.fh (Same.rd t1 h1)
  | false => exact Same.rd (t4 (by simpa using hk)).1 h1
/-- l[i] -/
def mAt (a : SD → ER (List D)) (b : SD → ER D) : SD → ER D := fun sd => (a sd).bind fun ds sd1 => (b sd1).bind fun y sd2 => match y with
  | .int i => ER.opt (atI ds i) sd2
  | _ => .bad
theorem dx_at {ma : SD → ER (List D)} {mb : SD → ER D} (ha : DQ X pv W p k a ma) (hb : DX X pv W q l b mb) (hk : (k || q) = true := by rfl) (hs : PlainIx b := by exact fun _ _ => rfl) : DX X pv W (p && q) true (.Subscript a b pos) (mAt ma mb) := by
  obtain ⟨ta, a1, a2⟩ := ha
  obtain ⟨tb, b1, b2⟩ := hb
  refine ⟨_, pe_ix ix_list a1 b1 hs, fun G F sd σ H Q s => ?_⟩
  refine Meets.bind (a2 G F sd σ H _ s) fun x F1 H1 ds sd1 s1 s2 s3 s4 => ?_
  refine Meets.bindL (b2 G F1 sd1 σ H1 _ s2) fun y F2 H2 dy sd2 t1 t2 t3 t4 => ?_
  have r := RSx.see t3 t2
  cases dy with
  | int i =>
    cases r
    show Meets X.K pv W G σ (RSx X.K true) true sd2 F2 H2 (ER.opt (atI ds i) sd2) Q _
    cases e : atI ds i with
    | none => exact True.intro
    | some c =>
      obtain ⟨aa, vs, rfl, h1, h2⟩ := s3.on hk t1 t2 t4
      obtain ⟨v, h3, h4⟩ := reps_at h2 e
      exact Meets.here t2 (show RSx X.K true G F2 sd2 H2 σ v c from h4) fun q => ⟨aa, vs, i, v, rfl, rfl, .inl h1, h3, q⟩
  | _ => exact True.intro
/-- l + m, a new list -/
def mCat (a b : SD → ER (List D)) : SD → ER OT := fun sd => (a sd).bind fun xs sd1 => (b sd1).bind fun ys sd2 => if xs.length + ys.length ≤ 16777216 then .ok (.ol ((xs ++ ys).map .fz)) sd2 else .bad
end
end DL

/-! DL7: lists put together, slices. -/
namespace DL
open PySem PySem.Spec L2
open PyProof.Rows (Subscript_ tail_any)
section
variable {X : Cx} {pv : List V} {W : WX} {p q k l : Bool} {e a b c : Expr} {es : List Expr} {pos : Pos}
/-- a list's object by what may be read -/
theorem rd_list {pins : List (Addr × Obj)} {σ : L2.St} {H : Hp} {s : Shared} {a : Addr} {xs : List V} (I : Inv X pins σ H s) (h : Rd H a (.lst xs)) :
    xs.length ≤ sizeLine ∧ ∃ (its : List Value) (n : Nat), Vals xs its ∧ xs.length = its.length ∧ s.heap.get? a = some { cls := .type "list", data := .seq its.toArray n } := by
  obtain ⟨z, its, n, r, e⟩ := (show ObjOk X.prog X.w H s.heap a (.lst xs) from h.ok I.hok)
  exact ⟨z, its, n, r, r.length, e⟩
def rCatR : R2 := fun x y H Q => ∃ l b xs zs, x = .ref l ∧ y = .ref b ∧ Rd H l (.lst xs) ∧ Rd H b (.lst zs) ∧ xs.length + zs.length ≤ sizeLine ∧ ∀ p, H p = none → Q (.ref p) (upd H p (.lst (xs ++ zs)))
theorem op_catR : OpR X (binaryOp .Add) rCatR := by
  intro pins s σ H x y v u Q I rx ry h
  obtain ⟨l, b, xs, zs, rfl, rfl, hH, hB, hz, q⟩ := h
  cases rx
  cases ry
  obtain ⟨z, its, n, r, hl, e⟩ := rd_list I hH
  obtain ⟨z2, its2, n2, r2, hl2, e2⟩ := rd_list I hB
  refine PySem.P.add_list e e2 ?_ (by rw [List.size_toArray, List.size_toArray]; omega)
  have ea : its.toArray ++ its2.toArray = (its ++ its2).toArray := by simp
  rw [ea]
  exact ⟨.ref _, _, I.lnew (t' := s.toks) (r.append r2) (by rw [List.length_append]; omega), rfl, q _ I.fresh⟩
theorem tr_cat {ta tb : TE} {ma mb : SD → ER (List D)} (ha : TrQ X.K pv W p k ta ma) (hb : TrQ X.K pv W q l tb mb) (hk : (k || q) = true) : TrO X.K pv W (p && q) (tOp rCatR ta tb) (mCat ma mb) := by
  intro G F sd σ H Q s
  refine Meets.bind (ha G F sd σ H _ s) fun x F1 H1 xs sd1 s1 s2 s3 s4 => ?_
  refine Meets.bindL (hb G F1 sd1 σ H1 _ s2) fun y F2 H2 ys sd2 t1 t2 t3 t4 => ?_
  split
  · rename_i hz
    intro hQ
    obtain ⟨aa, vs, rfl, h1, h2⟩ := s3.on hk t1 t2 t4
    obtain ⟨bb, ws, rfl, h3, h4⟩ := t3.see t2
    refine ⟨aa, bb, vs, ws, rfl, rfl, h1, h3, by rw [h2.length, h4.length, sizeLine_eq]; exact hz, fun p hp => ?_⟩
    have z := t2.newL hp (h2.append h4)
    exact hQ _ _ _ (Same.refl _) z.drop z fun _ => ⟨Same.upd hp, rfl⟩
  · exact True.intro
theorem do_cat {ma mb : SD → ER (List D)} (ha : DQ X pv W p k a ma) (hb : DQ X pv W q l b mb) (hk : (k || q) = true := by rfl) : DO X pv W (p && q) (.BinOp a .Add b pos) (mCat ma mb) := by
  obtain ⟨ta, a1, a2⟩ := ha
  obtain ⟨tb, b1, b2⟩ := hb
  exact ⟨_, pe_op op_catR a1 b1, tr_cat a2 b2 hk⟩

/-! ### slices -/
def TrP (K : PySem.W.Frag) (pv : List V) (W : WX) (p : Bool) (to : TO) (m : SD → ER (Option Int)) : Prop := ∀ G F sd σ H Q, StR K pv G F sd σ H → Meets K pv W G σ (fun _ _ _ _ _ (v d : Option Int) => v = d) p sd F H (m sd) Q (to σ H Q)
structure DP (X : Cx) (pv : List V) (W : WX) (p : Bool) (e : Option Expr) (m : SD → ER (Option Int)) : Prop where
  ex : ∃ to, PO X e to ∧ TrP X.K pv W p to m
def oNone : SD → ER (Option Int) := fun sd => .ok none sd
def oSome (a : SD → ER D) : SD → ER (Option Int) := fun sd => (a sd).bind fun x sd1 => match x with
  | .int i => .ok (some i) sd1
  | _ => .bad
theorem dp_none : DP X pv W true none oNone := ⟨_, po_none, fun G F sd σ H Q s => Meets.here s rfl id⟩
theorem dp_some {m : SD → ER D} (h : DX X pv W p k e m) : DP X pv W p (some e) (oSome m) := by
  obtain ⟨te, a1, a2⟩ := h
  refine ⟨_, po_some a1, fun G F sd σ H Q s => ?_⟩
  refine Meets.bindL (a2 G F sd σ H _ s) fun x F1 H1 dx sd1 s1 s2 s3 s4 => ?_
  have r := RSx.see s3 s2
  cases dx with
  | int i =>
    cases r
    exact Meets.here s2 rfl fun q => ⟨i, rfl, q⟩
  | _ => exact True.intro
def cutL {α : Type} (xs : List α) (lo hi : Option Int) : List α := (xs.drop (HT.sIx xs.length 0 lo)).take (HT.sIx xs.length xs.length hi - HT.sIx xs.length 0 lo)
theorem reps_cut {K : PySem.W.Frag} {F : Hp} {vs : List V} {ds : List D} (lo hi : Option Int) (r : Reps K F vs ds) : Reps K F (cutV vs lo hi) (cutL ds lo hi) := by
  unfold cutV cutL
  rw [r.length]
  exact (r.drop _).take _
/-- l[lo:hi], a new list -/
def mCut (a : SD → ER (List D)) (lo hi : SD → ER (Option Int)) : SD → ER OT := fun sd => (a sd).bind fun xs sd1 => (lo sd1).bind fun i sd2 => (hi sd2).bind fun j sd3 => .ok (.ol ((cutL xs i j).map .fz)) sd3
theorem do_cut {lo hi : Option Expr} {p2 : Pos} {ma : SD → ER (List D)} {ml mh : SD → ER (Option Int)} {q1 q2 : Bool} (ha : DQ X pv W p k a ma) (hl : DP X pv W q1 lo ml) (hh : DP X pv W q2 hi mh) (hk : (k || (q1 && q2)) = true := by rfl) :
    DO X pv W (p && (q1 && q2)) (.Subscript a (.Slice lo hi none p2) pos) (mCut ma ml mh) := by
  obtain ⟨ta, a1, a2⟩ := ha
  obtain ⟨tl, b1, b2⟩ := hl
  obtain ⟨th, c1, c2⟩ := hh
  refine ⟨_, pe_slice sl_list a1 b1 c1, fun G F sd σ H Q s => ?_⟩
  refine Meets.bind (a2 G F sd σ H _ s) fun x F1 H1 xs sd1 s1 s2 s3 s4 => ?_
  refine Meets.bind (b2 G F1 sd1 σ H1 _ s2) fun i F2 H2 i' sd2 t1 t2 t3 t4 => ?_
  refine Meets.bindL (c2 G F2 sd2 σ H2 _ t2) fun j F3 H3 j' sd3 u1 u2 u3 u4 => ?_
  have t3 : i = i' := t3
  have u3 : j = j' := u3
  subst t3 u3
  intro hQ
  have s34 : (q1 && q2) = true → Same H1 H3 ∧ sd3 = sd1 := fun z => by
    rw [Bool.and_eq_true] at z
    obtain ⟨x1, x2⟩ := t4 z.1
    obtain ⟨y1, y2⟩ := u4 z.2
    exact ⟨x1.trans y1, y2.trans x2⟩
  obtain ⟨aa, vs, rfl, h1, h2⟩ := s3.on hk (t1.trans u1) u2 s34
  refine ⟨aa, vs, rfl, .inl h1, fun p hp => ?_⟩
  have z := u2.newL hp (reps_cut i j h2)
  exact hQ _ _ _ (Same.refl _) z.drop z fun _ => ⟨Same.upd hp, rfl⟩
/-- t[lo:hi] of a frozen list, a tuple, a text -/
def mCutX (a : SD → ER D) (lo hi : SD → ER (Option Int)) : SD → ER D := fun sd => (a sd).bind fun x sd1 => (lo sd1).bind fun i sd2 => (hi sd2).bind fun j sd3 => match x with
  | .lst xs => .ok (.lst (cutL xs i j)) sd3
  | .tup xs => .ok (.tup (cutL xs i j)) sd3
  | .str z => if z.length ≤ 16777216 then .ok (.str (cutS z i j)) sd3 else .bad
  | _ => .bad
theorem cut_whole {α : Type} {xs : List α} {lo hi : Option Int} (h : HT.sIx xs.length 0 lo = 0 ∧ HT.sIx xs.length xs.length hi = xs.length) : cutL xs lo hi = xs := by
  unfold cutL
  rw [h.1, h.2]
  simp
theorem sl_any : SlR X (fun x lo hi H Q => rSlL X.K x lo hi H Q ∨ (rSlA X.K x lo hi H Q ∨ rSlS x lo hi H Q)) := sl_list.or (sl_tupA.or sl_str)
theorem dx_cut {lo hi : Option Expr} {p2 : Pos} {ma : SD → ER D} {ml mh : SD → ER (Option Int)} {q1 q2 : Bool} (ha : DX X pv W p true a ma) (hl : DP X pv W q1 lo ml) (hh : DP X pv W q2 hi mh) :
    DX X pv W (p && (q1 && q2)) true (.Subscript a (.Slice lo hi none p2) pos) (mCutX ma ml mh) := by
  obtain ⟨ta, a1, a2⟩ := ha
  obtain ⟨tl, b1, b2⟩ := hl
  obtain ⟨th, c1, c2⟩ := hh
  refine ⟨_, pe_slice sl_any a1 b1 c1, fun G F sd σ H Q s => ?_⟩
  refine Meets.bind (a2 G F sd σ H _ s) fun x F1 H1 dx sd1 s1 s2 s3 s4 => ?_
  refine Meets.bind (b2 G F1 sd1 σ H1 _ s2) fun i F2 H2 i' sd2 t1 t2 t3 t4 => ?_
  refine Meets.bindL (c2 G F2 sd2 σ H2 _ t2) fun j F3 H3 j' sd3 u1 u2 u3 u4 => ?_
  have t3 : i = i' := t3
  have u3 : j = j' := u3
  subst t3 u3
  have rx : Rep X.K F3 x dx := Rep.mono (t1.trans u1) (show Rep X.K F1 x dx from s3)
  cases dx with
  | lst xs =>
    intro hQ
    cases rx with
    | @lst aa vs _ h1 h2 =>
      refine .inl ⟨aa, vs, rfl, .inl (Same.rd u2.fh h1), fun p hp => ?_⟩
      exact hQ _ _ _ (u2.sameNew hp) (u2.new hp) (.lst (.inl upd_same) ((reps_cut i j h2).mono (u2.sameNew hp))) fun _ => ⟨Same.upd hp, rfl⟩
  | tup xs =>
    intro hQ
    cases rx with
    | @tup aa vs _ h1 h2 =>
      refine .inr (.inl ⟨aa, vs, rfl, Same.sqt u2.fh h1, fun hw => ?_, fun hw p hp => ?_⟩)
      · refine hQ _ _ _ (Same.refl _) u2 ?_ fun _ => ⟨Same.refl _, rfl⟩
        rw [h2.length] at hw
        rw [cut_whole hw]
        exact .tup h1 h2
      · exact hQ _ _ _ (u2.sameNew hp) (u2.new hp) (.tup (.inl (.inl upd_same)) ((reps_cut i j h2).mono (u2.sameNew hp))) fun _ => ⟨Same.upd hp, rfl⟩
  | str z =>
    cases rx
    show Meets X.K pv W G σ (RSx X.K true) true sd3 F3 H3 (if z.length ≤ 16777216 then .ok (.str (cutS z i j)) sd3 else .bad) Q _
    split
    · rename_i hz
      exact Meets.here u2 (show RSx X.K true G F3 sd3 H3 σ _ _ from .str _) fun q => .inr (.inr ⟨z, rfl, by rw [sizeLine_eq]; exact hz, q⟩)
    · exact True.intro
  | _ => exact True.intro
/-- l[lo:hi:st] -/
def pickL {α : Type} (xs : List α) (lo hi st : Option Int) : List α := (sliceRange (sliceBounds lo hi st xs.length).1 (sliceBounds lo hi st xs.length).2.1 (sliceBounds lo hi st xs.length).2.2).filterMap (xs[·]?)
def tSl3 (K : PySem.W.Frag) (te : TE) (tl th ts : TO) : TE := fun σ H Q => te σ H fun x H1 => tl σ H1 fun l H2 => th σ H2 fun u H3 => ts σ H3 fun o H4 => ∃ a xs, x = .ref a ∧ Rd H4 a (.lst xs) ∧ o ≠ some 0 ∧ ∀ p, H4 p = none → Q (.ref p) (upd H4 p (.lst (pickL xs l u o)))
theorem vals_pick {xs : List V} {us : List Value} (r : Vals xs us) : ∀ ks : List Nat, Vals (ks.filterMap (xs[·]?)) (ks.filterMap (us[·]?))
  | [] => .nil
  | k :: ks => by
    rw [List.filterMap_cons, List.filterMap_cons]
    cases e : xs[k]? with
    | none =>
      rw [r.none_of e]
      exact vals_pick r ks
    | some x =>
      obtain ⟨u, h1, h2⟩ := r.get e
      rw [h1]
      exact .cons h2 (vals_pick r ks)
theorem reps_pick {K : PySem.W.Frag} {F : Hp} {vs : List V} {ds : List D} (r : Reps K F vs ds) : ∀ ks : List Nat, Reps K F (ks.filterMap (vs[·]?)) (ks.filterMap (ds[·]?))
  | [] => .nil
  | k :: ks => by
    rw [List.filterMap_cons, List.filterMap_cons]
    cases e : vs[k]? with
    | none =>
      have e2 : ds[k]? = none := by
        rw [List.getElem?_eq_none_iff] at e ⊢
        rw [← r.length]; exact e
      rw [e2]
      exact reps_pick r ks
    | some x =>
      obtain ⟨u, h1, h2⟩ := r.get' e
      rw [h1]
      exact .cons h2 (reps_pick r ks)
theorem pick_len {α : Type} (xs : List α) (ks : List Nat) : (ks.filterMap (xs[·]?)).length ≤ ks.length := List.length_filterMap_le _ _
theorem pe_slice3 {e : Expr} {te : TE} {lo hi : Option Expr} {st : Expr} {tl th ts : TO} {p3 pos : Pos} (he : PE X e te) (hl : PO X lo tl) (hh : PO X hi th) (hst : PO X (some st) ts) : PE X (.Subscript e (.Slice lo hi (some st) p3) pos) (tSl3 X.K te tl th ts) := by
  refine ⟨fun pins s σ H Q I h => ?_⟩
  refine Subscript_ (thn (he.run pins s σ H _ I h) fun v s1 ⟨x, H1, I1, r1, q1⟩ => ?_)
  refine wpAny_Slice (thn (hl.run pins s1 σ H1 _ I1 q1) fun vl s2 ⟨l, H2, I2, pl, q2⟩ => ?_)
  refine thn (hh.run pins s2 σ H2 _ I2 q2) fun vu s3 ⟨u, H3, I3, pu, q3⟩ => ?_
  refine thn (hst.run pins s3 σ H3 _ I3 q3) fun vs s4 ⟨o, H4, I4, ps, q4⟩ => ?_
  obtain ⟨a, xs, ex, hx, ho, q⟩ := q4
  subst ex
  cases r1
  have I5 : Inv X pins σ H4 { s4 with heap := s4.heap.push { cls := .type "slice", data := .fields #[vl, vu, vs] } } := I4.kept (t' := s4.toks) fun b ob q => Heap.get?_push_of_some _ q
  obtain ⟨its, r, ht, hz⟩ := I5.list (.inl hx)
  have hlen := r.length
  show wpAny (model X.prog X.w) X.A (PyProof.Rows.subscriptTail e (.Slice lo hi (some st) p3) (.ref a) (.ref s4.heap.objs.size)) (EP X pins σ Q) X.xe { s4 with heap := s4.heap.push { cls := .type "slice", data := .fields #[vl, vu, vs] } }
  refine tail_any (ops := [.ref a, .ref s4.heap.objs.size]) ht.isList.typeIs (PySem.slot_list_getitem.lookup) ?_ (by with_unfolding_all rfl)
  refine wpAny_getItem_list_slice ht.isList (Heap.IsSliceOf.new _ vl vu vs) pl pu ps ho ?_ (by rw [List.size_toArray]; omega)
  have ep : slicePick its.toArray l u o = ((sliceRange (sliceBounds l u o xs.length).1 (sliceBounds l u o xs.length).2.1 (sliceBounds l u o xs.length).2.2).filterMap (its[·]?)).toArray := by
    unfold slicePick
    rw [List.size_toArray, hlen]
    congr 1
    congr 1
    funext i
    simp
  rw [ep]
  have hr : Vals (pickL xs l u o) _ := vals_pick r _
  refine ⟨.ref _, _, I5.laid (t' := s4.toks) (o := .lst (pickL xs l u o)) (fun b ob q => Heap.get?_push_of_some _ q) (Nat.le_refl _) ?_, rfl, q _ (I5.hok.fresh (Nat.le_refl _))⟩
  refine ⟨?_, _, 0, hr, Heap.get?_push_size _ rfl⟩
  have hs := slicePick_size_le its.toArray l u o
  rw [ep, List.size_toArray, List.size_toArray] at hs
  rw [hr.length]
  omega
def mPick (a : SD → ER (List D)) (lo hi st : SD → ER (Option Int)) : SD → ER OT := fun sd => (a sd).bind fun xs sd1 => (lo sd1).bind fun i sd2 => (hi sd2).bind fun j sd3 => (st sd3).bind fun o sd4 => if o = some 0 then .bad else .ok (.ol ((pickL xs i j o).map .fz)) sd4
theorem do_pick {lo hi : Option Expr} {st : Expr} {p3 : Pos} {ma : SD → ER (List D)} {ml mh ms : SD → ER (Option Int)} {q1 q2 q3 : Bool} (ha : DQ X pv W p k a ma) (hl : DP X pv W q1 lo ml) (hh : DP X pv W q2 hi mh) (hs : DP X pv W q3 (some st) ms) (hk : (k || (q1 && (q2 && q3))) = true := by rfl) :
    DO X pv W (p && (q1 && (q2 && q3))) (.Subscript a (.Slice lo hi (some st) p3) pos) (mPick ma ml mh ms) := by
  obtain ⟨ta, a1, a2⟩ := ha
  obtain ⟨tl, b1, b2⟩ := hl
  obtain ⟨th, c1, c2⟩ := hh
  obtain ⟨ts, d1, d2⟩ := hs
  refine ⟨_, pe_slice3 a1 b1 c1 d1, fun G F sd σ H Q s => ?_⟩
  refine Meets.bind (a2 G F sd σ H _ s) fun x F1 H1 xs sd1 s1 s2 s3 s4 => ?_
  refine Meets.bind (b2 G F1 sd1 σ H1 _ s2) fun i F2 H2 i' sd2 t1 t2 t3 t4 => ?_
  refine Meets.bind (c2 G F2 sd2 σ H2 _ t2) fun j F3 H3 j' sd3 u1 u2 u3 u4 => ?_
  refine Meets.bindL (d2 G F3 sd3 σ H3 _ u2) fun o F4 H4 o' sd4 v1 v2 v3 v4 => ?_
  have t3 : i = i' := t3
  have u3 : j = j' := u3
  have v3 : o = o' := v3
  subst t3 u3 v3
  split
  · exact True.intro
  · rename_i ho
    intro hQ
    have s34 : (q1 && (q2 && q3)) = true → Same H1 H4 ∧ sd4 = sd1 := fun z => by
      rw [Bool.and_eq_true, Bool.and_eq_true] at z
      obtain ⟨x1, x2⟩ := t4 z.1
      obtain ⟨y1, y2⟩ := u4 z.2.1
      obtain ⟨w1, w2⟩ := v4 z.2.2
      exact ⟨(x1.trans y1).trans w1, (w2.trans y2).trans x2⟩
    obtain ⟨aa, vs, rfl, h1, h2⟩ := s3.on hk ((t1.trans u1).trans v1) v2 s34
    refine ⟨aa, vs, rfl, h1, ho, fun p hp => ?_⟩
    have hr : Reps X.K F4 (pickL vs i j o) (pickL xs i j o) := by
      unfold pickL
      rw [h2.length]
      exact reps_pick h2 _
    have z := v2.newL hp hr
    exact hQ _ _ _ (Same.refl _) z.drop z fun _ => ⟨Same.upd hp, rfl⟩
end
end DL

/-! DL8: targets, what is walked, for, while, comprehensions. -/
namespace DL
open PySem PySem.Spec L2

/-! ### what is wanted of a statement's end -/
def Wants (K : PySem.W.Frag) (pv : List V) (W : WX) (G F : Hp) (r : Fl) (D : Ends) : Prop :=
  match r with
  | .nx sd' => ∀ F' σ' H', Same F F' → StR K pv G F' sd' σ' H' → D.nx σ' H'
  | .rt t sd' => ∀ v F' σ' H', Same F F' → StR1 K pv G F' sd' σ' H' v t → D.rt v H'
  | .bk sd' => ∀ F' σ' H', Same F F' → StR K pv G F' sd' σ' H' → D.bk σ' H'
  | .ct sd' => ∀ F' σ' H', Same F F' → StR K pv G F' sd' σ' H' → D.ct σ' H'
  | .rz x sd' => ∀ cls dd F' σ' H', Same F F' → StR K pv G F' sd' σ' H' → RepX K F' cls dd x → W cls dd σ' H'
  | .bad => False
section
variable {K : PySem.W.Frag} {pv : List V} {W : WX} {G F F1 : Hp} {r : Fl} {D : Ends} {P : Prop}
theorem meetsS_of (h : Wants K pv W G F r D → P) : MeetsS K pv W G F r D P := by
  cases r with
  | bad => exact True.intro
  | _ => exact h
theorem MeetsS.get (h : MeetsS K pv W G F r D P) (w : Wants K pv W G F r D) : P := by
  cases r with
  | bad => exact w.elim
  | _ => exact h w
theorem Wants.mono (e : Same F F1) (w : Wants K pv W G F r D) : Wants K pv W G F1 r D := by
  cases r with
  | bad => exact w
  | nx sd => exact fun F' σ' H' s => w F' σ' H' (e.trans s)
  | bk sd => exact fun F' σ' H' s => w F' σ' H' (e.trans s)
  | ct sd => exact fun F' σ' H' s => w F' σ' H' (e.trans s)
  | rt t sd => exact fun v F' σ' H' s => w v F' σ' H' (e.trans s)
  | rz x sd => exact fun c d F' σ' H' s => w c d F' σ' H' (e.trans s)
end

/-! ### targets -/
def wipeS (l : List S) : List Nat → List S
  | [] => l
  | v :: vs => (wipeS l vs).set v .un
def SD.wipe (sd : SD) (vs : List Nat) : SD := { sd with sl := wipeS sd.sl vs }
def backS (l orig : List S) : List Nat → List S
  | [] => l
  | v :: vs => (backS l orig vs).set v ((orig[v]?).getD .un)
def SD.back (sd orig : SD) (vs : List Nat) : SD := { sd with sl := backS sd.sl orig.sl vs }
theorem wipeS_length (l : List S) : ∀ vs : List Nat, (wipeS l vs).length = l.length
  | [] => rfl
  | v :: vs => by unfold wipeS; rw [List.length_set, wipeS_length l vs]
theorem backS_length (l o : List S) : ∀ vs : List Nat, (backS l o vs).length = l.length
  | [] => rfl
  | v :: vs => by unfold backS; rw [List.length_set, backS_length l o vs]
theorem wipeS_in {l : List S} {i : Nat} : ∀ {vs : List Nat}, i ∈ vs → i < l.length → (wipeS l vs)[i]? = some .un
  | v :: vs, h, hl => by
    unfold wipeS
    by_cases e : v = i
    · subst e
      rw [List.getElem?_set_self (by rw [wipeS_length]; exact hl)]
    · rw [List.getElem?_set_ne e]
      exact wipeS_in ((List.mem_cons.mp h).resolve_left (fun z => e z.symm)) hl
theorem wipeS_out {l : List S} {i : Nat} : ∀ {vs : List Nat}, i ∉ vs → (wipeS l vs)[i]? = l[i]?
  | [], _ => rfl
  | v :: vs, h => by
    unfold wipeS
    rw [List.getElem?_set_ne (fun z => h (by rw [z]; exact List.mem_cons_self))]
    exact wipeS_out fun z => h (List.mem_cons_of_mem _ z)
theorem backS_in {l o : List S} {i : Nat} : ∀ {vs : List Nat}, i ∈ vs → i < l.length → (backS l o vs)[i]? = some ((o[i]?).getD .un)
  | v :: vs, h, hl => by
    unfold backS
    by_cases e : v = i
    · subst e
      rw [List.getElem?_set_self (by rw [backS_length]; exact hl)]
    · rw [List.getElem?_set_ne e]
      exact backS_in ((List.mem_cons.mp h).resolve_left (fun z => e z.symm)) hl
theorem backS_out {l o : List S} {i : Nat} : ∀ {vs : List Nat}, i ∉ vs → (backS l o vs)[i]? = l[i]?
  | [], _ => rfl
  | v :: vs, h => by
    unfold backS
    rw [List.getElem?_set_ne (fun z => h (by rw [z]; exact List.mem_cons_self))]
    exact backS_out fun z => h (List.mem_cons_of_mem _ z)
theorem wipeS_set {l : List S} {i : Nat} {x : S} {vs : List Nat} (h : i ∈ vs) : wipeS (l.set i x) vs = wipeS l vs := by
  refine List.ext_getElem? fun j => ?_
  by_cases hj : j ∈ vs
  · by_cases hl : j < l.length
    · rw [wipeS_in hj (by rw [List.length_set]; exact hl), wipeS_in hj hl]
    · rw [List.getElem?_eq_none (by rw [wipeS_length, List.length_set]; omega), List.getElem?_eq_none (by rw [wipeS_length]; omega)]
  · rw [wipeS_out hj, wipeS_out hj, List.getElem?_set_ne (fun z => hj (by rw [← z]; exact h))]
theorem wipe_set {σ : L2.St} {i : Nat} {v : Option V} : ∀ {vs : List Nat}, i ∈ vs → wipe (σ.set i v) vs = wipe σ vs
  | [], h => by cases h
  | j :: vs, h => by
    unfold wipe
    by_cases hj : i ∈ vs
    · rw [wipe_set hj]
    · have e : i = j := by
        rcases List.mem_cons.mp h with e | h
        · exact e
        · exact absurd h hj
      subst e
      have go : ∀ (us : List Nat), i ∉ us → wipe (σ.set i v) us = (wipe σ us).set i v := fun us => by
        induction us with
        | nil => intro _; rfl
        | cons u us ih =>
          intro hn
          unfold wipe
          rw [ih fun z => hn (List.mem_cons_of_mem _ z), List.set_comm _ _ (fun z => hn (by rw [z]; exact List.mem_cons_self))]
      rw [go vs hj, List.set_set]
structure DG (X : Cx) (is : List Nat) (tg : Expr) (g : D → SD → Option SD) : Prop where
  ex : ∃ t, PG X tg t ∧ ∀ (pv : List V) (G F : Hp) (sd : SD) (σ : L2.St) (H : Hp) (x : V) (d : D) (sd' : SD), StR X.K pv G F sd σ H → Rep X.K F x d → g d sd = some sd' →
    ∃ σ', StR X.K pv G F sd' σ' H ∧ (∀ vs : List Nat, (∀ i ∈ is, i ∈ vs) → wipe σ' vs = wipe σ vs) ∧ ∀ Q : L2.St → Hp → Prop, Q σ' H → t x σ H Q
  wip : ∀ (vs : List Nat), (∀ i ∈ is, i ∈ vs) → ∀ d sd sd', g d sd = some sd' → SD.wipe sd' vs = SD.wipe sd vs
structure DGs (X : Cx) (is : List Nat) (tgs : List Expr) (g : List D → SD → Option SD) : Prop where
  ex : ∃ t, PGs X tgs t ∧ ∀ (pv : List V) (G F : Hp) (sd : SD) (σ : L2.St) (H : Hp) (xs : List V) (ds : List D) (sd' : SD), StR X.K pv G F sd σ H → Reps X.K F xs ds → g ds sd = some sd' →
    ∃ σ', StR X.K pv G F sd' σ' H ∧ (∀ vs : List Nat, (∀ i ∈ is, i ∈ vs) → wipe σ' vs = wipe σ vs) ∧ ∀ Q : L2.St → Hp → Prop, Q σ' H → t xs σ H Q
  wip : ∀ (vs : List Nat), (∀ i ∈ is, i ∈ vs) → ∀ d sd sd', g d sd = some sd' → SD.wipe sd' vs = SD.wipe sd vs
def SD.putFz (sd : SD) (i : Nat) (d : D) : Option SD := if i < sd.sl.length then some { sd with sl := sd.sl.set i (.ow (.fz d)) } else none
def tgN (i : Nat) : D → SD → Option SD := fun d sd => sd.putFz i d
def tgNil : List D → SD → Option SD := fun ds sd => match ds with
  | [] => some sd
  | _ => none
def tgCons (g : D → SD → Option SD) (h : List D → SD → Option SD) : List D → SD → Option SD := fun ds sd => match ds with
  | d :: r => (g d sd).bind fun sd1 => h r sd1
  | [] => none
def tgT (n : Nat) (h : List D → SD → Option SD) : D → SD → Option SD := fun d sd => match d with
  | .tup ds => if ds.length = n then h ds sd else none
  | _ => none
section
variable {X : Cx} {pos : Pos}
theorem dg_name {i : Nat} {x : Str} (hN : X.N.Nodup) (hi : X.N[i]? = some x) (hx : Loc X.env.scope x) (hf : X.fn x = true ∨ X.env.scope.names.lookup x = some .local := by first | exact .inl rfl | exact .inr rfl | assumption) : DG X [i] (.Name x pos) (tgN i) := by
  refine ⟨⟨_, pg_name hN hi hx hf, fun pv G F sd σ H x d sd' s r e => ?_⟩, fun vs h d sd sd' e => ?_⟩
  · unfold tgN SD.putFz at e
    split at e
    · rename_i hl
      cases e
      exact ⟨_, (StR1.fz s r).store hl, fun vs h => wipe_set (h i List.mem_cons_self), fun Q q => q⟩
    · cases e
  · unfold tgN SD.putFz at e
    split at e
    · cases e
      show SD.mk (wipeS (sd.sl.set i _) vs) sd.pa = SD.mk (wipeS sd.sl vs) sd.pa
      rw [wipeS_set (h i List.mem_cons_self)]
    · cases e
theorem dgs_nil : DGs X [] [] tgNil := by
  refine ⟨⟨_, pgs_nil, fun pv G F sd σ H xs ds sd' s r e => ?_⟩, fun vs h d sd sd' e => ?_⟩
  · unfold tgNil at e
    cases r with
    | nil => cases e; exact ⟨σ, s, fun _ _ => rfl, fun Q q => ⟨rfl, q⟩⟩
    | cons _ _ => cases e
  · unfold tgNil at e
    cases d with
    | nil => cases e; rfl
    | cons _ _ => cases e
theorem dgs_cons {is js : List Nat} {e : Expr} {es : List Expr} {g : D → SD → Option SD} {h : List D → SD → Option SD} (h1 : DG X is e g) (h2 : DGs X js es h)
    (hs : (assignEach (e :: es) X.env).map (·.2) = assign e X.env :: (assignEach es X.env).map (·.2) := by rfl) : DGs X (is ++ js) (e :: es) (tgCons g h) := by
  obtain ⟨⟨t, a1, a2⟩, a3⟩ := h1
  obtain ⟨⟨u, b1, b2⟩, b3⟩ := h2
  refine ⟨⟨_, pgs_cons a1 b1 hs, fun pv G F sd σ H xs ds sd' s r e => ?_⟩, fun vs hv d sd sd' e => ?_⟩
  · cases r with
    | nil => cases e
    | cons r rr =>
      obtain ⟨sd1, e1, e2⟩ := Option.bind_eq_some_iff.mp e
      obtain ⟨σ1, s1, w1, k1⟩ := a2 pv G F sd σ H _ _ sd1 s r e1
      obtain ⟨σ2, s2, w2, k2⟩ := b2 pv G F sd1 σ1 H _ _ sd' s1 rr e2
      exact ⟨σ2, s2, fun vs hv => (w2 vs fun i hi => hv i (List.mem_append_right _ hi)).trans (w1 vs fun i hi => hv i (List.mem_append_left _ hi)), fun Q q => ⟨_, _, rfl, k1 _ (k2 Q q)⟩⟩
  · cases d with
    | nil => cases e
    | cons d ds =>
      obtain ⟨sd1, e1, e2⟩ := Option.bind_eq_some_iff.mp e
      rw [b3 vs (fun i hi => hv i (List.mem_append_right _ hi)) _ _ _ e2, a3 vs (fun i hi => hv i (List.mem_append_left _ hi)) _ _ _ e1]
theorem dg_tup {is : List Nat} {es : List Expr} {kk n : Nat} {h : List D → SD → Option SD} (hc : X.calm = true) (h1 : DGs X is es h)
    (hn : (assignEach es X.env).length = n := by rfl) (hst : (assignEach es X.env).findIdx? (·.1) = none := by rfl) : DG X is (.Tuple es kk pos) (tgT n h) := by
  obtain ⟨⟨t, a1, a2⟩, a3⟩ := h1
  refine ⟨⟨_, pg_tup hc a1 hn hst, fun pv G F sd σ H x d sd' s r e => ?_⟩, fun vs hv d sd sd' e => ?_⟩
  · unfold tgT at e
    cases d with
    | tup ds =>
      have e : (if ds.length = n then h ds sd else none) = some sd' := e
      split at e
      · rename_i hl
        cases r with
        | @tup a vs _ q rr =>
          obtain ⟨σ1, s1, w1, k1⟩ := a2 pv G F sd σ H _ _ sd' s rr e
          exact ⟨σ1, s1, w1, fun Q q' => ⟨a, vs, rfl, Same.sqt s.fh q, by rw [rr.length]; exact hl, k1 Q q'⟩⟩
      · cases e
    | _ => cases e
  · unfold tgT at e
    cases d with
    | tup ds =>
      have e : (if ds.length = n then h ds sd else none) = some sd' := e
      split at e
      · exact a3 vs hv _ _ _ e
      · cases e
    | _ => cases e
end

/-! ### what is walked -/
structure Walk (K : PySem.W.Frag) (J : It) (F : Hp) (ds : List D) : Prop where
  stop : ∀ F' H', Same F F' → Same F' H' → J.stop ds.length H'
  go : ∀ F' H' i d, Same F F' → Same F' H' → ds[i]? = some d → J.go i H'
  yld : ∀ F' H' i d x H'', Same F F' → Same F' H' → ds[i]? = some d → J.yld i H' x H'' → (H'' = H' ∧ Rep K F' x d) ∨ ∃ T vs es, x = .ref T ∧ d = .tup es ∧ H' T = none ∧ H'' = upd H' T (.tup vs) ∧ Reps K F' vs es
def RSw (K : PySem.W.Frag) : RSt It (List D) := fun _ F _ _ _ J ds => Walk K J F ds
def TrI (K : PySem.W.Frag) (pv : List V) (W : WX) (p : Bool) (wi : TI) (m : SD → ER (List D)) : Prop := ∀ G F sd σ H R, StR K pv G F sd σ H → Meets K pv W G σ (RSw K) p sd F H (m sd) R (wi σ H R)
structure DI (X : Cx) (pv : List V) (W : WX) (p : Bool) (tg iter : Expr) (m : SD → ER (List D)) : Prop where
  ex : ∃ wi, PI X tg iter wi ∧ TrI X.K pv W p wi m
def iLst (a : SD → ER D) : SD → ER (List D) := fun sd => (a sd).bind fun x sd1 => match x with
  | .lst ds => .ok ds sd1
  | .scr ns => .ok (ns.map .int) sd1
  | _ => .bad
def iTuP (a : SD → ER D) : SD → ER (List D) := fun sd => (a sd).bind fun x sd1 => match x with
  | .tup ds => .ok ds sd1
  | _ => .bad
def rangeD (lo : Int) (n : Nat) : List D := (List.range n).map fun (i : Nat) => D.int (lo + (i : Int))
def iRange1 (a : SD → ER (List D)) : SD → ER (List D) := fun sd => (a sd).bind fun xs sd1 => match xs with
  | [.int j] => if -(2 ^ 62) ≤ j ∧ j < 2 ^ 62 then .ok (rangeD 0 j.toNat) sd1 else .bad
  | _ => .bad
def iRange2 (a : SD → ER (List D)) : SD → ER (List D) := fun sd => (a sd).bind fun xs sd1 => match xs with
  | [.int i, .int j] => if -(2 ^ 62) ≤ i ∧ i < 2 ^ 62 ∧ -(2 ^ 62) ≤ j ∧ j < 2 ^ 62 then .ok (rangeD i (j - i).toNat) sd1 else .bad
  | _ => .bad
def iZip2 (a : SD → ER (List D)) : SD → ER (List D) := fun sd => (a sd).bind fun xs sd1 => match xs with
  | [.lst xs, .lst ys] => .ok ((xs.zip ys).map fun p => .tup [p.1, p.2]) sd1
  | _ => .bad
def iEnumL (a : SD → ER (List D)) : SD → ER (List D) := fun sd => (a sd).bind fun xs sd1 => match xs with
  | [.lst xs] => .ok (xs.zipIdx.map fun p => .tup [.int (p.2 : Int), p.1]) sd1
  | _ => .bad
section
variable {K : PySem.W.Frag} {F H : Hp}
theorem walk_list {a : Addr} {vs : List V} {ds : List D} (h : SqL K F a vs) (r : Reps K F vs ds) : Walk K (Itl K a) F ds where
  stop := fun F' H' e1 e2 => ⟨vs, (e1.trans e2).seq h, by rw [r.length]; exact Nat.le_refl _⟩
  go := fun F' H' i d e1 e2 hd => by
    obtain ⟨v, h1, _⟩ := r.get hd
    exact ⟨vs, v, (e1.trans e2).seq h, h1⟩
  yld := fun F' H' i d x H'' e1 e2 hd ⟨hH, hx⟩ => by
    obtain ⟨v, h1, h2⟩ := r.get hd
    have := hx vs ((e1.trans e2).seq h)
    rw [h1] at this; cases this
    exact .inl ⟨hH, h2.mono e1⟩
theorem walk_tup {a : Addr} {vs : List V} {ds : List D} (h : SqT K F a vs) (r : Reps K F vs ds) : Walk K (Itt K a) F ds where
  stop := fun F' H' e1 e2 => ⟨vs, Same.sqt (e1.trans e2) h, by rw [r.length]; exact Nat.le_refl _⟩
  go := fun F' H' i d e1 e2 hd => by
    obtain ⟨v, h1, _⟩ := r.get hd
    exact ⟨vs, v, Same.sqt (e1.trans e2) h, h1⟩
  yld := fun F' H' i d x H'' e1 e2 hd ⟨hH, hx⟩ => by
    obtain ⟨v, h1, h2⟩ := r.get hd
    have := hx vs (Same.sqt (e1.trans e2) h)
    rw [h1] at this; cases this
    exact .inl ⟨hH, h2.mono e1⟩
theorem rangeD_get {lo : Int} {n i : Nat} {d : D} (h : (rangeD lo n)[i]? = some d) : i < n ∧ d = .int (lo + i) := by
  unfold rangeD at h
  rw [List.getElem?_map] at h
  obtain ⟨j, h1, h2⟩ := Option.map_eq_some_iff.mp h
  obtain ⟨hi, e⟩ := List.getElem?_eq_some_iff.mp h1
  rw [List.getElem_range] at e
  rw [List.length_range] at hi
  subst e
  exact ⟨hi, h2.symm⟩
theorem rangeD_length (lo : Int) (n : Nat) : (rangeD lo n).length = n := by unfold rangeD; rw [List.length_map, List.length_range]
theorem walk_range (lo : Int) (n : Nat) : Walk K (Itr lo n) F (rangeD lo n) where
  stop := fun F' H' _ _ => by rw [rangeD_length]; exact Nat.le_refl n
  go := fun F' H' i d _ _ hd => (rangeD_get hd).1
  yld := fun F' H' i d x H'' _ _ hd ⟨hH, hx⟩ => by
    rw [hx, (rangeD_get hd).2]
    exact .inl ⟨hH, .int _⟩
theorem walk_zip {a b : Addr} {vs ws : List V} {ds es : List D} (h : SqL K F a vs) (r : Reps K F vs ds) (h' : SqL K F b ws) (r' : Reps K F ws es) : Walk K (Itz K a b) F ((ds.zip es).map fun p => .tup [p.1, p.2]) where
  stop := fun F' H' e1 e2 => by
    refine ⟨vs, ws, (e1.trans e2).seq h, (e1.trans e2).seq h', ?_⟩
    rw [List.length_map, List.length_zip, r.length, r'.length]
    omega
  go := fun F' H' i d e1 e2 hd => by
    rw [List.getElem?_map] at hd
    obtain ⟨⟨d1, d2⟩, h1, _⟩ := Option.map_eq_some_iff.mp hd
    rw [List.getElem?_zip_eq_some] at h1
    obtain ⟨v, k1, _⟩ := r.get h1.1
    obtain ⟨w, k2, _⟩ := r'.get h1.2
    exact ⟨vs, ws, v, w, (e1.trans e2).seq h, (e1.trans e2).seq h', k1, k2⟩
  yld := fun F' H' i d x H'' e1 e2 hd ⟨T, y, z, hx, hT, hH, q1, q2⟩ => by
    rw [List.getElem?_map] at hd
    obtain ⟨⟨d1, d2⟩, h1, hd⟩ := Option.map_eq_some_iff.mp hd
    rw [List.getElem?_zip_eq_some] at h1
    obtain ⟨v, k1, k3⟩ := r.get h1.1
    obtain ⟨w, k2, k4⟩ := r'.get h1.2
    have a1 := q1 vs ((e1.trans e2).seq h)
    have a2 := q2 ws ((e1.trans e2).seq h')
    rw [k1] at a1; cases a1
    rw [k2] at a2; cases a2
    exact .inr ⟨T, [y, z], [d1, d2], hx, hd.symm, hT, hH, .cons (k3.mono e1) (.cons (k4.mono e1) .nil)⟩
theorem walk_enum {a : Addr} {vs : List V} {ds : List D} (h : SqL K F a vs) (r : Reps K F vs ds) : Walk K (Ite K a) F (ds.zipIdx.map fun p => .tup [.int (p.2 : Int), p.1]) where
  stop := fun F' H' e1 e2 => ⟨vs, (e1.trans e2).seq h, by rw [List.length_map, List.length_zipIdx, r.length]; exact Nat.le_refl _⟩
  go := fun F' H' i d e1 e2 hd => by
    rw [List.getElem?_map] at hd
    obtain ⟨⟨d1, j⟩, h1, _⟩ := Option.map_eq_some_iff.mp hd
    rw [List.getElem?_zipIdx] at h1
    obtain ⟨d', h2, _⟩ := Option.map_eq_some_iff.mp h1
    obtain ⟨v, k1, _⟩ := r.get h2
    exact ⟨vs, v, (e1.trans e2).seq h, k1⟩
  yld := fun F' H' i d x H'' e1 e2 hd ⟨T, y, hx, hT, hH, q⟩ => by
    rw [List.getElem?_map] at hd
    obtain ⟨⟨d1, j⟩, h1, hd⟩ := Option.map_eq_some_iff.mp hd
    rw [List.getElem?_zipIdx] at h1
    obtain ⟨d', h2, h3⟩ := Option.map_eq_some_iff.mp h1
    cases h3
    obtain ⟨v, k1, k3⟩ := r.get h2
    have a1 := q vs ((e1.trans e2).seq h)
    rw [k1] at a1; cases a1
    refine .inr ⟨T, [.int (i : Nat), y], [.int (i : Nat), d1], hx, ?_, hT, hH, .cons (.int _) (.cons (k3.mono e1) .nil)⟩
    rw [← hd]; simp
end
section
variable {X : Cx} {pv : List V} {W : WX} {p q k l : Bool} {tg e a b c : Expr} {es : List Expr} {pos pp : Pos}
theorem di_list {m : SD → ER D} (h : DX X pv W p true e m) : DI X pv W p tg e (iLst m) := by
  obtain ⟨te, a1, a2⟩ := h
  refine ⟨_, pi_list a1, fun G F sd σ H R s => ?_⟩
  refine Meets.bindL (a2 G F sd σ H _ s) fun x F1 H1 dx sd1 s1 s2 s3 s4 => ?_
  have s3 : Rep X.K F1 x dx := s3
  cases dx with
  | lst ds =>
    cases s3 with
    | @lst aa vs _ h1 h2 =>
      exact Meets.here s2 (show RSw X.K G F1 sd1 H1 σ (Itl X.K aa) ds from walk_list (.inl h1) h2) fun q => ⟨aa, rfl, ⟨vs, .inl (Same.rd s2.fh h1)⟩, q⟩
  | scr ns =>
    cases s3 with
    | @scr aa _ h1 =>
      exact Meets.here s2 (show RSw X.K G F1 sd1 H1 σ (Itl X.K aa) (ns.map .int) from walk_list h1 (Reps.ints ns)) fun q => ⟨aa, rfl, ⟨_, s2.fh.seq h1⟩, q⟩
  | _ => exact True.intro
theorem di_tup {m : SD → ER D} (h : DX X pv W p true e m) : DI X pv W p tg e (iTuP m) := by
  obtain ⟨te, a1, a2⟩ := h
  refine ⟨_, pi_tup a1, fun G F sd σ H R s => ?_⟩
  refine Meets.bindL (a2 G F sd σ H _ s) fun x F1 H1 dx sd1 s1 s2 s3 s4 => ?_
  have s3 : Rep X.K F1 x dx := s3
  cases dx with
  | tup ds =>
    cases s3 with
    | @tup aa vs _ h1 h2 =>
      exact Meets.here s2 (show RSw X.K G F1 sd1 H1 σ (Itt X.K aa) ds from walk_tup h1 h2) fun q => ⟨aa, rfl, ⟨vs, Same.sqt s2.fh h1⟩, q⟩
  | _ => exact True.intro
theorem di_range1 {m : SD → ER (List D)} (hg : Gl X "range") (hm : X.mg "range" = none) (ha : DA X pv W p k [a] m) (hs : starEach [a] X.env = [(false, eval a X.env)] := by rfl) : DI X pv W p tg (.Call (.Name "range" pp) [a] [] pos) (iRange1 m) := by
  obtain ⟨ta, a1, a2⟩ := ha
  refine ⟨_, pi_range1 hg hm a1 hs, fun G F sd σ H R s => ?_⟩
  refine Meets.bindL (a2 G F sd σ H _ s) fun xs F1 H1 ds sd1 s1 s2 s3 s4 => ?_
  have r := RSl.see s3 s2
  split
  · rename_i j
    obtain ⟨v, rfl, r1⟩ := reps1 r
    cases r1
    split
    · rename_i hj
      exact Meets.here s2 (show RSw X.K G F1 sd1 H1 σ _ _ from walk_range 0 j.toNat) fun q => ⟨j, rfl, hj.1, hj.2, q⟩
    · exact True.intro
  · exact True.intro
theorem di_range2 {m : SD → ER (List D)} (hg : Gl X "range") (hm : X.mg "range" = none) (ha : DA X pv W p k [a, b] m) (hs : starEach [a, b] X.env = [(false, eval a X.env), (false, eval b X.env)] := by rfl) (hs2 : starEach [b] X.env = [(false, eval b X.env)] := by rfl) :
    DI X pv W p tg (.Call (.Name "range" pp) [a, b] [] pos) (iRange2 m) := by
  obtain ⟨ta, a1, a2⟩ := ha
  refine ⟨_, pi_range2 hg hm a1 hs hs2, fun G F sd σ H R s => ?_⟩
  refine Meets.bindL (a2 G F sd σ H _ s) fun xs F1 H1 ds sd1 s1 s2 s3 s4 => ?_
  have r := RSl.see s3 s2
  split
  · rename_i i j
    obtain ⟨v, v', rfl, r1, r2⟩ := reps2 r
    cases r1; cases r2
    split
    · rename_i hj
      exact Meets.here s2 (show RSw X.K G F1 sd1 H1 σ _ _ from walk_range i (j - i).toNat) fun q => ⟨i, j, rfl, hj, q⟩
    · exact True.intro
  · exact True.intro
theorem di_zip {elts : List Expr} {kk : Nat} {tpos : Pos} {m : SD → ER (List D)} (hg : Gl X "zip") (hm : X.mg "zip" = none) (ha : DA X pv W p true [a, b] m)
    (hs : starEach [a, b] X.env = (false, eval a X.env) :: starEach [b] X.env := by rfl) (hpl : (backTo pos (starEach [b] X.env)).any (·.1) = false := by rfl) : DI X pv W p (.Tuple elts kk tpos) (.Call (.Name "zip" pp) [a, b] [] pos) (iZip2 m) := by
  obtain ⟨ta, a1, a2⟩ := ha
  refine ⟨_, pi_zip hg hm a1 hs hpl, fun G F sd σ H R s => ?_⟩
  refine Meets.bindL (a2 G F sd σ H _ s) fun xs F1 H1 ds sd1 s1 s2 s3 s4 => ?_
  have r : Reps X.K F1 xs ds := s3
  split
  · obtain ⟨v, v', rfl, r1, r2⟩ := reps2 r
    cases r1 with
    | @lst aa vs _ h1 h2 =>
      cases r2 with
      | @lst bb ws _ h3 h4 =>
        exact Meets.here s2 (show RSw X.K G F1 sd1 H1 σ _ _ from walk_zip (.inl h1) h2 (.inl h3) h4) fun q => ⟨aa, bb, vs, ws, rfl, .inl (Same.rd s2.fh h1), .inl (Same.rd s2.fh h3), q⟩
  · exact True.intro
theorem di_enum {elts : List Expr} {kk : Nat} {tpos : Pos} {m : SD → ER (List D)} (hg : Gl X "enumerate") (hm : X.mg "enumerate" = none) (ha : DA X pv W p true [a] m)
    (hs : starEach [a] X.env = [(false, eval a X.env)] := by rfl) : DI X pv W p (.Tuple elts kk tpos) (.Call (.Name "enumerate" pp) [a] [] pos) (iEnumL m) := by
  obtain ⟨ta, a1, a2⟩ := ha
  refine ⟨_, pi_enum hg hm a1 hs, fun G F sd σ H R s => ?_⟩
  refine Meets.bindL (a2 G F sd σ H _ s) fun xs F1 H1 ds sd1 s1 s2 s3 s4 => ?_
  have r : Reps X.K F1 xs ds := s3
  split
  · obtain ⟨v, rfl, r1⟩ := reps1 r
    cases r1 with
    | @lst aa vs _ h1 h2 =>
      exact Meets.here s2 (show RSw X.K G F1 sd1 H1 σ _ _ from walk_enum (.inl h1) h2) fun q => ⟨aa, vs, rfl, .inl (Same.rd s2.fh h1), q⟩
  · exact True.intro
end

/-! ### for -/
def goFor (g : D → SD → Option SD) (body : SD → Fl) : List D → SD → Fl
  | [], sd => .nx sd
  | d :: ds, sd => match g d sd with
    | none => .bad
    | some sd1 => match body sd1 with
      | .nx sd2 => goFor g body ds sd2
      | .ct sd2 => goFor g body ds sd2
      | .bk sd2 => .nx sd2
      | r => r
def sFor (it : SD → ER (List D)) (g : D → SD → Option SD) (body : SD → Fl) : SD → Fl := fun sd => (it sd).stm fun ds sd1 => goFor g body ds sd1
section
variable {X : Cx} {pv : List V} {W : WX} {p q k l : Bool} {pos : Pos}
theorem drop_at {α : Type} {l : List α} {i : Nat} {x : α} (h : l[i]? = some x) : l.drop i = x :: l.drop (i + 1) := by
  obtain ⟨hi, e⟩ := List.getElem?_eq_some_iff.mp h
  rw [← e]
  exact List.drop_eq_getElem_cons hi
theorem ds_for {is : List Nat} {tg iter : Expr} {body : List Stmt} {mi : SD → ER (List D)} {g : D → SD → Option SD} {mb : SD → Fl} (hp : PassesOwn (model X.prog X.w) X.A X.env X.xe) (hc : X.calm = true) (hi : DI X pv W p tg iter mi) (hg : DG X is tg g) (hb : DSs X pv W body mb)
    (hs : ∀ x, foldedSetIterable iter X.env x = pure x := by intro _; rfl) : DS X pv W (.For tg iter body [] pos) (sFor mi g mb) := by
  obtain ⟨wi, a1, a2⟩ := hi
  obtain ⟨⟨t, b1, b2⟩, _⟩ := hg
  obtain ⟨tb, c1, c2⟩ := hb
  refine ⟨_, ps_for hp hc a1 b1 c1 hs, fun G F sd σ H D s => ?_⟩
  refine Meets.stm (a2 G F sd σ H _ s) fun J F1 H1 ds sd1 s1 s2 s3 => ?_
  refine meetsS_of fun w => ?_
  have wk : Walk X.K J F1 ds := s3
  refine ⟨fun i m σ H => m = ds.length - i ∧ i ≤ ds.length ∧ ∃ F' sd', Same F1 F' ∧ StR X.K pv G F' sd' σ H ∧ Wants X.K pv W G F' (goFor g mb (ds.drop i) sd') D, ⟨ds.length, by simp, Nat.zero_le _, F1, sd1, Same.refl _, s2, w⟩, ?_⟩
  rintro i m σ H ⟨rfl, hi, F', sd', f1, st, wt⟩
  by_cases hlt : i < ds.length
  · have hd : ds[i]? = some ds[i] := by simp [hlt]
    refine .inr ⟨wk.go F' H i _ f1 st.fh hd, fun σ' H' => ∃ F'' sd'', Same F1 F'' ∧ StR X.K pv G F'' sd'' σ' H' ∧ Wants X.K pv W G F'' (goFor g mb (ds.drop (i + 1)) sd'') D, fun σ' H' q => ⟨ds.length - (i + 1), by omega, rfl, hlt, q⟩, fun x H' y => ?_⟩
    rw [drop_at hd] at wt
    have main : ∀ F2 H2, Same F' F2 → StR X.K pv G F2 sd' σ H2 → Rep X.K F2 x ds[i] → t x σ H2 fun σ2 H2 => tb { D with nx := fun σ' H' => ∃ F'' sd'', Same F1 F'' ∧ StR X.K pv G F'' sd'' σ' H' ∧ Wants X.K pv W G F'' (goFor g mb (ds.drop (i + 1)) sd'') D, ct := fun σ' H' => ∃ F'' sd'', Same F1 F'' ∧ StR X.K pv G F'' sd'' σ' H' ∧ Wants X.K pv W G F'' (goFor g mb (ds.drop (i + 1)) sd'') D, bk := D.nx } σ2 H2 := fun F2 H2 f2 st2 rx => by
      rw [goFor] at wt
      cases eg : g ds[i] sd' with
      | none => rw [eg] at wt; exact wt.elim
      | some sd2 =>
        rw [eg] at wt
        dsimp only at wt
        obtain ⟨σ2, k1, _, k2⟩ := b2 pv G F2 sd' σ H2 x _ sd2 st2 rx eg
        refine k2 _ (MeetsS.get (c2 G F2 sd2 σ2 H2 _ k1) ?_)
        have wt := wt.mono f2
        revert wt
        cases mb sd2 with
        | bad => exact id
        | nx sd3 => exact fun wt F3 σ3 H3 e3 st3 => ⟨F3, sd3, (f1.trans f2).trans e3, st3, wt.mono e3⟩
        | ct sd3 => exact fun wt F3 σ3 H3 e3 st3 => ⟨F3, sd3, (f1.trans f2).trans e3, st3, wt.mono e3⟩
        | bk sd3 => exact id
        | rt tt sd3 => exact id
        | rz y sd3 => exact id
    rcases wk.yld F' H i _ x H' f1 st.fh hd y with ⟨rfl, rx⟩ | ⟨T, vs, es, rfl, ed, hT, rfl, rr⟩
    · exact main F' H' (Same.refl _) st rx
    · refine main _ _ (st.sameNew hT) (st.new (u := .tup vs) hT) ?_
      rw [ed]
      exact .tup (.inl (.inl upd_same)) (rr.mono (st.sameNew hT))
  · have e : i = ds.length := by omega
    subst e
    refine .inl ⟨wk.stop F' H f1 st.fh, ?_⟩
    rw [List.drop_length, goFor] at wt
    exact wt F' σ H (Same.refl _) st

/-! ### while -/
def goWhile (c : SD → ER Bool) (body : SD → Fl) : Nat → SD → Fl
  | 0, _ => .bad
  | n + 1, sd => (c sd).stm fun b sd1 => if b = true then (match body sd1 with
      | .nx sd2 => goWhile c body n sd2
      | .ct sd2 => goWhile c body n sd2
      | .bk sd2 => .nx sd2
      | r => r) else .nx sd1
def sWhile (fuel : SD → Nat) (c : SD → ER Bool) (body : SD → Fl) : SD → Fl := fun sd => goWhile c body (fuel sd) sd
theorem ds_while {c : Expr} {body : List Stmt} {mc : SD → ER Bool} {mb : SD → Fl} (fuel : SD → Nat) (hp : PassesOwn (model X.prog X.w) X.A X.env X.xe) (hc : DT X pv W p c mc) (hb : DSs X pv W body mb) : DS X pv W (.While c body [] pos) (sWhile fuel mc mb) := by
  obtain ⟨tc, a1, a2⟩ := hc
  obtain ⟨tb, c1, c2⟩ := hb
  refine ⟨_, ps_while hp a1 c1, fun G F sd σ H D s => ?_⟩
  refine meetsS_of fun w => ?_
  refine ⟨fun m σ H => ∃ F' sd', Same F F' ∧ StR X.K pv G F' sd' σ H ∧ Wants X.K pv W G F' (goWhile mc mb m sd') D, ⟨fuel sd, F, sd, Same.refl _, s, w⟩, ?_⟩
  rintro m σ H ⟨F', sd', f1, st, wt⟩
  cases m with
  | zero => exact wt.elim
  | succ m =>
    rw [goWhile] at wt
    refine MeetsS.get (D := D) (Meets.stm (a2 G F' sd' σ H _ st) (f := fun b sd1 => if b = true then (match mb sd1 with
      | .nx sd2 => goWhile mc mb m sd2
      | .ct sd2 => goWhile mc mb m sd2
      | .bk sd2 => .nx sd2
      | r => r) else .nx sd1) fun x F1 H1 dx sd1 s1 s2 s3 => ?_) wt
    have s3 : x = dx := s3
    subst s3
    refine meetsS_of fun wt => ?_
    cases x with
    | false =>
      rw [if_neg (by decide)] at wt ⊢
      exact wt F1 σ H1 (Same.refl _) s2
    | true =>
      rw [if_pos rfl] at wt ⊢
      refine ⟨fun σ' H' => ∃ F'' sd'', Same F F'' ∧ StR X.K pv G F'' sd'' σ' H' ∧ Wants X.K pv W G F'' (goWhile mc mb m sd'') D, fun σ' H' q => ⟨m, Nat.lt_succ_self m, q⟩, ?_⟩
      refine MeetsS.get (c2 G F1 sd1 σ H1 _ s2) ?_
      revert wt
      cases mb sd1 with
      | bad => exact id
      | nx sd3 => exact fun wt F3 σ3 H3 e3 st3 => ⟨F3, sd3, (f1.trans s1).trans e3, st3, wt.mono e3⟩
      | ct sd3 => exact fun wt F3 σ3 H3 e3 st3 => ⟨F3, sd3, (f1.trans s1).trans e3, st3, wt.mono e3⟩
      | bk sd3 => exact id
      | rt tt sd3 => exact id
      | rz y sd3 => exact id
end
end DL

/-! DL9: list comprehensions. -/
namespace DL
open PySem PySem.Spec L2

theorem wipe_in {σ : L2.St} {i : Nat} : ∀ {vs : List Nat}, i ∉ vs → (wipe σ vs)[i]? = σ[i]?
  | [], _ => rfl
  | v :: vs, h => by
    unfold wipe
    rw [List.getElem?_set_ne (fun z => h (by rw [z]; exact List.mem_cons_self))]
    exact wipe_in fun z => h (List.mem_cons_of_mem _ z)
theorem back_self {sd sd1 : SD} {vs : List Nat} (h : sd.wipe vs = sd1.wipe vs) : sd.back sd1 vs = sd1 := by
  obtain ⟨l, pa⟩ := sd
  obtain ⟨l1, pa1⟩ := sd1
  have h1 : wipeS l vs = wipeS l1 vs := congrArg SD.sl h
  have h2 : pa = pa1 := congrArg SD.pa h
  subst h2
  have hl : l.length = l1.length := by rw [← wipeS_length l vs, h1, wipeS_length]
  show SD.mk (backS l l1 vs) pa = SD.mk l1 pa
  congr 1
  refine List.ext_getElem? fun i => ?_
  by_cases hi : i ∈ vs
  · by_cases hl2 : i < l.length
    · rw [backS_in hi hl2]
      have : l1[i]? = some l1[i] := by simp [hl ▸ hl2]
      rw [this]; rfl
    · rw [List.getElem?_eq_none (by rw [backS_length]; omega), List.getElem?_eq_none (by omega)]
  · rw [backS_out hi, ← wipeS_out (l := l) hi, h1, wipeS_out hi]

section
variable {K : PySem.W.Frag} {pv : List V} {G F H : Hp} {sd : SD} {σ : L2.St}
theorem wiped_at {vs : List Nat} {i : Nat} {x : S} (h : (wipeS sd.sl vs)[i]? = some x) (hx : x ≠ .un) : i ∉ vs ∧ sd.sl[i]? = some x := by
  by_cases hi : i ∈ vs
  · by_cases hl : i < sd.sl.length
    · rw [wipeS_in hi hl] at h
      exact absurd (Option.some.inj h).symm hx
    · rw [List.getElem?_eq_none (by rw [wipeS_length]; omega)] at h
      cases h
  · exact ⟨hi, by rw [← wipeS_out hi]; exact h⟩
theorem StR.wipe (vs : List Nat) (s : StR K pv G F sd σ H) : StR K pv G F (sd.wipe vs) (L2.wipe σ vs) H := by
  obtain ⟨o, W⟩ := s
  refine ⟨o, W.fh, W.gh, W.fg, W.oh, W.oo, by show _ = (wipeS sd.sl vs).length; rw [L2.wipe_length, wipeS_length]; exact W.len, fun i t e => ?_, fun i j e => ?_, W.pr⟩
  · obtain ⟨h1, h2⟩ := wiped_at e (by intro z; cases z)
    rw [wipe_in h1]
    exact W.sl i t h2
  · obtain ⟨h1, h2⟩ := wiped_at e (by intro z; cases z)
    rw [wipe_in h1]
    exact W.sp i j h2
/-- a block is entered: its own names' trees are put aside -/
theorem StR.block (vs : List Nat) (s : StR K pv G F sd σ H) : ∃ G', (∀ a, H a = none → G' a = none) ∧ StR K pv G' F (sd.wipe vs) (L2.wipe σ vs) H ∧
    ∀ (F' : Hp) (sd' : SD) (H' : Hp) (v : V) (t : OT), Same F F' → StR1 K pv G' F' (sd'.wipe vs) (L2.wipe σ vs) H' v t → StR1 K pv G F' (sd'.back sd vs) σ H' v t := by
  classical
  obtain ⟨o, W⟩ := s
  let P : Addr → Prop := fun a => ∃ i ∈ vs, o (.inl i) a
  have gp : ∀ a, P a → G a = none := fun a ⟨i, _, h⟩ => (W.oh _ a h).2.2
  refine ⟨fun a => if P a then H a else G a, fun a ha => ?_, ⟨fun x a => o x a ∧ ∀ i ∈ vs, x ≠ .inl i, W.fh, fun a u e => ?_, fun a ha => ?_, fun x a ⟨q1, q2⟩ => ?_, fun x y a q q' => W.oo x y a q.1 q'.1, by show _ = (wipeS sd.sl vs).length; rw [L2.wipe_length, wipeS_length]; exact W.len, fun i t e => ?_, fun i j e => ?_, fun j t e => ?_⟩, fun F' sd' H' v t f ⟨o1, P1, W1, r1, k1⟩ => ?_⟩
  · show (if P a then H a else G a) = none
    by_cases z : P a
    · rw [if_pos z]; exact ha
    · rw [if_neg z]; exact W.gh.free ha
  · have e : (if P a then H a else G a) = some u := e
    by_cases z : P a
    · rw [if_pos z] at e; exact e
    · rw [if_neg z] at e; exact W.gh a u e
  · show (if P a then H a else G a) = none
    by_cases z : P a
    · obtain ⟨i, _, h⟩ := z
      exact absurd (W.oh _ a h).2.1 ha
    · rw [if_neg z]; exact W.fg a ha
  · obtain ⟨h1, h2, h3⟩ := W.oh x a q1
    refine ⟨h1, h2, ?_⟩
    show (if P a then H a else G a) = none
    rw [if_neg fun ⟨i, hi, h⟩ => q2 i hi (W.oo _ _ a q1 h)]
    exact h3
  · obtain ⟨h1, h2⟩ := wiped_at e (by intro z; cases z)
    rw [wipe_in h1]
    obtain ⟨v, a1, a2⟩ := W.sl i t h2
    exact ⟨v, a1, a2.mono (Same.refl _) fun x hx => ⟨⟨hx, fun j hj z => h1 (by rw [Sum.inl.inj z]; exact hj)⟩, rfl⟩⟩
  · obtain ⟨h1, h2⟩ := wiped_at e (by intro z; cases z)
    rw [wipe_in h1]
    exact W.sp i j h2
  · obtain ⟨v, a1, a2⟩ := W.pr j t e
    exact ⟨v, a1, a2.mono (Same.refl _) fun x hx => ⟨⟨hx, fun j hj z => by cases z⟩, rfl⟩⟩
  · have hP : ∀ a, P a → H' a = H a := fun a z => by
      have hn : H a ≠ none := by
        obtain ⟨i, _, h⟩ := z
        exact (W.oh _ a h).1
      cases e : H a with
      | none => exact absurd e hn
      | some u => exact W1.gh a u (by show (if P a then H a else G a) = some u; rw [if_pos z]; exact e)
    have hG : ∀ a, (if P a then H a else G a) = none → ¬ P a ∧ G a = none := fun a z => by
      by_cases y : P a
      · rw [if_pos y] at z
        obtain ⟨i, _, h⟩ := y
        exact absurd z (W.oh _ a h).1
      · rw [if_neg y] at z
        exact ⟨y, z⟩
    have hF : ∀ a, P a → F' a = none := fun a z => by
      cases e : F' a with
      | none => rfl
      | some u => exact absurd z (hG a (W1.fg a (by rw [e]; simp))).1
    have len1 : sd'.sl.length = sd.sl.length := by
      have := W1.len
      have e2 : (wipeS sd'.sl vs).length = sd'.sl.length := wipeS_length _ _
      have : (L2.wipe σ vs).length = (wipeS sd'.sl vs).length := this
      rw [L2.wipe_length, e2, W.len] at this
      exact this.symm
    refine ⟨fun x a => match x with
      | .inl i => if i ∈ vs then o (.inl i) a else o1 (.inl i) a
      | .inr j => o1 (.inr j) a, P1, ⟨W1.fh, fun a u e => ?_, fun a ha => (hG a (W1.fg a ha)).2, fun x a q => ?_, fun x y a q q' => ?_, ?_, fun i t e => ?_, fun i j e => ?_, fun j t e => ?_⟩, r1, fun a z => ?_⟩
    · by_cases z : P a
      · rw [gp a z] at e; cases e
      · exact W1.gh a u (by show (if P a then H a else G a) = some u; rw [if_neg z]; exact e)
    · cases x with
      | inl i =>
        by_cases hi : i ∈ vs
        · have q : o (.inl i) a := by simpa [hi] using q
          have z : P a := ⟨i, hi, q⟩
          exact ⟨by rw [hP a z]; exact (W.oh _ a q).1, hF a z, gp a z⟩
        · have q : o1 (.inl i) a := by simpa [hi] using q
          obtain ⟨h1, h2, h3⟩ := W1.oh _ a q
          exact ⟨h1, h2, (hG a h3).2⟩
      | inr j =>
        obtain ⟨h1, h2, h3⟩ := W1.oh _ a q
        exact ⟨h1, h2, (hG a h3).2⟩
    · have old : ∀ (x : Nat ⊕ Nat), (match x with
        | .inl i => if i ∈ vs then o (.inl i) a else o1 (.inl i) a
        | .inr j => o1 (.inr j) a) → (∃ i, x = .inl i ∧ i ∈ vs ∧ o (.inl i) a ∧ P a) ∨ (o1 x a ∧ ¬ P a) := fun x q => by
        cases x with
        | inl i =>
          by_cases hi : i ∈ vs
          · have q : o (.inl i) a := by simpa [hi] using q
            exact .inl ⟨i, rfl, hi, q, i, hi, q⟩
          · have q : o1 (.inl i) a := by simpa [hi] using q
            exact .inr ⟨q, (hG a (W1.oh _ a q).2.2).1⟩
        | inr j => exact .inr ⟨q, (hG a (W1.oh _ a q).2.2).1⟩
      rcases old x q with ⟨i, rfl, _, q1, q2⟩ | ⟨q1, q2⟩
      · rcases old y q' with ⟨j, rfl, _, q3, _⟩ | ⟨_, q4⟩
        · exact W.oo _ _ a q1 q3
        · exact absurd q2 q4
      · rcases old y q' with ⟨j, rfl, _, _, q4⟩ | ⟨q3, _⟩
        · exact absurd q4 q2
        · exact W1.oo _ _ a q1 q3
    · show σ.length = (backS sd'.sl sd.sl vs).length
      rw [backS_length, len1]
      exact W.len
    · have e : (backS sd'.sl sd.sl vs)[i]? = some (S.ow t) := e
      by_cases hi : i ∈ vs
      · by_cases hl : i < sd'.sl.length
        · rw [backS_in hi hl] at e
          have hl2 : i < sd.sl.length := by omega
          have e2 : sd.sl[i]? = some sd.sl[i] := by simp [hl2]
          rw [e2] at e
          have e : some sd.sl[i] = some (S.ow t) := e
          rw [e] at e2
          obtain ⟨v, a1, a2⟩ := W.sl i t e2
          refine ⟨v, a1, a2.mono f fun x hx => ⟨by simpa [hi] using hx, hP x ⟨i, hi, hx⟩⟩⟩
        · rw [List.getElem?_eq_none (by rw [backS_length]; omega)] at e
          cases e
      · rw [backS_out hi, ← wipeS_out (l := sd'.sl) hi] at e
        obtain ⟨v, a1, a2⟩ := W1.sl i t e
        rw [wipe_in hi] at a1
        exact ⟨v, a1, a2.mono (Same.refl _) fun x hx => ⟨by simpa [hi] using hx, rfl⟩⟩
    · have e : (backS sd'.sl sd.sl vs)[i]? = some (S.pa j) := e
      by_cases hi : i ∈ vs
      · by_cases hl : i < sd'.sl.length
        · rw [backS_in hi hl] at e
          have hl2 : i < sd.sl.length := by omega
          have e2 : sd.sl[i]? = some sd.sl[i] := by simp [hl2]
          rw [e2] at e
          have e : some sd.sl[i] = some (S.pa j) := e
          rw [e] at e2
          exact W.sp i j e2
        · rw [List.getElem?_eq_none (by rw [backS_length]; omega)] at e
          cases e
      · rw [backS_out hi, ← wipeS_out (l := sd'.sl) hi] at e
        obtain ⟨v, a1, a2⟩ := W1.sp i j e
        rw [wipe_in hi] at a2
        exact ⟨v, a1, a2⟩
    · obtain ⟨v, a1, a2⟩ := W1.pr j t e
      exact ⟨v, a1, a2⟩
    · obtain ⟨h1, h2, h3, h4⟩ := k1 a z
      refine ⟨h1, h2, (hG a h3).2, fun x q => ?_⟩
      cases x with
      | inl i =>
        by_cases hi : i ∈ vs
        · have q : o (.inl i) a := by simpa [hi] using q
          exact (hG a h3).1 ⟨i, hi, q⟩
        · have q : o1 (.inl i) a := by simpa [hi] using q
          exact h4 _ q
      | inr j => exact h4 _ q
/-- a list that nobody but we know -/
theorem StR.lay {L : Addr} {xs : List V} (s : StR K pv G F sd σ H) (hD : H L = none) : StR K pv (upd G L (.lst xs)) F sd σ (upd H L (.lst xs)) := by
  obtain ⟨o, W⟩ := s
  obtain ⟨f0, g0, n0⟩ := W.fresh hD
  have W' := W.grow (Same.upd (o := .lst xs) hD) (Same.refl F) (fun a u e => by rw [upd_ne (ne_of_none e f0)]; exact W.fh a u e) fun a ha => .inl ha
  refine ⟨o, W'.fh, fun a u e => ?_, fun a ha => ?_, fun i a q => ?_, W'.oo, W'.len, W'.sl, W'.sp, W'.pr⟩
  · by_cases h : a = L
    · subst h; rw [upd_same] at e ⊢; exact e
    · rw [upd_ne h] at e; exact W'.gh a u e
  · have h : a ≠ L := fun z => ha (by rw [z]; exact f0)
    rw [upd_ne h]; exact W'.fg a ha
  · obtain ⟨h1, h2, h3⟩ := W'.oh i a q
    have h : a ≠ L := fun z => n0 i (by rw [← z]; exact q)
    exact ⟨h1, h2, by rw [upd_ne h]; exact h3⟩
theorem StR.relay {L : Addr} {xs ys : List V} (s : StR K pv (upd G L (.lst xs)) F sd σ H) : StR K pv (upd G L (.lst ys)) F sd σ (upd H L (.lst ys)) := by
  obtain ⟨o, W⟩ := s
  have gL : (upd G L (HO.lst xs)) L = some (.lst xs) := upd_same
  have f0 : F L = none := by
    cases e : F L with
    | none => rfl
    | some u =>
      have := W.fg L (by rw [e]; simp)
      rw [gL] at this; cases this
  have n0 : ∀ i, ¬ o i L := fun i q => by
    have := (W.oh i L q).2.2
    rw [gL] at this; cases this
  have cell : ∀ i x, o i x → upd H L (.lst ys) x = H x := fun i x q => upd_ne fun z => n0 i (by rw [← z]; exact q)
  refine ⟨o, fun a u e => ?_, fun a u e => ?_, fun a ha => ?_, fun i a q => ?_, W.oo, W.len, fun i t e => ?_, W.sp, fun j t e => ?_⟩
  · rw [upd_ne (ne_of_none e f0)]; exact W.fh a u e
  · by_cases h : a = L
    · subst h; rw [upd_same] at e ⊢; exact e
    · rw [upd_ne h] at e ⊢; exact W.gh a u (by rw [upd_ne h]; exact e)
  · have h : a ≠ L := fun z => ha (by rw [z]; exact f0)
    have := W.fg a ha
    rw [upd_ne h] at this ⊢; exact this
  · obtain ⟨h1, h2, h3⟩ := W.oh i a q
    have h : a ≠ L := fun z => n0 i (by rw [← z]; exact q)
    rw [upd_ne h] at h3
    exact ⟨by rw [upd_ne h]; exact h1, h2, by rw [upd_ne h]; exact h3⟩
  · obtain ⟨v, h1, h2⟩ := W.sl i t e
    exact ⟨v, h1, h2.mono (Same.refl _) fun x hx => ⟨hx, cell _ x hx⟩⟩
  · obtain ⟨v, h1, h2⟩ := W.pr j t e
    exact ⟨v, h1, h2.mono (Same.refl _) fun x hx => ⟨hx, cell _ x hx⟩⟩
theorem StR.unlay {L : Addr} {xs : List V} {ds : List D} (s : StR K pv (upd G L (.lst xs)) F sd σ H) (gL : G L = none) (r : Reps K F xs ds) : StR1 K pv G F sd σ H (.ref L) (.ol (ds.map .fz)) := by
  obtain ⟨o, W⟩ := s
  have gU : (upd G L (HO.lst xs)) L = some (.lst xs) := upd_same
  have f0 : F L = none := by
    cases e : F L with
    | none => rfl
    | some u =>
      have := W.fg L (by rw [e]; simp)
      rw [gU] at this; cases this
  have n0 : ∀ i, ¬ o i L := fun i q => by
    have := (W.oh i L q).2.2
    rw [gU] at this; cases this
  refine ⟨o, fun a => a = L, ⟨W.fh, fun a u e => W.gh a u (by rw [upd_ne (ne_of_none e gL)]; exact e), fun a ha => ?_, fun i a q => ?_, W.oo, W.len, W.sl, W.sp, W.pr⟩, ?_, fun a ha => ?_⟩
  · have h : a ≠ L := fun z => ha (by rw [z]; exact f0)
    have := W.fg a ha
    rw [upd_ne h] at this; exact this
  · obtain ⟨h1, h2, h3⟩ := W.oh i a q
    have h : a ≠ L := fun z => n0 i (by rw [← z]; exact q)
    rw [upd_ne h] at h3
    exact ⟨h1, h2, h3⟩
  · unfold RepO
    exact ⟨L, xs, rfl, rfl, W.gh L _ gU, repOs_of _ r⟩
  · subst ha
    exact ⟨by rw [W.gh a _ gU]; simp, f0, gL, n0⟩
theorem StR.at_lay {L : Addr} {xs : List V} (s : StR K pv (upd G L (.lst xs)) F sd σ H) : H L = some (.lst xs) := by
  obtain ⟨o, W⟩ := s
  exact W.gh L _ upd_same
end

/-! ### the mirror -/
/-- raising is not told here -/
def ER.calm {α : Type} (r : ER α) : ER α :=
  match r with
  | .rz _ _ => .bad
  | r => r
def goComp (g : D → SD → Option SD) (c : SD → ER Bool) (elt : SD → ER D) (vs : List Nat) : List D → List D → SD → ER (List D)
  | [], acc, sd => .ok acc sd
  | d :: ds, acc, sd => match g d (sd.wipe vs) with
    | none => .bad
    | some sd1 => (c sd1).calm.bind fun b sd2 => if b = true then ((elt sd2).calm.bind fun y sd3 => if acc.length < 16777216 then goComp g c elt vs ds (acc ++ [y]) sd3 else .bad) else goComp g c elt vs ds acc sd2
def mComp (it : SD → ER (List D)) (g : D → SD → Option SD) (c : SD → ER Bool) (elt : SD → ER D) (vs : List Nat) : SD → ER OT := fun sd => (it sd).bind fun ds sd1 => (goComp g c elt vs ds [] sd1).bind fun res sd2 => .ok (.ol (res.map .fz)) (sd2.back sd1 vs)
def mYes : SD → ER Bool := fun sd => .ok true sd
theorem tr_yes {K : PySem.W.Frag} {pv : List V} {W : WX} : TrT K pv W true tYes mYes := fun G F sd σ H Q s => Meets.here s (show RSb G F sd H σ true true from rfl) id

/-- no wish -/
abbrev W0 : WX := fun _ _ _ _ => False
theorem goComp_calm {g : D → SD → Option SD} {c : SD → ER Bool} {elt : SD → ER D} {vs : List Nat} : ∀ (ds acc : List D) (sd : SD) (x : Exn) (s : SD), goComp g c elt vs ds acc sd ≠ .rz x s
  | [], acc, sd, x, s => by rw [goComp]; intro h; cases h
  | d :: ds, acc, sd, x, s => by
    rw [goComp]
    cases g d (sd.wipe vs) with
    | none => intro h; cases h
    | some sd1 =>
      show (c sd1).calm.bind _ ≠ _
      cases c sd1 with
      | bad => intro h; cases h
      | rz _ _ => intro h; cases h
      | ok b sd2 =>
        show (if b = true then _ else _) ≠ _
        split
        · cases elt sd2 with
          | bad => intro h; cases h
          | rz _ _ => intro h; cases h
          | ok y sd3 =>
            show (if acc.length < 16777216 then _ else _) ≠ _
            split
            · exact goComp_calm ds _ sd3 x s
            · intro h; cases h
        · exact goComp_calm ds acc sd2 x s
section
variable {K : PySem.W.Frag} {pv : List V} {W : WX} {p q pc pe : Bool}
theorem wipe_wipe {vs vs1 : List Nat} (h : ∀ i ∈ vs1, i ∈ vs) (sd : SD) : (sd.wipe vs1).wipe vs = sd.wipe vs := by
  show SD.mk (wipeS (wipeS sd.sl vs1) vs) sd.pa = SD.mk (wipeS sd.sl vs) sd.pa
  congr 1
  refine List.ext_getElem? fun i => ?_
  by_cases hi : i ∈ vs
  · by_cases hl : i < sd.sl.length
    · rw [wipeS_in hi (by rw [wipeS_length]; exact hl), wipeS_in hi hl]
    · rw [List.getElem?_eq_none (by rw [wipeS_length, wipeS_length]; omega), List.getElem?_eq_none (by rw [wipeS_length]; omega)]
  · rw [wipeS_out hi, wipeS_out hi, wipeS_out fun z => hi (h i z)]
theorem wipe_one {σ : L2.St} {i : Nat} : ∀ {us : List Nat}, i ∈ us → (wipe σ us)[i]? = if i < σ.length then some none else none
  | u :: us, h => by
    unfold wipe
    by_cases e : u = i
    · subst e
      by_cases hl : u < σ.length
      · rw [List.getElem?_set_self (by rw [wipe_length]; exact hl), if_pos hl]
      · rw [List.getElem?_eq_none (by rw [List.length_set, wipe_length]; omega), if_neg hl]
    · rw [List.getElem?_set_ne e]
      exact wipe_one ((List.mem_cons.mp h).resolve_left fun z => e z.symm)
theorem wipe_wipeV {vs vs1 : List Nat} (h : ∀ i ∈ vs1, i ∈ vs) (σ : L2.St) : wipe (wipe σ vs1) vs = wipe σ vs := by
  refine List.ext_getElem? fun i => ?_
  by_cases hi : i ∈ vs
  · rw [wipe_one hi, wipe_one hi, wipe_length]
  · rw [wipe_in hi, wipe_in hi, wipe_in fun z => hi (h i z)]
/-- the loop of a comprehension, by values: acc0 is there already -/
theorem comp_go {J : It} {t : TG} {tt : TT} {te : TE} {g : D → SD → Option SD} {c : SD → ER Bool} {elt : SD → ER D} {vs is : List Nat} {G F1 H1 : Hp} {sd1 : SD} {σ : L2.St} {ds acc0 : List D} {xs0 : List V} {L : Addr} {Q : Hp → Prop} {res : List D} {sdr : SD}
    (his : ∀ i ∈ is, i ∈ vs)
    (hg : ∀ (pv : List V) (G F : Hp) (sd : SD) (σ : L2.St) (H : Hp) (x : V) (d : D) (sd' : SD), StR K pv G F sd σ H → Rep K F x d → g d sd = some sd' → ∀ Q : L2.St → Hp → Prop, (∀ σ', StR K pv G F sd' σ' H → (∀ vs : List Nat, (∀ i ∈ is, i ∈ vs) → wipe σ' vs = wipe σ vs) → Q σ' H) → t x σ H Q)
    (hgw : ∀ d sd sd', g d sd = some sd' → sd'.wipe vs = sd.wipe vs)
    (hc : TrT K pv W0 pc tt c) (he : TrX K pv W0 pe true te elt) (wk : Walk K J F1 ds) (s1 : StR K pv (upd G L (.lst xs0)) F1 (sd1.wipe vs) (wipe σ vs) H1) (ra0 : Reps K F1 xs0 acc0) (e : goComp g c elt vs ds acc0 sd1 = .ok res sdr)
    (hQ : ∀ F' H' xs, Same F1 F' → StR K pv (upd G L (.lst xs)) F' (sdr.wipe vs) (wipe σ vs) H' → Reps K F' xs res → ((pc && pe) = true → (∀ a u, a ≠ L → H1 a = some u → H' a = some u) ∧ sdr.wipe vs = sd1.wipe vs) → Q H') :
    ∃ W : Nat → Nat → Hp → Prop, (∃ m, W 0 m H1) ∧ ∀ i m H, W i m H → (J.stop i H ∧ Q H) ∨ (J.go i H ∧ ∃ Nx : Hp → Prop, (∀ H', Nx H' → ∃ m', m' < m ∧ W (i + 1) m' H') ∧ ∀ x H', J.yld i H x H' → t x (wipe σ vs) H' fun σ2 H2 => wipe σ2 vs = wipe σ vs ∧ tt σ2 H2 fun b H3 =>
      if b = true then te σ2 H3 fun y H4 => ∃ acc, H4 L = some (.lst acc) ∧ acc.length < sizeLine ∧ Nx (upd H4 L (.lst (acc ++ [y]))) else Nx H3) := by
  have ww : ∀ (sd : SD) , (sd.wipe vs).wipe vs = sd.wipe vs := fun sd => wipe_wipe (fun i h => h) sd
  have sw : wipe (wipe σ vs) vs = wipe σ vs := wipe_wipeV (fun i h => h) σ
  let Inv : Nat → Hp → Prop := fun i H => ∃ F' sd' acc xs, Same F1 F' ∧ StR K pv (upd G L (.lst xs)) F' (sd'.wipe vs) (wipe σ vs) H ∧ Reps K F' xs acc ∧ goComp g c elt vs (ds.drop i) acc sd' = .ok res sdr ∧ ((pc && pe) = true → (∀ a u, a ≠ L → H1 a = some u → H a = some u) ∧ sd'.wipe vs = sd1.wipe vs)
  refine ⟨fun i m H => m = ds.length - i ∧ i ≤ ds.length ∧ Inv i H, ⟨ds.length, by simp, Nat.zero_le _, F1, sd1, acc0, xs0, Same.refl _, s1, ra0, e, fun _ => ⟨fun a u _ h => h, rfl⟩⟩, ?_⟩
  rintro i m H ⟨rfl, hi, F', sd', acc, xs, f1, st, ra, eg, pu⟩
  by_cases hlt : i < ds.length
  · have hd : ds[i]? = some ds[i] := by simp [hlt]
    refine .inr ⟨wk.go F' H i _ f1 st.fh hd, Inv (i + 1), fun H' q => ⟨ds.length - (i + 1), by omega, rfl, hlt, q⟩, fun x H' y => ?_⟩
    rw [drop_at hd, goComp] at eg
    cases e1 : g ds[i] (sd'.wipe vs) with
    | none => rw [e1] at eg; cases eg
    | some sda =>
      rw [e1] at eg
      dsimp only at eg
      have main : ∀ F2 H2, Same F' F2 → StR K pv (upd G L (.lst xs)) F2 (sd'.wipe vs) (wipe σ vs) H2 → Rep K F2 x ds[i] → ((pc && pe) = true → ∀ a u, a ≠ L → H1 a = some u → H2 a = some u) → t x (wipe σ vs) H2 fun σ2 H2 => wipe σ2 vs = wipe σ vs ∧ tt σ2 H2 fun b H3 =>
          if b = true then te σ2 H3 fun y H4 => ∃ acc, H4 L = some (.lst acc) ∧ acc.length < sizeLine ∧ Inv (i + 1) (upd H4 L (.lst (acc ++ [y]))) else Inv (i + 1) H3 := fun F2 H2 f2 st2 rx pu2 => by
        refine hg pv _ F2 _ _ H2 x _ sda st2 rx e1 _ fun σ2 k1 k2 => ?_
        have w2 : wipe σ2 vs = wipe σ vs := (k2 vs his).trans sw
        have pw : (pc && pe) = true → sda.wipe vs = sd1.wipe vs := fun z => by rw [hgw _ _ _ e1, ww, (pu z).2]
        refine ⟨w2, ?_⟩
        have z := hc (upd G L (.lst xs)) F2 sda σ2 H2 (fun b H3 => if b = true then te σ2 H3 fun y H4 => ∃ acc, H4 L = some (.lst acc) ∧ acc.length < sizeLine ∧ Inv (i + 1) (upd H4 L (.lst (acc ++ [y]))) else Inv (i + 1) H3) k1
        revert eg z
        cases c sda with
        | bad => intro eg; cases eg
        | rz _ _ => intro eg; cases eg
        | ok b sdb =>
          intro eg z
          refine z fun b' F3 H3 u1 u2 u3 u4 => ?_
          have u3 : b' = b := u3
          subst u3
          have eg : (if b' = true then ((elt sdb).calm.bind fun y sd3 => if acc.length < 16777216 then goComp g c elt vs (ds.drop (i + 1)) (acc ++ [y]) sd3 else .bad) else goComp g c elt vs (ds.drop (i + 1)) acc sdb) = .ok res sdr := eg
          cases b' with
          | false =>
            rw [if_neg (by decide)] at eg
            refine iteF ?_
            refine ⟨F3, sdb, acc, xs, (f1.trans f2).trans u1, ?_, ra.mono (f2.trans u1), eg, fun zz => ?_⟩
            · have q := u2.wipe vs
              rw [w2] at q; exact q
            · have zc : pc = true := (Bool.and_eq_true _ _ ▸ zz : pc = true ∧ pe = true).1
              obtain ⟨v1, v2⟩ := u4 zc
              exact ⟨fun a u n h => v1 a u (pu2 zz a u n h), by rw [v2]; exact pw zz⟩
          | true =>
            rw [if_pos rfl] at eg
            refine iteT ?_
            have z2 := he (upd G L (.lst xs)) F3 sdb σ2 H3 (fun y H4 => ∃ acc, H4 L = some (.lst acc) ∧ acc.length < sizeLine ∧ Inv (i + 1) (upd H4 L (.lst (acc ++ [y])))) u2
            revert eg z2
            cases elt sdb with
            | bad => intro eg; cases eg
            | rz _ _ => intro eg; cases eg
            | ok d sdc =>
              intro eg z2
              have eg : (if acc.length < 16777216 then goComp g c elt vs (ds.drop (i + 1)) (acc ++ [d]) sdc else .bad) = .ok res sdr := eg
              split at eg
              · rename_i hz
                refine z2 fun y F4 H4 v1 v2 v3 v4 => ?_
                have r4 : Reps K F4 xs acc := ra.mono ((f2.trans u1).trans v1)
                refine ⟨xs, v2.at_lay, by rw [r4.length, sizeLine_eq]; exact hz, F4, sdc, acc ++ [d], xs ++ [y], ((f1.trans f2).trans u1).trans v1, ?_, r4.append (.one v3), eg, fun zz => ?_⟩
                · have q := (v2.relay (ys := xs ++ [y])).wipe vs
                  rw [w2] at q; exact q
                · have zce : pc = true ∧ pe = true := (Bool.and_eq_true _ _ ▸ zz : pc = true ∧ pe = true)
                  obtain ⟨a1, a2⟩ := u4 zce.1
                  obtain ⟨b1, b2⟩ := v4 zce.2
                  exact ⟨fun a u n h => by
                    rw [upd_ne n]
                    exact b1 a u (a1 a u (pu2 zz a u n h)), by rw [b2, a2]; exact pw zz⟩
              · cases eg
      rcases wk.yld F' H i _ x H' f1 st.fh hd y with ⟨rfl, rx⟩ | ⟨T, us, es, rfl, ed, hT, rfl, rr⟩
      · exact main F' H' (Same.refl _) st rx fun z => (pu z).1
      · refine main _ _ (st.sameNew hT) (st.new (u := .tup us) hT) ?_ fun z a u n h => ?_
        · rw [ed]
          exact .tup (.inl (.inl upd_same)) (rr.mono (st.sameNew hT))
        · have := (pu z).1 a u n h
          rw [upd_ne (ne_of_none this hT)]; exact this
  · have e2 : i = ds.length := by omega
    subst e2
    rw [List.drop_length, goComp] at eg
    cases eg
    exact .inl ⟨wk.stop F' H f1 st.fh, hQ F' H xs f1 st ra pu⟩
/-- .. from the start -/
theorem comp_run {J : It} {t : TG} {tt : TT} {te : TE} {g : D → SD → Option SD} {c : SD → ER Bool} {elt : SD → ER D} {vs is : List Nat} {G F1 H1 : Hp} {sd1 : SD} {σ : L2.St} {ds : List D} {L : Addr} {Q : Hp → Prop} {res : List D} {sdr : SD}
    (his : ∀ i ∈ is, i ∈ vs)
    (hg : ∀ (pv : List V) (G F : Hp) (sd : SD) (σ : L2.St) (H : Hp) (x : V) (d : D) (sd' : SD), StR K pv G F sd σ H → Rep K F x d → g d sd = some sd' → ∀ Q : L2.St → Hp → Prop, (∀ σ', StR K pv G F sd' σ' H → (∀ vs : List Nat, (∀ i ∈ is, i ∈ vs) → wipe σ' vs = wipe σ vs) → Q σ' H) → t x σ H Q)
    (hgw : ∀ d sd sd', g d sd = some sd' → sd'.wipe vs = sd.wipe vs)
    (hc : TrT K pv W0 pc tt c) (he : TrX K pv W0 pe true te elt) (wk : Walk K J F1 ds) (s1 : StR K pv G F1 (sd1.wipe vs) (wipe σ vs) H1) (hL : H1 L = none) (e : goComp g c elt vs ds [] sd1 = .ok res sdr)
    (hQ : ∀ F' H' xs, Same F1 F' → StR K pv (upd G L (.lst xs)) F' (sdr.wipe vs) (wipe σ vs) H' → Reps K F' xs res → ((pc && pe) = true → Same H1 H' ∧ sdr.wipe vs = sd1.wipe vs) → Q H') :
    ∃ W : Nat → Nat → Hp → Prop, (∃ m, W 0 m (upd H1 L (.lst []))) ∧ ∀ i m H, W i m H → (J.stop i H ∧ Q H) ∨ (J.go i H ∧ ∃ Nx : Hp → Prop, (∀ H', Nx H' → ∃ m', m' < m ∧ W (i + 1) m' H') ∧ ∀ x H', J.yld i H x H' → t x (wipe σ vs) H' fun σ2 H2 => wipe σ2 vs = wipe σ vs ∧ tt σ2 H2 fun b H3 =>
      if b = true then te σ2 H3 fun y H4 => ∃ acc, H4 L = some (.lst acc) ∧ acc.length < sizeLine ∧ Nx (upd H4 L (.lst (acc ++ [y]))) else Nx H3) :=
  comp_go his hg hgw hc he wk (s1.lay hL) .nil e fun F' H' xs f1 st r pu => hQ F' H' xs f1 st r fun z => ⟨fun a u h => (pu z).1 a u (ne_of_none h hL) (by rw [upd_ne (ne_of_none h hL)]; exact h), (pu z).2⟩
end
section
variable {X : Cx} {pv : List V} {W : WX} {p q k l pc pe : Bool} {tg iter elt : Expr} {ifs : List Expr} {scope : Scope} {pos : Pos}
theorem comp_tr {own : List (Str × Nat)} {is : List Nat} {wi : TI} {t : TG} {tt : TT} {te : TE} {mi : SD → ER (List D)} {g : D → SD → Option SD} {mc : SD → ER Bool} {me : SD → ER D} (hi : TrI X.K pv W p wi mi)
    (hg : ∀ (pv : List V) (G F : Hp) (sd : SD) (σ : L2.St) (H : Hp) (x : V) (d : D) (sd' : SD), StR X.K pv G F sd σ H → Rep X.K F x d → g d sd = some sd' → ∀ Q : L2.St → Hp → Prop, (∀ σ', StR X.K pv G F sd' σ' H → (∀ vs : List Nat, (∀ i ∈ is, i ∈ vs) → wipe σ' vs = wipe σ vs) → Q σ' H) → t x σ H Q)
    (hgw : ∀ (vs : List Nat), (∀ i ∈ is, i ∈ vs) → ∀ d sd sd', g d sd = some sd' → SD.wipe sd' vs = SD.wipe sd vs) (hc : TrT X.K pv W0 pc tt mc) (he : TrX X.K pv W0 pe true te me) (his : ∀ i ∈ is, i ∈ own.map (·.2)) :
    TrO X.K pv W (p && (pc && pe)) (tLc wi t tt te (own.map (·.2))) (mComp mi g mc me (own.map (·.2))) := by
  intro G F sd σ H Q s
  refine Meets.bind (hi G F sd σ H _ s) fun J F1 H1 ds sd1 s1 s2 s3 s4 => ?_
  cases e : goComp g mc me (own.map (·.2)) ds [] sd1 with
  | bad => exact True.intro
  | rz x sr => exact absurd e (goComp_calm ds [] sd1 x sr)
  | ok res sdr =>
    intro hQ L hL
    obtain ⟨G', g1, g2, g3⟩ := s2.block (own.map (·.2))
    refine comp_run his hg (hgw _ his) hc he s3 g2 hL e fun F' H' xs f1 st r pu => ?_
    have z := st.unlay (g1 L hL) r
    have z2 := g3 F' sdr H' _ _ f1 z
    exact hQ _ F' H' f1 z2.drop z2 fun zz => ⟨(pu zz).1, back_self (pu zz).2⟩
end

/-! ### readings by the mirror alone -/
def Cond {α β : Type} (K : PySem.W.Frag) (pv : List V) (W : WX) (G : Hp) (σ : L2.St) (RS : RSt β α) (p : Bool) (sd : SD) (F H : Hp) (r : ER α) (Q : β → Hp → Prop) : Prop :=
  match r with
  | .ok a sd' => ∀ v F' H', Same F F' → StR K pv G F' sd' σ H' → RS G F' sd' H' σ v a → (p = true → Same H H' ∧ sd' = sd) → Q v H'
  | .rz x sd' => ∀ cls dd F' H', Same F F' → StR K pv G F' sd' σ H' → RepX K F' cls dd x → W cls dd σ H'
  | .bad => False
theorem meets_of {α β : Type} {K : PySem.W.Frag} {pv : List V} {W : WX} {G F H : Hp} {σ : L2.St} {RS : RSt β α} {p : Bool} {sd : SD} {r : ER α} {Q : β → Hp → Prop} {P : Prop} (h : Cond K pv W G σ RS p sd F H r Q → P) : Meets K pv W G σ RS p sd F H r Q P := by
  cases r with
  | bad => exact True.intro
  | _ => exact h
theorem Meets.get {α β : Type} {K : PySem.W.Frag} {pv : List V} {W : WX} {G F H : Hp} {σ : L2.St} {RS : RSt β α} {p : Bool} {sd : SD} {r : ER α} {Q : β → Hp → Prop} {P : Prop} (h : Meets K pv W G σ RS p sd F H r Q P) (c : Cond K pv W G σ RS p sd F H r Q) : P := by
  cases r with
  | bad => exact c.elim
  | _ => exact h c
def canX (K : PySem.W.Frag) (pv : List V) (W : WX) (p k : Bool) (m : SD → ER D) : TE := fun σ H Q => ∃ G F sd, StR K pv G F sd σ H ∧ Cond K pv W G σ (RSx K k) p sd F H (m sd) Q
def canT (K : PySem.W.Frag) (pv : List V) (W : WX) (p : Bool) (m : SD → ER Bool) : TT := fun σ H Q => ∃ G F sd, StR K pv G F sd σ H ∧ Cond K pv W G σ RSb p sd F H (m sd) Q
def canG (K : PySem.W.Frag) (is : List Nat) (g : D → SD → Option SD) : TG := fun x σ H Q => ∃ (pv : List V) (G F : Hp) (sd : SD) (d : D) (sd' : SD), StR K pv G F sd σ H ∧ Rep K F x d ∧ g d sd = some sd' ∧
  ∀ σ', StR K pv G F sd' σ' H → (∀ vs : List Nat, (∀ i ∈ is, i ∈ vs) → wipe σ' vs = wipe σ vs) → Q σ' H
def canI (K : PySem.W.Frag) (pv : List V) (W : WX) (p : Bool) (m : SD → ER (List D)) : TI := fun σ H R => ∃ G F sd, StR K pv G F sd σ H ∧ Cond K pv W G σ (RSw K) p sd F H (m sd) R
section
variable {X : Cx} {pv : List V} {W : WX} {p q k l pc pe : Bool} {e tg iter elt : Expr} {ifs : List Expr} {scope : Scope} {pos : Pos}
theorem DX.can {m : SD → ER D} (h : DX X pv W p k e m) : PE X e (canX X.K pv W p k m) := by
  obtain ⟨te, h1, h2⟩ := h
  exact ⟨fun pins s σ H Q I ⟨G, F, sd, st, c⟩ => h1.run pins s σ H Q I ((h2 G F sd σ H Q st).get c)⟩
theorem canX_tr {K : PySem.W.Frag} {m : SD → ER D} : TrX K pv W p k (canX K pv W p k m) m := fun G F sd σ H Q s => meets_of fun c => ⟨G, F, sd, s, c⟩
theorem DT.can {m : SD → ER Bool} (h : DT X pv W p e m) : PT X e (canT X.K pv W p m) := by
  obtain ⟨te, h1, h2⟩ := h
  exact ⟨fun pins s σ H Q I ⟨G, F, sd, st, c⟩ => h1.run pins s σ H Q I ((h2 G F sd σ H Q st).get c)⟩
theorem canT_tr {K : PySem.W.Frag} {m : SD → ER Bool} : TrT K pv W p (canT K pv W p m) m := fun G F sd σ H Q s => meets_of fun c => ⟨G, F, sd, s, c⟩
theorem DI.can {m : SD → ER (List D)} (h : DI X pv W p tg iter m) : PI X tg iter (canI X.K pv W p m) := by
  obtain ⟨te, h1, h2⟩ := h
  exact ⟨fun pins s σ H Q I ⟨G, F, sd, st, c⟩ => h1.run pins s σ H Q I ((h2 G F sd σ H Q st).get c)⟩
theorem canI_tr {K : PySem.W.Frag} {m : SD → ER (List D)} : TrI K pv W p (canI K pv W p m) m := fun G F sd σ H Q s => meets_of fun c => ⟨G, F, sd, s, c⟩
theorem DG.can {is : List Nat} {g : D → SD → Option SD} (h : DG X is tg g) : PG X tg (canG X.K is g) := by
  obtain ⟨⟨t, h1, h2⟩, _⟩ := h
  refine ⟨fun pins s σ H v u Q I r ⟨pv, G, F, sd, d, sd', st, rd, e, hq⟩ => ?_⟩
  obtain ⟨σ', k1, k2, k3⟩ := h2 pv G F sd σ H v d sd' st rd e
  exact h1.run pins s σ H v u Q I r (k3 Q (hq σ' k1 k2))
/-- the tests of a clause -/
structure DTs (X : Cx) (pv : List V) (W : WX) (p : Bool) (ifs : List Expr) (m : SD → ER Bool) : Prop where
  run : PTs X ifs (canT X.K pv W p m)
theorem dts_nil : DTs X pv W true [] mYes := ⟨⟨fun pins s σ H Q I ⟨G, F, sd, st, c⟩ => (pts_nil (X := X)).run pins s σ H Q I (c true F H (Same.refl _) st rfl fun _ => ⟨Same.refl _, rfl⟩)⟩⟩
theorem dts_one {c : Expr} {m : SD → ER Bool} (h : DT X pv W p c m) : DTs X pv W p [c] m := ⟨pts_one h.can⟩
theorem canG_run {K : PySem.W.Frag} {is : List Nat} {g : D → SD → Option SD} (pv : List V) (G F : Hp) (sd : SD) (σ : L2.St) (H : Hp) (x : V) (d : D) (sd' : SD) (s : StR K pv G F sd σ H) (r : Rep K F x d) (e : g d sd = some sd') (Q : L2.St → Hp → Prop)
    (hQ : ∀ σ', StR K pv G F sd' σ' H → (∀ vs : List Nat, (∀ i ∈ is, i ∈ vs) → wipe σ' vs = wipe σ vs) → Q σ' H) : canG K is g x σ H Q := ⟨pv, G, F, sd, d, sd', s, r, e, hQ⟩
/-- [elt for tg in iter if ..] as a value -/
theorem do_comp {own : List (Str × Nat)} {is : List Nat} {mi : SD → ER (List D)} {g : D → SD → Option SD} {mc : SD → ER Bool} {me : SD → ER D} (hc : X.calm = true) (hN : X.N.Nodup) (hi : DI X pv W p tg iter mi) (ok : BlkOk X.N X.env.scope scope own)
    (hg : ∀ (s : Shared) (H : Hp) (C : Addr) (cl : List (Str × Addr)) (fp : List Addr), DG (X.blk s H scope (compEnvC scope cl C X.env) fp) is tg g)
    (ht : ∀ (s : Shared) (H : Hp) (C : Addr) (cl : List (Str × Addr)) (fp : List Addr), DTs (X.blk s H scope (compEnvC scope cl C X.env) fp) pv W0 pc ifs mc)
    (he : ∀ (s : Shared) (H : Hp) (C : Addr) (cl : List (Str × Addr)) (fp : List Addr), DX (X.blk s H scope (compEnvC scope cl C X.env) fp) pv W0 pe true elt me) (his : ∀ i ∈ is, i ∈ own.map (·.2))
    (wip : ∀ (vs : List Nat), (∀ i ∈ is, i ∈ vs) → ∀ d sd sd', g d sd = some sd' → SD.wipe sd' vs = SD.wipe sd vs)
    (hs : ∀ x, foldedSetIterable iter X.env x = pure x := by intro _; rfl) :
    DO X pv W (p && (pc && pe)) (.ListComp elt [⟨tg, iter, ifs, 0⟩] scope pos) (mComp mi g mc me (own.map (·.2))) := by
  obtain ⟨wi, a1, a2⟩ := hi
  exact ⟨_, pe_lc hc hN a1 ok (fun s H C cl fp => (hg s H C cl fp).can) (fun s H C cl fp => (ht s H C cl fp).run) (fun s H C cl fp => (he s H C cl fp).can) hs, comp_tr a2 canG_run wip canT_tr canX_tr his⟩
/-- name = [..], on one line -/
theorem ds_setComp {own : List (Str × Nat)} {is : List Nat} {i : Nat} {y : Str} {py spos : Pos} {mi : SD → ER (List D)} {g : D → SD → Option SD} {mc : SD → ER Bool} {me : SD → ER D} (hc : X.calm = true) (hN : X.N.Nodup) (hy : X.N[i]? = some y) (hyl : X.env.scope.names.lookup y = some .local)
    (hsw : swapsWith (.ListComp elt [⟨tg, iter, ifs, 0⟩] scope pos) (some (.Name y py)) spos.line X.env = pure true) (hi : DI X pv W p tg iter mi) (ok : BlkOk X.N X.env.scope scope own)
    (hg : ∀ (s : Shared) (H : Hp) (C : Addr) (cl : List (Str × Addr)) (fp : List Addr), DG (X.blk s H scope (compEnvC scope cl C X.env) fp) is tg g)
    (ht : ∀ (s : Shared) (H : Hp) (C : Addr) (cl : List (Str × Addr)) (fp : List Addr), DTs (X.blk s H scope (compEnvC scope cl C X.env) fp) pv W0 pc ifs mc)
    (he : ∀ (s : Shared) (H : Hp) (C : Addr) (cl : List (Str × Addr)) (fp : List Addr), DX (X.blk s H scope (compEnvC scope cl C X.env) fp) pv W0 pe true elt me) (his : ∀ i ∈ is, i ∈ own.map (·.2))
    (wip : ∀ (vs : List Nat), (∀ i ∈ is, i ∈ vs) → ∀ d sd sd', g d sd = some sd' → SD.wipe sd' vs = SD.wipe sd vs)
    (hs : ∀ x, foldedSetIterable iter X.env x = pure x := by intro _; rfl) :
    DS X pv W (.Assign [.Name y py] (.ListComp elt [⟨tg, iter, ifs, 0⟩] scope pos) spos) (sSet i (mComp mi g mc me (own.map (·.2)))) := by
  obtain ⟨wi, a1, a2⟩ := hi
  exact ⟨_, ps_setLc hc hN hy hyl hsw a1 ok (fun s H C cl fp => (hg s H C cl fp).can) (fun s H C cl fp => (ht s H C cl fp).run) (fun s H C cl fp => (he s H C cl fp).can) hs, tr_set (comp_tr a2 canG_run wip canT_tr canX_tr his)⟩
end
end DL

/-! DL10: list comprehensions with two fors. -/
namespace DL
open PySem PySem.Spec L2

def goComp2 (g : D → SD → Option SD) (c : SD → ER Bool) (it1 : SD → ER (List D)) (g1 : D → SD → Option SD) (c1 : SD → ER Bool) (elt : SD → ER D) (vs vs1 : List Nat) : List D → List D → SD → ER (List D)
  | [], acc, sd => .ok acc sd
  | d :: ds, acc, sd => match g d (sd.wipe vs) with
    | none => .bad
    | some sd1 => (c sd1).calm.bind fun b sd2 => if b = true then ((it1 sd2).calm.bind fun es sd3 => (goComp g1 c1 elt vs1 es acc sd3).bind fun acc2 sd4 => goComp2 g c it1 g1 c1 elt vs vs1 ds acc2 sd4) else goComp2 g c it1 g1 c1 elt vs vs1 ds acc sd2
def mComp2 (it : SD → ER (List D)) (g : D → SD → Option SD) (c : SD → ER Bool) (it1 : SD → ER (List D)) (g1 : D → SD → Option SD) (c1 : SD → ER Bool) (elt : SD → ER D) (vs vs1 : List Nat) : SD → ER OT :=
  fun sd => (it sd).bind fun ds sd1 => (goComp2 g c it1 g1 c1 elt vs vs1 ds [] sd1).bind fun res sd2 => .ok (.ol (res.map .fz)) (sd2.back sd1 vs)
theorem goComp2_calm {g : D → SD → Option SD} {c : SD → ER Bool} {it1 : SD → ER (List D)} {g1 : D → SD → Option SD} {c1 : SD → ER Bool} {elt : SD → ER D} {vs vs1 : List Nat} : ∀ (ds acc : List D) (sd : SD) (x : Exn) (s : SD), goComp2 g c it1 g1 c1 elt vs vs1 ds acc sd ≠ .rz x s
  | [], acc, sd, x, s => by rw [goComp2]; intro h; cases h
  | d :: ds, acc, sd, x, s => by
    rw [goComp2]
    cases g d (sd.wipe vs) with
    | none => intro h; cases h
    | some sd1 =>
      show (c sd1).calm.bind _ ≠ _
      cases c sd1 with
      | bad => intro h; cases h
      | rz _ _ => intro h; cases h
      | ok b sd2 =>
        show (if b = true then _ else _) ≠ _
        split
        · cases it1 sd2 with
          | bad => intro h; cases h
          | rz _ _ => intro h; cases h
          | ok es sd3 =>
            show (goComp g1 c1 elt vs1 es acc sd3).bind _ ≠ _
            cases e : goComp g1 c1 elt vs1 es acc sd3 with
            | bad => intro h; cases h
            | rz y s2 => exact absurd e (goComp_calm es acc sd3 y s2)
            | ok acc2 sd4 => exact goComp2_calm ds acc2 sd4 x s
        · exact goComp2_calm ds acc sd2 x s
section
variable {K : PySem.W.Frag} {pv : List V} {W : WX} {p q pc pe pi1 pc1 : Bool}
/-- by values -/
abbrev TgRun (K : PySem.W.Frag) (is : List Nat) (t : TG) (g : D → SD → Option SD) : Prop := ∀ (pv : List V) (G F : Hp) (sd : SD) (σ : L2.St) (H : Hp) (x : V) (d : D) (sd' : SD), StR K pv G F sd σ H → Rep K F x d → g d sd = some sd' → ∀ Q : L2.St → Hp → Prop, (∀ σ', StR K pv G F sd' σ' H → (∀ vs : List Nat, (∀ i ∈ is, i ∈ vs) → wipe σ' vs = wipe σ vs) → Q σ' H) → t x σ H Q
theorem comp2_run {J : It} {t t1 : TG} {tt tt1 : TT} {te : TE} {wi1 : TI} {g g1 : D → SD → Option SD} {c c1 : SD → ER Bool} {it1 : SD → ER (List D)} {elt : SD → ER D} {vs vs1 is is1 : List Nat} {G F1 H1 : Hp} {sd1 : SD} {σ : L2.St} {ds : List D} {L : Addr} {Q : Hp → Prop} {res : List D} {sdr : SD}
    (his : ∀ i ∈ is, i ∈ vs) (his1 : ∀ i ∈ is1, i ∈ vs1) (hvs : ∀ i ∈ vs1, i ∈ vs)
    (hg : TgRun K is t g) (hgw : ∀ d sd sd', g d sd = some sd' → sd'.wipe vs = sd.wipe vs) (hg1 : TgRun K is1 t1 g1) (hgw1 : ∀ d sd sd', g1 d sd = some sd' → sd'.wipe vs1 = sd.wipe vs1)
    (hc : TrT K pv W0 pc tt c) (hi1 : TrI K pv W0 pi1 wi1 it1) (hc1 : TrT K pv W0 pc1 tt1 c1) (he : TrX K pv W0 pe true te elt) (wk : Walk K J F1 ds) (s1 : StR K pv G F1 (sd1.wipe vs) (wipe σ vs) H1) (hL : H1 L = none)
    (e : goComp2 g c it1 g1 c1 elt vs vs1 ds [] sd1 = .ok res sdr)
    (hQ : ∀ F' H' xs, Same F1 F' → StR K pv (upd G L (.lst xs)) F' (sdr.wipe vs) (wipe σ vs) H' → Reps K F' xs res → ((pc && (pi1 && (pc1 && pe))) = true → Same H1 H' ∧ sdr.wipe vs = sd1.wipe vs) → Q H') :
    ∃ W : Nat → Nat → Hp → Prop, (∃ m, W 0 m (upd H1 L (.lst []))) ∧ ∀ i m H, W i m H → (J.stop i H ∧ Q H) ∨ (J.go i H ∧ ∃ Nx : Hp → Prop, (∀ H', Nx H' → ∃ m', m' < m ∧ W (i + 1) m' H') ∧ ∀ x H', J.yld i H x H' → t x (wipe σ vs) H' fun σ2 H2 => wipe σ2 vs = wipe σ vs ∧ tt σ2 H2 fun b H3 =>
      if b = true then wi1 σ2 H3 fun J1 H4 => ∃ W1 : Nat → Nat → Hp → Prop, (∃ m, W1 0 m H4) ∧ ∀ j k H, W1 j k H →
        (J1.stop j H ∧ Nx H) ∨ (J1.go j H ∧ ∃ Nx1 : Hp → Prop, (∀ H', Nx1 H' → ∃ k', k' < k ∧ W1 (j + 1) k' H') ∧ ∀ x H', J1.yld j H x H' → t1 x (wipe σ2 vs1) H' fun σ3 H5 => wipe σ3 vs1 = wipe σ2 vs1 ∧ tt1 σ3 H5 fun b H6 =>
          if b = true then te σ3 H6 fun y H7 => ∃ acc, H7 L = some (.lst acc) ∧ acc.length < sizeLine ∧ Nx1 (upd H7 L (.lst (acc ++ [y]))) else Nx1 H6)
      else Nx H3) := by
  have ww : ∀ (sd : SD) , (sd.wipe vs).wipe vs = sd.wipe vs := fun sd => wipe_wipe (fun i h => h) sd
  have sw : wipe (wipe σ vs) vs = wipe σ vs := wipe_wipeV (fun i h => h) σ
  let Inv : Nat → Hp → Prop := fun i H => ∃ F' sd' acc xs, Same F1 F' ∧ StR K pv (upd G L (.lst xs)) F' (sd'.wipe vs) (wipe σ vs) H ∧ Reps K F' xs acc ∧ goComp2 g c it1 g1 c1 elt vs vs1 (ds.drop i) acc sd' = .ok res sdr ∧ ((pc && (pi1 && (pc1 && pe))) = true → (∀ a u, a ≠ L → H1 a = some u → H a = some u) ∧ sd'.wipe vs = sd1.wipe vs)
  refine ⟨fun i m H => m = ds.length - i ∧ i ≤ ds.length ∧ Inv i H, ⟨ds.length, by simp, Nat.zero_le _, F1, sd1, [], [], Same.refl _, s1.lay hL, .nil, e, fun _ => ⟨fun a u n h => by rw [upd_ne n]; exact h, rfl⟩⟩, ?_⟩
  rintro i m H ⟨rfl, hi, F', sd', acc, xs, f1, st, ra, eg, pu⟩
  by_cases hlt : i < ds.length
  · have hd : ds[i]? = some ds[i] := by simp [hlt]
    refine .inr ⟨wk.go F' H i _ f1 st.fh hd, Inv (i + 1), fun H' q => ⟨ds.length - (i + 1), by omega, rfl, hlt, q⟩, fun x H' y => ?_⟩
    rw [drop_at hd, goComp2] at eg
    cases e1 : g ds[i] (sd'.wipe vs) with
    | none => rw [e1] at eg; cases eg
    | some sda =>
      rw [e1] at eg
      dsimp only at eg
      have main : ∀ F2 H2, Same F' F2 → StR K pv (upd G L (.lst xs)) F2 (sd'.wipe vs) (wipe σ vs) H2 → Rep K F2 x ds[i] → ((pc && (pi1 && (pc1 && pe))) = true → ∀ a u, a ≠ L → H1 a = some u → H2 a = some u) → t x (wipe σ vs) H2 fun σ2 H2 => wipe σ2 vs = wipe σ vs ∧ tt σ2 H2 fun b H3 =>
          if b = true then wi1 σ2 H3 fun J1 H4 => ∃ W1 : Nat → Nat → Hp → Prop, (∃ m, W1 0 m H4) ∧ ∀ j k H, W1 j k H →
            (J1.stop j H ∧ Inv (i + 1) H) ∨ (J1.go j H ∧ ∃ Nx1 : Hp → Prop, (∀ H', Nx1 H' → ∃ k', k' < k ∧ W1 (j + 1) k' H') ∧ ∀ x H', J1.yld j H x H' → t1 x (wipe σ2 vs1) H' fun σ3 H5 => wipe σ3 vs1 = wipe σ2 vs1 ∧ tt1 σ3 H5 fun b H6 =>
              if b = true then te σ3 H6 fun y H7 => ∃ acc, H7 L = some (.lst acc) ∧ acc.length < sizeLine ∧ Nx1 (upd H7 L (.lst (acc ++ [y]))) else Nx1 H6)
          else Inv (i + 1) H3 := fun F2 H2 f2 st2 rx pu2 => by
        refine hg pv _ F2 _ _ H2 x _ sda st2 rx e1 _ fun σ2 k1 k2 => ?_
        have w2 : wipe σ2 vs = wipe σ vs := (k2 vs his).trans sw
        have pw : (pc && (pi1 && (pc1 && pe))) = true → sda.wipe vs = sd1.wipe vs := fun z => by rw [hgw _ _ _ e1, ww, (pu z).2]
        refine ⟨w2, ?_⟩
        have z := hc (upd G L (.lst xs)) F2 sda σ2 H2 (fun b H3 => if b = true then wi1 σ2 H3 fun J1 H4 => ∃ W1 : Nat → Nat → Hp → Prop, (∃ m, W1 0 m H4) ∧ ∀ j k H, W1 j k H →
            (J1.stop j H ∧ Inv (i + 1) H) ∨ (J1.go j H ∧ ∃ Nx1 : Hp → Prop, (∀ H', Nx1 H' → ∃ k', k' < k ∧ W1 (j + 1) k' H') ∧ ∀ x H', J1.yld j H x H' → t1 x (wipe σ2 vs1) H' fun σ3 H5 => wipe σ3 vs1 = wipe σ2 vs1 ∧ tt1 σ3 H5 fun b H6 =>
              if b = true then te σ3 H6 fun y H7 => ∃ acc, H7 L = some (.lst acc) ∧ acc.length < sizeLine ∧ Nx1 (upd H7 L (.lst (acc ++ [y]))) else Nx1 H6)
          else Inv (i + 1) H3) k1
        revert eg z
        cases c sda with
        | bad => intro eg; cases eg
        | rz _ _ => intro eg; cases eg
        | ok b sdb =>
          intro eg z
          refine z fun b' F3 H3 u1 u2 u3 u4 => ?_
          have u3 : b' = b := u3
          subst u3
          have eg : (if b' = true then ((it1 sdb).calm.bind fun es sd3 => (goComp g1 c1 elt vs1 es acc sd3).bind fun acc2 sd4 => goComp2 g c it1 g1 c1 elt vs vs1 (ds.drop (i + 1)) acc2 sd4) else goComp2 g c it1 g1 c1 elt vs vs1 (ds.drop (i + 1)) acc sdb) = .ok res sdr := eg
          cases b' with
          | false =>
            rw [if_neg (by decide)] at eg
            refine iteF ?_
            refine ⟨F3, sdb, acc, xs, (f1.trans f2).trans u1, ?_, ra.mono (f2.trans u1), eg, fun zz => ?_⟩
            · have q := u2.wipe vs
              rw [w2] at q; exact q
            · have zc : pc = true := (Bool.and_eq_true _ _ ▸ zz : pc = true ∧ (pi1 && (pc1 && pe)) = true).1
              obtain ⟨v1, v2⟩ := u4 zc
              exact ⟨fun a u n h => v1 a u (pu2 zz a u n h), by rw [v2]; exact pw zz⟩
          | true =>
            rw [if_pos rfl] at eg
            refine iteT ?_
            have z2 := hi1 (upd G L (.lst xs)) F3 sdb σ2 H3 (fun J1 H4 => ∃ W1 : Nat → Nat → Hp → Prop, (∃ m, W1 0 m H4) ∧ ∀ j k H, W1 j k H →
              (J1.stop j H ∧ Inv (i + 1) H) ∨ (J1.go j H ∧ ∃ Nx1 : Hp → Prop, (∀ H', Nx1 H' → ∃ k', k' < k ∧ W1 (j + 1) k' H') ∧ ∀ x H', J1.yld j H x H' → t1 x (wipe σ2 vs1) H' fun σ3 H5 => wipe σ3 vs1 = wipe σ2 vs1 ∧ tt1 σ3 H5 fun b H6 =>
                if b = true then te σ3 H6 fun y H7 => ∃ acc, H7 L = some (.lst acc) ∧ acc.length < sizeLine ∧ Nx1 (upd H7 L (.lst (acc ++ [y]))) else Nx1 H6)) u2
            revert eg z2
            cases it1 sdb with
            | bad => intro eg; cases eg
            | rz _ _ => intro eg; cases eg
            | ok es sdc =>
              intro eg z2
              have eg : (goComp g1 c1 elt vs1 es acc sdc).bind (fun acc2 sd4 => goComp2 g c it1 g1 c1 elt vs vs1 (ds.drop (i + 1)) acc2 sd4) = .ok res sdr := eg
              cases e2 : goComp g1 c1 elt vs1 es acc sdc with
              | bad => rw [e2] at eg; cases eg
              | rz y s2 => exact absurd e2 (goComp_calm es acc sdc y s2)
              | ok acc2 sdd =>
                rw [e2] at eg
                have eg : goComp2 g c it1 g1 c1 elt vs vs1 (ds.drop (i + 1)) acc2 sdd = .ok res sdr := eg
                refine z2 fun J1 F4 H4 v1 v2 v3 v4 => ?_
                refine comp_go (pc := pc1) (pe := pe) his1 hg1 hgw1 hc1 he v3 (v2.wipe vs1) (ra.mono ((f2.trans u1).trans v1)) e2 fun F5 H5 ys f5 st5 r5 pu5 => ?_
                refine ⟨F5, sdd, acc2, ys, (((f1.trans f2).trans u1).trans v1).trans f5, ?_, r5, eg, fun zz => ?_⟩
                · have q := st5.wipe vs
                  rw [wipe_wipe hvs, wipe_wipeV hvs, w2] at q; exact q
                · have zz2 : pc = true ∧ (pi1 && (pc1 && pe)) = true := (Bool.and_eq_true _ _ ▸ zz)
                  have zz3 : pi1 = true ∧ (pc1 && pe) = true := (Bool.and_eq_true _ _ ▸ zz2.2)
                  obtain ⟨a1, a2⟩ := u4 zz2.1
                  obtain ⟨b1, b2⟩ := v4 zz3.1
                  obtain ⟨d1, d2⟩ := pu5 zz3.2
                  refine ⟨fun a u n h => d1 a u n (b1 a u (a1 a u (pu2 zz a u n h))), ?_⟩
                  have d3 := congrArg (fun s => SD.wipe s vs) d2
                  have d3 : (sdd.wipe vs1).wipe vs = (sdc.wipe vs1).wipe vs := d3
                  rw [wipe_wipe hvs, wipe_wipe hvs] at d3
                  rw [d3, b2, a2]; exact pw zz
      rcases wk.yld F' H i _ x H' f1 st.fh hd y with ⟨rfl, rx⟩ | ⟨T, us, es, rfl, ed, hT, rfl, rr⟩
      · exact main F' H' (Same.refl _) st rx fun z => (pu z).1
      · refine main _ _ (st.sameNew hT) (st.new (u := .tup us) hT) ?_ fun z a u n h => ?_
        · rw [ed]
          exact .tup (.inl (.inl upd_same)) (rr.mono (st.sameNew hT))
        · have := (pu z).1 a u n h
          rw [upd_ne (ne_of_none this hT)]; exact this
  · have e2 : i = ds.length := by omega
    subst e2
    rw [List.drop_length, goComp2] at eg
    cases eg
    exact .inl ⟨wk.stop F' H f1 st.fh, hQ F' H xs f1 st ra fun z => ⟨fun a u h => (pu z).1 a u (ne_of_none h hL) h, (pu z).2⟩⟩
end
section
variable {X : Cx} {pv : List V} {W : WX} {p q k l pc pe pi1 pc1 : Bool} {tg iter tg1 iter1 elt : Expr} {ifs ifs1 : List Expr} {scope : Scope} {pos : Pos}
theorem comp2_tr {own : List (Str × Nat)} {vs1 is is1 : List Nat} {wi wi1 : TI} {t t1 : TG} {tt tt1 : TT} {te : TE} {mi mi1 : SD → ER (List D)} {g g1 : D → SD → Option SD} {mc mc1 : SD → ER Bool} {me : SD → ER D} (hi : TrI X.K pv W p wi mi)
    (hg : TgRun X.K is t g) (hgw : ∀ (vs : List Nat), (∀ i ∈ is, i ∈ vs) → ∀ d sd sd', g d sd = some sd' → SD.wipe sd' vs = SD.wipe sd vs) (hg1 : TgRun X.K is1 t1 g1) (hgw1 : ∀ (vs : List Nat), (∀ i ∈ is1, i ∈ vs) → ∀ d sd sd', g1 d sd = some sd' → SD.wipe sd' vs = SD.wipe sd vs)
    (hc : TrT X.K pv W0 pc tt mc) (hi1 : TrI X.K pv W0 pi1 wi1 mi1) (hc1 : TrT X.K pv W0 pc1 tt1 mc1) (he : TrX X.K pv W0 pe true te me) (his : ∀ i ∈ is, i ∈ own.map (·.2)) (his1 : ∀ i ∈ is1, i ∈ vs1) (hvs : ∀ i ∈ vs1, i ∈ own.map (·.2)) :
    TrO X.K pv W (p && (pc && (pi1 && (pc1 && pe)))) (tLc2 wi t tt wi1 t1 tt1 te (own.map (·.2)) vs1) (mComp2 mi g mc mi1 g1 mc1 me (own.map (·.2)) vs1) := by
  intro G F sd σ H Q s
  refine Meets.bind (hi G F sd σ H _ s) fun J F1 H1 ds sd1 s1 s2 s3 s4 => ?_
  cases e : goComp2 g mc mi1 g1 mc1 me (own.map (·.2)) vs1 ds [] sd1 with
  | bad => exact True.intro
  | rz x sr => exact absurd e (goComp2_calm ds [] sd1 x sr)
  | ok res sdr =>
    intro hQ L hL
    obtain ⟨G', g1', g2, g3⟩ := s2.block (own.map (·.2))
    refine comp2_run his his1 hvs hg (hgw _ his) hg1 (hgw1 _ his1) hc hi1 hc1 he s3 g2 hL e fun F' H' xs f1 st r pu => ?_
    have z := st.unlay (g1' L hL) r
    have z2 := g3 F' sdr H' _ _ f1 z
    exact hQ _ F' H' f1 z2.drop z2 fun zz => ⟨(pu zz).1, back_self (pu zz).2⟩
theorem do_comp2 {own : List (Str × Nat)} {vs1 is is1 : List Nat} {mi mi1 : SD → ER (List D)} {g g1 : D → SD → Option SD} {mc mc1 : SD → ER Bool} {me : SD → ER D} (hc : X.calm = true) (hN : X.N.Nodup) (hi : DI X pv W p tg iter mi) (ok : BlkOk X.N X.env.scope scope own)
    (hg : ∀ (s : Shared) (H : Hp) (C : Addr) (cl : List (Str × Addr)) (fp : List Addr), DG (X.blk s H scope (compEnvC scope cl C X.env) fp) is tg g)
    (ht : ∀ (s : Shared) (H : Hp) (C : Addr) (cl : List (Str × Addr)) (fp : List Addr), DTs (X.blk s H scope (compEnvC scope cl C X.env) fp) pv W0 pc ifs mc)
    (hi1 : ∀ (s : Shared) (H : Hp) (C : Addr) (cl : List (Str × Addr)) (fp : List Addr), DI (X.blk s H scope (compEnvC scope cl C X.env) fp) pv W0 pi1 tg1 iter1 mi1)
    (hg1 : ∀ (s : Shared) (H : Hp) (C : Addr) (cl : List (Str × Addr)) (fp : List Addr), DG (X.blk s H scope (compEnvC scope cl C X.env) fp) is1 tg1 g1)
    (ht1 : ∀ (s : Shared) (H : Hp) (C : Addr) (cl : List (Str × Addr)) (fp : List Addr), DTs (X.blk s H scope (compEnvC scope cl C X.env) fp) pv W0 pc1 ifs1 mc1)
    (he : ∀ (s : Shared) (H : Hp) (C : Addr) (cl : List (Str × Addr)) (fp : List Addr), DX (X.blk s H scope (compEnvC scope cl C X.env) fp) pv W0 pe true elt me)
    (his : ∀ i ∈ is, i ∈ own.map (·.2)) (his1 : ∀ i ∈ is1, i ∈ vs1) (hvs : ∀ i ∈ vs1, i ∈ own.map (·.2))
    (wip : ∀ (vs : List Nat), (∀ i ∈ is, i ∈ vs) → ∀ d sd sd', g d sd = some sd' → SD.wipe sd' vs = SD.wipe sd vs) (wip1 : ∀ (vs : List Nat), (∀ i ∈ is1, i ∈ vs) → ∀ d sd sd', g1 d sd = some sd' → SD.wipe sd' vs = SD.wipe sd vs)
    (hs : ∀ x, foldedSetIterable iter X.env x = pure x := by intro _; rfl) (hs1 : ∀ env x, foldedSetIterable iter1 env x = pure x := by intro _ _; rfl) :
    DO X pv W (p && (pc && (pi1 && (pc1 && pe)))) (.ListComp elt [⟨tg, iter, ifs, 0⟩, ⟨tg1, iter1, ifs1, 0⟩] scope pos) (mComp2 mi g mc mi1 g1 mc1 me (own.map (·.2)) vs1) := by
  obtain ⟨wi, a1, a2⟩ := hi
  exact ⟨_, pe_lc2 hc hN a1 ok hvs (fun s H C cl fp => (hg s H C cl fp).can) (fun s H C cl fp => (ht s H C cl fp).run) (fun s H C cl fp => (hi1 s H C cl fp).can) (fun s H C cl fp => (hg1 s H C cl fp).can) (fun s H C cl fp => (ht1 s H C cl fp).run) (fun s H C cl fp => (he s H C cl fp).can) hs hs1,
    comp2_tr a2 canG_run wip canG_run wip1 canT_tr canI_tr canT_tr canX_tr his his1 hvs⟩
end
end DL

/-! DL11: trees changed in place, calls that are handed a tree, more assignments. -/
namespace DL
open PySem PySem.Spec L2

/-! ### a tree changed -/
def SD.put (sd : SD) (i : Nat) (t : OT) : SD := match sd.sl[i]? with
  | some (.ow _) => { sd with sl := sd.sl.set i (.ow t) }
  | some (.pa j) => { sd with pa := sd.pa.set j t }
  | _ => sd
section
variable {K : PySem.W.Frag} {pv : List V} {G F F' H H' : Hp} {sd : SD} {σ : L2.St} {o : Nat ⊕ Nat → Addr → Prop}
theorem Own.put {i : Nat} {t : OT} (W : Own K pv G F sd σ H o) (h : sd.tree i = some t) : ∃ (src : Nat ⊕ Nat) (v : V), σ[i]? = some (some v) ∧ RepO K F H t v (o src) ∧
    ∀ (F' H' : Hp) (o2 : Nat ⊕ Nat → Addr → Prop) (t' : OT), Same F F' → Same F' H' → Same G H' → (∀ a, F' a ≠ none → G a = none) → (∀ x a, o2 x a → H' a ≠ none ∧ F' a = none ∧ G a = none) → (∀ x y a, o2 x a → o2 y a → x = y) →
      (∀ x, x ≠ src → ∀ a, o x a → o2 x a ∧ H' a = H a) → RepO K F' H' t' v (o2 src) → Own K pv G F' (sd.put i t') σ H' o2 := by
  unfold SD.tree at h
  split at h
  · rename_i t0 e
    cases h
    obtain ⟨v, h1, h2⟩ := W.sl i _ e
    refine ⟨.inl i, v, h1, h2, fun F' H' o2 t' f fh gh fg oh oo ho r => ?_⟩
    have ep : sd.put i t' = { sd with sl := sd.sl.set i (.ow t') } := by unfold SD.put; rw [e]
    have hi : i < sd.sl.length := (List.getElem?_eq_some_iff.mp e).1
    rw [ep]
    refine ⟨fh, gh, fg, oh, oo, by simpa using W.len, fun j t1 e1 => ?_, fun j l e1 => ?_, fun j t1 e1 => ?_⟩
    · have e1 : (sd.sl.set i (S.ow t'))[j]? = some (S.ow t1) := e1
      by_cases z : i = j
      · subst z
        rw [List.getElem?_set_self hi] at e1
        cases e1
        exact ⟨v, h1, r⟩
      · rw [List.getElem?_set_ne z] at e1
        obtain ⟨w, k1, k2⟩ := W.sl j t1 e1
        refine ⟨w, k1, k2.mono f fun x hx => ho (.inl j) (fun y => z (Sum.inl.inj y).symm) x hx⟩
    · have e1 : (sd.sl.set i (S.ow t'))[j]? = some (S.pa l) := e1
      by_cases z : i = j
      · subst z
        rw [List.getElem?_set_self hi] at e1
        cases e1
      · rw [List.getElem?_set_ne z] at e1
        exact W.sp j l e1
    · obtain ⟨w, k1, k2⟩ := W.pr j t1 e1
      exact ⟨w, k1, k2.mono f fun x hx => ho (.inr j) (fun y => by cases y) x hx⟩
  · rename_i j e
    obtain ⟨v, h1, h2⟩ := W.sp i j e
    obtain ⟨v', h3, h4⟩ := W.pr j t h
    rw [h1] at h3; cases h3
    refine ⟨.inr j, v, h2, h4, fun F' H' o2 t' f fh gh fg oh oo ho r => ?_⟩
    have ep : sd.put i t' = { sd with pa := sd.pa.set j t' } := by unfold SD.put; rw [e]
    have hj : j < sd.pa.length := (List.getElem?_eq_some_iff.mp h).1
    rw [ep]
    refine ⟨fh, gh, fg, oh, oo, W.len, fun l t1 e1 => ?_, W.sp, fun l t1 e1 => ?_⟩
    · obtain ⟨w, k1, k2⟩ := W.sl l t1 e1
      exact ⟨w, k1, k2.mono f fun x hx => ho (.inl l) (fun y => by cases y) x hx⟩
    · have e1 : (sd.pa.set j t')[l]? = some t1 := e1
      by_cases z : j = l
      · subst z
        rw [List.getElem?_set_self hj] at e1
        cases e1
        exact ⟨v, h1, r⟩
      · rw [List.getElem?_set_ne z] at e1
        obtain ⟨w, k1, k2⟩ := W.pr l t1 e1
        exact ⟨w, k1, k2.mono f fun x hx => ho (.inr l) (fun y => z (Sum.inr.inj y).symm) x hx⟩
  · cases h
/-- the tree of a name is changed, another tree may become a part of it -/
theorem StR1.mut {i : Nat} {t t2 : OT} {v2 : V} (s : StR1 K pv G F sd σ H v2 t2) (h : sd.tree i = some t) : ∃ (v : V) (P P2 : Addr → Prop), σ[i]? = some (some v) ∧ RepO K F H t v P ∧ RepO K F H t2 v2 P2 ∧ (∀ a, P a → ¬ P2 a) ∧
    (∀ a, P a → H a ≠ none) ∧ (∀ a, P2 a → H a ≠ none) ∧
    ∀ (H' : Hp) (t' : OT), (∀ a, ¬ P a → ∀ u, H a = some u → H' a = some u) → (∀ a, P a → H' a ≠ none) → RepO K F H' t' v (fun a => P a ∨ P2 a) → StR K pv G F (sd.put i t') σ H' := by
  classical
  obtain ⟨o, P2, W, r2, k2⟩ := s
  obtain ⟨src, v, h1, h2, h3⟩ := W.put h
  refine ⟨v, o src, P2, h1, h2, r2, fun a q q2 => (k2 a q2).2.2.2 src q, fun a q => (W.oh _ a q).1, fun a q => (k2 a q).1, fun H' t' hH hP r => ?_⟩
  have keep : ∀ a, ¬ o src a → H a ≠ none → H' a = H a := fun a n hn => by
    cases e : H a with
    | none => exact absurd e hn
    | some u => exact hH a n u e
  refine ⟨fun x a => if x = src then o src a ∨ P2 a else o x a, h3 F H' _ t' (Same.refl _) (fun a u e => ?_) (fun a u e => ?_) W.fg (fun x a q => ?_) (fun x y a q q' => ?_) (fun x n a q => ?_) ?_⟩
  · exact hH a (fun z => by rw [(W.oh _ a z).2.1] at e; cases e) u (W.fh a u e)
  · exact hH a (fun z => by rw [(W.oh _ a z).2.2] at e; cases e) u (W.gh a u e)
  · by_cases z : x = src
    · rw [if_pos z] at q
      rcases q with q | q
      · exact ⟨hP a q, (W.oh _ a q).2⟩
      · obtain ⟨k1, k3, k4, k5⟩ := k2 a q
        exact ⟨by rw [keep a (k5 _) k1]; exact k1, k3, k4⟩
    · rw [if_neg z] at q
      obtain ⟨k1, k3, k4⟩ := W.oh x a q
      exact ⟨by rw [keep a (fun q' => z (W.oo _ _ a q q')) k1]; exact k1, k3, k4⟩
  · by_cases z : x = src
    · rw [if_pos z] at q
      by_cases y' : y = src
      · rw [z, y']
      · rw [if_neg y'] at q'
        rcases q with q | q
        · exact absurd (W.oo _ _ a q q').symm y'
        · exact absurd q' ((k2 a q).2.2.2 y)
    · rw [if_neg z] at q
      by_cases y' : y = src
      · rw [if_pos y'] at q'
        rcases q' with q' | q'
        · exact absurd (W.oo _ _ a q q') z
        · exact absurd q ((k2 a q').2.2.2 x)
      · rw [if_neg y'] at q'
        exact W.oo _ _ a q q'
  · have k1 := (W.oh x a q).1
    exact ⟨by rw [if_neg n]; exact q, keep a (fun q' => n (W.oo _ _ a q q')) k1⟩
  · show RepO K F H' t' v (fun a => if src = src then o src a ∨ P2 a else o src a)
    exact r.mono (Same.refl _) fun x hx => ⟨by rw [if_pos rfl]; exact hx, rfl⟩
/-- .. alone -/
theorem StR.mut {i : Nat} {t : OT} (s : StR K pv G F sd σ H) (h : sd.tree i = some t) : ∃ (v : V) (P : Addr → Prop), σ[i]? = some (some v) ∧ RepO K F H t v P ∧ (∀ a, P a → H a ≠ none) ∧
    ∀ (H' : Hp) (t' : OT), (∀ a, ¬ P a → ∀ u, H a = some u → H' a = some u) → (∀ a, P a → H' a ≠ none) → RepO K F H' t' v P → StR K pv G F (sd.put i t') σ H' := by
  obtain ⟨v, P, P2, h1, h2, _, _, h5, _, h6⟩ := (StR1.fz s (.non)).mut h
  exact ⟨v, P, h1, h2, h5, fun H' t' a b r => h6 H' t' a b (r.mono (Same.refl _) fun x hx => ⟨.inl hx, rfl⟩)⟩
theorem repOs_app : ∀ {ts : List OT} {vs : List V} {P P2 : Addr → Prop} {t2 : OT} {v2 : V}, RepOs K F H ts vs P → RepO K F H t2 v2 P2 → (∀ a, P a → ¬ P2 a) → RepOs K F H (ts ++ [t2]) (vs ++ [v2]) (fun a => P a ∨ P2 a)
  | [], vs, P, P2, t2, v2, r, r2, d => by
    unfold RepOs at r
    subst r
    rw [List.nil_append, List.nil_append]
    unfold RepOs
    refine ⟨v2, [], P2, fun _ => False, rfl, fun x h => .inr h, fun x h => h.elim, r2, ?_⟩
    unfold RepOs; rfl
  | t :: ts, vs, P, P2, t2, v2, r, r2, d => by
    unfold RepOs at r
    obtain ⟨v, ws, Q1, Q2, rfl, h1, h2, r1, rr⟩ := r
    rw [List.cons_append, List.cons_append]
    unfold RepOs
    refine ⟨v, ws ++ [v2], Q1, fun a => Q2 a ∨ P2 a, rfl, fun x h => .inl (h1 x h), fun x h => ?_, r1, repOs_app rr r2 fun a q => d a (h2 a q).1⟩
    rcases h with h | h
    · exact ⟨.inl (h2 x h).1, (h2 x h).2⟩
    · exact ⟨.inr h, fun q => d x (h1 x q) h⟩
theorem repOs_set : ∀ {ts : List OT} {vs : List V} {P P2 : Addr → Prop} {t2 : OT} {v2 : V} (k : Nat), RepOs K F H ts vs P → RepO K F H t2 v2 P2 → (∀ a, P a → ¬ P2 a) → RepOs K F H (ts.set k t2) (vs.set k v2) (fun a => P a ∨ P2 a)
  | [], vs, P, P2, t2, v2, k, r, r2, d => by
    unfold RepOs at r
    subst r
    rw [List.set_nil, List.set_nil]
    unfold RepOs; rfl
  | t :: ts, vs, P, P2, t2, v2, 0, r, r2, d => by
    unfold RepOs at r
    obtain ⟨v, ws, Q1, Q2, rfl, h1, h2, r1, rr⟩ := r
    rw [List.set_cons_zero, List.set_cons_zero]
    unfold RepOs
    exact ⟨v2, ws, P2, Q2, rfl, fun x h => .inr h, fun x h => ⟨.inl (h2 x h).1, d x (h2 x h).1⟩, r2, rr⟩
  | t :: ts, vs, P, P2, t2, v2, k + 1, r, r2, d => by
    unfold RepOs at r
    obtain ⟨v, ws, Q1, Q2, rfl, h1, h2, r1, rr⟩ := r
    rw [List.set_cons_succ, List.set_cons_succ]
    unfold RepOs
    refine ⟨v, ws.set k v2, Q1, fun a => Q2 a ∨ P2 a, rfl, fun x h => .inl (h1 x h), fun x h => ?_, r1, repOs_set k rr r2 fun a q => d a (h2 a q).1⟩
    rcases h with h | h
    · exact ⟨.inl (h2 x h).1, (h2 x h).2⟩
    · exact ⟨.inr h, fun q => d x (h1 x q) h⟩
/-- a list of a name: its items anew -/
theorem StR1.lset {i : Nat} {ts : List OT} {t2 : OT} {v2 : V} (s : StR1 K pv G F sd σ H v2 t2) (h : sd.tree i = some (.ol ts)) : ∃ (a : Addr) (vs : List V), σ[i]? = some (some (.ref a)) ∧ H a = some (.lst vs) ∧ vs.length = ts.length ∧
    StR K pv G F (sd.put i (.ol (ts ++ [t2]))) σ (upd H a (.lst (vs ++ [v2]))) ∧ ∀ k, StR K pv G F (sd.put i (.ol (ts.set k t2))) σ (upd H a (.lst (vs.set k v2))) := by
  obtain ⟨v, P, P2, h1, h2, r2, d, hn, hn2, go⟩ := s.mut h
  unfold RepO at h2
  obtain ⟨a, vs, rfl, pa, ha, r⟩ := h2
  have main : ∀ (us : List V) (ts' : List OT), RepOs K F H ts' us (fun x => (P x ∧ x ≠ a) ∨ P2 x) → StR K pv G F (sd.put i (.ol ts')) σ (upd H a (.lst us)) := fun us ts' rr => by
    refine go _ _ (fun x hx u e => by rw [upd_ne (fun z => hx (by rw [z]; exact pa))]; exact e) (fun x hx => ?_) ?_
    · by_cases z : x = a
      · rw [z, upd_same]; simp
      · rw [upd_ne z]; exact hn x hx
    · unfold RepO
      refine ⟨a, us, rfl, .inl pa, upd_same, rr.mono (Same.refl _) fun x hx => ?_⟩
      have ne : x ≠ a := by
        rcases hx with hx | hx
        · exact hx.2
        · exact fun z => d a pa (by rw [← z]; exact hx)
      exact ⟨⟨hx.imp And.left id, ne⟩, upd_ne ne⟩
  exact ⟨a, vs, h1, ha, r.length, main _ _ (repOs_app r r2 fun x q => d x q.1), fun k => main _ _ (repOs_set k r r2 fun x q => d x q.1)⟩
end

/-- what happens while a tree is put aside -/
theorem Meets.unhide {α β : Type} {K : PySem.W.Frag} {pv : List V} {W : WX} {G G' F H : Hp} {σ : L2.St} {RS : RSt β α} {p : Bool} {sd : SD} {r : ER α} {Q : β → Hp → Prop} {P : Prop} {v : V} {t : OT} (h : Meets K pv W G' σ RS p sd F H r Q P)
    (g : ∀ (F' : Hp) (sd' : SD) (σ' : L2.St) (H' : Hp), Same F F' → StR K pv G' F' sd' σ' H' → StR1 K pv G F' sd' σ' H' v t) :
    Meets K pv W G σ (fun _ F' sd' H' σ w a => StR1 K pv G F' sd' σ H' v t ∧ RS G' F' sd' H' σ w a) p sd F H r Q P := by
  cases r with
  | bad => exact True.intro
  | rz x sd' => exact fun z => h fun cls dd F' H' s1 s2 s3 => z cls dd F' H' s1 (g F' sd' σ H' s1 s2).drop s3
  | ok a sd' => exact fun z => h fun w F' H' s1 s2 s3 s4 => z w F' H' s1 (g F' sd' σ H' s1 s2).drop ⟨g F' sd' σ H' s1 s2, s3⟩ s4

/-! ### statements that change a list -/
def sApp (i : Nat) (m : SD → ER OT) : SD → Fl := fun sd => match sd.tree i with
  | some (.ol _) => (m sd).stm fun t sd1 => match sd1.tree i with
    | some (.ol ts) => if ts.length < 16777216 then .nx (sd1.put i (.ol (ts ++ [t]))) else .bad
    | _ => .bad
  | _ => .bad
def setEnd (i : Nat) (t : OT) (d : D) (sd : SD) : Fl := match d, sd.tree i with
  | .int k, some (.ol ts) => match ixN ts.length k with
    | some j => .nx (sd.put i (.ol (ts.set j t)))
    | none => .bad
  | _, _ => .bad
def sSetAt (i : Nat) (mk : SD → ER D) (m : SD → ER OT) : SD → Fl := fun sd => (m sd).stm fun t sd1 => match sd1.tree i with
  | some (.ol _) => (mk sd1).stm (setEnd i t)
  | _ => .bad
def sAug (i : Nat) (f : D → D → Option D) (m : SD → ER D) : SD → Fl := fun sd => match sd.sl[i]? with
  | some (.ow (.fz d)) => (m sd).stm fun y sd1 => match f d y with
    | some c => if i < sd1.sl.length then .nx { sd1 with sl := sd1.sl.set i (.ow (.fz c)) } else .bad
    | none => .bad
  | _ => .bad
def sAsg (m : SD → ER D) (g : D → SD → Option SD) : SD → Fl := fun sd => (m sd).stm fun d sd1 => match g d sd1 with
  | some sd2 => .nx sd2
  | none => .bad
def sPar (i j : Nat) (ma mb : SD → ER OT) : SD → Fl := fun sd => (ma sd).stm fun t sd1 => (mb sd1).stm fun u sd2 => if i < sd2.sl.length ∧ j < sd2.sl.length then .nx { sd2 with sl := (sd2.sl.set i (.ow t)).set j (.ow u) } else .bad
section
variable {X : Cx} {pv : List V} {W : WX} {p q k l : Bool} {e a b c : Expr} {es : List Expr} {pos : Pos}
theorem ol_at {K : PySem.W.Frag} {G F H : Hp} {sd : SD} {σ : L2.St} {i : Nat} {ts : List OT} (s : StR K pv G F sd σ H) (h : sd.tree i = some (.ol ts)) : ∃ a vs, σ[i]? = some (some (.ref a)) ∧ H a = some (.lst vs) := by
  obtain ⟨v, P, h1, h2⟩ := s.tree h
  unfold RepO at h2
  obtain ⟨a, vs, rfl, _, ha, _⟩ := h2
  exact ⟨a, vs, h1, ha⟩
theorem ds_app {i : Nat} {x : Str} {pp apos cpos : Pos} {m : SD → ER OT} (hx : PE X (.Name x pp) (tVar i)) (he : DO X pv W p e m)
    (hline : (apos.endLine == cpos.line) = true := by rfl) (hs : swapsWith (.Call (.Attribute (.Name x pp) "append" apos) [e] [] cpos) none pos.line X.env = pure false := by rfl)
    (hbase : attributeBase (.Name x pp) "append" X.env (eval (.Name x pp) X.env) = eval (.Name x pp) X.env := by rfl)
    (hfew : ((backTo cpos (starEach [e] X.env)).all (fun x => !x.1) && (backToKw cpos (keywordEach [] X.env)).all (fun x => x.1.isSome)
      && decide ([e].length + ([] : List Keyword).length + (if ([] : List Keyword).isEmpty then 0 else 1) < 30)) = true := by rfl)
    (hse : starEach [e] X.env = (false, eval e X.env) :: starEach [] X.env := by rfl) (hplain : (backTo cpos (starEach [] X.env)).any (·.1) = false := by rfl) :
    DS X pv W (.Expr (.Call (.Attribute (.Name x pp) "append" apos) [e] [] cpos) pos) (sApp i m) := by
  obtain ⟨te, a1, a2⟩ := he
  refine ⟨_, ps_expr (pe_bm PySem.F.plainAttrs_list PySem.F.slot_list_append PySem.F.type_list_append mt_append hx (pa_cons a1 pa_nil hse) hbase hfew hline hse hplain) hs, fun G F sd σ H D s => ?_⟩
  unfold sApp
  split
  · rename_i ts0 e0
    obtain ⟨a, vs0, h0, hH0⟩ := ol_at s e0
    refine MeetsS.imp (Meets.stm (a2 G F sd σ H (fun v H1 => rAppend (.ref a) [v] H1 fun _ H2 => D.nx σ H2) s) (f := fun t sd1 => match sd1.tree i with
      | some (.ol ts) => if ts.length < 16777216 then .nx (sd1.put i (.ol (ts ++ [t]))) else .bad
      | _ => .bad) (D := D) fun v F1 H1 t sd1 s1 s2 s3 => ?_) fun z => ⟨_, h0, .inl ⟨rfl, vs0, .inl (.inl hH0)⟩, z⟩
    split
    · rename_i ts e1
      split
      · rename_i hl
        intro hQ
        obtain ⟨l, vs, h1, h2, h3, h4, _⟩ := s3.lset e1
        rw [h0] at h1; cases h1
        exact ⟨_, vs, v, rfl, rfl, h2, by rw [h3, sizeLine_eq]; exact hl, hQ F1 σ _ (Same.refl _) h4⟩
      · exact True.intro
    · exact True.intro
  · exact True.intro
theorem ds_setAt {i : Nat} {x : Str} {pp sp : Pos} {mk : SD → ER D} {m : SD → ER OT} (hx : PE X (.Name x pp) (tVar i)) (hk : DX X pv W true l b mk) (he : DO X pv W p e m)
    (ha : ∀ v, assign (.Subscript (.Name x pp) b sp) X.env v = (do
      let ov ← holding [v] (eval (.Name x pp) X.env)
      let iv ← holding [v, ov] (eval b X.env)
      standAt sp
      holding [v, ov, iv] (setItem ov iv v)
      release [v, ov, iv] []) := by intro _; rfl)
    (hs : swapsWithSole [.Subscript (.Name x pp) b sp] e pos.line X.env = pure false := by rfl) (hw : swappedStores [.Subscript (.Name x pp) b sp] e X.env = pure none := by rfl)
    (h1 : (assignEach [.Subscript (.Name x pp) b sp] X.env).map (·.2) = [assign (.Subscript (.Name x pp) b sp) X.env] := by rfl) :
    DS X pv W (.Assign [.Subscript (.Name x pp) b sp] e pos) (sSetAt i mk m) := by
  obtain ⟨te, a1, a2⟩ := he
  obtain ⟨tk, b1, b2⟩ := hk
  refine ⟨_, ps_asg a1 (pg_sub hx b1 set_list ha) hs hw h1, fun G F sd σ H D s => ?_⟩
  refine Meets.stm (a2 G F sd σ H _ s) fun v F1 H1 t sd1 s1 s2 s3 => ?_
  split
  · rename_i ts0 e0
    obtain ⟨a, vs0, h0, hH0⟩ := ol_at s2 e0
    obtain ⟨G', g1, g2, g3⟩ := s3.hide
    have z := (b2 G' F1 sd1 σ H1 (fun y H2 => rSetL (.ref a) y v H2 fun H3 => D.nx σ H3) g2).unhide g3
    refine MeetsS.imp (Meets.stm z (f := setEnd i t) (D := D) fun y F2 H2 dk sd2 t1 t2 t3 => ?_) fun z => ⟨_, h0, z⟩
    obtain ⟨t3, t4⟩ := t3
    unfold setEnd
    split
    · rename_i k ts e2
      have r : Rep X.K H2 y (.int k) := (show RSx X.K l G F2 sd2 H2 σ y (.int k) from t4).see t2
      cases r
      split
      · rename_i j hj
        intro hQ
        obtain ⟨l, vs, h1, h2, h3, _, h4⟩ := t3.lset e2
        rw [h0] at h1; cases h1
        exact ⟨_, vs, k, j, rfl, rfl, h2, by rw [h3]; exact hj, hQ F2 σ _ (Same.refl _) (h4 j)⟩
      · exact True.intro
    · exact True.intro
  · exact True.intro
theorem ds_asg {tg : Expr} {is : List Nat} {m : SD → ER D} {g : D → SD → Option SD} (he : DX X pv W p true e m) (hg : DG X is tg g) (hs : swapsWithSole [tg] e pos.line X.env = pure false := by rfl) (hw : swappedStores [tg] e X.env = pure none := by rfl)
    (h1 : (assignEach [tg] X.env).map (·.2) = [assign tg X.env] := by rfl) : DS X pv W (.Assign [tg] e pos) (sAsg m g) := by
  obtain ⟨te, a1, a2⟩ := he
  obtain ⟨⟨t, b1, b2⟩, _⟩ := hg
  refine ⟨_, ps_asg a1 b1 hs hw h1, fun G F sd σ H D s => ?_⟩
  refine Meets.stm (a2 G F sd σ H _ s) fun v F1 H1 d sd1 s1 s2 s3 => ?_
  split
  · rename_i sd2 e2
    intro hQ
    obtain ⟨σ', k1, _, k3⟩ := b2 pv G F1 sd1 σ H1 v d sd2 s2 s3 e2
    exact k3 D.nx (hQ F1 σ' H1 (Same.refl _) k1)
  · exact True.intro
theorem ds_aug {i : Nat} {x : Str} {op : Operator} {r : R2} {f : D → D → Option D} {pos' : Pos} {m : SD → ER D} (hN : X.N.Nodup) (hi : X.N[i]? = some x) (hx : Loc X.env.scope x) (ho : OpR X (inplaceOp op) r) (hf : Op2S X.K r f) (he : DX X pv W p k e m)
    (hl : X.fn x = true ∨ X.env.scope.names.lookup x = some .local := by first | exact .inl rfl | exact .inr rfl | assumption) : DS X pv W (.AugAssign (.Name x pos') op e pos) (sAug i f m) := by
  obtain ⟨te, a1, a2⟩ := he
  refine ⟨_, ps_aug hN hi hx a1 (show PIp X op r from ho) hl, fun G F sd σ H D s => ?_⟩
  unfold sAug
  split
  · rename_i d e0
    obtain ⟨o, w⟩ := id s
    obtain ⟨v, h1, h2⟩ := w.sl i _ e0
    unfold RepO at h2
    refine MeetsS.imp (Meets.stm (a2 G F sd σ H (fun y H1 => r v y H1 fun z H2 => D.nx (σ.set i (some z)) H2) s) (f := fun y sd1 => match f d y with
      | some c => if i < sd1.sl.length then .nx { sd1 with sl := sd1.sl.set i (.ow (.fz c)) } else .bad
      | none => .bad) (D := D) fun y F1 H1 dy sd1 s1 s2 s3 => ?_) fun z => ⟨v, h1, z⟩
    split
    · rename_i c ec
      obtain ⟨vc, c1, c2⟩ := hf H1 v y d dy c (Rep.mono s2.fh (Rep.mono s1 h2)) (RSx.see s3 s2) ec
      split
      · rename_i hi
        exact fun hQ => c2 _ (hQ F1 _ H1 (Same.refl _) ((StR1.fz s2 (Rep.sc c1)).store hi))
      · exact True.intro
    · exact True.intro
  · exact True.intro
theorem ds_par {i j : Nat} {x y : Str} {px py pt pt2 : Pos} {kt k2 : Nat} {ma mb : SD → ER OT} (hc : X.calm = true) (hN : X.N.Nodup) (hi : X.N[i]? = some x) (hj : X.N[j]? = some y) (hij : i ≠ j)
    (hx : X.env.scope.names.lookup x = some .local) (hy : X.env.scope.names.lookup y = some .local) (ha : DO X pv W p a ma) (hb : DO X pv W q b mb)
    (hw : swappedStores [.Tuple [.Name x px, .Name y py] kt pt] (.Tuple [a, b] k2 pt2) X.env = pure (some [x, y]))
    (hs : swapsWithSole [.Tuple [.Name x px, .Name y py] kt pt] (.Tuple [a, b] k2 pt2) pos.line X.env = pure false := by rfl)
    (hs1 : starEach [a, b] X.env = (false, eval a X.env) :: starEach [b] X.env := by rfl) (hs2 : starEach [b] X.env = (false, eval b X.env) :: starEach [] X.env := by rfl) :
    DS X pv W (.Assign [.Tuple [.Name x px, .Name y py] kt pt] (.Tuple [a, b] k2 pt2) pos) (sPar i j ma mb) := by
  obtain ⟨ta, a1, a2⟩ := ha
  obtain ⟨tb, b1, b2⟩ := hb
  refine ⟨_, ps_par hc hN hi hj hij hx hy (pa_cons a1 (pa_cons b1 pa_nil hs2) hs1) hw hs, fun G F sd σ H D s => ?_⟩
  refine Meets.stm (a2 G F sd σ H _ s) fun v F1 H1 t sd1 s1 s2 s3 => ?_
  obtain ⟨G', g1, g2, g3⟩ := StR1.hide s3
  have z := (b2 G' F1 sd1 σ H1 (fun w H2 => ∃ a b, [v, w] = [a, b] ∧ D.nx ((σ.set i (some a)).set j (some b)) H2) g2).unhide g3
  refine MeetsS.imp (Meets.stm z (f := fun u sd2 => if i < sd2.sl.length ∧ j < sd2.sl.length then .nx { sd2 with sl := (sd2.sl.set i (.ow t)).set j (.ow u) } else .bad) (D := D) fun w F2 H2 u sd2 t1 t2 t3 => ?_) ?_
  · obtain ⟨t3, t4⟩ := t3
    split
    · rename_i hl
      intro hQ
      have t4 : StR1 X.K pv G' F2 sd2 σ H2 w u := t4
      have q1 := t4.store hl.2
      have q2 := g3 F2 _ _ H2 t1 q1
      have q3 := q2.store (i := i) (by show i < (sd2.sl.set j (S.ow u)).length; rw [List.length_set]; exact hl.1)
      rw [List.set_comm _ _ (Ne.symm hij), List.set_comm _ _ (Ne.symm hij)] at q3
      exact ⟨v, w, rfl, hQ F2 _ H2 (Same.refl _) q3⟩
    · exact True.intro
  · exact id
end
end DL

/-! DL12: names taken and frozen; calls that are handed a tree. -/
namespace DL
open PySem PySem.Spec L2

section
variable {K : PySem.W.Frag} {pv : List V} {G F H : Hp} {sd : SD} {σ : L2.St}
/-- a name's tree is taken away from it -/
theorem StR.take {i : Nat} {t : OT} (s : StR K pv G F sd σ H) (h : sd.sl[i]? = some (.ow t)) : ∃ v, σ[i]? = some (some v) ∧ StR1 K pv G F { sd with sl := sd.sl.set i .un } σ H v t := by
  obtain ⟨o, W⟩ := s
  obtain ⟨v, h1, h2⟩ := W.sl i t h
  have hi : i < sd.sl.length := (List.getElem?_eq_some_iff.mp h).1
  refine ⟨v, h1, fun x a => o x a ∧ x ≠ .inl i, o (.inl i), ⟨W.fh, W.gh, W.fg, fun x a q => W.oh x a q.1, fun x y a q q' => W.oo x y a q.1 q'.1, by simpa using W.len, fun j t' e => ?_, fun j l e => ?_, fun j t' e => ?_⟩, h2, fun a z => ⟨(W.oh _ a z).1, (W.oh _ a z).2.1, (W.oh _ a z).2.2, fun x q => q.2 (W.oo _ _ a q.1 z)⟩⟩
  · have e : (sd.sl.set i S.un)[j]? = some (S.ow t') := e
    by_cases z : i = j
    · subst z; rw [List.getElem?_set_self hi] at e; cases e
    · rw [List.getElem?_set_ne z] at e
      obtain ⟨w, k1, k2⟩ := W.sl j t' e
      exact ⟨w, k1, k2.mono (Same.refl _) fun x hx => ⟨⟨hx, fun y => z (Sum.inl.inj y).symm⟩, rfl⟩⟩
  · have e : (sd.sl.set i S.un)[j]? = some (S.pa l) := e
    by_cases z : i = j
    · subst z; rw [List.getElem?_set_self hi] at e; cases e
    · rw [List.getElem?_set_ne z] at e
      exact W.sp j l e
  · obtain ⟨w, k1, k2⟩ := W.pr j t' e
    exact ⟨w, k1, k2.mono (Same.refl _) fun x hx => ⟨⟨hx, fun y => by cases y⟩, rfl⟩⟩
/-- a frozen value in a slot that nothing is known of -/
theorem StR.know {i : Nat} {v : V} {d : D} (s : StR K pv G F sd σ H) (h : σ[i]? = some (some v)) (r : Rep K F v d) : StR K pv G F { sd with sl := sd.sl.set i (.ow (.fz d)) } σ H := by
  have hl : i < sd.sl.length := by
    obtain ⟨o, W⟩ := s
    rw [← W.len]
    exact (List.getElem?_eq_some_iff.mp h).1
  have z := (StR1.fz s r).store hl
  have e : σ.set i (some v) = σ := by
    refine List.ext_getElem? fun j => ?_
    by_cases hj : i = j
    · subst hj
      rw [h, List.getElem?_set_self (List.getElem?_eq_some_iff.mp h).1]
    · rw [List.getElem?_set_ne hj]
  rw [e] at z
  exact z
end
section
variable {X : Cx} {pv : List V} {W : WX} {p q k l : Bool} {e a b c : Expr} {es : List Expr} {pos : Pos}
theorem do_take {i : Nat} {x : Str} {pos : Pos} (h : PE X (.Name x pos) (tVar i)) : DO X pv W false (.Name x pos) (mTake i) := by
  refine ⟨_, h, fun G F sd σ H Q s => ?_⟩
  unfold mTake
  split
  · rename_i t e
    obtain ⟨v, h1, h2⟩ := s.take e
    exact fun hQ => ⟨v, h1, hQ v F H (Same.refl _) h2.drop h2 (fun z => by cases z)⟩
  · exact True.intro
theorem dx_frz {i : Nat} {x : Str} {pos : Pos} (h : PE X (.Name x pos) (tVar i)) : DX X pv W false true (.Name x pos) (mFrz i) := by
  refine ⟨_, h, fun G F sd σ H Q s => ?_⟩
  unfold mFrz
  split
  · rename_i t e
    obtain ⟨v, h1, h2⟩ := s.take e
    obtain ⟨F', f1, f2, f3⟩ := h2.frz
    have z := f2.know h1 f3
    rw [List.set_set] at z
    exact fun hQ => ⟨v, h1, hQ v F' H f1 z f3 (fun z => by cases z)⟩
  · exact True.intro

/-! ### arguments, some of them trees of names -/
inductive Arg where
  | fz (d : D)
  | sl (i : Nat)
inductive RepsR (K : PySem.W.Frag) (F : Hp) (σ : L2.St) : List V → List Arg → Prop
  | nil : RepsR K F σ [] []
  | fz {v : V} {vs : List V} {d : D} {r : List Arg} : Rep K F v d → RepsR K F σ vs r → RepsR K F σ (v :: vs) (.fz d :: r)
  | sl {v : V} {vs : List V} {i : Nat} {r : List Arg} : σ[i]? = some (some v) → RepsR K F σ vs r → RepsR K F σ (v :: vs) (.sl i :: r)
theorem RepsR.mono {K : PySem.W.Frag} {F F' : Hp} {σ : L2.St} (e : Same F F') : ∀ {vs : List V} {r : List Arg}, RepsR K F σ vs r → RepsR K F' σ vs r
  | _, _, .nil => .nil
  | _, _, .fz h r => .fz (h.mono e) (r.mono e)
  | _, _, .sl h r => .sl h (r.mono e)
theorem RepsR.length {K : PySem.W.Frag} {F : Hp} {σ : L2.St} : ∀ {vs : List V} {r : List Arg}, RepsR K F σ vs r → vs.length = r.length
  | _, _, .nil => rfl
  | _, _, .fz h r => by rw [List.length_cons, List.length_cons, r.length]
  | _, _, .sl h r => by rw [List.length_cons, List.length_cons, r.length]
def TrR (K : PySem.W.Frag) (pv : List V) (W : WX) (ta : TA) (m : SD → ER (List Arg)) : Prop := ∀ G F sd σ H Q, StR K pv G F sd σ H → Meets K pv W G σ (fun _ F _ _ σ vs r => RepsR K F σ vs r) false sd F H (m sd) Q (ta σ H Q)
structure DR (X : Cx) (pv : List V) (W : WX) (es : List Expr) (m : SD → ER (List Arg)) : Prop where
  ex : ∃ ta, PA X es ta ∧ TrR X.K pv W ta m
def rNil : SD → ER (List Arg) := fun sd => .ok [] sd
def rSlot (i : Nat) (r : SD → ER (List Arg)) : SD → ER (List Arg) := fun sd => match sd.tree i with
  | some _ => (r sd).bind fun xs sd2 => .ok (.sl i :: xs) sd2
  | none => .bad
def rFz (a : SD → ER D) (r : SD → ER (List Arg)) : SD → ER (List Arg) := fun sd => (a sd).bind fun d sd1 => (r sd1).bind fun xs sd2 => .ok (.fz d :: xs) sd2
theorem Meets.weak {α β : Type} {K : PySem.W.Frag} {G F H : Hp} {σ : L2.St} {RS : RSt β α} {sd : SD} {r : ER α} {Q : β → Hp → Prop} {P : Prop} (h : Meets K pv W G σ RS p sd F H r Q P) : Meets K pv W G σ RS false sd F H r Q P := by
  cases r with
  | bad => exact True.intro
  | rz x sd' => exact h
  | ok a sd' => exact fun z => h fun v F' H' s1 s2 s3 _ => z v F' H' s1 s2 s3 fun w => by cases w
theorem dr_nil : DR X pv W [] rNil := ⟨_, pa_nil, fun G F sd σ H Q s => (Meets.here (p := true) s .nil id).weak⟩
theorem dr_slot {i : Nat} {x : Str} {pp : Pos} {mr : SD → ER (List Arg)} (hx : PE X (.Name x pp) (tVar i)) (hr : DR X pv W es mr) (hs : starEach (.Name x pp :: es) X.env = (false, eval (.Name x pp) X.env) :: starEach es X.env := by rfl) : DR X pv W (.Name x pp :: es) (rSlot i mr) := by
  obtain ⟨tr, b1, b2⟩ := hr
  refine ⟨_, pa_cons hx b1 hs, fun G F sd σ H Q s => ?_⟩
  unfold rSlot
  split
  · rename_i t e
    obtain ⟨v, P, h1, h2⟩ := s.tree e
    refine Meets.to (P := tr σ H fun xs H2 => Q (v :: xs) H2) ?_ fun z => ⟨v, h1, z⟩
    refine (Meets.bindL (b2 G F sd σ H (fun xs H2 => Q (v :: xs) H2) s) fun xs F1 H1 rs sd1 s1 s2 s3 s4 => ?_)
    exact Meets.here s2 (.sl h1 s3) id
  · exact True.intro
theorem dr_fz {ma : SD → ER D} {mr : SD → ER (List Arg)} (ha : DX X pv W p true e ma) (hr : DR X pv W es mr) (hs : starEach (e :: es) X.env = (false, eval e X.env) :: starEach es X.env := by rfl) : DR X pv W (e :: es) (rFz ma mr) := by
  obtain ⟨te, a1, a2⟩ := ha
  obtain ⟨tr, b1, b2⟩ := hr
  refine ⟨_, pa_cons a1 b1 hs, fun G F sd σ H Q s => ?_⟩
  refine Meets.weak (p := p && false) (Meets.bind (a2 G F sd σ H _ s) fun x F1 H1 dx sd1 s1 s2 s3 s4 => ?_)
  refine (Meets.bindL (b2 G F1 sd1 σ H1 _ s2) fun xs F2 H2 rs sd2 t1 t2 t3 t4 => ?_)
  exact Meets.here t2 (.fz (Rep.mono t1 (show Rep X.K F1 x dx from s3)) t3) id
end

/-! ### a call -/
def treesOf (sd : SD) : List Arg → Option (List OT)
  | [] => some []
  | .fz d :: r => (treesOf sd r).map (.fz d :: ·)
  | .sl i :: r => (sd.tree i).bind fun t => (treesOf sd r).map (t :: ·)
def noSlot : List Arg → Bool
  | [] => true
  | .fz _ :: r => noSlot r
  | .sl _ :: _ => false
def oneSlot : List Arg → Option (Nat × Nat)
  | [] => none
  | .fz _ :: r => (oneSlot r).map fun p => (p.1 + 1, p.2)
  | .sl i :: r => if noSlot r = true then some (0, i) else none
section
variable {K : PySem.W.Frag} {pv : List V} {G F H : Hp} {sd : SD} {σ : L2.St}
theorem args_no {F : Hp} : ∀ {vs : List V} {r : List Arg} {ts : List OT}, RepsR K F σ vs r → treesOf sd r = some ts → noSlot r = true → vs.length = ts.length ∧ ∀ (k : Nat) (t : OT), ts[k]? = some t → ∃ v d, vs[k]? = some v ∧ t = .fz d ∧ Rep K F v d
  | _, _, ts, .nil, h, _ => by
    unfold treesOf at h
    cases h
    exact ⟨rfl, fun k t e => by simp at e⟩
  | _, _, ts, .fz (r := r) h1 h2, h, hn => by
    unfold treesOf at h
    cases e : treesOf sd r with
    | none => rw [e] at h; cases h
    | some us =>
      rw [e] at h; cases h
      obtain ⟨l1, l2⟩ := args_no h2 e hn
      refine ⟨by rw [List.length_cons, List.length_cons, l1], fun k t et => ?_⟩
      cases k with
      | zero => simp at et; subst et; exact ⟨_, _, rfl, rfl, h1⟩
      | succ k =>
        obtain ⟨v, d, q1, q2, q3⟩ := l2 k t (by simpa using et)
        exact ⟨v, d, by simpa using q1, q2, q3⟩
  | _, _, ts, .sl h1 h2, h, hn => by cases hn
theorem args_one {F : Hp} : ∀ {vs : List V} {r : List Arg} {ts : List OT} {m i : Nat}, RepsR K F σ vs r → treesOf sd r = some ts → oneSlot r = some (m, i) → vs.length = ts.length ∧ (∃ t, ts[m]? = some t ∧ sd.tree i = some t) ∧ (∃ v, vs[m]? = some v ∧ σ[i]? = some (some v)) ∧
    ∀ (k : Nat) (t : OT), ts[k]? = some t → k ≠ m → ∃ v d, vs[k]? = some v ∧ t = .fz d ∧ Rep K F v d
  | _, _, ts, m, i, .nil, h, ho => by cases ho
  | _, _, ts, m, i, .fz (r := r) h1 h2, h, ho => by
    unfold treesOf at h
    unfold oneSlot at ho
    cases e : treesOf sd r with
    | none => rw [e] at h; cases h
    | some us =>
      rw [e] at h; cases h
      cases e2 : oneSlot r with
      | none => rw [e2] at ho; cases ho
      | some p =>
        rw [e2] at ho; cases ho
        obtain ⟨m', i'⟩ := p
        obtain ⟨l1, ⟨t, l2, l3⟩, ⟨v, l4, l5⟩, l6⟩ := args_one h2 e e2
        refine ⟨by rw [List.length_cons, List.length_cons, l1], ⟨t, by simpa using l2, l3⟩, ⟨v, by simpa using l4, l5⟩, fun k t et hk => ?_⟩
        cases k with
        | zero => simp at et; subst et; exact ⟨_, _, rfl, rfl, h1⟩
        | succ k =>
          obtain ⟨v, d, q1, q2, q3⟩ := l6 k t (by simpa using et) (fun z => hk (by show k + 1 = m' + 1; rw [z]))
          exact ⟨v, d, by simpa using q1, q2, q3⟩
  | _, _, ts, m, i, .sl (r := r) h1 h2, h, ho => by
    unfold treesOf at h
    unfold oneSlot at ho
    split at ho
    · rename_i hn
      cases ho
      cases e0 : sd.tree i with
      | none => rw [e0] at h; cases h
      | some t =>
        rw [e0] at h
        have h : (treesOf sd r).map (t :: ·) = some ts := h
        cases e : treesOf sd r with
        | none => rw [e] at h; cases h
        | some us =>
          rw [e] at h; cases h
          obtain ⟨l1, l2⟩ := args_no h2 e hn
          refine ⟨by rw [List.length_cons, List.length_cons, l1], ⟨t, rfl, rfl⟩, ⟨_, rfl, h1⟩, fun k t et hk => ?_⟩
          cases k with
          | zero => exact absurd rfl hk
          | succ k =>
            obtain ⟨v, d, q1, q2, q3⟩ := l2 k t (by simpa using et)
            exact ⟨v, d, by simpa using q1, q2, q3⟩
    · cases ho
/-- one tree is handed over -/
theorem StR.give1 {ts : List OT} {vs : List V} {m i : Nat} {t : OT} {v : V} (s : StR K pv G F sd σ H) (hl : vs.length = ts.length) (hm : ts[m]? = some t) (ht : sd.tree i = some t) (hv : vs[m]? = some v) (hs : σ[i]? = some (some v))
    (hr : ∀ (k : Nat) (t : OT), ts[k]? = some t → k ≠ m → ∃ v d, vs[k]? = some v ∧ t = .fz d ∧ Rep K F v d) :
    ∃ G', StR K vs G' F ⟨[], ts⟩ [] H ∧ (∀ (F' H' : Hp) (w : V) (u t' : OT) (sd1 : SD), Same F F' → StR1 K vs G' F' sd1 [] H' w u → sd1.pa[m]? = some t' → StR1 K pv G F' (sd.put i t') σ H' w u) ∧
      (∀ (F' H' : Hp) (t' : OT) (sd1 : SD), Same F F' → StR K vs G' F' sd1 [] H' → sd1.pa[m]? = some t' → StR K pv G F' (sd.put i t') σ H') := by
  classical
  obtain ⟨o, W⟩ := s
  obtain ⟨src, v0, h1, h2, h3⟩ := W.put ht
  rw [hs] at h1; cases h1
  let G' : Hp := fun a => if F a = none ∧ ¬ o src a then H a else none
  have g0 : ∀ a, F a = none → ¬ o src a → G' a = H a := fun a x y => if_pos ⟨x, y⟩
  have gn : ∀ a, G' a = none → F a ≠ none ∨ o src a ∨ H a = none := fun a z => by
    by_cases f : F a = none
    · by_cases q : o src a
      · exact .inr (.inl q)
      · rw [g0 a f q] at z; exact .inr (.inr z)
    · exact .inl f
  have back : ∀ (F' H' : Hp) (o' : Nat ⊕ Nat → Addr → Prop) (sd1 : SD) (t' : OT), Same F F' → Own K vs G' F' sd1 [] H' o' → sd1.pa[m]? = some t' → Own K pv G F' (sd.put i t') σ H' (fun x a => if x = src then o' (.inr m) a else o x a) ∧ ∀ x a, x ≠ src → o x a → G' a ≠ none := fun F' H' o' sd1 t' f W' et => by
    have ne : ∀ x a, x ≠ src → o x a → G' a = H a ∧ H a ≠ none := fun x a n q => by
      obtain ⟨k1, k2, k3⟩ := W.oh x a q
      exact ⟨g0 a k2 fun z => n (W.oo _ _ a q z), k1⟩
    have keep : ∀ x a, x ≠ src → o x a → H' a = H a := fun x a n q => by
      obtain ⟨k1, k2⟩ := ne x a n q
      cases e : H a with
      | none => exact absurd e k2
      | some u => exact W'.gh a u (by rw [k1]; exact e)
    have gG : ∀ a, G' a = none → F' a = none → G a = none := fun a z fa => by
      rcases gn a z with q | q | q
      · exact absurd (f.free fa) q
      · exact (W.oh _ a q).2.2
      · exact W.gh.free q
    refine ⟨?_, fun x a n q => by obtain ⟨k1, k2⟩ := ne x a n q; rw [k1]; exact k2⟩
    obtain ⟨v1, q1, q2⟩ := W'.pr m t' et
    rw [hv] at q1; cases q1
    refine h3 F' H' _ t' f W'.fh (fun a u e => ?_) (fun a ha => ?_) (fun x a q => ?_) (fun x y a q q' => ?_) (fun x n a q => ⟨by rw [if_neg n]; exact q, keep x a n q⟩) ?_
    · have hu := W.gh a u e
      have fa : F a = none := by
        cases e2 : F a with
        | none => rfl
        | some u2 => have := W.fg a (by rw [e2]; simp); rw [e] at this; cases this
      exact W'.gh a u (by rw [g0 a fa fun z => by rw [(W.oh _ a z).2.2] at e; cases e]; exact hu)
    · cases e : G a with
      | none => rfl
      | some u =>
        have hu := W.gh a u e
        have fa : F a = none := by
          cases e2 : F a with
          | none => rfl
          | some u2 => have := W.fg a (by rw [e2]; simp); rw [e] at this; cases this
        have := W'.fg a ha
        rw [g0 a fa (fun z => by rw [(W.oh _ a z).2.2] at e; cases e), hu] at this
        cases this
    · by_cases z : x = src
      · rw [if_pos z] at q
        obtain ⟨k1, k2, k3⟩ := W'.oh _ a q
        exact ⟨k1, k2, gG a k3 k2⟩
      · rw [if_neg z] at q
        obtain ⟨k1, k2⟩ := ne x a z q
        refine ⟨by rw [keep x a z q]; exact k2, ?_, (W.oh x a q).2.2⟩
        cases e : F' a with
        | none => rfl
        | some u =>
          have := W'.fg a (by rw [e]; simp)
          rw [k1] at this
          exact absurd this k2
    · by_cases z : x = src
      · rw [if_pos z] at q
        by_cases y' : y = src
        · rw [z, y']
        · rw [if_neg y'] at q'
          obtain ⟨k1, k2⟩ := ne y a y' q'
          exact absurd (W'.oh _ a q).2.2 (by rw [k1]; exact k2)
      · rw [if_neg z] at q
        by_cases y' : y = src
        · rw [if_pos y'] at q'
          obtain ⟨k1, k2⟩ := ne x a z q
          exact absurd (W'.oh _ a q').2.2 (by rw [k1]; exact k2)
        · rw [if_neg y'] at q'
          exact W.oo _ _ a q q'
    · exact q2.mono (Same.refl _) fun x hx => ⟨by show (if src = src then o' (.inr m) x else o src x); rw [if_pos rfl]; exact hx, rfl⟩
  refine ⟨G', ⟨fun x a => x = .inr m ∧ o src a, W.fh, fun a u e => ?_, fun a ha => ?_, fun x a q => ?_, fun x y a q q' => q.1.trans q'.1.symm, rfl, fun i t e => by simp at e, fun i j e => by simp at e, fun j t1 e => ?_⟩, fun F' H' w u t' sd1 f ⟨o', P, W', r, k⟩ et => ?_, fun F' H' t' sd1 f ⟨o', W'⟩ et => ?_⟩
  · have e : (if F a = none ∧ ¬ o src a then H a else none) = some u := e
    split at e
    · exact e
    · cases e
  · exact if_neg fun z => ha z.1
  · obtain ⟨k1, k2, k3⟩ := W.oh _ a q.2
    exact ⟨k1, k2, if_neg fun z => z.2 q.2⟩
  · have e : ts[j]? = some t1 := e
    by_cases z : j = m
    · subst z
      rw [hm] at e; cases e
      exact ⟨_, hv, h2.mono (Same.refl _) fun x hx => ⟨⟨rfl, hx⟩, rfl⟩⟩
    · obtain ⟨v1, d, q1, q2, q3⟩ := hr j t1 e z
      subst q2
      refine ⟨v1, q1, ?_⟩
      unfold RepO
      exact q3
  · obtain ⟨W2, nn⟩ := back F' H' o' sd1 t' f W' et
    refine ⟨_, P, W2, r, fun a z => ?_⟩
    obtain ⟨k1, k2, k3, k4⟩ := k a z
    refine ⟨k1, k2, ?_, fun x q => ?_⟩
    · rcases gn a k3 with q | q | q
      · exact absurd (f.free k2) q
      · exact (W.oh _ a q).2.2
      · exact W.gh.free q
    · by_cases y : x = src
      · rw [if_pos y] at q; exact k4 _ q
      · rw [if_neg y] at q; exact nn x a y q k3
  · obtain ⟨W2, nn⟩ := back F' H' o' sd1 t' f W' et
    exact ⟨_, W2⟩
end
def mCall1 (f : List OT → ER OT) (a : SD → ER (List Arg)) : SD → ER OT := fun sd => (a sd).bind fun args sd1 => match oneSlot args, treesOf sd1 args with
  | some (m, i), some ts => match f ts with
    | .ok t sd' => match sd'.pa[m]? with
      | some t' => .ok t (sd1.put i t')
      | none => .bad
    | .rz x sd' => match sd'.pa[m]? with
      | some t' => .rz x (sd1.put i t')
      | none => .bad
    | .bad => .bad
  | _, _ => .bad
section
variable {X : Cx} {pv : List V} {W : WX} {p q k l : Bool} {e a b : Expr} {es : List Expr}
theorem tr_call1 {n : Nat} {f : List OT → ER OT} {ta : TA} {mm : SD → ER (List Arg)} (hn : ∀ sd ds sd1, mm sd = .ok ds sd1 → ds.length = n) (h : TrR X.K pv W ta mm) :
    TrO X.K pv W false (fun σ H Q => ta σ H fun vs H1 => spD X.K n f vs H1 Q (WE W σ)) (mCall1 f mm) := by
  intro G F sd σ H Q s
  have z := h G F sd σ H (fun vs H1 => spD X.K n f vs H1 Q (WE W σ)) s
  unfold mCall1
  have hn := hn sd
  revert z hn
  cases mm sd with
  | bad => exact fun _ _ => True.intro
  | rz x sd1 => exact fun z _ => z
  | ok args sd1 =>
    intro z hn
    have hn := hn args sd1 rfl
    show Meets X.K pv W G σ (RSo X.K pv) false sd F H (match oneSlot args, treesOf sd1 args with
      | some (m, i), some ts => match f ts with
        | .ok t sd' => match sd'.pa[m]? with
          | some t' => .ok t (sd1.put i t')
          | none => .bad
        | .rz x sd' => match sd'.pa[m]? with
          | some t' => .rz x (sd1.put i t')
          | none => .bad
        | .bad => .bad
      | _, _ => .bad) Q _
    cases e1 : oneSlot args with
    | none => exact True.intro
    | some p =>
      obtain ⟨m, i⟩ := p
      cases e2 : treesOf sd1 args with
      | none => exact True.intro
      | some ts =>
        have main : ∀ vs F1 H1, Same F F1 → StR X.K pv G F1 sd1 σ H1 → RepsR X.K F1 σ vs args → vs.length = n ∧ ts.length = n ∧ ∃ G', StR X.K vs G' F1 ⟨[], ts⟩ [] H1 ∧ (∀ (F' H' : Hp) (w : V) (u t' : OT) (sd' : SD), Same F1 F' → StR1 X.K vs G' F' sd' [] H' w u → sd'.pa[m]? = some t' → StR1 X.K pv G F' (sd1.put i t') σ H' w u) ∧
            (∀ (F' H' : Hp) (t' : OT) (sd' : SD), Same F1 F' → StR X.K vs G' F' sd' [] H' → sd'.pa[m]? = some t' → StR X.K pv G F' (sd1.put i t') σ H') := fun vs F1 H1 s1 s2 s3 => by
          obtain ⟨l1, ⟨t, l2, l3⟩, ⟨v, l4, l5⟩, l6⟩ := args_one s3 e2 e1
          have la : vs.length = args.length := s3.length
          exact ⟨by omega, by omega, s2.give1 l1 l2 l3 l4 l5 l6⟩
        show Meets X.K pv W G σ (RSo X.K pv) false sd F H (match f ts with
          | .ok t sd' => match sd'.pa[m]? with
            | some t' => .ok t (sd1.put i t')
            | none => .bad
          | .rz x sd' => match sd'.pa[m]? with
            | some t' => .rz x (sd1.put i t')
            | none => .bad
          | .bad => .bad) Q _
        cases e : f ts with
        | bad => exact True.intro
        | rz x s' =>
          show Meets X.K pv W G σ (RSo X.K pv) false sd F H (match s'.pa[m]? with
            | some t' => .rz x (sd1.put i t')
            | none => .bad) Q _
          cases e3 : s'.pa[m]? with
          | none => exact True.intro
          | some t' =>
            intro hW
            refine z fun vs F1 H1 s1 s2 s3 s4 => ?_
            obtain ⟨a1, a2, G', g1, g2, g3⟩ := main vs F1 H1 s1 s2 s3
            refine ⟨a1, G', F1, ts, a2, g1, ?_⟩
            rw [e]
            exact fun cls dd F2 H2 t1 t2 t3 => hW cls dd F2 H2 (s1.trans t1) (g3 F2 H2 t' s' t1 t2 e3) t3
        | ok t s' =>
          show Meets X.K pv W G σ (RSo X.K pv) false sd F H (match s'.pa[m]? with
            | some t' => .ok t (sd1.put i t')
            | none => .bad) Q _
          cases e3 : s'.pa[m]? with
          | none => exact True.intro
          | some t' =>
            intro hQ
            refine z fun vs F1 H1 s1 s2 s3 s4 => ?_
            obtain ⟨a1, a2, G', g1, g2, g3⟩ := main vs F1 H1 s1 s2 s3
            refine ⟨a1, G', F1, ts, a2, g1, ?_⟩
            rw [e]
            exact fun v F2 H2 t1 t2 => hQ v F2 H2 (s1.trans t1) (g2 F2 H2 v t t' s' t1 t2 e3).drop (g2 F2 H2 v t t' s' t1 t2 e3) fun w => by cases w
theorem lenr_nil : ∀ sd ds sd1, rNil sd = .ok ds sd1 → ds.length = 0 := fun sd ds sd1 h => by cases h; rfl
theorem lenr_fz {ma : SD → ER D} {mr : SD → ER (List Arg)} {n : Nat} (h : ∀ sd ds sd1, mr sd = .ok ds sd1 → ds.length = n) : ∀ sd ds sd1, rFz ma mr sd = .ok ds sd1 → ds.length = n + 1 := fun sd ds sd1 e => by
  unfold rFz at e
  cases e1 : ma sd with
  | bad => rw [e1] at e; cases e
  | rz x s => rw [e1] at e; cases e
  | ok d s =>
    rw [e1] at e
    have e : (mr s).bind (fun xs sd2 => ER.ok (.fz d :: xs) sd2) = .ok ds sd1 := e
    cases e2 : mr s with
    | bad => rw [e2] at e; cases e
    | rz x s2 => rw [e2] at e; cases e
    | ok ys s2 =>
      rw [e2] at e
      cases e
      rw [List.length_cons, h s ys _ e2]
theorem lenr_slot {i : Nat} {mr : SD → ER (List Arg)} {n : Nat} (h : ∀ sd ds sd1, mr sd = .ok ds sd1 → ds.length = n) : ∀ sd ds sd1, rSlot i mr sd = .ok ds sd1 → ds.length = n + 1 := fun sd ds sd1 e => by
  unfold rSlot at e
  split at e
  · cases e2 : mr sd with
    | bad => rw [e2] at e; cases e
    | rz x s2 => rw [e2] at e; cases e
    | ok ys s2 =>
      rw [e2] at e
      cases e
      rw [List.length_cons, h sd ys _ e2]
  · cases e
theorem do_call1 {n j : Nat} {f : Addr} {fd : FuncData} {ps : List Str} {x : Str} {pp pos : Pos} {g : List OT → ER OT} {m : SD → ER (List Arg)} (F : FnG X.prog X.w X.K X.mg X.base (L2.CX X.prog X.w) j f fd ps (spD X.K n g)) (hr : RoomG j X.A) (hg : Gl X x)
    (hm : X.mg x = some (.ref f)) (hk : PySem.W.keepIn X.K (.ref f) = true) (hb : Binds X.K fd ps []) (tk : Takes X W) (ha : DR X pv W (e :: es) m) (hn : ∀ sd ds sd1, m sd = .ok ds sd1 → ds.length = n)
    (hdb : (x == ("__debug__" : Str)) = false := by decide) (he : starEach (e :: es) X.env = (false, eval e X.env) :: starEach es X.env := by rfl) (hpl : (backTo pos (starEach es X.env)).any (·.1) = false := by rfl) :
    DO X pv W false (.Call (.Name x pp) (e :: es) [] pos) (mCall1 g m) := by
  obtain ⟨ta, a1, a2⟩ := ha
  exact ⟨_, pe_callG F hr hg hm hk hb tk a1 hdb he hpl, tr_call1 hn a2⟩
end
end DL

/-! DL13: name = [..] whose list is frozen at once; the facts of a def. -/
namespace DL
open PySem PySem.Spec L2
def mFz (m : SD → ER OT) : SD → ER OT := mOwn (mView m)
theorem tr_fz {K : PySem.W.Frag} {pv : List V} {W : WX} {p : Bool} {te : TE} {m : SD → ER OT} (h : TrO K pv W p te m) : TrO K pv W p te (mFz m) := by
  intro G F sd σ H Q s
  refine Meets.imp (f := fun t => OT.fz t.view) (h G F sd σ H Q s) id ?_ fun v F1 H1 t sd1 _ s1 s2 s3 s4 hQ => ?_
  · unfold mFz mOwn mView
    cases m sd <;> rfl
  · obtain ⟨F2, t1, t2, t3⟩ := StR1.frz s3
    exact hQ v F2 H1 t1 t2 (StR1.fz t2 t3) (Same.refl _)
section
variable {X : Cx} {pv : List V} {W : WX} {p q k l pc pe pi1 pc1 : Bool} {e tg iter tg1 iter1 elt : Expr} {ifs ifs1 : List Expr} {scope : Scope} {pos : Pos}
theorem DO.fz {m : SD → ER OT} (h : DO X pv W p e m) : DO X pv W p e (mFz m) := by
  obtain ⟨te, h1, h2⟩ := h
  exact ⟨te, h1, tr_fz h2⟩
theorem ds_setCompF {own : List (Str × Nat)} {is : List Nat} {i : Nat} {y : Str} {py spos : Pos} {mi : SD → ER (List D)} {g : D → SD → Option SD} {mc : SD → ER Bool} {me : SD → ER D} (hc : X.calm = true) (hN : X.N.Nodup) (hy : X.N[i]? = some y) (hyl : X.env.scope.names.lookup y = some .local)
    (hsw : swapsWith (.ListComp elt [⟨tg, iter, ifs, 0⟩] scope pos) (some (.Name y py)) spos.line X.env = pure true) (hi : DI X pv W p tg iter mi) (ok : BlkOk X.N X.env.scope scope own)
    (hg : ∀ (s : Shared) (H : Hp) (C : Addr) (cl : List (Str × Addr)) (fp : List Addr), DG (X.blk s H scope (compEnvC scope cl C X.env) fp) is tg g)
    (ht : ∀ (s : Shared) (H : Hp) (C : Addr) (cl : List (Str × Addr)) (fp : List Addr), DTs (X.blk s H scope (compEnvC scope cl C X.env) fp) pv W0 pc ifs mc)
    (he : ∀ (s : Shared) (H : Hp) (C : Addr) (cl : List (Str × Addr)) (fp : List Addr), DX (X.blk s H scope (compEnvC scope cl C X.env) fp) pv W0 pe true elt me) (his : ∀ i ∈ is, i ∈ own.map (·.2))
    (wip : ∀ (vs : List Nat), (∀ i ∈ is, i ∈ vs) → ∀ d sd sd', g d sd = some sd' → SD.wipe sd' vs = SD.wipe sd vs)
    (hs : ∀ x, foldedSetIterable iter X.env x = pure x := by intro _; rfl) :
    DS X pv W (.Assign [.Name y py] (.ListComp elt [⟨tg, iter, ifs, 0⟩] scope pos) spos) (sSet i (mFz (mComp mi g mc me (own.map (·.2))))) := by
  obtain ⟨wi, a1, a2⟩ := hi
  exact ⟨_, ps_setLc hc hN hy hyl hsw a1 ok (fun s H C cl fp => (hg s H C cl fp).can) (fun s H C cl fp => (ht s H C cl fp).run) (fun s H C cl fp => (he s H C cl fp).can) hs, tr_set (tr_fz (comp_tr a2 canG_run wip canT_tr canX_tr his))⟩
/-- what holds of targets in any context -/
theorem tgN_wip {i : Nat} : ∀ (vs : List Nat), (∀ j ∈ [i], j ∈ vs) → ∀ d sd sd', tgN i d sd = some sd' → SD.wipe sd' vs = SD.wipe sd vs := fun vs h d sd sd' e => by
  unfold tgN SD.putFz at e
  split at e
  · cases e
    show SD.mk (wipeS (sd.sl.set i _) vs) sd.pa = SD.mk (wipeS sd.sl vs) sd.pa
    rw [wipeS_set (h i List.mem_cons_self)]
  · cases e
abbrev Wip (is : List Nat) (g : D → SD → Option SD) : Prop := ∀ (vs : List Nat), (∀ j ∈ is, j ∈ vs) → ∀ d sd sd', g d sd = some sd' → SD.wipe sd' vs = SD.wipe sd vs
abbrev Wips (is : List Nat) (g : List D → SD → Option SD) : Prop := ∀ (vs : List Nat), (∀ j ∈ is, j ∈ vs) → ∀ d sd sd', g d sd = some sd' → SD.wipe sd' vs = SD.wipe sd vs
theorem wip_name {i : Nat} : Wip [i] (tgN i) := tgN_wip
theorem wip_nil : Wips [] tgNil := fun vs h d sd sd' e => by
  unfold tgNil at e
  cases d with
  | nil => cases e; rfl
  | cons _ _ => cases e
theorem wip_cons {is js : List Nat} {g : D → SD → Option SD} {h : List D → SD → Option SD} (a : Wip is g) (b : Wips js h) : Wips (is ++ js) (tgCons g h) := fun vs hv d sd sd' e => by
  cases d with
  | nil => cases e
  | cons d ds =>
    obtain ⟨sd1, e1, e2⟩ := Option.bind_eq_some_iff.mp e
    rw [b vs (fun i hi => hv i (List.mem_append_right _ hi)) _ _ _ e2, a vs (fun i hi => hv i (List.mem_append_left _ hi)) _ _ _ e1]
theorem wip_tup {is : List Nat} {n : Nat} {h : List D → SD → Option SD} (a : Wips is h) : Wip is (tgT n h) := fun vs hv d sd sd' e => by
  unfold tgT at e
  cases d with
  | tup ds =>
    have e : (if ds.length = n then h ds sd else none) = some sd' := e
    split at e
    · exact a vs hv _ _ _ e
    · cases e
  | _ => cases e
end
/-- a def at its name -/
structure Fd (K : PySem.W.Frag) (mg : Str → Option Value) (x : Str) (st : Stmt) (f : Addr) (fd : FuncData) (ps : List Str) : Prop where
  F : Fun K x x st f fd
  g : mg x = some (.ref f)
  b : Binds K fd ps []
theorem bo_abs : bootBuiltins "abs" = some (.builtin "abs") := by decide +kernel
theorem bo_all : bootBuiltins "all" = some (.builtin "all") := by decide +kernel
theorem bo_any : bootBuiltins "any" = some (.builtin "any") := by decide +kernel
theorem bo_chr : bootBuiltins "chr" = some (.builtin "chr") := by decide +kernel
theorem bo_divmod : bootBuiltins "divmod" = some (.builtin "divmod") := by decide +kernel
theorem bo_getattr : bootBuiltins "getattr" = some (.builtin "getattr") := by decide +kernel
theorem bo_hasattr : bootBuiltins "hasattr" = some (.builtin "hasattr") := by decide +kernel
theorem bo_isinstance : bootBuiltins "isinstance" = some (.builtin "isinstance") := by decide +kernel
theorem bo_len : bootBuiltins "len" = some (.builtin "len") := by decide +kernel
theorem bo_max : bootBuiltins "max" = some (.builtin "max") := by decide +kernel
theorem bo_min : bootBuiltins "min" = some (.builtin "min") := by decide +kernel
theorem bo_ord : bootBuiltins "ord" = some (.builtin "ord") := by decide +kernel
theorem bo_pow : bootBuiltins "pow" = some (.builtin "pow") := by decide +kernel
theorem bo_repr : bootBuiltins "repr" = some (.builtin "repr") := by decide +kernel
theorem bo_round : bootBuiltins "round" = some (.builtin "round") := by decide +kernel
theorem bo_sorted : bootBuiltins "sorted" = some (.builtin "sorted") := by decide +kernel
theorem bo_sum : bootBuiltins "sum" = some (.builtin "sum") := by decide +kernel
theorem bo_bool : bootBuiltins "bool" = some (.type "bool") := by decide +kernel
theorem bo_dict : bootBuiltins "dict" = some (.type "dict") := by decide +kernel
theorem bo_enumerate : bootBuiltins "enumerate" = some (.type "enumerate") := by decide +kernel
theorem bo_float : bootBuiltins "float" = some (.type "float") := by decide +kernel
theorem bo_int : bootBuiltins "int" = some (.type "int") := by decide +kernel
theorem bo_list : bootBuiltins "list" = some (.type "list") := by decide +kernel
theorem bo_range : bootBuiltins "range" = some (.type "range") := by decide +kernel
theorem bo_reversed : bootBuiltins "reversed" = some (.type "reversed") := by decide +kernel
theorem bo_set : bootBuiltins "set" = some (.type "set") := by decide +kernel
theorem bo_str : bootBuiltins "str" = some (.type "str") := by decide +kernel
theorem bo_tuple : bootBuiltins "tuple" = some (.type "tuple") := by decide +kernel
theorem bo_zip : bootBuiltins "zip" = some (.type "zip") := by decide +kernel
theorem bo_IndexError : bootBuiltins "IndexError" = some (.type "IndexError") := by decide +kernel
theorem bo_KeyError : bootBuiltins "KeyError" = some (.type "KeyError") := by decide +kernel
theorem bo_OverflowError : bootBuiltins "OverflowError" = some (.type "OverflowError") := by decide +kernel
theorem bo_TypeError : bootBuiltins "TypeError" = some (.type "TypeError") := by decide +kernel
theorem bo_ValueError : bootBuiltins "ValueError" = some (.type "ValueError") := by decide +kernel
theorem bo_ZeroDivisionError : bootBuiltins "ZeroDivisionError" = some (.type "ZeroDivisionError") := by decide +kernel
theorem iop_addX {X : Cx} : OpR X (inplaceOp .Add) rAddX := iop_add.or iop_add_str
end DL

/-! DL14: from a law's mirror to the law's promise. -/
namespace DL
open PySem PySem.Spec L2
theorem law_sp {K : PySem.W.Frag} {H : Hp} {a : Addr} {ns : List Int} {m : List OT → ER OT} (hS : SqL K H a (ns.map V.int)) (h : ∃ sd, m [.fz (.scr ns)] = .ok (.fz (.bl true)) sd) : spD K 1 m [.ref a] H (fun v _ => v = .bl true) fun _ _ _ => False := by
  obtain ⟨sd, h⟩ := h
  have st : StR K [.ref a] (fun _ => none) H ⟨[], [.fz (.scr ns)]⟩ [] H := by
    refine ⟨fun _ _ => False, Same.refl _, fun b u e => ?_, fun _ _ => rfl, fun i b q => False.elim q, fun i j b q => False.elim q, rfl, fun i t e => ?_, fun i j e => ?_, fun j t e => ?_⟩
    · exact nomatch (show (none : Option HO) = some u from e)
    · have e : ([] : List S)[i]? = some (.ow t) := e
      simp at e
    · have e : ([] : List S)[i]? = some (.pa j) := e
      simp at e
    · have e : [OT.fz (.scr ns)][j]? = some t := e
      cases j with
      | zero =>
        have e : some (OT.fz (.scr ns)) = some t := e
        cases e
        refine ⟨_, rfl, ?_⟩
        unfold RepO
        exact .scr hS
      | succ j => simp at e
  refine ⟨rfl, fun _ => none, H, [.fz (.scr ns)], rfl, st, ?_⟩
  rw [h]
  intro v F' H' _ s
  obtain ⟨o, P, W, r, _⟩ := s
  unfold RepO at r
  cases r
  rfl
theorem cx_no {P : Program} {w : World} {H : Hp} {s s' : Shared} {e : Value} (z : L2.CX P w [] H s (fun _ _ _ => False) e s') : False := by
  obtain ⟨_, _, _, _, _, _, _, _, _, _, _, _, q⟩ := z
  exact q
end DL

/-! DL15: what mirrors come to: comprehensions, loops, slices with a step. -/
namespace DL
open PySem PySem.Spec L2
theorem goComp_of {α : Type} {g : D → SD → Option SD} {c : SD → ER Bool} {elt : SD → ER D} {vs : List Nat} {w : SD} (e : α → D) (b : α → Bool) (f : α → D) : ∀ (xs : List α) (acc : List D) (sd : SD), sd.wipe vs = w → acc.length + xs.length ≤ 16777216 →
    (∀ x ∈ xs, ∃ sda, g (e x) w = some sda ∧ sda.wipe vs = w ∧ c sda = .ok (b x) sda ∧ (b x = true → elt sda = .ok (f x) sda)) →
    ∃ sd', goComp g c elt vs (xs.map e) acc sd = .ok (acc ++ (xs.filter b).map f) sd' ∧ sd'.wipe vs = w
  | [], acc, sd, hw, _, _ => ⟨sd, by rw [List.map_nil, goComp]; simp, hw⟩
  | x :: xs, acc, sd, hw, hl, h => by
    obtain ⟨sda, h1, h2, h3, h4⟩ := h x List.mem_cons_self
    rw [List.map_cons, goComp, hw, h1]
    dsimp only
    rw [h3]
    have hl' : acc.length + (xs.length + 1) ≤ 16777216 := hl
    cases hb : b x with
    | false =>
      obtain ⟨sd', q1, q2⟩ := goComp_of e b f xs acc sda h2 (by omega) fun y hy => h y (List.mem_cons_of_mem _ hy)
      refine ⟨sd', ?_, q2⟩
      simp only [ER.calm, ER.bind, Bool.false_eq_true, if_false]
      rw [q1, List.filter_cons, hb]
      rfl
    | true =>
      obtain ⟨sd', q1, q2⟩ := goComp_of e b f xs (acc ++ [f x]) sda h2 (by rw [List.length_append]; show acc.length + 1 + xs.length ≤ _; omega) fun y hy => h y (List.mem_cons_of_mem _ hy)
      refine ⟨sd', ?_, q2⟩
      simp only [ER.calm, ER.bind, if_true, h4 hb]
      rw [if_pos (by omega), q1, List.filter_cons, hb, if_pos rfl, List.map_cons, List.append_assoc]
      rfl
theorem mComp_of {α : Type} {mi : SD → ER (List D)} {g : D → SD → Option SD} {c : SD → ER Bool} {elt : SD → ER D} {vs : List Nat} {sd sd1 : SD} (xs : List α) (e : α → D) (b : α → Bool) (f : α → D) (hi : mi sd = .ok (xs.map e) sd1) (hl : xs.length ≤ 16777216)
    (h : ∀ x ∈ xs, ∃ sda, g (e x) (sd1.wipe vs) = some sda ∧ sda.wipe vs = sd1.wipe vs ∧ c sda = .ok (b x) sda ∧ (b x = true → elt sda = .ok (f x) sda)) :
    mComp mi g c elt vs sd = .ok (.ol (((xs.filter b).map f).map .fz)) sd1 := by
  obtain ⟨sd', q1, q2⟩ := goComp_of e b f xs [] sd1 rfl (by simpa using hl) h
  unfold mComp
  rw [hi]
  show (goComp g c elt vs (xs.map e) [] sd1).bind _ = _
  rw [q1]
  show ER.ok (OT.ol (([] ++ (xs.filter b).map f).map .fz)) (sd'.back sd1 vs) = _
  rw [back_self q2, List.nil_append]
/-- no test -/
theorem mComp_map {α : Type} {mi : SD → ER (List D)} {g : D → SD → Option SD} {elt : SD → ER D} {vs : List Nat} {sd sd1 : SD} (xs : List α) (e : α → D) (f : α → D) (hi : mi sd = .ok (xs.map e) sd1) (hl : xs.length ≤ 16777216)
    (h : ∀ x ∈ xs, ∃ sda, g (e x) (sd1.wipe vs) = some sda ∧ sda.wipe vs = sd1.wipe vs ∧ elt sda = .ok (f x) sda) :
    mComp mi g mYes elt vs sd = .ok (.ol ((xs.map f).map .fz)) sd1 := by
  have z := mComp_of (mi := mi) (c := mYes) xs e (fun _ => true) f hi hl fun x hx => by
    obtain ⟨sda, h1, h2, h3⟩ := h x hx
    exact ⟨sda, h1, h2, rfl, fun _ => h3⟩
  rw [List.filter_eq_self.mpr fun _ _ => rfl] at z
  exact z
theorem goComp2_of {α β : Type} {g g1 : D → SD → Option SD} {it1 : SD → ER (List D)} {elt : SD → ER D} {vs vs1 : List Nat} {w : SD} (e : α → D) (ys : α → List β) (e1 : β → D) (f : α → β → D) (hsub : ∀ i ∈ vs1, i ∈ vs) : ∀ (xs : List α) (acc : List D) (sd : SD), sd.wipe vs = w → acc.length + (xs.flatMap fun x => (ys x).map (f x)).length ≤ 16777216 →
    (∀ x ∈ xs, ∃ sda, g (e x) w = some sda ∧ sda.wipe vs = w ∧ it1 sda = .ok ((ys x).map e1) sda ∧ ∀ y ∈ ys x, ∃ sdb, g1 (e1 y) (sda.wipe vs1) = some sdb ∧ sdb.wipe vs1 = sda.wipe vs1 ∧ elt sdb = .ok (f x y) sdb) →
    ∃ sd', goComp2 g mYes it1 g1 mYes elt vs vs1 (xs.map e) acc sd = .ok (acc ++ xs.flatMap fun x => (ys x).map (f x)) sd' ∧ sd'.wipe vs = w
  | [], acc, sd, hw, _, _ => ⟨sd, by rw [List.map_nil, goComp2]; simp, hw⟩
  | x :: xs, acc, sd, hw, hl, h => by
    obtain ⟨sda, h1, h2, h3, h4⟩ := h x List.mem_cons_self
    rw [List.map_cons, goComp2, hw, h1]
    dsimp only
    rw [List.flatMap_cons, List.length_append, List.length_map] at hl
    obtain ⟨sd1, q1, q2⟩ := goComp_of (c := mYes) (elt := elt) e1 (fun _ => true) (f x) (ys x) acc sda rfl (by omega) fun y hy => by
      obtain ⟨sdb, k1, k2, k3⟩ := h4 y hy
      exact ⟨sdb, k1, k2, rfl, fun _ => k3⟩
    rw [List.filter_eq_self.mpr fun _ _ => rfl] at q1
    have q3 : sd1.wipe vs = w := by
      have z := congrArg (fun s => SD.wipe s vs) q2
      have z : (sd1.wipe vs1).wipe vs = (sda.wipe vs1).wipe vs := z
      rw [wipe_wipe hsub, wipe_wipe hsub] at z
      rw [z, h2]
    obtain ⟨sd', r1, r2⟩ := goComp2_of e ys e1 f hsub xs (acc ++ (ys x).map (f x)) sd1 q3 (by rw [List.length_append, List.length_map]; omega) fun y hy => h y (List.mem_cons_of_mem _ hy)
    refine ⟨sd', ?_, r2⟩
    simp only [mYes, ER.calm, ER.bind, if_true, h3]
    simp only [q1, r1, List.append_assoc, List.flatMap_cons]
theorem mComp2_map {α β : Type} {mi it1 : SD → ER (List D)} {g g1 : D → SD → Option SD} {elt : SD → ER D} {vs vs1 : List Nat} {sd sd1 : SD} (xs : List α) (e : α → D) (ys : α → List β) (e1 : β → D) (f : α → β → D) (hi : mi sd = .ok (xs.map e) sd1) (hsub : ∀ i ∈ vs1, i ∈ vs) (hl : (xs.flatMap fun x => (ys x).map (f x)).length ≤ 16777216)
    (h : ∀ x ∈ xs, ∃ sda, g (e x) (sd1.wipe vs) = some sda ∧ sda.wipe vs = sd1.wipe vs ∧ it1 sda = .ok ((ys x).map e1) sda ∧ ∀ y ∈ ys x, ∃ sdb, g1 (e1 y) (sda.wipe vs1) = some sdb ∧ sdb.wipe vs1 = sda.wipe vs1 ∧ elt sdb = .ok (f x y) sdb) :
    mComp2 mi g mYes it1 g1 mYes elt vs vs1 sd = .ok (.ol ((xs.flatMap fun x => (ys x).map (f x)).map .fz)) sd1 := by
  obtain ⟨sd', q1, q2⟩ := goComp2_of e ys e1 f hsub xs [] sd1 rfl (by simpa using hl) h
  unfold mComp2
  rw [hi]
  show (goComp2 g mYes it1 g1 mYes elt vs vs1 (xs.map e) [] sd1).bind _ = _
  rw [q1]
  show ER.ok (OT.ol (([] ++ _).map .fz)) (sd'.back sd1 vs) = _
  rw [back_self q2, List.nil_append]
/-- a loop by an invariant over what is still to come -/
theorem goFor_inv {α : Type} {g : D → SD → Option SD} {body : SD → Fl} (e : α → D) (I : List α → SD → Prop) (h : ∀ x r sd, I (x :: r) sd → ∃ sda sdb, g (e x) sd = some sda ∧ (body sda = .nx sdb ∨ body sda = .ct sdb) ∧ I r sdb) : ∀ (xs : List α) (sd : SD), I xs sd → ∃ sd', goFor g body (xs.map e) sd = .nx sd' ∧ I [] sd'
  | [], sd, hi => ⟨sd, by rw [List.map_nil, goFor], hi⟩
  | x :: xs, sd, hi => by
    obtain ⟨sda, sdb, h1, h2, h3⟩ := h x xs sd hi
    obtain ⟨sd', q1, q2⟩ := goFor_inv e I h xs sdb h3
    refine ⟨sd', ?_, q2⟩
    rw [List.map_cons, goFor, h1]
    dsimp only
    rcases h2 with h2 | h2 <;> rw [h2] <;> exact q1
/-- .. from a range -/
theorem rangeD_map (lo : Int) (n : Nat) : rangeD lo n = (List.range n).map fun i : Nat => D.int (lo + (i : Int)) := rfl
theorem sFor_inv {α : Type} {it : SD → ER (List D)} {g : D → SD → Option SD} {body : SD → Fl} {sd sd1 : SD} (xs : List α) (e : α → D) (I : List α → SD → Prop) (hi : it sd = .ok (xs.map e) sd1) (h0 : I xs sd1) (h : ∀ x r sd, I (x :: r) sd → ∃ sda sdb, g (e x) sd = some sda ∧ (body sda = .nx sdb ∨ body sda = .ct sdb) ∧ I r sdb) :
    ∃ sd', sFor it g body sd = .nx sd' ∧ I [] sd' := by
  unfold sFor
  rw [hi]
  exact goFor_inv e I h xs sd1 h0
theorem seq_nx {a b : SD → Fl} {sd sd1 : SD} {r : Fl} (h : a sd = .nx sd1) (h2 : b sd1 = r) : sSeq a b sd = r := by
  unfold sSeq
  rw [h]
  exact h2

/-! ### every second -/
def evens {α : Type} : List α → List α
  | [] => []
  | [a] => [a]
  | a :: _ :: r => a :: evens r
def odds {α : Type} : List α → List α
  | [] => []
  | [_] => []
  | _ :: b :: r => b :: odds r
theorem evens_get {α : Type} : ∀ (xs : List α) (k : Nat), (evens xs)[k]? = xs[2 * k]?
  | [], k => by simp [evens]
  | [a], 0 => by simp [evens]
  | [a], k + 1 => by simp [evens, Nat.mul_add]
  | a :: b :: r, 0 => by simp [evens]
  | a :: b :: r, k + 1 => by
    rw [evens, List.getElem?_cons_succ, evens_get r k, Nat.mul_add]
    simp
theorem odds_get {α : Type} : ∀ (xs : List α) (k : Nat), (odds xs)[k]? = xs[2 * k + 1]?
  | [], k => by simp [odds]
  | [a], k => by simp [odds]
  | a :: b :: r, 0 => by simp [odds]
  | a :: b :: r, k + 1 => by
    rw [odds, List.getElem?_cons_succ, odds_get r k, Nat.mul_add]
    simp
theorem evens_len {α : Type} : ∀ xs : List α, (evens xs).length = (xs.length + 1) / 2
  | [] => by simp [evens]
  | [a] => by simp [evens]
  | a :: b :: r => by rw [evens, List.length_cons, evens_len r, List.length_cons, List.length_cons]; omega
theorem odds_len {α : Type} : ∀ xs : List α, (odds xs).length = xs.length / 2
  | [] => by simp [odds]
  | [a] => by simp [odds]
  | a :: b :: r => by rw [odds, List.length_cons, odds_len r, List.length_cons, List.length_cons]; omega
theorem pick_eq {α : Type} (xs ys : List α) (n : Nat) (s : Nat → Nat) (hn : ys.length = n) (h : ∀ k, k < n → ys[k]? = xs[s k]?) : ((List.range n).map s).filterMap (xs[·]?) = ys := by
  induction n generalizing ys s with
  | zero => cases ys with
    | nil => rfl
    | cons _ _ => simp at hn
  | succ n ih =>
    cases ys with
    | nil => simp at hn
    | cons y ys =>
      rw [List.range_succ_eq_map, List.map_cons, List.filterMap_cons]
      have h0 := h 0 (by omega)
      rw [List.getElem?_cons_zero] at h0
      rw [← h0]
      show y :: _ = _
      rw [List.map_map]
      rw [ih ys (s ∘ Nat.succ) (by simpa using hn) fun k hk => by
        have := h (k + 1) (by omega)
        rw [List.getElem?_cons_succ] at this
        exact this]
theorem pick_evens {α : Type} (xs : List α) : pickL xs none none (some 2) = evens xs := by
  have e : sliceRange (sliceBounds none none (some 2) xs.length).1 (sliceBounds none none (some 2) xs.length).2.1 (sliceBounds none none (some 2) xs.length).2.2 = (List.range ((xs.length + 1) / 2)).map fun k => 2 * k := by
    show (List.range (if (2 : Int) > 0 then (if (0 : Int) < (xs.length : Int) then ((xs.length : Int) - 0 + 2 - 1) / 2 else 0) else _).toNat).map (fun (k : Nat) => ((0 : Int) + 2 * (k : Int)).toNat) = _
    rw [if_pos (by decide)]
    congr 1
    · funext k; omega
    · congr 1
      split <;> omega
  unfold pickL
  rw [e]
  exact pick_eq xs _ _ _ (evens_len xs) fun k _ => evens_get xs k
theorem pick_odds {α : Type} (xs : List α) : pickL xs (some 1) none (some 2) = odds xs := by
  have e : sliceRange (sliceBounds (some 1) none (some 2) xs.length).1 (sliceBounds (some 1) none (some 2) xs.length).2.1 (sliceBounds (some 1) none (some 2) xs.length).2.2 = (List.range (xs.length / 2)).map fun k => 2 * k + 1 := by
    show (List.range (if (2 : Int) > 0 then (if max 0 (min (1 : Int) (xs.length : Int)) < (xs.length : Int) then ((xs.length : Int) - max 0 (min (1 : Int) (xs.length : Int)) + 2 - 1) / 2 else 0) else _).toNat).map (fun (k : Nat) => (max 0 (min (1 : Int) (xs.length : Int)) + 2 * (k : Int)).toNat) = _
    rw [if_pos (by decide)]
    by_cases h : xs.length = 0
    · rw [h]; rfl
    · have e1 : max 0 (min (1 : Int) (xs.length : Int)) = 1 := by omega
      rw [e1]
      congr 1
      · funext k; omega
      · congr 1
        split <;> omega
  unfold pickL
  rw [e]
  exact pick_eq xs _ _ _ (odds_len xs) fun k _ => odds_get xs k
theorem evens_map {α β : Type} (f : α → β) : ∀ xs : List α, evens (xs.map f) = (evens xs).map f
  | [] => rfl
  | [a] => rfl
  | a :: b :: r => by rw [List.map_cons, List.map_cons, evens, evens, List.map_cons, evens_map f r]
theorem odds_map {α β : Type} (f : α → β) : ∀ xs : List α, odds (xs.map f) = (odds xs).map f
  | [] => rfl
  | [a] => rfl
  | a :: b :: r => by rw [List.map_cons, List.map_cons, odds, odds, List.map_cons, odds_map f r]
/-- slices -/
theorem cut_from1 {α : Type} (xs : List α) : cutL xs (some 1) none = xs.drop 1 := by
  unfold cutL
  rw [show HT.sIx xs.length 0 (some 1) = min 1 xs.length from HT.sIx_nat _ _ 1, show HT.sIx xs.length xs.length none = xs.length from rfl]
  cases xs with
  | nil => rfl
  | cons a r => simp
theorem cut_to1 {α : Type} (xs : List α) : cutL xs none (some 1) = xs.take 1 := by
  unfold cutL
  rw [show HT.sIx xs.length xs.length (some 1) = min 1 xs.length from HT.sIx_nat _ _ 1, show HT.sIx xs.length 0 none = 0 from rfl]
  cases xs with
  | nil => rfl
  | cons a r => simp
end DL

/-! DL16: instances: made, attributes, properties, methods, own operators. -/
namespace DL
open PySem PySem.Spec L2

/-! ### a def called with frozen values -/
def callFz (f : List OT → ER OT) (ds : List D) (sd : SD) : ER OT := match f (ds.map .fz) with
  | .ok t _ => .ok t sd
  | .rz x _ => .rz x sd
  | .bad => .bad
section
variable {K : PySem.W.Frag} {pv : List V} {W : WX} {G F H : Hp} {σ : L2.St} {sd : SD}
theorem meets_call {n : Nat} {f : List OT → ER OT} {vs : List V} {ds : List D} {Q : VK} (s : StR K pv G F sd σ H) (r : Reps K F vs ds) (hn : ds.length = n) : Meets K pv W G σ (RSo K pv) true sd F H (callFz f ds sd) Q (spD K n f vs H Q (WE W σ)) := by
  obtain ⟨G', g1, g2, g3⟩ := s.give (ts := ds.map .fz) (vs := vs) ⟨by rw [map_view_fz]; exact r, all_fz ds⟩
  unfold callFz
  cases e : f (ds.map .fz) with
  | bad => exact True.intro
  | rz x s' =>
    intro hW
    refine ⟨by rw [r.length, hn], G', F, ds.map .fz, by rw [List.length_map, hn], g1, ?_⟩
    rw [e]
    intro cls dd F2 H2 t1 t2 t3
    obtain ⟨u1, u2⟩ := g3 F2 H2 s' t1 t2
    exact hW cls dd F2 H2 t1 u1 t3
  | ok t s' =>
    intro hQ
    refine ⟨by rw [r.length, hn], G', F, ds.map .fz, by rw [List.length_map, hn], g1, ?_⟩
    rw [e]
    intro v F2 H2 t1 t2
    obtain ⟨u1, u2⟩ := g2 F2 H2 v t s' t1 t2
    exact hQ v F2 H2 t1 u1.drop u1 fun _ => ⟨u2, rfl⟩
/-- a tree that no name reaches is handed over as the first parameter -/
theorem StR1.giveX {v : V} {t : OT} {vs : List V} {ds : List D} (s : StR1 K pv G F sd σ H v t) (hr : Reps K F vs ds) :
    ∃ G', StR K (v :: vs) G' F ⟨[], t :: ds.map .fz⟩ [] H ∧ (∀ (F' H' : Hp) (t' : OT) (sd1 : SD), Same F F' → StR K (v :: vs) G' F' sd1 [] H' → sd1.pa[0]? = some t' → StR1 K pv G F' sd σ H' v t') := by
  classical
  obtain ⟨o, P, W, r, k⟩ := s
  let G' : Hp := fun a => if F a = none ∧ ¬ P a then H a else none
  have g0 : ∀ a, F a = none → ¬ P a → G' a = H a := fun a x y => if_pos ⟨x, y⟩
  have gn : ∀ a, G' a = none → F a ≠ none ∨ P a ∨ H a = none := fun a z => by
    by_cases f : F a = none
    · by_cases q : P a
      · exact .inr (.inl q)
      · rw [g0 a f q] at z; exact .inr (.inr z)
    · exact .inl f
  refine ⟨G', ⟨fun x a => x = .inr 0 ∧ P a, W.fh, fun a u e => ?_, fun a ha => ?_, fun x a q => ?_, fun x y a q q' => q.1.trans q'.1.symm, rfl, fun i t e => ?_, fun i j e => ?_, fun j t1 e => ?_⟩, fun F' H' t' sd1 f ⟨o', W'⟩ et => ?_⟩
  · have e : (if F a = none ∧ ¬ P a then H a else none) = some u := e
    split at e
    · exact e
    · cases e
  · exact if_neg fun z => ha z.1
  · obtain ⟨k1, k2, k3, k4⟩ := k a q.2
    exact ⟨k1, k2, if_neg fun z => z.2 q.2⟩
  · have e : ([] : List S)[i]? = some (.ow t) := e
    simp at e
  · have e : ([] : List S)[i]? = some (.pa j) := e
    simp at e
  · have e : (t :: ds.map OT.fz)[j]? = some t1 := e
    cases j with
    | zero =>
      cases e
      exact ⟨v, rfl, r.mono (Same.refl _) fun x hx => ⟨⟨rfl, hx⟩, rfl⟩⟩
    | succ j =>
      have e : (ds.map OT.fz)[j]? = some t1 := e
      rw [List.getElem?_map] at e
      obtain ⟨d, e1, e2⟩ := Option.map_eq_some_iff.mp e
      subst e2
      obtain ⟨w, h1, h2⟩ := hr.get e1
      refine ⟨w, h1, ?_⟩
      unfold RepO
      exact h2
  · have ne : ∀ x a, o x a → G' a = H a ∧ H a ≠ none := fun x a q => by
      obtain ⟨k1, k2, k3⟩ := W.oh x a q
      exact ⟨g0 a k2 fun z => (k a z).2.2.2 x q, k1⟩
    have keep : ∀ x a, o x a → H' a = H a := fun x a q => by
      obtain ⟨k1, k2⟩ := ne x a q
      cases e : H a with
      | none => exact absurd e k2
      | some u => exact W'.gh a u (by rw [k1]; exact e)
    have gG : ∀ a, G' a = none → F' a = none → G a = none := fun a z fa => by
      rcases gn a z with q | q | q
      · exact absurd (f.free fa) q
      · exact (k a q).2.2.1
      · exact W.gh.free q
    obtain ⟨v1, q1, q2⟩ := W'.pr 0 t' et
    cases q1
    have fa : ∀ a u, G a = some u → F a = none := fun a u e => by
      cases e2 : F a with
      | none => rfl
      | some u2 => have := W.fg a (by rw [e2]; simp); rw [e] at this; cases this
    have np : ∀ a u, G a = some u → ¬ P a := fun a u e z => by rw [(k a z).2.2.1] at e; cases e
    refine ⟨o, o' (.inr 0), ⟨W'.fh, fun a u e => W'.gh a u (by rw [g0 a (fa a u e) (np a u e)]; exact W.gh a u e), fun a ha => ?_, fun x a q => ?_, W.oo, W.len, fun i t e => ?_, W.sp, fun j t e => ?_⟩, q2, fun a q => ?_⟩
    · cases e : G a with
      | none => rfl
      | some u =>
        have := W'.fg a ha
        rw [g0 a (fa a u e) (np a u e), W.gh a u e] at this
        cases this
    · obtain ⟨k1, k2⟩ := ne x a q
      refine ⟨by rw [keep x a q]; exact k2, ?_, (W.oh x a q).2.2⟩
      cases e : F' a with
      | none => rfl
      | some u =>
        have := W'.fg a (by rw [e]; simp)
        rw [k1] at this
        exact absurd this k2
    · obtain ⟨w, h1, h2⟩ := W.sl i t e
      exact ⟨w, h1, h2.mono f fun x hx => ⟨hx, keep _ x hx⟩⟩
    · obtain ⟨w, h1, h2⟩ := W.pr j t e
      exact ⟨w, h1, h2.mono f fun x hx => ⟨hx, keep _ x hx⟩⟩
    · obtain ⟨k1, k2, k3⟩ := W'.oh _ a q
      exact ⟨k1, k2, gG a k3 k2, fun x q' => by
        obtain ⟨m1, m2⟩ := ne x a q'
        rw [m1] at k3
        exact m2 k3⟩
/-- a new instance without attributes -/
theorem StR.newI {x dx C : Addr} (s : StR K pv G F sd σ H) (hx : H x = none) (hdx : H dx = none) (hne : dx ≠ x) : StR1 K pv G F sd σ (upd (upd H dx (.own x)) x (.ins C dx [])) (.ref x) (.oi C [] []) := by
  obtain ⟨o, W⟩ := s
  have n := W.fresh hx
  have nd := W.fresh hdx
  have sm : Same H (upd (upd H dx (.own x)) x (.ins C dx [])) := fun a u e => by
    rw [upd_ne (ne_of_none e hx), upd_ne (ne_of_none e hdx)]; exact e
  refine ⟨o, fun a => a = x, W.grow sm (Same.refl _) (W.fh.trans sm) fun a ha => .inl ha, ?_, fun a ha => ?_⟩
  · unfold RepO
    refine ⟨x, dx, [], rfl, rfl, upd_same, rfl, ?_⟩
    unfold RepOs
    rfl
  · subst ha
    exact ⟨by rw [upd_same]; simp, n.1, n.2.1, n.2.2⟩
end

theorem Meets.bindW {α β γ δ : Type} {K : PySem.W.Frag} {pv : List V} {W : WX} {G F H : Hp} {σ : L2.St} {sd : SD} {p : Bool} {RS : RSt β α} {RS' : RSt δ γ} {r : ER α} {f : α → SD → ER γ} {Q : δ → Hp → Prop} {k : β → Hp → Prop} {P : Prop} (h : Meets K pv W G σ RS p sd F H r k P)
    (g : ∀ v F1 H1 a sd1, r = .ok a sd1 → Same F F1 → StR K pv G F1 sd1 σ H1 → RS G F1 sd1 H1 σ v a → Meets K pv W G σ RS' false sd1 F1 H1 (f a sd1) Q (k v H1)) :
    Meets K pv W G σ RS' false sd F H (r.bind f) Q P := by
  cases r with
  | bad => exact True.intro
  | rz x sd' => exact h
  | ok a sd1 =>
    show Meets K pv W G σ RS' false sd F H (f a sd1) Q P
    have h' : (∀ v F' H', Same F F' → StR K pv G F' sd1 σ H' → RS G F' sd1 H' σ v a → (p = true → Same H H' ∧ sd1 = sd) → k v H') → P := h
    have g' := fun v F1 H1 s1 s2 s3 => g v F1 H1 a sd1 rfl s1 s2 s3
    revert g'
    cases f a sd1 with
    | bad => exact fun _ => True.intro
    | rz x sd2 => exact fun g' hW => h' fun v F1 H1 s1 s2 s3 s4 => g' v F1 H1 s1 s2 s3 fun cls dd F2 H2 t1 t2 t3 => hW cls dd F2 H2 (s1.trans t1) t2 t3
    | ok c sd2 => exact fun g' hQ => h' fun v F1 H1 s1 s2 s3 s4 => g' v F1 H1 s1 s2 s3 fun w F2 H2 t1 t2 t3 t4 => hQ w F2 H2 (s1.trans t1) t2 t3 fun z => by cases z

/-! ### C(..) -/
def mMake (C : Addr) (f : List OT → ER OT) (a : SD → ER (List D)) : SD → ER OT := fun sd => (a sd).bind fun ds sd1 => match f (.oi C [] [] :: ds.map .fz) with
  | .ok (.fz .non) sd' => match sd'.pa[0]? with
    | some t => .ok t sd1
    | none => .bad
  | .rz x sd' => match sd'.pa[0]? with
    | some _ => .rz x sd1
    | none => .bad
  | _ => .bad
section
variable {X : Cx} {pv : List V} {W : WX} {p q k l : Bool} {e a b : Expr} {es : List Expr} {pos : Pos}
theorem run_makeS {C f : Addr} {fd : FuncData} {ps : List Str} {sp : Sp} {E : L2.St → XK} {k : Nat} {pins : List (Addr × Obj)} {σ : L2.St} {H : Hp} {s : Shared} {Q : VK} {us : List Value} {vs : List V} (M : Mk X.K C f) (F : FnG X.prog X.w X.K X.mg X.base (L2.CX X.prog X.w) k f fd ps sp) (hr : RoomG (k + 1) X.A) (hb : Binds X.K fd ps [])
    (hx : PassesAt (L2.CX X.prog X.w) X σ (E σ)) (I : Inv X pins σ H s) (r : Vals vs us)
    (h : ∀ x dx, H x = none → H dx = none → dx ≠ x → sp (.ref x :: vs) (upd (upd H dx (.own x)) x (.ins C dx [])) (fun v H2 => v = .non ∧ Q (.ref x) H2) (E σ)) :
    wpAny (model X.prog X.w) X.A (call (.ref C) us) (EP X pins σ Q) X.xe s := by
  have hq := h (s.heap.objs.size + 1) s.heap.objs.size (I.hok.fresh (Nat.le_succ _)) (I.hok.fresh (Nat.le_refl _)) (Nat.ne_of_lt (Nat.lt_succ_self _))
  have I2 := Inv.made (C := C) I
  have r2 : Vals (V.ref (s.heap.objs.size + 1) :: vs) (Value.ref (s.heap.objs.size + 1) :: us) := .cons rfl r
  have hl : (Value.ref (s.heap.objs.size + 1) :: us).length = ps.length := by
    have e := r2.length
    rw [F.len _ _ _ _ hq] at e
    exact e.symm
  have hb1 := hb _ (Value.ref (s.heap.objs.size + 1) :: us) I2.kIn (by rw [List.append_nil]; exact hl)
  rw [List.append_nil] at hb1
  refine wpAny_call (make_map (f := f) I.kIn M.makes M.init (beq_iff_eq.mp M.fn) (codeAny_mono (F.run _ X.stack _ _ ⟨Value.ref (s.heap.objs.size + 1) :: us, []⟩ (Value.ref (s.heap.objs.size + 1) :: us) _ _ (E σ) (hr.make C us [])
    (I2.env0.make C us []) hb1 r2 hq) fun r s' hq' => ?_))
  cases r with
  | error e => exact hx pins _ _ e s' I2 hq'
  | ok fl =>
    cases fl with
    | ret u =>
      obtain ⟨v, H', I3, rv, ev, q3⟩ := I2.after hq'
      subst ev
      exact ⟨rv, ⟨V.ref (s.heap.objs.size + 1), H', I3, rfl, q3⟩⟩
    | next => exact False.elim hq'
    | brk => exact False.elim hq'
    | cont => exact False.elim hq'
theorem do_make {C f : Addr} {fd : FuncData} {ps : List Str} {x : Str} {pp : Pos} {n j : Nat} {g : List OT → ER OT} {m : SD → ER (List D)} (M : Mk X.K C f) (F : FnG X.prog X.w X.K X.mg X.base (L2.CX X.prog X.w) j f fd ps (spD X.K (n + 1) g)) (hr : RoomG (j + 1) X.A) (hg : Gl X x)
    (hm : X.mg x = some (.ref C)) (hb : Binds X.K fd ps []) (tk : Takes X W) (ha : DA X pv W p true (e :: es) m) (hn : ∀ sd ds sd1, m sd = .ok ds sd1 → ds.length = n)
    (hdb : (x == ("__debug__" : Str)) = false := by decide) (he : starEach (e :: es) X.env = (false, eval e X.env) :: starEach es X.env := by rfl) (hpl : (backTo pos (starEach es X.env)).any (·.1) = false := by rfl) :
    DO X pv W false (.Call (.Name x pp) (e :: es) [] pos) (mMake C g m) := by
  obtain ⟨ta, a1, a2⟩ := ha
  refine ⟨fun σ H Q => ta σ H fun vs H1 => ∀ x dx, H1 x = none → H1 dx = none → dx ≠ x → spD X.K (n + 1) g (.ref x :: vs) (upd (upd H1 dx (.own x)) x (.ins C dx [])) (fun v H2 => v = .non ∧ Q (.ref x) H2) (WE W σ), ⟨fun pins s σ H Q I h => ?_⟩, fun G Fz sd σ H Q s => ?_⟩
  · refine wpAny_Call_Name_kw (ld_glob I hg hm ?_ hdb)
    refine PySem.W.callWith_K (h₀ := X.base) I.ok.mod.kin M.kp (thn (a1.run pos pins s σ H _ I h) fun us s1 ⟨vs, H1, I1, r, q⟩ => ⟨I1.kIn, ?_⟩) he hpl
    exact run_makeS (E := WE W) M F hr hb (passAt tk σ) I1 r q
  · refine Meets.bindW (a2 G Fz sd σ H _ s) fun vs F1 H1 ds sd1 hmm s1 s2 s3 => ?_
    have s3 : Reps X.K F1 vs ds := s3
    have hnn := hn sd ds sd1 hmm
    have key : ∀ x dx, H1 x = none → H1 dx = none → dx ≠ x → ∃ G', StR X.K (V.ref x :: vs) G' F1 ⟨[], .oi C [] [] :: ds.map .fz⟩ [] (upd (upd H1 dx (.own x)) x (.ins C dx [])) ∧
        (∀ (F' H' : Hp) (t' : OT) (sdx : SD), Same F1 F' → StR X.K (V.ref x :: vs) G' F' sdx [] H' → sdx.pa[0]? = some t' → StR1 X.K pv G F' sd1 σ H' (.ref x) t') := fun x dx h1 h2 h3 => (s2.newI (C := C) h1 h2 h3).giveX s3
    have len1 : ∀ (x : Addr), (V.ref x :: vs).length = n + 1 := fun x => by rw [List.length_cons, s3.length, hnn]
    have len2 : (OT.oi C [] [] :: ds.map OT.fz).length = n + 1 := by rw [List.length_cons, List.length_map, hnn]
    split
    · rename_i sd' e1
      split
      · rename_i t et
        intro hQ x dx h1 h2 h3
        obtain ⟨G', g1, g2⟩ := key x dx h1 h2 h3
        refine ⟨len1 x, G', F1, _, len2, g1, ?_⟩
        rw [e1]
        intro v F' H' t1 t2
        refine ⟨?_, hQ (.ref x) F' H' t1 (g2 F' H' t sd' t1 t2.drop et).drop (g2 F' H' t sd' t1 t2.drop et) fun z => by cases z⟩
        obtain ⟨o, P, w, r, _⟩ := t2
        unfold RepO at r
        cases r
        rfl
      · exact True.intro
    · rename_i x1 sd' e1
      split
      · rename_i t et
        intro hW x dx h1 h2 h3
        obtain ⟨G', g1, g2⟩ := key x dx h1 h2 h3
        refine ⟨len1 x, G', F1, _, len2, g1, ?_⟩
        rw [e1]
        exact fun cls dd F' H' t1 t2 t3 => hW cls dd F' H' t1 (g2 F' H' t sd' t1 t2 et).drop t3
      · exact True.intro
    · exact True.intro
end
/-! ### defs called where nothing may be raised -/
theorem cx_none {P : Program} {w : World} {outer : List Env} {H : Hp} {s s' : Shared} {e : Value} (z : L2.CX P w outer H s (fun _ _ _ => False) e s') : False := by
  obtain ⟨_, _, _, _, _, _, _, _, _, _, _, _, q⟩ := z
  exact q
section
variable {X : Cx} {f : Addr} {fd : FuncData} {ps : List Str} {sp : Sp} {j : Nat} {pins : List (Addr × Obj)} {σ : L2.St} {H : Hp} {s : Shared} {Q : VK} {E : Value → Shared → Prop} {us : List Value} {vs : List V}
theorem code_at {A : Around} (F : FnG X.prog X.w X.K X.mg X.base (L2.CX X.prog X.w) j f fd ps sp) (hr : RoomG j A) (he : Env0 X.prog X.w X.K X.mg X.base A X.stack s H) (hb : Binds X.K fd ps []) (I : Inv X pins σ H s) (r : Vals vs us) (h : sp vs H Q fun _ _ _ => False) :
    codeAny (model X.prog X.w) A (.call (.ref f) ⟨us, []⟩) (wants (EP X pins σ Q) E) s := by
  have hl : (us ++ []).length = ps.length := by rw [List.append_nil, ← r.length, F.len _ _ _ _ h]
  have b := hb s us I.kIn hl
  rw [List.append_nil] at b
  refine codeAny_mono (F.run A X.stack s H ⟨us, []⟩ us vs Q _ hr he b r h) fun res s2 hq => ?_
  cases res with
  | error e => exact (cx_none hq).elim
  | ok fl =>
    cases fl with
    | ret u => exact I.after hq
    | next => exact hq.elim
    | brk => exact hq.elim
    | cont => exact hq.elim
theorem run_0 (F : FnG X.prog X.w X.K X.mg X.base (L2.CX X.prog X.w) j f fd ps sp) (hr : RoomG j X.A) (hb : Binds X.K fd ps []) (I : Inv X pins σ H s) (r : Vals vs us) (h : sp vs H Q fun _ _ _ => False) : wpAny (model X.prog X.w) X.A (call (.ref f) us) (EP X pins σ Q) E s := wpAny_call (code_at F hr I.env0 hb I r h)
theorem run_1 (F : FnG X.prog X.w X.K X.mg X.base (L2.CX X.prog X.w) j f fd ps sp) (hr : RoomG (j + 1) X.A) (hb : Binds X.K fd ps []) (I : Inv X pins σ H s) (r : Vals vs us) (h : sp vs H Q fun _ _ _ => False) : wpAny (model X.prog X.w) X.A.in1 (call (.ref f) us) (EP X pins σ Q) E s := wpAny_call (code_at F hr.in1 I.env0.in1 hb I r h)
end
end DL

/-! DL17: attributes, properties, methods. -/
namespace DL
open PySem PySem.Spec L2

/-! ### attributes -/
def fldD {α : Type} (f : Str) : List Str → List α → Option α
  | n :: ns, v :: vs => if n = f then some v else fldD f ns vs
  | _, _ => none
theorem lookup_head {α : Type} {f g : Str} {v : α} {r : List (Str × α)} : List.lookup f ((g, v) :: r) = if g = f then some v else List.lookup f r := by
  by_cases h : g = f
  · subst h
    rw [if_pos rfl]
    simp [List.lookup]
  · rw [if_neg h]
    have : (f == g) = false := by simpa using fun z : f = g => h z.symm
    simp [List.lookup, this]
theorem fldD_rep {K : PySem.W.Frag} {F : Hp} {f : Str} {d : D} : ∀ {fs : List (Str × V)} {vs : List D}, Reps K F (fs.map (·.2)) vs → fldD f (fs.map (·.1)) vs = some d → ∃ v, fs.lookup f = some v ∧ Rep K F v d
  | [], vs, r, h => by
    cases r
    cases h
  | (n, v) :: fs, vs, r, h => by
    cases r with
    | cons r1 r2 =>
      rw [List.map_cons, fldD] at h
      rw [lookup_head]
      by_cases e : n = f
      · rw [if_pos e] at h ⊢
        cases h
        exact ⟨v, rfl, r1⟩
      · rw [if_neg e] at h ⊢
        exact fldD_rep r2 h
theorem fldD_none {α : Type} {f : Str} : ∀ {fs : List (Str × α)}, f ∉ fs.map (·.1) → fs.lookup f = none
  | [], _ => rfl
  | (n, v) :: fs, h => by
    rw [lookup_head, if_neg fun z => h (by rw [z]; exact List.mem_cons_self)]
    exact fldD_none fun z => h (List.mem_cons_of_mem _ z)
def mFld (ok : Addr → Bool) (f : Str) (a : SD → ER D) : SD → ER D := fun sd => (a sd).bind fun x sd1 => match x with
  | .ins C ns vs => if ok C = true then ER.opt (fldD f ns vs) sd1 else .bad
  | _ => .bad
/-- the place of a name -/
def idxN (f : Str) : List Str → Option Nat
  | [] => none
  | n :: ns => if n = f then some 0 else (idxN f ns).map (· + 1)
def putO (C : Addr) (f : Str) (t : OT) (ns : List Str) (ts : List OT) : OT := match idxN f ns with
  | some k => .oi C ns (ts.set k t)
  | none => .oi C (ns ++ [f]) (ts ++ [t])
theorem putF_some {f : Str} {y : V} : ∀ {fs : List (Str × V)} {k : Nat}, idxN f (fs.map (·.1)) = some k → (putF f y fs).map (·.1) = fs.map (·.1) ∧ (putF f y fs).map (·.2) = (fs.map (·.2)).set k y
  | [], k, h => by cases h
  | (n, v) :: fs, k, h => by
    rw [List.map_cons, idxN] at h
    unfold putF
    by_cases e : n = f
    · rw [if_pos e] at h ⊢
      cases h
      subst e
      exact ⟨rfl, rfl⟩
    · rw [if_neg e] at h ⊢
      obtain ⟨j, e1, e2⟩ := Option.map_eq_some_iff.mp h
      subst e2
      obtain ⟨h1, h2⟩ := putF_some (y := y) e1
      exact ⟨by rw [List.map_cons, h1]; rfl, by rw [List.map_cons, h2]; rfl⟩
theorem putF_none {f : Str} {y : V} : ∀ {fs : List (Str × V)}, idxN f (fs.map (·.1)) = none → (putF f y fs).map (·.1) = fs.map (·.1) ++ [f] ∧ (putF f y fs).map (·.2) = fs.map (·.2) ++ [y]
  | [], h => ⟨rfl, rfl⟩
  | (n, v) :: fs, h => by
    rw [List.map_cons, idxN] at h
    unfold putF
    by_cases e : n = f
    · rw [if_pos e] at h; cases h
    · rw [if_neg e] at h ⊢
      have e1 : idxN f (fs.map (·.1)) = none := by
        cases e2 : idxN f (fs.map (·.1)) with
        | none => rfl
        | some j => rw [e2] at h; cases h
      obtain ⟨h1, h2⟩ := putF_none (y := y) e1
      exact ⟨by rw [List.map_cons, h1]; rfl, by rw [List.map_cons, h2]; rfl⟩
section
variable {K : PySem.W.Frag} {pv : List V} {G F H : Hp} {sd : SD} {σ : L2.St}
theorem StR1.fset {i : Nat} {C : Addr} {ns : List Str} {ts : List OT} {t2 : OT} {v2 : V} (s : StR1 K pv G F sd σ H v2 t2) (h : sd.tree i = some (.oi C ns ts)) : ∃ (a dx : Addr) (fs : List (Str × V)), σ[i]? = some (some (.ref a)) ∧ H a = some (.ins C dx fs) ∧ fs.map (·.1) = ns ∧ fs.length = ns.length ∧
    ∀ f, StR K pv G F (sd.put i (putO C f t2 ns ts)) σ (upd H a (.ins C dx (putF f v2 fs))) := by
  obtain ⟨v, P, P2, h1, h2, r2, d, hn, hn2, go⟩ := s.mut h
  unfold RepO at h2
  obtain ⟨a, dx, fs, rfl, pa, ha, hns, r⟩ := h2
  have main : ∀ (gs : List (Str × V)) (ns' : List Str) (ts' : List OT), gs.map (·.1) = ns' → RepOs K F H ts' (gs.map (·.2)) (fun x => (P x ∧ x ≠ a) ∨ P2 x) → StR K pv G F (sd.put i (.oi C ns' ts')) σ (upd H a (.ins C dx gs)) := fun gs ns' ts' hg rr => by
    refine go _ _ (fun x hx u e => by rw [upd_ne (fun z => hx (by rw [z]; exact pa))]; exact e) (fun x hx => ?_) ?_
    · by_cases z : x = a
      · rw [z, upd_same]; simp
      · rw [upd_ne z]; exact hn x hx
    · unfold RepO
      refine ⟨a, dx, gs, rfl, .inl pa, upd_same, hg.symm, rr.mono (Same.refl _) fun x hx => ?_⟩
      have ne : x ≠ a := by
        rcases hx with hx | hx
        · exact hx.2
        · exact fun z => d a pa (by rw [← z]; exact hx)
      exact ⟨⟨hx.imp And.left id, ne⟩, upd_ne ne⟩
  refine ⟨a, dx, fs, h1, ha, hns.symm, by rw [hns, List.length_map], fun f => ?_⟩
  unfold putO
  subst hns
  cases e : idxN f (fs.map (·.1)) with
  | some k =>
    obtain ⟨q1, q2⟩ := putF_some (y := v2) e
    exact main _ _ _ q1 (by rw [q2]; exact repOs_set k r r2 fun x q => d x q.1)
  | none =>
    obtain ⟨q1, q2⟩ := putF_none (y := v2) e
    exact main _ _ _ q1 (by rw [q2]; exact repOs_app r r2 fun x q => d x q.1)
end
def sFldSet (ok : Addr → Bool) (i : Nat) (f : Str) (m : SD → ER OT) : SD → Fl := fun sd => (m sd).stm fun t sd1 => match sd1.tree i with
  | some (.oi C ns ts) => if ok C = true ∧ ns.length < 1000 then .nx (sd1.put i (putO C f t ns ts)) else .bad
  | _ => .bad
section
variable {X : Cx} {pv : List V} {W : WX} {p q k l : Bool} {e a b : Expr} {es : List Expr} {pos : Pos}
theorem dx_fld {ok : Addr → Bool} {f : Str} {m : SD → ER D} (h : DX X pv W p k e m) (hf : ∀ C, ok C = true → Cls X.K C ∧ NoAttr X.K C f) (hb : attributeBase e f X.env (eval e X.env) = eval e X.env := by rfl) : DX X pv W p k (.Attribute e f pos) (mFld ok f m) := by
  obtain ⟨te, a1, a2⟩ := h
  refine ⟨_, pe_fld a1 hb, fun G F sd σ H Q s => ?_⟩
  refine Meets.bindL (a2 G F sd σ H _ s) fun x F1 H1 dx sd1 s1 s2 s3 s4 => ?_
  split
  · rename_i C ns vs
    split
    · rename_i hok
      obtain ⟨c1, c2⟩ := hf C hok
      cases e1 : fldD f ns vs with
      | none => exact True.intro
      | some d =>
        have main : ∀ Fz : Hp, Same Fz H1 → Rep X.K Fz x (.ins C ns vs) → ∃ a dx fs v, x = .ref a ∧ H1 a = some (.ins C dx fs) ∧ fs.lookup f = some v ∧ Rep X.K Fz v d := fun Fz hs r => by
          cases r with
          | @ins a C dx fs _ ha rr =>
            obtain ⟨v, k1, k2⟩ := fldD_rep rr e1
            exact ⟨a, dx, fs, v, rfl, hs _ _ ha, k1, k2⟩
        cases k with
        | true =>
          obtain ⟨a, dx, fs, v, k1, k2, k3, k4⟩ := main F1 s2.fh s3
          exact Meets.here s2 (show RSx X.K true G F1 sd1 H1 σ v d from k4) fun q => ⟨a, C, dx, fs, v, k1, k2, c1, c2, k3, q⟩
        | false =>
          obtain ⟨a, dx, fs, v, k1, k2, k3, k4⟩ := main H1 (Same.refl _) s3
          exact Meets.here s2 (show RSx X.K false G F1 sd1 H1 σ v d from k4) fun q => ⟨a, C, dx, fs, v, k1, k2, c1, c2, k3, q⟩
    · exact True.intro
  · exact True.intro
theorem ds_fld {ok : Addr → Bool} {f : Str} {i : Nat} {x : Str} {pp ap : Pos} {m : SD → ER OT} (hx : PE X (.Name x pp) (tVar i)) (he : DO X pv W p e m) (hf : ∀ C, ok C = true → Cls X.K C ∧ NoAttr X.K C f)
    (hs : swapsWith e (some (.Attribute (.Name x pp) f ap)) pos.line X.env = pure false := by rfl) : DS X pv W (.Assign [.Attribute (.Name x pp) f ap] e pos) (sFldSet ok i f m) := by
  obtain ⟨te, a1, a2⟩ := he
  refine ⟨_, ps_fld hx a1 hs, fun G F sd σ H D s => ?_⟩
  refine Meets.stm (a2 G F sd σ H _ s) fun v F1 H1 t sd1 s1 s2 s3 => ?_
  split
  · rename_i C ns ts e1
    split
    · rename_i hok
      obtain ⟨c1, c2⟩ := hf C hok.1
      obtain ⟨a, dx, fs, k1, k2, k3, k4, k5⟩ := s3.fset e1
      intro hQ
      exact ⟨_, k1, a, C, dx, fs, rfl, k2, c1, c2, by rw [k4]; exact hok.2, hQ F1 σ _ (Same.refl _) (k5 f)⟩
    · exact True.intro
  · exact True.intro

/-! ### properties -/
def callFzQ (f : List OT → ER OT) (ds : List D) (sd : SD) : ER OT := match f (ds.map .fz) with
  | .ok t _ => .ok t sd
  | _ => .bad
theorem meets_callQ {K : PySem.W.Frag} {G F H : Hp} {σ : L2.St} {sd : SD} {n : Nat} {f : List OT → ER OT} {vs : List V} {ds : List D} {Q : VK} (s : StR K pv G F sd σ H) (r : Reps K F vs ds) (hn : ds.length = n) : Meets K pv W G σ (RSo K pv) true sd F H (callFzQ f ds sd) Q (spD K n f vs H Q fun _ _ _ => False) := by
  have z := meets_call (W := fun _ _ _ _ => False) (f := f) (Q := Q) s r hn
  unfold callFz at z
  unfold callFzQ
  revert z
  cases f (ds.map .fz) with
  | bad => exact fun _ => True.intro
  | rz x s' => exact fun _ => True.intro
  | ok t s' => exact id
def mProp (C0 : Addr) (g : List OT → ER OT) (a : SD → ER D) : SD → ER OT := fun sd => (a sd).bind fun x sd1 => match x with
  | .ins C ns vs => if C = C0 then callFzQ g [.ins C ns vs] sd1 else .bad
  | _ => .bad
theorem pe_propG {C pa g : Addr} {f : Str} {fd : FuncData} {ps : List Str} {sp : Sp} {j : Nat} {te : TE} (he : PE X e te) (c : Cls X.K C) (hp : PropOf X.K C f pa g) (F : FnG X.prog X.w X.K X.mg X.base (L2.CX X.prog X.w) j g fd ps sp) (hr : RoomG (j + 1) X.A) (hb : Binds X.K fd ps [])
    (hbase : attributeBase e f X.env (eval e X.env) = eval e X.env) : PE X (.Attribute e f pos) (fun σ H Q => te σ H fun x H1 => ∃ a dx fs, x = .ref a ∧ H1 a = some (.ins C dx fs) ∧ sp [.ref a] H1 Q fun _ _ _ => False) := by
  refine ⟨fun pins s σ H Q I h => attr_of hbase (thn (he.run pins s σ H _ I h) fun u s1 ⟨x, H1, I1, rx, a, dx, fs, ex, ea, q⟩ => ?_)⟩
  subst ex
  cases (show u = Value.ref a from rx)
  obtain ⟨mA, O, _⟩ := ins_get I1.hok ea
  obtain ⟨od, J, _⟩ := O.look
  obtain ⟨rest, hrec⟩ := hp.rec_
  have isC : (PySem.W.clsIn X.K C).isSome = true := by
    obtain ⟨cd, hcd, _⟩ := PySem.W.any_some c.hd
    rw [hcd]; rfl
  have I2 := I1.tok (s1.toks + 1)
  refine PySem.W.get_bind I1.kIn J (PySem.W.plainGet_of (c.get f)).1 (PySem.W.findObj_data isC hp.at_ hp.get hp.tak) (PySem.W.plainGet_of (c.get f)).2 (wpAny_call (PySem.W.prop_get (s := { s1 with toks := s1.toks + 1 }) I1.kIn hrec ?_))
  refine codeAny_mono (code_at (E := fun _ _ => False) (us := [.ref a]) (vs := [.ref a]) F hr.in1 I2.env0.in1 hb I2 (.cons rfl .nil) q) fun r s2 z => ?_
  cases r with
  | error er => exact False.elim z
  | ok fl =>
    cases fl with
    | ret u =>
      obtain ⟨v, H2, I3, rv, q3⟩ := z
      show wpAny _ _ (handedOut u) _ _ _
      rw [PySem.W.handedOut_of (handed_of rv)]
      exact wpAny_pure ⟨v, H2, I3, rv, q3⟩
    | next => exact z
    | brk => exact z
    | cont => exact z
theorem passN {P : Program} {w : World} {Y : Cx} : Passes (L2.CX P w) Y fun _ _ _ => False := fun pins σ H s u s' _ z => by
  obtain ⟨_, _, _, _, _, _, _, _, _, _, _, _, q⟩ := z
  exact q.elim
theorem do_prop {C pa g : Addr} {f : Str} {fd : FuncData} {ps : List Str} {j : Nat} {gm : List OT → ER OT} {m : SD → ER D} (h : DX X pv W p true e m) (c : Cls X.K C) (hp : PropOf X.K C f pa g) (F : FnG X.prog X.w X.K X.mg X.base (L2.CX X.prog X.w) j g fd ps (spD X.K 1 gm)) (hr : RoomG (j + 1) X.A) (hb : Binds X.K fd ps [])
    (hbase : attributeBase e f X.env (eval e X.env) = eval e X.env := by rfl) : DO X pv W p (.Attribute e f pos) (mProp C gm m) := by
  obtain ⟨te, a1, a2⟩ := h
  refine ⟨_, pe_propG a1 c hp F hr hb hbase, fun G Fz sd σ H Q s => ?_⟩
  refine Meets.bindL (a2 G Fz sd σ H _ s) fun x F1 H1 dx sd1 s1 s2 s3 s4 => ?_
  have s3 : Rep X.K F1 x dx := s3
  split
  · rename_i C' ns vs
    split
    · rename_i hC
      subst hC
      refine Meets.to (meets_callQ s2 (.one s3) rfl) fun z => ?_
      cases s3 with
      | @ins a _ dx fs _ ha rr => exact ⟨a, dx, fs, rfl, s2.fh _ _ ha, z⟩
    · exact True.intro
  · exact True.intro

/-! ### methods -/
def mMeth (C0 : Addr) (f : Str) (g : List OT → ER OT) (o : SD → ER D) (a : SD → ER (List D)) : SD → ER OT := fun sd => (o sd).bind fun x sd1 => match x with
  | .ins C ns vs => if C = C0 ∧ f ∉ ns then (a sd1).bind fun ds sd2 => callFz g (.ins C ns vs :: ds) sd2 else .bad
  | _ => .bad
theorem pe_methX {j : Nat} {C g : Addr} {f : Str} {fd : FuncData} {ps : List Str} {sp : Sp} {apos : Pos} {o : Expr} {to : TE} {t : TA} {pl : Sem Bool} (ho : PE X o to) (c : Cls X.K C) (hm : Meth X.K C f g) (F : FnG X.prog X.w X.K X.mg X.base (L2.CX X.prog X.w) j g fd ps sp) (hr : RoomG j X.A) (hb : Binds X.K fd ps []) (tk : Takes X W) (ha : PA X (e :: es) t)
    (hst : starEach (e :: es) X.env = (false, eval e X.env) :: starEach es X.env := by rfl) (hpl : (backTo pos (starEach es X.env)).any (·.1) = false := by rfl)
    (ht : eval (.Call (.Attribute o f apos) (e :: es) [] pos) X.env = (do
      let ov ← eval o X.env
      standAt apos.atName
      let (fn, first) ← holding [ov] (getMethod ov f pl)
      callWith pos fn first (backTo pos (starEach (e :: es) X.env)) (backToKw pos (keywordEach [] X.env))) := by rfl) :
    PE X (.Call (.Attribute o f apos) (e :: es) [] pos) (fun σ H Q => to σ H fun x H1 => ∃ a dx fs, x = .ref a ∧ H1 a = some (.ins C dx fs) ∧ fs.lookup f = none ∧ t σ H1 fun vs H2 => sp (x :: vs) H2 Q (WE W σ)) := by
  refine ⟨fun pins s σ H Q I h => ?_⟩
  refine PySem.W.methodCall_KW (pl := pl) (thn (ho.run pins s σ H _ I h) fun u s1 ⟨x, H1, I1, rx, a, dx, fs, ex, ea, l, q⟩ => ?_) ht
  subst ex
  obtain rfl : u = Value.ref a := rx
  refine getmeth_ok I1 ea c hm l ?_
  refine PySem.W.callWith_K (first := [.ref a]) (h₀ := X.base) I.ok.mod.kin hm.kp (thn (ha.run pos pins s1 σ H1 _ I1 q) fun us s2 ⟨vs, H2, I2, r, q2⟩ => ⟨I2.kIn, ?_⟩) hst hpl
  exact run_G (us := .ref a :: us) (vs := .ref a :: vs) F hr hb (passAt tk σ) I2 (.cons rfl r) q2
theorem pe_methX0 {j : Nat} {C g : Addr} {f : Str} {fd : FuncData} {ps : List Str} {sp : Sp} {apos : Pos} {o : Expr} {to : TE} {pl : Sem Bool} (ho : PE X o to) (c : Cls X.K C) (hm : Meth X.K C f g) (F : FnG X.prog X.w X.K X.mg X.base (L2.CX X.prog X.w) j g fd ps sp) (hr : RoomG j X.A) (hb : Binds X.K fd ps []) (tk : Takes X W)
    (ht : eval (.Call (.Attribute o f apos) [] [] pos) X.env = (do
      let ov ← eval o X.env
      standAt apos.atName
      let (fn, first) ← holding [ov] (getMethod ov f pl)
      callWith pos fn first (backTo pos (starEach [] X.env)) (backToKw pos (keywordEach [] X.env))) := by rfl) :
    PE X (.Call (.Attribute o f apos) [] [] pos) (fun σ H Q => to σ H fun x H1 => ∃ a dx fs, x = .ref a ∧ H1 a = some (.ins C dx fs) ∧ fs.lookup f = none ∧ tNil σ H1 fun vs H2 => sp (x :: vs) H2 Q (WE W σ)) := by
  refine ⟨fun pins s σ H Q I h => ?_⟩
  refine PySem.W.methodCall_KW (pl := pl) (thn (ho.run pins s σ H _ I h) fun u s1 ⟨x, H1, I1, rx, a, dx, fs, ex, ea, l, q⟩ => ?_) ht
  subst ex
  obtain rfl : u = Value.ref a := rx
  refine getmeth_ok I1 ea c hm l ?_
  exact PySem.W.callWith_K0 (first := [.ref a]) I1.kIn hm.kp (run_G (us := [.ref a]) (vs := [.ref a]) F hr hb (passAt tk σ) I1 (.cons rfl .nil) q)
theorem tr_meth {j n : Nat} {C : Addr} {f : Str} {gm : List OT → ER OT} {to : TE} {ta : TA} {mo : SD → ER D} {ma : SD → ER (List D)} (ho : TrX X.K pv W p true to mo) (ha : TrA X.K pv W q true ta ma) (hn : ∀ sd ds sd1, ma sd = .ok ds sd1 → ds.length = n) :
    TrO X.K pv W false (fun σ H Q => to σ H fun x H1 => ∃ a dx fs, x = .ref a ∧ H1 a = some (.ins C dx fs) ∧ fs.lookup f = none ∧ ta σ H1 fun vs H2 => spD X.K (n + 1) gm (x :: vs) H2 Q (WE W σ)) (mMeth C f gm mo ma) := by
  intro G F sd σ H Q s
  refine Meets.bindW (ho G F sd σ H _ s) fun x F1 H1 dx sd1 _ s1 s2 s3 => ?_
  have s3 : Rep X.K F1 x dx := s3
  split
  · rename_i C' ns vs
    split
    · rename_i hC
      obtain ⟨hC, hf⟩ := hC
      subst hC
      refine Meets.to (P := ta σ H1 fun us H2 => spD X.K (n + 1) gm (x :: us) H2 Q (WE W σ)) (Meets.bindW (ha G F1 sd1 σ H1 _ s2) fun us F2 H2 ds sd2 hm t1 t2 t3 => ?_) fun z => ?_
      · have t3 : Reps X.K F2 us ds := t3
        exact Meets.weak (meets_call t2 (.cons (s3.mono t1) t3) (by rw [List.length_cons, hn _ _ _ hm]))
      · cases s3 with
        | @ins a _ dx fs _ hh rr => exact ⟨a, dx, fs, rfl, s2.fh _ _ hh, fldD_none hf, z⟩
    · exact True.intro
  · exact True.intro
theorem do_meth {n j : Nat} {C g : Addr} {f : Str} {fd : FuncData} {ps : List Str} {apos : Pos} {o : Expr} {gm : List OT → ER OT} {pl : Sem Bool} {mo : SD → ER D} {ma : SD → ER (List D)} (ho : DX X pv W p true o mo) (c : Cls X.K C) (hm : Meth X.K C f g) (F : FnG X.prog X.w X.K X.mg X.base (L2.CX X.prog X.w) j g fd ps (spD X.K (n + 1) gm)) (hr : RoomG j X.A) (hb : Binds X.K fd ps []) (tk : Takes X W)
    (ha : DA X pv W q true (e :: es) ma) (hn : ∀ sd ds sd1, ma sd = .ok ds sd1 → ds.length = n)
    (hst : starEach (e :: es) X.env = (false, eval e X.env) :: starEach es X.env := by rfl) (hpl : (backTo pos (starEach es X.env)).any (·.1) = false := by rfl)
    (ht : eval (.Call (.Attribute o f apos) (e :: es) [] pos) X.env = (do
      let ov ← eval o X.env
      standAt apos.atName
      let (fn, first) ← holding [ov] (getMethod ov f pl)
      callWith pos fn first (backTo pos (starEach (e :: es) X.env)) (backToKw pos (keywordEach [] X.env))) := by rfl) : DO X pv W false (.Call (.Attribute o f apos) (e :: es) [] pos) (mMeth C f gm mo ma) := by
  obtain ⟨to, o1, o2⟩ := ho
  obtain ⟨ta, a1, a2⟩ := ha
  exact ⟨_, pe_methX o1 c hm F hr hb tk a1 hst hpl ht, tr_meth (j := j) o2 a2 hn⟩
theorem do_meth0 {j : Nat} {C g : Addr} {f : Str} {fd : FuncData} {ps : List Str} {apos : Pos} {o : Expr} {gm : List OT → ER OT} {pl : Sem Bool} {mo : SD → ER D} (ho : DX X pv W p true o mo) (c : Cls X.K C) (hm : Meth X.K C f g) (F : FnG X.prog X.w X.K X.mg X.base (L2.CX X.prog X.w) j g fd ps (spD X.K 1 gm)) (hr : RoomG j X.A) (hb : Binds X.K fd ps []) (tk : Takes X W)
    (ht : eval (.Call (.Attribute o f apos) [] [] pos) X.env = (do
      let ov ← eval o X.env
      standAt apos.atName
      let (fn, first) ← holding [ov] (getMethod ov f pl)
      callWith pos fn first (backTo pos (starEach [] X.env)) (backToKw pos (keywordEach [] X.env))) := by rfl) : DO X pv W false (.Call (.Attribute o f apos) [] [] pos) (mMeth C f gm mo mNil) := by
  obtain ⟨to, o1, o2⟩ := ho
  exact ⟨_, pe_methX0 o1 c hm F hr hb tk ht, tr_meth (j := j) (n := 0) o2 (fun G F sd σ H Q s => Meets.here (p := true) s (show RSl X.K true G F sd H σ [] [] from .nil) id) len_nil⟩
end
end DL

/-! DL18: own operators. -/
namespace DL
open PySem PySem.Spec L2

/-! ### a op b by an own def -/
/-- what is asked of two operands -/
def tOwn2 (R : V → V → Hp → Prop) (sp : Sp) (E : L2.St → XK) (ta tb : TE) : TE := fun σ H Q => ta σ H fun x H1 => tb σ H1 fun y H2 => R x y H2 ∧ sp [x, y] H2 Q (E σ)
def mOwn2 (c : D → D → Bool) (g : List OT → ER OT) (a b : SD → ER D) : SD → ER OT := fun sd => (a sd).bind fun x sd1 => (b sd1).bind fun y sd2 => if c x y = true then callFz g [x, y] sd2 else .bad
def IsR (K : PySem.W.Frag) (c : D → D → Bool) (R : V → V → Hp → Prop) : Prop := ∀ F H x y dx dy, Same F H → Rep K F x dx → Rep K F y dy → c dx dy = true → R x y H
/-- an instance of C -/
def InsR (C : Addr) (x : V) (H : Hp) : Prop := ∃ a dx fs, x = .ref a ∧ H a = some (.ins C dx fs)
def D.isIns (C : Addr) : D → Bool
  | .ins C' _ _ => C' == C
  | _ => false
theorem isIns_rep {K : PySem.W.Frag} {F H : Hp} {C : Addr} {x : V} {d : D} (e : Same F H) (r : Rep K F x d) (h : d.isIns C = true) : InsR C x H := by
  cases r with
  | @ins a C' dx fs _ ha rr =>
    have h : (C' == C) = true := h
    have h := beq_iff_eq.mp h
    subst h
    exact ⟨a, dx, fs, rfl, e _ _ ha⟩
  | _ => cases h
def D.isInt : D → Bool
  | .int _ => true
  | _ => false
theorem isInt_rep {K : PySem.W.Frag} {F : Hp} {x : V} {d : D} (r : Rep K F x d) (h : d.isInt = true) : ∃ i, x = .int i := by
  cases r <;> first | exact ⟨_, rfl⟩ | cases h
def cSame (C : Addr) : D → D → Bool := fun x y => x.isIns C && y.isIns C
def cInt (C : Addr) : D → D → Bool := fun x y => x.isIns C && y.isInt
theorem isR_same {K : PySem.W.Frag} {C : Addr} : IsR K (cSame C) fun x y H => InsR C x H ∧ InsR C y H := fun F H x y dx dy e r1 r2 h => by
  have h := (Bool.and_eq_true _ _).mp h
  exact ⟨isIns_rep e r1 h.1, isIns_rep e r2 h.2⟩
theorem isR_int {K : PySem.W.Frag} {C : Addr} : IsR K (cInt C) fun x y H => InsR C x H ∧ ∃ i, y = .int i := fun F H x y dx dy e r1 r2 h => by
  have h := (Bool.and_eq_true _ _).mp h
  exact ⟨isIns_rep e r1 h.1, isInt_rep r2 h.2⟩
section
variable {X : Cx} {pv : List V} {W : WX} {p q k l : Bool} {e a b : Expr} {es : List Expr} {pos : Pos}
theorem tr_own2 {c : D → D → Bool} {R : V → V → Hp → Prop} {g : List OT → ER OT} {ta tb : TE} {ma mb : SD → ER D} (hc : IsR X.K c R) (ha : TrX X.K pv W p true ta ma) (hb : TrX X.K pv W q true tb mb) : TrO X.K pv W (p && q) (tOwn2 R (spD X.K 2 g) (WE W) ta tb) (mOwn2 c g ma mb) := by
  intro G F sd σ H Q s
  refine Meets.bind (ha G F sd σ H _ s) fun x F1 H1 dx sd1 s1 s2 s3 s4 => ?_
  refine Meets.bindL (hb G F1 sd1 σ H1 _ s2) fun y F2 H2 dy sd2 t1 t2 t3 t4 => ?_
  have s3 : Rep X.K F1 x dx := s3
  have t3 : Rep X.K F2 y dy := t3
  split
  · rename_i h
    exact Meets.to (meets_call t2 (.cons (s3.mono t1) (.one t3)) rfl) fun z => ⟨hc F2 H2 x y dx dy t2.fh (s3.mono t1) t3 h, z⟩
  · exact True.intro
theorem ins_at {pins : List (Addr × Obj)} {σ : L2.St} {H : Hp} {s : Shared} {a C dx : Addr} {fs : List (Str × V)} (I : Inv X pins σ H s) (h : H a = some (.ins C dx fs)) : ∃ ox od, PySem.W.InstAt s.heap a ox C od := by
  obtain ⟨mA, O, _⟩ := ins_get I.hok h
  obtain ⟨od, J, _⟩ := O.look
  exact ⟨_, _, J⟩
/-- what of the text an own binary operator must have, both of one class -/
structure BinS (K : PySem.W.Frag) (C g : Addr) (nm : String) : Prop where
  first : PySem.W.selfFirst K C = true
  at_ : PySem.W.findIn K (.ref C) (PySem.dunder nm) = some (some (.ref g))
  fn : PySem.W.isFn K (.ref g) = true
/-- .. the right one an int -/
structure BinI (K : PySem.W.Frag) (C g : Addr) (nm : String) (rc fo ro : Option Value) : Prop where
  S : BinS K C g nm
  r : PySem.W.findIn K (.ref C) (dunderR nm) = some rc
  rp : rc = none ∨ ∃ g' : Addr, rc = some (.ref g')
  i1 : PySem.W.findIn K (.type "int") (PySem.dunder nm) = some fo
  i2 : PySem.W.findIn K (.type "int") (dunderR nm) = some ro
  sub : PySem.W.subIn K (.type "int") (.ref C) = some false
theorem do_binS {op : Operator} {C g : Addr} {fd : FuncData} {ps : List Str} {j : Nat} {gm : List OT → ER OT} {ma mb : SD → ER D} (h : BinS X.K C g op.info.2) (F : FnG X.prog X.w X.K X.mg X.base (L2.CX X.prog X.w) j g fd ps (spD X.K 2 gm)) (hr : RoomG j X.A) (hb : Binds X.K fd ps []) (tk : Takes X W)
    (h1 : DX X pv W p true a ma) (h2 : DX X pv W q true b mb) : DO X pv W (p && q) (.BinOp a op b pos) (mOwn2 (cSame C) gm ma mb) := by
  obtain ⟨ta, a1, a2⟩ := h1
  obtain ⟨tb, b1, b2⟩ := h2
  refine ⟨_, ⟨fun pins s σ H Q I hq => ?_⟩, tr_own2 isR_same a2 b2⟩
  refine wpAny_BinOp (binT a1 b1 I hq fun v u s2 x y H2 I2 rx ry q => ?_)
  obtain ⟨⟨⟨xa, dx, fs, rfl, ex⟩, ya, dy, gs, rfl, ey⟩, q⟩ := q
  cases (show v = Value.ref xa from rx)
  cases (show u = Value.ref ya from ry)
  obtain ⟨ox, od, J⟩ := ins_at I2 ex
  obtain ⟨oy, od', J'⟩ := ins_at I2 ey
  obtain ⟨m, hF⟩ := I2.fr
  refine PySem.W.binop_K hF I2.ok.mod.kin J J'.type h.first h.at_ h.fn ?_
  refine wpAny_mono (run_G (us := [.ref xa, .ref ya]) (vs := [.ref xa, .ref ya]) F hr hb (passAt tk σ) I2 (.cons rfl (.cons rfl .nil)) q) (fun w s' z => ?_) fun _ _ x => x
  obtain ⟨z', H', I', rz, qz⟩ := z
  exact SlX.cmpback rz ⟨z', H', I', rz, qz⟩
theorem do_binI {op : Operator} {C g : Addr} {fd : FuncData} {ps : List Str} {j : Nat} {gm : List OT → ER OT} {ma mb : SD → ER D} {rc fo ro : Option Value} (h : BinI X.K C g op.info.2 rc fo ro) (F : FnG X.prog X.w X.K X.mg X.base (L2.CX X.prog X.w) j g fd ps (spD X.K 2 gm)) (hr : RoomG j X.A) (hb : Binds X.K fd ps []) (tk : Takes X W)
    (h1 : DX X pv W p true a ma) (h2 : DX X pv W q true b mb) : DO X pv W (p && q) (.BinOp a op b pos) (mOwn2 (cInt C) gm ma mb) := by
  obtain ⟨ta, a1, a2⟩ := h1
  obtain ⟨tb, b1, b2⟩ := h2
  refine ⟨_, ⟨fun pins s σ H Q I hq => ?_⟩, tr_own2 isR_int a2 b2⟩
  refine wpAny_BinOp (binT a1 b1 I hq fun v u s2 x y H2 I2 rx ry q => ?_)
  obtain ⟨⟨⟨xa, dx, fs, rfl, ex⟩, i, rfl⟩, q⟩ := q
  cases (show v = Value.ref xa from rx)
  obtain ⟨t, rfl⟩ := (show ∃ t, u = Value.int i t from ry)
  obtain ⟨ox, od, J⟩ := ins_at I2 ex
  obtain ⟨m, hF⟩ := I2.fr
  refine PySem.W.ksp_binT hF I2.ok.mod.kin J rfl h.S.first h.S.at_ h.S.fn h.r h.rp h.i1 h.i2 h.sub ?_
  refine wpAny_mono (run_G (us := [.ref xa, .int i t]) (vs := [.ref xa, .int i]) F hr hb (passAt tk σ) I2 (.cons rfl (.cons ⟨t, rfl⟩ .nil)) q) (fun w s' z => ?_) fun _ _ x => x
  obtain ⟨z', H', I', rz, qz⟩ := z
  exact SlX.cmpback rz ⟨z', H', I', rz, qz⟩
/-- -x -/
def mOwn1 (C : Addr) (g : List OT → ER OT) (a : SD → ER D) : SD → ER OT := fun sd => (a sd).bind fun x sd1 => if x.isIns C = true then callFz g [x] sd1 else .bad
theorem do_negO {C g : Addr} {fd : FuncData} {ps : List Str} {j : Nat} {gm : List OT → ER OT} {ma : SD → ER D} (hs : PySem.W.findIn X.K (.ref C) "__neg__" = some (some (.ref g))) (hf : PySem.W.isFn X.K (.ref g) = true) (F : FnG X.prog X.w X.K X.mg X.base (L2.CX X.prog X.w) j g fd ps (spD X.K 1 gm)) (hr : RoomG j X.A)
    (hb : Binds X.K fd ps []) (tk : Takes X W) (h1 : DX X pv W p true a ma) : DO X pv W p (.UnaryOp .USub a pos) (mOwn1 C gm ma) := by
  obtain ⟨ta, a1, a2⟩ := h1
  refine ⟨fun σ H Q => ta σ H fun x H1 => InsR C x H1 ∧ spD X.K 1 gm [x] H1 Q (WE W σ), ⟨fun pins s σ H Q I hq => ?_⟩, fun G Fz sd σ H Q s => ?_⟩
  · refine PyProof.Rows.UnaryOp_ (thn (a1.run pins s σ H _ I hq) fun v s1 ⟨x, H1, I1, r1, q1⟩ => ?_)
    obtain ⟨⟨xa, dx, fs, rfl, ex⟩, q1⟩ := q1
    cases (show v = Value.ref xa from r1)
    obtain ⟨ox, od, J⟩ := ins_at I1 ex
    obtain ⟨m, hF⟩ := I1.fr
    exact PySem.W.ksp_neg hF I1.ok.mod.kin J hs hf (run_G (us := [.ref xa]) (vs := [.ref xa]) F hr hb (passAt tk σ) I1 (.cons rfl .nil) q1)
  · refine Meets.bindL (a2 G Fz sd σ H _ s) fun x F1 H1 dx sd1 s1 s2 s3 s4 => ?_
    have s3 : Rep X.K F1 x dx := s3
    split
    · rename_i h
      exact Meets.to (meets_call s2 (.one s3) rfl) fun z => ⟨isIns_rep s2.fh s3 h, z⟩
    · exact True.intro
end
end DL

/-! DL19: own ==, !=, in, len, calls of instances; isinstance of own classes. -/
namespace PySem.W
open PySem PySem.Calls PyProof.Rows
section
variable {prog : Program} {w : World} {A : Around} {E : Value → Shared → Prop} {s : Shared} {K : Frag} {x C L f : Addr} {h₀ : Heap} {m : Str → Option Value} {ox : Obj} {od : Option Obj} {b tb : Value}
/-- the library's != by an own == -/
theorem dl_objNe {Q : Fin → Shared → Prop} (hu : A.units < cLine) (X : K.In s.heap) (I : InstAt s.heap x ox C od) (hs : findIn K (.ref C) "__eq__" = some (some (.ref f))) (hf : isFn K (.ref f) = true)
    (h : wpAny (model prog w) A (call (.ref f) [.ref x, b]) (fun v s' => ∃ r, v = .bool r ∧ Q (.done (.ret (.bool (!r)))) s') E s) : wpAny (model prog w) A (Builtin.«object.__ne__» ⟨[.ref x, b], []⟩) Q E s := by
  unfold Builtin.«object.__ne__»
  repeat (first
    | with_reducible refine wpAny_cRoomFor hu ?_
    | (refine wpAny_bind (m := callSpecialIfBound? (.ref x) (Str.ofString "__eq__") [b])
        (ifBound_K X I hs hf (wpAny_mono h (fun r s' hr => by
          obtain ⟨b, rfl, hq⟩ := hr
          repeat (first | exact hq | exact wpAny_pure hq | exact wpAny_truthy_bool hq | (refine wpAny_bind (m := truthy (.bool _)) (wpAny_truthy_bool ?_)) | wp_step)) fun _ _ e => e)))
    | wp_step)
theorem dl_checkNe {rest : List Value} {Q : Unit → Shared → Prop} (ha : argsOk "object.__ne__" ⟨.ref x :: rest, []⟩) (X : K.In s.heap) (I : InstAt s.heap x ox C od) (hob : subIn K (.ref C) (.type "object") = some true) (hq : Q () s) :
    wpAny (model prog w) A (checkBuiltinCall "object.__ne__" ⟨.ref x :: rest, []⟩) Q E s := by
  simp only [checkBuiltinCall, F.cmpKind_ne, F.cmpSplit_ne]
  have L : Looks (model prog w) s.heap (isInstance (.ref x) (.type "object")) true := I.type.andThen (looks_subIn X hob)
  refine wpAny_bind (L.here ?_)
  cases hsig : Manifest.signature? "object.__ne__" with
  | none => exact wpAny_pure hq
  | some sig =>
    simp only [argsOk, hsig] at ha
    have h2 : Bind.checkArgs "object.__ne__" sig ⟨.ref x :: rest, []⟩ = pure () := ha
    show wpAny (model prog w) A (Bind.checkArgs "object.__ne__" sig ⟨.ref x :: rest, []⟩) Q E _
    rw [h2]; exact wpAny_pure hq
theorem dl_ifBoundB {name : Str} {id : String} {args : List Value} {Q : Option Value → Shared → Prop} (X : K.In s.heap) (I : InstAt s.heap x ox C od) (hs : findIn K (.ref C) name = some (some (.builtin id))) (S : Slot "object" name id)
    (hcall : wpAny (model prog w) A (call (.builtin id) (.ref x :: args)) (fun v => Q (some v)) E s) : wpAny (model prog w) A (callSpecialIfBound? (.ref x) name args) Q E s := by
  simp only [callSpecialIfBound?, bindSpecialIfBound?]
  refine wpAny_holding (wpAny_bind (wpAny_bind (wpAny_bind (I.type.here ((looks_findIn X hs).here ?_)))))
  simp only [S.bind]
  refine wpAny_bind (wpAny_askSetting (wpAny_ite ?_))
  have fin : wpAny (model prog w) A (call (.builtin id) ([.ref x] ++ args) >>= fun v => pure (some v)) Q E s :=
    wpAny_bind (wpAny_mono hcall (fun v s' h' => wpAny_pure h') fun _ _ h' => h')
  split
  · exact wpAny_bind (wpAny_pure (wpAny_pure fin))
  · exact wpAny_tryCatch (wpAny_bind (wpAny_pure (wpAny_pure fin)))
theorem dl_ne {Q : Value → Shared → Prop} (hu : A.units + 1 < cLine) (F0 : Fr h₀ L s.heap m) (X₀ : K.In h₀) (I : InstAt s.heap x ox C od) (hb : Looks (model prog w) s.heap (typeOf b) tb) (hn : notFirst K C tb = true)
    (hs : findIn K (.ref C) "__eq__" = some (some (.ref f))) (hf : isFn K (.ref f) = true) (hne : findIn K (.ref C) "__ne__" = some (some (.builtin "object.__ne__"))) (hob : subIn K (.ref C) (.type "object") = some true)
    (h : wpAny (model prog w) A.in1 (call (.ref f) [.ref x, b]) (fun v s' => ∃ r, v = .bool r ∧ Q (.bool (!r)) s') E s) : wpAny (model prog w) A (richCompare .NotEq (.ref x) b) Q E s := by
  have X := X₀.keeps F0.keep
  have one : wpAny (model prog w) A (tryCompare (.ref x) "__ne__" b) (fun r s' => ∃ v, r = some v ∧ Q v s') E s := by
    unfold tryCompare
    refine wpAny_bind (dl_ifBoundB X I hne F.cmp_object.ne (wpAny_call (codeAny_call_builtin F.cmp_object.ne.plain F.cmpEntry_ne (dl_checkNe (F.cmpArgs_ne _ _) X I hob
      (dl_objNe (A := A.in1) hu X I hs hf (wpAny_mono h (fun v s' hv => ?_) fun _ _ e => e))))))
    obtain ⟨r, rfl, hq⟩ := hv
    first | exact ⟨r, rfl, wpAny_pure ⟨_, rfl, hq⟩⟩ | exact ⟨r, rfl, wpAny_pure (wpAny_pure ⟨_, rfl, hq⟩)⟩
  unfold richCompare
  simp only [oneThing_ref]
  refine wpAny_holding (wpAny_bind (wpAny_cRoomFor (Nat.lt_of_succ_lt hu) ?_))
  rw [cmpInfo_NotEq]
  dsimp only
  refine wpAny_bind (I.type.here (wpAny_bind (hb.here ?_)))
  split
  · rename_i q
    have e : subIn K tb (.ref C) = some false := by
      rcases Bool.or_eq_true_iff.mp hn with e | e
      · rw [beq_iff_eq.mp e] at q; simp at q
      · exact beq_iff_eq.mp e
    refine wpAny_bind ((looks_subIn X e).here ?_)
    simp only [Bool.false_eq_true, if_false]
    refine wpAny_bind (wpAny_mono one (fun r s' z => ?_) fun _ _ e => e)
    obtain ⟨v, rfl, hq⟩ := z
    exact wpAny_pure hq
  · refine wpAny_bind (wpAny_pure ?_)
    simp only [Bool.false_eq_true, if_false]
    refine wpAny_bind (wpAny_mono one (fun r s' z => ?_) fun _ _ e => e)
    obtain ⟨v, rfl, hq⟩ := z
    exact wpAny_pure hq
end
end PySem.W

/-! DL20: own ==, !=, in, len, calls of instances; isinstance of own classes. -/
namespace DL
open PySem PySem.Spec L2

/-! ### classes of values -/
/-- what of an own class is asked for isinstance, == -/
structure CF (K : PySem.W.Frag) (C : Addr) : Prop where
  cl : Cls K C
  ha : PySem.W.findIn K (.ref C) "__class__" = some (some (.builtin "object.__class__"))
  hn : PySem.W.specialIn K (.builtin "object.__class__") "__get__" = some (some (.builtin "getset_descriptor.__get__"))
  ht : PySem.W.takesIn K (.builtin "object.__class__") = some true
  hm : PySem.W.mroIn K C (.type "object") = some true
def D.tyv (ok : Addr → Bool) : D → Option Value
  | .non => some (.type "NoneType")
  | .bl _ => some (.type "bool")
  | .int _ => some (.type "int")
  | .str _ => some (.type "str")
  | .tup _ => some (.type "tuple")
  | .lst _ => some (.type "list")
  | .scr _ => some (.type "list")
  | .dic _ _ => some (.type "dict")
  | .ins C _ _ => if ok C = true then some (.ref C) else none
  | _ => none
def bltTys : List String := ["NoneType", "bool", "int", "str", "tuple", "list", "dict"]
theorem tyv_rep {K : PySem.W.Frag} {H : Hp} {ok : Addr → Bool} {v : V} {d : D} {t : Value} (hC : ∀ C, ok C = true → CF K C) (r : Rep K H v d) (h : d.tyv ok = some t) : TyX K H v t := by
  cases r with
  | non => cases h; exact .base .non
  | bl x => cases h; exact .base (.bl x)
  | int x => cases h; exact .base (.int x)
  | str x => cases h; exact .base (.str x)
  | ty x => cases h
  | cls x => cases h
  | tup s r => cases h; exact tyx_tup s
  | lst s r => cases h; exact tyx_lst (.inl s)
  | scr s => cases h; exact tyx_lst s
  | dicK s r => cases h; exact .base (.dK s)
  | dicT s r => cases h; exact .base (.dT s)
  | @ins a C dx fs _ s r =>
    have h : (if ok C = true then some (Value.ref C) else none) = some t := h
    split at h
    · rename_i hok
      cases h
      have c := hC C hok
      exact .base (.ins s c.cl c.ha c.hn c.ht c.hm)
    · cases h
theorem tyv_of {ok : Addr → Bool} {d : D} {t : Value} (h : d.tyv ok = some t) : (∃ n ∈ bltTys, t = .type n) ∨ ∃ C, ok C = true ∧ t = .ref C ∧ d.isIns C = true := by
  cases d with
  | ins C ns vs =>
    have h : (if ok C = true then some (Value.ref C) else none) = some t := h
    split at h
    · rename_i hok
      cases h
      exact .inr ⟨C, hok, rfl, by show (C == C) = true; simp⟩
    · cases h
  | ty _ => cases h
  | cls _ => cases h
  | _ => cases h; exact .inl ⟨_, by decide, rfl⟩

/-! ### isinstance(x, C) -/
structure IsF (K : PySem.W.Frag) (ok : Addr → Bool) (C : Addr) : Prop where
  b : ∀ n ∈ bltTys, PySem.W.kitOne K (.type n) (.ref C) = some false
  o : ∀ C', ok C' = true → PySem.W.kitOne K (.ref C') (.ref C) = some (C' == C)
def dIsO (ok : Addr → Bool) (C : Addr) : List D → Option D
  | [d, .cls C'] => if C' = C then (d.tyv ok).map fun _ => .bl (d.isIns C) else none
  | _ => none
theorem f_isO {K : PySem.W.Frag} {ok : Addr → Bool} {C : Addr} (hC : ∀ C, ok C = true → CF K C) (f : IsF K ok C) : CallS K (rIsi K) (dIsO ok C) := by
  intro H xs ds c r h
  unfold dIsO at h
  split at h
  · rename_i d C'
    obtain ⟨v, v', rfl, r1, r2⟩ := reps2 r
    cases r2
    split at h
    · rename_i hC'
      subst hC'
      obtain ⟨t, e, h⟩ := Option.map_eq_some_iff.mp h
      subst h
      refine ⟨_, rfl, fun Q q => ⟨v, _, t, _, _, rfl, .own _, tyv_rep hC r1 e, ?_, q⟩⟩
      rcases tyv_of e with ⟨n, hn, rfl⟩ | ⟨C2, hok, rfl, hi⟩
      · have : d.isIns C' = false := by
          cases d with
          | ins C3 _ _ =>
            have e : (if ok C3 = true then some (Value.ref C3) else none) = some (.type n) := e
            split at e <;> cases e
          | _ => rfl
        rw [this]
        exact f.b n hn
      · cases d with
        | ins C3 _ _ =>
          have hi : (C3 == C2) = true := hi
          have hi := beq_iff_eq.mp hi
          subst hi
          exact f.o _ hok
        | _ => cases hi
    · cases h
  · cases h

/-! ### ==, != -/
structure EqF (K : PySem.W.Frag) (ok : Addr → Bool) (C g : Addr) : Prop where
  at_ : PySem.W.findIn K (.ref C) "__eq__" = some (some (.ref g))
  fn : PySem.W.isFn K (.ref g) = true
  ne : PySem.W.findIn K (.ref C) "__ne__" = some (some (.builtin "object.__ne__"))
  ob : PySem.W.subIn K (.ref C) (.type "object") = some true
  b : ∀ n ∈ bltTys, PySem.W.notFirst K C (.type n) = true
  o : ∀ C', ok C' = true → PySem.W.notFirst K C (.ref C') = true
/-- a def that gives True or False for two values -/
def rB2 (K : PySem.W.Frag) (C : Addr) (g : List OT → ER OT) (neg : Bool) : R2 := fun x y H Q => InsR C x H ∧ (∃ t, TyX K H y t ∧ PySem.W.notFirst K C t = true) ∧ spD K 2 g [x, y] H (fun v H' => ∃ r, v = .bl r ∧ Q (.bl (r != neg)) H') fun _ _ _ => False
def mB2 (ok : Addr → Bool) (C : Addr) (g : List OT → ER OT) (neg : Bool) (a b : SD → ER D) : SD → ER D := fun sd => (a sd).bind fun x sd1 => (b sd1).bind fun y sd2 => if x.isIns C = true ∧ (y.tyv ok).isSome = true then (match g [.fz x, .fz y] with
  | .ok (.fz (.bl r)) _ => .ok (.bl (r != neg)) sd2
  | _ => .bad) else .bad
section
variable {X : Cx} {pv : List V} {W : WX} {p q k l : Bool} {e a b : Expr} {es : List Expr} {pos : Pos}
theorem op_eqO {ok : Addr → Bool} {C g : Addr} {fd : FuncData} {ps : List Str} {j : Nat} {gm : List OT → ER OT} (h : EqF X.K ok C g) (F : FnG X.prog X.w X.K X.mg X.base (L2.CX X.prog X.w) j g fd ps (spD X.K 2 gm)) (hr : RoomG j X.A) (hb : Binds X.K fd ps []) : OpR X (compareOp .Eq) (rB2 X.K C gm false) := by
  intro pins s σ H x y v u Q I rx ry ⟨⟨xa, dx, fs, ex, eh⟩, ⟨t, ty, hn⟩, q⟩
  subst ex
  cases (show v = Value.ref xa from rx)
  obtain ⟨ox, od, J⟩ := ins_at I eh
  obtain ⟨m, hF⟩ := I.fr
  obtain ⟨P, Z, hp, _⟩ := kit_of I ry ty
  refine PySem.W.cmp_ofEq (PySem.W.cmp_K (op := .Eq) (tb := t) hr.units0 hF I.ok.mod.kin J (Z.ty _ _ I.kIn hp) hn h.at_ h.fn ?_)
  refine wpAny_mono (run_0 (us := [.ref xa, u]) (vs := [.ref xa, y]) F hr hb I (.cons rfl (.cons ry .nil)) q) (fun w s' z => ?_) fun _ _ x => x
  obtain ⟨z', H', I', rz, r, ez, qz⟩ := z
  subst ez
  refine SlX.cmpback rz ⟨.bl r, H', I', rz, ?_⟩
  have e : (r != false) = r := by cases r <;> rfl
  rw [e] at qz
  exact qz
theorem op_neO {ok : Addr → Bool} {C g : Addr} {fd : FuncData} {ps : List Str} {j : Nat} {gm : List OT → ER OT} (h : EqF X.K ok C g) (F : FnG X.prog X.w X.K X.mg X.base (L2.CX X.prog X.w) j g fd ps (spD X.K 2 gm)) (hr : RoomG (j + 1) X.A) (hb : Binds X.K fd ps []) : OpR X (compareOp .NotEq) (rB2 X.K C gm true) := by
  intro pins s σ H x y v u Q I rx ry ⟨⟨xa, dx, fs, ex, eh⟩, ⟨t, ty, hn⟩, q⟩
  subst ex
  cases (show v = Value.ref xa from rx)
  obtain ⟨ox, od, J⟩ := ins_at I eh
  obtain ⟨m, hF⟩ := I.fr
  obtain ⟨P, Z, hp, _⟩ := kit_of I ry ty
  refine PySem.W.cmp_ofNotEq (PySem.W.dl_ne (tb := t) (by have := hr.un; omega) hF I.ok.mod.kin J (Z.ty _ _ I.kIn hp) hn h.at_ h.fn h.ne h.ob ?_)
  refine wpAny_mono (run_1 (us := [.ref xa, u]) (vs := [.ref xa, y]) F hr hb I (.cons rfl (.cons ry .nil)) q) (fun w s' z => ?_) fun _ _ x => x
  obtain ⟨z', H', I', rz, r, ez, qz⟩ := z
  subst ez
  cases (show w = Value.bool r from rz)
  refine ⟨r, rfl, .bl (!r), H', I', rfl, ?_⟩
  have e : (r != true) = !r := by cases r <;> rfl
  rw [e] at qz
  exact qz
theorem tr_b2 {ok : Addr → Bool} {C g : Addr} {gm : List OT → ER OT} {neg : Bool} {ta tb : TE} {ma mb : SD → ER D} (hC : ∀ C, ok C = true → CF X.K C) (h : EqF X.K ok C g) (ha : TrX X.K pv W p true ta ma) (hb : TrX X.K pv W q true tb mb) : TrX X.K pv W (p && q) true (tOp (rB2 X.K C gm neg) ta tb) (mB2 ok C gm neg ma mb) := by
  intro G F sd σ H Q s
  refine Meets.bind (ha G F sd σ H _ s) fun x F1 H1 dx sd1 s1 s2 s3 s4 => ?_
  refine Meets.bindL (hb G F1 sd1 σ H1 _ s2) fun y F2 H2 dy sd2 t1 t2 t3 t4 => ?_
  have s3 : Rep X.K F2 x dx := (show Rep X.K F1 x dx from s3).mono t1
  have t3 : Rep X.K F2 y dy := t3
  split
  · rename_i hc
    have z := meets_callQ (pv := pv) (W := W) (K := X.K) (f := gm) (Q := fun v H' => ∃ r, v = .bl r ∧ Q (.bl (r != neg)) H') t2 (.cons s3 (.one t3)) rfl
    unfold callFzQ at z
    have e0 : ([dx, dy] : List D).map OT.fz = [.fz dx, .fz dy] := rfl
    rw [e0] at z
    revert z
    cases e : gm [.fz dx, .fz dy] with
    | bad => exact fun _ => True.intro
    | rz _ _ => exact fun _ => True.intro
    | ok t s' =>
      cases t with
      | fz d =>
        cases d with
        | bl r =>
          intro z hQ
          obtain ⟨tt, et⟩ := Option.isSome_iff_exists.mp hc.2
          refine ⟨isIns_rep t2.fh s3 hc.1, ⟨tt, tyv_rep hC (t3.mono t2.fh) et, ?_⟩, z fun v F' H' s1 s2 s3 s4 => ?_⟩
          · rcases tyv_of et with ⟨n, hn, rfl⟩ | ⟨C2, hok, rfl, _⟩
            · exact h.b n hn
            · exact h.o _ hok
          · obtain ⟨o, P, w, rr, _⟩ := (show StR1 X.K pv G F' sd2 σ H' v (.fz (.bl r)) from s3)
            unfold RepO at rr
            cases rr
            exact ⟨r, rfl, hQ (.bl (r != neg)) F' H' s1 s2 (.bl _) s4⟩
        | _ => exact fun _ => True.intro
      | _ => exact fun _ => True.intro
  · exact True.intro
theorem dx_eqO {ok : Addr → Bool} {C g : Addr} {fd : FuncData} {ps : List Str} {j : Nat} {gm : List OT → ER OT} {ma mb : SD → ER D} (hC : ∀ C, ok C = true → CF X.K C) (h : EqF X.K ok C g) (F : FnG X.prog X.w X.K X.mg X.base (L2.CX X.prog X.w) j g fd ps (spD X.K 2 gm)) (hr : RoomG j X.A) (hb : Binds X.K fd ps [])
    (h1 : DX X pv W p true a ma) (h2 : DX X pv W q true b mb) : DX X pv W (p && q) true (.Compare a [.Eq] [b] pos) (mB2 ok C gm false ma mb) := by
  obtain ⟨ta, a1, a2⟩ := h1
  obtain ⟨tb, b1, b2⟩ := h2
  exact ⟨_, pe_cmpR (op_eqO h F hr hb) a1 b1 (nomark _), tr_b2 hC h a2 b2⟩
theorem dt_eqO {ok : Addr → Bool} {C g : Addr} {fd : FuncData} {ps : List Str} {j : Nat} {gm : List OT → ER OT} {ma mb : SD → ER D} (hC : ∀ C, ok C = true → CF X.K C) (h : EqF X.K ok C g) (F : FnG X.prog X.w X.K X.mg X.base (L2.CX X.prog X.w) j g fd ps (spD X.K 2 gm)) (hr : RoomG j X.A) (hb : Binds X.K fd ps [])
    (h1 : DX X pv W p true a ma) (h2 : DX X pv W q true b mb) : DT X pv W (p && q) (.Compare a [.Eq] [b] pos) (mTest (mB2 ok C gm false ma mb)) := by
  obtain ⟨ta, a1, a2⟩ := h1
  obtain ⟨tb, b1, b2⟩ := h2
  exact ⟨_, pt_cmpR (op_eqO h F hr hb) a1 b1 (nomark _), tr_test (tr_b2 hC h a2 b2)⟩
theorem dx_neO {ok : Addr → Bool} {C g : Addr} {fd : FuncData} {ps : List Str} {j : Nat} {gm : List OT → ER OT} {ma mb : SD → ER D} (hC : ∀ C, ok C = true → CF X.K C) (h : EqF X.K ok C g) (F : FnG X.prog X.w X.K X.mg X.base (L2.CX X.prog X.w) j g fd ps (spD X.K 2 gm)) (hr : RoomG (j + 1) X.A) (hb : Binds X.K fd ps [])
    (h1 : DX X pv W p true a ma) (h2 : DX X pv W q true b mb) : DX X pv W (p && q) true (.Compare a [.NotEq] [b] pos) (mB2 ok C gm true ma mb) := by
  obtain ⟨ta, a1, a2⟩ := h1
  obtain ⟨tb, b1, b2⟩ := h2
  exact ⟨_, pe_cmpR (op_neO h F hr hb) a1 b1 (nomark _), tr_b2 hC h a2 b2⟩
theorem dt_neO {ok : Addr → Bool} {C g : Addr} {fd : FuncData} {ps : List Str} {j : Nat} {gm : List OT → ER OT} {ma mb : SD → ER D} (hC : ∀ C, ok C = true → CF X.K C) (h : EqF X.K ok C g) (F : FnG X.prog X.w X.K X.mg X.base (L2.CX X.prog X.w) j g fd ps (spD X.K 2 gm)) (hr : RoomG (j + 1) X.A) (hb : Binds X.K fd ps [])
    (h1 : DX X pv W p true a ma) (h2 : DX X pv W q true b mb) : DT X pv W (p && q) (.Compare a [.NotEq] [b] pos) (mTest (mB2 ok C gm true ma mb)) := by
  obtain ⟨ta, a1, a2⟩ := h1
  obtain ⟨tb, b1, b2⟩ := h2
  exact ⟨_, pt_cmpR (op_neO h F hr hb) a1 b1 (nomark _), tr_test (tr_b2 hC h a2 b2)⟩
end
end DL

/-! DL21: own in, len; calls of instances. -/
namespace DL
open PySem PySem.Spec L2
/-- x in o, o an instance of C -/
def rIn2 (K : PySem.W.Frag) (C : Addr) (g : List OT → ER OT) (neg : Bool) : R2 := fun x y H Q => InsR C y H ∧ spD K 2 g [y, x] H (fun v H' => ∃ r, v = .bl r ∧ Q (.bl (r != neg)) H') fun _ _ _ => False
def mIn2 (C : Addr) (g : List OT → ER OT) (neg : Bool) (a b : SD → ER D) : SD → ER D := fun sd => (a sd).bind fun x sd1 => (b sd1).bind fun y sd2 => if y.isIns C = true then (match g [.fz y, .fz x] with
  | .ok (.fz (.bl r)) _ => .ok (.bl (r != neg)) sd2
  | _ => .bad) else .bad
section
variable {X : Cx} {pv : List V} {W : WX} {p q k l : Bool} {e a b : Expr} {es : List Expr} {pos : Pos}
/-- a def that gives True or False -/
theorem meets_bool {K : PySem.W.Frag} {G F H : Hp} {σ : L2.St} {sd : SD} {gm : List OT → ER OT} {x y : V} {dx dy : D} {neg : Bool} {Q : VK} (s : StR K pv G F sd σ H) (r1 : Rep K F x dx) (r2 : Rep K F y dy) : Meets K pv W G σ (RSx K true) true sd F H (match gm [.fz dx, .fz dy] with
    | .ok (.fz (.bl r)) _ => .ok (.bl (r != neg)) sd
    | _ => .bad) Q (spD K 2 gm [x, y] H (fun v H' => ∃ r, v = .bl r ∧ Q (.bl (r != neg)) H') fun _ _ _ => False) := by
  have z := meets_callQ (pv := pv) (W := W) (K := K) (f := gm) (Q := fun v H' => ∃ r, v = .bl r ∧ Q (.bl (r != neg)) H') s (.cons r1 (.one r2)) rfl
  unfold callFzQ at z
  have e0 : ([dx, dy] : List D).map OT.fz = [.fz dx, .fz dy] := rfl
  rw [e0] at z
  revert z
  cases e : gm [.fz dx, .fz dy] with
  | bad => exact fun _ => True.intro
  | rz _ _ => exact fun _ => True.intro
  | ok t s' =>
    cases t with
    | fz d =>
      cases d with
      | bl r =>
        intro z hQ
        refine z fun v F' H' s1 s2 s3 s4 => ?_
        obtain ⟨o, P, w, rr, _⟩ := (show StR1 K pv G F' sd σ H' v (.fz (.bl r)) from s3)
        unfold RepO at rr
        cases rr
        exact ⟨r, rfl, hQ (.bl (r != neg)) F' H' s1 s2 (.bl _) s4⟩
      | _ => exact fun _ => True.intro
    | _ => exact fun _ => True.intro
theorem op_inO {C g : Addr} {fd : FuncData} {ps : List Str} {j : Nat} {gm : List OT → ER OT} (at_ : PySem.W.findIn X.K (.ref C) "__contains__" = some (some (.ref g))) (fn : PySem.W.isFn X.K (.ref g) = true) (F : FnG X.prog X.w X.K X.mg X.base (L2.CX X.prog X.w) j g fd ps (spD X.K 2 gm)) (hr : RoomG j X.A) (hb : Binds X.K fd ps []) :
    OpR X (compareOp .In) (rIn2 X.K C gm false) := by
  intro pins s σ H x y v u Q I rx ry ⟨⟨ya, dy, fs, ey, eh⟩, q⟩
  subst ey
  cases (show u = Value.ref ya from ry)
  obtain ⟨ox, od, J⟩ := ins_at I eh
  obtain ⟨m, hF⟩ := I.fr
  refine PySem.W.in_K hF I.ok.mod.kin J at_ fn ?_
  refine wpAny_mono (run_0 (us := [.ref ya, v]) (vs := [.ref ya, x]) F hr hb I (.cons rfl (.cons rx .nil)) q) (fun w s' z => ?_) fun _ _ x => x
  obtain ⟨z', H', I', rz, r, ez, qz⟩ := z
  subst ez
  cases (show w = Value.bool r from rz)
  refine wpAny_truthy_bool ⟨.bl r, H', I', rfl, ?_⟩
  have e : (r != false) = r := by cases r <;> rfl
  rw [e] at qz
  exact qz
theorem op_notInO {C g : Addr} {fd : FuncData} {ps : List Str} {j : Nat} {gm : List OT → ER OT} (at_ : PySem.W.findIn X.K (.ref C) "__contains__" = some (some (.ref g))) (fn : PySem.W.isFn X.K (.ref g) = true) (F : FnG X.prog X.w X.K X.mg X.base (L2.CX X.prog X.w) j g fd ps (spD X.K 2 gm)) (hr : RoomG j X.A) (hb : Binds X.K fd ps []) :
    OpR X (compareOp .NotIn) (rIn2 X.K C gm true) := by
  intro pins s σ H x y v u Q I rx ry ⟨⟨ya, dy, fs, ey, eh⟩, q⟩
  subst ey
  cases (show u = Value.ref ya from ry)
  obtain ⟨ox, od, J⟩ := ins_at I eh
  obtain ⟨m, hF⟩ := I.fr
  refine PySem.W.notIn_K hF I.ok.mod.kin J at_ fn ?_
  refine wpAny_mono (run_0 (us := [.ref ya, v]) (vs := [.ref ya, x]) F hr hb I (.cons rfl (.cons rx .nil)) q) (fun w s' z => ?_) fun _ _ x => x
  obtain ⟨z', H', I', rz, r, ez, qz⟩ := z
  subst ez
  cases (show w = Value.bool r from rz)
  refine wpAny_truthy_bool ⟨.bl (!r), H', I', rfl, ?_⟩
  have e : (r != true) = !r := by cases r <;> rfl
  rw [e] at qz
  exact qz
theorem tr_in2 {C : Addr} {gm : List OT → ER OT} {neg : Bool} {ta tb : TE} {ma mb : SD → ER D} (ha : TrX X.K pv W p true ta ma) (hb : TrX X.K pv W q true tb mb) : TrX X.K pv W (p && q) true (tOp (rIn2 X.K C gm neg) ta tb) (mIn2 C gm neg ma mb) := by
  intro G F sd σ H Q s
  refine Meets.bind (ha G F sd σ H _ s) fun x F1 H1 dx sd1 s1 s2 s3 s4 => ?_
  refine Meets.bindL (hb G F1 sd1 σ H1 _ s2) fun y F2 H2 dy sd2 t1 t2 t3 t4 => ?_
  have s3 : Rep X.K F2 x dx := (show Rep X.K F1 x dx from s3).mono t1
  have t3 : Rep X.K F2 y dy := t3
  split
  · rename_i hc
    exact Meets.to (meets_bool t2 t3 s3) fun z => ⟨isIns_rep t2.fh t3 hc, z⟩
  · exact True.intro
theorem dx_inO {C g : Addr} {fd : FuncData} {ps : List Str} {j : Nat} {gm : List OT → ER OT} {ma mb : SD → ER D} (at_ : PySem.W.findIn X.K (.ref C) "__contains__" = some (some (.ref g))) (fn : PySem.W.isFn X.K (.ref g) = true) (F : FnG X.prog X.w X.K X.mg X.base (L2.CX X.prog X.w) j g fd ps (spD X.K 2 gm)) (hr : RoomG j X.A) (hb : Binds X.K fd ps [])
    (h1 : DX X pv W p true a ma) (h2 : DX X pv W q true b mb) (hm : behindInMarks .In b = false := by rfl) : DX X pv W (p && q) true (.Compare a [.In] [b] pos) (mIn2 C gm false ma mb) := by
  obtain ⟨ta, a1, a2⟩ := h1
  obtain ⟨tb, b1, b2⟩ := h2
  exact ⟨_, pe_cmpR (op_inO at_ fn F hr hb) a1 b1 hm, tr_in2 a2 b2⟩
theorem dt_inO {C g : Addr} {fd : FuncData} {ps : List Str} {j : Nat} {gm : List OT → ER OT} {ma mb : SD → ER D} (at_ : PySem.W.findIn X.K (.ref C) "__contains__" = some (some (.ref g))) (fn : PySem.W.isFn X.K (.ref g) = true) (F : FnG X.prog X.w X.K X.mg X.base (L2.CX X.prog X.w) j g fd ps (spD X.K 2 gm)) (hr : RoomG j X.A) (hb : Binds X.K fd ps [])
    (h1 : DX X pv W p true a ma) (h2 : DX X pv W q true b mb) (hm : behindInMarks .In b = false := by rfl) : DT X pv W (p && q) (.Compare a [.In] [b] pos) (mTest (mIn2 C gm false ma mb)) := by
  obtain ⟨ta, a1, a2⟩ := h1
  obtain ⟨tb, b1, b2⟩ := h2
  exact ⟨_, pt_cmpR (op_inO at_ fn F hr hb) a1 b1 hm, tr_test (tr_in2 a2 b2)⟩
theorem dx_notInO {C g : Addr} {fd : FuncData} {ps : List Str} {j : Nat} {gm : List OT → ER OT} {ma mb : SD → ER D} (at_ : PySem.W.findIn X.K (.ref C) "__contains__" = some (some (.ref g))) (fn : PySem.W.isFn X.K (.ref g) = true) (F : FnG X.prog X.w X.K X.mg X.base (L2.CX X.prog X.w) j g fd ps (spD X.K 2 gm)) (hr : RoomG j X.A) (hb : Binds X.K fd ps [])
    (h1 : DX X pv W p true a ma) (h2 : DX X pv W q true b mb) (hm : behindInMarks .NotIn b = false := by rfl) : DX X pv W (p && q) true (.Compare a [.NotIn] [b] pos) (mIn2 C gm true ma mb) := by
  obtain ⟨ta, a1, a2⟩ := h1
  obtain ⟨tb, b1, b2⟩ := h2
  exact ⟨_, pe_cmpR (op_notInO at_ fn F hr hb) a1 b1 hm, tr_in2 a2 b2⟩
theorem dt_notInO {C g : Addr} {fd : FuncData} {ps : List Str} {j : Nat} {gm : List OT → ER OT} {ma mb : SD → ER D} (at_ : PySem.W.findIn X.K (.ref C) "__contains__" = some (some (.ref g))) (fn : PySem.W.isFn X.K (.ref g) = true) (F : FnG X.prog X.w X.K X.mg X.base (L2.CX X.prog X.w) j g fd ps (spD X.K 2 gm)) (hr : RoomG j X.A) (hb : Binds X.K fd ps [])
    (h1 : DX X pv W p true a ma) (h2 : DX X pv W q true b mb) (hm : behindInMarks .NotIn b = false := by rfl) : DT X pv W (p && q) (.Compare a [.NotIn] [b] pos) (mTest (mIn2 C gm true ma mb)) := by
  obtain ⟨ta, a1, a2⟩ := h1
  obtain ⟨tb, b1, b2⟩ := h2
  exact ⟨_, pt_cmpR (op_notInO at_ fn F hr hb) a1 b1 hm, tr_test (tr_in2 a2 b2)⟩

/-! ### len -/
def rLenO (K : PySem.W.Frag) (C : Addr) (g : List OT → ER OT) : List V → Hp → VK → Prop := fun xs H Q => ∃ x, xs = [x] ∧ InsR C x H ∧ spD K 1 g [x] H (fun v H' => ∃ n : Int, v = .int n ∧ 0 ≤ n ∧ n < 2 ^ 63 ∧ Q (.int n) H') fun _ _ _ => False
theorem call_lenO {C g : Addr} {fd : FuncData} {ps : List Str} {j : Nat} {gm : List OT → ER OT} (at_ : PySem.W.findIn X.K (.ref C) "__len__" = some (some (.ref g))) (fn : PySem.W.isFn X.K (.ref g) = true) (F : FnG X.prog X.w X.K X.mg X.base (L2.CX X.prog X.w) j g fd ps (spD X.K 1 gm)) (hr : RoomG (j + 1) X.A) (hb : Binds X.K fd ps []) :
    CallR X (.builtin "len") (rLenO X.K C gm) := by
  intro pins s σ H xs us Q I rv ⟨x, exs, ⟨xa, dx, fs, ex, eh⟩, q⟩
  subst exs
  subst ex
  obtain ⟨u, rfl, ru⟩ := rv.one
  cases (show u = Value.ref xa from ru)
  obtain ⟨ox, od, J⟩ := ins_at I eh
  obtain ⟨m, hF⟩ := I.fr
  refine PySem.W.len_K hF I.ok.mod.kin J at_ fn ?_
  refine wpAny_mono (run_1 (us := [.ref xa]) (vs := [.ref xa]) F hr hb I (.cons rfl .nil) q) (fun w s' z => ?_) fun _ _ x => x
  obtain ⟨z', H', I', rz, n, ez, h0, h1, qz⟩ := z
  subst ez
  obtain ⟨t, rfl⟩ := (show ∃ t, w = Value.int n t from rz)
  exact ⟨⟨h0, h1⟩, .int n, H', I'.tok _, ⟨_, rfl⟩, qz⟩
def mLenO (C : Addr) (g : List OT → ER OT) (a : SD → ER (List D)) : SD → ER D := fun sd => (a sd).bind fun xs sd1 => match xs with
  | [x] => if x.isIns C = true then (match g [.fz x] with
    | .ok (.fz (.int n)) _ => if 0 ≤ n ∧ n < 2 ^ 63 then .ok (.int n) sd1 else .bad
    | _ => .bad) else .bad
  | _ => .bad
theorem dx_lenO {C g : Addr} {fd : FuncData} {ps : List Str} {j : Nat} {gm : List OT → ER OT} {pp : Pos} {m : SD → ER (List D)} (at_ : PySem.W.findIn X.K (.ref C) "__len__" = some (some (.ref g))) (fn : PySem.W.isFn X.K (.ref g) = true) (F : FnG X.prog X.w X.K X.mg X.base (L2.CX X.prog X.w) j g fd ps (spD X.K 1 gm)) (hr : RoomG (j + 1) X.A) (hb : Binds X.K fd ps [])
    (hg : Gl X "len") (hm : X.mg "len" = none) (ha : DA X pv W p true (e :: es) m)
    (he : starEach (e :: es) X.env = (false, eval e X.env) :: starEach es X.env := by rfl) (hpl : (backTo pos (starEach es X.env)).any (·.1) = false := by rfl) : DX X pv W p true (.Call (.Name "len" pp) (e :: es) [] pos) (mLenO C gm m) := by
  obtain ⟨ta, a1, a2⟩ := ha
  refine ⟨_, pe_callB (call_lenO at_ fn F hr hb) hg hm bo_len a1 (by decide) (by decide) he hpl, fun G Fz sd σ H Q s => ?_⟩
  refine Meets.bindL (a2 G Fz sd σ H _ s) fun xs F1 H1 ds sd1 s1 s2 s3 s4 => ?_
  have s3 : Reps X.K F1 xs ds := s3
  split
  · rename_i x _
    obtain ⟨v, rfl, r1⟩ := reps1 s3
    split
    · rename_i hc
      have z := meets_callQ (pv := pv) (W := W) (K := X.K) (f := gm) (Q := fun v H' => ∃ n : Int, v = .int n ∧ 0 ≤ n ∧ n < 2 ^ 63 ∧ Q (.int n) H') s2 (.one r1) rfl
      unfold callFzQ at z
      have e0 : ([x] : List D).map OT.fz = [.fz x] := rfl
      rw [e0] at z
      revert z
      cases e : gm [.fz x] with
      | bad => exact fun _ => True.intro
      | rz _ _ => exact fun _ => True.intro
      | ok t s' =>
        cases t with
        | fz d =>
          cases d with
          | int n =>
            intro z
            show Meets X.K pv W G σ (RSx X.K true) true sd1 F1 H1 (if 0 ≤ n ∧ n < 2 ^ 63 then .ok (.int n) sd1 else .bad) Q _
            split
            · rename_i hn
              intro hQ
              refine ⟨v, rfl, isIns_rep s2.fh r1 hc, z fun w F' H' s1 s2 s3 s4 => ?_⟩
              obtain ⟨o, P, ww, rr, _⟩ := (show StR1 X.K pv G F' sd1 σ H' w (.fz (.int n)) from s3)
              unfold RepO at rr
              cases rr
              exact ⟨n, rfl, hn.1, hn.2, hQ (.int n) F' H' s1 s2 (.int _) s4⟩
            · exact True.intro
          | _ => exact fun _ => True.intro
        | _ => exact fun _ => True.intro
    · exact True.intro
  · exact True.intro

/-! ### o(..) -/
def mCallIns (C : Addr) (g : List OT → ER OT) (o : SD → ER D) (a : SD → ER (List D)) : SD → ER OT := fun sd => (o sd).bind fun x sd1 => if x.isIns C = true then (a sd1).bind fun ds sd2 => callFz g (x :: ds) sd2 else .bad
theorem do_callIns {n j : Nat} {C g : Addr} {fd : FuncData} {ps : List Str} {fe : Expr} {gm : List OT → ER OT} {mo : SD → ER D} {ma : SD → ER (List D)} (c : StX.CallO X.K C g) (F : FnG X.prog X.w X.K X.mg X.base (L2.CX X.prog X.w) j g fd ps (spD X.K (n + 1) gm)) (hr : RoomG j X.A) (hb : Binds X.K fd ps []) (tk : Takes X W)
    (ho : DX X pv W p true fe mo) (ha : DA X pv W q true (e :: es) ma) (hn : ∀ sd ds sd1, ma sd = .ok ds sd1 → ds.length = n)
    (ht : eval (.Call fe (e :: es) [] pos) X.env = (do callWith pos (← eval fe X.env) [] (backTo pos (starEach (e :: es) X.env)) (backToKw pos (keywordEach [] X.env))) := by rfl)
    (he : starEach (e :: es) X.env = (false, eval e X.env) :: starEach es X.env := by rfl) (hpl : (backTo pos (starEach es X.env)).any (·.1) = false := by rfl) : DO X pv W false (.Call fe (e :: es) [] pos) (mCallIns C gm mo ma) := by
  obtain ⟨to, o1, o2⟩ := ho
  obtain ⟨ta, a1, a2⟩ := ha
  refine ⟨fun σ H Q => to σ H fun y H1 => InsR C y H1 ∧ ta σ H1 fun vs H2 => InsR C y H2 ∧ spD X.K (n + 1) gm (y :: vs) H2 Q (WE W σ), ⟨fun pins s σ H Q I h => ?_⟩, fun G Fz sd σ H Q s => ?_⟩
  · refine PyProof.Rows.Call_ (thn (o1.run pins s σ H _ I h) fun u s1 ⟨y, H1, I1, ry, ⟨a, _, _, ey, _⟩, q⟩ => ?_) ht
    subst ey
    obtain rfl : u = Value.ref a := ry
    refine StX.callO_with (thn (a1.run pos pins s1 σ H1 _ I1 q) fun us s2 ⟨vs, H2, I2, r, ⟨a', dx, fs, ea, hi⟩, q2⟩ => ?_) he hpl
    cases ea
    obtain ⟨ox, od, J, hd⟩ := StX.insC_at I2 (.inr ⟨dx, fs, hi⟩)
    exact ⟨⟨C, ox, od, J, hd⟩, wpAny_call (PySem.W.kco_code I2.kIn J hd c.at_ c.fn c.fi (code_G (us := .ref a :: us) (vs := .ref a :: vs) F hr hb (passAt tk σ) I2 (.cons rfl r) q2))⟩
  · refine Meets.bindW (o2 G Fz sd σ H _ s) fun x F1 H1 dx sd1 _ s1 s2 s3 => ?_
    have s3 : Rep X.K F1 x dx := s3
    split
    · rename_i hc
      refine Meets.to (P := ta σ H1 fun us H2 => InsR C x H2 ∧ spD X.K (n + 1) gm (x :: us) H2 Q (WE W σ)) (Meets.bindW (a2 G F1 sd1 σ H1 _ s2) fun us F2 H2 ds sd2 hm t1 t2 t3 => ?_) fun z => ⟨isIns_rep s2.fh s3 hc, z⟩
      have t3 : Reps X.K F2 us ds := t3
      exact Meets.weak (Meets.to (meets_call t2 (.cons (s3.mono t1) t3) (by rw [List.length_cons, hn _ _ _ hm])) fun z => ⟨isIns_rep t2.fh (s3.mono t1) hc, z⟩)
    · exact True.intro
end
end DL

/-! DL22: repr of data. -/
namespace DL
open PySem PySem.Spec L2
section
variable {X : Cx} {pins : List (Addr × Obj)} {σ : L2.St} {F H : Hp} {s : Shared}
mutual
theorem rep_reads (I : Inv X pins σ H s) (e : Same F H) : ∀ {v : V} {d : D} {p : PyData} {u : Value}, Rep X.K F v d → d.py = some p → RelV v u → ∃ as, Reads s.heap u p as
  | _, _, p, u, .non, h, r => by
    rw [D.py] at h; cases h
    cases (show u = Value.none from r)
    exact ⟨_, .none⟩
  | _, _, p, u, .bl b, h, r => by
    rw [D.py] at h; cases h
    cases (show u = Value.bool b from r)
    exact ⟨_, .bool b⟩
  | _, _, p, u, .int i, h, r => by
    rw [D.py] at h; cases h
    obtain ⟨t, rfl⟩ := (show ∃ t, u = Value.int i t from r)
    exact ⟨_, .int i t⟩
  | _, _, p, u, .str x, h, r => by
    rw [D.py] at h; cases h
    obtain ⟨t, rfl⟩ := (show ∃ t, u = Value.str x t from r)
    exact ⟨_, .str x t⟩
  | _, _, p, u, .ty n, h, r => by simp [D.py] at h
  | _, _, p, u, .cls C, h, r => by simp [D.py] at h
  | _, _, p, u, .tup (a := a) (ds := ds) q rr, h, r => by
    rw [D.py] at h
    cases (show u = Value.ref a from r)
    cases e1 : D.pys ds with
    | none => rw [e1] at h; cases h
    | some ps =>
      rw [e1] at h; cases h
      obtain ⟨its, rv, ⟨o, ho, hc, n, hd⟩, hz⟩ := I.tuple (Same.sqt e q)
      obtain ⟨as, ra⟩ := reps_reads I e rr e1 rv
      exact ⟨_, .tuple ho hc hd ra⟩
  | _, _, p, u, .lst (a := a) (ds := ds) q rr, h, r => by
    rw [D.py] at h
    cases (show u = Value.ref a from r)
    cases e1 : D.pys ds with
    | none => rw [e1] at h; cases h
    | some ps =>
      rw [e1] at h; cases h
      obtain ⟨z, its, n, rv, hl, ho⟩ := rd_list I (Same.rd e q)
      obtain ⟨as, ra⟩ := reps_reads I e rr e1 rv
      exact ⟨_, .list ho rfl rfl ra⟩
  | _, _, p, u, .scr q, h, r => by simp [D.py] at h
  | _, _, p, u, .dicK q rr, h, r => by simp [D.py] at h
  | _, _, p, u, .dicT q rr, h, r => by simp [D.py] at h
  | _, _, p, u, .ins q rr, h, r => by simp [D.py] at h
theorem reps_reads (I : Inv X pins σ H s) (e : Same F H) : ∀ {vs : List V} {ds : List D} {ps : List PyData} {us : List Value}, Reps X.K F vs ds → D.pys ds = some ps → Vals vs us → ∃ as, ReadsAll s.heap us ps as
  | _, _, ps, us, .nil, h, r => by
    rw [D.pys] at h; cases h
    cases r
    exact ⟨_, .nil⟩
  | _, _, ps, us, .cons (d := d) (ds := ds) r1 r2, h, r => by
    rw [D.pys] at h
    cases r with
    | cons q1 q2 =>
      cases e1 : d.py with
      | none => rw [e1] at h; cases h
      | some p =>
        rw [e1] at h
        cases e2 : D.pys ds with
        | none => rw [e2] at h; cases h
        | some qs =>
          rw [e2] at h; cases h
          obtain ⟨as, k1⟩ := rep_reads I e r1 e1 q1
          obtain ⟨bs, k2⟩ := reps_reads I e r2 e2 q2
          exact ⟨_, .cons k1 k2⟩
end
end
mutual
theorem py_plain : ∀ {d : D} {p : PyData}, d.py = some p → p.hasDict = false
  | .non, p, h => by rw [D.py] at h; cases h; rfl
  | .bl _, p, h => by rw [D.py] at h; cases h; rfl
  | .int _, p, h => by rw [D.py] at h; cases h; rfl
  | .str _, p, h => by rw [D.py] at h; cases h; rfl
  | .tup ds, p, h => by
    rw [D.py] at h
    obtain ⟨ps, e, h⟩ := Option.map_eq_some_iff.mp h
    subst h
    rw [PyData.hasDict]
    exact pys_plain e
  | .lst ds, p, h => by
    rw [D.py] at h
    obtain ⟨ps, e, h⟩ := Option.map_eq_some_iff.mp h
    subst h
    rw [PyData.hasDict]
    exact pys_plain e
  | .ty _, p, h => by simp [D.py] at h
  | .cls _, p, h => by simp [D.py] at h
  | .scr _, p, h => by simp [D.py] at h
  | .dic _ _, p, h => by simp [D.py] at h
  | .ins _ _ _, p, h => by simp [D.py] at h
theorem pys_plain : ∀ {ds : List D} {ps : List PyData}, D.pys ds = some ps → PyData.hasDictAll ps = false
  | [], ps, h => by rw [D.pys] at h; cases h; rfl
  | d :: ds, ps, h => by
    rw [D.pys] at h
    obtain ⟨p, e1, h⟩ := Option.bind_eq_some_iff.mp h
    obtain ⟨qs, e2, h⟩ := Option.map_eq_some_iff.mp h
    subst h
    rw [PyData.hasDictAll, py_plain e1, pys_plain e2]
    rfl
end
def dRepr : List D → Option D
  | [d] => d.py.bind fun p => if p.showable = true ∧ p.depth ≤ 40 ∧ p.shown.length ≤ 16777216 then some (.str p.shown) else none
  | _ => none
def rRepr (K : PySem.W.Frag) : List V → Hp → VK → Prop := fun xs H Q => ∃ (v : V) (F : Hp) (d : D) (p : PyData), xs = [v] ∧ Same F H ∧ Rep K F v d ∧ d.py = some p ∧ p.showable = true ∧ p.depth ≤ 40 ∧ p.shown.length ≤ 16777216 ∧ Q (.str p.shown) H
theorem call_reprX {X : Cx} (g : X.A.guards = some []) (hu : X.A.units + 64 < cLine) : CallR X (.builtin "repr") (rRepr X.K) := by
  intro pins s σ H xs us Q I rv ⟨v, F, d, p, exs, e, r, hp, h1, h2, h3, q⟩
  subst exs
  obtain ⟨u, rfl, ru⟩ := rv.one
  have h3 : p.shown.length ≤ sizeLine := by rw [sizeLine_eq]; exact h3
  have fin : ∀ (h' : Heap) (t : Tok) (tk : Nat), (∀ b o, s.heap.get? b = some o → h'.get? b = some o) → EP X pins σ Q (.str p.shown t) { s with heap := h', toks := tk } := fun h' t tk k => ⟨.str p.shown, H, I.kept k, ⟨t, rfl⟩, q⟩
  obtain ⟨as, rd⟩ := rep_reads I e r hp ru
  cases u with
  | ref a => exact repr_of_reads' rd h1 (fun z => by rw [py_plain hp] at z; cases z) g (by omega) (fun _ _ x => x) (fun h' t tk k => fin h' t tk k) h3
  | none => cases rd; exact P.repr_of_none (fin s.heap _ _ fun _ _ x => x)
  | bool b => cases rd; exact P.repr_of_bool (fin s.heap _ _ fun _ _ x => x)
  | int i t =>
    cases rd
    have : i.natAbs.log2 < 1920 := by simpa [PyData.showable] using h1
    exact P.repr_of_int this (fin s.heap _ _ fun _ _ x => x)
  | str x t => cases rd; exact P.repr_of_str (fin s.heap _ _ fun _ _ x => x) h3
  | _ => cases rd
theorem f_repr {K : PySem.W.Frag} : CallS K (rRepr K) dRepr := by
  intro H xs ds c r h
  unfold dRepr at h
  split at h
  · rename_i d
    obtain ⟨v, rfl, r1⟩ := reps1 r
    obtain ⟨p, hp, h⟩ := Option.bind_eq_some_iff.mp h
    split at h
    · rename_i hc
      cases h
      exact ⟨_, rfl, fun Q q => ⟨v, H, d, p, rfl, Same.refl _, r1, hp, hc.1, hc.2.1, hc.2.2, q⟩⟩
    · cases h
  · cases h
end DL

/-! DL23: methods' facts; int(..); constants of the module; three names at once. -/
namespace DL
open PySem PySem.Spec L2
/-- a method as it stands in its class -/
structure Fm (K : PySem.W.Frag) (x q : Str) (st : Stmt) (f : Addr) (fd : FuncData) (ps : List Str) : Prop where
  F : Fun K x q st f fd
  b : Binds K fd ps []
def dInt1 : List D → Option D
  | [.int i] => some (.int i)
  | [.bl b] => some (.int (if b = true then 1 else 0))
  | _ => none
def rInt1 : List V → Hp → VK → Prop := fun xs H Q => (∃ i, xs = [.int i] ∧ Q (.int i) H) ∨ ∃ k, xs = [.bl k] ∧ Q (.int (if k then 1 else 0)) H
theorem call_int1X {X : Cx} : CallR X (.type "int") rInt1 := call_int1
theorem f_int1 {K : PySem.W.Frag} : CallS K rInt1 dInt1 := by
  intro H xs ds c r h
  unfold dInt1 at h
  split at h
  · obtain ⟨v, rfl, r1⟩ := reps1 r
    cases r1; cases h
    exact ⟨_, rfl, fun Q q => .inl ⟨_, rfl, q⟩⟩
  · obtain ⟨v, rfl, r1⟩ := reps1 r
    cases r1; cases h
    exact ⟨_, rfl, fun Q q => .inr ⟨_, rfl, q⟩⟩
  · cases h
def sPar3 (i j l : Nat) (ma mb mc : SD → ER OT) : SD → Fl := fun sd => (ma sd).stm fun t sd1 => (mb sd1).stm fun u sd2 => (mc sd2).stm fun w sd3 => if i < sd3.sl.length ∧ j < sd3.sl.length ∧ l < sd3.sl.length then .nx { sd3 with sl := ((sd3.sl.set i (.ow t)).set j (.ow u)).set l (.ow w) } else .bad
section
variable {X : Cx} {pv : List V} {W : WX} {p q r k l : Bool} {e a b c : Expr} {es : List Expr} {pos : Pos}
theorem ds_par3 {i j l : Nat} {x y z : Str} {px py pz pt pt2 : Pos} {kt k2 : Nat} {ma mb mc : SD → ER OT} (hc : X.calm = true) (hN : X.N.Nodup) (hi : X.N[i]? = some x) (hj : X.N[j]? = some y) (hl : X.N[l]? = some z) (hij : i ≠ j) (hil : i ≠ l) (hjl : j ≠ l)
    (hx : X.env.scope.names.lookup x = some .local) (hy : X.env.scope.names.lookup y = some .local) (hz : X.env.scope.names.lookup z = some .local) (ha : DO X pv W p a ma) (hb : DO X pv W q b mb) (hd : DO X pv W r c mc)
    (hw : swappedStores [.Tuple [.Name x px, .Name y py, .Name z pz] kt pt] (.Tuple [a, b, c] k2 pt2) X.env = pure (some [x, y, z]))
    (hs : swapsWithSole [.Tuple [.Name x px, .Name y py, .Name z pz] kt pt] (.Tuple [a, b, c] k2 pt2) pos.line X.env = pure false := by rfl)
    (hs1 : starEach [a, b, c] X.env = (false, eval a X.env) :: starEach [b, c] X.env := by rfl) (hs2 : starEach [b, c] X.env = (false, eval b X.env) :: starEach [c] X.env := by rfl) (hs3 : starEach [c] X.env = (false, eval c X.env) :: starEach [] X.env := by rfl) :
    DS X pv W (.Assign [.Tuple [.Name x px, .Name y py, .Name z pz] kt pt] (.Tuple [a, b, c] k2 pt2) pos) (sPar3 i j l ma mb mc) := by
  obtain ⟨ta, a1, a2⟩ := ha
  obtain ⟨tb, b1, b2⟩ := hb
  obtain ⟨tc, c1, c2⟩ := hd
  refine ⟨_, ps_par3 hc hN hi hj hl hij hil hjl hx hy hz (pa_cons a1 (pa_cons b1 (pa_cons c1 pa_nil hs3) hs2) hs1) hw hs, fun G F sd σ H D s => ?_⟩
  refine Meets.stm (a2 G F sd σ H _ s) fun v F1 H1 t sd1 s1 s2 s3 => ?_
  obtain ⟨G', g1, g2, g3⟩ := StR1.hide s3
  have z := (b2 G' F1 sd1 σ H1 (fun w H2 => tc σ H2 fun y H3 => ∃ a b c, [v, w, y] = [a, b, c] ∧ D.nx (((σ.set i (some a)).set j (some b)).set l (some c)) H3) g2).unhide g3
  refine MeetsS.imp (Meets.stm z (f := fun u sd2 => (mc sd2).stm fun w sd3 => if i < sd3.sl.length ∧ j < sd3.sl.length ∧ l < sd3.sl.length then .nx { sd3 with sl := ((sd3.sl.set i (.ow t)).set j (.ow u)).set l (.ow w) } else .bad) (D := D) fun w F2 H2 u sd2 t1 t2 t3 => ?_) id
  obtain ⟨t3, t4⟩ := t3
  have t4 : StR1 X.K pv G' F2 sd2 σ H2 w u := t4
  obtain ⟨G2, k1, k2, k3⟩ := StR1.hide t4
  have z2 := ((c2 G2 F2 sd2 σ H2 (fun y H3 => ∃ a b c, [v, w, y] = [a, b, c] ∧ D.nx (((σ.set i (some a)).set j (some b)).set l (some c)) H3) k2).unhide k3).unhide (G := G) (v := v) (t := t) fun F' sd' σ' H' f st => g3 F' sd' σ' H' (t1.trans f) st
  refine Meets.stm z2 fun y F3 H3 x3 sd3 u1 u2 u3 => ?_
  obtain ⟨u3, u4, u5⟩ := u3
  have u5 : StR1 X.K pv G2 F3 sd3 σ H3 y x3 := u5
  split
  · rename_i hl
    intro hQ
    have q1 := u5.store hl.2.2
    have q2 := (k3 F3 _ _ H3 u1 q1).store (i := j) (by show j < (sd3.sl.set l (S.ow x3)).length; rw [List.length_set]; exact hl.2.1)
    have q3 := (g3 F3 _ _ H3 (t1.trans u1) q2).store (i := i) (by show i < ((sd3.sl.set l (S.ow x3)).set j (S.ow u)).length; rw [List.length_set, List.length_set]; exact hl.1)
    have e1 : ((sd3.sl.set l (S.ow x3)).set j (S.ow u)).set i (S.ow t) = ((sd3.sl.set i (S.ow t)).set j (S.ow u)).set l (S.ow x3) := by
      rw [List.set_comm _ _ (Ne.symm hjl), List.set_comm _ _ (Ne.symm hil), List.set_comm _ _ (Ne.symm hij)]
    have e2 : (((σ.set l (some y)).set j (some w)).set i (some v) : L2.St) = ((σ.set i (some v)).set j (some w)).set l (some y) := by
      rw [List.set_comm _ _ (Ne.symm hjl), List.set_comm _ _ (Ne.symm hil), List.set_comm _ _ (Ne.symm hij)]
    have q3 : StR X.K pv G F3 { sd3 with sl := ((sd3.sl.set l (S.ow x3)).set j (S.ow u)).set i (S.ow t) } (((σ.set l (some y)).set j (some w)).set i (some v)) H3 := q3
    rw [e1, e2] at q3
    exact ⟨v, w, y, rfl, hQ F3 _ H3 (Same.refl _) q3⟩
  · exact True.intro
/-- a constant of the module -/
theorem dx_const {x : Str} {v : V} {d : D} {pp : Pos} (hg : Gl X x) (hm : ∃ u, X.mg x = some u ∧ RelV v u) (hr : ∀ F, Rep X.K F v d) (hd : (x == ("__debug__" : Str)) = false := by decide) : DX X pv W true true (.Name x pp) (mC d) := by
  obtain ⟨u, h1, h2⟩ := hm
  exact dx_glob hg h1 h2 hr hd
/-- an own class by its name -/
theorem dx_cls {x : Str} {C : Addr} {pp : Pos} (hg : Gl X x) (hm : X.mg x = some (.ref C)) (hd : (x == ("__debug__" : Str)) = false := by decide) : DX X pv W true true (.Name x pp) (mC (.cls C)) := dx_glob hg hm (v := .ref C) rfl (fun _ => .cls C) hd
end
/-! ### isinstance's answers -/
theorem kit_sub {K : PySem.W.Frag} {C : Addr} {n : String} (h1 : PySem.W.isClsIn K C = true) (h2 : PySem.W.typeIn K (.ref C) = some (.type "type")) (h3 : PySem.W.subIn K (.type n) (.ref C) = some false) : PySem.W.kitOne K (.type n) (.ref C) = some false := by
  have e : (Value.type n == Value.ref C) = false := Bool.eq_false_iff.mpr fun q => by cases beq_iff_eq.mp q
  have h1 : (PySem.W.clsIn K C).isSome = true := h1
  unfold PySem.W.kitOne PySem.W.kitCls
  rw [e]
  simp [h1, h2, h3]
theorem kit_self {K : PySem.W.Frag} {C : Addr} : PySem.W.kitOne K (.ref C) (.ref C) = some true := by
  unfold PySem.W.kitOne
  rw [if_pos (by simp)]
theorem sub_ne {K : PySem.W.Frag} {C D : Addr} (h3 : PySem.W.subIn K (.ref D) (.ref C) = some false) (h4 : PySem.W.subIn K (.ref C) (.ref C) = some true) : (D == C) = false := Bool.eq_false_iff.mpr fun q => by
  have q := beq_iff_eq.mp q
  subst q
  rw [h3] at h4
  cases h4
theorem kit_oth {K : PySem.W.Frag} {C D : Addr} (h1 : PySem.W.isClsIn K C = true) (h2 : PySem.W.typeIn K (.ref C) = some (.type "type")) (h3 : PySem.W.subIn K (.ref D) (.ref C) = some false) (h4 : PySem.W.subIn K (.ref C) (.ref C) = some true) : PySem.W.kitOne K (.ref D) (.ref C) = some false := by
  have e : (Value.ref D == Value.ref C) = false := Bool.eq_false_iff.mpr fun q => by
    have q : D = C := by cases beq_iff_eq.mp q; rfl
    have z := sub_ne h3 h4
    rw [q] at z
    simp at z
  have h1 : (PySem.W.clsIn K C).isSome = true := h1
  unfold PySem.W.kitOne PySem.W.kitCls
  rw [e]
  simp [h1, h2, h3]
end DL

namespace DL
open PySem PySem.Spec L2
/-! ### how long the repr of data is -/
mutual
def szP : PyData → Nat
  | .none => 5
  | .bool _ => 5
  | .int _ => 1921
  | .str x => (reprText x).length
  | .list xs => szA xs + 4
  | .tuple xs => szA xs + 4
  | .dict kvs => (PyData.shown (.dict kvs)).length
def szA : List PyData → Nat
  | [] => 0
  | x :: xs => szP x + 2 + szA xs
end
def szT : List Str → Nat
  | [] => 0
  | t :: r => t.length + 2 + szT r
theorem textFrom_sz : ∀ (ts : List Str) (k : Nat) (acc : Str), (textFrom k acc ts).length ≤ acc.length + szT ts
  | [], k, acc => Nat.le_refl _
  | t :: r, k, acc => by
    have h := textFrom_sz r (k + 1) (acc ++ (if k > 0 then ", " else "" : String) ++ t)
    have e : (acc ++ (if k > 0 then ", " else "" : String) ++ t).length = acc.length + (if k > 0 then 2 else 0) + t.length := by
      rw [strLen_append, strLen_append]
      by_cases hk : k > 0
      · rw [if_pos hk, if_pos hk]; rfl
      · rw [if_neg hk, if_neg hk]; rfl
    rw [e] at h
    show (textFrom (k + 1) (acc ++ (if k > 0 then ", " else "" : String) ++ t) r).length ≤ _
    rw [szT]
    have : (if k > 0 then 2 else 0) ≤ 2 := by split <;> omega
    omega
theorem listText_sz (ts : List Str) : (listText ts).length ≤ szT ts + 2 := by
  unfold listText
  rw [strLen_append]
  have h := textFrom_sz ts 0 "["
  have e1 : (("[" : String) : Str).length = 1 := rfl
  have e2 : (("]" : String) : Str).length = 1 := rfl
  rw [e1] at h
  rw [e2]
  omega
theorem piled_sz : ∀ ts : List Str, piled ts ≤ szT ts
  | [] => by simp [piled]
  | t :: r => by
    have := piled_sz r
    rw [szT]
    simp [piled] at this ⊢
    omega
theorem tupleText_sz (ts : List Str) : (tupleText ts).length ≤ szT ts + 4 := by
  unfold tupleText
  rw [strLen_append, strLen_append]
  have e1 : (("(" : String) : Str).length = 1 := rfl
  have e2 : (((if ts.length == 1 then ",)" else ")" : String)) : Str).length ≤ 2 := by
    split
    · exact Nat.le_refl 2
    · exact Nat.le_succ 1
  rw [e1]
  cases ts with
  | nil =>
    have e3 : (Str.join ", " []).length = 0 := rfl
    omega
  | cons t r =>
    have h := join_length_add (t :: r) (by simp)
    have := piled_sz (t :: r)
    omega
mutual
theorem shown_sz : ∀ {d : PyData}, d.showable = true → d.shown.length ≤ szP d
  | .none, _ => by rw [PyData.shown, szP]; exact Nat.le_succ 4
  | .bool b, _ => by
    rw [PyData.shown, szP]
    cases b
    · exact Nat.le_refl 5
    · exact Nat.le_succ 4
  | .int i, h => by
    rw [PyData.showable] at h
    rw [PyData.shown, szP]
    exact PyProof.Rows.int_text_len_1921 (of_decide_eq_true h)
  | .str x, _ => by rw [PyData.shown, szP]; exact Nat.le_refl _
  | .list xs, h => by
    rw [PyData.showable] at h
    rw [PyData.shown, szP]
    have := listText_sz (PyData.shownAll xs)
    have := shownAll_sz h
    omega
  | .tuple xs, h => by
    rw [PyData.showable] at h
    rw [PyData.shown, szP]
    have := tupleText_sz (PyData.shownAll xs)
    have := shownAll_sz h
    omega
  | .dict kvs, _ => by rw [szP]; exact Nat.le_refl _
theorem shownAll_sz : ∀ {ds : List PyData}, PyData.showableAll ds = true → szT (PyData.shownAll ds) ≤ szA ds
  | [], _ => by rw [PyData.shownAll, szT, szA]; exact Nat.le_refl 0
  | d :: ds, h => by
    rw [PyData.showableAll] at h
    have h := (Bool.and_eq_true _ _).mp h
    have h1 := shown_sz h.1
    have h2 := shownAll_sz h.2
    rw [PyData.shownAll, szT, szA]
    omega
end
theorem dRepr_of {d : D} {p : PyData} (h : d.py = some p) (h1 : p.showable = true) (h2 : p.depth ≤ 40) (h3 : szP p ≤ 16777216) : dRepr [d] = some (.str p.shown) := by
  have := shown_sz h1
  show d.py.bind _ = _
  rw [h]
  show (if p.showable = true ∧ p.depth ≤ 40 ∧ p.shown.length ≤ 16777216 then some (D.str p.shown) else none) = _
  rw [if_pos ⟨h1, h2, by omega⟩]
/-! ### tuples of integers are alike -/
def tI (ns : List Int) : D := .tup (ns.map .int)
theorem pys_int : ∀ ns : List Int, D.pys (ns.map D.int) = some (ns.map PyData.int)
  | [] => rfl
  | n :: r => by rw [List.map_cons, D.pys, pys_int r]; rfl
theorem lay_int : ∀ ns : List Int, PyData.canLayAll0 (ns.map PyData.int) = true
  | [] => rfl
  | n :: r => by rw [List.map_cons, PyData.canLayAll0, lay_int r]; rfl
theorem dep_int : ∀ ns : List Int, PyData.depthAll (ns.map PyData.int) = 0
  | [] => rfl
  | n :: r => by rw [List.map_cons, PyData.depthAll, dep_int r]; rfl
theorem eqv_int : ∀ ns ms : List Int, PyData.eqvAll (ns.map PyData.int) (ms.map PyData.int) = decide (ns = ms)
  | [], [] => by simp [PyData.eqvAll]
  | [], _ :: _ => by simp [PyData.eqvAll]
  | _ :: _, [] => by simp [PyData.eqvAll]
  | n :: ns, m :: ms => by
    rw [List.map_cons, List.map_cons, PyData.eqvAll, eqv_int ns ms, PyData.eqv]
    by_cases h : n = m <;> simp [h]
theorem tI_py (ns : List Int) : (tI ns).py = some (.tuple (ns.map PyData.int)) := by
  unfold tI
  rw [D.py, pys_int]
  rfl
theorem tI_shaped (ns : List Int) : SeqAt.shaped (.tuple (ns.map PyData.int)) = true := by
  have h1 : PyData.canLay0 (.tuple (ns.map PyData.int)) = true := lay_int ns
  have h2 : PyData.depth (.tuple (ns.map PyData.int)) = 1 := by rw [PyData.depth, dep_int]
  unfold SeqAt.shaped
  rw [h1, h2]
  rfl
theorem eq_tI (ns ms : List Int) : dEqB (tI ns) (tI ms) = some (decide (ns = ms)) := by
  have z : dEqB (tI ns) (tI ms) = match (tI ns).py, (tI ms).py with
    | some p, some q => if (SeqAt.shaped p && SeqAt.shaped q) = true then some (PyData.eqv p q) else none
    | _, _ => none := rfl
  rw [z, tI_py, tI_py]
  dsimp only
  rw [tI_shaped, tI_shaped]
  show some (PyData.eqvAll _ _) = _
  rw [eqv_int]
theorem eqB_int (i j : Int) : dEqB (.int i) (.int j) = some (decide (i = j)) := rfl
theorem eqB_str (i j : Str) : dEqB (.str i) (.str j) = some (decide (i = j)) := rfl
theorem eqB_bl (i j : Bool) : dEqB (.bl i) (.bl j) = some (decide (i = j)) := rfl
theorem eq_2 (a b c d : Int) : dEqB (.tup [.int a, .int b]) (.tup [.int c, .int d]) = some (decide (a = c) && decide (b = d)) := by
  have := eq_tI [a, b] [c, d]
  simpa [tI] using this
theorem eq_3 (a b c d e f : Int) : dEqB (.tup [.int a, .int b, .int c]) (.tup [.int d, .int e, .int f]) = some (decide (a = d) && (decide (b = e) && decide (c = f))) := by
  have := eq_tI [a, b, c] [d, e, f]
  simpa [tI] using this
end DL

namespace Lw
open PySem PySem.Spec L2 DL
/-- the classes of which instances are made -/
def okC (cs : Nat → Addr) (C : Addr) : Bool := C == cs 0
/-- the classes are different ones -/
def CsOk (cs : Nat → Addr) : Prop := True
def m__law_tank_1 (cs : Nat → Addr) : SD → Fl := sSet 2 (mOwn (mC (.int 0)))
def m__law_tank_2 (cs : Nat → Addr) : SD → Fl := sSet 2 (mOwn (mOp dIx (mVar 0) (mVar 1)))
def m__law_tank_3 (cs : Nat → Addr) : SD → Fl := sIf (mTest (mOp dLt (mVar 1) (mCall dLen (mCons (mVar 0) (mNil))))) ((m__law_tank_2 cs)) (sNil)
def m__law_tank_4 (cs : Nat → Addr) : SD → Fl := sRet (mLst (mCons (mCall dMax (mCons (mC (.int 0)) (mCons (mOp dSub (mVar 2) (mOp dPow (mC (.int 10)) (mC (.int 18)))) (mNil)))) (mCons (mOp dAdd (mOp dAdd (mOp dMod (mVar 2) (mOp dAdd (mOp dPow (mC (.int 10)) (mC (.int 39))) (mC (.int 37)))) (mOp dMul (mC (.int 70001)) (mVar 1))) (mC (.int 83))) (mCons (mC (.int 0)) (mNil)))))
def m__law_tank (cs : Nat → Addr) : List OT → ER OT := asDef 3 (
    sSeq ((m__law_tank_1 cs))
    (sSeq ((m__law_tank_3 cs))
    ((m__law_tank_4 cs))))
def m__law_dip_1 (cs : Nat → Addr) : SD → Fl := sSet 2 (mOwn (mOp dMod (mAt (qSee 0) (mC (.int 0))) (mVar 1)))
def m__law_dip_2 (cs : Nat → Addr) : SD → Fl := sSetAt 0 (mC (.int 0)) (mOwn (mOp dDiv (mAt (qSee 0) (mC (.int 0))) (mVar 1)))
def m__law_dip_3 (cs : Nat → Addr) : SD → Fl := sRet (mOwn (mVar 2))
def m__law_dip_4 (cs : Nat → Addr) : SD → Fl := sIf (mTest (mOp dGt (mAt (qSee 0) (mC (.int 0))) (mC (.int 0)))) (sSeq ((m__law_dip_1 cs)) (sSeq ((m__law_dip_2 cs)) ((m__law_dip_3 cs)))) (sNil)
def m__law_dip_5 (cs : Nat → Addr) : SD → Fl := sSetAt 0 (mC (.int 2)) (mOwn (mOp dAdd (mAt (qSee 0) (mC (.int 2))) (mC (.int 1))))
def m__law_dip_6 (cs : Nat → Addr) : SD → Fl := sSet 3 (mOwn (mOp dMod (mOp dPow (mOp dAdd (mAt (qSee 0) (mC (.int 1))) (mOp dMul (mC (.int 86028157)) (mAt (qSee 0) (mC (.int 2))))) (mC (.int 3))) (mOp dAdd (mOp dPow (mC (.int 10)) (mC (.int 42))) (mC (.int 63)))))
def m__law_dip_7 (cs : Nat → Addr) : SD → Fl := sSet 3 (mOwn (mOp dMod (mOp dPow (mOp dAdd (mVar 3) (mOp dMul (mC (.int 49979693)) (mAt (qSee 0) (mC (.int 2))))) (mC (.int 3))) (mOp dAdd (mOp dPow (mC (.int 10)) (mC (.int 41))) (mC (.int 37)))))
def m__law_dip_8 (cs : Nat → Addr) : SD → Fl := sRet (mOwn (mOp dMod (mOp dDiv (mVar 3) (mC (.int 655373))) (mVar 1)))
def m__law_dip (cs : Nat → Addr) : List OT → ER OT := asDef 4 (
    sSeq ((m__law_dip_4 cs))
    (sSeq ((m__law_dip_5 cs))
    (sSeq ((m__law_dip_6 cs))
    (sSeq ((m__law_dip_7 cs))
    ((m__law_dip_8 cs))))))
def m__law_start_1 (cs : Nat → Addr) : SD → Fl := sSet 1 (mOwn (mOp dIx (mView (mLst (mCons (mC (.int 0)) (mCons (mOp dPow (mC (.int 10)) (mC (.int 30))) (mCons (mOp dPow (mC (.int 10)) (mC (.int 60))) (mCons (mOp dMul (mOp dPow (mC (.int 10)) (mC (.int 60))) (mOp dPow (mC (.int 10)) (mC (.int 38)))) (mNil))))))) (mView (mCall1 (m__law_dip cs) (rSlot 0 (rFz (mC (.int 4)) (rNil)))))))
def m__law_start_2 (cs : Nat → Addr) : SD → Fl := sPar 2 3 (mOwn (mOp dMul (mVar 1) (mOp dSub (mView (mCall1 (m__law_dip cs) (rSlot 0 (rFz (mC (.int 3)) (rNil))))) (mC (.int 1))))) (mOwn (mOp dMul (mVar 1) (mOp dSub (mView (mCall1 (m__law_dip cs) (rSlot 0 (rFz (mC (.int 3)) (rNil))))) (mC (.int 1)))))
def m__law_start_3 (cs : Nat → Addr) : SD → Fl := sSet 4 (mOwn (mOp dIx (mView (mLst (mCons (mC (.int 5)) (mCons (mOp dPow (mC (.int 10)) (mC (.int 20))) (mNil))))) (mView (mCall1 (m__law_dip cs) (rSlot 0 (rFz (mC (.int 2)) (rNil)))))))
def m__law_start_4 (cs : Nat → Addr) : SD → Fl := sRet (mOwn (mTup (mCons (mOp dSub (mOp dAdd (mVar 2) (mView (mCall1 (m__law_dip cs) (rSlot 0 (rFz (mVar 4) (rNil)))))) (mOp dDiv (mVar 4) (mC (.int 2)))) (mCons (mOp dSub (mOp dAdd (mVar 3) (mView (mCall1 (m__law_dip cs) (rSlot 0 (rFz (mVar 4) (rNil)))))) (mOp dDiv (mVar 4) (mC (.int 2)))) (mCons (mView (mCall1 (m__law_dip cs) (rSlot 0 (rFz (mC (.int 4)) (rNil))))) (mNil))))))
def m__law_start (cs : Nat → Addr) : List OT → ER OT := asDef 5 (
    sSeq ((m__law_start_1 cs))
    (sSeq ((m__law_start_2 cs))
    (sSeq ((m__law_start_3 cs))
    ((m__law_start_4 cs)))))
def m__law_moved_1 (cs : Nat → Addr) : SD → Fl := sAsg (mVar 2) (tgT 3 (tgCons (tgN 3) (tgCons (tgN 4) (tgCons (tgN 5) (tgNil)))))
def m__law_moved_2 (cs : Nat → Addr) : SD → Fl := sAsg (mVar 1) (tgT 2 (tgCons (tgN 6) (tgCons (tgN 7) (tgNil))))
def m__law_moved_3 (cs : Nat → Addr) : SD → Fl := sPar 6 7 (mOwn (mOp dSub (mC (.int 0)) (mVar 7))) (mOwn (mVar 6))
def m__law_moved_b1 (cs : Nat → Addr) : SD → Fl := (m__law_moved_3 cs)
def m__law_moved_4 (cs : Nat → Addr) : SD → Fl := sFor (iRange1 (mCons (mVar 5) (mNil))) (tgN 8) ((m__law_moved_b1 cs))
def m__law_moved_5 (cs : Nat → Addr) : SD → Fl := sRet (mOwn (mTup (mCons (mOp dAdd (mVar 3) (mVar 6)) (mCons (mOp dAdd (mVar 4) (mVar 7)) (mCons (mOp dMod (mOp dAdd (mVar 5) (mVar 0)) (mC (.int 4))) (mNil))))))
def m__law_moved (cs : Nat → Addr) : List OT → ER OT := asDef 9 (
    sSeq ((m__law_moved_1 cs))
    (sSeq ((m__law_moved_2 cs))
    (sSeq ((m__law_moved_4 cs))
    ((m__law_moved_5 cs)))))
def m_is_int_1 (cs : Nat → Addr) : SD → Fl := sRet (mOwn (mAndV (mCall dIsi (mCons (mVar 0) (mCons (mC (.ty "int")) (mNil)))) (mNotV (mCall dIsi (mCons (mVar 0) (mCons (mC (.ty "bool")) (mNil)))))))
def m_is_int (cs : Nat → Addr) : List OT → ER OT := asDef 1 (
    (m_is_int_1 cs))
def m_is_point_c1 (cs : Nat → Addr) : SD → ER OT := mComp (iTuP (mVar 0)) (tgN 1) (mYes) (mView (mCall0 (m_is_int cs) (mCons (mVar 1) (mNil)))) [1]
def m_is_point_c2 (cs : Nat → Addr) : SD → ER OT := mComp (iTuP (mVar 0)) (tgN 1) (mYes) (mView (mCall0 (m_is_int cs) (mCons (mVar 1) (mNil)))) [1]
def m_is_point_1 (cs : Nat → Addr) : SD → Fl := sRet (mOwn (mAndV (mCall dIsi (mCons (mVar 0) (mCons (mC (.ty "tuple")) (mNil)))) (mAndV (mOp dEq (mCall dLen (mCons (mVar 0) (mNil))) (mC (.int 2))) (mCall dAll (mCons (mView ((m_is_point_c2 cs))) (mNil))))))
def m_is_point (cs : Nat → Addr) : List OT → ER OT := asDef 2 (
    (m_is_point_1 cs))
def m_in_range_1 (cs : Nat → Addr) : SD → Fl := sRet (mOwn (mAndV (mView (mCall0 (m_is_int cs) (mCons (mVar 0) (mNil)))) (mChain dLe dLe (mVar 1) (mVar 0) (mVar 2))))
def m_in_range (cs : Nat → Addr) : List OT → ER OT := asDef 3 (
    (m_in_range_1 cs))
def m_is_pose_1 (cs : Nat → Addr) : SD → Fl := sRet (mOwn (mC (.bl false)))
def m_is_pose_2 (cs : Nat → Addr) : SD → Fl := sIf (mOr (mNot (mTest (mCall dIsi (mCons (mVar 0) (mCons (mC (.ty "tuple")) (mNil)))))) (mTest (mOp dNe (mCall dLen (mCons (mVar 0) (mNil))) (mC (.int 3))))) ((m_is_pose_1 cs)) (sNil)
def m_is_pose_3 (cs : Nat → Addr) : SD → Fl := sRet (mOwn (mAndV (mView (mCall0 (m_is_point cs) (mCons (mCutX (mVar 0) (oNone) (oSome (mC (.int 2)))) (mNil)))) (mView (mCall0 (m_in_range cs) (mCons (mOp dIx (mVar 0) (mC (.int 2))) (mCons (mC (.int 0)) (mCons (mC (.int 3)) (mNil))))))))
def m_is_pose (cs : Nat → Addr) : List OT → ER OT := asDef 1 (
    sSeq ((m_is_pose_2 cs))
    ((m_is_pose_3 cs)))
def m_require_pose_1 (cs : Nat → Addr) : SD → Fl := sNever
def m_require_pose_2 (cs : Nat → Addr) : SD → Fl := sIf (mNot (mTest (mView (mCall0 (m_is_pose cs) (mCons (mVar 0) (mNil)))))) ((m_require_pose_1 cs)) (sNil)
def m_require_pose (cs : Nat → Addr) : List OT → ER OT := asDef 1 (
    (m_require_pose_2 cs))
def m_turned_point_1 (cs : Nat → Addr) : SD → Fl := sAsg (mVar 0) (tgT 2 (tgCons (tgN 2) (tgCons (tgN 3) (tgNil))))
def m_turned_point_2 (cs : Nat → Addr) : SD → Fl := sPar 2 3 (mOwn (mUn dNeg (mVar 3))) (mOwn (mVar 2))
def m_turned_point_b1 (cs : Nat → Addr) : SD → Fl := (m_turned_point_2 cs)
def m_turned_point_3 (cs : Nat → Addr) : SD → Fl := sFor (iRange1 (mCons (mOp dMod (mVar 1) (mC (.int 4))) (mNil))) (tgN 4) ((m_turned_point_b1 cs))
def m_turned_point_4 (cs : Nat → Addr) : SD → Fl := sRet (mOwn (mTup (mCons (mVar 2) (mCons (mVar 3) (mNil)))))
def m_turned_point (cs : Nat → Addr) : List OT → ER OT := asDef 5 (
    sSeq ((m_turned_point_1 cs))
    (sSeq ((m_turned_point_3 cs))
    ((m_turned_point_4 cs))))
def m_Motion___call___1 (cs : Nat → Addr) : SD → Fl := sDrop (mView (mCall0 (m_require_pose cs) (mCons (mVar 1) (mNil))))
def m_Motion___call___2 (cs : Nat → Addr) : SD → Fl := sAsg (mVar 1) (tgT 3 (tgCons (tgN 2) (tgCons (tgN 3) (tgCons (tgN 4) (tgNil)))))
def m_Motion___call___3 (cs : Nat → Addr) : SD → Fl := sAsg (mView (mCall0 (m_turned_point cs) (mCons (mFld (fun C => C == cs 0) "kept_shift" (mVar 0)) (mCons (mVar 4) (mNil))))) (tgT 2 (tgCons (tgN 5) (tgCons (tgN 6) (tgNil))))
def m_Motion___call___4 (cs : Nat → Addr) : SD → Fl := sRet (mOwn (mTup (mCons (mOp dAdd (mVar 2) (mVar 5)) (mCons (mOp dAdd (mVar 3) (mVar 6)) (mCons (mOp dMod (mOp dAdd (mVar 4) (mFld (fun C => C == cs 0) "kept_turn" (mVar 0))) (mC (.int 4))) (mNil))))))
def m_Motion___call__ (cs : Nat → Addr) : List OT → ER OT := asDef 7 (
    sSeq ((m_Motion___call___1 cs))
    (sSeq ((m_Motion___call___2 cs))
    (sSeq ((m_Motion___call___3 cs))
    ((m_Motion___call___4 cs)))))
def m__law_led_1 (cs : Nat → Addr) : SD → Fl := sRet (mCallIns (cs 0) (m_Motion___call__ cs) (mVar 0) (mCons (mVar 1) (mNil)))
def m__law_led (cs : Nat → Addr) : List OT → ER OT := asDef 2 (
    (m__law_led_1 cs))
def m_Motion_order_1 (cs : Nat → Addr) : SD → Fl := sRet (mOwn (mIf (mTest (mOp dEq (mFld (fun C => C == cs 0) "kept_shift" (mVar 0)) (mTup (mCons (mC (.int 0)) (mCons (mC (.int 0)) (mNil)))))) (mC (.int 1)) (mC .non)))
def m_Motion_order_2 (cs : Nat → Addr) : SD → Fl := sIf (mTest (mOp dEq (mFld (fun C => C == cs 0) "kept_turn" (mVar 0)) (mC (.int 0)))) ((m_Motion_order_1 cs)) (sNil)
def m_Motion_order_3 (cs : Nat → Addr) : SD → Fl := sRet (mOwn (mIf (mTest (mOp dEq (mFld (fun C => C == cs 0) "kept_turn" (mVar 0)) (mC (.int 2)))) (mC (.int 2)) (mC (.int 4))))
def m_Motion_order (cs : Nat → Addr) : List OT → ER OT := asDef 1 (
    sSeq ((m_Motion_order_2 cs))
    ((m_Motion_order_3 cs)))
def m_Motion___init___1 (cs : Nat → Addr) : SD → Fl := sNever
def m_Motion___init___2 (cs : Nat → Addr) : SD → Fl := sIf (mOr (mNot (mTest (mView (mCall0 (m_in_range cs) (mCons (mVar 1) (mCons (mC (.int 0)) (mCons (mC (.int 3)) (mNil)))))))) (mOr (mNot (mTest (mView (mCall0 (m_is_int cs) (mCons (mVar 2) (mNil)))))) (mNot (mTest (mView (mCall0 (m_is_int cs) (mCons (mVar 3) (mNil)))))))) ((m_Motion___init___1 cs)) (sNil)
def m_Motion___init___3 (cs : Nat → Addr) : SD → Fl := sFldSet (fun C => C == cs 0) 0 "kept_turn" (mOwn (mVar 1))
def m_Motion___init___4 (cs : Nat → Addr) : SD → Fl := sFldSet (fun C => C == cs 0) 0 "kept_shift" (mOwn (mTup (mCons (mVar 2) (mCons (mVar 3) (mNil)))))
def m_Motion___init__ (cs : Nat → Addr) : List OT → ER OT := asDef 4 (
    sSeq ((m_Motion___init___2 cs))
    (sSeq ((m_Motion___init___3 cs))
    ((m_Motion___init___4 cs))))
def m_Motion_turn_1 (cs : Nat → Addr) : SD → Fl := sRet (mOwn (mFld (fun C => C == cs 0) "kept_turn" (mVar 0)))
def m_Motion_turn (cs : Nat → Addr) : List OT → ER OT := asDef 1 (
    (m_Motion_turn_1 cs))
def m_Motion_shift_1 (cs : Nat → Addr) : SD → Fl := sRet (mOwn (mFld (fun C => C == cs 0) "kept_shift" (mVar 0)))
def m_Motion_shift (cs : Nat → Addr) : List OT → ER OT := asDef 1 (
    (m_Motion_shift_1 cs))
def m_Motion___eq___1 (cs : Nat → Addr) : SD → Fl := sRet (mOwn (mC (.bl false)))
def m_Motion___eq___2 (cs : Nat → Addr) : SD → Fl := sIf (mNot (mTest (mCall (dIsO (okC cs) (cs 0)) (mCons (mVar 1) (mCons (mC (.cls (cs 0))) (mNil)))))) ((m_Motion___eq___1 cs)) (sNil)
def m_Motion___eq___3 (cs : Nat → Addr) : SD → Fl := sRet (mOwn (mAndV (mOp dEq (mFld (fun C => C == cs 0) "kept_turn" (mVar 0)) (mFld (fun C => C == cs 0) "kept_turn" (mVar 1))) (mOp dEq (mFld (fun C => C == cs 0) "kept_shift" (mVar 0)) (mFld (fun C => C == cs 0) "kept_shift" (mVar 1)))))
def m_Motion___eq__ (cs : Nat → Addr) : List OT → ER OT := asDef 2 (
    sSeq ((m_Motion___eq___2 cs))
    ((m_Motion___eq___3 cs)))
def m_Motion___add___1 (cs : Nat → Addr) : SD → Fl := sNever
def m_Motion___add___2 (cs : Nat → Addr) : SD → Fl := sIf (mNot (mTest (mCall (dIsO (okC cs) (cs 0)) (mCons (mVar 1) (mCons (mC (.cls (cs 0))) (mNil)))))) ((m_Motion___add___1 cs)) (sNil)
def m_Motion___add___3 (cs : Nat → Addr) : SD → Fl := sAsg (mView (mCall0 (m_turned_point cs) (mCons (mFld (fun C => C == cs 0) "kept_shift" (mVar 1)) (mCons (mFld (fun C => C == cs 0) "kept_turn" (mVar 0)) (mNil))))) (tgT 2 (tgCons (tgN 2) (tgCons (tgN 3) (tgNil))))
def m_Motion___add___4 (cs : Nat → Addr) : SD → Fl := sRet (mMake (cs 0) (m_Motion___init__ cs) (mCons (mOp dMod (mOp dAdd (mFld (fun C => C == cs 0) "kept_turn" (mVar 0)) (mFld (fun C => C == cs 0) "kept_turn" (mVar 1))) (mC (.int 4))) (mCons (mOp dAdd (mOp dIx (mFld (fun C => C == cs 0) "kept_shift" (mVar 0)) (mC (.int 0))) (mVar 2)) (mCons (mOp dAdd (mOp dIx (mFld (fun C => C == cs 0) "kept_shift" (mVar 0)) (mC (.int 1))) (mVar 3)) (mNil)))))
def m_Motion___add__ (cs : Nat → Addr) : List OT → ER OT := asDef 4 (
    sSeq ((m_Motion___add___2 cs))
    (sSeq ((m_Motion___add___3 cs))
    ((m_Motion___add___4 cs))))
def m_Motion___neg___1 (cs : Nat → Addr) : SD → Fl := sAsg (mView (mCall0 (m_turned_point cs) (mCons (mFld (fun C => C == cs 0) "kept_shift" (mVar 0)) (mCons (mOp dSub (mC (.int 2)) (mFld (fun C => C == cs 0) "kept_turn" (mVar 0))) (mNil))))) (tgT 2 (tgCons (tgN 1) (tgCons (tgN 2) (tgNil))))
def m_Motion___neg___2 (cs : Nat → Addr) : SD → Fl := sRet (mMake (cs 0) (m_Motion___init__ cs) (mCons (mOp dMod (mUn dNeg (mFld (fun C => C == cs 0) "kept_turn" (mVar 0))) (mC (.int 4))) (mCons (mVar 1) (mCons (mVar 2) (mNil)))))
def m_Motion___neg__ (cs : Nat → Addr) : List OT → ER OT := asDef 3 (
    sSeq ((m_Motion___neg___1 cs))
    ((m_Motion___neg___2 cs)))
def m_Motion___mul___1 (cs : Nat → Addr) : SD → Fl := sNever
def m_Motion___mul___2 (cs : Nat → Addr) : SD → Fl := sIf (mNot (mTest (mView (mCall0 (m_in_range cs) (mCons (mVar 1) (mCons (mUn dNeg (mC (.int 1000000000000000000000000000000))) (mCons (mC (.int 1000000000000000000000000000000)) (mNil)))))))) ((m_Motion___mul___1 cs)) (sNil)
def m_Motion___mul___3 (cs : Nat → Addr) : SD → Fl := sAsg (mFld (fun C => C == cs 0) "kept_shift" (mVar 0)) (tgT 2 (tgCons (tgN 2) (tgCons (tgN 3) (tgNil))))
def m_Motion___mul___4 (cs : Nat → Addr) : SD → Fl := sRet (mMake (cs 0) (m_Motion___init__ cs) (mCons (mC (.int 0)) (mCons (mOp dMul (mVar 2) (mVar 1)) (mCons (mOp dMul (mVar 3) (mVar 1)) (mNil)))))
def m_Motion___mul___5 (cs : Nat → Addr) : SD → Fl := sIf (mTest (mOp dEq (mFld (fun C => C == cs 0) "kept_turn" (mVar 0)) (mC (.int 0)))) ((m_Motion___mul___4 cs)) (sNil)
def m_Motion___mul___6 (cs : Nat → Addr) : SD → Fl := sSet 4 (mFz (mMake (cs 0) (m_Motion___init__ cs) (mCons (mC (.int 0)) (mCons (mC (.int 0)) (mCons (mC (.int 0)) (mNil))))))
def m_Motion___mul___7 (cs : Nat → Addr) : SD → Fl := sSet 4 (mFz (mOwn2 (cSame (cs 0)) (m_Motion___add__ cs) (mVar 4) (mVar 0)))
def m_Motion___mul___b1 (cs : Nat → Addr) : SD → Fl := (m_Motion___mul___7 cs)
def m_Motion___mul___8 (cs : Nat → Addr) : SD → Fl := sFor (iRange1 (mCons (mOp dMod (mVar 1) (mC (.int 4))) (mNil))) (tgN 5) ((m_Motion___mul___b1 cs))
def m_Motion___mul___9 (cs : Nat → Addr) : SD → Fl := sRet (mOwn (mVar 4))
def m_Motion___mul__ (cs : Nat → Addr) : List OT → ER OT := asDef 6 (
    sSeq ((m_Motion___mul___2 cs))
    (sSeq ((m_Motion___mul___3 cs))
    (sSeq ((m_Motion___mul___5 cs))
    (sSeq ((m_Motion___mul___6 cs))
    (sSeq ((m_Motion___mul___8 cs))
    ((m_Motion___mul___9 cs)))))))
def m__law_power_right_1 (cs : Nat → Addr) : SD → Fl := sPar3 2 3 4 (mFz (mCall1 (m__law_start cs) (rSlot 0 (rNil)))) (mOwn (mC .non)) (mOwn (mC .non))
def m__law_power_right_2 (cs : Nat → Addr) : SD → Fl := sPar 3 4 (mOwn (mVar 2)) (mOwn (mVar 2))
def m__law_power_right_3 (cs : Nat → Addr) : SD → Fl := sSet 5 (mFz (mOwn1 (cs 0) (m_Motion___neg__ cs) (mVar 1)))
def m__law_power_right_4 (cs : Nat → Addr) : SD → Fl := sPar 3 4 (mFz (mCallIns (cs 0) (m_Motion___call__ cs) (mVar 1) (mCons (mVar 3) (mNil)))) (mFz (mCallIns (cs 0) (m_Motion___call__ cs) (mVar 5) (mCons (mVar 4) (mNil))))
def m__law_power_right_5 (cs : Nat → Addr) : SD → Fl := sRet (mOwn (mC (.bl false)))
def m__law_power_right_6 (cs : Nat → Addr) : SD → Fl := sIf (mOr (mTest (mOp dNe (mView (mCall0 (m__law_led cs) (mCons (mView (mOwn2 (cInt (cs 0)) (m_Motion___mul__ cs) (mVar 1) (mVar 6))) (mCons (mVar 2) (mNil))))) (mVar 3))) (mTest (mOp dNe (mView (mCall0 (m__law_led cs) (mCons (mView (mOwn2 (cInt (cs 0)) (m_Motion___mul__ cs) (mVar 1) (mOp dSub (mC (.int 0)) (mVar 6)))) (mCons (mVar 2) (mNil))))) (mVar 4)))) ((m__law_power_right_5 cs)) (sNil)
def m__law_power_right_b1 (cs : Nat → Addr) : SD → Fl := sSeq ((m__law_power_right_4 cs)) ((m__law_power_right_6 cs))
def m__law_power_right_7 (cs : Nat → Addr) : SD → Fl := sFor (iRange2 (mCons (mC (.int 1)) (mCons (mC (.int 9)) (mNil)))) (tgN 6) ((m__law_power_right_b1 cs))
def m__law_power_right_8 (cs : Nat → Addr) : SD → Fl := sSet 6 (mOwn (mOp dIx (mView (mLst (mCons (mView (mCall1 (m__law_dip cs) (rSlot 0 (rFz (mOp dPow (mC (.int 10)) (mC (.int 30))) (rNil))))) (mCons (mOp dPow (mC (.int 10)) (mC (.int 30))) (mCons (mOp dMul (mC (.int 4)) (mView (mCall1 (m__law_dip cs) (rSlot 0 (rFz (mOp dPow (mC (.int 10)) (mC (.int 29))) (rNil)))))) (mNil)))))) (mView (mCall1 (m__law_dip cs) (rSlot 0 (rFz (mC (.int 3)) (rNil)))))))
def m__law_power_right_9 (cs : Nat → Addr) : SD → Fl := sAsg (mVar 2) (tgT 3 (tgCons (tgN 7) (tgCons (tgN 8) (tgCons (tgN 9) (tgNil)))))
def m__law_power_right_10 (cs : Nat → Addr) : SD → Fl := sSet 10 (mFz (mCallIns (cs 0) (m_Motion___call__ cs) (mVar 1) (mCons (mTup (mCons (mC (.int 0)) (mCons (mC (.int 0)) (mCons (mVar 9) (mNil))))) (mNil))))
def m__law_power_right_11 (cs : Nat → Addr) : SD → Fl := sSet 11 (mOwn (mTup (mCons (mOp dAdd (mVar 7) (mOp dMul (mVar 6) (mOp dIx (mVar 10) (mC (.int 0))))) (mCons (mOp dAdd (mVar 8) (mOp dMul (mVar 6) (mOp dIx (mVar 10) (mC (.int 1))))) (mCons (mVar 9) (mNil))))))
def m__law_power_right_12 (cs : Nat → Addr) : SD → Fl := sSet 11 (mFz (mCall0 (m__law_led cs) (mCons (mView (mOwn2 (cInt (cs 0)) (m_Motion___mul__ cs) (mVar 1) (mOp dMod (mVar 6) (mC (.int 4))))) (mCons (mVar 2) (mNil)))))
def m__law_power_right_13 (cs : Nat → Addr) : SD → Fl := sIf (mTest (mOp dEq (mView (mProp (cs 0) (m_Motion_turn cs) (mVar 1))) (mC (.int 0)))) (sSeq ((m__law_power_right_10 cs)) ((m__law_power_right_11 cs))) ((m__law_power_right_12 cs))
def m__law_power_right_14 (cs : Nat → Addr) : SD → Fl := sRet (mOwn (mC (.bl false)))
def m__law_power_right_15 (cs : Nat → Addr) : SD → Fl := sIf (mOr (mTest (mOp dNe (mView (mCall0 (m__law_led cs) (mCons (mView (mOwn2 (cInt (cs 0)) (m_Motion___mul__ cs) (mVar 1) (mVar 6))) (mCons (mVar 2) (mNil))))) (mVar 11))) (mTest (mB2 (okC cs) (cs 0) (m_Motion___eq__ cs) true (mView (mOwn2 (cSame (cs 0)) (m_Motion___add__ cs) (mView (mOwn2 (cInt (cs 0)) (m_Motion___mul__ cs) (mVar 1) (mVar 6))) (mView (mOwn2 (cInt (cs 0)) (m_Motion___mul__ cs) (mVar 1) (mOp dSub (mC (.int 0)) (mVar 6)))))) (mView (mMake (cs 0) (m_Motion___init__ cs) (mCons (mC (.int 0)) (mCons (mC (.int 0)) (mCons (mC (.int 0)) (mNil))))))))) ((m__law_power_right_14 cs)) (sNil)
def m__law_power_right_16 (cs : Nat → Addr) : SD → Fl := sRet (mOwn (mAndV (mB2 (okC cs) (cs 0) (m_Motion___eq__ cs) false (mView (mOwn2 (cInt (cs 0)) (m_Motion___mul__ cs) (mVar 1) (mC (.int 0)))) (mView (mMake (cs 0) (m_Motion___init__ cs) (mCons (mC (.int 0)) (mCons (mC (.int 0)) (mCons (mC (.int 0)) (mNil))))))) (mAndV (mB2 (okC cs) (cs 0) (m_Motion___eq__ cs) false (mView (mOwn2 (cInt (cs 0)) (m_Motion___mul__ cs) (mVar 1) (mC (.int 1)))) (mVar 1)) (mB2 (okC cs) (cs 0) (m_Motion___eq__ cs) false (mView (mOwn2 (cInt (cs 0)) (m_Motion___mul__ cs) (mVar 1) (mUn dNeg (mC (.int 1))))) (mView (mOwn1 (cs 0) (m_Motion___neg__ cs) (mVar 1)))))))
def m__law_power_right (cs : Nat → Addr) : List OT → ER OT := asDef 12 (
    sSeq ((m__law_power_right_1 cs))
    (sSeq ((m__law_power_right_2 cs))
    (sSeq ((m__law_power_right_3 cs))
    (sSeq ((m__law_power_right_7 cs))
    (sSeq ((m__law_power_right_8 cs))
    (sSeq ((m__law_power_right_9 cs))
    (sSeq ((m__law_power_right_13 cs))
    (sSeq ((m__law_power_right_15 cs))
    ((m__law_power_right_16 cs))))))))))
def m__law_order_right_1 (cs : Nat → Addr) : SD → Fl := sPar 1 2 (mOwn (mC .non)) (mFz (mMake (cs 0) (m_Motion___init__ cs) (mCons (mC (.int 0)) (mCons (mC (.int 0)) (mCons (mC (.int 0)) (mNil))))))
def m__law_order_right_2 (cs : Nat → Addr) : SD → Fl := sSet 2 (mFz (mOwn2 (cSame (cs 0)) (m_Motion___add__ cs) (mVar 2) (mVar 0)))
def m__law_order_right_3 (cs : Nat → Addr) : SD → Fl := sSet 1 (mOwn (mVar 3))
def m__law_order_right_4 (cs : Nat → Addr) : SD → Fl := sIf (mAnd (mTest (mB2 (okC cs) (cs 0) (m_Motion___eq__ cs) false (mVar 2) (mView (mMake (cs 0) (m_Motion___init__ cs) (mCons (mC (.int 0)) (mCons (mC (.int 0)) (mCons (mC (.int 0)) (mNil)))))))) (mTest (mOp dIsN (mVar 1) (mC .non)))) ((m__law_order_right_3 cs)) (sNil)
def m__law_order_right_b1 (cs : Nat → Addr) : SD → Fl := sSeq ((m__law_order_right_2 cs)) ((m__law_order_right_4 cs))
def m__law_order_right_5 (cs : Nat → Addr) : SD → Fl := sFor (iRange2 (mCons (mC (.int 1)) (mCons (mC (.int 5)) (mNil)))) (tgN 3) ((m__law_order_right_b1 cs))
def m__law_order_right_6 (cs : Nat → Addr) : SD → Fl := sRet (mOwn (mOp dEq (mCall dRepr (mCons (mView (mMeth (cs 0) "order" (m_Motion_order cs) (mVar 0) (mNil))) (mNil))) (mCall dRepr (mCons (mVar 1) (mNil)))))
def m__law_order_right (cs : Nat → Addr) : List OT → ER OT := asDef 4 (
    sSeq ((m__law_order_right_1 cs))
    (sSeq ((m__law_order_right_5 cs))
    ((m__law_order_right_6 cs))))
def m_law_1 (cs : Nat → Addr) : SD → Fl := sSet 2 (mCall0 (m__law_tank cs) (mCons (mVar 0) (mCons (mVar 1) (mNil))))
def m_law_2 (cs : Nat → Addr) : SD → Fl := sPar 4 5 (mFz (mCall1 (m__law_start cs) (rSlot 2 (rNil)))) (mFz (mCall1 (m__law_start cs) (rSlot 2 (rNil))))
def m_law_3 (cs : Nat → Addr) : SD → Fl := sSet 4 (mOwn (mTup (mCons (mC (.int 0)) (mCons (mC (.int 0)) (mCons (mOp dIx (mVar 4) (mC (.int 2))) (mNil))))))
def m_law_4 (cs : Nat → Addr) : SD → Fl := sIf (mTest (mOp dEq (mVar 3) (mC (.int 2)))) ((m_law_3 cs)) (sNil)
def m_law_5 (cs : Nat → Addr) : SD → Fl := sAsg (mTup (mCons (mView (mMake (cs 0) (m_Motion___init__ cs) (mCons (mOp dIx (mVar 4) (mC (.int 2))) (mCons (mOp dIx (mVar 4) (mC (.int 0))) (mCons (mOp dIx (mVar 4) (mC (.int 1))) (mNil)))))) (mCons (mView (mMake (cs 0) (m_Motion___init__ cs) (mCons (mOp dIx (mVar 5) (mC (.int 2))) (mCons (mOp dIx (mVar 5) (mC (.int 0))) (mCons (mOp dIx (mVar 5) (mC (.int 1))) (mNil)))))) (mNil)))) (tgT 2 (tgCons (tgN 6) (tgCons (tgN 7) (tgNil))))
def m_law_6 (cs : Nat → Addr) : SD → Fl := sSet 8 (mFz (mCall1 (m__law_start cs) (rSlot 2 (rNil))))
def m_law_7 (cs : Nat → Addr) : SD → Fl := sRet (mOwn (mC (.bl false)))
def m_law_8 (cs : Nat → Addr) : SD → Fl := sIf (mTest (mOp dNe (mCall dRepr (mCons (mView (mLst (mCons (mView (mProp (cs 0) (m_Motion_turn cs) (mVar 6))) (mCons (mView (mProp (cs 0) (m_Motion_shift cs) (mVar 6))) (mNil))))) (mNil))) (mCall dRepr (mCons (mView (mLst (mCons (mOp dIx (mVar 4) (mC (.int 2))) (mCons (mCutX (mVar 4) (oNone) (oSome (mC (.int 2)))) (mNil))))) (mNil))))) ((m_law_7 cs)) (sNil)
def m_law_9 (cs : Nat → Addr) : SD → Fl := sSet 9 (mFz (mCall0 (m__law_moved cs) (mCons (mView (mProp (cs 0) (m_Motion_turn cs) (mVar 6))) (mCons (mView (mProp (cs 0) (m_Motion_shift cs) (mVar 6))) (mCons (mVar 8) (mNil))))))
def m_law_10 (cs : Nat → Addr) : SD → Fl := sRet (mOwn (mC (.bl false)))
def m_law_11 (cs : Nat → Addr) : SD → Fl := sIf (mOr (mTest (mOp dNe (mCall dRepr (mCons (mView (mCallIns (cs 0) (m_Motion___call__ cs) (mVar 6) (mCons (mVar 8) (mNil)))) (mNil))) (mCall dRepr (mCons (mVar 9) (mNil))))) (mTest (mOp dNe (mCall dRepr (mCons (mView (mCall0 (m__law_led cs) (mCons (mView (mOwn2 (cSame (cs 0)) (m_Motion___add__ cs) (mVar 6) (mVar 7))) (mCons (mVar 8) (mNil))))) (mNil))) (mCall dRepr (mCons (mView (mCallIns (cs 0) (m_Motion___call__ cs) (mVar 7) (mCons (mVar 9) (mNil)))) (mNil)))))) ((m_law_10 cs)) (sNil)
def m_law_12 (cs : Nat → Addr) : SD → Fl := sSet 10 (mOwn (mOp dEq (mView (mCall0 (m__law_led cs) (mCons (mView (mOwn2 (cSame (cs 0)) (m_Motion___add__ cs) (mVar 6) (mVar 7))) (mCons (mTup (mCons (mC (.int 0)) (mCons (mC (.int 0)) (mCons (mC (.int 0)) (mNil))))) (mNil))))) (mView (mCall0 (m__law_led cs) (mCons (mView (mOwn2 (cSame (cs 0)) (m_Motion___add__ cs) (mVar 7) (mVar 6))) (mCons (mTup (mCons (mC (.int 0)) (mCons (mC (.int 0)) (mCons (mC (.int 0)) (mNil))))) (mNil)))))))
def m_law_13 (cs : Nat → Addr) : SD → Fl := sRet (mOwn (mC (.bl false)))
def m_law_14 (cs : Nat → Addr) : SD → Fl := sIf (mTest (mOp dNe (mB2 (okC cs) (cs 0) (m_Motion___eq__ cs) false (mView (mOwn2 (cSame (cs 0)) (m_Motion___add__ cs) (mVar 6) (mVar 7))) (mView (mOwn2 (cSame (cs 0)) (m_Motion___add__ cs) (mVar 7) (mVar 6)))) (mVar 10))) ((m_law_13 cs)) (sNil)
def m_law_15 (cs : Nat → Addr) : SD → Fl := sRet (mOwn (mC (.bl false)))
def m_law_16 (cs : Nat → Addr) : SD → Fl := sIf (mOr (mNot (mTest (mView (mCall1 (m__law_power_right cs) (rSlot 2 (rFz (mVar 6) (rNil))))))) (mNot (mTest (mView (mCall0 (m__law_order_right cs) (mCons (mVar 6) (mNil))))))) ((m_law_15 cs)) (sNil)
def m_law_17 (cs : Nat → Addr) : SD → Fl := sRet (mOwn (mC (.bl false)))
def m_law_18 (cs : Nat → Addr) : SD → Fl := sIf (mOr (mTest (mOp dNe (mB2 (okC cs) (cs 0) (m_Motion___eq__ cs) false (mVar 6) (mVar 7)) (mOp dEq (mVar 4) (mVar 5)))) (mTest (mB2 (okC cs) (cs 0) (m_Motion___eq__ cs) true (mVar 6) (mView (mMake (cs 0) (m_Motion___init__ cs) (mCons (mOp dIx (mVar 4) (mC (.int 2))) (mCons (mOp dIx (mVar 4) (mC (.int 0))) (mCons (mOp dIx (mVar 4) (mC (.int 1))) (mNil))))))))) ((m_law_17 cs)) (sNil)
def m_law_19 (cs : Nat → Addr) : SD → Fl := sAsg (mVar 4) (tgT 3 (tgCons (tgN 11) (tgCons (tgN 12) (tgCons (tgN 13) (tgNil)))))
def m_law_20 (cs : Nat → Addr) : SD → Fl := sSet 14 (mFz (mLst (mCons (mTup (mCons (mOp dAdd (mVar 11) (mC (.int 1))) (mCons (mVar 12) (mCons (mVar 13) (mNil))))) (mCons (mTup (mCons (mVar 11) (mCons (mOp dSub (mVar 12) (mC (.int 1))) (mCons (mVar 13) (mNil))))) (mCons (mTup (mCons (mVar 11) (mCons (mVar 12) (mCons (mOp dMod (mOp dAdd (mVar 13) (mC (.int 1))) (mC (.int 4))) (mNil))))) (mCons (mTup (mCons (mVar 11) (mCons (mVar 12) (mCons (mOp dMod (mOp dAdd (mVar 13) (mC (.int 2))) (mC (.int 4))) (mNil))))) (mNil)))))))
def m_law_21 (cs : Nat → Addr) : SD → Fl := sRet (mOwn (mC (.bl false)))
def m_law_22 (cs : Nat → Addr) : SD → Fl := sIf (mTest (mOp dNe (mB2 (okC cs) (cs 0) (m_Motion___eq__ cs) false (mVar 6) (mView (mMake (cs 0) (m_Motion___init__ cs) (mCons (mVar 17) (mCons (mVar 15) (mCons (mVar 16) (mNil))))))) (mOp dEq (mTup (mCons (mVar 15) (mCons (mVar 16) (mCons (mVar 17) (mNil))))) (mVar 4)))) ((m_law_21 cs)) (sNil)
def m_law_b1 (cs : Nat → Addr) : SD → Fl := (m_law_22 cs)
def m_law_23 (cs : Nat → Addr) : SD → Fl := sFor (iLst (mView (mCat (qFz (mVar 14)) (qNew (mLst (mCons (mTup (mCons (mVar 12) (mCons (mVar 11) (mCons (mVar 13) (mNil))))) (mCons (mTup (mCons (mOp dSub (mC (.int 0)) (mVar 11)) (mCons (mVar 12) (mCons (mVar 13) (mNil))))) (mCons (mTup (mCons (mVar 11) (mCons (mOp dSub (mC (.int 0)) (mVar 12)) (mCons (mVar 13) (mNil))))) (mNil))))))))) (tgT 3 (tgCons (tgN 15) (tgCons (tgN 16) (tgCons (tgN 17) (tgNil))))) ((m_law_b1 cs))
def m_law_24 (cs : Nat → Addr) : SD → Fl := sRet (mOwn (mC (.bl false)))
def m_law_25 (cs : Nat → Addr) : SD → Fl := sIf (mOr (mTest (mB2 (okC cs) (cs 0) (m_Motion___eq__ cs) true (mView (mOwn2 (cSame (cs 0)) (m_Motion___add__ cs) (mVar 6) (mView (mOwn1 (cs 0) (m_Motion___neg__ cs) (mVar 6))))) (mView (mMake (cs 0) (m_Motion___init__ cs) (mCons (mC (.int 0)) (mCons (mC (.int 0)) (mCons (mC (.int 0)) (mNil)))))))) (mTest (mB2 (okC cs) (cs 0) (m_Motion___eq__ cs) true (mView (mOwn2 (cSame (cs 0)) (m_Motion___add__ cs) (mView (mOwn1 (cs 0) (m_Motion___neg__ cs) (mVar 6))) (mVar 6))) (mView (mMake (cs 0) (m_Motion___init__ cs) (mCons (mC (.int 0)) (mCons (mC (.int 0)) (mCons (mC (.int 0)) (mNil))))))))) ((m_law_24 cs)) (sNil)
def m_law_c1 (cs : Nat → Addr) : SD → ER OT := mComp (iLst (mView (mLst (mCons (mC .non) (mCons (mVar 4) (mCons (mView (mProp (cs 0) (m_Motion_shift cs) (mVar 6))) (mCons (mC (.int 0)) (mCons (mC (.str "")) (mCons (mView (mProp (cs 0) (m_Motion_turn cs) (mVar 6))) (mCons (mView (mLst (mCons (mVar 6) (mNil)))) (mNil))))))))))) (tgN 18) (mTest (mB2 (okC cs) (cs 0) (m_Motion___eq__ cs) false (mVar 6) (mVar 18))) (mVar 18) [18]
def m_law_26 (cs : Nat → Addr) : SD → Fl := sRet (mOwn (mC (.bl false)))
def m_law_27 (cs : Nat → Addr) : SD → Fl := sIf (mTest (mOp dNe (mView ((m_law_c1 cs))) (mView (mLst (mNil))))) ((m_law_26 cs)) (sNil)
def m_law_b2 (cs : Nat → Addr) : SD → Fl := sSeq ((m_law_2 cs)) (sSeq ((m_law_4 cs)) (sSeq ((m_law_5 cs)) (sSeq ((m_law_6 cs)) (sSeq ((m_law_8 cs)) (sSeq ((m_law_9 cs)) (sSeq ((m_law_11 cs)) (sSeq ((m_law_12 cs)) (sSeq ((m_law_14 cs)) (sSeq ((m_law_16 cs)) (sSeq ((m_law_18 cs)) (sSeq ((m_law_19 cs)) (sSeq ((m_law_20 cs)) (sSeq ((m_law_23 cs)) (sSeq ((m_law_25 cs)) ((m_law_27 cs))))))))))))))))
def m_law_28 (cs : Nat → Addr) : SD → Fl := sFor (iRange1 (mCons (mC (.int 3)) (mNil))) (tgN 3) ((m_law_b2 cs))
def m_law_b3 (cs : Nat → Addr) : SD → Fl := sSeq ((m_law_1 cs)) ((m_law_28 cs))
def m_law_29 (cs : Nat → Addr) : SD → Fl := sFor (iRange1 (mCons (mCall dMax (mCons (mC (.int 1)) (mCons (mCall dMin (mCons (mC (.int 8)) (mCons (mCall dLen (mCons (mVar 0) (mNil))) (mNil)))) (mNil)))) (mNil))) (tgN 1) ((m_law_b3 cs))
def m_law_30 (cs : Nat → Addr) : SD → Fl := sRet (mOwn (mAndV (mOp dEq (mView (mCall0 (m__law_led cs) (mCons (mView (mMake (cs 0) (m_Motion___init__ cs) (mCons (mC (.int 1)) (mCons (mC (.int 1)) (mCons (mC (.int 0)) (mNil)))))) (mCons (mTup (mCons (mC (.int 0)) (mCons (mC (.int 0)) (mCons (mC (.int 3)) (mNil))))) (mNil))))) (mTup (mCons (mC (.int 0)) (mCons (mUn dNeg (mC (.int 1))) (mCons (mC (.int 0)) (mNil)))))) (mOp dEq (mView (mMeth (cs 0) "order" (m_Motion_order cs) (mView (mMake (cs 0) (m_Motion___init__ cs) (mCons (mC (.int 2)) (mCons (mC (.int 0)) (mCons (mC (.int 0)) (mNil)))))) (mNil))) (mC (.int 2)))))
def m_law (cs : Nat → Addr) : List OT → ER OT := asDef 19 (
    sSeq ((m_law_29 cs))
    ((m_law_30 cs)))
def top (i : Nat) : Stmt := PySem.Challenge.pw_plotpens_k13_motions_put_together.main.body.getD i (.Pass ⟨0, 0, 0, 0⟩)
abbrev s__law_tank : Stmt := top 16
abbrev sc__law_tank_N : List Str := ["script", "k", "cell"]
theorem sc__law_tank : FnScope ["script", "k", "cell"] ["script", "k"] (defScope s__law_tank) := ⟨rfl, rfl, rfl, by decide +kernel, rfl, by decide +kernel, by decide +kernel⟩
abbrev s__law_dip : Stmt := top 17
abbrev sc__law_dip_N : List Str := ["tank", "bound", "found", "mixed"]
theorem sc__law_dip : FnScope ["tank", "bound", "found", "mixed"] ["tank", "bound"] (defScope s__law_dip) := ⟨rfl, rfl, rfl, by decide +kernel, rfl, by decide +kernel, by decide +kernel⟩
abbrev s__law_start : Stmt := top 18
abbrev sc__law_start_N : List Str := ["tank", "far_off", "x", "y", "wide"]
theorem sc__law_start : FnScope ["tank", "far_off", "x", "y", "wide"] ["tank"] (defScope s__law_start) := ⟨rfl, rfl, rfl, by decide +kernel, rfl, by decide +kernel, by decide +kernel⟩
abbrev s__law_moved : Stmt := top 19
abbrev sc__law_moved_N : List Str := ["turn_here", "shift_here", "pose_here", "x", "y", "heading", "dx", "dy", "quarter"]
theorem sc__law_moved : FnScope ["turn_here", "shift_here", "pose_here", "x", "y", "heading", "dx", "dy", "quarter"] ["turn_here", "shift_here", "pose_here"] (defScope s__law_moved) := ⟨rfl, rfl, rfl, by decide +kernel, rfl, by decide +kernel, by decide +kernel⟩
abbrev s_is_int : Stmt := top 6
abbrev sc_is_int_N : List Str := ["value"]
theorem sc_is_int : FnScope ["value"] ["value"] (defScope s_is_int) := ⟨rfl, rfl, rfl, by decide +kernel, rfl, by decide +kernel, by decide +kernel⟩
abbrev s_is_point : Stmt := top 10
abbrev sc_is_point_N : List Str := ["value", "number"]
theorem sc_is_point : FnScope ["value", "number"] ["value"] (defScope s_is_point) := ⟨rfl, rfl, rfl, by decide +kernel, rfl, by decide +kernel, by decide +kernel⟩
abbrev s_in_range : Stmt := top 7
abbrev sc_in_range_N : List Str := ["value", "low", "high"]
theorem sc_in_range : FnScope ["value", "low", "high"] ["value", "low", "high"] (defScope s_in_range) := ⟨rfl, rfl, rfl, by decide +kernel, rfl, by decide +kernel, by decide +kernel⟩
abbrev s_is_pose : Stmt := top 11
abbrev sc_is_pose_N : List Str := ["value"]
theorem sc_is_pose : FnScope ["value"] ["value"] (defScope s_is_pose) := ⟨rfl, rfl, rfl, by decide +kernel, rfl, by decide +kernel, by decide +kernel⟩
abbrev s_require_pose : Stmt := top 12
abbrev sc_require_pose_N : List Str := ["value"]
theorem sc_require_pose : FnScope ["value"] ["value"] (defScope s_require_pose) := ⟨rfl, rfl, rfl, by decide +kernel, rfl, by decide +kernel, by decide +kernel⟩
abbrev s_turned_point : Stmt := top 13
abbrev sc_turned_point_N : List Str := ["point", "quarters", "x", "y", "turn"]
theorem sc_turned_point : FnScope ["point", "quarters", "x", "y", "turn"] ["point", "quarters"] (defScope s_turned_point) := ⟨rfl, rfl, rfl, by decide +kernel, rfl, by decide +kernel, by decide +kernel⟩
abbrev s_Motion___call__ : Stmt := inClass (top 14) 3
abbrev sc_Motion___call___N : List Str := ["self", "pose", "x", "y", "heading", "dx", "dy"]
theorem sc_Motion___call__ : FnScope ["self", "pose", "x", "y", "heading", "dx", "dy"] ["self", "pose"] (defScope s_Motion___call__) := ⟨rfl, rfl, rfl, by decide +kernel, rfl, by decide +kernel, by decide +kernel⟩
abbrev s__law_led : Stmt := top 20
abbrev sc__law_led_N : List Str := ["motion_here", "pose_here"]
theorem sc__law_led : FnScope ["motion_here", "pose_here"] ["motion_here", "pose_here"] (defScope s__law_led) := ⟨rfl, rfl, rfl, by decide +kernel, rfl, by decide +kernel, by decide +kernel⟩
abbrev s_Motion_order : Stmt := inClass (top 14) 8
abbrev sc_Motion_order_N : List Str := ["self"]
theorem sc_Motion_order : FnScope ["self"] ["self"] (defScope s_Motion_order) := ⟨rfl, rfl, rfl, by decide +kernel, rfl, by decide +kernel, by decide +kernel⟩
abbrev s_Motion___init__ : Stmt := inClass (top 14) 0
abbrev sc_Motion___init___N : List Str := ["self", "turn", "dx", "dy"]
theorem sc_Motion___init__ : FnScope ["self", "turn", "dx", "dy"] ["self", "turn", "dx", "dy"] (defScope s_Motion___init__) := ⟨rfl, rfl, rfl, by decide +kernel, rfl, by decide +kernel, by decide +kernel⟩
abbrev s_Motion_turn : Stmt := inClass (top 14) 1
abbrev sc_Motion_turn_N : List Str := ["self"]
theorem sc_Motion_turn : FnScope ["self"] ["self"] (defScope s_Motion_turn) := ⟨rfl, rfl, rfl, by decide +kernel, rfl, by decide +kernel, by decide +kernel⟩
abbrev s_Motion_shift : Stmt := inClass (top 14) 2
abbrev sc_Motion_shift_N : List Str := ["self"]
theorem sc_Motion_shift : FnScope ["self"] ["self"] (defScope s_Motion_shift) := ⟨rfl, rfl, rfl, by decide +kernel, rfl, by decide +kernel, by decide +kernel⟩
abbrev s_Motion___eq__ : Stmt := inClass (top 14) 7
abbrev sc_Motion___eq___N : List Str := ["self", "other"]
theorem sc_Motion___eq__ : FnScope ["self", "other"] ["self", "other"] (defScope s_Motion___eq__) := ⟨rfl, rfl, rfl, by decide +kernel, rfl, by decide +kernel, by decide +kernel⟩
abbrev s_Motion___add__ : Stmt := inClass (top 14) 4
abbrev sc_Motion___add___N : List Str := ["self", "other", "dx", "dy"]
theorem sc_Motion___add__ : FnScope ["self", "other", "dx", "dy"] ["self", "other"] (defScope s_Motion___add__) := ⟨rfl, rfl, rfl, by decide +kernel, rfl, by decide +kernel, by decide +kernel⟩
abbrev s_Motion___neg__ : Stmt := inClass (top 14) 6
abbrev sc_Motion___neg___N : List Str := ["self", "dx", "dy"]
theorem sc_Motion___neg__ : FnScope ["self", "dx", "dy"] ["self"] (defScope s_Motion___neg__) := ⟨rfl, rfl, rfl, by decide +kernel, rfl, by decide +kernel, by decide +kernel⟩
abbrev s_Motion___mul__ : Stmt := inClass (top 14) 5
abbrev sc_Motion___mul___N : List Str := ["self", "times", "dx", "dy", "found", "turn"]
theorem sc_Motion___mul__ : FnScope ["self", "times", "dx", "dy", "found", "turn"] ["self", "times"] (defScope s_Motion___mul__) := ⟨rfl, rfl, rfl, by decide +kernel, rfl, by decide +kernel, by decide +kernel⟩
abbrev s__law_power_right : Stmt := top 21
abbrev sc__law_power_right_N : List Str := ["tank", "one", "pose_here", "here", "back", "other", "many", "x", "y", "heading", "step", "due"]
theorem sc__law_power_right : FnScope ["tank", "one", "pose_here", "here", "back", "other", "many", "x", "y", "heading", "step", "due"] ["tank", "one"] (defScope s__law_power_right) := ⟨rfl, rfl, rfl, by decide +kernel, rfl, by decide +kernel, by decide +kernel⟩
abbrev s__law_order_right : Stmt := top 22
abbrev sc__law_order_right_N : List Str := ["one", "due", "here", "many"]
theorem sc__law_order_right : FnScope ["one", "due", "here", "many"] ["one"] (defScope s__law_order_right) := ⟨rfl, rfl, rfl, by decide +kernel, rfl, by decide +kernel, by decide +kernel⟩
abbrev s_law : Stmt := top 23
abbrev sc_law_N : List Str := ["script", "k", "tank", "again", "first", "second", "one", "two", "pose_here", "due", "alike", "x", "y", "heading", "near", "p", "q", "quarters", "value"]
theorem sc_law : FnScope ["script", "k", "tank", "again", "first", "second", "one", "two", "pose_here", "due", "alike", "x", "y", "heading", "near", "p", "q", "quarters", "value"] ["script"] (defScope s_law) := ⟨rfl, rfl, rfl, by decide +kernel, rfl, by decide +kernel, by decide +kernel⟩
/-- what the top has written -/
structure Tx (K : PySem.W.Frag) (mg : Str → Option Value) (ad : Nat → Addr) (fs : Nat → FuncData) (cs : Nat → Addr) : Prop where
  f__law_tank : Fd K mg "_law_tank" s__law_tank (ad 0) (fs 0) ["script", "k"]
  f__law_dip : Fd K mg "_law_dip" s__law_dip (ad 1) (fs 1) ["tank", "bound"]
  f__law_start : Fd K mg "_law_start" s__law_start (ad 2) (fs 2) ["tank"]
  f__law_moved : Fd K mg "_law_moved" s__law_moved (ad 3) (fs 3) ["turn_here", "shift_here", "pose_here"]
  f_is_int : Fd K mg "is_int" s_is_int (ad 4) (fs 4) ["value"]
  f_is_point : Fd K mg "is_point" s_is_point (ad 5) (fs 5) ["value"]
  f_in_range : Fd K mg "in_range" s_in_range (ad 6) (fs 6) ["value", "low", "high"]
  f_is_pose : Fd K mg "is_pose" s_is_pose (ad 7) (fs 7) ["value"]
  f_require_pose : Fd K mg "require_pose" s_require_pose (ad 8) (fs 8) ["value"]
  f_turned_point : Fd K mg "turned_point" s_turned_point (ad 9) (fs 9) ["point", "quarters"]
  f_Motion___call__ : Fm K "__call__" "Motion.__call__" s_Motion___call__ (ad 10) (fs 10) ["self", "pose"]
  f__law_led : Fd K mg "_law_led" s__law_led (ad 11) (fs 11) ["motion_here", "pose_here"]
  f_Motion_order : Fm K "order" "Motion.order" s_Motion_order (ad 12) (fs 12) ["self"]
  f_Motion___init__ : Fm K "__init__" "Motion.__init__" s_Motion___init__ (ad 13) (fs 13) ["self", "turn", "dx", "dy"]
  f_Motion_turn : Fm K "turn" "Motion.turn" s_Motion_turn (ad 14) (fs 14) ["self"]
  f_Motion_shift : Fm K "shift" "Motion.shift" s_Motion_shift (ad 15) (fs 15) ["self"]
  f_Motion___eq__ : Fm K "__eq__" "Motion.__eq__" s_Motion___eq__ (ad 16) (fs 16) ["self", "other"]
  f_Motion___add__ : Fm K "__add__" "Motion.__add__" s_Motion___add__ (ad 17) (fs 17) ["self", "other"]
  f_Motion___neg__ : Fm K "__neg__" "Motion.__neg__" s_Motion___neg__ (ad 18) (fs 18) ["self"]
  f_Motion___mul__ : Fm K "__mul__" "Motion.__mul__" s_Motion___mul__ (ad 19) (fs 19) ["self", "times"]
  f__law_power_right : Fd K mg "_law_power_right" s__law_power_right (ad 20) (fs 20) ["tank", "one"]
  f__law_order_right : Fd K mg "_law_order_right" s__law_order_right (ad 21) (fs 21) ["one"]
  f_law : Fd K mg "law" s_law (ad 22) (fs 22) ["script"]
  z_all : mg "all" = none
  z_bool : mg "bool" = none
  z_int : mg "int" = none
  z_isinstance : mg "isinstance" = none
  z_len : mg "len" = none
  z_max : mg "max" = none
  z_min : mg "min" = none
  z_range : mg "range" = none
  z_repr : mg "repr" = none
  z_tuple : mg "tuple" = none
  v_MOST_TIMES : ∃ u, mg "MOST_TIMES" = some u ∧ RelV (.int 1000000000000000000000000000000) u
  g_Motion : mg "Motion" = some (.ref (cs 0))
  c_Motion : CF K (cs 0)
  m_Motion : Mk K (cs 0) (ad 13)
  n_Motion_kept_shift : NoAttr K (cs 0) "kept_shift"
  n_Motion_kept_turn : NoAttr K (cs 0) "kept_turn"
  a_Motion___call__ : PySem.W.findIn K (.ref (cs 0)) "__call__" = some (some (.ref (ad 10)))
  i_Motion___call__ : PySem.W.isFn K (.ref (ad 10)) = true
  a_Motion_order : PySem.W.findIn K (.ref (cs 0)) "order" = some (some (.ref (ad 12)))
  i_Motion_order : PySem.W.isFn K (.ref (ad 12)) = true
  a_Motion___init__ : PySem.W.findIn K (.ref (cs 0)) "__init__" = some (some (.ref (ad 13)))
  i_Motion___init__ : PySem.W.isFn K (.ref (ad 13)) = true
  p_Motion_turn : ∃ pa, PropOf K (cs 0) "turn" pa (ad 14)
  p_Motion_shift : ∃ pa, PropOf K (cs 0) "shift" pa (ad 15)
  a_Motion___eq__ : PySem.W.findIn K (.ref (cs 0)) "__eq__" = some (some (.ref (ad 16)))
  i_Motion___eq__ : PySem.W.isFn K (.ref (ad 16)) = true
  a_Motion___add__ : PySem.W.findIn K (.ref (cs 0)) "__add__" = some (some (.ref (ad 17)))
  i_Motion___add__ : PySem.W.isFn K (.ref (ad 17)) = true
  a_Motion___neg__ : PySem.W.findIn K (.ref (cs 0)) "__neg__" = some (some (.ref (ad 18)))
  i_Motion___neg__ : PySem.W.isFn K (.ref (ad 18)) = true
  a_Motion___mul__ : PySem.W.findIn K (.ref (cs 0)) "__mul__" = some (some (.ref (ad 19)))
  i_Motion___mul__ : PySem.W.isFn K (.ref (ad 19)) = true
  sf_Motion___add__ : PySem.W.selfFirst K (cs 0) = true
  s_Motion___add__ : BinS K (cs 0) (ad 17) (Operator.Add).info.2
  sf_Motion___mul__ : PySem.W.selfFirst K (cs 0) = true
  s_Motion___mul__ : BinS K (cs 0) (ad 19) (Operator.Mult).info.2
  t_Motion___mul__ : ∃ rc fo ro, BinI K (cs 0) (ad 19) (Operator.Mult).info.2 rc fo ro
  is_Motion : IsF K (okC cs) (cs 0)
  e_Motion : EqF K (okC cs) (cs 0) (ad 16)
  o_Motion : StX.CallO K (cs 0) (ad 10)
theorem Tx.cf {K : PySem.W.Frag} {mg : Str → Option Value} {ad : Nat → Addr} {fs : Nat → FuncData} {cs : Nat → Addr} (T : Tx K mg ad fs cs) : ∀ C, okC cs C = true → CF K C := fun C h => by
  simp only [okC, Bool.or_eq_true, beq_iff_eq] at h
  rcases h with rfl
  exact T.c_Motion
section
variable {P : Program} {w : World} {K : PySem.W.Frag} {mg : Str → Option Value} {base : Heap} {ad : Nat → Addr} {fs : Nat → FuncData} {cs : Nat → Addr}
theorem k__law_tank_ (T : Tx K mg ad fs cs) : FnG P w K mg base (L2.CX P w) 1 (ad 0) (fs 0) ["script", "k"] (spD K 2 (m__law_tank cs)) := by
  refine fn_mirror (N := sc__law_tank_N) T.f__law_tank.F sc__law_tank fun X pvs W cdv A outer s H E hX tk hr => ?_
  subst hX
  have hu := hr.units
  exact (dss_cons (ds_set (i := 2) sc__law_tank.nd rfl (by first | exact Or.inl rfl | exact Or.inr rfl) (DX.own dx_int))
    (dss_cons (ds_if (dt_cmp op_ltX f_lt (dx_var (pv 1)) (dx_callB call_len f_len (by rfl) T.z_len bo_len (da_cons (dx_var (pv 0)) da_nil)) (nomark _)) (dss_one (ds_set (i := 2) sc__law_tank.nd rfl (by first | exact Or.inl rfl | exact Or.inr rfl) (DX.own (dx_ix (dx_var (pv 0)) (dx_var (pv 1)))))) dss_nil)
    (dss_one (ds_ret (do_lst (da_cons (dx_callB (call_maxX rfl) f_max (by rfl) T.z_max bo_max (da_cons dx_int (da_cons (dx_op2 op_sub f_sub (dx_var (pv 2)) (dx_op2 op_powX f_pow dx_int dx_int)) da_nil))) (da_cons (dx_op2 op_addX f_add (dx_op2 op_addX f_add (dx_op2 op_modN f_mod (dx_var (pv 2)) (dx_op2 op_addX f_add (dx_op2 op_powX f_pow dx_int dx_int) dx_int)) (dx_op2 op_mulW f_mul dx_int (dx_var (pv 1)))) dx_int) (da_cons dx_int da_nil))))))))
theorem k__law_dip_ (T : Tx K mg ad fs cs) : FnG P w K mg base (L2.CX P w) 1 (ad 1) (fs 1) ["tank", "bound"] (spD K 2 (m__law_dip cs)) := by
  refine fn_mirror (N := sc__law_dip_N) T.f__law_dip.F sc__law_dip fun X pvs W cdv A outer s H E hX tk hr => ?_
  subst hX
  have hu := hr.units
  exact (dss_cons (ds_if (dt_cmp op_gt f_gt (dx_at (dq_see (pv 0)) dx_int) dx_int (nomark _)) (dss_cons (ds_set (i := 2) sc__law_dip.nd rfl (by first | exact Or.inl rfl | exact Or.inr rfl) (DX.own (dx_op2 op_modN f_mod (dx_at (dq_see (pv 0)) dx_int) (dx_var (pv 1))))) (dss_cons (ds_setAt (pv 0) dx_int (DX.own (dx_op2 op_divX f_div (dx_at (dq_see (pv 0)) dx_int) (dx_var (pv 1))))) (dss_one (ds_ret (DX.own (dx_var (pv 2))))))) dss_nil)
    (dss_cons (ds_setAt (pv 0) dx_int (DX.own (dx_op2 op_addX f_add (dx_at (dq_see (pv 0)) dx_int) dx_int)))
    (dss_cons (ds_set (i := 3) sc__law_dip.nd rfl (by first | exact Or.inl rfl | exact Or.inr rfl) (DX.own (dx_op2 op_modN f_mod (dx_op2 op_powX f_pow (dx_op2 op_addX f_add (dx_at (dq_see (pv 0)) dx_int) (dx_op2 op_mulW f_mul dx_int (dx_at (dq_see (pv 0)) dx_int))) dx_int) (dx_op2 op_addX f_add (dx_op2 op_powX f_pow dx_int dx_int) dx_int))))
    (dss_cons (ds_set (i := 3) sc__law_dip.nd rfl (by first | exact Or.inl rfl | exact Or.inr rfl) (DX.own (dx_op2 op_modN f_mod (dx_op2 op_powX f_pow (dx_op2 op_addX f_add (dx_var (pv 3)) (dx_op2 op_mulW f_mul dx_int (dx_at (dq_see (pv 0)) dx_int))) dx_int) (dx_op2 op_addX f_add (dx_op2 op_powX f_pow dx_int dx_int) dx_int))))
    (dss_one (ds_ret (DX.own (dx_op2 op_modN f_mod (dx_op2 op_divX f_div (dx_var (pv 3)) dx_int) (dx_var (pv 1))))))))))
theorem k__law_start_ (T : Tx K mg ad fs cs) : FnG P w K mg base (L2.CX P w) 2 (ad 2) (fs 2) ["tank"] (spD K 1 (m__law_start cs)) := by
  refine fn_mirror (N := sc__law_start_N) T.f__law_start.F sc__law_start fun X pvs W cdv A outer s H E hX tk hr => ?_
  subst hX
  have hu := hr.units
  have k__law_dip := k__law_dip_ (P := P) (w := w) (base := base) T
  exact (dss_cons (ds_set (i := 1) sc__law_start.nd rfl (by first | exact Or.inl rfl | exact Or.inr rfl) (DX.own (dx_ix (DO.frz (do_lst (da_cons dx_int (da_cons (dx_op2 op_powX f_pow dx_int dx_int) (da_cons (dx_op2 op_powX f_pow dx_int dx_int) (da_cons (dx_op2 op_mulW f_mul (dx_op2 op_powX f_pow dx_int dx_int) (dx_op2 op_powX f_pow dx_int dx_int)) da_nil)))))) (DO.frz (do_call1 k__law_dip (hr.mono (by decide)) (by rfl) T.f__law_dip.g T.f__law_dip.F.kp T.f__law_dip.b tk (dr_slot (pv 0) (dr_fz dx_int dr_nil)) (lenr_slot (lenr_fz lenr_nil)))))))
    (dss_cons (ds_par (i := 2) (j := 3) rfl sc__law_start.nd rfl rfl (by decide) rfl rfl (DX.own (dx_op2 op_mulW f_mul (dx_var (pv 1)) (dx_op2 op_sub f_sub (DO.frz (do_call1 k__law_dip (hr.mono (by decide)) (by rfl) T.f__law_dip.g T.f__law_dip.F.kp T.f__law_dip.b tk (dr_slot (pv 0) (dr_fz dx_int dr_nil)) (lenr_slot (lenr_fz lenr_nil)))) dx_int))) (DX.own (dx_op2 op_mulW f_mul (dx_var (pv 1)) (dx_op2 op_sub f_sub (DO.frz (do_call1 k__law_dip (hr.mono (by decide)) (by rfl) T.f__law_dip.g T.f__law_dip.F.kp T.f__law_dip.b tk (dr_slot (pv 0) (dr_fz dx_int dr_nil)) (lenr_slot (lenr_fz lenr_nil)))) dx_int))) rfl)
    (dss_cons (ds_set (i := 4) sc__law_start.nd rfl (by first | exact Or.inl rfl | exact Or.inr rfl) (DX.own (dx_ix (DO.frz (do_lst (da_cons dx_int (da_cons (dx_op2 op_powX f_pow dx_int dx_int) da_nil)))) (DO.frz (do_call1 k__law_dip (hr.mono (by decide)) (by rfl) T.f__law_dip.g T.f__law_dip.F.kp T.f__law_dip.b tk (dr_slot (pv 0) (dr_fz dx_int dr_nil)) (lenr_slot (lenr_fz lenr_nil)))))))
    (dss_one (ds_ret (DX.own (dx_tup (da_cons (dx_op2 op_sub f_sub (dx_op2 op_addX f_add (dx_var (pv 2)) (DO.frz (do_call1 k__law_dip (hr.mono (by decide)) (by rfl) T.f__law_dip.g T.f__law_dip.F.kp T.f__law_dip.b tk (dr_slot (pv 0) (dr_fz (dx_var (pv 4)) dr_nil)) (lenr_slot (lenr_fz lenr_nil))))) (dx_op2 op_divX f_div (dx_var (pv 4)) dx_int)) (da_cons (dx_op2 op_sub f_sub (dx_op2 op_addX f_add (dx_var (pv 3)) (DO.frz (do_call1 k__law_dip (hr.mono (by decide)) (by rfl) T.f__law_dip.g T.f__law_dip.F.kp T.f__law_dip.b tk (dr_slot (pv 0) (dr_fz (dx_var (pv 4)) dr_nil)) (lenr_slot (lenr_fz lenr_nil))))) (dx_op2 op_divX f_div (dx_var (pv 4)) dx_int)) (da_cons (DO.frz (do_call1 k__law_dip (hr.mono (by decide)) (by rfl) T.f__law_dip.g T.f__law_dip.F.kp T.f__law_dip.b tk (dr_slot (pv 0) (dr_fz dx_int dr_nil)) (lenr_slot (lenr_fz lenr_nil)))) da_nil))))))))))
theorem k__law_moved_ (T : Tx K mg ad fs cs) : FnG P w K mg base (L2.CX P w) 1 (ad 3) (fs 3) ["turn_here", "shift_here", "pose_here"] (spD K 3 (m__law_moved cs)) := by
  refine fn_mirror (N := sc__law_moved_N) T.f__law_moved.F sc__law_moved fun X pvs W cdv A outer s H E hX tk hr => ?_
  subst hX
  have hu := hr.units
  exact (dss_cons (ds_asg (dx_var (pv 2)) (dg_tup rfl (dgs_cons (dg_name (i := 3) sc__law_moved.nd rfl (by first | exact Or.inl rfl | exact Or.inr rfl)) (dgs_cons (dg_name (i := 4) sc__law_moved.nd rfl (by first | exact Or.inl rfl | exact Or.inr rfl)) (dgs_cons (dg_name (i := 5) sc__law_moved.nd rfl (by first | exact Or.inl rfl | exact Or.inr rfl)) dgs_nil)))))
    (dss_cons (ds_asg (dx_var (pv 1)) (dg_tup rfl (dgs_cons (dg_name (i := 6) sc__law_moved.nd rfl (by first | exact Or.inl rfl | exact Or.inr rfl)) (dgs_cons (dg_name (i := 7) sc__law_moved.nd rfl (by first | exact Or.inl rfl | exact Or.inr rfl)) dgs_nil))))
    (dss_cons (ds_for (passes_of rfl) rfl (di_range1 (by rfl) T.z_range (da_cons (dx_var (pv 5)) da_nil)) (dg_name (i := 8) sc__law_moved.nd rfl (by first | exact Or.inl rfl | exact Or.inr rfl)) (dss_one (ds_par (i := 6) (j := 7) rfl sc__law_moved.nd rfl rfl (by decide) rfl rfl (DX.own (dx_op2 op_sub f_sub dx_int (dx_var (pv 7)))) (DX.own (dx_var (pv 6))) rfl)))
    (dss_one (ds_ret (DX.own (dx_tup (da_cons (dx_op2 op_addX f_add (dx_var (pv 3)) (dx_var (pv 6))) (da_cons (dx_op2 op_addX f_add (dx_var (pv 4)) (dx_var (pv 7))) (da_cons (dx_op2 op_modN f_mod (dx_op2 op_addX f_add (dx_var (pv 5)) (dx_var (pv 0))) dx_int) da_nil))))))))))
theorem k_is_int_ (T : Tx K mg ad fs cs) : FnG P w K mg base (L2.CX P w) 1 (ad 4) (fs 4) ["value"] (spD K 1 (m_is_int cs)) := by
  refine fn_mirror (N := sc_is_int_N) T.f_is_int.F sc_is_int fun X pvs W cdv A outer s H E hX tk hr => ?_
  subst hX
  have hu := hr.units
  exact (dss_one (ds_ret (DX.own (dx_and (dx_callB call_isi f_isi (by rfl) T.z_isinstance bo_isinstance (da_cons (dx_var (pv 0)) (da_cons (dx_ty (by rfl) T.z_int bo_int) da_nil))) (dx_and1 (dx_not (dx_callB call_isi f_isi (by rfl) T.z_isinstance bo_isinstance (da_cons (dx_var (pv 0)) (da_cons (dx_ty (by rfl) T.z_bool bo_bool) da_nil)))))))))
theorem k_is_point_ (T : Tx K mg ad fs cs) : FnG P w K mg base (L2.CX P w) 2 (ad 5) (fs 5) ["value"] (spD K 1 (m_is_point cs)) := by
  refine fn_mirror (N := sc_is_point_N) T.f_is_point.F sc_is_point fun X pvs W cdv A outer s H E hX tk hr => ?_
  subst hX
  have hu := hr.units
  have k_is_int := k_is_int_ (P := P) (w := w) (base := base) T
  exact (dss_one (ds_ret (DX.own (dx_and (dx_callB call_isi f_isi (by rfl) T.z_isinstance bo_isinstance (da_cons (dx_var (pv 0)) (da_cons (dx_ty (by rfl) T.z_tuple bo_tuple) da_nil))) (dx_and (dx_cmp (op_eqX hu) f_eq (dx_callB call_len f_len (by rfl) T.z_len bo_len (da_cons (dx_var (pv 0)) da_nil)) dx_int (nomark _)) (dx_and1 (dx_callB (cr_all rfl) f_all (by rfl) T.z_all bo_all (da_cons (DO.frz (do_comp (own := [("number", 1)]) rfl sc_is_point.nd (di_tup (dx_var (pv 0))) (blkOk_by (N := sc_is_point_N) (sc := defScope s_is_point) (own := [("number", 1)]) (by decide +kernel)) (fun _ _ _ _ _ => (dg_name (i := 1) sc_is_point.nd rfl (by first | exact Or.inl rfl | exact Or.inr rfl))) (fun _ _ _ _ _ => dts_nil) (fun _ _ _ _ _ => (DO.frz (do_call0 k_is_int (hr.mono (by decide)) (by rfl) T.f_is_int.g T.f_is_int.F.kp T.f_is_int.b takes0 (da_cons (dx_var (pv 1)) da_nil) (len_cons len_nil)))) (by decide) (wip_name))) da_nil))))))))
theorem k_in_range_ (T : Tx K mg ad fs cs) : FnG P w K mg base (L2.CX P w) 2 (ad 6) (fs 6) ["value", "low", "high"] (spD K 3 (m_in_range cs)) := by
  refine fn_mirror (N := sc_in_range_N) T.f_in_range.F sc_in_range fun X pvs W cdv A outer s H E hX tk hr => ?_
  subst hX
  have hu := hr.units
  have k_is_int := k_is_int_ (P := P) (w := w) (base := base) T
  exact (dss_one (ds_ret (DX.own (dx_and (DO.frz (do_call0 k_is_int (hr.mono (by decide)) (by rfl) T.f_is_int.g T.f_is_int.F.kp T.f_is_int.b tk (da_cons (dx_var (pv 0)) da_nil) (len_cons len_nil))) (dx_and1 (dx_chain op_le op_le f_le f_le (dx_var (pv 1)) (dx_var (pv 0)) (dx_var (pv 2))))))))
theorem k_is_pose_ (T : Tx K mg ad fs cs) : FnG P w K mg base (L2.CX P w) 3 (ad 7) (fs 7) ["value"] (spD K 1 (m_is_pose cs)) := by
  refine fn_mirror (N := sc_is_pose_N) T.f_is_pose.F sc_is_pose fun X pvs W cdv A outer s H E hX tk hr => ?_
  subst hX
  have hu := hr.units
  have k_is_point := k_is_point_ (P := P) (w := w) (base := base) T
  have k_in_range := k_in_range_ (P := P) (w := w) (base := base) T
  exact (dss_cons (ds_if (DW.dt (dw_or (dt_not (dt_val (dx_callB call_isi f_isi (by rfl) T.z_isinstance bo_isinstance (da_cons (dx_var (pv 0)) (da_cons (dx_ty (by rfl) T.z_tuple bo_tuple) da_nil))))) (dw_or1 (dt_cmp (op_neX hu) f_ne (dx_callB call_len f_len (by rfl) T.z_len bo_len (da_cons (dx_var (pv 0)) da_nil)) dx_int (nomark _))))) (dss_one (ds_ret (DX.own dx_bl))) dss_nil)
    (dss_one (ds_ret (DX.own (dx_and (DO.frz (do_call0 k_is_point (hr.mono (by decide)) (by rfl) T.f_is_point.g T.f_is_point.F.kp T.f_is_point.b tk (da_cons (dx_cut (dx_var (pv 0)) dp_none (dp_some dx_int)) da_nil) (len_cons len_nil))) (dx_and1 (DO.frz (do_call0 k_in_range (hr.mono (by decide)) (by rfl) T.f_in_range.g T.f_in_range.F.kp T.f_in_range.b tk (da_cons (dx_ix (dx_var (pv 0)) dx_int) (da_cons dx_int (da_cons dx_int da_nil))) (len_cons (len_cons (len_cons len_nil)))))))))))
theorem k_require_pose_ (T : Tx K mg ad fs cs) : FnG P w K mg base (L2.CX P w) 4 (ad 8) (fs 8) ["value"] (spD K 1 (m_require_pose cs)) := by
  refine fn_mirror (N := sc_require_pose_N) T.f_require_pose.F sc_require_pose fun X pvs W cdv A outer s H E hX tk hr => ?_
  subst hX
  have hu := hr.units
  have k_is_pose := k_is_pose_ (P := P) (w := w) (base := base) T
  exact (dss_one (ds_if (dt_not (dt_val (DO.frz (do_call0 k_is_pose (hr.mono (by decide)) (by rfl) T.f_is_pose.g T.f_is_pose.F.kp T.f_is_pose.b tk (da_cons (dx_var (pv 0)) da_nil) (len_cons len_nil))))) (dss_one ds_never) dss_nil))
theorem k_turned_point_ (T : Tx K mg ad fs cs) : FnG P w K mg base (L2.CX P w) 1 (ad 9) (fs 9) ["point", "quarters"] (spD K 2 (m_turned_point cs)) := by
  refine fn_mirror (N := sc_turned_point_N) T.f_turned_point.F sc_turned_point fun X pvs W cdv A outer s H E hX tk hr => ?_
  subst hX
  have hu := hr.units
  exact (dss_cons (ds_asg (dx_var (pv 0)) (dg_tup rfl (dgs_cons (dg_name (i := 2) sc_turned_point.nd rfl (by first | exact Or.inl rfl | exact Or.inr rfl)) (dgs_cons (dg_name (i := 3) sc_turned_point.nd rfl (by first | exact Or.inl rfl | exact Or.inr rfl)) dgs_nil))))
    (dss_cons (ds_for (passes_of rfl) rfl (di_range1 (by rfl) T.z_range (da_cons (dx_op2 op_modN f_mod (dx_var (pv 1)) dx_int) da_nil)) (dg_name (i := 4) sc_turned_point.nd rfl (by first | exact Or.inl rfl | exact Or.inr rfl)) (dss_one (ds_par (i := 2) (j := 3) rfl sc_turned_point.nd rfl rfl (by decide) rfl rfl (DX.own (dx_neg (dx_var (pv 3)))) (DX.own (dx_var (pv 2))) rfl)))
    (dss_one (ds_ret (DX.own (dx_tup (da_cons (dx_var (pv 2)) (da_cons (dx_var (pv 3)) da_nil))))))))
theorem k_Motion___call___ (T : Tx K mg ad fs cs) : FnG P w K mg base (L2.CX P w) 5 (ad 10) (fs 10) ["self", "pose"] (spD K 2 (m_Motion___call__ cs)) := by
  refine fn_mirror (N := sc_Motion___call___N) T.f_Motion___call__.F sc_Motion___call__ fun X pvs W cdv A outer s H E hX tk hr => ?_
  subst hX
  have hu := hr.units
  have k_require_pose := k_require_pose_ (P := P) (w := w) (base := base) T
  have k_turned_point := k_turned_point_ (P := P) (w := w) (base := base) T
  exact (dss_cons (ds_expr (DO.frz (do_call0 k_require_pose (hr.mono (by decide)) (by rfl) T.f_require_pose.g T.f_require_pose.F.kp T.f_require_pose.b tk (da_cons (dx_var (pv 1)) da_nil) (len_cons len_nil))))
    (dss_cons (ds_asg (dx_var (pv 1)) (dg_tup rfl (dgs_cons (dg_name (i := 2) sc_Motion___call__.nd rfl (by first | exact Or.inl rfl | exact Or.inr rfl)) (dgs_cons (dg_name (i := 3) sc_Motion___call__.nd rfl (by first | exact Or.inl rfl | exact Or.inr rfl)) (dgs_cons (dg_name (i := 4) sc_Motion___call__.nd rfl (by first | exact Or.inl rfl | exact Or.inr rfl)) dgs_nil)))))
    (dss_cons (ds_asg (DO.frz (do_call0 k_turned_point (hr.mono (by decide)) (by rfl) T.f_turned_point.g T.f_turned_point.F.kp T.f_turned_point.b tk (da_cons (dx_fld (ok := (fun C => C == cs 0)) (dx_var (pv 0)) (fun C h => by cases beq_iff_eq.mp h; exact ⟨T.c_Motion.cl, T.n_Motion_kept_shift⟩)) (da_cons (dx_var (pv 4)) da_nil)) (len_cons (len_cons len_nil)))) (dg_tup rfl (dgs_cons (dg_name (i := 5) sc_Motion___call__.nd rfl (by first | exact Or.inl rfl | exact Or.inr rfl)) (dgs_cons (dg_name (i := 6) sc_Motion___call__.nd rfl (by first | exact Or.inl rfl | exact Or.inr rfl)) dgs_nil))))
    (dss_one (ds_ret (DX.own (dx_tup (da_cons (dx_op2 op_addX f_add (dx_var (pv 2)) (dx_var (pv 5))) (da_cons (dx_op2 op_addX f_add (dx_var (pv 3)) (dx_var (pv 6))) (da_cons (dx_op2 op_modN f_mod (dx_op2 op_addX f_add (dx_var (pv 4)) (dx_fld (ok := (fun C => C == cs 0)) (dx_var (pv 0)) (fun C h => by cases beq_iff_eq.mp h; exact ⟨T.c_Motion.cl, T.n_Motion_kept_turn⟩))) dx_int) da_nil))))))))))
theorem k__law_led_ (T : Tx K mg ad fs cs) : FnG P w K mg base (L2.CX P w) 7 (ad 11) (fs 11) ["motion_here", "pose_here"] (spD K 2 (m__law_led cs)) := by
  refine fn_mirror (N := sc__law_led_N) T.f__law_led.F sc__law_led fun X pvs W cdv A outer s H E hX tk hr => ?_
  subst hX
  have hu := hr.units
  have k_Motion___call__ := k_Motion___call___ (P := P) (w := w) (base := base) T
  exact (dss_one (ds_ret (do_callIns T.o_Motion k_Motion___call__ (hr.mono (by decide)) T.f_Motion___call__.b tk (dx_var (pv 0)) (da_cons (dx_var (pv 1)) da_nil) (len_cons len_nil))))
theorem k_Motion_order_ (T : Tx K mg ad fs cs) : FnG P w K mg base (L2.CX P w) 1 (ad 12) (fs 12) ["self"] (spD K 1 (m_Motion_order cs)) := by
  refine fn_mirror (N := sc_Motion_order_N) T.f_Motion_order.F sc_Motion_order fun X pvs W cdv A outer s H E hX tk hr => ?_
  subst hX
  have hu := hr.units
  exact (dss_cons (ds_if (dt_cmp (op_eqX hu) f_eq (dx_fld (ok := (fun C => C == cs 0)) (dx_var (pv 0)) (fun C h => by cases beq_iff_eq.mp h; exact ⟨T.c_Motion.cl, T.n_Motion_kept_turn⟩)) dx_int (nomark _)) (dss_one (ds_ret (DX.own (dx_if (dt_cmp (op_eqX hu) f_eq (dx_fld (ok := (fun C => C == cs 0)) (dx_var (pv 0)) (fun C h => by cases beq_iff_eq.mp h; exact ⟨T.c_Motion.cl, T.n_Motion_kept_shift⟩)) (dx_tup (da_cons dx_int (da_cons dx_int da_nil))) (nomark _)) dx_int dx_non)))) dss_nil)
    (dss_one (ds_ret (DX.own (dx_if (dt_cmp (op_eqX hu) f_eq (dx_fld (ok := (fun C => C == cs 0)) (dx_var (pv 0)) (fun C h => by cases beq_iff_eq.mp h; exact ⟨T.c_Motion.cl, T.n_Motion_kept_turn⟩)) dx_int (nomark _)) dx_int dx_int)))))
theorem k_Motion___init___ (T : Tx K mg ad fs cs) : FnG P w K mg base (L2.CX P w) 3 (ad 13) (fs 13) ["self", "turn", "dx", "dy"] (spD K 4 (m_Motion___init__ cs)) := by
  refine fn_mirror (N := sc_Motion___init___N) T.f_Motion___init__.F sc_Motion___init__ fun X pvs W cdv A outer s H E hX tk hr => ?_
  subst hX
  have hu := hr.units
  have k_in_range := k_in_range_ (P := P) (w := w) (base := base) T
  have k_is_int := k_is_int_ (P := P) (w := w) (base := base) T
  exact (dss_cons (ds_if (DW.dt (dw_or (dt_not (dt_val (DO.frz (do_call0 k_in_range (hr.mono (by decide)) (by rfl) T.f_in_range.g T.f_in_range.F.kp T.f_in_range.b tk (da_cons (dx_var (pv 1)) (da_cons dx_int (da_cons dx_int da_nil))) (len_cons (len_cons (len_cons len_nil))))))) (dw_or (dt_not (dt_val (DO.frz (do_call0 k_is_int (hr.mono (by decide)) (by rfl) T.f_is_int.g T.f_is_int.F.kp T.f_is_int.b tk (da_cons (dx_var (pv 2)) da_nil) (len_cons len_nil))))) (dw_or1 (dt_not (dt_val (DO.frz (do_call0 k_is_int (hr.mono (by decide)) (by rfl) T.f_is_int.g T.f_is_int.F.kp T.f_is_int.b tk (da_cons (dx_var (pv 3)) da_nil) (len_cons len_nil))))))))) (dss_one ds_never) dss_nil)
    (dss_cons (ds_fld (ok := (fun C => C == cs 0)) (pv 0) (DX.own (dx_var (pv 1))) (fun C h => by cases beq_iff_eq.mp h; exact ⟨T.c_Motion.cl, T.n_Motion_kept_turn⟩))
    (dss_one (ds_fld (ok := (fun C => C == cs 0)) (pv 0) (DX.own (dx_tup (da_cons (dx_var (pv 2)) (da_cons (dx_var (pv 3)) da_nil)))) (fun C h => by cases beq_iff_eq.mp h; exact ⟨T.c_Motion.cl, T.n_Motion_kept_shift⟩)))))
theorem k_Motion_turn_ (T : Tx K mg ad fs cs) : FnG P w K mg base (L2.CX P w) 1 (ad 14) (fs 14) ["self"] (spD K 1 (m_Motion_turn cs)) := by
  refine fn_mirror (N := sc_Motion_turn_N) T.f_Motion_turn.F sc_Motion_turn fun X pvs W cdv A outer s H E hX tk hr => ?_
  subst hX
  have hu := hr.units
  exact (dss_one (ds_ret (DX.own (dx_fld (ok := (fun C => C == cs 0)) (dx_var (pv 0)) (fun C h => by cases beq_iff_eq.mp h; exact ⟨T.c_Motion.cl, T.n_Motion_kept_turn⟩)))))
theorem k_Motion_shift_ (T : Tx K mg ad fs cs) : FnG P w K mg base (L2.CX P w) 1 (ad 15) (fs 15) ["self"] (spD K 1 (m_Motion_shift cs)) := by
  refine fn_mirror (N := sc_Motion_shift_N) T.f_Motion_shift.F sc_Motion_shift fun X pvs W cdv A outer s H E hX tk hr => ?_
  subst hX
  have hu := hr.units
  exact (dss_one (ds_ret (DX.own (dx_fld (ok := (fun C => C == cs 0)) (dx_var (pv 0)) (fun C h => by cases beq_iff_eq.mp h; exact ⟨T.c_Motion.cl, T.n_Motion_kept_shift⟩)))))
theorem k_Motion___eq___ (T : Tx K mg ad fs cs) : FnG P w K mg base (L2.CX P w) 1 (ad 16) (fs 16) ["self", "other"] (spD K 2 (m_Motion___eq__ cs)) := by
  refine fn_mirror (N := sc_Motion___eq___N) T.f_Motion___eq__.F sc_Motion___eq__ fun X pvs W cdv A outer s H E hX tk hr => ?_
  subst hX
  have hu := hr.units
  exact (dss_cons (ds_if (dt_not (dt_val (dx_callB call_isi (f_isO T.cf T.is_Motion) (by rfl) T.z_isinstance bo_isinstance (da_cons (dx_var (pv 1)) (da_cons (dx_cls (by rfl) T.g_Motion) da_nil))))) (dss_one (ds_ret (DX.own dx_bl))) dss_nil)
    (dss_one (ds_ret (DX.own (dx_and (dx_cmp (op_eqX hu) f_eq (dx_fld (ok := (fun C => C == cs 0)) (dx_var (pv 0)) (fun C h => by cases beq_iff_eq.mp h; exact ⟨T.c_Motion.cl, T.n_Motion_kept_turn⟩)) (dx_fld (ok := (fun C => C == cs 0)) (dx_var (pv 1)) (fun C h => by cases beq_iff_eq.mp h; exact ⟨T.c_Motion.cl, T.n_Motion_kept_turn⟩)) (nomark _)) (dx_and1 (dx_cmp (op_eqX hu) f_eq (dx_fld (ok := (fun C => C == cs 0)) (dx_var (pv 0)) (fun C h => by cases beq_iff_eq.mp h; exact ⟨T.c_Motion.cl, T.n_Motion_kept_shift⟩)) (dx_fld (ok := (fun C => C == cs 0)) (dx_var (pv 1)) (fun C h => by cases beq_iff_eq.mp h; exact ⟨T.c_Motion.cl, T.n_Motion_kept_shift⟩)) (nomark _))))))))
theorem k_Motion___add___ (T : Tx K mg ad fs cs) : FnG P w K mg base (L2.CX P w) 5 (ad 17) (fs 17) ["self", "other"] (spD K 2 (m_Motion___add__ cs)) := by
  refine fn_mirror (N := sc_Motion___add___N) T.f_Motion___add__.F sc_Motion___add__ fun X pvs W cdv A outer s H E hX tk hr => ?_
  subst hX
  have hu := hr.units
  have k_turned_point := k_turned_point_ (P := P) (w := w) (base := base) T
  have k_Motion___init__ := k_Motion___init___ (P := P) (w := w) (base := base) T
  exact (dss_cons (ds_if (dt_not (dt_val (dx_callB call_isi (f_isO T.cf T.is_Motion) (by rfl) T.z_isinstance bo_isinstance (da_cons (dx_var (pv 1)) (da_cons (dx_cls (by rfl) T.g_Motion) da_nil))))) (dss_one ds_never) dss_nil)
    (dss_cons (ds_asg (DO.frz (do_call0 k_turned_point (hr.mono (by decide)) (by rfl) T.f_turned_point.g T.f_turned_point.F.kp T.f_turned_point.b tk (da_cons (dx_fld (ok := (fun C => C == cs 0)) (dx_var (pv 1)) (fun C h => by cases beq_iff_eq.mp h; exact ⟨T.c_Motion.cl, T.n_Motion_kept_shift⟩)) (da_cons (dx_fld (ok := (fun C => C == cs 0)) (dx_var (pv 0)) (fun C h => by cases beq_iff_eq.mp h; exact ⟨T.c_Motion.cl, T.n_Motion_kept_turn⟩)) da_nil)) (len_cons (len_cons len_nil)))) (dg_tup rfl (dgs_cons (dg_name (i := 2) sc_Motion___add__.nd rfl (by first | exact Or.inl rfl | exact Or.inr rfl)) (dgs_cons (dg_name (i := 3) sc_Motion___add__.nd rfl (by first | exact Or.inl rfl | exact Or.inr rfl)) dgs_nil))))
    (dss_one (ds_ret (do_make T.m_Motion k_Motion___init__ (hr.mono (by decide)) (by rfl) T.g_Motion T.f_Motion___init__.b tk (da_cons (dx_op2 op_modN f_mod (dx_op2 op_addX f_add (dx_fld (ok := (fun C => C == cs 0)) (dx_var (pv 0)) (fun C h => by cases beq_iff_eq.mp h; exact ⟨T.c_Motion.cl, T.n_Motion_kept_turn⟩)) (dx_fld (ok := (fun C => C == cs 0)) (dx_var (pv 1)) (fun C h => by cases beq_iff_eq.mp h; exact ⟨T.c_Motion.cl, T.n_Motion_kept_turn⟩))) dx_int) (da_cons (dx_op2 op_addX f_add (dx_ix (dx_fld (ok := (fun C => C == cs 0)) (dx_var (pv 0)) (fun C h => by cases beq_iff_eq.mp h; exact ⟨T.c_Motion.cl, T.n_Motion_kept_shift⟩)) dx_int) (dx_var (pv 2))) (da_cons (dx_op2 op_addX f_add (dx_ix (dx_fld (ok := (fun C => C == cs 0)) (dx_var (pv 0)) (fun C h => by cases beq_iff_eq.mp h; exact ⟨T.c_Motion.cl, T.n_Motion_kept_shift⟩)) dx_int) (dx_var (pv 3))) da_nil))) (len_cons (len_cons (len_cons len_nil))))))))
theorem k_Motion___neg___ (T : Tx K mg ad fs cs) : FnG P w K mg base (L2.CX P w) 5 (ad 18) (fs 18) ["self"] (spD K 1 (m_Motion___neg__ cs)) := by
  refine fn_mirror (N := sc_Motion___neg___N) T.f_Motion___neg__.F sc_Motion___neg__ fun X pvs W cdv A outer s H E hX tk hr => ?_
  subst hX
  have hu := hr.units
  have k_turned_point := k_turned_point_ (P := P) (w := w) (base := base) T
  have k_Motion___init__ := k_Motion___init___ (P := P) (w := w) (base := base) T
  exact (dss_cons (ds_asg (DO.frz (do_call0 k_turned_point (hr.mono (by decide)) (by rfl) T.f_turned_point.g T.f_turned_point.F.kp T.f_turned_point.b tk (da_cons (dx_fld (ok := (fun C => C == cs 0)) (dx_var (pv 0)) (fun C h => by cases beq_iff_eq.mp h; exact ⟨T.c_Motion.cl, T.n_Motion_kept_shift⟩)) (da_cons (dx_op2 op_sub f_sub dx_int (dx_fld (ok := (fun C => C == cs 0)) (dx_var (pv 0)) (fun C h => by cases beq_iff_eq.mp h; exact ⟨T.c_Motion.cl, T.n_Motion_kept_turn⟩))) da_nil)) (len_cons (len_cons len_nil)))) (dg_tup rfl (dgs_cons (dg_name (i := 1) sc_Motion___neg__.nd rfl (by first | exact Or.inl rfl | exact Or.inr rfl)) (dgs_cons (dg_name (i := 2) sc_Motion___neg__.nd rfl (by first | exact Or.inl rfl | exact Or.inr rfl)) dgs_nil))))
    (dss_one (ds_ret (do_make T.m_Motion k_Motion___init__ (hr.mono (by decide)) (by rfl) T.g_Motion T.f_Motion___init__.b tk (da_cons (dx_op2 op_modN f_mod (dx_neg (dx_fld (ok := (fun C => C == cs 0)) (dx_var (pv 0)) (fun C h => by cases beq_iff_eq.mp h; exact ⟨T.c_Motion.cl, T.n_Motion_kept_turn⟩))) dx_int) (da_cons (dx_var (pv 1)) (da_cons (dx_var (pv 2)) da_nil))) (len_cons (len_cons (len_cons len_nil)))))))
theorem k_Motion___mul___ (T : Tx K mg ad fs cs) : FnG P w K mg base (L2.CX P w) 7 (ad 19) (fs 19) ["self", "times"] (spD K 2 (m_Motion___mul__ cs)) := by
  refine fn_mirror (N := sc_Motion___mul___N) T.f_Motion___mul__.F sc_Motion___mul__ fun X pvs W cdv A outer s H E hX tk hr => ?_
  subst hX
  have hu := hr.units
  have k_Motion___init__ := k_Motion___init___ (P := P) (w := w) (base := base) T
  have k_in_range := k_in_range_ (P := P) (w := w) (base := base) T
  have k_Motion___add__ := k_Motion___add___ (P := P) (w := w) (base := base) T
  exact (dss_cons (ds_if (dt_not (dt_val (DO.frz (do_call0 k_in_range (hr.mono (by decide)) (by rfl) T.f_in_range.g T.f_in_range.F.kp T.f_in_range.b tk (da_cons (dx_var (pv 1)) (da_cons (dx_neg (dx_const (v := .int 1000000000000000000000000000000) (by rfl) T.v_MOST_TIMES fun _ => .int _)) (da_cons (dx_const (v := .int 1000000000000000000000000000000) (by rfl) T.v_MOST_TIMES fun _ => .int _) da_nil))) (len_cons (len_cons (len_cons len_nil))))))) (dss_one ds_never) dss_nil)
    (dss_cons (ds_asg (dx_fld (ok := (fun C => C == cs 0)) (dx_var (pv 0)) (fun C h => by cases beq_iff_eq.mp h; exact ⟨T.c_Motion.cl, T.n_Motion_kept_shift⟩)) (dg_tup rfl (dgs_cons (dg_name (i := 2) sc_Motion___mul__.nd rfl (by first | exact Or.inl rfl | exact Or.inr rfl)) (dgs_cons (dg_name (i := 3) sc_Motion___mul__.nd rfl (by first | exact Or.inl rfl | exact Or.inr rfl)) dgs_nil))))
    (dss_cons (ds_if (dt_cmp (op_eqX hu) f_eq (dx_fld (ok := (fun C => C == cs 0)) (dx_var (pv 0)) (fun C h => by cases beq_iff_eq.mp h; exact ⟨T.c_Motion.cl, T.n_Motion_kept_turn⟩)) dx_int (nomark _)) (dss_one (ds_ret (do_make T.m_Motion k_Motion___init__ (hr.mono (by decide)) (by rfl) T.g_Motion T.f_Motion___init__.b tk (da_cons dx_int (da_cons (dx_op2 op_mulW f_mul (dx_var (pv 2)) (dx_var (pv 1))) (da_cons (dx_op2 op_mulW f_mul (dx_var (pv 3)) (dx_var (pv 1))) da_nil))) (len_cons (len_cons (len_cons len_nil)))))) dss_nil)
    (dss_cons (ds_set (i := 4) sc_Motion___mul__.nd rfl (by first | exact Or.inl rfl | exact Or.inr rfl) (DO.fz (do_make T.m_Motion k_Motion___init__ (hr.mono (by decide)) (by rfl) T.g_Motion T.f_Motion___init__.b tk (da_cons dx_int (da_cons dx_int (da_cons dx_int da_nil))) (len_cons (len_cons (len_cons len_nil))))))
    (dss_cons (ds_for (passes_of rfl) rfl (di_range1 (by rfl) T.z_range (da_cons (dx_op2 op_modN f_mod (dx_var (pv 1)) dx_int) da_nil)) (dg_name (i := 5) sc_Motion___mul__.nd rfl (by first | exact Or.inl rfl | exact Or.inr rfl)) (dss_one (ds_set (i := 4) sc_Motion___mul__.nd rfl (by first | exact Or.inl rfl | exact Or.inr rfl) (DO.fz (do_binS T.s_Motion___add__ k_Motion___add__ (hr.mono (by decide)) T.f_Motion___add__.b tk (dx_var (pv 4)) (dx_var (pv 0)))))))
    (dss_one (ds_ret (DX.own (dx_var (pv 4))))))))))
theorem k__law_power_right_ (T : Tx K mg ad fs cs) : FnG P w K mg base (L2.CX P w) 9 (ad 20) (fs 20) ["tank", "one"] (spD K 2 (m__law_power_right cs)) := by
  refine fn_mirror (N := sc__law_power_right_N) T.f__law_power_right.F sc__law_power_right fun X pvs W cdv A outer s H E hX tk hr => ?_
  subst hX
  have hu := hr.units
  have k_Motion___neg__ := k_Motion___neg___ (P := P) (w := w) (base := base) T
  have k__law_start := k__law_start_ (P := P) (w := w) (base := base) T
  have k__law_dip := k__law_dip_ (P := P) (w := w) (base := base) T
  have k_Motion_turn := k_Motion_turn_ (P := P) (w := w) (base := base) T
  obtain ⟨pa_Motion_turn, p_Motion_turn⟩ := T.p_Motion_turn
  have k_Motion___call__ := k_Motion___call___ (P := P) (w := w) (base := base) T
  have k__law_led := k__law_led_ (P := P) (w := w) (base := base) T
  have k_Motion___eq__ := k_Motion___eq___ (P := P) (w := w) (base := base) T
  have k_Motion___mul__ := k_Motion___mul___ (P := P) (w := w) (base := base) T
  have k_Motion___add__ := k_Motion___add___ (P := P) (w := w) (base := base) T
  have k_Motion___init__ := k_Motion___init___ (P := P) (w := w) (base := base) T
  obtain ⟨rc_Motion___mul__, fo_Motion___mul__, ro_Motion___mul__, t_Motion___mul__⟩ := T.t_Motion___mul__
  exact (dss_cons (ds_par3 (i := 2) (j := 3) (l := 4) rfl sc__law_power_right.nd rfl rfl rfl (by decide) (by decide) (by decide) rfl rfl rfl (DO.fz (do_call1 k__law_start (hr.mono (by decide)) (by rfl) T.f__law_start.g T.f__law_start.F.kp T.f__law_start.b tk (dr_slot (pv 0) dr_nil) (lenr_slot lenr_nil))) (DX.own dx_non) (DX.own dx_non) rfl)
    (dss_cons (ds_par (i := 3) (j := 4) rfl sc__law_power_right.nd rfl rfl (by decide) rfl rfl (DX.own (dx_var (pv 2))) (DX.own (dx_var (pv 2))) rfl)
    (dss_cons (ds_set (i := 5) sc__law_power_right.nd rfl (by first | exact Or.inl rfl | exact Or.inr rfl) (DO.fz (do_negO T.a_Motion___neg__ T.i_Motion___neg__ k_Motion___neg__ (hr.mono (by decide)) T.f_Motion___neg__.b tk (dx_var (pv 1)))))
    (dss_cons (ds_for (passes_of rfl) rfl (di_range2 (by rfl) T.z_range (da_cons dx_int (da_cons dx_int da_nil))) (dg_name (i := 6) sc__law_power_right.nd rfl (by first | exact Or.inl rfl | exact Or.inr rfl)) (dss_cons (ds_par (i := 3) (j := 4) rfl sc__law_power_right.nd rfl rfl (by decide) rfl rfl (DO.fz (do_callIns T.o_Motion k_Motion___call__ (hr.mono (by decide)) T.f_Motion___call__.b tk (dx_var (pv 1)) (da_cons (dx_var (pv 3)) da_nil) (len_cons len_nil))) (DO.fz (do_callIns T.o_Motion k_Motion___call__ (hr.mono (by decide)) T.f_Motion___call__.b tk (dx_var (pv 5)) (da_cons (dx_var (pv 4)) da_nil) (len_cons len_nil))) rfl) (dss_one (ds_if (DW.dt (dw_or (dt_cmp (op_neX hu) f_ne (DO.frz (do_call0 k__law_led (hr.mono (by decide)) (by rfl) T.f__law_led.g T.f__law_led.F.kp T.f__law_led.b tk (da_cons (DO.frz (do_binI t_Motion___mul__ k_Motion___mul__ (hr.mono (by decide)) T.f_Motion___mul__.b tk (dx_var (pv 1)) (dx_var (pv 6)))) (da_cons (dx_var (pv 2)) da_nil)) (len_cons (len_cons len_nil)))) (dx_var (pv 3)) (nomark _)) (dw_or1 (dt_cmp (op_neX hu) f_ne (DO.frz (do_call0 k__law_led (hr.mono (by decide)) (by rfl) T.f__law_led.g T.f__law_led.F.kp T.f__law_led.b tk (da_cons (DO.frz (do_binI t_Motion___mul__ k_Motion___mul__ (hr.mono (by decide)) T.f_Motion___mul__.b tk (dx_var (pv 1)) (dx_op2 op_sub f_sub dx_int (dx_var (pv 6))))) (da_cons (dx_var (pv 2)) da_nil)) (len_cons (len_cons len_nil)))) (dx_var (pv 4)) (nomark _))))) (dss_one (ds_ret (DX.own dx_bl))) dss_nil))))
    (dss_cons (ds_set (i := 6) sc__law_power_right.nd rfl (by first | exact Or.inl rfl | exact Or.inr rfl) (DX.own (dx_ix (DO.frz (do_lst (da_cons (DO.frz (do_call1 k__law_dip (hr.mono (by decide)) (by rfl) T.f__law_dip.g T.f__law_dip.F.kp T.f__law_dip.b tk (dr_slot (pv 0) (dr_fz (dx_op2 op_powX f_pow dx_int dx_int) dr_nil)) (lenr_slot (lenr_fz lenr_nil)))) (da_cons (dx_op2 op_powX f_pow dx_int dx_int) (da_cons (dx_op2 op_mulW f_mul dx_int (DO.frz (do_call1 k__law_dip (hr.mono (by decide)) (by rfl) T.f__law_dip.g T.f__law_dip.F.kp T.f__law_dip.b tk (dr_slot (pv 0) (dr_fz (dx_op2 op_powX f_pow dx_int dx_int) dr_nil)) (lenr_slot (lenr_fz lenr_nil))))) da_nil))))) (DO.frz (do_call1 k__law_dip (hr.mono (by decide)) (by rfl) T.f__law_dip.g T.f__law_dip.F.kp T.f__law_dip.b tk (dr_slot (pv 0) (dr_fz dx_int dr_nil)) (lenr_slot (lenr_fz lenr_nil)))))))
    (dss_cons (ds_asg (dx_var (pv 2)) (dg_tup rfl (dgs_cons (dg_name (i := 7) sc__law_power_right.nd rfl (by first | exact Or.inl rfl | exact Or.inr rfl)) (dgs_cons (dg_name (i := 8) sc__law_power_right.nd rfl (by first | exact Or.inl rfl | exact Or.inr rfl)) (dgs_cons (dg_name (i := 9) sc__law_power_right.nd rfl (by first | exact Or.inl rfl | exact Or.inr rfl)) dgs_nil)))))
    (dss_cons (ds_if (dt_cmp (op_eqX hu) f_eq (DO.frz (do_prop (dx_var (pv 1)) T.c_Motion.cl p_Motion_turn k_Motion_turn (hr.mono (by decide)) T.f_Motion_turn.b)) dx_int (nomark _)) (dss_cons (ds_set (i := 10) sc__law_power_right.nd rfl (by first | exact Or.inl rfl | exact Or.inr rfl) (DO.fz (do_callIns T.o_Motion k_Motion___call__ (hr.mono (by decide)) T.f_Motion___call__.b tk (dx_var (pv 1)) (da_cons (dx_tup (da_cons dx_int (da_cons dx_int (da_cons (dx_var (pv 9)) da_nil)))) da_nil) (len_cons len_nil)))) (dss_one (ds_set (i := 11) sc__law_power_right.nd rfl (by first | exact Or.inl rfl | exact Or.inr rfl) (DX.own (dx_tup (da_cons (dx_op2 op_addX f_add (dx_var (pv 7)) (dx_op2 op_mulW f_mul (dx_var (pv 6)) (dx_ix (dx_var (pv 10)) dx_int))) (da_cons (dx_op2 op_addX f_add (dx_var (pv 8)) (dx_op2 op_mulW f_mul (dx_var (pv 6)) (dx_ix (dx_var (pv 10)) dx_int))) (da_cons (dx_var (pv 9)) da_nil)))))))) (dss_one (ds_set (i := 11) sc__law_power_right.nd rfl (by first | exact Or.inl rfl | exact Or.inr rfl) (DO.fz (do_call0 k__law_led (hr.mono (by decide)) (by rfl) T.f__law_led.g T.f__law_led.F.kp T.f__law_led.b tk (da_cons (DO.frz (do_binI t_Motion___mul__ k_Motion___mul__ (hr.mono (by decide)) T.f_Motion___mul__.b tk (dx_var (pv 1)) (dx_op2 op_modN f_mod (dx_var (pv 6)) dx_int))) (da_cons (dx_var (pv 2)) da_nil)) (len_cons (len_cons len_nil)))))))
    (dss_cons (ds_if (DW.dt (dw_or (dt_cmp (op_neX hu) f_ne (DO.frz (do_call0 k__law_led (hr.mono (by decide)) (by rfl) T.f__law_led.g T.f__law_led.F.kp T.f__law_led.b tk (da_cons (DO.frz (do_binI t_Motion___mul__ k_Motion___mul__ (hr.mono (by decide)) T.f_Motion___mul__.b tk (dx_var (pv 1)) (dx_var (pv 6)))) (da_cons (dx_var (pv 2)) da_nil)) (len_cons (len_cons len_nil)))) (dx_var (pv 11)) (nomark _)) (dw_or1 (dt_neO T.cf T.e_Motion k_Motion___eq__ (hr.mono (by decide)) T.f_Motion___eq__.b (DO.frz (do_binS T.s_Motion___add__ k_Motion___add__ (hr.mono (by decide)) T.f_Motion___add__.b tk (DO.frz (do_binI t_Motion___mul__ k_Motion___mul__ (hr.mono (by decide)) T.f_Motion___mul__.b tk (dx_var (pv 1)) (dx_var (pv 6)))) (DO.frz (do_binI t_Motion___mul__ k_Motion___mul__ (hr.mono (by decide)) T.f_Motion___mul__.b tk (dx_var (pv 1)) (dx_op2 op_sub f_sub dx_int (dx_var (pv 6))))))) (DO.frz (do_make T.m_Motion k_Motion___init__ (hr.mono (by decide)) (by rfl) T.g_Motion T.f_Motion___init__.b tk (da_cons dx_int (da_cons dx_int (da_cons dx_int da_nil))) (len_cons (len_cons (len_cons len_nil))))))))) (dss_one (ds_ret (DX.own dx_bl))) dss_nil)
    (dss_one (ds_ret (DX.own (dx_and (dx_eqO T.cf T.e_Motion k_Motion___eq__ (hr.mono (by decide)) T.f_Motion___eq__.b (DO.frz (do_binI t_Motion___mul__ k_Motion___mul__ (hr.mono (by decide)) T.f_Motion___mul__.b tk (dx_var (pv 1)) dx_int)) (DO.frz (do_make T.m_Motion k_Motion___init__ (hr.mono (by decide)) (by rfl) T.g_Motion T.f_Motion___init__.b tk (da_cons dx_int (da_cons dx_int (da_cons dx_int da_nil))) (len_cons (len_cons (len_cons len_nil)))))) (dx_and (dx_eqO T.cf T.e_Motion k_Motion___eq__ (hr.mono (by decide)) T.f_Motion___eq__.b (DO.frz (do_binI t_Motion___mul__ k_Motion___mul__ (hr.mono (by decide)) T.f_Motion___mul__.b tk (dx_var (pv 1)) dx_int)) (dx_var (pv 1))) (dx_and1 (dx_eqO T.cf T.e_Motion k_Motion___eq__ (hr.mono (by decide)) T.f_Motion___eq__.b (DO.frz (do_binI t_Motion___mul__ k_Motion___mul__ (hr.mono (by decide)) T.f_Motion___mul__.b tk (dx_var (pv 1)) (dx_neg dx_int))) (DO.frz (do_negO T.a_Motion___neg__ T.i_Motion___neg__ k_Motion___neg__ (hr.mono (by decide)) T.f_Motion___neg__.b tk (dx_var (pv 1)))))))))))))))))))
theorem k__law_order_right_ (T : Tx K mg ad fs cs) : FnG P w K mg base (L2.CX P w) 7 (ad 21) (fs 21) ["one"] (spD K 1 (m__law_order_right cs)) := by
  refine fn_mirror (N := sc__law_order_right_N) T.f__law_order_right.F sc__law_order_right fun X pvs W cdv A outer s H E hX tk hr => ?_
  subst hX
  have hu := hr.units
  have k_Motion___init__ := k_Motion___init___ (P := P) (w := w) (base := base) T
  have k_Motion___add__ := k_Motion___add___ (P := P) (w := w) (base := base) T
  have k_Motion___eq__ := k_Motion___eq___ (P := P) (w := w) (base := base) T
  have k_Motion_order := k_Motion_order_ (P := P) (w := w) (base := base) T
  exact (dss_cons (ds_par (i := 1) (j := 2) rfl sc__law_order_right.nd rfl rfl (by decide) rfl rfl (DX.own dx_non) (DO.fz (do_make T.m_Motion k_Motion___init__ (hr.mono (by decide)) (by rfl) T.g_Motion T.f_Motion___init__.b tk (da_cons dx_int (da_cons dx_int (da_cons dx_int da_nil))) (len_cons (len_cons (len_cons len_nil))))) rfl)
    (dss_cons (ds_for (passes_of rfl) rfl (di_range2 (by rfl) T.z_range (da_cons dx_int (da_cons dx_int da_nil))) (dg_name (i := 3) sc__law_order_right.nd rfl (by first | exact Or.inl rfl | exact Or.inr rfl)) (dss_cons (ds_set (i := 2) sc__law_order_right.nd rfl (by first | exact Or.inl rfl | exact Or.inr rfl) (DO.fz (do_binS T.s_Motion___add__ k_Motion___add__ (hr.mono (by decide)) T.f_Motion___add__.b tk (dx_var (pv 2)) (dx_var (pv 0))))) (dss_one (ds_if (DW.dt (dw_and (dt_eqO T.cf T.e_Motion k_Motion___eq__ (hr.mono (by decide)) T.f_Motion___eq__.b (dx_var (pv 2)) (DO.frz (do_make T.m_Motion k_Motion___init__ (hr.mono (by decide)) (by rfl) T.g_Motion T.f_Motion___init__.b tk (da_cons dx_int (da_cons dx_int (da_cons dx_int da_nil))) (len_cons (len_cons (len_cons len_nil)))))) (dw_and1 (dt_cmp op_isN f_isN (dx_var (pv 1)) dx_non (nomark _))))) (dss_one (ds_set (i := 1) sc__law_order_right.nd rfl (by first | exact Or.inl rfl | exact Or.inr rfl) (DX.own (dx_var (pv 3))))) dss_nil))))
    (dss_one (ds_ret (DX.own (dx_cmp (op_eqX hu) f_eq (dx_callB (call_reprX hr.g hu) f_repr (by rfl) T.z_repr bo_repr (da_cons (DO.frz (do_meth0 (dx_var (pv 0)) T.c_Motion.cl ⟨T.a_Motion_order, T.i_Motion_order, T.f_Motion_order.F.kp⟩ k_Motion_order (hr.mono (by decide)) T.f_Motion_order.b tk)) da_nil)) (dx_callB (call_reprX hr.g hu) f_repr (by rfl) T.z_repr bo_repr (da_cons (dx_var (pv 1)) da_nil)) (nomark _)))))))
theorem k_law_ (T : Tx K mg ad fs cs) : FnG P w K mg base (L2.CX P w) 11 (ad 22) (fs 22) ["script"] (spD K 1 (m_law cs)) := by
  refine fn_mirror (N := sc_law_N) T.f_law.F sc_law fun X pvs W cdv A outer s H E hX tk hr => ?_
  subst hX
  have hu := hr.units
  have k__law_tank := k__law_tank_ (P := P) (w := w) (base := base) T
  have k__law_start := k__law_start_ (P := P) (w := w) (base := base) T
  have k__law_moved := k__law_moved_ (P := P) (w := w) (base := base) T
  have k__law_led := k__law_led_ (P := P) (w := w) (base := base) T
  have k_Motion_order := k_Motion_order_ (P := P) (w := w) (base := base) T
  have k_Motion___init__ := k_Motion___init___ (P := P) (w := w) (base := base) T
  have k_Motion_turn := k_Motion_turn_ (P := P) (w := w) (base := base) T
  obtain ⟨pa_Motion_turn, p_Motion_turn⟩ := T.p_Motion_turn
  have k_Motion_shift := k_Motion_shift_ (P := P) (w := w) (base := base) T
  obtain ⟨pa_Motion_shift, p_Motion_shift⟩ := T.p_Motion_shift
  have k_Motion___eq__ := k_Motion___eq___ (P := P) (w := w) (base := base) T
  have k_Motion___add__ := k_Motion___add___ (P := P) (w := w) (base := base) T
  have k__law_power_right := k__law_power_right_ (P := P) (w := w) (base := base) T
  have k__law_order_right := k__law_order_right_ (P := P) (w := w) (base := base) T
  have k_Motion___call__ := k_Motion___call___ (P := P) (w := w) (base := base) T
  have k_Motion___neg__ := k_Motion___neg___ (P := P) (w := w) (base := base) T
  exact (dss_cons (ds_for (passes_of rfl) rfl (di_range1 (by rfl) T.z_range (da_cons (dx_callB (call_maxX rfl) f_max (by rfl) T.z_max bo_max (da_cons dx_int (da_cons (dx_callB (call_minX rfl) f_min (by rfl) T.z_min bo_min (da_cons dx_int (da_cons (dx_callB call_len f_len (by rfl) T.z_len bo_len (da_cons (dx_var (pv 0)) da_nil)) da_nil))) da_nil))) da_nil)) (dg_name (i := 1) sc_law.nd rfl (by first | exact Or.inl rfl | exact Or.inr rfl)) (dss_cons (ds_set (i := 2) sc_law.nd rfl (by first | exact Or.inl rfl | exact Or.inr rfl) (do_call0 k__law_tank (hr.mono (by decide)) (by rfl) T.f__law_tank.g T.f__law_tank.F.kp T.f__law_tank.b tk (da_cons (dx_var (pv 0)) (da_cons (dx_var (pv 1)) da_nil)) (len_cons (len_cons len_nil)))) (dss_one (ds_for (passes_of rfl) rfl (di_range1 (by rfl) T.z_range (da_cons dx_int da_nil)) (dg_name (i := 3) sc_law.nd rfl (by first | exact Or.inl rfl | exact Or.inr rfl)) (dss_cons (ds_par (i := 4) (j := 5) rfl sc_law.nd rfl rfl (by decide) rfl rfl (DO.fz (do_call1 k__law_start (hr.mono (by decide)) (by rfl) T.f__law_start.g T.f__law_start.F.kp T.f__law_start.b tk (dr_slot (pv 2) dr_nil) (lenr_slot lenr_nil))) (DO.fz (do_call1 k__law_start (hr.mono (by decide)) (by rfl) T.f__law_start.g T.f__law_start.F.kp T.f__law_start.b tk (dr_slot (pv 2) dr_nil) (lenr_slot lenr_nil))) rfl) (dss_cons (ds_if (dt_cmp (op_eqX hu) f_eq (dx_var (pv 3)) dx_int (nomark _)) (dss_one (ds_set (i := 4) sc_law.nd rfl (by first | exact Or.inl rfl | exact Or.inr rfl) (DX.own (dx_tup (da_cons dx_int (da_cons dx_int (da_cons (dx_ix (dx_var (pv 4)) dx_int) da_nil))))))) dss_nil) (dss_cons (ds_asg (dx_tup (da_cons (DO.frz (do_make T.m_Motion k_Motion___init__ (hr.mono (by decide)) (by rfl) T.g_Motion T.f_Motion___init__.b tk (da_cons (dx_ix (dx_var (pv 4)) dx_int) (da_cons (dx_ix (dx_var (pv 4)) dx_int) (da_cons (dx_ix (dx_var (pv 4)) dx_int) da_nil))) (len_cons (len_cons (len_cons len_nil))))) (da_cons (DO.frz (do_make T.m_Motion k_Motion___init__ (hr.mono (by decide)) (by rfl) T.g_Motion T.f_Motion___init__.b tk (da_cons (dx_ix (dx_var (pv 5)) dx_int) (da_cons (dx_ix (dx_var (pv 5)) dx_int) (da_cons (dx_ix (dx_var (pv 5)) dx_int) da_nil))) (len_cons (len_cons (len_cons len_nil))))) da_nil))) (dg_tup rfl (dgs_cons (dg_name (i := 6) sc_law.nd rfl (by first | exact Or.inl rfl | exact Or.inr rfl)) (dgs_cons (dg_name (i := 7) sc_law.nd rfl (by first | exact Or.inl rfl | exact Or.inr rfl)) dgs_nil)))) (dss_cons (ds_set (i := 8) sc_law.nd rfl (by first | exact Or.inl rfl | exact Or.inr rfl) (DO.fz (do_call1 k__law_start (hr.mono (by decide)) (by rfl) T.f__law_start.g T.f__law_start.F.kp T.f__law_start.b tk (dr_slot (pv 2) dr_nil) (lenr_slot lenr_nil)))) (dss_cons (ds_if (dt_cmp (op_neX hu) f_ne (dx_callB (call_reprX hr.g hu) f_repr (by rfl) T.z_repr bo_repr (da_cons (DO.frz (do_lst (da_cons (DO.frz (do_prop (dx_var (pv 6)) T.c_Motion.cl p_Motion_turn k_Motion_turn (hr.mono (by decide)) T.f_Motion_turn.b)) (da_cons (DO.frz (do_prop (dx_var (pv 6)) T.c_Motion.cl p_Motion_shift k_Motion_shift (hr.mono (by decide)) T.f_Motion_shift.b)) da_nil)))) da_nil)) (dx_callB (call_reprX hr.g hu) f_repr (by rfl) T.z_repr bo_repr (da_cons (DO.frz (do_lst (da_cons (dx_ix (dx_var (pv 4)) dx_int) (da_cons (dx_cut (dx_var (pv 4)) dp_none (dp_some dx_int)) da_nil)))) da_nil)) (nomark _)) (dss_one (ds_ret (DX.own dx_bl))) dss_nil) (dss_cons (ds_set (i := 9) sc_law.nd rfl (by first | exact Or.inl rfl | exact Or.inr rfl) (DO.fz (do_call0 k__law_moved (hr.mono (by decide)) (by rfl) T.f__law_moved.g T.f__law_moved.F.kp T.f__law_moved.b tk (da_cons (DO.frz (do_prop (dx_var (pv 6)) T.c_Motion.cl p_Motion_turn k_Motion_turn (hr.mono (by decide)) T.f_Motion_turn.b)) (da_cons (DO.frz (do_prop (dx_var (pv 6)) T.c_Motion.cl p_Motion_shift k_Motion_shift (hr.mono (by decide)) T.f_Motion_shift.b)) (da_cons (dx_var (pv 8)) da_nil))) (len_cons (len_cons (len_cons len_nil)))))) (dss_cons (ds_if (DW.dt (dw_or (dt_cmp (op_neX hu) f_ne (dx_callB (call_reprX hr.g hu) f_repr (by rfl) T.z_repr bo_repr (da_cons (DO.frz (do_callIns T.o_Motion k_Motion___call__ (hr.mono (by decide)) T.f_Motion___call__.b tk (dx_var (pv 6)) (da_cons (dx_var (pv 8)) da_nil) (len_cons len_nil))) da_nil)) (dx_callB (call_reprX hr.g hu) f_repr (by rfl) T.z_repr bo_repr (da_cons (dx_var (pv 9)) da_nil)) (nomark _)) (dw_or1 (dt_cmp (op_neX hu) f_ne (dx_callB (call_reprX hr.g hu) f_repr (by rfl) T.z_repr bo_repr (da_cons (DO.frz (do_call0 k__law_led (hr.mono (by decide)) (by rfl) T.f__law_led.g T.f__law_led.F.kp T.f__law_led.b tk (da_cons (DO.frz (do_binS T.s_Motion___add__ k_Motion___add__ (hr.mono (by decide)) T.f_Motion___add__.b tk (dx_var (pv 6)) (dx_var (pv 7)))) (da_cons (dx_var (pv 8)) da_nil)) (len_cons (len_cons len_nil)))) da_nil)) (dx_callB (call_reprX hr.g hu) f_repr (by rfl) T.z_repr bo_repr (da_cons (DO.frz (do_callIns T.o_Motion k_Motion___call__ (hr.mono (by decide)) T.f_Motion___call__.b tk (dx_var (pv 7)) (da_cons (dx_var (pv 9)) da_nil) (len_cons len_nil))) da_nil)) (nomark _))))) (dss_one (ds_ret (DX.own dx_bl))) dss_nil) (dss_cons (ds_set (i := 10) sc_law.nd rfl (by first | exact Or.inl rfl | exact Or.inr rfl) (DX.own (dx_cmp (op_eqX hu) f_eq (DO.frz (do_call0 k__law_led (hr.mono (by decide)) (by rfl) T.f__law_led.g T.f__law_led.F.kp T.f__law_led.b tk (da_cons (DO.frz (do_binS T.s_Motion___add__ k_Motion___add__ (hr.mono (by decide)) T.f_Motion___add__.b tk (dx_var (pv 6)) (dx_var (pv 7)))) (da_cons (dx_tup (da_cons dx_int (da_cons dx_int (da_cons dx_int da_nil)))) da_nil)) (len_cons (len_cons len_nil)))) (DO.frz (do_call0 k__law_led (hr.mono (by decide)) (by rfl) T.f__law_led.g T.f__law_led.F.kp T.f__law_led.b tk (da_cons (DO.frz (do_binS T.s_Motion___add__ k_Motion___add__ (hr.mono (by decide)) T.f_Motion___add__.b tk (dx_var (pv 7)) (dx_var (pv 6)))) (da_cons (dx_tup (da_cons dx_int (da_cons dx_int (da_cons dx_int da_nil)))) da_nil)) (len_cons (len_cons len_nil)))) (nomark _)))) (dss_cons (ds_if (dt_cmp (op_neX hu) f_ne (dx_eqO T.cf T.e_Motion k_Motion___eq__ (hr.mono (by decide)) T.f_Motion___eq__.b (DO.frz (do_binS T.s_Motion___add__ k_Motion___add__ (hr.mono (by decide)) T.f_Motion___add__.b tk (dx_var (pv 6)) (dx_var (pv 7)))) (DO.frz (do_binS T.s_Motion___add__ k_Motion___add__ (hr.mono (by decide)) T.f_Motion___add__.b tk (dx_var (pv 7)) (dx_var (pv 6))))) (dx_var (pv 10)) (nomark _)) (dss_one (ds_ret (DX.own dx_bl))) dss_nil) (dss_cons (ds_if (DW.dt (dw_or (dt_not (dt_val (DO.frz (do_call1 k__law_power_right (hr.mono (by decide)) (by rfl) T.f__law_power_right.g T.f__law_power_right.F.kp T.f__law_power_right.b tk (dr_slot (pv 2) (dr_fz (dx_var (pv 6)) dr_nil)) (lenr_slot (lenr_fz lenr_nil)))))) (dw_or1 (dt_not (dt_val (DO.frz (do_call0 k__law_order_right (hr.mono (by decide)) (by rfl) T.f__law_order_right.g T.f__law_order_right.F.kp T.f__law_order_right.b tk (da_cons (dx_var (pv 6)) da_nil) (len_cons len_nil)))))))) (dss_one (ds_ret (DX.own dx_bl))) dss_nil) (dss_cons (ds_if (DW.dt (dw_or (dt_cmp (op_neX hu) f_ne (dx_eqO T.cf T.e_Motion k_Motion___eq__ (hr.mono (by decide)) T.f_Motion___eq__.b (dx_var (pv 6)) (dx_var (pv 7))) (dx_cmp (op_eqX hu) f_eq (dx_var (pv 4)) (dx_var (pv 5)) (nomark _)) (nomark _)) (dw_or1 (dt_neO T.cf T.e_Motion k_Motion___eq__ (hr.mono (by decide)) T.f_Motion___eq__.b (dx_var (pv 6)) (DO.frz (do_make T.m_Motion k_Motion___init__ (hr.mono (by decide)) (by rfl) T.g_Motion T.f_Motion___init__.b tk (da_cons (dx_ix (dx_var (pv 4)) dx_int) (da_cons (dx_ix (dx_var (pv 4)) dx_int) (da_cons (dx_ix (dx_var (pv 4)) dx_int) da_nil))) (len_cons (len_cons (len_cons len_nil))))))))) (dss_one (ds_ret (DX.own dx_bl))) dss_nil) (dss_cons (ds_asg (dx_var (pv 4)) (dg_tup rfl (dgs_cons (dg_name (i := 11) sc_law.nd rfl (by first | exact Or.inl rfl | exact Or.inr rfl)) (dgs_cons (dg_name (i := 12) sc_law.nd rfl (by first | exact Or.inl rfl | exact Or.inr rfl)) (dgs_cons (dg_name (i := 13) sc_law.nd rfl (by first | exact Or.inl rfl | exact Or.inr rfl)) dgs_nil))))) (dss_cons (ds_set (i := 14) sc_law.nd rfl (by first | exact Or.inl rfl | exact Or.inr rfl) (DO.fz (do_lst (da_cons (dx_tup (da_cons (dx_op2 op_addX f_add (dx_var (pv 11)) dx_int) (da_cons (dx_var (pv 12)) (da_cons (dx_var (pv 13)) da_nil)))) (da_cons (dx_tup (da_cons (dx_var (pv 11)) (da_cons (dx_op2 op_sub f_sub (dx_var (pv 12)) dx_int) (da_cons (dx_var (pv 13)) da_nil)))) (da_cons (dx_tup (da_cons (dx_var (pv 11)) (da_cons (dx_var (pv 12)) (da_cons (dx_op2 op_modN f_mod (dx_op2 op_addX f_add (dx_var (pv 13)) dx_int) dx_int) da_nil)))) (da_cons (dx_tup (da_cons (dx_var (pv 11)) (da_cons (dx_var (pv 12)) (da_cons (dx_op2 op_modN f_mod (dx_op2 op_addX f_add (dx_var (pv 13)) dx_int) dx_int) da_nil)))) da_nil))))))) (dss_cons (ds_for (passes_of rfl) rfl (di_list (DO.frz (do_cat (DX.dq (dx_var (pv 14))) (DO.dq (do_lst (da_cons (dx_tup (da_cons (dx_var (pv 12)) (da_cons (dx_var (pv 11)) (da_cons (dx_var (pv 13)) da_nil)))) (da_cons (dx_tup (da_cons (dx_op2 op_sub f_sub dx_int (dx_var (pv 11))) (da_cons (dx_var (pv 12)) (da_cons (dx_var (pv 13)) da_nil)))) (da_cons (dx_tup (da_cons (dx_var (pv 11)) (da_cons (dx_op2 op_sub f_sub dx_int (dx_var (pv 12))) (da_cons (dx_var (pv 13)) da_nil)))) da_nil)))))))) (dg_tup rfl (dgs_cons (dg_name (i := 15) sc_law.nd rfl (by first | exact Or.inl rfl | exact Or.inr rfl)) (dgs_cons (dg_name (i := 16) sc_law.nd rfl (by first | exact Or.inl rfl | exact Or.inr rfl)) (dgs_cons (dg_name (i := 17) sc_law.nd rfl (by first | exact Or.inl rfl | exact Or.inr rfl)) dgs_nil)))) (dss_one (ds_if (dt_cmp (op_neX hu) f_ne (dx_eqO T.cf T.e_Motion k_Motion___eq__ (hr.mono (by decide)) T.f_Motion___eq__.b (dx_var (pv 6)) (DO.frz (do_make T.m_Motion k_Motion___init__ (hr.mono (by decide)) (by rfl) T.g_Motion T.f_Motion___init__.b tk (da_cons (dx_var (pv 17)) (da_cons (dx_var (pv 15)) (da_cons (dx_var (pv 16)) da_nil))) (len_cons (len_cons (len_cons len_nil)))))) (dx_cmp (op_eqX hu) f_eq (dx_tup (da_cons (dx_var (pv 15)) (da_cons (dx_var (pv 16)) (da_cons (dx_var (pv 17)) da_nil)))) (dx_var (pv 4)) (nomark _)) (nomark _)) (dss_one (ds_ret (DX.own dx_bl))) dss_nil))) (dss_cons (ds_if (DW.dt (dw_or (dt_neO T.cf T.e_Motion k_Motion___eq__ (hr.mono (by decide)) T.f_Motion___eq__.b (DO.frz (do_binS T.s_Motion___add__ k_Motion___add__ (hr.mono (by decide)) T.f_Motion___add__.b tk (dx_var (pv 6)) (DO.frz (do_negO T.a_Motion___neg__ T.i_Motion___neg__ k_Motion___neg__ (hr.mono (by decide)) T.f_Motion___neg__.b tk (dx_var (pv 6)))))) (DO.frz (do_make T.m_Motion k_Motion___init__ (hr.mono (by decide)) (by rfl) T.g_Motion T.f_Motion___init__.b tk (da_cons dx_int (da_cons dx_int (da_cons dx_int da_nil))) (len_cons (len_cons (len_cons len_nil)))))) (dw_or1 (dt_neO T.cf T.e_Motion k_Motion___eq__ (hr.mono (by decide)) T.f_Motion___eq__.b (DO.frz (do_binS T.s_Motion___add__ k_Motion___add__ (hr.mono (by decide)) T.f_Motion___add__.b tk (DO.frz (do_negO T.a_Motion___neg__ T.i_Motion___neg__ k_Motion___neg__ (hr.mono (by decide)) T.f_Motion___neg__.b tk (dx_var (pv 6)))) (dx_var (pv 6)))) (DO.frz (do_make T.m_Motion k_Motion___init__ (hr.mono (by decide)) (by rfl) T.g_Motion T.f_Motion___init__.b tk (da_cons dx_int (da_cons dx_int (da_cons dx_int da_nil))) (len_cons (len_cons (len_cons len_nil))))))))) (dss_one (ds_ret (DX.own dx_bl))) dss_nil) (dss_one (ds_if (dt_cmp (op_neX hu) f_ne (DO.frz (do_comp (own := [("value", 18)]) rfl sc_law.nd (di_list (DO.frz (do_lst (da_cons dx_non (da_cons (dx_var (pv 4)) (da_cons (DO.frz (do_prop (dx_var (pv 6)) T.c_Motion.cl p_Motion_shift k_Motion_shift (hr.mono (by decide)) T.f_Motion_shift.b)) (da_cons dx_int (da_cons dx_str (da_cons (DO.frz (do_prop (dx_var (pv 6)) T.c_Motion.cl p_Motion_turn k_Motion_turn (hr.mono (by decide)) T.f_Motion_turn.b)) (da_cons (DO.frz (do_lst (da_cons (dx_var (pv 6)) da_nil))) da_nil)))))))))) (blkOk_by (N := sc_law_N) (sc := defScope s_law) (own := [("value", 18)]) (by decide +kernel)) (fun _ _ _ _ _ => (dg_name (i := 18) sc_law.nd rfl (by first | exact Or.inl rfl | exact Or.inr rfl))) (fun _ _ _ _ _ => (dts_one (dt_eqO T.cf T.e_Motion k_Motion___eq__ (hr.mono (by decide)) T.f_Motion___eq__.b (dx_var (pv 6)) (dx_var (pv 18))))) (fun _ _ _ _ _ => (dx_var (pv 18))) (by decide) (wip_name))) (DO.frz (do_lst da_nil)) (nomark _)) (dss_one (ds_ret (DX.own dx_bl))) dss_nil)))))))))))))))))))))
    (dss_one (ds_ret (DX.own (dx_and (dx_cmp (op_eqX hu) f_eq (DO.frz (do_call0 k__law_led (hr.mono (by decide)) (by rfl) T.f__law_led.g T.f__law_led.F.kp T.f__law_led.b tk (da_cons (DO.frz (do_make T.m_Motion k_Motion___init__ (hr.mono (by decide)) (by rfl) T.g_Motion T.f_Motion___init__.b tk (da_cons dx_int (da_cons dx_int (da_cons dx_int da_nil))) (len_cons (len_cons (len_cons len_nil))))) (da_cons (dx_tup (da_cons dx_int (da_cons dx_int (da_cons dx_int da_nil)))) da_nil)) (len_cons (len_cons len_nil)))) (dx_tup (da_cons dx_int (da_cons (dx_neg dx_int) (da_cons dx_int da_nil)))) (nomark _)) (dx_and1 (dx_cmp (op_eqX hu) f_eq (DO.frz (do_meth0 (DO.frz (do_make T.m_Motion k_Motion___init__ (hr.mono (by decide)) (by rfl) T.g_Motion T.f_Motion___init__.b tk (da_cons dx_int (da_cons dx_int (da_cons dx_int da_nil))) (len_cons (len_cons (len_cons len_nil))))) T.c_Motion.cl ⟨T.a_Motion_order, T.i_Motion_order, T.f_Motion_order.F.kp⟩ k_Motion_order (hr.mono (by decide)) T.f_Motion_order.b tk)) dx_int (nomark _))))))))
end
theorem all_mk {l : PySem.W.OpenLaw} {w : World} {K : PySem.W.Frag} {h : Heap} {mg : Str → Option Value} {fa f1 f2 f3 f4 f5 f6 f7 f8 f9 f10 f11 f12 f13 f14 f15 f16 f17 f18 f19 f20 f21 f22 f23 C0 : Addr} {tk_MOST_TIMES : Tok} {pp15 : Addr} {pr15 : List Value} {pp16 : Addr} {pr16 : List Value} {fo_Motion___mul__ ro_Motion___mul__ : Option Value} (X : K.In h) (G : h.Ns mainGlobals mg) (hfa : mg "law" = some (.ref fa))
    {od1 an1 od2 an2 od3 an3 od4 an4 od5 an5 od6 an6 od7 an7 od8 an8 od9 an9 od10 an10 od11 an11 od12 an12 od13 an13 od14 an14 od15 an15 od16 an16 od17 an17 od18 an18 od19 an19 od20 an20 od21 an21 od22 an22 od23 an23 : Option Addr} {sl1 sl2 sl3 sl4 sl5 sl6 sl7 sl8 sl9 sl10 sl11 sl12 sl13 sl14 sl15 sl16 sl17 sl18 sl19 sl20 sl21 sl22 sl23 : Array (Option Value)} {oc1 kV1 dc1 pm1 cd1 ct1 oc2 kV2 dc2 pm2 cd2 ct2 oc3 kV3 dc3 pm3 cd3 ct3 oc4 kV4 dc4 pm4 cd4 ct4 oc5 kV5 dc5 pm5 cd5 ct5 oc6 kV6 dc6 pm6 cd6 ct6 oc7 kV7 dc7 pm7 cd7 ct7 oc8 kV8 dc8 pm8 cd8 ct8 oc9 kV9 dc9 pm9 cd9 ct9 oc10 kV10 dc10 pm10 cd10 ct10 oc11 kV11 dc11 pm11 cd11 ct11 oc12 kV12 dc12 pm12 cd12 ct12 oc13 kV13 dc13 pm13 cd13 ct13 oc14 kV14 dc14 pm14 cd14 ct14 oc15 kV15 dc15 pm15 cd15 ct15 oc16 kV16 dc16 pm16 cd16 ct16 oc17 kV17 dc17 pm17 cd17 ct17 oc18 kV18 dc18 pm18 cd18 ct18 oc19 kV19 dc19 pm19 cd19 ct19 oc20 kV20 dc20 pm20 cd20 ct20 oc21 kV21 dc21 pm21 cd21 ct21 oc22 kV22 dc22 pm22 cd22 ct22 oc23 kV23 dc23 pm23 cd23 ct23 : Value}
    (g_Motion : PySem.W.nsIn K mainGlobals "Motion" = some (some (.ref C0)))
    (a1 : PySem.W.nsIn K mainGlobals "_law_tank" = some (some (.ref f1)))
    (l1 : K.lookup f1 = some ⟨oc1, od1, .func (PySem.W.fnOf "_law_tank" "_law_tank" (defArgs s__law_tank) (defBody s__law_tank) (defScope s__law_tank) .none kV1 dc1 pm1 an1 cd1 ct1), sl1⟩)
    (c1 : PySem.W.codeIn K cd1 "_law_tank" = true)
    (k1 : PySem.W.keepIn K (.ref f1) = true)
    (a2 : PySem.W.nsIn K mainGlobals "_law_dip" = some (some (.ref f2)))
    (l2 : K.lookup f2 = some ⟨oc2, od2, .func (PySem.W.fnOf "_law_dip" "_law_dip" (defArgs s__law_dip) (defBody s__law_dip) (defScope s__law_dip) .none kV2 dc2 pm2 an2 cd2 ct2), sl2⟩)
    (c2 : PySem.W.codeIn K cd2 "_law_dip" = true)
    (k2 : PySem.W.keepIn K (.ref f2) = true)
    (a3 : PySem.W.nsIn K mainGlobals "_law_start" = some (some (.ref f3)))
    (l3 : K.lookup f3 = some ⟨oc3, od3, .func (PySem.W.fnOf "_law_start" "_law_start" (defArgs s__law_start) (defBody s__law_start) (defScope s__law_start) .none kV3 dc3 pm3 an3 cd3 ct3), sl3⟩)
    (c3 : PySem.W.codeIn K cd3 "_law_start" = true)
    (k3 : PySem.W.keepIn K (.ref f3) = true)
    (a4 : PySem.W.nsIn K mainGlobals "_law_moved" = some (some (.ref f4)))
    (l4 : K.lookup f4 = some ⟨oc4, od4, .func (PySem.W.fnOf "_law_moved" "_law_moved" (defArgs s__law_moved) (defBody s__law_moved) (defScope s__law_moved) .none kV4 dc4 pm4 an4 cd4 ct4), sl4⟩)
    (c4 : PySem.W.codeIn K cd4 "_law_moved" = true)
    (k4 : PySem.W.keepIn K (.ref f4) = true)
    (a5 : PySem.W.nsIn K mainGlobals "is_int" = some (some (.ref f5)))
    (l5 : K.lookup f5 = some ⟨oc5, od5, .func (PySem.W.fnOf "is_int" "is_int" (defArgs s_is_int) (defBody s_is_int) (defScope s_is_int) .none kV5 dc5 pm5 an5 cd5 ct5), sl5⟩)
    (c5 : PySem.W.codeIn K cd5 "is_int" = true)
    (k5 : PySem.W.keepIn K (.ref f5) = true)
    (a6 : PySem.W.nsIn K mainGlobals "is_point" = some (some (.ref f6)))
    (l6 : K.lookup f6 = some ⟨oc6, od6, .func (PySem.W.fnOf "is_point" "is_point" (defArgs s_is_point) (defBody s_is_point) (defScope s_is_point) .none kV6 dc6 pm6 an6 cd6 ct6), sl6⟩)
    (c6 : PySem.W.codeIn K cd6 "is_point" = true)
    (k6 : PySem.W.keepIn K (.ref f6) = true)
    (a7 : PySem.W.nsIn K mainGlobals "in_range" = some (some (.ref f7)))
    (l7 : K.lookup f7 = some ⟨oc7, od7, .func (PySem.W.fnOf "in_range" "in_range" (defArgs s_in_range) (defBody s_in_range) (defScope s_in_range) .none kV7 dc7 pm7 an7 cd7 ct7), sl7⟩)
    (c7 : PySem.W.codeIn K cd7 "in_range" = true)
    (k7 : PySem.W.keepIn K (.ref f7) = true)
    (a8 : PySem.W.nsIn K mainGlobals "is_pose" = some (some (.ref f8)))
    (l8 : K.lookup f8 = some ⟨oc8, od8, .func (PySem.W.fnOf "is_pose" "is_pose" (defArgs s_is_pose) (defBody s_is_pose) (defScope s_is_pose) .none kV8 dc8 pm8 an8 cd8 ct8), sl8⟩)
    (c8 : PySem.W.codeIn K cd8 "is_pose" = true)
    (k8 : PySem.W.keepIn K (.ref f8) = true)
    (a9 : PySem.W.nsIn K mainGlobals "require_pose" = some (some (.ref f9)))
    (l9 : K.lookup f9 = some ⟨oc9, od9, .func (PySem.W.fnOf "require_pose" "require_pose" (defArgs s_require_pose) (defBody s_require_pose) (defScope s_require_pose) .none kV9 dc9 pm9 an9 cd9 ct9), sl9⟩)
    (c9 : PySem.W.codeIn K cd9 "require_pose" = true)
    (k9 : PySem.W.keepIn K (.ref f9) = true)
    (a10 : PySem.W.nsIn K mainGlobals "turned_point" = some (some (.ref f10)))
    (l10 : K.lookup f10 = some ⟨oc10, od10, .func (PySem.W.fnOf "turned_point" "turned_point" (defArgs s_turned_point) (defBody s_turned_point) (defScope s_turned_point) .none kV10 dc10 pm10 an10 cd10 ct10), sl10⟩)
    (c10 : PySem.W.codeIn K cd10 "turned_point" = true)
    (k10 : PySem.W.keepIn K (.ref f10) = true)
    (a11 : PySem.W.findIn K (.ref C0) "__call__" = some (some (.ref f11)))
    (i11 : PySem.W.isFn K (.ref f11) = true)
    (l11 : K.lookup f11 = some ⟨oc11, od11, .func (PySem.W.fnOf "__call__" "Motion.__call__" (defArgs s_Motion___call__) (defBody s_Motion___call__) (defScope s_Motion___call__) .none kV11 dc11 pm11 an11 cd11 ct11), sl11⟩)
    (c11 : PySem.W.codeIn K cd11 "Motion.__call__" = true)
    (k11 : PySem.W.keepIn K (.ref f11) = true)
    (a12 : PySem.W.nsIn K mainGlobals "_law_led" = some (some (.ref f12)))
    (l12 : K.lookup f12 = some ⟨oc12, od12, .func (PySem.W.fnOf "_law_led" "_law_led" (defArgs s__law_led) (defBody s__law_led) (defScope s__law_led) .none kV12 dc12 pm12 an12 cd12 ct12), sl12⟩)
    (c12 : PySem.W.codeIn K cd12 "_law_led" = true)
    (k12 : PySem.W.keepIn K (.ref f12) = true)
    (a13 : PySem.W.findIn K (.ref C0) "order" = some (some (.ref f13)))
    (i13 : PySem.W.isFn K (.ref f13) = true)
    (l13 : K.lookup f13 = some ⟨oc13, od13, .func (PySem.W.fnOf "order" "Motion.order" (defArgs s_Motion_order) (defBody s_Motion_order) (defScope s_Motion_order) .none kV13 dc13 pm13 an13 cd13 ct13), sl13⟩)
    (c13 : PySem.W.codeIn K cd13 "Motion.order" = true)
    (k13 : PySem.W.keepIn K (.ref f13) = true)
    (a14 : PySem.W.findIn K (.ref C0) "__init__" = some (some (.ref f14)))
    (i14 : PySem.W.isFn K (.ref f14) = true)
    (l14 : K.lookup f14 = some ⟨oc14, od14, .func (PySem.W.fnOf "__init__" "Motion.__init__" (defArgs s_Motion___init__) (defBody s_Motion___init__) (defScope s_Motion___init__) .none kV14 dc14 pm14 an14 cd14 ct14), sl14⟩)
    (c14 : PySem.W.codeIn K cd14 "Motion.__init__" = true)
    (k14 : PySem.W.keepIn K (.ref f14) = true)
    (pa15 : PySem.W.findIn K (.ref C0) "turn" = some (some (.ref pp15)))
    (pb15 : PySem.W.specialIn K (.ref pp15) "__get__" = some (some (.builtin "property.__get__")))
    (pc15 : PySem.W.takesIn K (.ref pp15) = some true)
    (pd15 : PySem.W.recIn K pp15 "property" = some (.ref f15 :: pr15))
    (l15 : K.lookup f15 = some ⟨oc15, od15, .func (PySem.W.fnOf "turn" "Motion.turn" (defArgs s_Motion_turn) (defBody s_Motion_turn) (defScope s_Motion_turn) .none kV15 dc15 pm15 an15 cd15 ct15), sl15⟩)
    (c15 : PySem.W.codeIn K cd15 "Motion.turn" = true)
    (k15 : PySem.W.keepIn K (.ref f15) = true)
    (pa16 : PySem.W.findIn K (.ref C0) "shift" = some (some (.ref pp16)))
    (pb16 : PySem.W.specialIn K (.ref pp16) "__get__" = some (some (.builtin "property.__get__")))
    (pc16 : PySem.W.takesIn K (.ref pp16) = some true)
    (pd16 : PySem.W.recIn K pp16 "property" = some (.ref f16 :: pr16))
    (l16 : K.lookup f16 = some ⟨oc16, od16, .func (PySem.W.fnOf "shift" "Motion.shift" (defArgs s_Motion_shift) (defBody s_Motion_shift) (defScope s_Motion_shift) .none kV16 dc16 pm16 an16 cd16 ct16), sl16⟩)
    (c16 : PySem.W.codeIn K cd16 "Motion.shift" = true)
    (k16 : PySem.W.keepIn K (.ref f16) = true)
    (a17 : PySem.W.findIn K (.ref C0) "__eq__" = some (some (.ref f17)))
    (i17 : PySem.W.isFn K (.ref f17) = true)
    (l17 : K.lookup f17 = some ⟨oc17, od17, .func (PySem.W.fnOf "__eq__" "Motion.__eq__" (defArgs s_Motion___eq__) (defBody s_Motion___eq__) (defScope s_Motion___eq__) .none kV17 dc17 pm17 an17 cd17 ct17), sl17⟩)
    (c17 : PySem.W.codeIn K cd17 "Motion.__eq__" = true)
    (k17 : PySem.W.keepIn K (.ref f17) = true)
    (a18 : PySem.W.findIn K (.ref C0) "__add__" = some (some (.ref f18)))
    (i18 : PySem.W.isFn K (.ref f18) = true)
    (l18 : K.lookup f18 = some ⟨oc18, od18, .func (PySem.W.fnOf "__add__" "Motion.__add__" (defArgs s_Motion___add__) (defBody s_Motion___add__) (defScope s_Motion___add__) .none kV18 dc18 pm18 an18 cd18 ct18), sl18⟩)
    (c18 : PySem.W.codeIn K cd18 "Motion.__add__" = true)
    (k18 : PySem.W.keepIn K (.ref f18) = true)
    (a19 : PySem.W.findIn K (.ref C0) "__neg__" = some (some (.ref f19)))
    (i19 : PySem.W.isFn K (.ref f19) = true)
    (l19 : K.lookup f19 = some ⟨oc19, od19, .func (PySem.W.fnOf "__neg__" "Motion.__neg__" (defArgs s_Motion___neg__) (defBody s_Motion___neg__) (defScope s_Motion___neg__) .none kV19 dc19 pm19 an19 cd19 ct19), sl19⟩)
    (c19 : PySem.W.codeIn K cd19 "Motion.__neg__" = true)
    (k19 : PySem.W.keepIn K (.ref f19) = true)
    (a20 : PySem.W.findIn K (.ref C0) "__mul__" = some (some (.ref f20)))
    (i20 : PySem.W.isFn K (.ref f20) = true)
    (l20 : K.lookup f20 = some ⟨oc20, od20, .func (PySem.W.fnOf "__mul__" "Motion.__mul__" (defArgs s_Motion___mul__) (defBody s_Motion___mul__) (defScope s_Motion___mul__) .none kV20 dc20 pm20 an20 cd20 ct20), sl20⟩)
    (c20 : PySem.W.codeIn K cd20 "Motion.__mul__" = true)
    (k20 : PySem.W.keepIn K (.ref f20) = true)
    (a21 : PySem.W.nsIn K mainGlobals "_law_power_right" = some (some (.ref f21)))
    (l21 : K.lookup f21 = some ⟨oc21, od21, .func (PySem.W.fnOf "_law_power_right" "_law_power_right" (defArgs s__law_power_right) (defBody s__law_power_right) (defScope s__law_power_right) .none kV21 dc21 pm21 an21 cd21 ct21), sl21⟩)
    (c21 : PySem.W.codeIn K cd21 "_law_power_right" = true)
    (k21 : PySem.W.keepIn K (.ref f21) = true)
    (a22 : PySem.W.nsIn K mainGlobals "_law_order_right" = some (some (.ref f22)))
    (l22 : K.lookup f22 = some ⟨oc22, od22, .func (PySem.W.fnOf "_law_order_right" "_law_order_right" (defArgs s__law_order_right) (defBody s__law_order_right) (defScope s__law_order_right) .none kV22 dc22 pm22 an22 cd22 ct22), sl22⟩)
    (c22 : PySem.W.codeIn K cd22 "_law_order_right" = true)
    (k22 : PySem.W.keepIn K (.ref f22) = true)
    (a23 : PySem.W.nsIn K mainGlobals "law" = some (some (.ref f23)))
    (l23 : K.lookup f23 = some ⟨oc23, od23, .func (PySem.W.fnOf "law" "law" (defArgs s_law) (defBody s_law) (defScope s_law) .none kV23 dc23 pm23 an23 cd23 ct23), sl23⟩)
    (c23 : PySem.W.codeIn K cd23 "law" = true)
    (k23 : PySem.W.keepIn K (.ref f23) = true)
    (z_all : PySem.W.nsIn K mainGlobals "all" = some none)
    (z_bool : PySem.W.nsIn K mainGlobals "bool" = some none)
    (z_int : PySem.W.nsIn K mainGlobals "int" = some none)
    (z_isinstance : PySem.W.nsIn K mainGlobals "isinstance" = some none)
    (z_len : PySem.W.nsIn K mainGlobals "len" = some none)
    (z_max : PySem.W.nsIn K mainGlobals "max" = some none)
    (z_min : PySem.W.nsIn K mainGlobals "min" = some none)
    (z_range : PySem.W.nsIn K mainGlobals "range" = some none)
    (z_repr : PySem.W.nsIn K mainGlobals "repr" = some none)
    (z_tuple : PySem.W.nsIn K mainGlobals "tuple" = some none)
    (v_MOST_TIMES : PySem.W.nsIn K mainGlobals "MOST_TIMES" = some (some (.int 1000000000000000000000000000000 tk_MOST_TIMES)))
    (pg_Motion : PySem.W.plainGet K C0 Str.empty = true)
    (hd_Motion : PySem.W.hasDictIn K C0 = true)
    (po_Motion : PySem.W.plainOver K C0 = true)
    (sa_Motion : PySem.W.findIn K (.ref C0) "__setattr__" = some (some (.builtin "object.__setattr__")))
    (ha_Motion : PySem.W.findIn K (.ref C0) "__class__" = some (some (.builtin "object.__class__")))
    (hn_Motion : PySem.W.specialIn K (.builtin "object.__class__") "__get__" = some (some (.builtin "getset_descriptor.__get__")))
    (ht_Motion : PySem.W.takesIn K (.builtin "object.__class__") = some true)
    (hm_Motion : PySem.W.mroIn K C0 (.type "object") = some true)
    (mk_Motion : PySem.W.makesIn K C0 = true)
    (kc_Motion : PySem.W.keepIn K (.ref C0) = true)
    (n_Motion_kept_shift : PySem.W.findIn K (.ref C0) "kept_shift" = some none)
    (n_Motion_kept_turn : PySem.W.findIn K (.ref C0) "kept_turn" = some none)
    (sf_Motion___add__ : PySem.W.selfFirst K C0 = true)
    (sf_Motion___mul__ : PySem.W.selfFirst K C0 = true)
    (r_Motion___mul__ : PySem.W.findIn K (.ref C0) (dunderR (Operator.Mult).info.2) = some none)
    (u_Motion___mul__ : PySem.W.findIn K (.type "int") (PySem.dunder (Operator.Mult).info.2) = some fo_Motion___mul__)
    (w_Motion___mul__ : PySem.W.findIn K (.type "int") (dunderR (Operator.Mult).info.2) = some ro_Motion___mul__)
    (q_Motion___mul__ : PySem.W.subIn K (.type "int") (.ref C0) = some false)
    (ic_Motion : PySem.W.isClsIn K C0 = true)
    (tc_Motion : PySem.W.typeIn K (.ref C0) = some (.type "type"))
    (is_Motion_NoneType : PySem.W.subIn K (.type "NoneType") (.ref C0) = some false)
    (is_Motion_bool : PySem.W.subIn K (.type "bool") (.ref C0) = some false)
    (is_Motion_int : PySem.W.subIn K (.type "int") (.ref C0) = some false)
    (is_Motion_str : PySem.W.subIn K (.type "str") (.ref C0) = some false)
    (is_Motion_tuple : PySem.W.subIn K (.type "tuple") (.ref C0) = some false)
    (is_Motion_list : PySem.W.subIn K (.type "list") (.ref C0) = some false)
    (is_Motion_dict : PySem.W.subIn K (.type "dict") (.ref C0) = some false)
    (it_Motion_Motion : PySem.W.subIn K (.ref C0) (.ref C0) = some true)
    (ne_Motion : PySem.W.findIn K (.ref C0) "__ne__" = some (some (.builtin "object.__ne__")))
    (ob_Motion : PySem.W.subIn K (.ref C0) (.type "object") = some true)
    (nf_Motion_NoneType : PySem.W.notFirst K C0 (.type "NoneType") = true)
    (nf_Motion_bool : PySem.W.notFirst K C0 (.type "bool") = true)
    (nf_Motion_int : PySem.W.notFirst K C0 (.type "int") = true)
    (nf_Motion_str : PySem.W.notFirst K C0 (.type "str") = true)
    (nf_Motion_tuple : PySem.W.notFirst K C0 (.type "tuple") = true)
    (nf_Motion_list : PySem.W.notFirst K C0 (.type "list") = true)
    (nf_Motion_dict : PySem.W.notFirst K C0 (.type "dict") = true)
    (ng_Motion_Motion : PySem.W.notFirst K C0 (.ref C0) = true)
    (fi_Motion : PySem.W.fnIn K f11 = true) :
    ∃ fd : FuncData, (∀ (s : Shared) (v : Value), BindsTo s fd ⟨[v], []⟩ [("script", v)]) ∧ ∀ base : Heap, K.In base → base.Ns mainGlobals mg → ∃ cs : Nat → Addr, CsOk cs ∧ FnG l.prog w K mg base (L2.CX l.prog w) 11 fa fd ["script"] (spD K 1 (m_law cs)) := by
  have e := hfa.symm.trans (PySem.W.mg_of X G a23)
  cases e
  have F1 := fun_mk (st := s__law_tank) l1 c1 k1
  have b1 := F1.binds (ps := ["script", "k"]) fun _ _ _ _ _ _ us hl => match us, hl with | [_, _], _ => rfl
  have F2 := fun_mk (st := s__law_dip) l2 c2 k2
  have b2 := F2.binds (ps := ["tank", "bound"]) fun _ _ _ _ _ _ us hl => match us, hl with | [_, _], _ => rfl
  have F3 := fun_mk (st := s__law_start) l3 c3 k3
  have b3 := F3.binds (ps := ["tank"]) fun _ _ _ _ _ _ us hl => match us, hl with | [_], _ => rfl
  have F4 := fun_mk (st := s__law_moved) l4 c4 k4
  have b4 := F4.binds (ps := ["turn_here", "shift_here", "pose_here"]) fun _ _ _ _ _ _ us hl => match us, hl with | [_, _, _], _ => rfl
  have F5 := fun_mk (st := s_is_int) l5 c5 k5
  have b5 := F5.binds (ps := ["value"]) fun _ _ _ _ _ _ us hl => match us, hl with | [_], _ => rfl
  have F6 := fun_mk (st := s_is_point) l6 c6 k6
  have b6 := F6.binds (ps := ["value"]) fun _ _ _ _ _ _ us hl => match us, hl with | [_], _ => rfl
  have F7 := fun_mk (st := s_in_range) l7 c7 k7
  have b7 := F7.binds (ps := ["value", "low", "high"]) fun _ _ _ _ _ _ us hl => match us, hl with | [_, _, _], _ => rfl
  have F8 := fun_mk (st := s_is_pose) l8 c8 k8
  have b8 := F8.binds (ps := ["value"]) fun _ _ _ _ _ _ us hl => match us, hl with | [_], _ => rfl
  have F9 := fun_mk (st := s_require_pose) l9 c9 k9
  have b9 := F9.binds (ps := ["value"]) fun _ _ _ _ _ _ us hl => match us, hl with | [_], _ => rfl
  have F10 := fun_mk (st := s_turned_point) l10 c10 k10
  have b10 := F10.binds (ps := ["point", "quarters"]) fun _ _ _ _ _ _ us hl => match us, hl with | [_, _], _ => rfl
  have F11 := fun_mk (st := s_Motion___call__) l11 c11 k11
  have b11 := F11.binds (ps := ["self", "pose"]) fun _ _ _ _ _ _ us hl => match us, hl with | [_, _], _ => rfl
  have F12 := fun_mk (st := s__law_led) l12 c12 k12
  have b12 := F12.binds (ps := ["motion_here", "pose_here"]) fun _ _ _ _ _ _ us hl => match us, hl with | [_, _], _ => rfl
  have F13 := fun_mk (st := s_Motion_order) l13 c13 k13
  have b13 := F13.binds (ps := ["self"]) fun _ _ _ _ _ _ us hl => match us, hl with | [_], _ => rfl
  have F14 := fun_mk (st := s_Motion___init__) l14 c14 k14
  have b14 := F14.binds (ps := ["self", "turn", "dx", "dy"]) fun _ _ _ _ _ _ us hl => match us, hl with | [_, _, _, _], _ => rfl
  have F15 := fun_mk (st := s_Motion_turn) l15 c15 k15
  have b15 := F15.binds (ps := ["self"]) fun _ _ _ _ _ _ us hl => match us, hl with | [_], _ => rfl
  have F16 := fun_mk (st := s_Motion_shift) l16 c16 k16
  have b16 := F16.binds (ps := ["self"]) fun _ _ _ _ _ _ us hl => match us, hl with | [_], _ => rfl
  have F17 := fun_mk (st := s_Motion___eq__) l17 c17 k17
  have b17 := F17.binds (ps := ["self", "other"]) fun _ _ _ _ _ _ us hl => match us, hl with | [_, _], _ => rfl
  have F18 := fun_mk (st := s_Motion___add__) l18 c18 k18
  have b18 := F18.binds (ps := ["self", "other"]) fun _ _ _ _ _ _ us hl => match us, hl with | [_, _], _ => rfl
  have F19 := fun_mk (st := s_Motion___neg__) l19 c19 k19
  have b19 := F19.binds (ps := ["self"]) fun _ _ _ _ _ _ us hl => match us, hl with | [_], _ => rfl
  have F20 := fun_mk (st := s_Motion___mul__) l20 c20 k20
  have b20 := F20.binds (ps := ["self", "times"]) fun _ _ _ _ _ _ us hl => match us, hl with | [_, _], _ => rfl
  have F21 := fun_mk (st := s__law_power_right) l21 c21 k21
  have b21 := F21.binds (ps := ["tank", "one"]) fun _ _ _ _ _ _ us hl => match us, hl with | [_, _], _ => rfl
  have F22 := fun_mk (st := s__law_order_right) l22 c22 k22
  have b22 := F22.binds (ps := ["one"]) fun _ _ _ _ _ _ us hl => match us, hl with | [_], _ => rfl
  have F23 := fun_mk (st := s_law) l23 c23 k23
  have b23 := F23.binds (ps := ["script"]) fun _ _ _ _ _ _ us hl => match us, hl with | [_], _ => rfl
  have T : Tx K mg (fun i => match i with | 0 => f1 | 1 => f2 | 2 => f3 | 3 => f4 | 4 => f5 | 5 => f6 | 6 => f7 | 7 => f8 | 8 => f9 | 9 => f10 | 10 => f11 | 11 => f12 | 12 => f13 | 13 => f14 | 14 => f15 | 15 => f16 | 16 => f17 | 17 => f18 | 18 => f19 | 19 => f20 | 20 => f21 | 21 => f22 | 22 => fa | _ => 0) (fun i => match i with | 0 => PySem.W.fnOf "_law_tank" "_law_tank" (defArgs s__law_tank) (defBody s__law_tank) (defScope s__law_tank) .none kV1 dc1 pm1 an1 cd1 ct1 | 1 => PySem.W.fnOf "_law_dip" "_law_dip" (defArgs s__law_dip) (defBody s__law_dip) (defScope s__law_dip) .none kV2 dc2 pm2 an2 cd2 ct2 | 2 => PySem.W.fnOf "_law_start" "_law_start" (defArgs s__law_start) (defBody s__law_start) (defScope s__law_start) .none kV3 dc3 pm3 an3 cd3 ct3 | 3 => PySem.W.fnOf "_law_moved" "_law_moved" (defArgs s__law_moved) (defBody s__law_moved) (defScope s__law_moved) .none kV4 dc4 pm4 an4 cd4 ct4 | 4 => PySem.W.fnOf "is_int" "is_int" (defArgs s_is_int) (defBody s_is_int) (defScope s_is_int) .none kV5 dc5 pm5 an5 cd5 ct5 | 5 => PySem.W.fnOf "is_point" "is_point" (defArgs s_is_point) (defBody s_is_point) (defScope s_is_point) .none kV6 dc6 pm6 an6 cd6 ct6 | 6 => PySem.W.fnOf "in_range" "in_range" (defArgs s_in_range) (defBody s_in_range) (defScope s_in_range) .none kV7 dc7 pm7 an7 cd7 ct7 | 7 => PySem.W.fnOf "is_pose" "is_pose" (defArgs s_is_pose) (defBody s_is_pose) (defScope s_is_pose) .none kV8 dc8 pm8 an8 cd8 ct8 | 8 => PySem.W.fnOf "require_pose" "require_pose" (defArgs s_require_pose) (defBody s_require_pose) (defScope s_require_pose) .none kV9 dc9 pm9 an9 cd9 ct9 | 9 => PySem.W.fnOf "turned_point" "turned_point" (defArgs s_turned_point) (defBody s_turned_point) (defScope s_turned_point) .none kV10 dc10 pm10 an10 cd10 ct10 | 10 => PySem.W.fnOf "__call__" "Motion.__call__" (defArgs s_Motion___call__) (defBody s_Motion___call__) (defScope s_Motion___call__) .none kV11 dc11 pm11 an11 cd11 ct11 | 11 => PySem.W.fnOf "_law_led" "_law_led" (defArgs s__law_led) (defBody s__law_led) (defScope s__law_led) .none kV12 dc12 pm12 an12 cd12 ct12 | 12 => PySem.W.fnOf "order" "Motion.order" (defArgs s_Motion_order) (defBody s_Motion_order) (defScope s_Motion_order) .none kV13 dc13 pm13 an13 cd13 ct13 | 13 => PySem.W.fnOf "__init__" "Motion.__init__" (defArgs s_Motion___init__) (defBody s_Motion___init__) (defScope s_Motion___init__) .none kV14 dc14 pm14 an14 cd14 ct14 | 14 => PySem.W.fnOf "turn" "Motion.turn" (defArgs s_Motion_turn) (defBody s_Motion_turn) (defScope s_Motion_turn) .none kV15 dc15 pm15 an15 cd15 ct15 | 15 => PySem.W.fnOf "shift" "Motion.shift" (defArgs s_Motion_shift) (defBody s_Motion_shift) (defScope s_Motion_shift) .none kV16 dc16 pm16 an16 cd16 ct16 | 16 => PySem.W.fnOf "__eq__" "Motion.__eq__" (defArgs s_Motion___eq__) (defBody s_Motion___eq__) (defScope s_Motion___eq__) .none kV17 dc17 pm17 an17 cd17 ct17 | 17 => PySem.W.fnOf "__add__" "Motion.__add__" (defArgs s_Motion___add__) (defBody s_Motion___add__) (defScope s_Motion___add__) .none kV18 dc18 pm18 an18 cd18 ct18 | 18 => PySem.W.fnOf "__neg__" "Motion.__neg__" (defArgs s_Motion___neg__) (defBody s_Motion___neg__) (defScope s_Motion___neg__) .none kV19 dc19 pm19 an19 cd19 ct19 | 19 => PySem.W.fnOf "__mul__" "Motion.__mul__" (defArgs s_Motion___mul__) (defBody s_Motion___mul__) (defScope s_Motion___mul__) .none kV20 dc20 pm20 an20 cd20 ct20 | 20 => PySem.W.fnOf "_law_power_right" "_law_power_right" (defArgs s__law_power_right) (defBody s__law_power_right) (defScope s__law_power_right) .none kV21 dc21 pm21 an21 cd21 ct21 | 21 => PySem.W.fnOf "_law_order_right" "_law_order_right" (defArgs s__law_order_right) (defBody s__law_order_right) (defScope s__law_order_right) .none kV22 dc22 pm22 an22 cd22 ct22 | 22 => PySem.W.fnOf "law" "law" (defArgs s_law) (defBody s_law) (defScope s_law) .none kV23 dc23 pm23 an23 cd23 ct23 | _ => PySem.W.fnOf "_law_tank" "_law_tank" (defArgs s__law_tank) (defBody s__law_tank) (defScope s__law_tank) .none kV1 dc1 pm1 an1 cd1 ct1) (fun i => match i with | 0 => C0 | _ => 0) := by
    constructor
    · exact ⟨F1, PySem.W.mg_of X G a1, b1⟩
    · exact ⟨F2, PySem.W.mg_of X G a2, b2⟩
    · exact ⟨F3, PySem.W.mg_of X G a3, b3⟩
    · exact ⟨F4, PySem.W.mg_of X G a4, b4⟩
    · exact ⟨F5, PySem.W.mg_of X G a5, b5⟩
    · exact ⟨F6, PySem.W.mg_of X G a6, b6⟩
    · exact ⟨F7, PySem.W.mg_of X G a7, b7⟩
    · exact ⟨F8, PySem.W.mg_of X G a8, b8⟩
    · exact ⟨F9, PySem.W.mg_of X G a9, b9⟩
    · exact ⟨F10, PySem.W.mg_of X G a10, b10⟩
    · exact ⟨F11, b11⟩
    · exact ⟨F12, PySem.W.mg_of X G a12, b12⟩
    · exact ⟨F13, b13⟩
    · exact ⟨F14, b14⟩
    · exact ⟨F15, b15⟩
    · exact ⟨F16, b16⟩
    · exact ⟨F17, b17⟩
    · exact ⟨F18, b18⟩
    · exact ⟨F19, b19⟩
    · exact ⟨F20, b20⟩
    · exact ⟨F21, PySem.W.mg_of X G a21, b21⟩
    · exact ⟨F22, PySem.W.mg_of X G a22, b22⟩
    · exact ⟨F23, PySem.W.mg_of X G a23, b23⟩
    · exact PySem.W.mg_none_of X G z_all
    · exact PySem.W.mg_none_of X G z_bool
    · exact PySem.W.mg_none_of X G z_int
    · exact PySem.W.mg_none_of X G z_isinstance
    · exact PySem.W.mg_none_of X G z_len
    · exact PySem.W.mg_none_of X G z_max
    · exact PySem.W.mg_none_of X G z_min
    · exact PySem.W.mg_none_of X G z_range
    · exact PySem.W.mg_none_of X G z_repr
    · exact PySem.W.mg_none_of X G z_tuple
    · exact ⟨_, PySem.W.mg_of X G v_MOST_TIMES, _, rfl⟩
    · exact PySem.W.mg_of X G g_Motion
    · exact ⟨⟨pg_Motion, hd_Motion, po_Motion, sa_Motion⟩, ha_Motion, hn_Motion, ht_Motion, hm_Motion⟩
    · exact ⟨mk_Motion, a14, i14, kc_Motion⟩
    · exact n_Motion_kept_shift
    · exact n_Motion_kept_turn
    · exact a11
    · exact i11
    · exact a13
    · exact i13
    · exact a14
    · exact i14
    · exact ⟨_, pa15, pb15, pc15, _, pd15⟩
    · exact ⟨_, pa16, pb16, pc16, _, pd16⟩
    · exact a17
    · exact i17
    · exact a18
    · exact i18
    · exact a19
    · exact i19
    · exact a20
    · exact i20
    · exact sf_Motion___add__
    · exact ⟨sf_Motion___add__, a18, i18⟩
    · exact sf_Motion___mul__
    · exact ⟨sf_Motion___mul__, a20, i20⟩
    · exact ⟨_, _, _, ⟨sf_Motion___mul__, a20, i20⟩, r_Motion___mul__, .inl rfl, u_Motion___mul__, w_Motion___mul__, q_Motion___mul__⟩
    · exact ⟨fun n hn => by simp only [bltTys, List.mem_cons, List.not_mem_nil, or_false] at hn; rcases hn with rfl | rfl | rfl | rfl | rfl | rfl | rfl; exact kit_sub ic_Motion tc_Motion is_Motion_NoneType; exact kit_sub ic_Motion tc_Motion is_Motion_bool; exact kit_sub ic_Motion tc_Motion is_Motion_int; exact kit_sub ic_Motion tc_Motion is_Motion_str; exact kit_sub ic_Motion tc_Motion is_Motion_tuple; exact kit_sub ic_Motion tc_Motion is_Motion_list; exact kit_sub ic_Motion tc_Motion is_Motion_dict, fun D hD => by simp only [okC, Bool.or_eq_true, beq_iff_eq] at hD; rcases hD with hD <;> rw [hD]; exact (kit_self.trans (show some true = some (C0 == C0) by rw [beq_self_eq_true]))⟩
    · exact ⟨a17, i17, ne_Motion, ob_Motion, fun n hn => by simp only [bltTys, List.mem_cons, List.not_mem_nil, or_false] at hn; rcases hn with rfl | rfl | rfl | rfl | rfl | rfl | rfl; exact nf_Motion_NoneType; exact nf_Motion_bool; exact nf_Motion_int; exact nf_Motion_str; exact nf_Motion_tuple; exact nf_Motion_list; exact nf_Motion_dict, fun D hD => by simp only [okC, Bool.or_eq_true, beq_iff_eq] at hD; rcases hD with hD <;> rw [hD]; exact ng_Motion_Motion⟩
    · exact ⟨a11, i11, fi_Motion⟩
  exact ⟨PySem.W.fnOf "law" "law" (defArgs s_law) (defBody s_law) (defScope s_law) .none kV23 dc23 pm23 an23 cd23 ct23, fun s v => .of_eq rfl, fun base _ _ => ⟨fun i => match i with | 0 => C0 | _ => 0, True.intro, k_law_ (P := l.prog) (w := w) (base := base) T⟩⟩
/-! ### the tank -/
theorem log2_lt {n k : Nat} (h : n < 2 ^ k) : n.log2 < k + 1 := by
  by_cases e : n = 0
  · subst e; rw [Nat.log2_zero]; omega
  · have := (Nat.log2_lt e).mpr h; omega
theorem mul_ok {i j : Int} {a b : Nat} (hi : i.natAbs < 2 ^ a) (hj : j.natAbs < 2 ^ b) (h : a + b + 1 < 1000000) : dMul (.int i) (.int j) = some (.int (i * j)) := by
  have h1 := log2_lt hi
  have h2 := log2_lt hj
  show (if i.natAbs.log2 + j.natAbs.log2 < 1000000 then some (D.int (i * j)) else none) = _
  rw [if_pos (by omega)]
theorem bits_lt {i : Int} {a : Nat} (hi : i.natAbs < 2 ^ a) : Builtin.Int.intBits i ≤ a + 1 := by
  unfold Builtin.Int.intBits
  have h1 := log2_lt hi
  by_cases e : (i == 0) = true
  · rw [if_pos e]; omega
  · rw [if_neg e]; omega
theorem pow_ok {i : Int} {k a : Nat} (hi : i.natAbs < 2 ^ a) (h : (a + 1) * k ≤ 134217728) : dPow (.int i) (.int k) = some (.int (i ^ k)) := by
  have h1 := bits_lt hi
  have h2 : Builtin.Int.intBits i * k ≤ (a + 1) * k := Nat.mul_le_mul_right k h1
  show (if (0 : Int) ≤ (k : Int) ∧ (Builtin.Int.intBits i : Int) * (k : Int) ≤ 134217728 then some (D.int (i ^ (k : Int).toNat)) else none) = _
  rw [if_pos ⟨Int.natCast_nonneg k, by rw [← Int.natCast_mul]; omega⟩]
  rfl
theorem div_ok {i j : Int} {a : Nat} (hj : j.natAbs < 2 ^ a) (h0 : j ≠ 0) (h : a < 8999) : dDiv (.int i) (.int j) = some (.int (i.fdiv j)) := by
  have h1 := log2_lt hj
  show (if j ≠ 0 ∧ j.natAbs.log2 < 9000 then some (D.int (i.fdiv j)) else none) = _
  rw [if_pos ⟨h0, by omega⟩]
theorem mod_ok {i j : Int} (h0 : j ≠ 0) : dMod (.int i) (.int j) = some (.int (i.fmod j)) := by
  show (if j ≠ 0 then some (D.int (i.fmod j)) else none) = _
  rw [if_pos h0]
/-- a tank after at most n turns of its wheel -/
def Tk (n : Nat) (t : OT) : Prop := ∃ (a b c : Int), t = .ol [.fz (.int a), .fz (.int b), .fz (.int c)] ∧ b.natAbs < 2 ^ 200 ∧ 0 ≤ c ∧ c ≤ n
theorem p10 {k : Nat} {m : Int} (h : (10 : Int) ^ k = m) (hk : 5 * k ≤ 134217728 := by decide) : dPow (.int 10) (.int k) = some (.int m) := by
  rw [pow_ok (a := 4) (by decide) (by omega), h]
theorem tank_ok (cs : Nat → Addr) (ns : List Int) (k : Nat) (hk : k < 1000) : ∃ t, Tk 0 t ∧ m__law_tank cs [.fz (.scr ns), .fz (.int k)] = .ok t ⟨[], [.fz (.scr ns), .fz (.int k)]⟩ := by
  have e18 : dPow (.int 10) (.int 18) = some (.int 1000000000000000000) := p10 (k := 18) (by decide)
  have e39 : dPow (.int 10) (.int 39) = some (.int 1000000000000000000000000000000000000000) := p10 (k := 39) (by decide)
  have em : dMul (.int 70001) (.int k) = some (.int (70001 * k)) := mul_ok (a := 20) (b := 20) (by decide) (by show k < _; omega) (by decide)
  obtain ⟨cell, hc⟩ : ∃ cell : Int, (if (k : Int) < (ns.length : Int) then ns[k]? else some 0) = some cell := by
    by_cases h : k < ns.length
    · exact ⟨ns[k], by rw [if_pos (by omega)]; simp [h]⟩
    · exact ⟨0, by rw [if_neg (by omega)]⟩
  have hmm := Int.emod_nonneg cell (show (1000000000000000000000000000000000000037 : Int) ≠ 0 by decide)
  have hmn := Int.emod_lt_of_pos cell (show (0 : Int) < 1000000000000000000000000000000000000037 by decide)
  refine ⟨.ol [.fz (.int (max 0 (cell - 1000000000000000000))), .fz (.int (cell % 1000000000000000000000000000000000000037 + 70001 * k + 83)), .fz (.int 0)], ⟨_, _, _, rfl, ?_, by omega, by omega⟩, ?_⟩
  · have : (2 : Nat) ^ 200 = 1606938044258990275541962092341162602522202993782792835301376 := by decide
    omega
  · by_cases h : (k : Int) < (ns.length : Int)
    · rw [if_pos h] at hc
      have hk' : k < ns.length := by omega
      have hf : cell.fmod 1000000000000000000000000000000000000037 = cell % 1000000000000000000000000000000000000037 := Int.fmod_eq_emod_of_nonneg _ (by decide)
      have hg : ns[k] = cell := by simpa [hk'] using hc
      simp [m__law_tank_1, m__law_tank_2, m__law_tank_3, m__law_tank_4, m__law_tank, -List.map_map, -List.map_take, -List.map_drop, -List.map_append, -List.map_reverse, asDef, entry, slotsOf, sSeq, sSet, sRet, sIf, sDrop, sNil, sBreak, sCont, sApp, sSetAt, setEnd, sAug, sAsg, sPar, mVar, mSee, mFrz, mTake, mC, mUn, mOp, mNil, mCons, mCall, mCallL, mTup, mLst, mView, mOwn, mFz, mTest, mAnd, mOr, mNot, mIf, mAndV, mOrV, mNotV, mChain, mAt, qSee, qFz, qNew, oNone, oSome, rNil, rSlot, rFz, mCall0, mCall1, oneSlot, noSlot, treesOf, SD.tree, SD.put, SD.putFz, tgN, tgNil, tgCons, tgT, ER.bind, ER.opt, ER.stm, Fl.seq, OT.view, OT.views, OT.items, fzOf, iLst, iTuP, iRange1, iRange2, iZip2, iEnumL, dIx, atI, ixN, dAdd, dSub, dNeg, dLt, dLe, dGt, dGe, dIsN, dNotN, isNonD, dEq, dNe, eqB_int, eqB_str, eqB_bl, eq_2, eq_3, dLen, dIsi, D.isA, tyName, dMod, dMax, dMin, e18, e39, em, h, hk', hg, hf]
    · rw [if_neg h] at hc
      cases hc
      simp [m__law_tank_1, m__law_tank_2, m__law_tank_3, m__law_tank_4, m__law_tank, -List.map_map, -List.map_take, -List.map_drop, -List.map_append, -List.map_reverse, asDef, entry, slotsOf, sSeq, sSet, sRet, sIf, sDrop, sNil, sBreak, sCont, sApp, sSetAt, setEnd, sAug, sAsg, sPar, mVar, mSee, mFrz, mTake, mC, mUn, mOp, mNil, mCons, mCall, mCallL, mTup, mLst, mView, mOwn, mFz, mTest, mAnd, mOr, mNot, mIf, mAndV, mOrV, mNotV, mChain, mAt, qSee, qFz, qNew, oNone, oSome, rNil, rSlot, rFz, mCall0, mCall1, oneSlot, noSlot, treesOf, SD.tree, SD.put, SD.putFz, tgN, tgNil, tgCons, tgT, ER.bind, ER.opt, ER.stm, Fl.seq, OT.view, OT.views, OT.items, fzOf, iLst, iTuP, iRange1, iRange2, iZip2, iEnumL, dIx, atI, ixN, dAdd, dSub, dNeg, dLt, dLe, dGt, dGe, dIsN, dNotN, isNonD, dEq, dNe, eqB_int, eqB_str, eqB_bl, eq_2, eq_3, dLen, dIsi, D.isA, tyName, dMod, dMax, dMin, e18, e39, em, h]
theorem dip_ok (cs : Nat → Addr) {n : Nat} {t : OT} {m : Int} (h : Tk n t) (hn : n < 2 ^ 64) (h1 : 0 < m) (h2 : m.natAbs < 2 ^ 8000) : ∃ (v : Int) (t' : OT), 0 ≤ v ∧ v < m ∧ Tk (n + 1) t' ∧ m__law_dip cs [t, .fz (.int m)] = .ok (.fz (.int v)) ⟨[], [t', .fz (.int m)]⟩ := by
  obtain ⟨a, b, c, rfl, hb, hc, hc2⟩ := h
  have hm0 : ¬ m = 0 := by omega
  by_cases ha : 0 < a
  · refine ⟨a.fmod m, .ol [.fz (.int (a.fdiv m)), .fz (.int b), .fz (.int c)], Int.fmod_nonneg_of_pos _ h1, Int.fmod_lt_of_pos _ h1, ⟨_, _, _, rfl, hb, hc, by omega⟩, ?_⟩
    have e1 := div_ok (i := a) h2 hm0 (by decide)
    simp [m__law_dip_1, m__law_dip_2, m__law_dip_3, m__law_dip_4, m__law_dip_5, m__law_dip_6, m__law_dip_7, m__law_dip_8, m__law_dip, -List.map_map, -List.map_take, -List.map_drop, -List.map_append, -List.map_reverse, asDef, entry, slotsOf, sSeq, sSet, sRet, sIf, sDrop, sNil, sBreak, sCont, sApp, sSetAt, setEnd, sAug, sAsg, sPar, mVar, mSee, mFrz, mTake, mC, mUn, mOp, mNil, mCons, mCall, mCallL, mTup, mLst, mView, mOwn, mFz, mTest, mAnd, mOr, mNot, mIf, mAndV, mOrV, mNotV, mChain, mAt, qSee, qFz, qNew, oNone, oSome, rNil, rSlot, rFz, mCall0, mCall1, oneSlot, noSlot, treesOf, SD.tree, SD.put, SD.putFz, tgN, tgNil, tgCons, tgT, ER.bind, ER.opt, ER.stm, Fl.seq, OT.view, OT.views, OT.items, fzOf, iLst, iTuP, iRange1, iRange2, iZip2, iEnumL, dIx, atI, ixN, dAdd, dSub, dNeg, dLt, dLe, dGt, dGe, dIsN, dNotN, isNonD, dEq, dNe, eqB_int, eqB_str, eqB_bl, eq_2, eq_3, dLen, dIsi, D.isA, tyName, dMod, dMax, dMin, ha, hm0, e1]
  · have e42 : dPow (.int 10) (.int 42) = some (.int 1000000000000000000000000000000000000000000) := p10 (k := 42) (by decide)
    have e41 : dPow (.int 10) (.int 41) = some (.int 100000000000000000000000000000000000000000) := p10 (k := 41) (by decide)
    have b200 : (2 : Nat) ^ 200 = 1606938044258990275541962092341162602522202993782792835301376 := by decide
    have b201 : (2 : Nat) ^ 201 = 3213876088517980551083924184682325205044405987565585670602752 := by decide
    have m1 : dMul (.int 86028157) (.int (c + 1)) = some (.int (86028157 * (c + 1))) := mul_ok (a := 100) (b := 100) (by decide) (by omega) (by decide)
    have m2 : dMul (.int 49979693) (.int (c + 1)) = some (.int (49979693 * (c + 1))) := mul_ok (a := 100) (b := 100) (by decide) (by omega) (by decide)
    have q1 : dPow (.int (b + 86028157 * (c + 1))) (.int 3) = some (.int ((b + 86028157 * (c + 1)) ^ 3)) := pow_ok (a := 201) (k := 3) (by omega) (by decide)
    obtain ⟨x, hx⟩ : ∃ x, x = ((b + 86028157 * (c + 1)) ^ 3).fmod 1000000000000000000000000000000000000000063 := ⟨_, rfl⟩
    have x0 : 0 ≤ x := by rw [hx]; exact Int.fmod_nonneg_of_pos _ (by decide)
    have x1 : x < 1000000000000000000000000000000000000000063 := by rw [hx]; exact Int.fmod_lt_of_pos _ (by decide)
    have q2 : dPow (.int (x + 49979693 * (c + 1))) (.int 3) = some (.int ((x + 49979693 * (c + 1)) ^ 3)) := pow_ok (a := 201) (k := 3) (by omega) (by decide)
    have d1 : ∀ z : Int, dDiv (.int z) (.int 655373) = some (.int (z.fdiv 655373)) := fun z => div_ok (a := 30) (by decide) (by decide) (by decide)
    refine ⟨((((x + 49979693 * (c + 1)) ^ 3).fmod 100000000000000000000000000000000000000037).fdiv 655373).fmod m, .ol [.fz (.int a), .fz (.int b), .fz (.int (c + 1))], Int.fmod_nonneg_of_pos _ h1, Int.fmod_lt_of_pos _ h1, ⟨_, _, _, rfl, hb, by omega, by omega⟩, ?_⟩
    simp [m__law_dip_1, m__law_dip_2, m__law_dip_3, m__law_dip_4, m__law_dip_5, m__law_dip_6, m__law_dip_7, m__law_dip_8, m__law_dip, -List.map_map, -List.map_take, -List.map_drop, -List.map_append, -List.map_reverse, asDef, entry, slotsOf, sSeq, sSet, sRet, sIf, sDrop, sNil, sBreak, sCont, sApp, sSetAt, setEnd, sAug, sAsg, sPar, mVar, mSee, mFrz, mTake, mC, mUn, mOp, mNil, mCons, mCall, mCallL, mTup, mLst, mView, mOwn, mFz, mTest, mAnd, mOr, mNot, mIf, mAndV, mOrV, mNotV, mChain, mAt, qSee, qFz, qNew, oNone, oSome, rNil, rSlot, rFz, mCall0, mCall1, oneSlot, noSlot, treesOf, SD.tree, SD.put, SD.putFz, tgN, tgNil, tgCons, tgT, ER.bind, ER.opt, ER.stm, Fl.seq, OT.view, OT.views, OT.items, fzOf, iLst, iTuP, iRange1, iRange2, iZip2, iEnumL, dIx, atI, ixN, dAdd, dSub, dNeg, dLt, dLe, dGt, dGe, dIsN, dNotN, isNonD, dEq, dNe, eqB_int, eqB_str, eqB_bl, eq_2, eq_3, dLen, dIsi, D.isA, tyName, dMod, dMax, dMin, ha, hm0, e42, e41, m1, m2, q1, ← hx, q2, d1]
/-! ### a motion -/
def rx (q x y : Int) : Int := if q = 0 then x else if q = 1 then -y else if q = 2 then -x else y
def ry (q x y : Int) : Int := if q = 0 then y else if q = 1 then x else if q = 2 then -y else -x
structure Mo where
  t : Int
  x : Int
  y : Int
def Mo.ok (m : Mo) : Prop := 0 ≤ m.t ∧ m.t ≤ 3
def mo (cs : Nat → Addr) (m : Mo) : D := .ins (cs 0) ["kept_turn", "kept_shift"] [.int m.t, .tup [.int m.x, .int m.y]]
def moO (cs : Nat → Addr) (m : Mo) : OT := .oi (cs 0) ["kept_turn", "kept_shift"] [.fz (.int m.t), .fz (.tup [.int m.x, .int m.y])]
theorem nts : ¬ (Str.ofString "kept_turn" = Str.ofString "kept_shift") := by decide
theorem nst : ¬ (Str.ofString "kept_shift" = Str.ofString "kept_turn") := by decide
def po (x y h : Int) : D := .tup [.int x, .int y, .int h]
theorem four (q : Int) : q.fmod 4 = q % 4 := Int.fmod_eq_emod_of_nonneg _ (by decide)
theorem is_int_ok (cs : Nat → Addr) (z : Int) : m_is_int cs [.fz (.int z)] = .ok (.fz (.bl true)) ⟨[], [.fz (.int z)]⟩ := by
  simp [m_is_int_1, m_is_int, -List.map_map, -List.map_take, -List.map_drop, -List.map_append, -List.map_reverse, asDef, entry, slotsOf, sSeq, sSet, sRet, sIf, sDrop, sNil, sBreak, sCont, sApp, sSetAt, setEnd, sAug, sAsg, sPar, mVar, mSee, mFrz, mTake, mC, mUn, mOp, mNil, mCons, mCall, mCallL, mTup, mLst, mView, mOwn, mFz, mTest, mAnd, mOr, mNot, mIf, mAndV, mOrV, mNotV, mChain, mAt, qSee, qFz, qNew, oNone, oSome, rNil, rSlot, rFz, mCall0, mCall1, oneSlot, noSlot, treesOf, SD.tree, SD.put, SD.putFz, tgN, tgNil, tgCons, tgT, ER.bind, ER.opt, ER.stm, Fl.seq, OT.view, OT.views, OT.items, fzOf, iLst, iTuP, iRange1, iRange2, iZip2, iEnumL, dIx, atI, ixN, dAdd, dSub, dNeg, dLt, dLe, dGt, dGe, dIsN, dNotN, isNonD, dEq, dNe, eqB_int, eqB_str, eqB_bl, eq_2, eq_3, dLen, dIsi, D.isA, tyName, dMod, dMax, dMin, mFld, fldD, mMake, mOwn2, mOwn1, mCallIns, mProp, mMeth, mB2, callFz, callFzQ, sFldSet, putO, idxN, cSame, cInt, D.isIns, D.isInt, dIsO, D.tyv, okC, sPar3, mCutX, mCat, dAll, boolsOf, sFor, goFor, rangeD, List.range, List.range.loop, sNever, nts, nst]
theorem in_range_ok (cs : Nat → Addr) (z a b : Int) : m_in_range cs [.fz (.int z), .fz (.int a), .fz (.int b)] = .ok (.fz (.bl (decide (a ≤ z) && decide (z ≤ b)))) ⟨[], [.fz (.int z), .fz (.int a), .fz (.int b)]⟩ := by
  by_cases h : a ≤ z <;> simp [m_in_range_1, m_in_range, -List.map_map, -List.map_take, -List.map_drop, -List.map_append, -List.map_reverse, asDef, entry, slotsOf, sSeq, sSet, sRet, sIf, sDrop, sNil, sBreak, sCont, sApp, sSetAt, setEnd, sAug, sAsg, sPar, mVar, mSee, mFrz, mTake, mC, mUn, mOp, mNil, mCons, mCall, mCallL, mTup, mLst, mView, mOwn, mFz, mTest, mAnd, mOr, mNot, mIf, mAndV, mOrV, mNotV, mChain, mAt, qSee, qFz, qNew, oNone, oSome, rNil, rSlot, rFz, mCall0, mCall1, oneSlot, noSlot, treesOf, SD.tree, SD.put, SD.putFz, tgN, tgNil, tgCons, tgT, ER.bind, ER.opt, ER.stm, Fl.seq, OT.view, OT.views, OT.items, fzOf, iLst, iTuP, iRange1, iRange2, iZip2, iEnumL, dIx, atI, ixN, dAdd, dSub, dNeg, dLt, dLe, dGt, dGe, dIsN, dNotN, isNonD, dEq, dNe, eqB_int, eqB_str, eqB_bl, eq_2, eq_3, dLen, dIsi, D.isA, tyName, dMod, dMax, dMin, mFld, fldD, mMake, mOwn2, mOwn1, mCallIns, mProp, mMeth, mB2, callFz, callFzQ, sFldSet, putO, idxN, cSame, cInt, D.isIns, D.isInt, dIsO, D.tyv, okC, sPar3, mCutX, mCat, dAll, boolsOf, sFor, goFor, rangeD, List.range, List.range.loop, sNever, nts, nst, is_int_ok, h]
theorem turned_ok (cs : Nat → Addr) (x y q : Int) : ∃ sd, m_turned_point cs [.fz (.tup [.int x, .int y]), .fz (.int q)] = .ok (.fz (.tup [.int (rx (q % 4) x y), .int (ry (q % 4) x y)])) sd := by
  have h4 : q % 4 = 0 ∨ q % 4 = 1 ∨ q % 4 = 2 ∨ q % 4 = 3 := by omega
  rcases h4 with h | h | h | h <;> simp [m_turned_point_1, m_turned_point_2, m_turned_point_b1, m_turned_point_3, m_turned_point_4, m_turned_point, -List.map_map, -List.map_take, -List.map_drop, -List.map_append, -List.map_reverse, asDef, entry, slotsOf, sSeq, sSet, sRet, sIf, sDrop, sNil, sBreak, sCont, sApp, sSetAt, setEnd, sAug, sAsg, sPar, mVar, mSee, mFrz, mTake, mC, mUn, mOp, mNil, mCons, mCall, mCallL, mTup, mLst, mView, mOwn, mFz, mTest, mAnd, mOr, mNot, mIf, mAndV, mOrV, mNotV, mChain, mAt, qSee, qFz, qNew, oNone, oSome, rNil, rSlot, rFz, mCall0, mCall1, oneSlot, noSlot, treesOf, SD.tree, SD.put, SD.putFz, tgN, tgNil, tgCons, tgT, ER.bind, ER.opt, ER.stm, Fl.seq, OT.view, OT.views, OT.items, fzOf, iLst, iTuP, iRange1, iRange2, iZip2, iEnumL, dIx, atI, ixN, dAdd, dSub, dNeg, dLt, dLe, dGt, dGe, dIsN, dNotN, isNonD, dEq, dNe, eqB_int, eqB_str, eqB_bl, eq_2, eq_3, dLen, dIsi, D.isA, tyName, dMod, dMax, dMin, mFld, fldD, mMake, mOwn2, mOwn1, mCallIns, mProp, mMeth, mB2, callFz, callFzQ, sFldSet, putO, idxN, cSame, cInt, D.isIns, D.isInt, dIsO, D.tyv, okC, sPar3, mCutX, mCat, dAll, boolsOf, sFor, goFor, rangeD, List.range, List.range.loop, sNever, nts, nst, four, h, rx, ry]
theorem is_point_ok (cs : Nat → Addr) (x y : Int) : ∃ sd, m_is_point cs [.fz (.tup [.int x, .int y])] = .ok (.fz (.bl true)) sd := by
  have c : ∀ sd : SD, sd = ⟨[.ow (.fz (.tup [.int x, .int y])), .un], [.fz (.tup [.int x, .int y])]⟩ → m_is_point_c2 cs sd = .ok (.ol (([D.bl true, D.bl true]).map .fz)) sd := by
    intro sd e
    subst e
    refine mComp_map ([x, y] : List Int) D.int (fun _ => D.bl true) rfl (by show 2 ≤ _; omega) fun n hn => ⟨⟨[.ow (.fz (.tup [.int x, .int y])), .ow (.fz (.int n))], [.fz (.tup [.int x, .int y])]⟩, rfl, rfl, ?_⟩
    simp [-List.map_map, -List.map_take, -List.map_drop, -List.map_append, -List.map_reverse, asDef, entry, slotsOf, sSeq, sSet, sRet, sIf, sDrop, sNil, sBreak, sCont, sApp, sSetAt, setEnd, sAug, sAsg, sPar, mVar, mSee, mFrz, mTake, mC, mUn, mOp, mNil, mCons, mCall, mCallL, mTup, mLst, mView, mOwn, mFz, mTest, mAnd, mOr, mNot, mIf, mAndV, mOrV, mNotV, mChain, mAt, qSee, qFz, qNew, oNone, oSome, rNil, rSlot, rFz, mCall0, mCall1, oneSlot, noSlot, treesOf, SD.tree, SD.put, SD.putFz, tgN, tgNil, tgCons, tgT, ER.bind, ER.opt, ER.stm, Fl.seq, OT.view, OT.views, OT.items, fzOf, iLst, iTuP, iRange1, iRange2, iZip2, iEnumL, dIx, atI, ixN, dAdd, dSub, dNeg, dLt, dLe, dGt, dGe, dIsN, dNotN, isNonD, dEq, dNe, eqB_int, eqB_str, eqB_bl, eq_2, eq_3, dLen, dIsi, D.isA, tyName, dMod, dMax, dMin, mFld, fldD, mMake, mOwn2, mOwn1, mCallIns, mProp, mMeth, mB2, callFz, callFzQ, sFldSet, putO, idxN, cSame, cInt, D.isIns, D.isInt, dIsO, D.tyv, okC, sPar3, mCutX, mCat, dAll, boolsOf, sFor, goFor, rangeD, List.range, List.range.loop, sNever, nts, nst, is_int_ok]
  have c := c _ rfl
  simp [m_is_point, m_is_point_1, -List.map_map, -List.map_take, -List.map_drop, -List.map_append, -List.map_reverse, asDef, entry, slotsOf, sSeq, sSet, sRet, sIf, sDrop, sNil, sBreak, sCont, sApp, sSetAt, setEnd, sAug, sAsg, sPar, mVar, mSee, mFrz, mTake, mC, mUn, mOp, mNil, mCons, mCall, mCallL, mTup, mLst, mView, mOwn, mFz, mTest, mAnd, mOr, mNot, mIf, mAndV, mOrV, mNotV, mChain, mAt, qSee, qFz, qNew, oNone, oSome, rNil, rSlot, rFz, mCall0, mCall1, oneSlot, noSlot, treesOf, SD.tree, SD.put, SD.putFz, tgN, tgNil, tgCons, tgT, ER.bind, ER.opt, ER.stm, Fl.seq, OT.view, OT.views, OT.items, fzOf, iLst, iTuP, iRange1, iRange2, iZip2, iEnumL, dIx, atI, ixN, dAdd, dSub, dNeg, dLt, dLe, dGt, dGe, dIsN, dNotN, isNonD, dEq, dNe, eqB_int, eqB_str, eqB_bl, eq_2, eq_3, dLen, dIsi, D.isA, tyName, dMod, dMax, dMin, mFld, fldD, mMake, mOwn2, mOwn1, mCallIns, mProp, mMeth, mB2, callFz, callFzQ, sFldSet, putO, idxN, cSame, cInt, D.isIns, D.isInt, dIsO, D.tyv, okC, sPar3, mCutX, mCat, dAll, boolsOf, sFor, goFor, rangeD, List.range, List.range.loop, sNever, nts, nst, c]
theorem is_pose_ok (cs : Nat → Addr) (x y h : Int) (h0 : 0 ≤ h) (h3 : h ≤ 3) : ∃ sd, m_is_pose cs [.fz (po x y h)] = .ok (.fz (.bl true)) sd := by
  obtain ⟨sd, e⟩ := is_point_ok cs x y
  have c : cutL [D.int x, D.int y, D.int h] none (some 2) = [.int x, .int y] := rfl
  simp [m_is_pose_1, m_is_pose_2, m_is_pose_3, m_is_pose, -List.map_map, -List.map_take, -List.map_drop, -List.map_append, -List.map_reverse, asDef, entry, slotsOf, sSeq, sSet, sRet, sIf, sDrop, sNil, sBreak, sCont, sApp, sSetAt, setEnd, sAug, sAsg, sPar, mVar, mSee, mFrz, mTake, mC, mUn, mOp, mNil, mCons, mCall, mCallL, mTup, mLst, mView, mOwn, mFz, mTest, mAnd, mOr, mNot, mIf, mAndV, mOrV, mNotV, mChain, mAt, qSee, qFz, qNew, oNone, oSome, rNil, rSlot, rFz, mCall0, mCall1, oneSlot, noSlot, treesOf, SD.tree, SD.put, SD.putFz, tgN, tgNil, tgCons, tgT, ER.bind, ER.opt, ER.stm, Fl.seq, OT.view, OT.views, OT.items, fzOf, iLst, iTuP, iRange1, iRange2, iZip2, iEnumL, dIx, atI, ixN, dAdd, dSub, dNeg, dLt, dLe, dGt, dGe, dIsN, dNotN, isNonD, dEq, dNe, eqB_int, eqB_str, eqB_bl, eq_2, eq_3, dLen, dIsi, D.isA, tyName, dMod, dMax, dMin, mFld, fldD, mMake, mOwn2, mOwn1, mCallIns, mProp, mMeth, mB2, callFz, callFzQ, sFldSet, putO, idxN, cSame, cInt, D.isIns, D.isInt, dIsO, D.tyv, okC, sPar3, mCutX, mCat, dAll, boolsOf, sFor, goFor, rangeD, List.range, List.range.loop, sNever, nts, nst, po, e, c, in_range_ok, h0, h3]
theorem require_ok (cs : Nat → Addr) (x y h : Int) (h0 : 0 ≤ h) (h3 : h ≤ 3) : ∃ sd, m_require_pose cs [.fz (po x y h)] = .ok (.fz .non) sd := by
  obtain ⟨sd, e⟩ := is_pose_ok cs x y h h0 h3
  simp [m_require_pose_1, m_require_pose_2, m_require_pose, -List.map_map, -List.map_take, -List.map_drop, -List.map_append, -List.map_reverse, asDef, entry, slotsOf, sSeq, sSet, sRet, sIf, sDrop, sNil, sBreak, sCont, sApp, sSetAt, setEnd, sAug, sAsg, sPar, mVar, mSee, mFrz, mTake, mC, mUn, mOp, mNil, mCons, mCall, mCallL, mTup, mLst, mView, mOwn, mFz, mTest, mAnd, mOr, mNot, mIf, mAndV, mOrV, mNotV, mChain, mAt, qSee, qFz, qNew, oNone, oSome, rNil, rSlot, rFz, mCall0, mCall1, oneSlot, noSlot, treesOf, SD.tree, SD.put, SD.putFz, tgN, tgNil, tgCons, tgT, ER.bind, ER.opt, ER.stm, Fl.seq, OT.view, OT.views, OT.items, fzOf, iLst, iTuP, iRange1, iRange2, iZip2, iEnumL, dIx, atI, ixN, dAdd, dSub, dNeg, dLt, dLe, dGt, dGe, dIsN, dNotN, isNonD, dEq, dNe, eqB_int, eqB_str, eqB_bl, eq_2, eq_3, dLen, dIsi, D.isA, tyName, dMod, dMax, dMin, mFld, fldD, mMake, mOwn2, mOwn1, mCallIns, mProp, mMeth, mB2, callFz, callFzQ, sFldSet, putO, idxN, cSame, cInt, D.isIns, D.isInt, dIsO, D.tyv, okC, sPar3, mCutX, mCat, dAll, boolsOf, sFor, goFor, rangeD, List.range, List.range.loop, sNever, nts, nst, e]
def Mo.ap (m : Mo) (x y h : Int) : D := po (x + rx h m.x m.y) (y + ry h m.x m.y) ((h + m.t) % 4)
theorem call_ok (cs : Nat → Addr) (m : Mo) (x y h : Int) (h0 : 0 ≤ h) (h3 : h ≤ 3) : ∃ sd, m_Motion___call__ cs [.fz (mo cs m), .fz (po x y h)] = .ok (.fz (m.ap x y h)) sd := by
  obtain ⟨sd, e⟩ := require_ok cs x y h h0 h3
  obtain ⟨sd2, e2⟩ := turned_ok cs m.x m.y h
  have hh : h % 4 = h := by omega
  rw [hh] at e2
  unfold po at e
  simp [m_Motion___call___1, m_Motion___call___2, m_Motion___call___3, m_Motion___call___4, m_Motion___call__, -List.map_map, -List.map_take, -List.map_drop, -List.map_append, -List.map_reverse, asDef, entry, slotsOf, sSeq, sSet, sRet, sIf, sDrop, sNil, sBreak, sCont, sApp, sSetAt, setEnd, sAug, sAsg, sPar, mVar, mSee, mFrz, mTake, mC, mUn, mOp, mNil, mCons, mCall, mCallL, mTup, mLst, mView, mOwn, mFz, mTest, mAnd, mOr, mNot, mIf, mAndV, mOrV, mNotV, mChain, mAt, qSee, qFz, qNew, oNone, oSome, rNil, rSlot, rFz, mCall0, mCall1, oneSlot, noSlot, treesOf, SD.tree, SD.put, SD.putFz, tgN, tgNil, tgCons, tgT, ER.bind, ER.opt, ER.stm, Fl.seq, OT.view, OT.views, OT.items, fzOf, iLst, iTuP, iRange1, iRange2, iZip2, iEnumL, dIx, atI, ixN, dAdd, dSub, dNeg, dLt, dLe, dGt, dGe, dIsN, dNotN, isNonD, dEq, dNe, eqB_int, eqB_str, eqB_bl, eq_2, eq_3, dLen, dIsi, D.isA, tyName, dMod, dMax, dMin, mFld, fldD, mMake, mOwn2, mOwn1, mCallIns, mProp, mMeth, mB2, callFz, callFzQ, sFldSet, putO, idxN, cSame, cInt, D.isIns, D.isInt, dIsO, D.tyv, okC, sPar3, mCutX, mCat, dAll, boolsOf, sFor, goFor, rangeD, List.range, List.range.loop, sNever, nts, nst, mo, po, e, e2, four, Mo.ap]
theorem led_ok (cs : Nat → Addr) (m : Mo) (x y h : Int) (h0 : 0 ≤ h) (h3 : h ≤ 3) : ∃ sd, m__law_led cs [.fz (mo cs m), .fz (po x y h)] = .ok (.fz (m.ap x y h)) sd := by
  obtain ⟨sd, e⟩ := call_ok cs m x y h h0 h3
  unfold mo at e
  simp [m__law_led_1, m__law_led, -List.map_map, -List.map_take, -List.map_drop, -List.map_append, -List.map_reverse, asDef, entry, slotsOf, sSeq, sSet, sRet, sIf, sDrop, sNil, sBreak, sCont, sApp, sSetAt, setEnd, sAug, sAsg, sPar, mVar, mSee, mFrz, mTake, mC, mUn, mOp, mNil, mCons, mCall, mCallL, mTup, mLst, mView, mOwn, mFz, mTest, mAnd, mOr, mNot, mIf, mAndV, mOrV, mNotV, mChain, mAt, qSee, qFz, qNew, oNone, oSome, rNil, rSlot, rFz, mCall0, mCall1, oneSlot, noSlot, treesOf, SD.tree, SD.put, SD.putFz, tgN, tgNil, tgCons, tgT, ER.bind, ER.opt, ER.stm, Fl.seq, OT.view, OT.views, OT.items, fzOf, iLst, iTuP, iRange1, iRange2, iZip2, iEnumL, dIx, atI, ixN, dAdd, dSub, dNeg, dLt, dLe, dGt, dGe, dIsN, dNotN, isNonD, dEq, dNe, eqB_int, eqB_str, eqB_bl, eq_2, eq_3, dLen, dIsi, D.isA, tyName, dMod, dMax, dMin, mFld, fldD, mMake, mOwn2, mOwn1, mCallIns, mProp, mMeth, mB2, callFz, callFzQ, sFldSet, putO, idxN, cSame, cInt, D.isIns, D.isInt, dIsO, D.tyv, okC, sPar3, mCutX, mCat, dAll, boolsOf, sFor, goFor, rangeD, List.range, List.range.loop, sNever, nts, nst, mo, e]
theorem init_ok (cs : Nat → Addr) (t x y : Int) (h0 : 0 ≤ t) (h3 : t ≤ 3) : ∃ r, m_Motion___init__ cs [.oi (cs 0) [] [], .fz (.int t), .fz (.int x), .fz (.int y)] = .ok (.fz .non) ⟨[], moO cs ⟨t, x, y⟩ :: r⟩ := by
  simp [m_Motion___init___1, m_Motion___init___2, m_Motion___init___3, m_Motion___init___4, m_Motion___init__, -List.map_map, -List.map_take, -List.map_drop, -List.map_append, -List.map_reverse, asDef, entry, slotsOf, sSeq, sSet, sRet, sIf, sDrop, sNil, sBreak, sCont, sApp, sSetAt, setEnd, sAug, sAsg, sPar, mVar, mSee, mFrz, mTake, mC, mUn, mOp, mNil, mCons, mCall, mCallL, mTup, mLst, mView, mOwn, mFz, mTest, mAnd, mOr, mNot, mIf, mAndV, mOrV, mNotV, mChain, mAt, qSee, qFz, qNew, oNone, oSome, rNil, rSlot, rFz, mCall0, mCall1, oneSlot, noSlot, treesOf, SD.tree, SD.put, SD.putFz, tgN, tgNil, tgCons, tgT, ER.bind, ER.opt, ER.stm, Fl.seq, OT.view, OT.views, OT.items, fzOf, iLst, iTuP, iRange1, iRange2, iZip2, iEnumL, dIx, atI, ixN, dAdd, dSub, dNeg, dLt, dLe, dGt, dGe, dIsN, dNotN, isNonD, dEq, dNe, eqB_int, eqB_str, eqB_bl, eq_2, eq_3, dLen, dIsi, D.isA, tyName, dMod, dMax, dMin, mFld, fldD, mMake, mOwn2, mOwn1, mCallIns, mProp, mMeth, mB2, callFz, callFzQ, sFldSet, putO, idxN, cSame, cInt, D.isIns, D.isInt, dIsO, D.tyv, okC, sPar3, mCutX, mCat, dAll, boolsOf, sFor, goFor, rangeD, List.range, List.range.loop, sNever, nts, nst, in_range_ok, is_int_ok, h0, h3, moO]
theorem mo_view (cs : Nat → Addr) (m : Mo) : (moO cs m).view = mo cs m := by
  simp [moO, mo, OT.view, OT.views]
def Mo.add (a b : Mo) : Mo := ⟨(a.t + b.t) % 4, a.x + rx a.t b.x b.y, a.y + ry a.t b.x b.y⟩
theorem add_ok (cs : Nat → Addr) (a b : Mo) (ha : a.ok) : ∃ sd, m_Motion___add__ cs [.fz (mo cs a), .fz (mo cs b)] = .ok (moO cs (a.add b)) sd := by
  obtain ⟨sd2, e2⟩ := turned_ok cs b.x b.y a.t
  obtain ⟨r, e⟩ := init_ok cs ((a.t + b.t) % 4) (a.x + rx a.t b.x b.y) (a.y + ry a.t b.x b.y) (by omega) (by omega)
  have hh : a.t % 4 = a.t := by have := ha.1; have := ha.2; omega
  rw [hh] at e2
  simp [m_Motion___add___1, m_Motion___add___2, m_Motion___add___3, m_Motion___add___4, m_Motion___add__, -List.map_map, -List.map_take, -List.map_drop, -List.map_append, -List.map_reverse, asDef, entry, slotsOf, sSeq, sSet, sRet, sIf, sDrop, sNil, sBreak, sCont, sApp, sSetAt, setEnd, sAug, sAsg, sPar, mVar, mSee, mFrz, mTake, mC, mUn, mOp, mNil, mCons, mCall, mCallL, mTup, mLst, mView, mOwn, mFz, mTest, mAnd, mOr, mNot, mIf, mAndV, mOrV, mNotV, mChain, mAt, qSee, qFz, qNew, oNone, oSome, rNil, rSlot, rFz, mCall0, mCall1, oneSlot, noSlot, treesOf, SD.tree, SD.put, SD.putFz, tgN, tgNil, tgCons, tgT, ER.bind, ER.opt, ER.stm, Fl.seq, OT.view, OT.views, OT.items, fzOf, iLst, iTuP, iRange1, iRange2, iZip2, iEnumL, dIx, atI, ixN, dAdd, dSub, dNeg, dLt, dLe, dGt, dGe, dIsN, dNotN, isNonD, dEq, dNe, eqB_int, eqB_str, eqB_bl, eq_2, eq_3, dLen, dIsi, D.isA, tyName, dMod, dMax, dMin, mFld, fldD, mMake, mOwn2, mOwn1, mCallIns, mProp, mMeth, mB2, callFz, callFzQ, sFldSet, putO, idxN, cSame, cInt, D.isIns, D.isInt, dIsO, D.tyv, okC, sPar3, mCutX, mCat, dAll, boolsOf, sFor, goFor, rangeD, List.range, List.range.loop, sNever, nts, nst, mo, e, e2, four, Mo.add]
def Mo.neg (a : Mo) : Mo := ⟨(-a.t) % 4, rx ((2 - a.t) % 4) a.x a.y, ry ((2 - a.t) % 4) a.x a.y⟩
theorem neg_ok (cs : Nat → Addr) (a : Mo) : ∃ sd, m_Motion___neg__ cs [.fz (mo cs a)] = .ok (moO cs a.neg) sd := by
  obtain ⟨sd2, e2⟩ := turned_ok cs a.x a.y (2 - a.t)
  obtain ⟨r, e⟩ := init_ok cs ((-a.t) % 4) (rx ((2 - a.t) % 4) a.x a.y) (ry ((2 - a.t) % 4) a.x a.y) (by omega) (by omega)
  simp [m_Motion___neg___1, m_Motion___neg___2, m_Motion___neg__, -List.map_map, -List.map_take, -List.map_drop, -List.map_append, -List.map_reverse, asDef, entry, slotsOf, sSeq, sSet, sRet, sIf, sDrop, sNil, sBreak, sCont, sApp, sSetAt, setEnd, sAug, sAsg, sPar, mVar, mSee, mFrz, mTake, mC, mUn, mOp, mNil, mCons, mCall, mCallL, mTup, mLst, mView, mOwn, mFz, mTest, mAnd, mOr, mNot, mIf, mAndV, mOrV, mNotV, mChain, mAt, qSee, qFz, qNew, oNone, oSome, rNil, rSlot, rFz, mCall0, mCall1, oneSlot, noSlot, treesOf, SD.tree, SD.put, SD.putFz, tgN, tgNil, tgCons, tgT, ER.bind, ER.opt, ER.stm, Fl.seq, OT.view, OT.views, OT.items, fzOf, iLst, iTuP, iRange1, iRange2, iZip2, iEnumL, dIx, atI, ixN, dAdd, dSub, dNeg, dLt, dLe, dGt, dGe, dIsN, dNotN, isNonD, dEq, dNe, eqB_int, eqB_str, eqB_bl, eq_2, eq_3, dLen, dIsi, D.isA, tyName, dMod, dMax, dMin, mFld, fldD, mMake, mOwn2, mOwn1, mCallIns, mProp, mMeth, mB2, callFz, callFzQ, sFldSet, putO, idxN, cSame, cInt, D.isIns, D.isInt, dIsO, D.tyv, okC, sPar3, mCutX, mCat, dAll, boolsOf, sFor, goFor, rangeD, List.range, List.range.loop, sNever, nts, nst, mo, e, e2, four, Mo.neg]
def Mo.same (a b : Mo) : Bool := decide (a.t = b.t) && (decide (a.x = b.x) && decide (a.y = b.y))
theorem eq_ok (cs : Nat → Addr) (a b : Mo) : ∃ sd, m_Motion___eq__ cs [.fz (mo cs a), .fz (mo cs b)] = .ok (.fz (.bl (a.same b))) sd := by
  by_cases h : a.t = b.t <;> by_cases h2 : a.x = b.x <;> by_cases h3 : a.y = b.y <;> simp [m_Motion___eq___1, m_Motion___eq___2, m_Motion___eq___3, m_Motion___eq__, -List.map_map, -List.map_take, -List.map_drop, -List.map_append, -List.map_reverse, asDef, entry, slotsOf, sSeq, sSet, sRet, sIf, sDrop, sNil, sBreak, sCont, sApp, sSetAt, setEnd, sAug, sAsg, sPar, mVar, mSee, mFrz, mTake, mC, mUn, mOp, mNil, mCons, mCall, mCallL, mTup, mLst, mView, mOwn, mFz, mTest, mAnd, mOr, mNot, mIf, mAndV, mOrV, mNotV, mChain, mAt, qSee, qFz, qNew, oNone, oSome, rNil, rSlot, rFz, mCall0, mCall1, oneSlot, noSlot, treesOf, SD.tree, SD.put, SD.putFz, tgN, tgNil, tgCons, tgT, ER.bind, ER.opt, ER.stm, Fl.seq, OT.view, OT.views, OT.items, fzOf, iLst, iTuP, iRange1, iRange2, iZip2, iEnumL, dIx, atI, ixN, dAdd, dSub, dNeg, dLt, dLe, dGt, dGe, dIsN, dNotN, isNonD, dEq, dNe, eqB_int, eqB_str, eqB_bl, eq_2, eq_3, dLen, dIsi, D.isA, tyName, dMod, dMax, dMin, mFld, fldD, mMake, mOwn2, mOwn1, mCallIns, mProp, mMeth, mB2, callFz, callFzQ, sFldSet, putO, idxN, cSame, cInt, D.isIns, D.isInt, dIsO, D.tyv, okC, sPar3, mCutX, mCat, dAll, boolsOf, sFor, goFor, rangeD, List.range, List.range.loop, sNever, nts, nst, eq_2, mo, Mo.same, h, h2, h3]
theorem eq_other (cs : Nat → Addr) (a : Mo) (d : D) (h : d.isIns (cs 0) = false) (h2 : (d.tyv (okC cs)).isSome = true) : ∃ sd, m_Motion___eq__ cs [.fz (mo cs a), .fz d] = .ok (.fz (.bl false)) sd := by
  obtain ⟨t, ht⟩ := Option.isSome_iff_exists.mp h2
  simp [m_Motion___eq__, m_Motion___eq___1, m_Motion___eq___2, asDef, entry, slotsOf, sSeq, sIf, mNot, mTest, mCall, mCons, mVar, mC, mNil, ER.bind, ER.opt, ER.stm, dIsO, ht, h, Fl.seq, sRet, mOwn]
def zM : Mo := ⟨0, 0, 0⟩
def Mo.pw (a : Mo) : Nat → Mo
  | 0 => zM
  | k + 1 => (a.pw k).add a
theorem Mo.add_is (a b : Mo) : (a.add b).ok := ⟨by show 0 ≤ (a.t + b.t) % 4; omega, by show (a.t + b.t) % 4 ≤ 3; omega⟩
theorem Mo.pw_is (a : Mo) : ∀ k, (a.pw k).ok
  | 0 => ⟨(show (0 : Int) ≤ 0 by decide), (show (0 : Int) ≤ 3 by decide)⟩
  | _ + 1 => Mo.add_is _ _
theorem Mo.neg_is (a : Mo) : a.neg.ok := ⟨by show 0 ≤ (-a.t) % 4; omega, by show (-a.t) % 4 ≤ 3; omega⟩
def Mo.mul (a : Mo) (n : Int) : Mo := if a.t = 0 then ⟨0, a.x * n, a.y * n⟩ else a.pw (n % 4).toNat
def Mo.mid (m : Mo) : Prop := m.x.natAbs < 2 ^ 500 ∧ m.y.natAbs < 2 ^ 500
theorem mul_mo (cs : Nat → Addr) (a : Mo) (n : Int) (hm : a.mid) (h1 : -1000000000000000000000000000000 ≤ n) (h2 : n ≤ 1000000000000000000000000000000) : ∃ t sd, t.view = mo cs (a.mul n) ∧ m_Motion___mul__ cs [.fz (mo cs a), .fz (.int n)] = .ok t sd := by
  have b1 : (2 : Nat) ^ 100 = 1267650600228229401496703205376 := by decide
  have e1 : dMul (.int a.x) (.int n) = some (.int (a.x * n)) := mul_ok (a := 500) (b := 100) hm.1 (by omega) (by decide)
  have e2 : dMul (.int a.y) (.int n) = some (.int (a.y * n)) := mul_ok (a := 500) (b := 100) hm.2 (by omega) (by decide)
  obtain ⟨r0, z0⟩ := init_ok cs 0 0 0 (by omega) (by omega)
  obtain ⟨r1, z1⟩ := init_ok cs 0 (a.x * n) (a.y * n) (by omega) (by omega)
  obtain ⟨s1, p1⟩ := add_ok cs (a.pw 0) a (a.pw_is 0)
  obtain ⟨s2, p2⟩ := add_ok cs (a.pw 1) a (a.pw_is 1)
  obtain ⟨s3, p3⟩ := add_ok cs (a.pw 2) a (a.pw_is 2)
  have p1 : m_Motion___add__ cs [.fz (mo cs zM), .fz (mo cs a)] = .ok (moO cs (a.pw 1)) s1 := p1
  have p2 : m_Motion___add__ cs [.fz (mo cs (a.pw 1)), .fz (mo cs a)] = .ok (moO cs (a.pw 2)) s2 := p2
  have p3 : m_Motion___add__ cs [.fz (mo cs (a.pw 2)), .fz (mo cs a)] = .ok (moO cs (a.pw 3)) s3 := p3
  by_cases h : a.t = 0
  · refine ⟨moO cs ⟨0, a.x * n, a.y * n⟩, ?_⟩
    simp [mo_view]
    simp [m_Motion___mul___1, m_Motion___mul___2, m_Motion___mul___3, m_Motion___mul___4, m_Motion___mul___5, m_Motion___mul___6, m_Motion___mul___7, m_Motion___mul___b1, m_Motion___mul___8, m_Motion___mul___9, m_Motion___mul__, -List.map_map, -List.map_take, -List.map_drop, -List.map_append, -List.map_reverse, asDef, entry, slotsOf, sSeq, sSet, sRet, sIf, sDrop, sNil, sBreak, sCont, sApp, sSetAt, setEnd, sAug, sAsg, sPar, mVar, mSee, mFrz, mTake, mC, mUn, mOp, mNil, mCons, mCall, mCallL, mTup, mLst, mView, mOwn, mFz, mTest, mAnd, mOr, mNot, mIf, mAndV, mOrV, mNotV, mChain, mAt, qSee, qFz, qNew, oNone, oSome, rNil, rSlot, rFz, mCall0, mCall1, oneSlot, noSlot, treesOf, SD.tree, SD.put, SD.putFz, tgN, tgNil, tgCons, tgT, ER.bind, ER.opt, ER.stm, Fl.seq, OT.view, OT.views, OT.items, fzOf, iLst, iTuP, iRange1, iRange2, iZip2, iEnumL, dIx, atI, ixN, dAdd, dSub, dNeg, dLt, dLe, dGt, dGe, dIsN, dNotN, isNonD, dEq, dNe, eqB_int, eqB_str, eqB_bl, eq_2, eq_3, dLen, dIsi, D.isA, tyName, dMod, dMax, dMin, mFld, fldD, mMake, mOwn2, mOwn1, mCallIns, mProp, mMeth, mB2, callFz, callFzQ, sFldSet, putO, idxN, cSame, cInt, D.isIns, D.isInt, dIsO, D.tyv, okC, sPar3, mCutX, mCat, dAll, boolsOf, sFor, goFor, rangeD, List.range, List.range.loop, sNever, nts, nst, in_range_ok, h1, h2, mo, h, e1, e2, z1, Mo.mul]
  · have h4 : n % 4 = 0 ∨ n % 4 = 1 ∨ n % 4 = 2 ∨ n % 4 = 3 := by omega
    have z0 : m_Motion___init__ cs [.oi (cs 0) [] [], .fz (.int 0), .fz (.int 0), .fz (.int 0)] = .ok (.fz .non) ⟨[], moO cs zM :: r0⟩ := z0
    have f : ∀ m : Mo, mo cs m = .ins (cs 0) ["kept_turn", "kept_shift"] [.int m.t, .tup [.int m.x, .int m.y]] := fun _ => rfl
    have v : ∀ m : Mo, (moO cs m).view = .ins (cs 0) ["kept_turn", "kept_shift"] [.int m.t, .tup [.int m.x, .int m.y]] := mo_view cs
    rw [f, f] at p1 p2 p3
    rw [f]
    have pw0 : a.pw 0 = zM := rfl
    have wv : (a.mul n) = a.pw (n % 4).toNat := if_neg h
    refine ⟨.fz (mo cs (a.pw (n % 4).toNat)), ?_⟩
    rw [wv]
    simp only [OT.view, true_and]
    rcases h4 with hh | hh | hh | hh <;> simp [f, m_Motion___mul___1, m_Motion___mul___2, m_Motion___mul___3, m_Motion___mul___4, m_Motion___mul___5, m_Motion___mul___6, m_Motion___mul___7, m_Motion___mul___b1, m_Motion___mul___8, m_Motion___mul___9, m_Motion___mul__, -List.map_map, -List.map_take, -List.map_drop, -List.map_append, -List.map_reverse, asDef, entry, slotsOf, sSeq, sSet, sRet, sIf, sDrop, sNil, sBreak, sCont, sApp, sSetAt, setEnd, sAug, sAsg, sPar, mVar, mSee, mFrz, mTake, mC, mUn, mOp, mNil, mCons, mCall, mCallL, mTup, mLst, mView, mOwn, mFz, mTest, mAnd, mOr, mNot, mIf, mAndV, mOrV, mNotV, mChain, mAt, qSee, qFz, qNew, oNone, oSome, rNil, rSlot, rFz, mCall0, mCall1, oneSlot, noSlot, treesOf, SD.tree, SD.put, SD.putFz, tgN, tgNil, tgCons, tgT, ER.bind, ER.opt, ER.stm, Fl.seq, OT.view, OT.views, OT.items, fzOf, iLst, iTuP, iRange1, iRange2, iZip2, iEnumL, dIx, atI, ixN, dAdd, dSub, dNeg, dLt, dLe, dGt, dGe, dIsN, dNotN, isNonD, dEq, dNe, eqB_int, eqB_str, eqB_bl, eq_2, eq_3, dLen, dIsi, D.isA, tyName, dMod, dMax, dMin, mFld, fldD, mMake, mOwn2, mOwn1, mCallIns, mProp, mMeth, mB2, callFz, callFzQ, sFldSet, putO, idxN, cSame, cInt, D.isIns, D.isInt, dIsO, D.tyv, okC, sPar3, mCutX, mCat, dAll, boolsOf, sFor, goFor, rangeD, List.range, List.range.loop, sNever, nts, nst, in_range_ok, h1, h2, h, four, hh, z0, p1, p2, p3, Mo.mul, v, moO, pw0]
theorem order_ok (cs : Nat → Addr) (a : Mo) : ∃ sd, m_Motion_order cs [.fz (mo cs a)] = .ok (.fz (if a.t = 0 then (if a.x = 0 ∧ a.y = 0 then .int 1 else .non) else if a.t = 2 then .int 2 else .int 4)) sd := by
  by_cases h : a.t = 0 <;> by_cases h2 : a.x = 0 <;> by_cases h3 : a.y = 0 <;> by_cases h4 : a.t = 2 <;> simp_all [m_Motion_order_1, m_Motion_order_2, m_Motion_order_3, m_Motion_order, -List.map_map, -List.map_take, -List.map_drop, -List.map_append, -List.map_reverse, asDef, entry, slotsOf, sSeq, sSet, sRet, sIf, sDrop, sNil, sBreak, sCont, sApp, sSetAt, setEnd, sAug, sAsg, sPar, mVar, mSee, mFrz, mTake, mC, mUn, mOp, mNil, mCons, mCall, mCallL, mTup, mLst, mView, mOwn, mFz, mTest, mAnd, mOr, mNot, mIf, mAndV, mOrV, mNotV, mChain, mAt, qSee, qFz, qNew, oNone, oSome, rNil, rSlot, rFz, mCall0, mCall1, oneSlot, noSlot, treesOf, SD.tree, SD.put, SD.putFz, tgN, tgNil, tgCons, tgT, ER.bind, ER.opt, ER.stm, Fl.seq, OT.view, OT.views, OT.items, fzOf, iLst, iTuP, iRange1, iRange2, iZip2, iEnumL, dIx, atI, ixN, dAdd, dSub, dNeg, dLt, dLe, dGt, dGe, dIsN, dNotN, isNonD, dEq, dNe, eqB_int, eqB_str, eqB_bl, eq_2, eq_3, dLen, dIsi, D.isA, tyName, dMod, dMax, dMin, mFld, fldD, mMake, mOwn2, mOwn1, mCallIns, mProp, mMeth, mB2, callFz, callFzQ, sFldSet, putO, idxN, cSame, cInt, D.isIns, D.isInt, dIsO, D.tyv, okC, sPar3, mCutX, mCat, dAll, boolsOf, sFor, goFor, rangeD, List.range, List.range.loop, sNever, nts, nst, eq_2, mo]
theorem turn_ok (cs : Nat → Addr) (a : Mo) : ∃ sd, m_Motion_turn cs [.fz (mo cs a)] = .ok (.fz (.int a.t)) sd := by
  simp [m_Motion_turn_1, m_Motion_turn, -List.map_map, -List.map_take, -List.map_drop, -List.map_append, -List.map_reverse, asDef, entry, slotsOf, sSeq, sSet, sRet, sIf, sDrop, sNil, sBreak, sCont, sApp, sSetAt, setEnd, sAug, sAsg, sPar, mVar, mSee, mFrz, mTake, mC, mUn, mOp, mNil, mCons, mCall, mCallL, mTup, mLst, mView, mOwn, mFz, mTest, mAnd, mOr, mNot, mIf, mAndV, mOrV, mNotV, mChain, mAt, qSee, qFz, qNew, oNone, oSome, rNil, rSlot, rFz, mCall0, mCall1, oneSlot, noSlot, treesOf, SD.tree, SD.put, SD.putFz, tgN, tgNil, tgCons, tgT, ER.bind, ER.opt, ER.stm, Fl.seq, OT.view, OT.views, OT.items, fzOf, iLst, iTuP, iRange1, iRange2, iZip2, iEnumL, dIx, atI, ixN, dAdd, dSub, dNeg, dLt, dLe, dGt, dGe, dIsN, dNotN, isNonD, dEq, dNe, eqB_int, eqB_str, eqB_bl, eq_2, eq_3, dLen, dIsi, D.isA, tyName, dMod, dMax, dMin, mFld, fldD, mMake, mOwn2, mOwn1, mCallIns, mProp, mMeth, mB2, callFz, callFzQ, sFldSet, putO, idxN, cSame, cInt, D.isIns, D.isInt, dIsO, D.tyv, okC, sPar3, mCutX, mCat, dAll, boolsOf, sFor, goFor, rangeD, List.range, List.range.loop, sNever, nts, nst, mo]
theorem shift_ok (cs : Nat → Addr) (a : Mo) : ∃ sd, m_Motion_shift cs [.fz (mo cs a)] = .ok (.fz (.tup [.int a.x, .int a.y])) sd := by
  simp [m_Motion_shift_1, m_Motion_shift, -List.map_map, -List.map_take, -List.map_drop, -List.map_append, -List.map_reverse, asDef, entry, slotsOf, sSeq, sSet, sRet, sIf, sDrop, sNil, sBreak, sCont, sApp, sSetAt, setEnd, sAug, sAsg, sPar, mVar, mSee, mFrz, mTake, mC, mUn, mOp, mNil, mCons, mCall, mCallL, mTup, mLst, mView, mOwn, mFz, mTest, mAnd, mOr, mNot, mIf, mAndV, mOrV, mNotV, mChain, mAt, qSee, qFz, qNew, oNone, oSome, rNil, rSlot, rFz, mCall0, mCall1, oneSlot, noSlot, treesOf, SD.tree, SD.put, SD.putFz, tgN, tgNil, tgCons, tgT, ER.bind, ER.opt, ER.stm, Fl.seq, OT.view, OT.views, OT.items, fzOf, iLst, iTuP, iRange1, iRange2, iZip2, iEnumL, dIx, atI, ixN, dAdd, dSub, dNeg, dLt, dLe, dGt, dGe, dIsN, dNotN, isNonD, dEq, dNe, eqB_int, eqB_str, eqB_bl, eq_2, eq_3, dLen, dIsi, D.isA, tyName, dMod, dMax, dMin, mFld, fldD, mMake, mOwn2, mOwn1, mCallIns, mProp, mMeth, mB2, callFz, callFzQ, sFldSet, putO, idxN, cSame, cInt, D.isIns, D.isInt, dIsO, D.tyv, okC, sPar3, mCutX, mCat, dAll, boolsOf, sFor, goFor, rangeD, List.range, List.range.loop, sNever, nts, nst, mo]
theorem start_ok (cs : Nat → Addr) {n : Nat} {t : OT} (ht : Tk n t) (hn : n < 2 ^ 63) : ∃ (x y h : Int) (t' : OT), x.natAbs < 2 ^ 400 ∧ y.natAbs < 2 ^ 400 ∧ 0 ≤ h ∧ h ≤ 3 ∧ Tk (n + 7) t' ∧ m__law_start cs [t] = .ok (.fz (po x y h)) ⟨[], [t']⟩ := by
  have e20 : dPow (.int 10) (.int 20) = some (.int 100000000000000000000) := p10 (k := 20) (by decide)
  have e30 : dPow (.int 10) (.int 30) = some (.int 1000000000000000000000000000000) := p10 (k := 30) (by decide)
  have e38 : dPow (.int 10) (.int 38) = some (.int 100000000000000000000000000000000000000) := p10 (k := 38) (by decide)
  have e60 : dPow (.int 10) (.int 60) = some (.int 1000000000000000000000000000000000000000000000000000000000000) := p10 (k := 60) (by decide)
  have e98 : dMul (.int 1000000000000000000000000000000000000000000000000000000000000) (.int 100000000000000000000000000000000000000) = some (.int 100000000000000000000000000000000000000000000000000000000000000000000000000000000000000000000000000) := by
    rw [mul_ok (a := 200) (b := 200) (by decide) (by decide) (by decide)]; rfl
  have b340 : (2 : Nat) ^ 340 = 2239744742177804210557442280568444278121645497234649534899989100963791871180160945380877493271607115776 := by decide
  have b400 : (2 : Nat) ^ 400 = 2582249878086908589655919172003011874329705792829223512830659356540647622016841194629645353280137831435903171972747493376 := by decide
  have b20 : (2 : Nat) ^ 20 = 1048576 := by decide
  have dip : ∀ {k : Nat} {u : OT} (m : Int), k < 2 ^ 64 → Tk k u → 0 < m → m < 1000000000000000000000000 → ∃ (v : Int) (t' : OT), 0 ≤ v ∧ v < m ∧ Tk (k + 1) t' ∧ m__law_dip cs [u, .fz (.int m)] = .ok (.fz (.int v)) ⟨[], [t', .fz (.int m)]⟩ := by
    intro k u m hk hu h1 h2
    refine dip_ok cs hu hk h1 (Nat.lt_of_lt_of_le (m := 2 ^ 100) ?_ (Nat.pow_le_pow_right (by decide) (by decide)))
    have : (2 : Nat) ^ 100 = 1267650600228229401496703205376 := by decide
    omega
  obtain ⟨v1, t1, a1, b1, k1, q1⟩ := dip 4 (by omega) ht (by decide) (by decide)
  obtain ⟨v2, t2, a2, b2, k2, q2⟩ := dip 3 (by omega) k1 (by decide) (by decide)
  obtain ⟨v3, t3, a3, b3, k3, q3⟩ := dip 3 (by omega) k2 (by decide) (by decide)
  obtain ⟨v4, t4, a4, b4, k4, q4⟩ := dip 2 (by omega) k3 (by decide) (by decide)
  obtain ⟨far, f1, ix1⟩ : ∃ far : Int, far.natAbs < 2 ^ 340 ∧ dIx (.lst [.int 0, .int 1000000000000000000000000000000, .int 1000000000000000000000000000000000000000000000000000000000000, .int 100000000000000000000000000000000000000000000000000000000000000000000000000000000000000000000000000]) (.int v1) = some (.int far) := by
    have h4 : v1 = 0 ∨ v1 = 1 ∨ v1 = 2 ∨ v1 = 3 := by omega
    rcases h4 with h | h | h | h <;> subst h <;> exact ⟨_, by rw [b340]; decide, rfl⟩
  obtain ⟨wide, w1, w2, ix2⟩ : ∃ wide : Int, 0 < wide ∧ wide ≤ 100000000000000000000 ∧ dIx (.lst [.int 5, .int 100000000000000000000]) (.int v4) = some (.int wide) := by
    have h4 : v4 = 0 ∨ v4 = 1 := by omega
    rcases h4 with h | h <;> subst h <;> exact ⟨_, by decide, by decide, rfl⟩
  obtain ⟨v5, t5, a5, b5, k5, q5⟩ := dip wide (by omega) k4 w1 (by omega)
  obtain ⟨v6, t6, a6, b6, k6, q6⟩ := dip wide (by omega) k5 w1 (by omega)
  obtain ⟨v7, t7, a7, b7, k7, q7⟩ := dip 4 (by omega) k6 (by decide) (by decide)
  have m1 : ∀ v : Int, 0 ≤ v → v < 3 → dMul (.int far) (.int (v - 1)) = some (.int (far * (v - 1))) := fun v h0 h1 => mul_ok (a := 340) (b := 20) f1 (by omega) (by decide)
  have m2 := m1 v2 a2 b2
  have m3 := m1 v3 a3 b3
  have d1 : dDiv (.int wide) (.int 2) = some (.int (wide.fdiv 2)) := div_ok (a := 30) (by decide) (by decide) (by decide)
  have d2 : wide.fdiv 2 = wide / 2 := Int.fdiv_eq_ediv_of_nonneg _ (by decide)
  have bb : ∀ v : Int, 0 ≤ v → v < 3 → (far * (v - 1)).natAbs ≤ far.natAbs := by
    intro v h0 h1
    rw [Int.natAbs_mul]
    have : (v - 1).natAbs ≤ 1 := by omega
    calc far.natAbs * (v - 1).natAbs ≤ far.natAbs * 1 := Nat.mul_le_mul_left _ this
      _ = far.natAbs := by omega
  have z2 := bb v2 a2 b2
  have z3 := bb v3 a3 b3
  rw [d2] at d1
  refine ⟨far * (v2 - 1) + v5 - wide / 2, far * (v3 - 1) + v6 - wide / 2, v7, t7, ?_, ?_, a7, by omega, k7, ?_⟩
  · rw [b400]; rw [b340] at f1; omega
  · rw [b400]; rw [b340] at f1; omega
  · obtain ⟨a, b, c, rfl, _⟩ := id ht
    simp [m__law_start_1, m__law_start_2, m__law_start_3, m__law_start_4, m__law_start, -List.map_map, -List.map_take, -List.map_drop, -List.map_append, -List.map_reverse, asDef, entry, slotsOf, sSeq, sSet, sRet, sIf, sDrop, sNil, sBreak, sCont, sApp, sSetAt, setEnd, sAug, sAsg, sPar, mVar, mSee, mFrz, mTake, mC, mUn, mOp, mNil, mCons, mCall, mCallL, mTup, mLst, mView, mOwn, mFz, mTest, mAnd, mOr, mNot, mIf, mAndV, mOrV, mNotV, mChain, mAt, qSee, qFz, qNew, oNone, oSome, rNil, rSlot, rFz, mCall0, mCall1, oneSlot, noSlot, treesOf, SD.tree, SD.put, SD.putFz, tgN, tgNil, tgCons, tgT, ER.bind, ER.opt, ER.stm, Fl.seq, OT.view, OT.views, OT.items, fzOf, iLst, iTuP, iRange1, iRange2, iZip2, iEnumL, dAdd, dSub, dNeg, dLt, dLe, dGt, dGe, dIsN, dNotN, isNonD, dEq, dNe, eqB_int, eqB_str, eqB_bl, eq_2, eq_3, dLen, dIsi, D.isA, tyName, dMod, dMax, dMin, e20, e30, e38, e60, e98, q1, q2, q3, q4, q5, q6, q7, ix1, ix2, m2, m3, d1, po]
theorem moved_ok (cs : Nat → Addr) (t sx sy x y h : Int) (h0 : 0 ≤ h) (h3 : h ≤ 3) : ∃ sd, m__law_moved cs [.fz (.int t), .fz (.tup [.int sx, .int sy]), .fz (po x y h)] = .ok (.fz ((Mo.mk t sx sy).ap x y h)) sd := by
  have h4 : h = 0 ∨ h = 1 ∨ h = 2 ∨ h = 3 := by omega
  rcases h4 with h | h | h | h <;> subst h <;> simp [m__law_moved_1, m__law_moved_2, m__law_moved_3, m__law_moved_b1, m__law_moved_4, m__law_moved_5, m__law_moved, -List.map_map, -List.map_take, -List.map_drop, -List.map_append, -List.map_reverse, asDef, entry, slotsOf, sSeq, sSet, sRet, sIf, sDrop, sNil, sBreak, sCont, sApp, sSetAt, setEnd, sAug, sAsg, sPar, mVar, mSee, mFrz, mTake, mC, mUn, mOp, mNil, mCons, mCall, mCallL, mTup, mLst, mView, mOwn, mFz, mTest, mAnd, mOr, mNot, mIf, mAndV, mOrV, mNotV, mChain, mAt, qSee, qFz, qNew, oNone, oSome, rNil, rSlot, rFz, mCall0, mCall1, oneSlot, noSlot, treesOf, SD.tree, SD.put, SD.putFz, tgN, tgNil, tgCons, tgT, ER.bind, ER.opt, ER.stm, Fl.seq, OT.view, OT.views, OT.items, fzOf, iLst, iTuP, iRange1, iRange2, iZip2, iEnumL, dIx, atI, ixN, dAdd, dSub, dNeg, dLt, dLe, dGt, dGe, dIsN, dNotN, isNonD, dEq, dNe, eqB_int, eqB_str, eqB_bl, eq_2, eq_3, dLen, dIsi, D.isA, tyName, dMod, dMax, dMin, mFld, fldD, mMake, mOwn2, mOwn1, mCallIns, mProp, mMeth, mB2, callFz, callFzQ, sFldSet, putO, idxN, cSame, cInt, D.isIns, D.isInt, dIsO, D.tyv, okC, sPar3, mCutX, mCat, dAll, boolsOf, sFor, goFor, rangeD, List.range, List.range.loop, sNever, four, po, Mo.ap, rx, ry]
/-! ### the plain law of motions -/
theorem four_cases {t : Int} (h0 : 0 ≤ t) (h3 : t ≤ 3) : t = 0 ∨ t = 1 ∨ t = 2 ∨ t = 3 := by omega
theorem Mo.ext' {a b : Mo} (h1 : a.t = b.t) (h2 : a.x = b.x) (h3 : a.y = b.y) : a = b := by
  cases a; cases b
  cases h1; cases h2; cases h3
  rfl
theorem po_eq {x y h x' y' h' : Int} (h1 : x = x') (h2 : y = y') (h3 : h = h') : po x y h = po x' y' h' := by
  subst h1; subst h2; subst h3; rfl
theorem ap_add (a b : Mo) (ha : a.ok) (x y h : Int) (h0 : 0 ≤ h) (h3 : h ≤ 3) : (a.add b).ap x y h = b.ap (x + rx h a.x a.y) (y + ry h a.x a.y) ((h + a.t) % 4) := by
  obtain ⟨t, p, q⟩ := a
  obtain ⟨u, r, s⟩ := b
  have h1 := four_cases ha.1 ha.2
  have h2 := four_cases h0 h3
  dsimp only at h1
  unfold Mo.ap Mo.add
  rcases h1 with e | e | e | e <;> rcases h2 with f | f | f | f <;> subst e <;> subst f <;> simp only [rx, ry] <;> refine po_eq ?_ ?_ ?_ <;> simp <;> omega
theorem add_neg (a : Mo) (ha : a.ok) : a.add a.neg = zM := by
  obtain ⟨t, p, q⟩ := a
  have h1 := four_cases ha.1 ha.2
  dsimp only at h1
  rcases h1 with e | e | e | e <;> subst e <;> refine Mo.ext' ?_ ?_ ?_ <;> simp [Mo.add, Mo.neg, rx, ry, zM] <;> omega
theorem neg_add (a : Mo) (ha : a.ok) : a.neg.add a = zM := by
  obtain ⟨t, p, q⟩ := a
  have h1 := four_cases ha.1 ha.2
  dsimp only at h1
  rcases h1 with e | e | e | e <;> subst e <;> refine Mo.ext' ?_ ?_ ?_ <;> simp [Mo.add, Mo.neg, rx, ry, zM] <;> omega
theorem add_add_neg (m a : Mo) (hm : m.ok) (ha : a.ok) : (m.add a).add a.neg = m := by
  obtain ⟨t, p, q⟩ := a
  obtain ⟨u, r, s⟩ := m
  have h1 := four_cases ha.1 ha.2
  have h2 := four_cases hm.1 hm.2
  dsimp only at h1 h2
  rcases h1 with e | e | e | e <;> rcases h2 with f | f | f | f <;> subst e <;> subst f <;> refine Mo.ext' ?_ ?_ ?_ <;> simp [Mo.add, Mo.neg, rx, ry] <;> omega
theorem pw4 (a : Mo) (ha : a.ok) (h : a.t ≠ 0) : a.pw 4 = zM := by
  obtain ⟨t, p, q⟩ := a
  have h1 := four_cases ha.1 ha.2
  dsimp only at h1 h
  rcases h1 with e | e | e | e <;> subst e <;> first | exact absurd rfl h | (refine Mo.ext' ?_ ?_ ?_ <;> simp [Mo.pw, Mo.add, rx, ry, zM] <;> omega)
theorem mul_succ (a : Mo) (ha : a.ok) (k : Int) : (a.mul k).add a = a.mul (k + 1) := by
  unfold Mo.mul
  by_cases h : a.t = 0
  · rw [if_pos h, if_pos h]
    refine Mo.ext' ?_ ?_ ?_ <;> simp [Mo.add, rx, ry, h, Int.mul_add]
  · rw [if_neg h, if_neg h]
    have h4 := four_cases (t := k % 4) (by omega) (by omega)
    rcases h4 with e | e | e | e
    · rw [e, show (k + 1) % 4 = 1 by omega]; rfl
    · rw [e, show (k + 1) % 4 = 2 by omega]; rfl
    · rw [e, show (k + 1) % 4 = 3 by omega]; rfl
    · rw [e, show (k + 1) % 4 = 0 by omega]
      exact pw4 a ha h
theorem mul_is (a : Mo) (k : Int) : (a.mul k).ok := by
  unfold Mo.mul
  by_cases h : a.t = 0
  · rw [if_pos h]; exact ⟨(show (0 : Int) ≤ 0 by decide), (show (0 : Int) ≤ 3 by decide)⟩
  · rw [if_neg h]; exact a.pw_is _
theorem mul_pred (a : Mo) (ha : a.ok) (k : Int) : (a.mul k).add a.neg = a.mul (k - 1) := by
  have := mul_succ a ha (k - 1)
  rw [show k - 1 + 1 = k by omega] at this
  rw [← this]
  exact add_add_neg _ _ (mul_is a _) ha
theorem mul_zero' (a : Mo) : a.mul 0 = zM := by
  unfold Mo.mul
  by_cases h : a.t = 0
  · rw [if_pos h]; refine Mo.ext' ?_ ?_ ?_ <;> simp [zM]
  · rw [if_neg h]; rfl
theorem zM_add (a : Mo) (ha : a.ok) : zM.add a = a := by
  have := ha.1
  have := ha.2
  refine Mo.ext' ?_ ?_ ?_ <;> simp [zM, Mo.add, rx, ry]
  omega
theorem add_zM (a : Mo) (ha : a.ok) : a.add zM = a := by
  have := ha.1
  have := ha.2
  refine Mo.ext' ?_ ?_ ?_ <;> simp [zM, Mo.add, rx, ry]
  omega
theorem mul_one' (a : Mo) (ha : a.ok) : a.mul 1 = a := by
  have := mul_succ a ha 0
  rw [mul_zero', zM_add a ha] at this
  exact this.symm
theorem mul_neg1 (a : Mo) (ha : a.ok) : a.mul (-1) = a.neg := by
  have := mul_pred a ha 0
  rw [mul_zero', zM_add _ a.neg_is] at this
  exact this.symm
theorem mul_mod4 (a : Mo) (h : a.t ≠ 0) (n : Int) : a.mul (n % 4) = a.mul n := by
  unfold Mo.mul
  rw [if_neg h, if_neg h, show n % 4 % 4 = n % 4 by omega]
theorem mul_opp (a : Mo) (ha : a.ok) (n : Int) : (a.mul n).add (a.mul (0 - n)) = zM := by
  by_cases h : a.t = 0
  · unfold Mo.mul
    rw [if_pos h, if_pos h]
    refine Mo.ext' ?_ ?_ ?_ <;> simp [zM, Mo.add, rx, ry, Int.mul_neg] <;> omega
  · rw [← mul_mod4 a h n, ← mul_mod4 a h (0 - n)]
    obtain ⟨t, p, q⟩ := a
    have h1 := four_cases ha.1 ha.2
    dsimp only at h1 h
    have h4 := four_cases (t := n % 4) (by omega) (by omega)
    rcases h4 with f | f | f | f
    · rw [f, show (0 - n) % 4 = 0 by omega]
      rcases h1 with e | e | e | e <;> subst e <;> first | exact absurd rfl h | (refine Mo.ext' ?_ ?_ ?_ <;> simp [Mo.mul, Mo.pw, Mo.add, rx, ry, zM])
    · rw [f, show (0 - n) % 4 = 3 by omega]
      rcases h1 with e | e | e | e <;> subst e <;> first | exact absurd rfl h | (refine Mo.ext' ?_ ?_ ?_ <;> simp [Mo.mul, Mo.pw, Mo.add, rx, ry, zM] <;> omega)
    · rw [f, show (0 - n) % 4 = 2 by omega]
      rcases h1 with e | e | e | e <;> subst e <;> first | exact absurd rfl h | (refine Mo.ext' ?_ ?_ ?_ <;> simp [Mo.mul, Mo.pw, Mo.add, rx, ry, zM] <;> omega)
    · rw [f, show (0 - n) % 4 = 1 by omega]
      rcases h1 with e | e | e | e <;> subst e <;> first | exact absurd rfl h | (refine Mo.ext' ?_ ?_ ?_ <;> simp [Mo.mul, Mo.pw, Mo.add, rx, ry, zM] <;> omega)
theorem rx_mul (h x y n : Int) : rx h (x * n) (y * n) = n * rx h x y := by
  unfold rx
  split
  · exact Int.mul_comm _ _
  · split
    · rw [Int.mul_comm y n, Int.mul_neg]
    · split
      · rw [Int.mul_comm x n, Int.mul_neg]
      · exact Int.mul_comm _ _
theorem ry_mul (h x y n : Int) : ry h (x * n) (y * n) = n * ry h x y := by
  unfold ry
  split
  · exact Int.mul_comm _ _
  · split
    · exact Int.mul_comm _ _
    · split
      · rw [Int.mul_comm y n, Int.mul_neg]
      · rw [Int.mul_comm x n, Int.mul_neg]
theorem same_self (a : Mo) : a.same a = true := by simp [Mo.same]
theorem drop_cons {n k x : Nat} {r : List Nat} (h : x :: r = (List.range n).drop k) : k < n ∧ x = k ∧ r = (List.range n).drop (k + 1) := by
  have hk : k < (List.range n).length := by
    apply Classical.byContradiction
    intro h2
    rw [List.drop_eq_nil_of_le (by omega)] at h
    cases h
  rw [List.drop_eq_getElem_cons hk] at h
  simp at h hk
  exact ⟨hk, h.1, by rw [h.2]⟩
theorem sFor_upto {it : SD → ER (List D)} {g : D → SD → Option SD} {body : SD → Fl} {sd sd1 : SD} (n : Nat) (e : Nat → D) (I : Nat → SD → Prop) (hi : it sd = .ok ((List.range n).map e) sd1) (h0 : I 0 sd1) (h : ∀ k sd, k < n → I k sd → ∃ sda sdb, g (e k) sd = some sda ∧ (body sda = .nx sdb ∨ body sda = .ct sdb) ∧ I (k + 1) sdb) :
    ∃ sd', sFor it g body sd = .nx sd' ∧ I n sd' := by
  obtain ⟨sd', q, k, e1, hk, hI⟩ := sFor_inv (g := g) (body := body) (List.range n) e (fun r sd => ∃ k, r = (List.range n).drop k ∧ k ≤ n ∧ I k sd) hi ⟨0, by simp, Nat.zero_le _, h0⟩ fun x r sd ⟨k, e1, hk, hI⟩ => by
    obtain ⟨h1, h2, h3⟩ := drop_cons e1
    subst h2
    obtain ⟨sda, sdb, a, b, c⟩ := h _ sd h1 hI
    exact ⟨sda, sdb, a, b, _, h3, h1, c⟩
  refine ⟨sd', q, ?_⟩
  have : k = n := by
    apply Classical.byContradiction
    intro h2
    have : k < (List.range n).length := by simp; omega
    rw [List.drop_eq_getElem_cons this] at e1
    cases e1
  exact this ▸ hI
theorem ap_self (m : Mo) (x y h : Int) : dEqB (m.ap x y h) (m.ap x y h) = some true := by
  unfold Mo.ap po
  rw [eq_3]; simp
theorem step_call (cs : Nat → Addr) (m b : Mo) (hm : m.ok) (x y h : Int) (h0 : 0 ≤ h) (h3 : h ≤ 3) : ∃ sd, m_Motion___call__ cs [.fz (mo cs b), .fz (m.ap x y h)] = .ok (.fz ((m.add b).ap x y h)) sd := by
  rw [ap_add m b hm x y h h0 h3]
  exact call_ok cs b _ _ _ (by omega) (by omega)
def PS (cs : Nat → Addr) (t : OT) (a : Mo) (p : D) (s3 s4 s6 : S) (r : List S) : SD := ⟨.pa 0 :: .ow (.fz (mo cs a)) :: .ow (.fz p) :: s3 :: s4 :: .ow (.fz (mo cs a.neg)) :: s6 :: r, [t, .fz (mo cs a)]⟩
theorem power_b1 (cs : Nat → Addr) (t : OT) (a : Mo) (ha : a.ok) (hm : a.mid) (x y h : Int) (h0 : 0 ≤ h) (h3 : h ≤ 3) (k : Nat) (hk : k < 8) (r : List S) :
    m__law_power_right_b1 cs (PS cs t a (po x y h) (.ow (.fz ((a.mul k).ap x y h))) (.ow (.fz ((a.mul (0 - (k : Int))).ap x y h))) (.ow (.fz (.int (1 + (k : Int))))) r)
      = .nx (PS cs t a (po x y h) (.ow (.fz ((a.mul (1 + (k : Int))).ap x y h))) (.ow (.fz ((a.mul (0 - (1 + (k : Int)))).ap x y h))) (.ow (.fz (.int (1 + (k : Int))))) r) := by
  obtain ⟨d1, q1⟩ := step_call cs (a.mul k) a (mul_is a k) x y h h0 h3
  obtain ⟨d2, q2⟩ := step_call cs (a.mul (0 - (k : Int))) a.neg (mul_is a _) x y h h0 h3
  rw [mul_succ a ha, show (k : Int) + 1 = 1 + k by omega] at q1
  rw [mul_pred a ha, show 0 - (k : Int) - 1 = 0 - (1 + k) by omega] at q2
  obtain ⟨t3, d3, v3, q3⟩ := mul_mo cs a (1 + k) hm (by omega) (by omega)
  obtain ⟨t4, d4, v4, q4⟩ := mul_mo cs a (0 - (1 + k)) hm (by omega) (by omega)
  obtain ⟨d5, q5⟩ := led_ok cs (a.mul (1 + k)) x y h h0 h3
  obtain ⟨d6, q6⟩ := led_ok cs (a.mul (0 - (1 + k))) x y h h0 h3
  have i1 : ∀ m, (mo cs m).isIns (cs 0) = true := fun m => by simp [mo, D.isIns]
  have e1 := ap_self (a.mul (1 + k)) x y h
  have e2 := ap_self (a.mul (0 - (1 + k))) x y h
  simp [-Int.zero_sub, m__law_power_right_1, m__law_power_right_2, m__law_power_right_3, m__law_power_right_4, m__law_power_right_5, m__law_power_right_6, m__law_power_right_b1, m__law_power_right_7, m__law_power_right_8, m__law_power_right_9, m__law_power_right_10, m__law_power_right_11, m__law_power_right_12, m__law_power_right_13, m__law_power_right_14, m__law_power_right_15, m__law_power_right_16, m__law_power_right, -List.map_map, -List.map_take, -List.map_drop, -List.map_append, -List.map_reverse, asDef, entry, slotsOf, sSeq, sSet, sRet, sIf, sDrop, sNil, sBreak, sCont, sApp, sSetAt, setEnd, sAug, sAsg, sPar, mVar, mSee, mFrz, mTake, mC, mUn, mOp, mNil, mCons, mCall, mCallL, mTup, mLst, mView, mOwn, mFz, mTest, mAnd, mOr, mNot, mIf, mAndV, mOrV, mNotV, mChain, mAt, qSee, qFz, qNew, oNone, oSome, rNil, rSlot, rFz, mCall0, mCall1, oneSlot, noSlot, treesOf, SD.tree, SD.put, SD.putFz, tgN, tgNil, tgCons, tgT, ER.bind, ER.opt, ER.stm, Fl.seq, OT.view, OT.views, OT.items, fzOf, iLst, iTuP, iRange1, iRange2, iZip2, iEnumL, dAdd, dSub, dNeg, dLt, dLe, dGt, dGe, dIsN, dNotN, isNonD, dEq, dNe, eqB_int, eqB_str, eqB_bl, eq_2, eq_3, dLen, dIsi, D.isA, tyName, dMod, dMax, dMin, mFld, fldD, mMake, mOwn2, mOwn1, mCallIns, mProp, mMeth, mB2, callFz, callFzQ, sFldSet, putO, idxN, cSame, cInt, D.isIns, D.isInt, dIsO, D.tyv, okC, sPar3, mCutX, mCat, dAll, boolsOf, sFor, goFor, rangeD, List.range, List.range.loop, sNever, -D.isIns, PS, q1, q2, v3, q3, v4, q4, q5, q6, i1, e1, e2]
theorem power_13 (cs : Nat → Addr) (t : OT) (a : Mo) (ha : a.ok) (hm : a.mid) (x y h n : Int) (h0 : 0 ≤ h) (h3 : h ≤ 3) (n0 : 0 ≤ n) (n1 : n ≤ 1000000000000000000000000000000) (s3 s4 s10 s11 : S) :
    ∃ s10', m__law_power_right_13 cs (PS cs t a (po x y h) s3 s4 (.ow (.fz (.int n))) [.ow (.fz (.int x)), .ow (.fz (.int y)), .ow (.fz (.int h)), s10, s11])
      = .nx (PS cs t a (po x y h) s3 s4 (.ow (.fz (.int n))) [.ow (.fz (.int x)), .ow (.fz (.int y)), .ow (.fz (.int h)), s10', .ow (.fz ((a.mul n).ap x y h))]) := by
  obtain ⟨d1, q1⟩ := turn_ok cs a
  obtain ⟨d2, q2⟩ := call_ok cs a 0 0 h h0 h3
  obtain ⟨t3, d3, v3, q3⟩ := mul_mo cs a (n % 4) hm (by omega) (by omega)
  obtain ⟨d5, q5⟩ := led_ok cs (a.mul (n % 4)) x y h h0 h3
  have b1 : (2 : Nat) ^ 100 = 1267650600228229401496703205376 := by decide
  have rb : (rx h a.x a.y).natAbs < 2 ^ 500 := by
    have := hm.1; have := hm.2
    unfold rx; split
    · assumption
    · split
      · rw [Int.natAbs_neg]; assumption
      · split
        · rw [Int.natAbs_neg]; assumption
        · assumption
  have rc : (ry h a.x a.y).natAbs < 2 ^ 500 := by
    have := hm.1; have := hm.2
    unfold ry; split
    · assumption
    · split
      · assumption
      · split
        · rw [Int.natAbs_neg]; assumption
        · rw [Int.natAbs_neg]; assumption
  have e1 : dMul (.int n) (.int (rx h a.x a.y)) = some (.int (n * rx h a.x a.y)) := mul_ok (a := 100) (b := 500) (by omega) rb (by decide)
  have e2 : dMul (.int n) (.int (ry h a.x a.y)) = some (.int (n * ry h a.x a.y)) := mul_ok (a := 100) (b := 500) (by omega) rc (by decide)
  unfold po at q2 q5
  by_cases ht : a.t = 0
  · have hh : h % 4 = h := by omega
    simp only [mo, ht] at q1 q2
    refine ⟨.ow (.fz (a.ap 0 0 h)), ?_⟩
    simp [m__law_power_right_1, m__law_power_right_2, m__law_power_right_3, m__law_power_right_4, m__law_power_right_5, m__law_power_right_6, m__law_power_right_b1, m__law_power_right_7, m__law_power_right_8, m__law_power_right_9, m__law_power_right_10, m__law_power_right_11, m__law_power_right_12, m__law_power_right_13, m__law_power_right_14, m__law_power_right_15, m__law_power_right_16, m__law_power_right, -List.map_map, -List.map_take, -List.map_drop, -List.map_append, -List.map_reverse, asDef, entry, slotsOf, sSeq, sSet, sRet, sIf, sDrop, sNil, sBreak, sCont, sApp, sSetAt, setEnd, sAug, sAsg, sPar, mVar, mSee, mFrz, mTake, mC, mUn, mOp, mNil, mCons, mCall, mCallL, mTup, mLst, mView, mOwn, mFz, mTest, mAnd, mOr, mNot, mIf, mAndV, mOrV, mNotV, mChain, mAt, qSee, qFz, qNew, oNone, oSome, rNil, rSlot, rFz, mCall0, mCall1, oneSlot, noSlot, treesOf, SD.tree, SD.put, SD.putFz, tgN, tgNil, tgCons, tgT, ER.bind, ER.opt, ER.stm, Fl.seq, OT.view, OT.views, OT.items, fzOf, iLst, iTuP, iRange1, iRange2, iZip2, iEnumL, dIx, atI, ixN, dAdd, dSub, dNeg, dLt, dLe, dGt, dGe, dIsN, dNotN, isNonD, dEq, dNe, eqB_int, eqB_str, eqB_bl, eq_2, eq_3, dLen, dIsi, D.isA, tyName, dMod, dMax, dMin, mFld, fldD, mMake, mOwn2, mOwn1, mCallIns, mProp, mMeth, mB2, callFz, callFzQ, sFldSet, putO, idxN, cSame, cInt, D.isIns, D.isInt, dIsO, D.tyv, okC, sPar3, mCutX, mCat, dAll, boolsOf, sFor, goFor, rangeD, List.range, List.range.loop, sNever, PS, po, mo, q1, q2, ht, Mo.ap, e1, e2, hh, Mo.mul, rx_mul, ry_mul]
  · have hx := mul_mod4 a ht n
    rw [hx] at v3 q5
    simp only [mo] at q1 q3 v3 q5
    refine ⟨s10, ?_⟩
    simp [m__law_power_right_1, m__law_power_right_2, m__law_power_right_3, m__law_power_right_4, m__law_power_right_5, m__law_power_right_6, m__law_power_right_b1, m__law_power_right_7, m__law_power_right_8, m__law_power_right_9, m__law_power_right_10, m__law_power_right_11, m__law_power_right_12, m__law_power_right_13, m__law_power_right_14, m__law_power_right_15, m__law_power_right_16, m__law_power_right, -List.map_map, -List.map_take, -List.map_drop, -List.map_append, -List.map_reverse, asDef, entry, slotsOf, sSeq, sSet, sRet, sIf, sDrop, sNil, sBreak, sCont, sApp, sSetAt, setEnd, sAug, sAsg, sPar, mVar, mSee, mFrz, mTake, mC, mUn, mOp, mNil, mCons, mCall, mCallL, mTup, mLst, mView, mOwn, mFz, mTest, mAnd, mOr, mNot, mIf, mAndV, mOrV, mNotV, mChain, mAt, qSee, qFz, qNew, oNone, oSome, rNil, rSlot, rFz, mCall0, mCall1, oneSlot, noSlot, treesOf, SD.tree, SD.put, SD.putFz, tgN, tgNil, tgCons, tgT, ER.bind, ER.opt, ER.stm, Fl.seq, OT.view, OT.views, OT.items, fzOf, iLst, iTuP, iRange1, iRange2, iZip2, iEnumL, dIx, atI, ixN, dAdd, dSub, dNeg, dLt, dLe, dGt, dGe, dIsN, dNotN, isNonD, dEq, dNe, eqB_int, eqB_str, eqB_bl, eq_2, eq_3, dLen, dIsi, D.isA, tyName, dMod, dMax, dMin, mFld, fldD, mMake, mOwn2, mOwn1, mCallIns, mProp, mMeth, mB2, callFz, callFzQ, sFldSet, putO, idxN, cSame, cInt, D.isIns, D.isInt, dIsO, D.tyv, okC, sPar3, mCutX, mCat, dAll, boolsOf, sFor, goFor, rangeD, List.range, List.range.loop, sNever, PS, po, mo, q1, ht, four, q3, v3, q5]
theorem power_ok (cs : Nat → Addr) {n : Nat} {t : OT} (a : Mo) (ht : Tk n t) (hn : n < 2 ^ 62) (ha : a.ok) (hm : a.mid) : ∃ t', Tk (n + 10) t' ∧ m__law_power_right cs [t, .fz (mo cs a)] = .ok (.fz (.bl true)) ⟨[], [t', .fz (mo cs a)]⟩ := by
  obtain ⟨x, y, h, t1, _, _, h0, h3, k1, q1⟩ := start_ok cs ht (by omega)
  obtain ⟨dn, qn⟩ := neg_ok cs a
  have e29 : dPow (.int 10) (.int 29) = some (.int 100000000000000000000000000000) := p10 (k := 29) (by decide)
  have e30 : dPow (.int 10) (.int 30) = some (.int 1000000000000000000000000000000) := p10 (k := 30) (by decide)
  obtain ⟨v1, t2, a2, b2, k2, q2⟩ := dip_ok cs k1 (by omega) (m := 1000000000000000000000000000000) (by decide) (by decide +kernel)
  obtain ⟨v2, t3, a3, b3, k3, q3⟩ := dip_ok cs k2 (by omega) (m := 100000000000000000000000000000) (by decide) (by decide +kernel)
  obtain ⟨v3, t4, a4, b4, k4, q4⟩ := dip_ok cs k3 (by omega) (m := 3) (by decide) (by decide +kernel)
  have b100 : (2 : Nat) ^ 100 = 1267650600228229401496703205376 := by decide
  have em : dMul (.int 4) (.int v2) = some (.int (4 * v2)) := mul_ok (a := 10) (b := 100) (by decide) (by omega) (by decide)
  obtain ⟨mm, m0, m1, ix⟩ : ∃ mm : Int, 0 ≤ mm ∧ mm ≤ 1000000000000000000000000000000 ∧ dIx (.lst [.int v1, .int 1000000000000000000000000000000, .int (4 * v2)]) (.int v3) = some (.int mm) := by
    have h4 : v3 = 0 ∨ v3 = 1 ∨ v3 = 2 := by omega
    rcases h4 with h | h | h <;> subst h <;> refine ⟨_, ?_, ?_, rfl⟩ <;> omega
  have i1 : ∀ m, (mo cs m).isIns (cs 0) = true := fun m => by simp [mo, D.isIns]
  have ty : ∀ m, ((mo cs m).tyv (okC cs)).isSome = true := fun m => by simp [mo, D.tyv, okC]
  -- the eight turns
  obtain ⟨sd1, l1, s6, rfl⟩ := sFor_upto (it := iRange2 (mCons (mC (.int 1)) (mCons (mC (.int 9)) (mNil)))) (g := tgN 6) (body := m__law_power_right_b1 cs) (sd := PS cs t1 a (po x y h) (.ow (.fz (po x y h))) (.ow (.fz (po x y h))) .un [.un, .un, .un, .un, .un]) 8 (fun i => .int (1 + i))
    (fun k sd => ∃ s6, sd = PS cs t1 a (po x y h) (.ow (.fz ((a.mul k).ap x y h))) (.ow (.fz ((a.mul (0 - (k : Int))).ap x y h))) s6 [.un, .un, .un, .un, .un]) rfl
    ⟨.un, by
      have z : (a.mul 0).ap x y h = po x y h := by
        rw [mul_zero']
        refine po_eq ?_ ?_ ?_ <;> simp [zM, rx, ry]
        omega
      show _ = PS cs t1 a (po x y h) (.ow (.fz ((a.mul 0).ap x y h))) (.ow (.fz ((a.mul 0).ap x y h))) .un [.un, .un, .un, .un, .un]
      rw [z]⟩ fun k sd hk ⟨s6, e⟩ => by
      subst e
      refine ⟨PS cs t1 a (po x y h) (.ow (.fz ((a.mul k).ap x y h))) (.ow (.fz ((a.mul (0 - (k : Int))).ap x y h))) (.ow (.fz (.int (1 + (k : Int))))) [.un, .un, .un, .un, .un], _, rfl, .inl (power_b1 cs t1 a ha hm x y h h0 h3 k hk _), .ow (.fz (.int (1 + (k : Int)))), ?_⟩
      rw [show ((k + 1 : Nat) : Int) = 1 + (k : Int) by omega]
  have l1 : m__law_power_right_7 cs (PS cs t1 a (po x y h) (.ow (.fz (po x y h))) (.ow (.fz (po x y h))) .un [.un, .un, .un, .un, .un]) = .nx _ := l1
  generalize hs3 : S.ow (.fz ((a.mul ((8 : Nat) : Int)).ap x y h)) = s3 at l1
  generalize hs4 : S.ow (.fz ((a.mul (0 - ((8 : Nat) : Int))).ap x y h)) = s4 at l1
  have st : m__law_power_right_1 cs ⟨[.pa 0, .ow (.fz (mo cs a)), .un, .un, .un, .un, .un, .un, .un, .un, .un, .un], [t, .fz (mo cs a)]⟩ = .nx ⟨[.pa 0, .ow (.fz (mo cs a)), .ow (.fz (po x y h)), .ow (.fz .non), .ow (.fz .non), .un, .un, .un, .un, .un, .un, .un], [t1, .fz (mo cs a)]⟩ := by
    simp [m__law_power_right_1, m__law_power_right_2, m__law_power_right_3, m__law_power_right_4, m__law_power_right_5, m__law_power_right_6, m__law_power_right_b1, m__law_power_right_7, m__law_power_right_8, m__law_power_right_9, m__law_power_right_10, m__law_power_right_11, m__law_power_right_12, m__law_power_right_13, m__law_power_right_14, m__law_power_right_15, m__law_power_right_16, m__law_power_right, -List.map_map, -List.map_take, -List.map_drop, -List.map_append, -List.map_reverse, asDef, entry, slotsOf, sSeq, sSet, sRet, sIf, sDrop, sNil, sBreak, sCont, sApp, sSetAt, setEnd, sAug, sAsg, sPar, mVar, mSee, mFrz, mTake, mC, mUn, mOp, mNil, mCons, mCall, mCallL, mTup, mLst, mView, mOwn, mFz, mTest, mAnd, mOr, mNot, mIf, mAndV, mOrV, mNotV, mChain, mAt, qSee, qFz, qNew, oNone, oSome, rNil, rSlot, rFz, mCall0, mCall1, oneSlot, noSlot, treesOf, SD.tree, SD.put, SD.putFz, tgN, tgNil, tgCons, tgT, ER.bind, ER.opt, ER.stm, Fl.seq, OT.view, OT.views, OT.items, fzOf, iLst, iTuP, iRange1, iRange2, iZip2, iEnumL, dIx, atI, ixN, dAdd, dSub, dNeg, dLt, dLe, dGt, dGe, dIsN, dNotN, isNonD, dEq, dNe, eqB_int, eqB_str, eqB_bl, eq_2, eq_3, dLen, dIsi, D.isA, tyName, dMod, dMax, dMin, mFld, fldD, mMake, mOwn2, mOwn1, mCallIns, mProp, mMeth, mB2, callFz, callFzQ, sFldSet, putO, idxN, cSame, cInt, D.isIns, D.isInt, dIsO, D.tyv, okC, sPar3, mCutX, mCat, dAll, boolsOf, sFor, goFor, rangeD, List.range, List.range.loop, sNever, q1]
  have st2 : m__law_power_right_2 cs ⟨[.pa 0, .ow (.fz (mo cs a)), .ow (.fz (po x y h)), .ow (.fz .non), .ow (.fz .non), .un, .un, .un, .un, .un, .un, .un], [t1, .fz (mo cs a)]⟩ = .nx ⟨[.pa 0, .ow (.fz (mo cs a)), .ow (.fz (po x y h)), .ow (.fz (po x y h)), .ow (.fz (po x y h)), .un, .un, .un, .un, .un, .un, .un], [t1, .fz (mo cs a)]⟩ := by
    simp [m__law_power_right_1, m__law_power_right_2, m__law_power_right_3, m__law_power_right_4, m__law_power_right_5, m__law_power_right_6, m__law_power_right_b1, m__law_power_right_7, m__law_power_right_8, m__law_power_right_9, m__law_power_right_10, m__law_power_right_11, m__law_power_right_12, m__law_power_right_13, m__law_power_right_14, m__law_power_right_15, m__law_power_right_16, m__law_power_right, -List.map_map, -List.map_take, -List.map_drop, -List.map_append, -List.map_reverse, asDef, entry, slotsOf, sSeq, sSet, sRet, sIf, sDrop, sNil, sBreak, sCont, sApp, sSetAt, setEnd, sAug, sAsg, sPar, mVar, mSee, mFrz, mTake, mC, mUn, mOp, mNil, mCons, mCall, mCallL, mTup, mLst, mView, mOwn, mFz, mTest, mAnd, mOr, mNot, mIf, mAndV, mOrV, mNotV, mChain, mAt, qSee, qFz, qNew, oNone, oSome, rNil, rSlot, rFz, mCall0, mCall1, oneSlot, noSlot, treesOf, SD.tree, SD.put, SD.putFz, tgN, tgNil, tgCons, tgT, ER.bind, ER.opt, ER.stm, Fl.seq, OT.view, OT.views, OT.items, fzOf, iLst, iTuP, iRange1, iRange2, iZip2, iEnumL, dIx, atI, ixN, dAdd, dSub, dNeg, dLt, dLe, dGt, dGe, dIsN, dNotN, isNonD, dEq, dNe, eqB_int, eqB_str, eqB_bl, eq_2, eq_3, dLen, dIsi, D.isA, tyName, dMod, dMax, dMin, mFld, fldD, mMake, mOwn2, mOwn1, mCallIns, mProp, mMeth, mB2, callFz, callFzQ, sFldSet, putO, idxN, cSame, cInt, D.isIns, D.isInt, dIsO, D.tyv, okC, sPar3, mCutX, mCat, dAll, boolsOf, sFor, goFor, rangeD, List.range, List.range.loop, sNever]
  have st3 : m__law_power_right_3 cs ⟨[.pa 0, .ow (.fz (mo cs a)), .ow (.fz (po x y h)), .ow (.fz (po x y h)), .ow (.fz (po x y h)), .un, .un, .un, .un, .un, .un, .un], [t1, .fz (mo cs a)]⟩ = .nx (PS cs t1 a (po x y h) (.ow (.fz (po x y h))) (.ow (.fz (po x y h))) .un [.un, .un, .un, .un, .un]) := by
    simp [m__law_power_right_1, m__law_power_right_2, m__law_power_right_3, m__law_power_right_4, m__law_power_right_5, m__law_power_right_6, m__law_power_right_b1, m__law_power_right_7, m__law_power_right_8, m__law_power_right_9, m__law_power_right_10, m__law_power_right_11, m__law_power_right_12, m__law_power_right_13, m__law_power_right_14, m__law_power_right_15, m__law_power_right_16, m__law_power_right, -List.map_map, -List.map_take, -List.map_drop, -List.map_append, -List.map_reverse, asDef, entry, slotsOf, sSeq, sSet, sRet, sIf, sDrop, sNil, sBreak, sCont, sApp, sSetAt, setEnd, sAug, sAsg, sPar, mVar, mSee, mFrz, mTake, mC, mUn, mOp, mNil, mCons, mCall, mCallL, mTup, mLst, mView, mOwn, mFz, mTest, mAnd, mOr, mNot, mIf, mAndV, mOrV, mNotV, mChain, mAt, qSee, qFz, qNew, oNone, oSome, rNil, rSlot, rFz, mCall0, mCall1, oneSlot, noSlot, treesOf, SD.tree, SD.put, SD.putFz, tgN, tgNil, tgCons, tgT, ER.bind, ER.opt, ER.stm, Fl.seq, OT.view, OT.views, OT.items, fzOf, iLst, iTuP, iRange1, iRange2, iZip2, iEnumL, dIx, atI, ixN, dAdd, dSub, dNeg, dLt, dLe, dGt, dGe, dIsN, dNotN, isNonD, dEq, dNe, eqB_int, eqB_str, eqB_bl, eq_2, eq_3, dLen, dIsi, D.isA, tyName, dMod, dMax, dMin, mFld, fldD, mMake, mOwn2, mOwn1, mCallIns, mProp, mMeth, mB2, callFz, callFzQ, sFldSet, putO, idxN, cSame, cInt, D.isIns, D.isInt, dIsO, D.tyv, okC, sPar3, mCutX, mCat, dAll, boolsOf, sFor, goFor, rangeD, List.range, List.range.loop, sNever, -D.isIns, qn, i1, mo_view, PS]
  have st8 : m__law_power_right_8 cs (PS cs t1 a (po x y h) s3 s4 s6 [.un, .un, .un, .un, .un]) = .nx (PS cs t4 a (po x y h) s3 s4 (.ow (.fz (.int mm))) [.un, .un, .un, .un, .un]) := by
    simp [m__law_power_right_1, m__law_power_right_2, m__law_power_right_3, m__law_power_right_4, m__law_power_right_5, m__law_power_right_6, m__law_power_right_b1, m__law_power_right_7, m__law_power_right_8, m__law_power_right_9, m__law_power_right_10, m__law_power_right_11, m__law_power_right_12, m__law_power_right_13, m__law_power_right_14, m__law_power_right_15, m__law_power_right_16, m__law_power_right, -List.map_map, -List.map_take, -List.map_drop, -List.map_append, -List.map_reverse, asDef, entry, slotsOf, sSeq, sSet, sRet, sIf, sDrop, sNil, sBreak, sCont, sApp, sSetAt, setEnd, sAug, sAsg, sPar, mVar, mSee, mFrz, mTake, mC, mUn, mOp, mNil, mCons, mCall, mCallL, mTup, mLst, mView, mOwn, mFz, mTest, mAnd, mOr, mNot, mIf, mAndV, mOrV, mNotV, mChain, mAt, qSee, qFz, qNew, oNone, oSome, rNil, rSlot, rFz, mCall0, mCall1, oneSlot, noSlot, treesOf, SD.tree, SD.put, SD.putFz, tgN, tgNil, tgCons, tgT, ER.bind, ER.opt, ER.stm, Fl.seq, OT.view, OT.views, OT.items, fzOf, iLst, iTuP, iRange1, iRange2, iZip2, iEnumL, dAdd, dSub, dNeg, dLt, dLe, dGt, dGe, dIsN, dNotN, isNonD, dEq, dNe, eqB_int, eqB_str, eqB_bl, eq_2, eq_3, dLen, dIsi, D.isA, tyName, dMod, dMax, dMin, mFld, fldD, mMake, mOwn2, mOwn1, mCallIns, mProp, mMeth, mB2, callFz, callFzQ, sFldSet, putO, idxN, cSame, cInt, D.isIns, D.isInt, dIsO, D.tyv, okC, sPar3, mCutX, mCat, dAll, boolsOf, sFor, goFor, rangeD, List.range, List.range.loop, sNever, PS, e29, e30, q2, q3, q4, em, ix]
  have st9 : m__law_power_right_9 cs (PS cs t4 a (po x y h) s3 s4 (.ow (.fz (.int mm))) [.un, .un, .un, .un, .un]) = .nx (PS cs t4 a (po x y h) s3 s4 (.ow (.fz (.int mm))) [.ow (.fz (.int x)), .ow (.fz (.int y)), .ow (.fz (.int h)), .un, .un]) := by
    simp [m__law_power_right_1, m__law_power_right_2, m__law_power_right_3, m__law_power_right_4, m__law_power_right_5, m__law_power_right_6, m__law_power_right_b1, m__law_power_right_7, m__law_power_right_8, m__law_power_right_9, m__law_power_right_10, m__law_power_right_11, m__law_power_right_12, m__law_power_right_13, m__law_power_right_14, m__law_power_right_15, m__law_power_right_16, m__law_power_right, -List.map_map, -List.map_take, -List.map_drop, -List.map_append, -List.map_reverse, asDef, entry, slotsOf, sSeq, sSet, sRet, sIf, sDrop, sNil, sBreak, sCont, sApp, sSetAt, setEnd, sAug, sAsg, sPar, mVar, mSee, mFrz, mTake, mC, mUn, mOp, mNil, mCons, mCall, mCallL, mTup, mLst, mView, mOwn, mFz, mTest, mAnd, mOr, mNot, mIf, mAndV, mOrV, mNotV, mChain, mAt, qSee, qFz, qNew, oNone, oSome, rNil, rSlot, rFz, mCall0, mCall1, oneSlot, noSlot, treesOf, SD.tree, SD.put, SD.putFz, tgN, tgNil, tgCons, tgT, ER.bind, ER.opt, ER.stm, Fl.seq, OT.view, OT.views, OT.items, fzOf, iLst, iTuP, iRange1, iRange2, iZip2, iEnumL, dAdd, dSub, dNeg, dLt, dLe, dGt, dGe, dIsN, dNotN, isNonD, dEq, dNe, eqB_int, eqB_str, eqB_bl, eq_2, eq_3, dLen, dIsi, D.isA, tyName, dMod, dMax, dMin, mFld, fldD, mMake, mOwn2, mOwn1, mCallIns, mProp, mMeth, mB2, callFz, callFzQ, sFldSet, putO, idxN, cSame, cInt, D.isIns, D.isInt, dIsO, D.tyv, okC, sPar3, mCutX, mCat, dAll, boolsOf, sFor, goFor, rangeD, List.range, List.range.loop, sNever, PS, po]
  obtain ⟨s10, st13⟩ := power_13 cs t4 a ha hm x y h mm h0 h3 m0 m1 s3 s4 .un .un
  obtain ⟨t5, d5, v5, q5⟩ := mul_mo cs a mm hm (by omega) (by omega)
  obtain ⟨t6, d6, v6, q6⟩ := mul_mo cs a (0 - mm) hm (by omega) (by omega)
  obtain ⟨d7, q7⟩ := led_ok cs (a.mul mm) x y h h0 h3
  obtain ⟨d8, q8⟩ := add_ok cs (a.mul mm) (a.mul (0 - mm)) (mul_is a _)
  rw [mul_opp a ha mm] at q8
  obtain ⟨r0, z0⟩ := init_ok cs 0 0 0 (by omega) (by omega)
  have z0 : m_Motion___init__ cs [.oi (cs 0) [] [], .fz (.int 0), .fz (.int 0), .fz (.int 0)] = .ok (.fz .non) ⟨[], moO cs zM :: r0⟩ := z0
  obtain ⟨d9, q9⟩ := eq_ok cs zM zM
  rw [same_self] at q9
  have e1 := ap_self (a.mul mm) x y h
  have st15 : m__law_power_right_15 cs (PS cs t4 a (po x y h) s3 s4 (.ow (.fz (.int mm))) [.ow (.fz (.int x)), .ow (.fz (.int y)), .ow (.fz (.int h)), s10, .ow (.fz ((a.mul mm).ap x y h))]) = .nx (PS cs t4 a (po x y h) s3 s4 (.ow (.fz (.int mm))) [.ow (.fz (.int x)), .ow (.fz (.int y)), .ow (.fz (.int h)), s10, .ow (.fz ((a.mul mm).ap x y h))]) := by
    simp [-Int.zero_sub, m__law_power_right_1, m__law_power_right_2, m__law_power_right_3, m__law_power_right_4, m__law_power_right_5, m__law_power_right_6, m__law_power_right_b1, m__law_power_right_7, m__law_power_right_8, m__law_power_right_9, m__law_power_right_10, m__law_power_right_11, m__law_power_right_12, m__law_power_right_13, m__law_power_right_14, m__law_power_right_15, m__law_power_right_16, m__law_power_right, -List.map_map, -List.map_take, -List.map_drop, -List.map_append, -List.map_reverse, asDef, entry, slotsOf, sSeq, sSet, sRet, sIf, sDrop, sNil, sBreak, sCont, sApp, sSetAt, setEnd, sAug, sAsg, sPar, mVar, mSee, mFrz, mTake, mC, mUn, mOp, mNil, mCons, mCall, mCallL, mTup, mLst, mView, mOwn, mFz, mTest, mAnd, mOr, mNot, mIf, mAndV, mOrV, mNotV, mChain, mAt, qSee, qFz, qNew, oNone, oSome, rNil, rSlot, rFz, mCall0, mCall1, oneSlot, noSlot, treesOf, SD.tree, SD.put, SD.putFz, tgN, tgNil, tgCons, tgT, ER.bind, ER.opt, ER.stm, Fl.seq, OT.view, OT.views, OT.items, fzOf, iLst, iTuP, iRange1, iRange2, iZip2, iEnumL, dAdd, dSub, dNeg, dLt, dLe, dGt, dGe, dIsN, dNotN, isNonD, dEq, dNe, eqB_int, eqB_str, eqB_bl, eq_2, eq_3, dLen, dIsi, D.isA, tyName, dMod, dMax, dMin, mFld, fldD, mMake, mOwn2, mOwn1, mCallIns, mProp, mMeth, mB2, callFz, callFzQ, sFldSet, putO, idxN, cSame, cInt, D.isIns, D.isInt, dIsO, D.tyv, okC, sPar3, mCutX, mCat, dAll, boolsOf, sFor, goFor, rangeD, List.range, List.range.loop, sNever, -D.isIns, -D.tyv, PS, v5, q5, v6, q6, q7, q8, z0, q9, e1, i1, ty, mo_view]
  obtain ⟨ta, da, va, qa⟩ := mul_mo cs a 0 hm (by omega) (by omega)
  obtain ⟨tb, db, vb, qb⟩ := mul_mo cs a 1 hm (by omega) (by omega)
  obtain ⟨tc, dc, vc, qc⟩ := mul_mo cs a (-1) hm (by omega) (by omega)
  rw [mul_zero'] at va
  rw [mul_one' a ha] at vb
  rw [mul_neg1 a ha] at vc
  obtain ⟨dd, qd⟩ := eq_ok cs a a
  rw [same_self] at qd
  obtain ⟨de, qe⟩ := eq_ok cs a.neg a.neg
  rw [same_self] at qe
  have st16 : m__law_power_right_16 cs (PS cs t4 a (po x y h) s3 s4 (.ow (.fz (.int mm))) [.ow (.fz (.int x)), .ow (.fz (.int y)), .ow (.fz (.int h)), s10, .ow (.fz ((a.mul mm).ap x y h))]) = .rt (.fz (.bl true)) (PS cs t4 a (po x y h) s3 s4 (.ow (.fz (.int mm))) [.ow (.fz (.int x)), .ow (.fz (.int y)), .ow (.fz (.int h)), s10, .ow (.fz ((a.mul mm).ap x y h))]) := by
    simp [m__law_power_right_1, m__law_power_right_2, m__law_power_right_3, m__law_power_right_4, m__law_power_right_5, m__law_power_right_6, m__law_power_right_b1, m__law_power_right_7, m__law_power_right_8, m__law_power_right_9, m__law_power_right_10, m__law_power_right_11, m__law_power_right_12, m__law_power_right_13, m__law_power_right_14, m__law_power_right_15, m__law_power_right_16, m__law_power_right, -List.map_map, -List.map_take, -List.map_drop, -List.map_append, -List.map_reverse, asDef, entry, slotsOf, sSeq, sSet, sRet, sIf, sDrop, sNil, sBreak, sCont, sApp, sSetAt, setEnd, sAug, sAsg, sPar, mVar, mSee, mFrz, mTake, mC, mUn, mOp, mNil, mCons, mCall, mCallL, mTup, mLst, mView, mOwn, mFz, mTest, mAnd, mOr, mNot, mIf, mAndV, mOrV, mNotV, mChain, mAt, qSee, qFz, qNew, oNone, oSome, rNil, rSlot, rFz, mCall0, mCall1, oneSlot, noSlot, treesOf, SD.tree, SD.put, SD.putFz, tgN, tgNil, tgCons, tgT, ER.bind, ER.opt, ER.stm, Fl.seq, OT.view, OT.views, OT.items, fzOf, iLst, iTuP, iRange1, iRange2, iZip2, iEnumL, dAdd, dSub, dNeg, dLt, dLe, dGt, dGe, dIsN, dNotN, isNonD, dEq, dNe, eqB_int, eqB_str, eqB_bl, eq_2, eq_3, dLen, dIsi, D.isA, tyName, dMod, dMax, dMin, mFld, fldD, mMake, mOwn2, mOwn1, mCallIns, mProp, mMeth, mB2, callFz, callFzQ, sFldSet, putO, idxN, cSame, cInt, D.isIns, D.isInt, dIsO, D.tyv, okC, sPar3, mCutX, mCat, dAll, boolsOf, sFor, goFor, rangeD, List.range, List.range.loop, sNever, -D.isIns, -D.tyv, PS, va, qa, vb, qb, vc, qc, qd, qe, qn, z0, q9, i1, ty, mo_view]
  refine ⟨t4, ?_, ?_⟩
  · obtain ⟨p, q, r, e, f1, f2, f3⟩ := k4
    exact ⟨p, q, r, e, f1, f2, by omega⟩
  · have en : entry 12 [t, .fz (mo cs a)] = ⟨[.pa 0, .ow (.fz (mo cs a)), .un, .un, .un, .un, .un, .un, .un, .un, .un, .un], [t, .fz (mo cs a)]⟩ := by
      obtain ⟨p, q, r, e, _⟩ := ht
      subst e; rfl
    simp only [m__law_power_right, asDef, en, sSeq, st, st2, st3, Fl.seq, l1, st8, st9, st13, st15, st16]
    rfl
/-! ### order -/
def duN (a : Mo) : Nat → Option Int
  | 0 => none
  | k + 1 => match duN a k with
    | some v => some v
    | none => if (a.pw (k + 1)).same zM = true then some (1 + k) else none
def od : Option Int → D
  | none => .non
  | some v => .int v
def orderD (a : Mo) : D := if a.t = 0 then (if a.x = 0 ∧ a.y = 0 then .int 1 else .non) else if a.t = 2 then .int 2 else .int 4
theorem same_no (m : Mo) (h : ¬ (m.t = 0 ∧ m.x = 0 ∧ m.y = 0)) : m.same zM = false := by
  cases hs : m.same zM with
  | false => rfl
  | true =>
    exfalso; apply h
    simp [Mo.same, zM] at hs
    exact ⟨of_decide_eq_true hs.1, of_decide_eq_true hs.2.1, of_decide_eq_true hs.2.2⟩
theorem same_yes (m : Mo) (h : m.t = 0 ∧ m.x = 0 ∧ m.y = 0) : m.same zM = true := by
  simp [Mo.same, zM, h]
theorem pw_t (a : Mo) (k : Nat) : (a.pw (k + 1)).t = ((a.pw k).t + a.t) % 4 := rfl
theorem order_du (a : Mo) (ha : a.ok) : orderD a = od (duN a 4) := by
  have h1 := four_cases ha.1 ha.2
  have e1 : a.pw 1 = a := zM_add a ha
  have z0 : (a.pw 0).t = 0 := rfl
  have t1 : (a.pw 1).t = a.t := by rw [e1]
  have t2 : (a.pw 2).t = (a.t + a.t) % 4 := by rw [show a.pw 2 = (a.pw 1).add a from rfl, e1]; rfl
  have t3 : (a.pw 3).t = ((a.pw 2).t + a.t) % 4 := rfl
  rcases h1 with e | e | e | e
  · have m : ∀ k : Nat, a.pw k = ⟨0, a.x * k, a.y * k⟩ := by
      intro k
      induction k with
      | zero => refine Mo.ext' ?_ ?_ ?_ <;> simp [Mo.pw, zM]
      | succ k ih =>
        show (a.pw k).add a = _
        rw [ih]
        refine Mo.ext' ?_ ?_ ?_ <;> simp [Mo.add, rx, ry, e, Int.mul_add]
    by_cases hp : a.x = 0 ∧ a.y = 0
    · have s1 : (a.pw 1).same zM = true := same_yes _ (by rw [e1]; exact ⟨e, hp⟩)
      simp [orderD, duN, e, hp.1, hp.2, s1, od]
    · have s : ∀ k : Nat, 0 < k → k < 5 → (a.pw k).same zM = false := by
        intro k h1 h2
        refine same_no _ ?_
        rw [m]
        rintro ⟨_, h3, h4⟩
        dsimp only at h3 h4
        have hk : (k : Int) ≠ 0 := by omega
        exact hp ⟨(Int.mul_eq_zero.mp h3).resolve_right hk, (Int.mul_eq_zero.mp h4).resolve_right hk⟩
      have s1 := s 1 (by omega) (by omega)
      have s2 := s 2 (by omega) (by omega)
      have s3 := s 3 (by omega) (by omega)
      have s4 := s 4 (by omega) (by omega)
      simp [orderD, duN, e, hp, s1, s2, s3, s4, od]
  · have s1 : (a.pw 1).same zM = false := same_no _ (by omega)
    have s2 : (a.pw 2).same zM = false := same_no _ (by omega)
    have s3 : (a.pw 3).same zM = false := same_no _ (by omega)
    have s4 : (a.pw 4).same zM = true := by rw [pw4 a ha (by omega)]; exact same_self _
    simp [orderD, duN, e, s1, s2, s3, s4, od]
  · have s1 : (a.pw 1).same zM = false := same_no _ (by omega)
    have s2 : (a.pw 2).same zM = true := by
      have z : a.pw 2 = zM := by
        show (a.pw 1).add a = zM
        rw [e1]
        refine Mo.ext' ?_ ?_ ?_ <;> simp [Mo.add, rx, ry, e, zM]
        all_goals omega
      rw [z]; exact same_self _
    simp [orderD, duN, e, s1, s2, od]
  · have s1 : (a.pw 1).same zM = false := same_no _ (by omega)
    have s2 : (a.pw 2).same zM = false := same_no _ (by omega)
    have s3 : (a.pw 3).same zM = false := same_no _ (by omega)
    have s4 : (a.pw 4).same zM = true := by rw [pw4 a ha (by omega)]; exact same_self _
    simp [orderD, duN, e, s1, s2, s3, s4, od]
theorem repr_order (a : Mo) : ∃ s, dRepr [orderD a] = some (.str s) := by
  have n : ∃ s, dRepr [D.non] = some (.str s) := ⟨_, dRepr_of (p := .none) rfl rfl (by decide) (by decide)⟩
  have i : ∀ z : Int, z.natAbs.log2 < 1920 → ∃ s, dRepr [D.int z] = some (.str s) := fun z hz => ⟨_, dRepr_of (p := .int z) rfl (by simp [PyData.showable, hz]) (by simp [PyData.depth]) (by simp [szP])⟩
  unfold orderD
  split
  · split
    · exact i 1 (by decide)
    · exact n
  · split
    · exact i 2 (by decide)
    · exact i 4 (by decide)
theorem order_right_ok (cs : Nat → Addr) (a : Mo) (ha : a.ok) : ∃ sd, m__law_order_right cs [.fz (mo cs a)] = .ok (.fz (.bl true)) sd := by
  obtain ⟨r0, z0⟩ := init_ok cs 0 0 0 (by omega) (by omega)
  have z0 : m_Motion___init__ cs [.oi (cs 0) [] [], .fz (.int 0), .fz (.int 0), .fz (.int 0)] = .ok (.fz .non) ⟨[], moO cs zM :: r0⟩ := z0
  have i1 : ∀ m, (mo cs m).isIns (cs 0) = true := fun m => by simp [mo, D.isIns]
  have ty : ∀ m, ((mo cs m).tyv (okC cs)).isSome = true := fun m => by simp [mo, D.tyv, okC]
  have b1 : ∀ k : Nat, m__law_order_right_b1 cs ⟨[.ow (.fz (mo cs a)), .ow (.fz (od (duN a k))), .ow (.fz (mo cs (a.pw k))), .ow (.fz (.int (1 + (k : Int))))], [.fz (mo cs a)]⟩ = .nx ⟨[.ow (.fz (mo cs a)), .ow (.fz (od (duN a (k + 1)))), .ow (.fz (mo cs (a.pw (k + 1)))), .ow (.fz (.int (1 + (k : Int))))], [.fz (mo cs a)]⟩ := by
    intro k
    obtain ⟨d1, q1⟩ := add_ok cs (a.pw k) a (a.pw_is k)
    have q1 : m_Motion___add__ cs [.fz (mo cs (a.pw k)), .fz (mo cs a)] = .ok (moO cs (a.pw (k + 1))) d1 := q1
    obtain ⟨d2, q2⟩ := eq_ok cs (a.pw (k + 1)) zM
    have e : duN a (k + 1) = match duN a k with
      | some v => some v
      | none => if (a.pw (k + 1)).same zM = true then some (1 + (k : Int)) else none := rfl
    rw [e]
    cases hd : duN a k with
    | none => cases hs : (a.pw (k + 1)).same zM <;> rw [hs] at q2 <;> simp [m__law_order_right_1, m__law_order_right_2, m__law_order_right_3, m__law_order_right_4, m__law_order_right_b1, m__law_order_right_5, m__law_order_right_6, m__law_order_right, -List.map_map, -List.map_take, -List.map_drop, -List.map_append, -List.map_reverse, asDef, entry, slotsOf, sSeq, sSet, sRet, sIf, sDrop, sNil, sBreak, sCont, sApp, sSetAt, setEnd, sAug, sAsg, sPar, mVar, mSee, mFrz, mTake, mC, mUn, mOp, mNil, mCons, mCall, mCallL, mTup, mLst, mView, mOwn, mFz, mTest, mAnd, mOr, mNot, mIf, mAndV, mOrV, mNotV, mChain, mAt, qSee, qFz, qNew, oNone, oSome, rNil, rSlot, rFz, mCall0, mCall1, oneSlot, noSlot, treesOf, SD.tree, SD.put, SD.putFz, tgN, tgNil, tgCons, tgT, ER.bind, ER.opt, ER.stm, Fl.seq, OT.view, OT.views, OT.items, fzOf, iLst, iTuP, iRange1, iRange2, iZip2, iEnumL, dIx, atI, ixN, dAdd, dSub, dNeg, dLt, dLe, dGt, dGe, dIsN, dNotN, isNonD, dEq, dNe, eqB_int, eqB_str, eqB_bl, eq_2, eq_3, dLen, dIsi, D.isA, tyName, dMod, dMax, dMin, mFld, fldD, mMake, mOwn2, mOwn1, mCallIns, mProp, mMeth, mB2, callFz, callFzQ, sFldSet, putO, idxN, cSame, cInt, D.isIns, D.isInt, dIsO, D.tyv, okC, sPar3, mCutX, mCat, dAll, boolsOf, sFor, goFor, rangeD, List.range, List.range.loop, sNever, -D.isIns, -D.tyv, -List.range, -List.range.loop, q1, q2, z0, i1, ty, mo_view, od]
    | some v => cases hs : (a.pw (k + 1)).same zM <;> rw [hs] at q2 <;> simp [m__law_order_right_1, m__law_order_right_2, m__law_order_right_3, m__law_order_right_4, m__law_order_right_b1, m__law_order_right_5, m__law_order_right_6, m__law_order_right, -List.map_map, -List.map_take, -List.map_drop, -List.map_append, -List.map_reverse, asDef, entry, slotsOf, sSeq, sSet, sRet, sIf, sDrop, sNil, sBreak, sCont, sApp, sSetAt, setEnd, sAug, sAsg, sPar, mVar, mSee, mFrz, mTake, mC, mUn, mOp, mNil, mCons, mCall, mCallL, mTup, mLst, mView, mOwn, mFz, mTest, mAnd, mOr, mNot, mIf, mAndV, mOrV, mNotV, mChain, mAt, qSee, qFz, qNew, oNone, oSome, rNil, rSlot, rFz, mCall0, mCall1, oneSlot, noSlot, treesOf, SD.tree, SD.put, SD.putFz, tgN, tgNil, tgCons, tgT, ER.bind, ER.opt, ER.stm, Fl.seq, OT.view, OT.views, OT.items, fzOf, iLst, iTuP, iRange1, iRange2, iZip2, iEnumL, dIx, atI, ixN, dAdd, dSub, dNeg, dLt, dLe, dGt, dGe, dIsN, dNotN, isNonD, dEq, dNe, eqB_int, eqB_str, eqB_bl, eq_2, eq_3, dLen, dIsi, D.isA, tyName, dMod, dMax, dMin, mFld, fldD, mMake, mOwn2, mOwn1, mCallIns, mProp, mMeth, mB2, callFz, callFzQ, sFldSet, putO, idxN, cSame, cInt, D.isIns, D.isInt, dIsO, D.tyv, okC, sPar3, mCutX, mCat, dAll, boolsOf, sFor, goFor, rangeD, List.range, List.range.loop, sNever, -D.isIns, -D.tyv, q1, q2, z0, i1, ty, mo_view, od]
  obtain ⟨sd1, l1, s3, rfl⟩ := sFor_upto (it := iRange2 (mCons (mC (.int 1)) (mCons (mC (.int 5)) (mNil)))) (g := tgN 3) (body := m__law_order_right_b1 cs) (sd := ⟨[.ow (.fz (mo cs a)), .ow (.fz .non), .ow (.fz (mo cs zM)), .un], [.fz (mo cs a)]⟩) 4 (fun i => .int (1 + i))
    (fun k sd => ∃ s3, sd = ⟨[.ow (.fz (mo cs a)), .ow (.fz (od (duN a k))), .ow (.fz (mo cs (a.pw k))), s3], [.fz (mo cs a)]⟩) rfl ⟨.un, rfl⟩ fun k sd hk ⟨s3, e⟩ => by
      subst e
      exact ⟨⟨[.ow (.fz (mo cs a)), .ow (.fz (od (duN a k))), .ow (.fz (mo cs (a.pw k))), .ow (.fz (.int (1 + (k : Int))))], [.fz (mo cs a)]⟩, _, rfl, .inl (b1 k), _, rfl⟩
  have l1 : m__law_order_right_5 cs ⟨[.ow (.fz (mo cs a)), .ow (.fz .non), .ow (.fz (mo cs zM)), .un], [.fz (mo cs a)]⟩ = .nx _ := l1
  rw [← order_du a ha] at l1
  have st : m__law_order_right_1 cs ⟨[.ow (.fz (mo cs a)), .un, .un, .un], [.fz (mo cs a)]⟩ = .nx ⟨[.ow (.fz (mo cs a)), .ow (.fz .non), .ow (.fz (mo cs zM)), .un], [.fz (mo cs a)]⟩ := by
    simp [m__law_order_right_1, m__law_order_right_2, m__law_order_right_3, m__law_order_right_4, m__law_order_right_b1, m__law_order_right_5, m__law_order_right_6, m__law_order_right, -List.map_map, -List.map_take, -List.map_drop, -List.map_append, -List.map_reverse, asDef, entry, slotsOf, sSeq, sSet, sRet, sIf, sDrop, sNil, sBreak, sCont, sApp, sSetAt, setEnd, sAug, sAsg, sPar, mVar, mSee, mFrz, mTake, mC, mUn, mOp, mNil, mCons, mCall, mCallL, mTup, mLst, mView, mOwn, mFz, mTest, mAnd, mOr, mNot, mIf, mAndV, mOrV, mNotV, mChain, mAt, qSee, qFz, qNew, oNone, oSome, rNil, rSlot, rFz, mCall0, mCall1, oneSlot, noSlot, treesOf, SD.tree, SD.put, SD.putFz, tgN, tgNil, tgCons, tgT, ER.bind, ER.opt, ER.stm, Fl.seq, OT.view, OT.views, OT.items, fzOf, iLst, iTuP, iRange1, iRange2, iZip2, iEnumL, dIx, atI, ixN, dAdd, dSub, dNeg, dLt, dLe, dGt, dGe, dIsN, dNotN, isNonD, dEq, dNe, eqB_int, eqB_str, eqB_bl, eq_2, eq_3, dLen, dIsi, D.isA, tyName, dMod, dMax, dMin, mFld, fldD, mMake, mOwn2, mOwn1, mCallIns, mProp, mMeth, mB2, callFz, callFzQ, sFldSet, putO, idxN, cSame, cInt, D.isIns, D.isInt, dIsO, D.tyv, okC, sPar3, mCutX, mCat, dAll, boolsOf, sFor, goFor, rangeD, List.range, List.range.loop, sNever, z0, mo_view]
  obtain ⟨d2, q2⟩ := order_ok cs a
  have q2 : m_Motion_order cs [.fz (mo cs a)] = .ok (.fz (orderD a)) d2 := q2
  obtain ⟨s, hs⟩ := repr_order a
  have st6 : m__law_order_right_6 cs ⟨[.ow (.fz (mo cs a)), .ow (.fz (orderD a)), .ow (.fz (mo cs (a.pw 4))), s3], [.fz (mo cs a)]⟩ = .rt (.fz (.bl true)) ⟨[.ow (.fz (mo cs a)), .ow (.fz (orderD a)), .ow (.fz (mo cs (a.pw 4))), s3], [.fz (mo cs a)]⟩ := by
    have no : ¬ (Str.ofString "order" = Str.ofString "kept_turn") := by decide
    have no2 : ¬ (Str.ofString "order" = Str.ofString "kept_shift") := by decide
    simp only [mo] at q2
    simp [m__law_order_right_1, m__law_order_right_2, m__law_order_right_3, m__law_order_right_4, m__law_order_right_b1, m__law_order_right_5, m__law_order_right_6, m__law_order_right, -List.map_map, -List.map_take, -List.map_drop, -List.map_append, -List.map_reverse, asDef, entry, slotsOf, sSeq, sSet, sRet, sIf, sDrop, sNil, sBreak, sCont, sApp, sSetAt, setEnd, sAug, sAsg, sPar, mVar, mSee, mFrz, mTake, mC, mUn, mOp, mNil, mCons, mCall, mCallL, mTup, mLst, mView, mOwn, mFz, mTest, mAnd, mOr, mNot, mIf, mAndV, mOrV, mNotV, mChain, mAt, qSee, qFz, qNew, oNone, oSome, rNil, rSlot, rFz, mCall0, mCall1, oneSlot, noSlot, treesOf, SD.tree, SD.put, SD.putFz, tgN, tgNil, tgCons, tgT, ER.bind, ER.opt, ER.stm, Fl.seq, OT.view, OT.views, OT.items, fzOf, iLst, iTuP, iRange1, iRange2, iZip2, iEnumL, dIx, atI, ixN, dAdd, dSub, dNeg, dLt, dLe, dGt, dGe, dIsN, dNotN, isNonD, dEq, dNe, eqB_int, eqB_str, eqB_bl, eq_2, eq_3, dLen, dIsi, D.isA, tyName, dMod, dMax, dMin, mFld, fldD, mMake, mOwn2, mOwn1, mCallIns, mProp, mMeth, mB2, callFz, callFzQ, sFldSet, putO, idxN, cSame, cInt, D.isIns, D.isInt, dIsO, D.tyv, okC, sPar3, mCutX, mCat, dAll, boolsOf, sFor, goFor, rangeD, List.range, List.range.loop, sNever, mo, q2, hs, no, no2]
  have en : entry 4 [.fz (mo cs a)] = ⟨[.ow (.fz (mo cs a)), .un, .un, .un], [.fz (mo cs a)]⟩ := rfl
  refine ⟨⟨[], [.fz (mo cs a)]⟩, ?_⟩
  simp only [m__law_order_right, asDef, en, sSeq, st, Fl.seq, l1, st6]
/-! ### law -/
theorem po_0 (x y h : Int) : dIx (po x y h) (.int 0) = some (.int x) := rfl
theorem po_1 (x y h : Int) : dIx (po x y h) (.int 1) = some (.int y) := rfl
theorem po_2 (x y h : Int) : dIx (po x y h) (.int 2) = some (.int h) := rfl
theorem band3 (p q r : Bool) : (p && (q && r)) = (r && (p && q)) := by cases p <;> cases q <;> cases r <;> rfl
theorem po_same (a b : Mo) : dEqB (po a.x a.y a.t) (po b.x b.y b.t) = some (a.same b) := by
  unfold po Mo.same
  rw [eq_3, band3]
theorem same_comm (a b : Mo) : a.same b = b.same a := by
  unfold Mo.same
  rw [show decide (a.t = b.t) = decide (b.t = a.t) from decide_eq_decide.mpr eq_comm, show decide (a.x = b.x) = decide (b.x = a.x) from decide_eq_decide.mpr eq_comm, show decide (a.y = b.y) = decide (b.y = a.y) from decide_eq_decide.mpr eq_comm]
theorem ap0_po (s : Mo) (hs : s.ok) : s.ap 0 0 0 = po s.x s.y s.t := by
  have := hs.1
  have := hs.2
  refine po_eq ?_ ?_ ?_ <;> simp [rx, ry]
  omega
theorem po_shown (x y h : Int) (hx : x.natAbs < 2 ^ 1000) (hy : y.natAbs < 2 ^ 1000) (hh : h.natAbs < 2 ^ 1000) : ∃ s, dRepr [po x y h] = some (.str s) := by
  have h1 := log2_lt hx
  have h2 := log2_lt hy
  have h3 := log2_lt hh
  refine ⟨_, dRepr_of (p := .tuple [.int x, .int y, .int h]) (by simp [po, D.py, D.pys]) ?_ (by simp [PyData.depth, PyData.depthAll]) (by simp [szP, szA])⟩
  simp [PyData.showable, PyData.showableAll]
  omega
theorem ts_shown (t x y : Int) (hx : x.natAbs < 2 ^ 1000) (hy : y.natAbs < 2 ^ 1000) (hh : t.natAbs < 2 ^ 1000) : ∃ s, dRepr [.lst [.int t, .tup [.int x, .int y]]] = some (.str s) := by
  have h1 := log2_lt hx
  have h2 := log2_lt hy
  have h3 := log2_lt hh
  refine ⟨_, dRepr_of (p := .list [.int t, .tuple [.int x, .int y]]) (by simp [D.py, D.pys]) ?_ (by simp [PyData.depth, PyData.depthAll]) (by simp [szP, szA])⟩
  simp [PyData.showable, PyData.showableAll]
  omega
def Mo.sm (m : Mo) : Prop := m.x.natAbs < 2 ^ 400 ∧ m.y.natAbs < 2 ^ 400
theorem rx_abs (h x y : Int) : (rx h x y).natAbs ≤ max x.natAbs y.natAbs := by
  unfold rx; split
  · omega
  · split
    · omega
    · split <;> omega
theorem ry_abs (h x y : Int) : (ry h x y).natAbs ≤ max x.natAbs y.natAbs := by
  unfold ry; split
  · omega
  · split
    · omega
    · split <;> omega
theorem ap_shown (m : Mo) (x y h : Int) (hm : m.x.natAbs < 2 ^ 402 ∧ m.y.natAbs < 2 ^ 402) (hx : x.natAbs < 2 ^ 402) (hy : y.natAbs < 2 ^ 402) : ∃ s, dRepr [m.ap x y h] = some (.str s) := by
  have h1 := rx_abs h m.x m.y
  have h2 := ry_abs h m.x m.y
  have e1 : (2 : Nat) ^ 403 = 2 ^ 402 + 2 ^ 402 := by rw [Nat.pow_succ]; omega
  have e2 : (2 : Nat) ^ 403 ≤ 2 ^ 1000 := Nat.pow_le_pow_right (by decide) (by decide)
  have e3 : (4 : Nat) ≤ 2 ^ 402 := Nat.le_trans (by decide : (4 : Nat) ≤ 2 ^ 2) (Nat.pow_le_pow_right (by decide) (by decide))
  have := hm.1
  have := hm.2
  generalize (2 : Nat) ^ 402 = P at *
  generalize (2 : Nat) ^ 403 = P3 at *
  refine po_shown _ _ _ ?_ ?_ ?_
  all_goals (generalize (2 : Nat) ^ 1000 = PP at *; omega)
theorem add_size (a b : Mo) (ha : a.sm) (hb : b.sm) : (a.add b).x.natAbs < 2 ^ 402 ∧ (a.add b).y.natAbs < 2 ^ 402 := by
  have h1 := rx_abs a.t b.x b.y
  have h2 := ry_abs a.t b.x b.y
  have e1 : (2 : Nat) ^ 401 = 2 ^ 400 + 2 ^ 400 := by rw [Nat.pow_succ]; omega
  have e2 : (2 : Nat) ^ 401 ≤ 2 ^ 402 := Nat.pow_le_pow_right (by decide) (by decide)
  have := ha.1
  have := ha.2
  have := hb.1
  have := hb.2
  show (a.x + rx a.t b.x b.y).natAbs < 2 ^ 402 ∧ (a.y + ry a.t b.x b.y).natAbs < 2 ^ 402
  generalize (2 : Nat) ^ 400 = P at *
  generalize (2 : Nat) ^ 401 = P3 at *
  generalize (2 : Nat) ^ 402 = P4 at *
  omega
def LS (ns : List Int) (k t : S) (g : S) (f : List S) : SD := ⟨.ow (.fz (.scr ns)) :: k :: t :: g :: f, [.fz (.scr ns)]⟩
section
variable (cs : Nat → Addr) (ns : List Int) (k g t : S) (a b : Mo) (ha : a.ok) (hb : b.ok) (sa : a.sm) (sb : b.sm) (x y h : Int) (h0 : 0 ≤ h) (h3 : h ≤ 3) (hx : x.natAbs < 2 ^ 400) (hy : y.natAbs < 2 ^ 400)
theorem Mo.sm.mid {a : Mo} (h : a.sm) : a.mid := ⟨Nat.lt_of_lt_of_le h.1 (Nat.pow_le_pow_right (by decide) (by decide)), Nat.lt_of_lt_of_le h.2 (Nat.pow_le_pow_right (by decide) (by decide))⟩
theorem p402 {n : Nat} (h : n < 2 ^ 400) : n < 2 ^ 402 := Nat.lt_of_lt_of_le h (Nat.pow_le_pow_right (by decide) (by decide))
theorem mo_ins (m : Mo) : (mo cs m).isIns (cs 0) = true := by simp [mo, D.isIns]
theorem mo_tyv (m : Mo) : ((mo cs m).tyv (okC cs)).isSome = true := by simp [mo, D.tyv, okC]
include ha hb in
theorem law_5 (r : List S) (s6 s7 : S) : m_law_5 cs (LS ns k t g (.ow (.fz (po a.x a.y a.t)) :: .ow (.fz (po b.x b.y b.t)) :: s6 :: s7 :: r)) = .nx (LS ns k t g (.ow (.fz (po a.x a.y a.t)) :: .ow (.fz (po b.x b.y b.t)) :: .ow (.fz (mo cs a)) :: .ow (.fz (mo cs b)) :: r)) := by
  obtain ⟨r1, q1⟩ := init_ok cs a.t a.x a.y ha.1 ha.2
  obtain ⟨r2, q2⟩ := init_ok cs b.t b.x b.y hb.1 hb.2
  simp [m_law_5, -List.map_map, -List.map_take, -List.map_drop, -List.map_append, -List.map_reverse, asDef, entry, slotsOf, sSeq, sSet, sRet, sIf, sDrop, sNil, sBreak, sCont, sApp, sSetAt, setEnd, sAug, sAsg, sPar, mVar, mSee, mFrz, mTake, mC, mUn, mOp, mNil, mCons, mCall, mCallL, mTup, mLst, mView, mOwn, mFz, mTest, mAnd, mOr, mNot, mIf, mAndV, mOrV, mNotV, mChain, mAt, qSee, qFz, qNew, oNone, oSome, rNil, rSlot, rFz, mCall0, mCall1, oneSlot, noSlot, treesOf, SD.tree, SD.put, SD.putFz, tgN, tgNil, tgCons, tgT, ER.bind, ER.opt, ER.stm, Fl.seq, OT.view, OT.views, OT.items, fzOf, iLst, iTuP, iRange1, iRange2, iZip2, iEnumL, dAdd, dSub, dNeg, dLt, dLe, dGt, dGe, dIsN, dNotN, isNonD, dEq, dNe, eqB_int, eqB_str, eqB_bl, eq_2, eq_3, dLen, dIsi, D.isA, tyName, dMod, dMax, dMin, mFld, fldD, mMake, mOwn2, mOwn1, mCallIns, mProp, mMeth, mB2, callFz, callFzQ, sFldSet, putO, idxN, cSame, cInt, D.isIns, D.isInt, dIsO, D.tyv, okC, sPar3, mCutX, mCat, dAll, boolsOf, sFor, goFor, rangeD, List.range, List.range.loop, sNever, LS, po_0, po_1, po_2, q1, q2, mo_view]
include ha sa in
theorem law_8 (r : List S) (s5 : S) : m_law_8 cs (LS ns k t g (.ow (.fz (po a.x a.y a.t)) :: s5 :: .ow (.fz (mo cs a)) :: r)) = .nx (LS ns k t g (.ow (.fz (po a.x a.y a.t)) :: s5 :: .ow (.fz (mo cs a)) :: r)) := by
  obtain ⟨d1, q1⟩ := turn_ok cs a
  obtain ⟨d2, q2⟩ := shift_ok cs a
  obtain ⟨s, hs⟩ := ts_shown a.t a.x a.y (Nat.lt_of_lt_of_le sa.1 (Nat.pow_le_pow_right (by decide) (by decide))) (Nat.lt_of_lt_of_le sa.2 (Nat.pow_le_pow_right (by decide) (by decide))) (by
    have := ha.1; have := ha.2
    exact Nat.lt_of_lt_of_le (by omega : a.t.natAbs < 2 ^ 2) (Nat.pow_le_pow_right (by decide) (by decide)))
  have c : cutL [D.int a.x, D.int a.y, D.int a.t] none (some 2) = [.int a.x, .int a.y] := rfl
  simp only [mo] at q1 q2
  simp [m_law_8, -List.map_map, -List.map_take, -List.map_drop, -List.map_append, -List.map_reverse, asDef, entry, slotsOf, sSeq, sSet, sRet, sIf, sDrop, sNil, sBreak, sCont, sApp, sSetAt, setEnd, sAug, sAsg, sPar, mVar, mSee, mFrz, mTake, mC, mUn, mOp, mNil, mCons, mCall, mCallL, mTup, mLst, mView, mOwn, mFz, mTest, mAnd, mOr, mNot, mIf, mAndV, mOrV, mNotV, mChain, mAt, qSee, qFz, qNew, oNone, oSome, rNil, rSlot, rFz, mCall0, mCall1, oneSlot, noSlot, treesOf, SD.tree, SD.put, SD.putFz, tgN, tgNil, tgCons, tgT, ER.bind, ER.opt, ER.stm, Fl.seq, OT.view, OT.views, OT.items, fzOf, iLst, iTuP, iRange1, iRange2, iZip2, iEnumL, dIx, atI, ixN, dAdd, dSub, dNeg, dLt, dLe, dGt, dGe, dIsN, dNotN, isNonD, dEq, dNe, eqB_int, eqB_str, eqB_bl, eq_2, eq_3, dLen, dIsi, D.isA, tyName, dMod, dMax, dMin, mFld, fldD, mMake, mOwn2, mOwn1, mCallIns, mProp, mMeth, mB2, callFz, callFzQ, sFldSet, putO, idxN, cSame, cInt, D.isIns, D.isInt, dIsO, D.tyv, okC, sPar3, mCutX, mCat, dAll, boolsOf, sFor, goFor, rangeD, List.range, List.range.loop, sNever, LS, po, mo, q1, q2, hs, c]
include h0 h3 in
theorem law_9 (r : List S) (s4 s5 s7 s9 : S) : m_law_9 cs (LS ns k t g (s4 :: s5 :: .ow (.fz (mo cs a)) :: s7 :: .ow (.fz (po x y h)) :: s9 :: r)) = .nx (LS ns k t g (s4 :: s5 :: .ow (.fz (mo cs a)) :: s7 :: .ow (.fz (po x y h)) :: .ow (.fz (a.ap x y h)) :: r)) := by
  obtain ⟨d1, q1⟩ := turn_ok cs a
  obtain ⟨d2, q2⟩ := shift_ok cs a
  obtain ⟨d3, q3⟩ := moved_ok cs a.t a.x a.y x y h h0 h3
  simp only [mo] at q1 q2
  simp [m_law_9, -List.map_map, -List.map_take, -List.map_drop, -List.map_append, -List.map_reverse, asDef, entry, slotsOf, sSeq, sSet, sRet, sIf, sDrop, sNil, sBreak, sCont, sApp, sSetAt, setEnd, sAug, sAsg, sPar, mVar, mSee, mFrz, mTake, mC, mUn, mOp, mNil, mCons, mCall, mCallL, mTup, mLst, mView, mOwn, mFz, mTest, mAnd, mOr, mNot, mIf, mAndV, mOrV, mNotV, mChain, mAt, qSee, qFz, qNew, oNone, oSome, rNil, rSlot, rFz, mCall0, mCall1, oneSlot, noSlot, treesOf, SD.tree, SD.put, SD.putFz, tgN, tgNil, tgCons, tgT, ER.bind, ER.opt, ER.stm, Fl.seq, OT.view, OT.views, OT.items, fzOf, iLst, iTuP, iRange1, iRange2, iZip2, iEnumL, dIx, atI, ixN, dAdd, dSub, dNeg, dLt, dLe, dGt, dGe, dIsN, dNotN, isNonD, dEq, dNe, eqB_int, eqB_str, eqB_bl, eq_2, eq_3, dLen, dIsi, D.isA, tyName, dMod, dMax, dMin, mFld, fldD, mMake, mOwn2, mOwn1, mCallIns, mProp, mMeth, mB2, callFz, callFzQ, sFldSet, putO, idxN, cSame, cInt, D.isIns, D.isInt, dIsO, D.tyv, okC, sPar3, mCutX, mCat, dAll, boolsOf, sFor, goFor, rangeD, List.range, List.range.loop, sNever, LS, mo, q1, q2, q3]
include ha sa sb h0 h3 hx hy in
theorem law_11 (r : List S) (s4 s5 : S) : m_law_11 cs (LS ns k t g (s4 :: s5 :: .ow (.fz (mo cs a)) :: .ow (.fz (mo cs b)) :: .ow (.fz (po x y h)) :: .ow (.fz (a.ap x y h)) :: r)) = .nx (LS ns k t g (s4 :: s5 :: .ow (.fz (mo cs a)) :: .ow (.fz (mo cs b)) :: .ow (.fz (po x y h)) :: .ow (.fz (a.ap x y h)) :: r)) := by
  obtain ⟨d1, q1⟩ := call_ok cs a x y h h0 h3
  obtain ⟨d2, q2⟩ := add_ok cs a b ha
  obtain ⟨d3, q3⟩ := led_ok cs (a.add b) x y h h0 h3
  obtain ⟨d4, q4⟩ := step_call cs a b ha x y h h0 h3
  obtain ⟨u1, w1⟩ := ap_shown a x y h ⟨p402 sa.1, p402 sa.2⟩ (p402 hx) (p402 hy)
  obtain ⟨u2, w2⟩ := ap_shown (a.add b) x y h (add_size a b sa sb) (p402 hx) (p402 hy)
  simp [m_law_11, -List.map_map, -List.map_take, -List.map_drop, -List.map_append, -List.map_reverse, asDef, entry, slotsOf, sSeq, sSet, sRet, sIf, sDrop, sNil, sBreak, sCont, sApp, sSetAt, setEnd, sAug, sAsg, sPar, mVar, mSee, mFrz, mTake, mC, mUn, mOp, mNil, mCons, mCall, mCallL, mTup, mLst, mView, mOwn, mFz, mTest, mAnd, mOr, mNot, mIf, mAndV, mOrV, mNotV, mChain, mAt, qSee, qFz, qNew, oNone, oSome, rNil, rSlot, rFz, mCall0, mCall1, oneSlot, noSlot, treesOf, SD.tree, SD.put, SD.putFz, tgN, tgNil, tgCons, tgT, ER.bind, ER.opt, ER.stm, Fl.seq, OT.view, OT.views, OT.items, fzOf, iLst, iTuP, iRange1, iRange2, iZip2, iEnumL, dIx, atI, ixN, dAdd, dSub, dNeg, dLt, dLe, dGt, dGe, dIsN, dNotN, isNonD, dEq, dNe, eqB_int, eqB_str, eqB_bl, eq_2, eq_3, dLen, dIsi, D.isA, tyName, dMod, dMax, dMin, mFld, fldD, mMake, mOwn2, mOwn1, mCallIns, mProp, mMeth, mB2, callFz, callFzQ, sFldSet, putO, idxN, cSame, cInt, D.isIns, D.isInt, dIsO, D.tyv, okC, sPar3, mCutX, mCat, dAll, boolsOf, sFor, goFor, rangeD, List.range, List.range.loop, sNever, -D.isIns, mo_ins, LS, q1, q2, q3, q4, w1, w2, mo_view]
include ha hb in
theorem law_12 (r : List S) (s4 s5 s8 s9 s10 : S) : m_law_12 cs (LS ns k t g (s4 :: s5 :: .ow (.fz (mo cs a)) :: .ow (.fz (mo cs b)) :: s8 :: s9 :: s10 :: r)) = .nx (LS ns k t g (s4 :: s5 :: .ow (.fz (mo cs a)) :: .ow (.fz (mo cs b)) :: s8 :: s9 :: .ow (.fz (.bl ((a.add b).same (b.add a)))) :: r)) := by
  obtain ⟨d2, q2⟩ := add_ok cs a b ha
  obtain ⟨d3, q3⟩ := led_ok cs (a.add b) 0 0 0 (by decide) (by decide)
  obtain ⟨d4, q4⟩ := add_ok cs b a hb
  obtain ⟨d5, q5⟩ := led_ok cs (b.add a) 0 0 0 (by decide) (by decide)
  rw [ap0_po _ (Mo.add_is _ _)] at q3 q5
  have e := po_same (a.add b) (b.add a)
  have p0 : po 0 0 0 = .tup [.int 0, .int 0, .int 0] := rfl
  rw [p0] at q3 q5
  simp [m_law_12, -List.map_map, -List.map_take, -List.map_drop, -List.map_append, -List.map_reverse, asDef, entry, slotsOf, sSeq, sSet, sRet, sIf, sDrop, sNil, sBreak, sCont, sApp, sSetAt, setEnd, sAug, sAsg, sPar, mVar, mSee, mFrz, mTake, mC, mUn, mOp, mNil, mCons, mCall, mCallL, mTup, mLst, mView, mOwn, mFz, mTest, mAnd, mOr, mNot, mIf, mAndV, mOrV, mNotV, mChain, mAt, qSee, qFz, qNew, oNone, oSome, rNil, rSlot, rFz, mCall0, mCall1, oneSlot, noSlot, treesOf, SD.tree, SD.put, SD.putFz, tgN, tgNil, tgCons, tgT, ER.bind, ER.opt, ER.stm, Fl.seq, OT.view, OT.views, OT.items, fzOf, iLst, iTuP, iRange1, iRange2, iZip2, iEnumL, dIx, atI, ixN, dAdd, dSub, dNeg, dLt, dLe, dGt, dGe, dIsN, dNotN, isNonD, dEq, dNe, eqB_int, eqB_str, eqB_bl, eq_2, eq_3, dLen, dIsi, D.isA, tyName, dMod, dMax, dMin, mFld, fldD, mMake, mOwn2, mOwn1, mCallIns, mProp, mMeth, mB2, callFz, callFzQ, sFldSet, putO, idxN, cSame, cInt, D.isIns, D.isInt, dIsO, D.tyv, okC, sPar3, mCutX, mCat, dAll, boolsOf, sFor, goFor, rangeD, List.range, List.range.loop, sNever, -D.isIns, mo_ins, LS, q2, q3, q4, q5, e, mo_view]
include ha hb in
theorem law_14 (r : List S) (s4 s5 s8 s9 : S) : m_law_14 cs (LS ns k t g (s4 :: s5 :: .ow (.fz (mo cs a)) :: .ow (.fz (mo cs b)) :: s8 :: s9 :: .ow (.fz (.bl ((a.add b).same (b.add a)))) :: r)) = .nx (LS ns k t g (s4 :: s5 :: .ow (.fz (mo cs a)) :: .ow (.fz (mo cs b)) :: s8 :: s9 :: .ow (.fz (.bl ((a.add b).same (b.add a)))) :: r)) := by
  obtain ⟨d2, q2⟩ := add_ok cs a b ha
  obtain ⟨d4, q4⟩ := add_ok cs b a hb
  obtain ⟨d5, q5⟩ := eq_ok cs (a.add b) (b.add a)
  simp [m_law_14, -List.map_map, -List.map_take, -List.map_drop, -List.map_append, -List.map_reverse, asDef, entry, slotsOf, sSeq, sSet, sRet, sIf, sDrop, sNil, sBreak, sCont, sApp, sSetAt, setEnd, sAug, sAsg, sPar, mVar, mSee, mFrz, mTake, mC, mUn, mOp, mNil, mCons, mCall, mCallL, mTup, mLst, mView, mOwn, mFz, mTest, mAnd, mOr, mNot, mIf, mAndV, mOrV, mNotV, mChain, mAt, qSee, qFz, qNew, oNone, oSome, rNil, rSlot, rFz, mCall0, mCall1, oneSlot, noSlot, treesOf, SD.tree, SD.put, SD.putFz, tgN, tgNil, tgCons, tgT, ER.bind, ER.opt, ER.stm, Fl.seq, OT.view, OT.views, OT.items, fzOf, iLst, iTuP, iRange1, iRange2, iZip2, iEnumL, dIx, atI, ixN, dAdd, dSub, dNeg, dLt, dLe, dGt, dGe, dIsN, dNotN, isNonD, dEq, dNe, eqB_int, eqB_str, eqB_bl, eq_2, eq_3, dLen, dIsi, D.isA, tyName, dMod, dMax, dMin, mFld, fldD, mMake, mOwn2, mOwn1, mCallIns, mProp, mMeth, mB2, callFz, callFzQ, sFldSet, putO, idxN, cSame, cInt, D.isIns, D.isInt, dIsO, D.tyv, okC, sPar3, mCutX, mCat, dAll, boolsOf, sFor, goFor, rangeD, List.range, List.range.loop, sNever, -D.isIns, -D.tyv, mo_ins, mo_tyv, LS, q2, q4, q5, mo_view]
include ha in
theorem law_18 (r : List S) : m_law_18 cs (LS ns k t g (.ow (.fz (po a.x a.y a.t)) :: .ow (.fz (po b.x b.y b.t)) :: .ow (.fz (mo cs a)) :: .ow (.fz (mo cs b)) :: r)) = .nx (LS ns k t g (.ow (.fz (po a.x a.y a.t)) :: .ow (.fz (po b.x b.y b.t)) :: .ow (.fz (mo cs a)) :: .ow (.fz (mo cs b)) :: r)) := by
  obtain ⟨d1, q1⟩ := eq_ok cs a b
  obtain ⟨d2, q2⟩ := eq_ok cs a a
  rw [same_self] at q2
  obtain ⟨r3, q3⟩ := init_ok cs a.t a.x a.y ha.1 ha.2
  have e := po_same a b
  simp [m_law_18, -List.map_map, -List.map_take, -List.map_drop, -List.map_append, -List.map_reverse, asDef, entry, slotsOf, sSeq, sSet, sRet, sIf, sDrop, sNil, sBreak, sCont, sApp, sSetAt, setEnd, sAug, sAsg, sPar, mVar, mSee, mFrz, mTake, mC, mUn, mOp, mNil, mCons, mCall, mCallL, mTup, mLst, mView, mOwn, mFz, mTest, mAnd, mOr, mNot, mIf, mAndV, mOrV, mNotV, mChain, mAt, qSee, qFz, qNew, oNone, oSome, rNil, rSlot, rFz, mCall0, mCall1, oneSlot, noSlot, treesOf, SD.tree, SD.put, SD.putFz, tgN, tgNil, tgCons, tgT, ER.bind, ER.opt, ER.stm, Fl.seq, OT.view, OT.views, OT.items, fzOf, iLst, iTuP, iRange1, iRange2, iZip2, iEnumL, dAdd, dSub, dNeg, dLt, dLe, dGt, dGe, dIsN, dNotN, isNonD, dEq, dNe, eqB_int, eqB_str, eqB_bl, eq_2, eq_3, dLen, dIsi, D.isA, tyName, dMod, dMax, dMin, mFld, fldD, mMake, mOwn2, mOwn1, mCallIns, mProp, mMeth, mB2, callFz, callFzQ, sFldSet, putO, idxN, cSame, cInt, D.isIns, D.isInt, dIsO, D.tyv, okC, sPar3, mCutX, mCat, dAll, boolsOf, sFor, goFor, rangeD, List.range, List.range.loop, sNever, -D.isIns, -D.tyv, mo_ins, mo_tyv, LS, q1, q2, q3, e, po_0, po_1, po_2, mo_view]
theorem law_19 (r : List S) (s5 s6 s7 s8 s9 s10 s11 s12 s13 : S) : m_law_19 cs (LS ns k t g (.ow (.fz (po a.x a.y a.t)) :: s5 :: s6 :: s7 :: s8 :: s9 :: s10 :: s11 :: s12 :: s13 :: r)) = .nx (LS ns k t g (.ow (.fz (po a.x a.y a.t)) :: s5 :: s6 :: s7 :: s8 :: s9 :: s10 :: .ow (.fz (.int a.x)) :: .ow (.fz (.int a.y)) :: .ow (.fz (.int a.t)) :: r)) := by
  simp [m_law_19, -List.map_map, -List.map_take, -List.map_drop, -List.map_append, -List.map_reverse, asDef, entry, slotsOf, sSeq, sSet, sRet, sIf, sDrop, sNil, sBreak, sCont, sApp, sSetAt, setEnd, sAug, sAsg, sPar, mVar, mSee, mFrz, mTake, mC, mUn, mOp, mNil, mCons, mCall, mCallL, mTup, mLst, mView, mOwn, mFz, mTest, mAnd, mOr, mNot, mIf, mAndV, mOrV, mNotV, mChain, mAt, qSee, qFz, qNew, oNone, oSome, rNil, rSlot, rFz, mCall0, mCall1, oneSlot, noSlot, treesOf, SD.tree, SD.put, SD.putFz, tgN, tgNil, tgCons, tgT, ER.bind, ER.opt, ER.stm, Fl.seq, OT.view, OT.views, OT.items, fzOf, iLst, iTuP, iRange1, iRange2, iZip2, iEnumL, dIx, atI, ixN, dAdd, dSub, dNeg, dLt, dLe, dGt, dGe, dIsN, dNotN, isNonD, dEq, dNe, eqB_int, eqB_str, eqB_bl, eq_2, eq_3, dLen, dIsi, D.isA, tyName, dMod, dMax, dMin, mFld, fldD, mMake, mOwn2, mOwn1, mCallIns, mProp, mMeth, mB2, callFz, callFzQ, sFldSet, putO, idxN, cSame, cInt, D.isIns, D.isInt, dIsO, D.tyv, okC, sPar3, mCutX, mCat, dAll, boolsOf, sFor, goFor, rangeD, List.range, List.range.loop, sNever, LS, po]
include ha in
theorem law_25 (r : List S) (s4 s5 : S) : m_law_25 cs (LS ns k t g (s4 :: s5 :: .ow (.fz (mo cs a)) :: r)) = .nx (LS ns k t g (s4 :: s5 :: .ow (.fz (mo cs a)) :: r)) := by
  obtain ⟨d1, q1⟩ := neg_ok cs a
  obtain ⟨d2, q2⟩ := add_ok cs a a.neg ha
  obtain ⟨d3, q3⟩ := add_ok cs a.neg a a.neg_is
  rw [add_neg a ha] at q2
  rw [neg_add a ha] at q3
  obtain ⟨r0, z0⟩ := init_ok cs 0 0 0 (by omega) (by omega)
  have z0 : m_Motion___init__ cs [.oi (cs 0) [] [], .fz (.int 0), .fz (.int 0), .fz (.int 0)] = .ok (.fz .non) ⟨[], moO cs zM :: r0⟩ := z0
  obtain ⟨d9, q9⟩ := eq_ok cs zM zM
  rw [same_self] at q9
  simp [m_law_25, -List.map_map, -List.map_take, -List.map_drop, -List.map_append, -List.map_reverse, asDef, entry, slotsOf, sSeq, sSet, sRet, sIf, sDrop, sNil, sBreak, sCont, sApp, sSetAt, setEnd, sAug, sAsg, sPar, mVar, mSee, mFrz, mTake, mC, mUn, mOp, mNil, mCons, mCall, mCallL, mTup, mLst, mView, mOwn, mFz, mTest, mAnd, mOr, mNot, mIf, mAndV, mOrV, mNotV, mChain, mAt, qSee, qFz, qNew, oNone, oSome, rNil, rSlot, rFz, mCall0, mCall1, oneSlot, noSlot, treesOf, SD.tree, SD.put, SD.putFz, tgN, tgNil, tgCons, tgT, ER.bind, ER.opt, ER.stm, Fl.seq, OT.view, OT.views, OT.items, fzOf, iLst, iTuP, iRange1, iRange2, iZip2, iEnumL, dIx, atI, ixN, dAdd, dSub, dNeg, dLt, dLe, dGt, dGe, dIsN, dNotN, isNonD, dEq, dNe, eqB_int, eqB_str, eqB_bl, eq_2, eq_3, dLen, dIsi, D.isA, tyName, dMod, dMax, dMin, mFld, fldD, mMake, mOwn2, mOwn1, mCallIns, mProp, mMeth, mB2, callFz, callFzQ, sFldSet, putO, idxN, cSame, cInt, D.isIns, D.isInt, dIsO, D.tyv, okC, sPar3, mCutX, mCat, dAll, boolsOf, sFor, goFor, rangeD, List.range, List.range.loop, sNever, -D.isIns, -D.tyv, mo_ins, mo_tyv, LS, q1, q2, q3, z0, q9, mo_view]
include ha in
theorem law_22 (s5 s7 s8 s9 s10 s11 s12 s13 s14 s18 : S) (p q c : Int) (c0 : 0 ≤ c) (c3 : c ≤ 3) : m_law_b1 cs (LS ns k t g [.ow (.fz (po a.x a.y a.t)), s5, .ow (.fz (mo cs a)), s7, s8, s9, s10, s11, s12, s13, s14, .ow (.fz (.int p)), .ow (.fz (.int q)), .ow (.fz (.int c)), s18]) = .nx (LS ns k t g [.ow (.fz (po a.x a.y a.t)), s5, .ow (.fz (mo cs a)), s7, s8, s9, s10, s11, s12, s13, s14, .ow (.fz (.int p)), .ow (.fz (.int q)), .ow (.fz (.int c)), s18]) := by
  obtain ⟨r3, q3⟩ := init_ok cs c p q c0 c3
  obtain ⟨d1, q1⟩ := eq_ok cs a ⟨c, p, q⟩
  have e : dEqB (.tup [.int p, .int q, .int c]) (po a.x a.y a.t) = some (a.same ⟨c, p, q⟩) := by
    rw [same_comm]
    exact po_same ⟨c, p, q⟩ a
  simp [m_law_b1, m_law_22, m_law_21, -List.map_map, -List.map_take, -List.map_drop, -List.map_append, -List.map_reverse, asDef, entry, slotsOf, sSeq, sSet, sRet, sIf, sDrop, sNil, sBreak, sCont, sApp, sSetAt, setEnd, sAug, sAsg, sPar, mVar, mSee, mFrz, mTake, mC, mUn, mOp, mNil, mCons, mCall, mCallL, mTup, mLst, mView, mOwn, mFz, mTest, mAnd, mOr, mNot, mIf, mAndV, mOrV, mNotV, mChain, mAt, qSee, qFz, qNew, oNone, oSome, rNil, rSlot, rFz, mCall0, mCall1, oneSlot, noSlot, treesOf, SD.tree, SD.put, SD.putFz, tgN, tgNil, tgCons, tgT, ER.bind, ER.opt, ER.stm, Fl.seq, OT.view, OT.views, OT.items, fzOf, iLst, iTuP, iRange1, iRange2, iZip2, iEnumL, dIx, atI, ixN, dAdd, dSub, dNeg, dLt, dLe, dGt, dGe, dIsN, dNotN, isNonD, dEq, dNe, eqB_int, eqB_str, eqB_bl, eq_2, eq_3, dLen, dIsi, D.isA, tyName, dMod, dMax, dMin, mFld, fldD, mMake, mOwn2, mOwn1, mCallIns, mProp, mMeth, mB2, callFz, callFzQ, sFldSet, putO, idxN, cSame, cInt, D.isIns, D.isInt, dIsO, D.tyv, okC, sPar3, mCutX, mCat, dAll, boolsOf, sFor, goFor, rangeD, List.range, List.range.loop, sNever, -D.isIns, -D.tyv, -eq_3, mo_ins, mo_tyv, LS, q1, q3, e, mo_view]
end
def e7 (v : Int × Int × Int) : D := .tup [.int v.1, .int v.2.1, .int v.2.2]
def near4 (a : Mo) : List (Int × Int × Int) := [(a.x + 1, a.y, a.t), (a.x, a.y - 1, a.t), (a.x, a.y, (a.t + 1) % 4), (a.x, a.y, (a.t + 2) % 4)]
def near7 (a : Mo) : List (Int × Int × Int) := near4 a ++ [(a.y, a.x, a.t), (0 - a.x, a.y, a.t), (a.x, 0 - a.y, a.t)]
section
variable (cs : Nat → Addr) (ns : List Int) (k g : S) (a b : Mo) (ha : a.ok) (hb : b.ok) (sa : a.sm) (sb : b.sm) (x y h : Int) (h0 : 0 ≤ h) (h3 : h ≤ 3) (hx : x.natAbs < 2 ^ 400) (hy : y.natAbs < 2 ^ 400)
theorem law_20 (t : S) (s4 s5 s6 s7 s8 s9 s10 s14 : S) (r : List S) : m_law_20 cs (LS ns k t g (s4 :: s5 :: s6 :: s7 :: s8 :: s9 :: s10 :: .ow (.fz (.int a.x)) :: .ow (.fz (.int a.y)) :: .ow (.fz (.int a.t)) :: s14 :: r)) = .nx (LS ns k t g (s4 :: s5 :: s6 :: s7 :: s8 :: s9 :: s10 :: .ow (.fz (.int a.x)) :: .ow (.fz (.int a.y)) :: .ow (.fz (.int a.t)) :: .ow (.fz (.lst ((near4 a).map e7))) :: r)) := by
  simp [m_law_20, -List.map_map, -List.map_take, -List.map_drop, -List.map_append, -List.map_reverse, asDef, entry, slotsOf, sSeq, sSet, sRet, sIf, sDrop, sNil, sBreak, sCont, sApp, sSetAt, setEnd, sAug, sAsg, sPar, mVar, mSee, mFrz, mTake, mC, mUn, mOp, mNil, mCons, mCall, mCallL, mTup, mLst, mView, mOwn, mFz, mTest, mAnd, mOr, mNot, mIf, mAndV, mOrV, mNotV, mChain, mAt, qSee, qFz, qNew, oNone, oSome, rNil, rSlot, rFz, mCall0, mCall1, oneSlot, noSlot, treesOf, SD.tree, SD.put, SD.putFz, tgN, tgNil, tgCons, tgT, ER.bind, ER.opt, ER.stm, Fl.seq, OT.view, OT.views, OT.items, fzOf, iLst, iTuP, iRange1, iRange2, iZip2, iEnumL, dIx, atI, ixN, dAdd, dSub, dNeg, dLt, dLe, dGt, dGe, dIsN, dNotN, isNonD, dEq, dNe, eqB_int, eqB_str, eqB_bl, eq_2, eq_3, dLen, dIsi, D.isA, tyName, dMod, dMax, dMin, mFld, fldD, mMake, mOwn2, mOwn1, mCallIns, mProp, mMeth, mB2, callFz, callFzQ, sFldSet, putO, idxN, cSame, cInt, D.isIns, D.isInt, dIsO, D.tyv, okC, sPar3, mCutX, mCat, dAll, boolsOf, sFor, goFor, rangeD, List.range, List.range.loop, sNever, LS, four, near4, e7]
include ha in
theorem law_23 (t : S) (s5 s7 s8 s9 s10 s15 s16 s17 s18 : S) : ∃ s15 s16 s17, m_law_23 cs (LS ns k t g [.ow (.fz (po a.x a.y a.t)), s5, .ow (.fz (mo cs a)), s7, s8, s9, s10, .ow (.fz (.int a.x)), .ow (.fz (.int a.y)), .ow (.fz (.int a.t)), .ow (.fz (.lst ((near4 a).map e7))), s15, s16, s17, s18])
    = .nx (LS ns k t g [.ow (.fz (po a.x a.y a.t)), s5, .ow (.fz (mo cs a)), s7, s8, s9, s10, .ow (.fz (.int a.x)), .ow (.fz (.int a.y)), .ow (.fz (.int a.t)), .ow (.fz (.lst ((near4 a).map e7))), s15, s16, s17, s18]) := by
  have r7 : ∀ v ∈ near7 a, 0 ≤ v.2.2 ∧ v.2.2 ≤ 3 := by
    have := ha.1
    have := ha.2
    intro v hv
    simp [near7, near4] at hv
    rcases hv with e | e | e | e | e | e | e <;> subst e <;> dsimp only <;> omega
  obtain ⟨sd1, l1, _, z15, z16, z17, rfl⟩ := sFor_inv (it := iLst (mView (mCat (qFz (mVar 14)) (qNew (mLst (mCons (mTup (mCons (mVar 12) (mCons (mVar 11) (mCons (mVar 13) (mNil))))) (mCons (mTup (mCons (mOp dSub (mC (.int 0)) (mVar 11)) (mCons (mVar 12) (mCons (mVar 13) (mNil))))) (mCons (mTup (mCons (mVar 11) (mCons (mOp dSub (mC (.int 0)) (mVar 12)) (mCons (mVar 13) (mNil))))) (mNil))))))))) (g := tgT 3 (tgCons (tgN 15) (tgCons (tgN 16) (tgCons (tgN 17) (tgNil))))) (body := m_law_b1 cs)
    (sd := LS ns k t g [.ow (.fz (po a.x a.y a.t)), s5, .ow (.fz (mo cs a)), s7, s8, s9, s10, .ow (.fz (.int a.x)), .ow (.fz (.int a.y)), .ow (.fz (.int a.t)), .ow (.fz (.lst ((near4 a).map e7))), s15, s16, s17, s18]) (sd1 := LS ns k t g [.ow (.fz (po a.x a.y a.t)), s5, .ow (.fz (mo cs a)), s7, s8, s9, s10, .ow (.fz (.int a.x)), .ow (.fz (.int a.y)), .ow (.fz (.int a.t)), .ow (.fz (.lst ((near4 a).map e7))), s15, s16, s17, s18])
    (near7 a) e7
    (fun r sd => (∀ v ∈ r, 0 ≤ v.2.2 ∧ v.2.2 ≤ 3) ∧ ∃ s15 s16 s17, sd = LS ns k t g [.ow (.fz (po a.x a.y a.t)), s5, .ow (.fz (mo cs a)), s7, s8, s9, s10, .ow (.fz (.int a.x)), .ow (.fz (.int a.y)), .ow (.fz (.int a.t)), .ow (.fz (.lst ((near4 a).map e7))), s15, s16, s17, s18])
    (by simp [-List.map_map, -List.map_take, -List.map_drop, -List.map_append, -List.map_reverse, asDef, entry, slotsOf, sSeq, sSet, sRet, sIf, sDrop, sNil, sBreak, sCont, sApp, sSetAt, setEnd, sAug, sAsg, sPar, mVar, mSee, mFrz, mTake, mC, mUn, mOp, mNil, mCons, mCall, mCallL, mTup, mLst, mView, mOwn, mFz, mTest, mAnd, mOr, mNot, mIf, mAndV, mOrV, mNotV, mChain, mAt, qSee, qFz, qNew, oNone, oSome, rNil, rSlot, rFz, mCall0, mCall1, oneSlot, noSlot, treesOf, SD.tree, SD.put, SD.putFz, tgN, tgNil, tgCons, tgT, ER.bind, ER.opt, ER.stm, Fl.seq, OT.view, OT.views, OT.items, fzOf, iLst, iTuP, iRange1, iRange2, iZip2, iEnumL, dIx, atI, ixN, dAdd, dSub, dNeg, dLt, dLe, dGt, dGe, dIsN, dNotN, isNonD, dEq, dNe, eqB_int, eqB_str, eqB_bl, eq_2, eq_3, dLen, dIsi, D.isA, tyName, dMod, dMax, dMin, mFld, fldD, mMake, mOwn2, mOwn1, mCallIns, mProp, mMeth, mB2, callFz, callFzQ, sFldSet, putO, idxN, cSame, cInt, D.isIns, D.isInt, dIsO, D.tyv, okC, sPar3, mCutX, mCat, dAll, boolsOf, sFor, goFor, rangeD, List.range, List.range.loop, sNever, LS, near4, near7, e7]) ⟨r7, _, _, _, rfl⟩ fun v r sd ⟨hr, z15, z16, z17, e⟩ => by
      subst e
      obtain ⟨c0, c3⟩ := hr v List.mem_cons_self
      refine ⟨_, _, rfl, .inl (law_22 cs ns k g t a ha s5 s7 s8 s9 s10 _ _ _ _ s18 v.1 v.2.1 v.2.2 c0 c3), fun v' hv' => hr v' (List.mem_cons_of_mem _ hv'), _, _, _, rfl⟩
  exact ⟨z15, z16, z17, l1⟩
theorem law_27 (t : S) (s5 s7 s8 s9 s10 s11 s12 s13 s14 s15 s16 s17 : S) : m_law_27 cs (LS ns k t g [.ow (.fz (po a.x a.y a.t)), s5, .ow (.fz (mo cs a)), s7, s8, s9, s10, s11, s12, s13, s14, s15, s16, s17, .un])
    = .nx (LS ns k t g [.ow (.fz (po a.x a.y a.t)), s5, .ow (.fz (mo cs a)), s7, s8, s9, s10, s11, s12, s13, s14, s15, s16, s17, .un]) := by
  have hi : iLst (mView (mLst (mCons (mC .non) (mCons (mVar 4) (mCons (mView (mProp (cs 0) (m_Motion_shift cs) (mVar 6))) (mCons (mC (.int 0)) (mCons (mC (.str "")) (mCons (mView (mProp (cs 0) (m_Motion_turn cs) (mVar 6))) (mCons (mView (mLst (mCons (mVar 6) (mNil)))) (mNil)))))))))) (LS ns k t g [.ow (.fz (po a.x a.y a.t)), s5, .ow (.fz (mo cs a)), s7, s8, s9, s10, s11, s12, s13, s14, s15, s16, s17, .un])
      = .ok (([.non, po a.x a.y a.t, .tup [.int a.x, .int a.y], .int 0, .str "", .int a.t, .lst [mo cs a]] : List D).map fun d => d) (LS ns k t g [.ow (.fz (po a.x a.y a.t)), s5, .ow (.fz (mo cs a)), s7, s8, s9, s10, s11, s12, s13, s14, s15, s16, s17, .un]) := by
    obtain ⟨d1, q1⟩ := turn_ok cs a
    obtain ⟨d2, q2⟩ := shift_ok cs a
    simp only [mo] at q1 q2
    simp [-List.map_map, -List.map_take, -List.map_drop, -List.map_append, -List.map_reverse, asDef, entry, slotsOf, sSeq, sSet, sRet, sIf, sDrop, sNil, sBreak, sCont, sApp, sSetAt, setEnd, sAug, sAsg, sPar, mVar, mSee, mFrz, mTake, mC, mUn, mOp, mNil, mCons, mCall, mCallL, mTup, mLst, mView, mOwn, mFz, mTest, mAnd, mOr, mNot, mIf, mAndV, mOrV, mNotV, mChain, mAt, qSee, qFz, qNew, oNone, oSome, rNil, rSlot, rFz, mCall0, mCall1, oneSlot, noSlot, treesOf, SD.tree, SD.put, SD.putFz, tgN, tgNil, tgCons, tgT, ER.bind, ER.opt, ER.stm, Fl.seq, OT.view, OT.views, OT.items, fzOf, iLst, iTuP, iRange1, iRange2, iZip2, iEnumL, dIx, atI, ixN, dAdd, dSub, dNeg, dLt, dLe, dGt, dGe, dIsN, dNotN, isNonD, dEq, dNe, eqB_int, eqB_str, eqB_bl, eq_2, eq_3, dLen, dIsi, D.isA, tyName, dMod, dMax, dMin, mFld, fldD, mMake, mOwn2, mOwn1, mCallIns, mProp, mMeth, mB2, callFz, callFzQ, sFldSet, putO, idxN, cSame, cInt, D.isIns, D.isInt, dIsO, D.tyv, okC, sPar3, mCutX, mCat, dAll, boolsOf, sFor, goFor, rangeD, List.range, List.range.loop, sNever, LS, mo, q1, q2]
  have c := mComp_of (g := tgN 18) (c := mTest (mB2 (okC cs) (cs 0) (m_Motion___eq__ cs) false (mVar 6) (mVar 18))) (elt := mVar 18) (vs := [18]) ([.non, po a.x a.y a.t, .tup [.int a.x, .int a.y], .int 0, .str "", .int a.t, .lst [mo cs a]] : List D) (fun d => d) (fun _ => false) (fun d => d) hi (by show 7 ≤ _; omega) fun d hd => by
    have hn : d.isIns (cs 0) = false ∧ (d.tyv (okC cs)).isSome = true := by
      simp at hd
      rcases hd with e | e | e | e | e | e | e <;> subst e <;> exact ⟨rfl, rfl⟩
    obtain ⟨u, w⟩ := eq_other cs a d hn.1 hn.2
    refine ⟨LS ns k t g [.ow (.fz (po a.x a.y a.t)), s5, .ow (.fz (mo cs a)), s7, s8, s9, s10, s11, s12, s13, s14, s15, s16, s17, .ow (.fz d)], rfl, rfl, ?_, fun h => by cases h⟩
    simp [mTest, mB2, mVar, LS, ER.bind, ER.opt, mo_ins, hn.2, w]
  have c : m_law_c1 cs (LS ns k t g [.ow (.fz (po a.x a.y a.t)), s5, .ow (.fz (mo cs a)), s7, s8, s9, s10, s11, s12, s13, s14, s15, s16, s17, .un]) = .ok (.ol []) (LS ns k t g [.ow (.fz (po a.x a.y a.t)), s5, .ow (.fz (mo cs a)), s7, s8, s9, s10, s11, s12, s13, s14, s15, s16, s17, .un]) := c
  have e : dEqB (.lst []) (.lst []) = some true := rfl
  unfold LS at c ⊢
  simp [m_law_27, m_law_26, -List.map_map, -List.map_take, -List.map_drop, -List.map_append, -List.map_reverse, asDef, entry, slotsOf, sSeq, sSet, sRet, sIf, sDrop, sNil, sBreak, sCont, sApp, sSetAt, setEnd, sAug, sAsg, sPar, mVar, mSee, mFrz, mTake, mC, mUn, mOp, mNil, mCons, mCall, mCallL, mTup, mLst, mView, mOwn, mFz, mTest, mAnd, mOr, mNot, mIf, mAndV, mOrV, mNotV, mChain, mAt, qSee, qFz, qNew, oNone, oSome, rNil, rSlot, rFz, mCall0, mCall1, oneSlot, noSlot, treesOf, SD.tree, SD.put, SD.putFz, tgN, tgNil, tgCons, tgT, ER.bind, ER.opt, ER.stm, Fl.seq, OT.view, OT.views, OT.items, fzOf, iLst, iTuP, iRange1, iRange2, iZip2, iEnumL, dIx, atI, ixN, dAdd, dSub, dNeg, dLt, dLe, dGt, dGe, dIsN, dNotN, isNonD, dEq, dNe, eqB_int, eqB_str, eqB_bl, eq_2, eq_3, dLen, dIsi, D.isA, tyName, dMod, dMax, dMin, mFld, fldD, mMake, mOwn2, mOwn1, mCallIns, mProp, mMeth, mB2, callFz, callFzQ, sFldSet, putO, idxN, cSame, cInt, D.isIns, D.isInt, dIsO, D.tyv, okC, sPar3, mCutX, mCat, dAll, boolsOf, sFor, goFor, rangeD, List.range, List.range.loop, sNever, c, e]
theorem law_2 {n : Nat} {t : OT} (ht : Tk n t) (hn : n < 2 ^ 61) (s4 s5 : S) (r : List S) : ∃ (a b : Mo) (t' : OT), a.ok ∧ b.ok ∧ a.sm ∧ b.sm ∧ Tk (n + 14) t' ∧ m_law_2 cs (LS ns k (.ow t) g (s4 :: s5 :: r)) = .nx (LS ns k (.ow t') g (.ow (.fz (po a.x a.y a.t)) :: .ow (.fz (po b.x b.y b.t)) :: r)) := by
  obtain ⟨x1, y1, h1, t1, a1, a2, a3, a4, k1, q1⟩ := start_ok cs ht (by omega)
  obtain ⟨x2, y2, h2, t2, b1, b2, b3, b4, k2, q2⟩ := start_ok cs k1 (by omega)
  refine ⟨⟨h1, x1, y1⟩, ⟨h2, x2, y2⟩, t2, ⟨a3, a4⟩, ⟨b3, b4⟩, ⟨a1, a2⟩, ⟨b1, b2⟩, k2, ?_⟩
  obtain ⟨p, q, s, rfl, _⟩ := id ht
  obtain ⟨p1, q1', s1, rfl, _⟩ := id k1
  simp [m_law_2, -List.map_map, -List.map_take, -List.map_drop, -List.map_append, -List.map_reverse, asDef, entry, slotsOf, sSeq, sSet, sRet, sIf, sDrop, sNil, sBreak, sCont, sApp, sSetAt, setEnd, sAug, sAsg, sPar, mVar, mSee, mFrz, mTake, mC, mUn, mOp, mNil, mCons, mCall, mCallL, mTup, mLst, mView, mOwn, mFz, mTest, mAnd, mOr, mNot, mIf, mAndV, mOrV, mNotV, mChain, mAt, qSee, qFz, qNew, oNone, oSome, rNil, rSlot, rFz, mCall0, mCall1, oneSlot, noSlot, treesOf, SD.tree, SD.put, SD.putFz, tgN, tgNil, tgCons, tgT, ER.bind, ER.opt, ER.stm, Fl.seq, OT.view, OT.views, OT.items, fzOf, iLst, iTuP, iRange1, iRange2, iZip2, iEnumL, dIx, atI, ixN, dAdd, dSub, dNeg, dLt, dLe, dGt, dGe, dIsN, dNotN, isNonD, dEq, dNe, eqB_int, eqB_str, eqB_bl, eq_2, eq_3, dLen, dIsi, D.isA, tyName, dMod, dMax, dMin, mFld, fldD, mMake, mOwn2, mOwn1, mCallIns, mProp, mMeth, mB2, callFz, callFzQ, sFldSet, putO, idxN, cSame, cInt, D.isIns, D.isInt, dIsO, D.tyv, okC, sPar3, mCutX, mCat, dAll, boolsOf, sFor, goFor, rangeD, List.range, List.range.loop, sNever, LS, q1, q2]
theorem law_4 (t : S) (g : Int) (ha : a.ok) (sa : a.sm) (r : List S) : ∃ a' : Mo, a'.ok ∧ a'.sm ∧ m_law_4 cs (LS ns k t (.ow (.fz (.int g))) (.ow (.fz (po a.x a.y a.t)) :: r)) = .nx (LS ns k t (.ow (.fz (.int g))) (.ow (.fz (po a'.x a'.y a'.t)) :: r)) := by
  by_cases hg : g = 2
  · refine ⟨⟨a.t, 0, 0⟩, ha, ⟨Nat.pow_pos (by decide), Nat.pow_pos (by decide)⟩, ?_⟩
    simp [m_law_4, m_law_3, -List.map_map, -List.map_take, -List.map_drop, -List.map_append, -List.map_reverse, asDef, entry, slotsOf, sSeq, sSet, sRet, sIf, sDrop, sNil, sBreak, sCont, sApp, sSetAt, setEnd, sAug, sAsg, sPar, mVar, mSee, mFrz, mTake, mC, mUn, mOp, mNil, mCons, mCall, mCallL, mTup, mLst, mView, mOwn, mFz, mTest, mAnd, mOr, mNot, mIf, mAndV, mOrV, mNotV, mChain, mAt, qSee, qFz, qNew, oNone, oSome, rNil, rSlot, rFz, mCall0, mCall1, oneSlot, noSlot, treesOf, SD.tree, SD.put, SD.putFz, tgN, tgNil, tgCons, tgT, ER.bind, ER.opt, ER.stm, Fl.seq, OT.view, OT.views, OT.items, fzOf, iLst, iTuP, iRange1, iRange2, iZip2, iEnumL, dIx, atI, ixN, dAdd, dSub, dNeg, dLt, dLe, dGt, dGe, dIsN, dNotN, isNonD, dEq, dNe, eqB_int, eqB_str, eqB_bl, eq_2, eq_3, dLen, dIsi, D.isA, tyName, dMod, dMax, dMin, mFld, fldD, mMake, mOwn2, mOwn1, mCallIns, mProp, mMeth, mB2, callFz, callFzQ, sFldSet, putO, idxN, cSame, cInt, D.isIns, D.isInt, dIsO, D.tyv, okC, sPar3, mCutX, mCat, dAll, boolsOf, sFor, goFor, rangeD, List.range, List.range.loop, sNever, LS, po, hg]
  · refine ⟨a, ha, sa, ?_⟩
    simp [m_law_4, m_law_3, -List.map_map, -List.map_take, -List.map_drop, -List.map_append, -List.map_reverse, asDef, entry, slotsOf, sSeq, sSet, sRet, sIf, sDrop, sNil, sBreak, sCont, sApp, sSetAt, setEnd, sAug, sAsg, sPar, mVar, mSee, mFrz, mTake, mC, mUn, mOp, mNil, mCons, mCall, mCallL, mTup, mLst, mView, mOwn, mFz, mTest, mAnd, mOr, mNot, mIf, mAndV, mOrV, mNotV, mChain, mAt, qSee, qFz, qNew, oNone, oSome, rNil, rSlot, rFz, mCall0, mCall1, oneSlot, noSlot, treesOf, SD.tree, SD.put, SD.putFz, tgN, tgNil, tgCons, tgT, ER.bind, ER.opt, ER.stm, Fl.seq, OT.view, OT.views, OT.items, fzOf, iLst, iTuP, iRange1, iRange2, iZip2, iEnumL, dIx, atI, ixN, dAdd, dSub, dNeg, dLt, dLe, dGt, dGe, dIsN, dNotN, isNonD, dEq, dNe, eqB_int, eqB_str, eqB_bl, eq_2, eq_3, dLen, dIsi, D.isA, tyName, dMod, dMax, dMin, mFld, fldD, mMake, mOwn2, mOwn1, mCallIns, mProp, mMeth, mB2, callFz, callFzQ, sFldSet, putO, idxN, cSame, cInt, D.isIns, D.isInt, dIsO, D.tyv, okC, sPar3, mCutX, mCat, dAll, boolsOf, sFor, goFor, rangeD, List.range, List.range.loop, sNever, LS, po, hg]
theorem law_6 {n : Nat} {t : OT} (ht : Tk n t) (hn : n < 2 ^ 61) (s4 s5 s6 s7 s8 : S) (r : List S) : ∃ (x y h : Int) (t' : OT), x.natAbs < 2 ^ 400 ∧ y.natAbs < 2 ^ 400 ∧ 0 ≤ h ∧ h ≤ 3 ∧ Tk (n + 7) t' ∧ m_law_6 cs (LS ns k (.ow t) g (s4 :: s5 :: s6 :: s7 :: s8 :: r)) = .nx (LS ns k (.ow t') g (s4 :: s5 :: s6 :: s7 :: .ow (.fz (po x y h)) :: r)) := by
  obtain ⟨x1, y1, h1, t1, a1, a2, a3, a4, k1, q1⟩ := start_ok cs ht (by omega)
  refine ⟨x1, y1, h1, t1, a1, a2, a3, a4, k1, ?_⟩
  obtain ⟨p, q, s, rfl, _⟩ := id ht
  simp [m_law_6, -List.map_map, -List.map_take, -List.map_drop, -List.map_append, -List.map_reverse, asDef, entry, slotsOf, sSeq, sSet, sRet, sIf, sDrop, sNil, sBreak, sCont, sApp, sSetAt, setEnd, sAug, sAsg, sPar, mVar, mSee, mFrz, mTake, mC, mUn, mOp, mNil, mCons, mCall, mCallL, mTup, mLst, mView, mOwn, mFz, mTest, mAnd, mOr, mNot, mIf, mAndV, mOrV, mNotV, mChain, mAt, qSee, qFz, qNew, oNone, oSome, rNil, rSlot, rFz, mCall0, mCall1, oneSlot, noSlot, treesOf, SD.tree, SD.put, SD.putFz, tgN, tgNil, tgCons, tgT, ER.bind, ER.opt, ER.stm, Fl.seq, OT.view, OT.views, OT.items, fzOf, iLst, iTuP, iRange1, iRange2, iZip2, iEnumL, dIx, atI, ixN, dAdd, dSub, dNeg, dLt, dLe, dGt, dGe, dIsN, dNotN, isNonD, dEq, dNe, eqB_int, eqB_str, eqB_bl, eq_2, eq_3, dLen, dIsi, D.isA, tyName, dMod, dMax, dMin, mFld, fldD, mMake, mOwn2, mOwn1, mCallIns, mProp, mMeth, mB2, callFz, callFzQ, sFldSet, putO, idxN, cSame, cInt, D.isIns, D.isInt, dIsO, D.tyv, okC, sPar3, mCutX, mCat, dAll, boolsOf, sFor, goFor, rangeD, List.range, List.range.loop, sNever, LS, q1]
include ha sa in
theorem law_16 {n : Nat} {t : OT} (ht : Tk n t) (hn : n < 2 ^ 61) (s4 s5 : S) (r : List S) : ∃ t' : OT, Tk (n + 10) t' ∧ m_law_16 cs (LS ns k (.ow t) g (s4 :: s5 :: .ow (.fz (mo cs a)) :: r)) = .nx (LS ns k (.ow t') g (s4 :: s5 :: .ow (.fz (mo cs a)) :: r)) := by
  obtain ⟨t1, k1, q1⟩ := power_ok cs a ht (by omega) ha sa.mid
  obtain ⟨d2, q2⟩ := order_right_ok cs a ha
  refine ⟨t1, k1, ?_⟩
  obtain ⟨p, q, s, rfl, _⟩ := id ht
  simp [m_law_16, m_law_15, -List.map_map, -List.map_take, -List.map_drop, -List.map_append, -List.map_reverse, asDef, entry, slotsOf, sSeq, sSet, sRet, sIf, sDrop, sNil, sBreak, sCont, sApp, sSetAt, setEnd, sAug, sAsg, sPar, mVar, mSee, mFrz, mTake, mC, mUn, mOp, mNil, mCons, mCall, mCallL, mTup, mLst, mView, mOwn, mFz, mTest, mAnd, mOr, mNot, mIf, mAndV, mOrV, mNotV, mChain, mAt, qSee, qFz, qNew, oNone, oSome, rNil, rSlot, rFz, mCall0, mCall1, oneSlot, noSlot, treesOf, SD.tree, SD.put, SD.putFz, tgN, tgNil, tgCons, tgT, ER.bind, ER.opt, ER.stm, Fl.seq, OT.view, OT.views, OT.items, fzOf, iLst, iTuP, iRange1, iRange2, iZip2, iEnumL, dIx, atI, ixN, dAdd, dSub, dNeg, dLt, dLe, dGt, dGe, dIsN, dNotN, isNonD, dEq, dNe, eqB_int, eqB_str, eqB_bl, eq_2, eq_3, dLen, dIsi, D.isA, tyName, dMod, dMax, dMin, mFld, fldD, mMake, mOwn2, mOwn1, mCallIns, mProp, mMeth, mB2, callFz, callFzQ, sFldSet, putO, idxN, cSame, cInt, D.isIns, D.isInt, dIsO, D.tyv, okC, sPar3, mCutX, mCat, dAll, boolsOf, sFor, goFor, rangeD, List.range, List.range.loop, sNever, LS, q1, q2]
end
theorem law_b2 (cs : Nat → Addr) (ns : List Int) (k : S) (g : Int) {n : Nat} {t : OT} (ht : Tk n t) (hn : n < 2 ^ 60) (f : List S) (hf : f.length = 14) : ∃ (t' : OT) (f' : List S), Tk (n + 31) t' ∧ f'.length = 14 ∧ m_law_b2 cs (LS ns k (.ow t) (.ow (.fz (.int g))) (f ++ [.un])) = .nx (LS ns k (.ow t') (.ow (.fz (.int g))) (f' ++ [.un])) := by
  match f, hf with
  | [s4, s5, s6, s7, s8, s9, s10, s11, s12, s13, s14, s15, s16, s17], _ =>
    obtain ⟨a0, b, t1, oa, ob, sa0, sb, k1, l2⟩ := law_2 cs ns k (.ow (.fz (.int g))) ht (by omega) s4 s5 [s6, s7, s8, s9, s10, s11, s12, s13, s14, s15, s16, s17, .un]
    obtain ⟨a, ha, sa, l4⟩ := law_4 cs ns k a0 (.ow t1) g oa sa0 [.ow (.fz (po b.x b.y b.t)), s6, s7, s8, s9, s10, s11, s12, s13, s14, s15, s16, s17, .un]
    have l5 := law_5 cs ns k (.ow (.fz (.int g))) (.ow t1) a b ha ob [s8, s9, s10, s11, s12, s13, s14, s15, s16, s17, .un] s6 s7
    obtain ⟨x, y, h, t2, hx, hy, h0, h3, k2, l6⟩ := law_6 cs ns k (.ow (.fz (.int g))) k1 (by omega) (.ow (.fz (po a.x a.y a.t))) (.ow (.fz (po b.x b.y b.t))) (.ow (.fz (mo cs a))) (.ow (.fz (mo cs b))) s8 [s9, s10, s11, s12, s13, s14, s15, s16, s17, .un]
    have l8 := law_8 cs ns k (.ow (.fz (.int g))) (.ow t2) a ha sa [.ow (.fz (mo cs b)), .ow (.fz (po x y h)), s9, s10, s11, s12, s13, s14, s15, s16, s17, .un] (.ow (.fz (po b.x b.y b.t)))
    have l9 := law_9 cs ns k (.ow (.fz (.int g))) (.ow t2) a x y h h0 h3 [s10, s11, s12, s13, s14, s15, s16, s17, .un] (.ow (.fz (po a.x a.y a.t))) (.ow (.fz (po b.x b.y b.t))) (.ow (.fz (mo cs b))) s9
    have l11 := law_11 cs ns k (.ow (.fz (.int g))) (.ow t2) a b ha sa sb x y h h0 h3 hx hy [s10, s11, s12, s13, s14, s15, s16, s17, .un] (.ow (.fz (po a.x a.y a.t))) (.ow (.fz (po b.x b.y b.t)))
    have l12 := law_12 cs ns k (.ow (.fz (.int g))) (.ow t2) a b ha ob [s11, s12, s13, s14, s15, s16, s17, .un] (.ow (.fz (po a.x a.y a.t))) (.ow (.fz (po b.x b.y b.t))) (.ow (.fz (po x y h))) (.ow (.fz (a.ap x y h))) s10
    have l14 := law_14 cs ns k (.ow (.fz (.int g))) (.ow t2) a b ha ob [s11, s12, s13, s14, s15, s16, s17, .un] (.ow (.fz (po a.x a.y a.t))) (.ow (.fz (po b.x b.y b.t))) (.ow (.fz (po x y h))) (.ow (.fz (a.ap x y h)))
    obtain ⟨t3, k3, l16⟩ := law_16 cs ns k (.ow (.fz (.int g))) a ha sa k2 (by omega) (.ow (.fz (po a.x a.y a.t))) (.ow (.fz (po b.x b.y b.t))) [.ow (.fz (mo cs b)), .ow (.fz (po x y h)), .ow (.fz (a.ap x y h)), .ow (.fz (.bl ((a.add b).same (b.add a)))), s11, s12, s13, s14, s15, s16, s17, .un]
    have l18 := law_18 cs ns k (.ow (.fz (.int g))) (.ow t3) a b ha [.ow (.fz (po x y h)), .ow (.fz (a.ap x y h)), .ow (.fz (.bl ((a.add b).same (b.add a)))), s11, s12, s13, s14, s15, s16, s17, .un]
    have l19 := law_19 cs ns k (.ow (.fz (.int g))) (.ow t3) a [s14, s15, s16, s17, .un] (.ow (.fz (po b.x b.y b.t))) (.ow (.fz (mo cs a))) (.ow (.fz (mo cs b))) (.ow (.fz (po x y h))) (.ow (.fz (a.ap x y h))) (.ow (.fz (.bl ((a.add b).same (b.add a))))) s11 s12 s13
    have l20 := law_20 cs ns k (.ow (.fz (.int g))) a (.ow t3) (.ow (.fz (po a.x a.y a.t))) (.ow (.fz (po b.x b.y b.t))) (.ow (.fz (mo cs a))) (.ow (.fz (mo cs b))) (.ow (.fz (po x y h))) (.ow (.fz (a.ap x y h))) (.ow (.fz (.bl ((a.add b).same (b.add a))))) s14 [s15, s16, s17, .un]
    obtain ⟨z15, z16, z17, l23⟩ := law_23 cs ns k (.ow (.fz (.int g))) a ha (.ow t3) (.ow (.fz (po b.x b.y b.t))) (.ow (.fz (mo cs b))) (.ow (.fz (po x y h))) (.ow (.fz (a.ap x y h))) (.ow (.fz (.bl ((a.add b).same (b.add a))))) s15 s16 s17 .un
    have l25 := law_25 cs ns k (.ow (.fz (.int g))) (.ow t3) a ha [.ow (.fz (mo cs b)), .ow (.fz (po x y h)), .ow (.fz (a.ap x y h)), .ow (.fz (.bl ((a.add b).same (b.add a)))), .ow (.fz (.int a.x)), .ow (.fz (.int a.y)), .ow (.fz (.int a.t)), .ow (.fz (.lst ((near4 a).map e7))), z15, z16, z17, .un] (.ow (.fz (po a.x a.y a.t))) (.ow (.fz (po b.x b.y b.t)))
    have l27 := law_27 cs ns k (.ow (.fz (.int g))) a (.ow t3) (.ow (.fz (po b.x b.y b.t))) (.ow (.fz (mo cs b))) (.ow (.fz (po x y h))) (.ow (.fz (a.ap x y h))) (.ow (.fz (.bl ((a.add b).same (b.add a))))) (.ow (.fz (.int a.x))) (.ow (.fz (.int a.y))) (.ow (.fz (.int a.t))) (.ow (.fz (.lst ((near4 a).map e7)))) z15 z16 z17
    refine ⟨t3, [.ow (.fz (po a.x a.y a.t)), .ow (.fz (po b.x b.y b.t)), .ow (.fz (mo cs a)), .ow (.fz (mo cs b)), .ow (.fz (po x y h)), .ow (.fz (a.ap x y h)), .ow (.fz (.bl ((a.add b).same (b.add a)))), .ow (.fz (.int a.x)), .ow (.fz (.int a.y)), .ow (.fz (.int a.t)), .ow (.fz (.lst ((near4 a).map e7))), z15, z16, z17], k3, rfl, ?_⟩
    exact seq_nx l2 (seq_nx l4 (seq_nx l5 (seq_nx l6 (seq_nx l8 (seq_nx l9 (seq_nx l11 (seq_nx l12 (seq_nx l14 (seq_nx l16 (seq_nx l18 (seq_nx l19 (seq_nx l20 (seq_nx l23 (seq_nx l25 l27))))))))))))))
theorem law_28 (cs : Nat → Addr) (ns : List Int) (k g : S) {t : OT} (ht : Tk 0 t) (f : List S) (hf : f.length = 14) : ∃ (t' : OT) (g' : S) (f' : List S), f'.length = 14 ∧ m_law_28 cs (LS ns k (.ow t) g (f ++ [.un])) = .nx (LS ns k (.ow t') g' (f' ++ [.un])) := by
  obtain ⟨sd1, l1, t', g', f', _, hf', rfl⟩ := sFor_upto (it := iRange1 (mCons (mC (.int 3)) (mNil))) (g := tgN 3) (body := m_law_b2 cs) (sd := LS ns k (.ow t) g (f ++ [.un])) 3 (fun i => .int (0 + i))
    (fun j sd => ∃ t g f, Tk (31 * j) t ∧ f.length = 14 ∧ sd = LS ns k (.ow t) g (f ++ [.un])) rfl ⟨t, g, f, ht, hf, rfl⟩ fun j sd hj ⟨t, g, f, ht, hf, e⟩ => by
      subst e
      obtain ⟨t', f', k1, hf', l⟩ := law_b2 cs ns k (0 + (j : Int)) ht (by omega) f hf
      exact ⟨_, _, rfl, .inl l, t', _, f', k1, hf', rfl⟩
  exact ⟨t', g', f', hf', l1⟩
theorem law_b3 (cs : Nat → Addr) (ns : List Int) (k : Nat) (hk : k < 8) (t g : S) (f : List S) (hf : f.length = 14) : ∃ (t' g' : S) (f' : List S), f'.length = 14 ∧ m_law_b3 cs (LS ns (.ow (.fz (.int k))) t g (f ++ [.un])) = .nx (LS ns (.ow (.fz (.int k))) t' g' (f' ++ [.un])) := by
  obtain ⟨t0, k0, q0⟩ := tank_ok cs ns k (by omega)
  obtain ⟨t', g', f', h1, l28⟩ := law_28 cs ns (.ow (.fz (.int k))) g k0 f hf
  have l1 : m_law_1 cs (LS ns (.ow (.fz (.int k))) t g (f ++ [.un])) = .nx (LS ns (.ow (.fz (.int k))) (.ow t0) g (f ++ [.un])) := by
    simp [m_law_1, sSet, mCall0, mCons, mNil, mVar, LS, ER.bind, ER.stm, q0]
  have e : m_law_b3 cs = sSeq (m_law_1 cs) (m_law_28 cs) := rfl
  rw [e]
  exact ⟨.ow t', g', f', h1, seq_nx l1 l28⟩
theorem law_29 (cs : Nat → Addr) (ns : List Int) (k t g : S) (f : List S) (hf : f.length = 14) : ∃ (k' t' g' : S) (f' : List S), f'.length = 14 ∧ m_law_29 cs (LS ns k t g (f ++ [.un])) = .nx (LS ns k' t' g' (f' ++ [.un])) := by
  have hi : iRange1 (mCons (mCall dMax (mCons (mC (.int 1)) (mCons (mCall dMin (mCons (mC (.int 8)) (mCons (mCall dLen (mCons (mVar 0) (mNil))) (mNil)))) (mNil)))) (mNil)) (LS ns k t g (f ++ [.un])) = .ok ((List.range (max 1 (min 8 (ns.length : Int))).toNat).map fun i : Nat => D.int (0 + (i : Int))) (LS ns k t g (f ++ [.un])) := by
    have z1 : (-(2 ^ 62) : Int) ≤ max 1 (min 8 (ns.length : Int)) := by omega
    have z2 : max 1 (min 8 (ns.length : Int)) < (2 ^ 62 : Int) := by omega
    simp only [iRange1, mCons, mCall, mC, mNil, mVar, LS, ER.bind, ER.opt, dMax, dMin, dLen, List.getElem?_cons_zero]
    rw [if_pos ⟨z1, z2⟩]
    rfl
  obtain ⟨sd1, l1, k', t', g', f', hf', rfl⟩ := sFor_upto (g := tgN 1) (body := m_law_b3 cs) _ _ (fun j sd => ∃ k t g f, f.length = 14 ∧ sd = LS ns k t g (f ++ [.un])) hi ⟨k, t, g, f, hf, rfl⟩ fun j sd hj ⟨k, t, g, f, hf, e⟩ => by
      subst e
      obtain ⟨t', g', f', hf', l⟩ := law_b3 cs ns j (by omega) t g f hf
      refine ⟨LS ns (.ow (.fz (.int j))) t g (f ++ [.un]), _, ?_, .inl l, _, t', g', f', hf', rfl⟩
      simp [tgN, LS, SD.putFz, SD.put]
  exact ⟨k', t', g', f', hf', l1⟩
theorem law_30 (cs : Nat → Addr) (sd : SD) : m_law_30 cs sd = .rt (.fz (.bl true)) sd := by
  obtain ⟨r1, q1⟩ := init_ok cs 1 1 0 (by decide) (by decide)
  obtain ⟨r2, q2⟩ := init_ok cs 2 0 0 (by decide) (by decide)
  obtain ⟨d3, q3⟩ := led_ok cs ⟨1, 1, 0⟩ 0 0 3 (by decide) (by decide)
  obtain ⟨d4, q4⟩ := order_ok cs ⟨2, 0, 0⟩
  have q3 : m__law_led cs [.fz (mo cs ⟨1, 1, 0⟩), .fz (.tup [.int 0, .int 0, .int 3])] = .ok (.fz (.tup [.int 0, .int (-1), .int 0])) d3 := q3
  have q4 : m_Motion_order cs [.fz (mo cs ⟨2, 0, 0⟩)] = .ok (.fz (.int 2)) d4 := q4
  have no : ¬ (Str.ofString "order" = Str.ofString "kept_turn") := by decide
  have no2 : ¬ (Str.ofString "order" = Str.ofString "kept_shift") := by decide
  simp only [mo] at q3 q4
  simp [m_law_30, -List.map_map, -List.map_take, -List.map_drop, -List.map_append, -List.map_reverse, asDef, entry, slotsOf, sSeq, sSet, sRet, sIf, sDrop, sNil, sBreak, sCont, sApp, sSetAt, setEnd, sAug, sAsg, sPar, mVar, mSee, mFrz, mTake, mC, mUn, mOp, mNil, mCons, mCall, mCallL, mTup, mLst, mView, mOwn, mFz, mTest, mAnd, mOr, mNot, mIf, mAndV, mOrV, mNotV, mChain, mAt, qSee, qFz, qNew, oNone, oSome, rNil, rSlot, rFz, mCall0, mCall1, oneSlot, noSlot, treesOf, SD.tree, SD.put, SD.putFz, tgN, tgNil, tgCons, tgT, ER.bind, ER.opt, ER.stm, Fl.seq, OT.view, OT.views, OT.items, fzOf, iLst, iTuP, iRange1, iRange2, iZip2, iEnumL, dIx, atI, ixN, dAdd, dSub, dNeg, dLt, dLe, dGt, dGe, dIsN, dNotN, isNonD, dEq, dNe, eqB_int, eqB_str, eqB_bl, eq_2, eq_3, dLen, dIsi, D.isA, tyName, dMod, dMax, dMin, mFld, fldD, mMake, mOwn2, mOwn1, mCallIns, mProp, mMeth, mB2, callFz, callFzQ, sFldSet, putO, idxN, cSame, cInt, D.isIns, D.isInt, dIsO, D.tyv, okC, sPar3, mCutX, mCat, dAll, boolsOf, sFor, goFor, rangeD, List.range, List.range.loop, sNever, q1, q2, q3, q4, no, no2, mo_view, mo]
theorem law_true (cs : Nat → Addr) (hc : CsOk cs) (ns : List Int) (hl : ns.length ≤ 63) (hb : ∀ z ∈ ns, Builtin.Int.intBits z ≤ 1048576) : ∃ sd, m_law cs [.fz (.scr ns)] = .ok (.fz (.bl true)) sd := by
  obtain ⟨k', t', g', f', hf', l⟩ := law_29 cs ns .un .un .un [.un, .un, .un, .un, .un, .un, .un, .un, .un, .un, .un, .un, .un, .un] rfl
  have en : entry 19 [.fz (.scr ns)] = LS ns .un .un .un ([.un, .un, .un, .un, .un, .un, .un, .un, .un, .un, .un, .un, .un, .un] ++ [.un]) := rfl
  refine ⟨⟨[], [.fz (.scr ns)]⟩, ?_⟩
  simp only [m_law, asDef, en, sSeq, l, Fl.seq, law_30]
  rfl
theorem walk {l : PySem.W.OpenLaw} {q : Program} {loose : List Str} {XP : (Str → Option Value) → Heap → Prop} {YP : World → Heap → Prop} {d : DefRec} {K : Params → PySem.W.Frag} (hn : l.most = some 63) (hdf : d.params.defaults = [])
    (hY : ∀ (w : World) (h : Heap), YP w h → (K w.params).In h)
    (F : ∀ (w : World) (mg : Str → Option Value) (fa : Addr) (h : Heap), (K w.params).In h → h.Ns mainGlobals mg → mg d.name = some (.ref fa) →
      ∃ fd : FuncData, (∀ (s : Shared) (u : Value), BindsTo s fd ⟨[u], []⟩ [("script", u)]) ∧ ∀ base : Heap, (K w.params).In base → base.Ns mainGlobals mg → ∃ cs : Nat → Addr, CsOk cs ∧ FnG l.prog w (K w.params) mg base (L2.CX l.prog w) 11 fa fd ["script"] (spD (K w.params) 1 (m_law cs))) :
    PySem.W.WalkO q loose XP YP l.row.toRowW d [] (fun f vs => PySem.call f vs) :=
  walk_G (n := 63) (k := 11) (x := "script") (sp := fun w vs H Q E => (∀ cs, CsOk cs → spD (K w.params) 1 (m_law cs) vs H Q E)) hn (by decide) hdf ⟨⟨rfl, by decide, by decide⟩, rfl⟩ hY (fun w mg fa h a b c => by
    obtain ⟨fd, h1, h2⟩ := F w mg fa h a b c
    refine ⟨fd, h1, fun base hb hg => ?_⟩
    obtain ⟨cs, hc, h3⟩ := h2 base hb hg
    exact ⟨fun vs H Q E hs => h3.len vs H Q E (hs cs hc), fun A out s H args us vs Q E r e0 bd rel hs => h3.run A out s H args us vs Q E r e0 bd rel (hs cs hc)⟩) fun w H a ns hl hb hS cs hc => law_sp hS (law_true cs hc ns hl hb)
end Lw
open PySem PySem.W PyProof.Rows
set_option maxRecDepth 100000 in
set_option maxHeartbeats 0 in
theorem PySem.Challenge.cw_plotpens_k13_motions_put_together_holds : PySem.Challenge.rw_plotpens_k13_motions_put_together.Holds := by
  w_on; o_law; k_head; (case hw => w_witness2)
  k_fill
  refine Lw.walk (l := PySem.Challenge.rw_plotpens_k13_motions_put_together) rfl rfl (fun w h Y => PySem.W.kIn_of Y) ?F
  case F =>
    intro w mg fa h KX G hmg
    refine' Lw.all_mk KX G hmg ?g_Motion ?a1 ?l1 ?c1 ?k1 ?a2 ?l2 ?c2 ?k2 ?a3 ?l3 ?c3 ?k3 ?a4 ?l4 ?c4 ?k4 ?a5 ?l5 ?c5 ?k5 ?a6 ?l6 ?c6 ?k6 ?a7 ?l7 ?c7 ?k7 ?a8 ?l8 ?c8 ?k8 ?a9 ?l9 ?c9 ?k9 ?a10 ?l10 ?c10 ?k10 ?a11 ?i11 ?l11 ?c11 ?k11 ?a12 ?l12 ?c12 ?k12 ?a13 ?i13 ?l13 ?c13 ?k13 ?a14 ?i14 ?l14 ?c14 ?k14 ?pa15 ?pb15 ?pc15 ?pd15 ?l15 ?c15 ?k15 ?pa16 ?pb16 ?pc16 ?pd16 ?l16 ?c16 ?k16 ?a17 ?i17 ?l17 ?c17 ?k17 ?a18 ?i18 ?l18 ?c18 ?k18 ?a19 ?i19 ?l19 ?c19 ?k19 ?a20 ?i20 ?l20 ?c20 ?k20 ?a21 ?l21 ?c21 ?k21 ?a22 ?l22 ?c22 ?k22 ?a23 ?l23 ?c23 ?k23 ?z_all ?z_bool ?z_int ?z_isinstance ?z_len ?z_max ?z_min ?z_range ?z_repr ?z_tuple ?v_MOST_TIMES ?pg_Motion ?hd_Motion ?po_Motion ?sa_Motion ?ha_Motion ?hn_Motion ?ht_Motion ?hm_Motion ?mk_Motion ?kc_Motion ?n_Motion_kept_shift ?n_Motion_kept_turn ?sf_Motion___add__ ?sf_Motion___mul__ ?r_Motion___mul__ ?u_Motion___mul__ ?w_Motion___mul__ ?q_Motion___mul__ ?ic_Motion ?tc_Motion ?is_Motion_NoneType ?is_Motion_bool ?is_Motion_int ?is_Motion_str ?is_Motion_tuple ?is_Motion_list ?is_Motion_dict ?it_Motion_Motion ?ne_Motion ?ob_Motion ?nf_Motion_NoneType ?nf_Motion_bool ?nf_Motion_int ?nf_Motion_str ?nf_Motion_tuple ?nf_Motion_list ?nf_Motion_dict ?ng_Motion_Motion ?fi_Motion
    (case g_Motion => k_is); (case a1 => k_is); (case l1 => k_is); (case c1 => k_is); (case k1 => k_is); (case a2 => k_is); (case l2 => k_is); (case c2 => k_is)
    (case k2 => k_is); (case a3 => k_is); (case l3 => k_is); (case c3 => k_is); (case k3 => k_is); (case a4 => k_is); (case l4 => k_is); (case c4 => k_is)
    (case k4 => k_is); (case a5 => k_is); (case l5 => k_is); (case c5 => k_is); (case k5 => k_is); (case a6 => k_is); (case l6 => k_is); (case c6 => k_is)
    (case k6 => k_is); (case a7 => k_is); (case l7 => k_is); (case c7 => k_is); (case k7 => k_is); (case a8 => k_is); (case l8 => k_is); (case c8 => k_is)
    (case k8 => k_is); (case a9 => k_is); (case l9 => k_is); (case c9 => k_is); (case k9 => k_is); (case a10 => k_is); (case l10 => k_is); (case c10 => k_is)
    (case k10 => k_is); (case a11 => k_is); (case i11 => k_is); (case l11 => k_is); (case c11 => k_is); (case k11 => k_is); (case a12 => k_is); (case l12 => k_is)
    (case c12 => k_is); (case k12 => k_is); (case a13 => k_is); (case i13 => k_is); (case l13 => k_is); (case c13 => k_is); (case k13 => k_is); (case a14 => k_is)
    (case i14 => k_is); (case l14 => k_is); (case c14 => k_is); (case k14 => k_is); (case pa15 => k_is); (case pb15 => k_is); (case pc15 => k_is); (case pd15 => k_is)
    (case l15 => k_is); (case c15 => k_is); (case k15 => k_is); (case pa16 => k_is); (case pb16 => k_is); (case pc16 => k_is); (case pd16 => k_is); (case l16 => k_is)
    (case c16 => k_is); (case k16 => k_is); (case a17 => k_is); (case i17 => k_is); (case l17 => k_is); (case c17 => k_is); (case k17 => k_is); (case a18 => k_is)
    (case i18 => k_is); (case l18 => k_is); (case c18 => k_is); (case k18 => k_is); (case a19 => k_is); (case i19 => k_is); (case l19 => k_is); (case c19 => k_is)
    (case k19 => k_is); (case a20 => k_is); (case i20 => k_is); (case l20 => k_is); (case c20 => k_is); (case k20 => k_is); (case a21 => k_is); (case l21 => k_is)
    (case c21 => k_is); (case k21 => k_is); (case a22 => k_is); (case l22 => k_is); (case c22 => k_is); (case k22 => k_is); (case a23 => k_is); (case l23 => k_is)
    (case c23 => k_is); (case k23 => k_is); (case z_all => k_is); (case z_bool => k_is); (case z_int => k_is); (case z_isinstance => k_is); (case z_len => k_is); (case z_max => k_is)
    (case z_min => k_is); (case z_range => k_is); (case z_repr => k_is); (case z_tuple => k_is); (case v_MOST_TIMES => k_is); (case pg_Motion => k_is); (case hd_Motion => k_is); (case po_Motion => k_is)
    (case sa_Motion => k_is); (case ha_Motion => k_is); (case hn_Motion => k_is); (case ht_Motion => k_is); (case hm_Motion => k_is); (case mk_Motion => k_is); (case kc_Motion => k_is); (case n_Motion_kept_shift => k_is)
    (case n_Motion_kept_turn => k_is); (case sf_Motion___add__ => k_is); (case sf_Motion___mul__ => k_is); (case r_Motion___mul__ => k_is); (case u_Motion___mul__ => k_is); (case w_Motion___mul__ => k_is); (case q_Motion___mul__ => k_is); (case ic_Motion => k_is)
    (case tc_Motion => k_is); (case is_Motion_NoneType => k_is); (case is_Motion_bool => k_is); (case is_Motion_int => k_is); (case is_Motion_str => k_is); (case is_Motion_tuple => k_is); (case is_Motion_list => k_is); (case is_Motion_dict => k_is)
    (case it_Motion_Motion => k_is); (case ne_Motion => k_is); (case ob_Motion => k_is); (case nf_Motion_NoneType => k_is); (case nf_Motion_bool => k_is); (case nf_Motion_int => k_is); (case nf_Motion_str => k_is); (case nf_Motion_tuple => k_is)
    (case nf_Motion_list => k_is); (case nf_Motion_dict => k_is); (case ng_Motion_Motion => k_is); (case fi_Motion => k_is)
