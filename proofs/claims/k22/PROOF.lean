import PyProof.Rows.All
import Wide.All
import OpenK.AllK
import Wide.FinOn
import HandS.ForMost
import HandS.Exc
import HandS.TryOnly
import HandS.ExcOwn
import HandS.WordsExc
import HandS.CallSlots
import HandS.Wide
import HandS.IsInst
import HandS.SortRule
import HandS.SortInts
import HandS.EndBits
import HandS.TupAny
import HandS.Style
import HandS.Property
import HandS.SlotsOwn
import HandS.Star
import KE.KOpsOwn
import PyProof.InstNe
import PyProof.ReprRoads
import HandS.SetFor
import HandS.Strs
import HandS.Conv
import HandS.Text
import HandS.Rev
import HandS.WideBits
import HandS.RaiseMore
import HandS.TupLe
import PyProof.StrOps2
import HandS.MakeKwOnly
import HandS.ExcIs
import HandS.Deep
import HandS.GenList
import PyProof.ListStr
import HandS.ExcInit
import HandS.ExcField
import KE.KExcIs
import HandS.DictComp
import HandS.TupLen
import HandS.WordsDict
import PySem.Challenge.RW_plotpens_k22_interval_errors
set_option Elab.async false
set_option linter.all false
set_option maxRecDepth 100000
/-! DL0: values without a heap (D), owned trees (OT), what they stand for, the state of a frame. -/
namespace DL
open PySem PySem.Spec L2

/-- a dict's key by its value -/
inductive DKey where
  | k (k : Key)
  | t (ks : List Key)
  deriving DecidableEq

/-- a value that nobody changes any more -/
inductive D where
  | non
  | bl (b : Bool)
  | int (i : Int)
  | str (x : Str)
  | ty (n : String)
  | cls (C : Addr)
  | tup (xs : List D)
  | ktu (xs : List D)
  | lst (xs : List D)
  | scr (ns : List Int)
  | dic (tk : Bool) (ks : List DKey) (vs : List D)
  | ins (C : Addr) (ns : List Str) (vs : List D)
  | exc (C : Addr) (ns : List Str) (vs : List D)

/-- an exception object of the class cls with the dict d, at a -/
def ExT (cls : Value) (d : Option Addr) (a : Addr) : HO := .ext fun h => ∃ oe : Obj, h.get? a = some oe ∧ Zc cls d oe ∧ ∃ vs, oe.data = .fields vs

/-- a value that one name alone reaches (fz: a D) -/
inductive OT where
  | fz (d : D)
  | ol (ts : List OT)
  | od (tk : Bool) (ks : List DKey) (ts : List OT)
  | oi (C : Addr) (ns : List Str) (ts : List OT)

mutual
inductive Rep (K : PySem.W.Frag) (F : Hp) : V → D → Prop
  | non : Rep K F .non .non
  | bl (b : Bool) : Rep K F (.bl b) (.bl b)
  | int (i : Int) : Rep K F (.int i) (.int i)
  | str (x : Str) : Rep K F (.str x) (.str x)
  | ty (n : String) : Rep K F (.ty n) (.ty n)
  | cls (C : Addr) : Rep K F (.ref C) (.cls C)
  | tup {a : Addr} {vs : List V} {ds : List D} : F a = some (.tup vs) → Reps K F vs ds → Rep K F (.ref a) (.tup ds)
  | ktu {a : Addr} {vs : List V} {ds : List D} : SqT K F a vs → Reps K F vs ds → Rep K F (.ref a) (.ktu ds)
  | lst {a : Addr} {vs : List V} {ds : List D} : Rd F a (.lst vs) → Reps K F vs ds → Rep K F (.ref a) (.lst ds)
  | scr {a : Addr} {ns : List Int} : SqL K F a (ns.map V.int) → Rep K F (.ref a) (.scr ns)
  | dicK {a : Addr} {kvs : List (Key × V)} {ds : List D} : Rd F a (.dK kvs) → Reps K F (kvs.map (·.2)) ds → Rep K F (.ref a) (.dic false (kvs.map fun p => .k p.1) ds)
  | dicT {a : Addr} {kvs : List (List Key × V)} {ds : List D} : Rd F a (.dT kvs) → Reps K F (kvs.map (·.2)) ds → Rep K F (.ref a) (.dic true (kvs.map fun p => .t p.1) ds)
  | ins {a C dx : Addr} {fvs : List (Str × V)} {ds : List D} : F a = some (.ins C dx fvs) → Reps K F (fvs.map (·.2)) ds → Rep K F (.ref a) (.ins C (fvs.map (·.1)) ds)
  | exc {a C : Addr} {d : Option Addr} {fvs : List (Str × V)} {ds : List D} : F a = some (ExT (.ref C) d a) → (∀ dx, d = some dx → F dx = some (.xd fvs)) → (d = none ↔ fvs = []) → Reps K F (fvs.map (·.2)) ds → Rep K F (.ref a) (.exc C (fvs.map (·.1)) ds)
inductive Reps (K : PySem.W.Frag) (F : Hp) : List V → List D → Prop
  | nil : Reps K F [] []
  | cons {v : V} {vs : List V} {d : D} {ds : List D} : Rep K F v d → Reps K F vs ds → Reps K F (v :: vs) (d :: ds)
end

theorem Same.rd {H H' : Hp} {a : Addr} {u : HO} (e : Same H H') (h : Rd H a u) : Rd H' a u := by
  rcases h with h | ⟨o, h⟩
  · exact .inl (e _ _ h)
  · exact .inr ⟨o, e _ _ h⟩
theorem Same.sqt {K : PySem.W.Frag} {H H' : Hp} {a : Addr} {xs : List V} (e : Same H H') (h : SqT K H a xs) : SqT K H' a xs := by
  rcases h with h | h
  · exact .inl (Same.rd e h)
  · exact .inr h
theorem Same.upd {H : Hp} {p : Addr} {o : HO} (h : H p = none) : Same H (upd H p o) := fun a u e => by
  rw [upd_ne (ne_of_none e h)]; exact e

section
variable {K : PySem.W.Frag} {F F' H H' : Hp}
mutual
theorem Rep.mono (e : Same F F') : ∀ {v : V} {d : D}, Rep K F v d → Rep K F' v d
  | _, _, .non => .non
  | _, _, .bl b => .bl b
  | _, _, .int i => .int i
  | _, _, .str x => .str x
  | _, _, .ty n => .ty n
  | _, _, .cls C => .cls C
  | _, _, .tup h r => .tup (e _ _ h) (Reps.mono e r)
  | _, _, .ktu h r => .ktu (Same.sqt e h) (Reps.mono e r)
  | _, _, .lst h r => .lst (Same.rd e h) (Reps.mono e r)
  | _, _, .scr h => .scr (e.seq h)
  | _, _, .dicK h r => .dicK (Same.rd e h) (Reps.mono e r)
  | _, _, .dicT h r => .dicT (Same.rd e h) (Reps.mono e r)
  | _, _, .ins h r => .ins (e _ _ h) (Reps.mono e r)
  | _, _, .exc h k n r => .exc (e _ _ h) (fun dx z => e _ _ (k dx z)) n (Reps.mono e r)
theorem Reps.mono (e : Same F F') : ∀ {vs : List V} {ds : List D}, Reps K F vs ds → Reps K F' vs ds
  | _, _, .nil => .nil
  | _, _, .cons h r => .cons (Rep.mono e h) (Reps.mono e r)
end
theorem Reps.length : ∀ {vs : List V} {ds : List D}, Reps K F vs ds → vs.length = ds.length
  | _, _, .nil => rfl
  | _, _, .cons _ r => by rw [List.length_cons, List.length_cons, Reps.length r]
theorem Reps.get : ∀ {vs : List V} {ds : List D} {i : Nat} {d : D}, Reps K F vs ds → ds[i]? = some d → ∃ v, vs[i]? = some v ∧ Rep K F v d
  | _, _, _, _, .nil, e => by simp at e
  | _, _, 0, _, .cons h _, e => by simp at e; subst e; exact ⟨_, rfl, h⟩
  | _, _, i + 1, _, .cons _ r, e => by
    obtain ⟨v, h1, h2⟩ := Reps.get (i := i) r (by simpa using e)
    exact ⟨v, by simpa using h1, h2⟩
theorem Reps.get' : ∀ {vs : List V} {ds : List D} {i : Nat} {v : V}, Reps K F vs ds → vs[i]? = some v → ∃ d, ds[i]? = some d ∧ Rep K F v d
  | _, _, _, _, .nil, e => by simp at e
  | _, _, 0, _, .cons h _, e => by simp at e; subst e; exact ⟨_, rfl, h⟩
  | _, _, i + 1, _, .cons _ r, e => by
    obtain ⟨d, h1, h2⟩ := Reps.get' (i := i) r (by simpa using e)
    exact ⟨d, by simpa using h1, h2⟩
theorem Reps.append : ∀ {vs ws : List V} {ds es : List D}, Reps K F vs ds → Reps K F ws es → Reps K F (vs ++ ws) (ds ++ es)
  | _, _, _, _, .nil, s => s
  | _, _, _, _, .cons h r, s => .cons h (Reps.append r s)
theorem Reps.one {v : V} {d : D} (h : Rep K F v d) : Reps K F [v] [d] := .cons h .nil
theorem Reps.take : ∀ {vs : List V} {ds : List D} (n : Nat), Reps K F vs ds → Reps K F (vs.take n) (ds.take n)
  | _, _, 0, _ => .nil
  | _, _, _ + 1, .nil => .nil
  | _, _, n + 1, .cons h r => .cons h (Reps.take n r)
theorem Reps.drop : ∀ {vs : List V} {ds : List D} (n : Nat), Reps K F vs ds → Reps K F (vs.drop n) (ds.drop n)
  | _, _, 0, r => r
  | _, _, _ + 1, .nil => .nil
  | _, _, n + 1, .cons _ r => Reps.drop n r
theorem Reps.dropLast {vs : List V} {ds : List D} (r : Reps K F vs ds) : Reps K F vs.dropLast ds.dropLast := by
  rw [List.dropLast_eq_take, List.dropLast_eq_take, r.length]; exact r.take _
theorem Reps.reverse : ∀ {vs : List V} {ds : List D}, Reps K F vs ds → Reps K F vs.reverse ds.reverse
  | _, _, .nil => .nil
  | _, _, .cons h r => by rw [List.reverse_cons, List.reverse_cons]; exact (Reps.reverse r).append (.one h)
theorem Reps.set : ∀ {vs : List V} {ds : List D} {v : V} {d : D} (i : Nat), Rep K F v d → Reps K F vs ds → Reps K F (vs.set i v) (ds.set i d)
  | _, _, _, _, _, _, .nil => .nil
  | _, _, _, _, 0, h, .cons _ r => .cons h r
  | _, _, _, _, i + 1, h, .cons k r => .cons k (Reps.set i h r)
/-- ints -/
theorem Reps.ints : ∀ (ns : List Int), Reps K F (ns.map V.int) (ns.map D.int)
  | [] => .nil
  | n :: r => .cons (.int n) (Reps.ints r)
theorem Reps.of_ints : ∀ {ns : List Int} {vs : List V}, Reps K F vs (ns.map D.int) → vs = ns.map V.int
  | [], _, .nil => rfl
  | n :: r, _, .cons h k => by cases h; rw [List.map_cons, Reps.of_ints k]
end

/-! ### owned trees -/
mutual
def OT.view : OT → D
  | .fz d => d
  | .ol ts => .lst (OT.views ts)
  | .od tk ks ts => .dic tk ks (OT.views ts)
  | .oi C ns ts => .ins C ns (OT.views ts)
def OT.views : List OT → List D
  | [] => []
  | t :: ts => t.view :: OT.views ts
end
theorem views_eq : ∀ ts : List OT, OT.views ts = ts.map OT.view
  | [] => by rw [OT.views]; rfl
  | t :: ts => by rw [OT.views, views_eq ts]; rfl
theorem views_fz : ∀ ds : List D, OT.views (ds.map OT.fz) = ds
  | [] => by rw [List.map_nil, OT.views]
  | d :: ds => by rw [List.map_cons, OT.views, OT.view, views_fz ds]

mutual
def RepO (K : PySem.W.Frag) (F H : Hp) : OT → V → (Addr → Prop) → Prop
  | .fz d, v, _ => Rep K F v d
  | .ol ts, v, P => ∃ (a : Addr) (vs : List V), v = .ref a ∧ P a ∧ H a = some (.lst vs) ∧ RepOs K F H ts vs (fun x => P x ∧ x ≠ a)
  | .od tk ks ts, v, P => ∃ (a : Addr), v = .ref a ∧ P a ∧
      ((tk = false ∧ ∃ kvs : List (Key × V), H a = some (.dK kvs) ∧ ks = kvs.map (fun p => DKey.k p.1) ∧ RepOs K F H ts (kvs.map (·.2)) (fun x => P x ∧ x ≠ a)) ∨
       (tk = true ∧ ∃ kvs : List (List Key × V), H a = some (.dT kvs) ∧ ks = kvs.map (fun p => DKey.t p.1) ∧ RepOs K F H ts (kvs.map (·.2)) (fun x => P x ∧ x ≠ a)))
  | .oi C ns ts, v, P => ∃ (a dx : Addr) (fvs : List (Str × V)), v = .ref a ∧ P a ∧ H a = some (.ins C dx fvs) ∧ ns = fvs.map (·.1) ∧ RepOs K F H ts (fvs.map (·.2)) (fun x => P x ∧ x ≠ a)
def RepOs (K : PySem.W.Frag) (F H : Hp) : List OT → List V → (Addr → Prop) → Prop
  | [], vs, _ => vs = []
  | t :: ts, vs, P => ∃ (v : V) (ws : List V) (P1 P2 : Addr → Prop), vs = v :: ws ∧ (∀ x, P1 x → P x) ∧ (∀ x, P2 x → P x ∧ ¬ P1 x) ∧ RepO K F H t v P1 ∧ RepOs K F H ts ws P2
end

section
variable {K : PySem.W.Frag} {F F' H H' : Hp}
mutual
theorem RepO.mono (e : Same F F') : ∀ {t : OT} {v : V} {P P' : Addr → Prop}, (∀ x, P x → P' x ∧ H' x = H x) → RepO K F H t v P → RepO K F' H' t v P'
  | .fz d, v, P, P', _, h => by
    unfold RepO at h ⊢
    exact h.mono e
  | .ol ts, v, P, P', k, h => by
    unfold RepO at h ⊢
    obtain ⟨a, vs, rfl, pa, ha, r⟩ := h
    exact ⟨a, vs, rfl, (k a pa).1, by rw [(k a pa).2]; exact ha, RepOs.mono e (fun x hx => ⟨⟨(k x hx.1).1, hx.2⟩, (k x hx.1).2⟩) r⟩
  | .od tk ks ts, v, P, P', k, h => by
    unfold RepO at h ⊢
    obtain ⟨a, rfl, pa, h⟩ := h
    refine ⟨a, rfl, (k a pa).1, ?_⟩
    rcases h with ⟨e0, kvs, ha, hk, r⟩ | ⟨e0, kvs, ha, hk, r⟩
    · exact .inl ⟨e0, kvs, by rw [(k a pa).2]; exact ha, hk, RepOs.mono e (fun x hx => ⟨⟨(k x hx.1).1, hx.2⟩, (k x hx.1).2⟩) r⟩
    · exact .inr ⟨e0, kvs, by rw [(k a pa).2]; exact ha, hk, RepOs.mono e (fun x hx => ⟨⟨(k x hx.1).1, hx.2⟩, (k x hx.1).2⟩) r⟩
  | .oi C ns ts, v, P, P', k, h => by
    unfold RepO at h ⊢
    obtain ⟨a, dx, fvs, rfl, pa, ha, hn, r⟩ := h
    exact ⟨a, dx, fvs, rfl, (k a pa).1, by rw [(k a pa).2]; exact ha, hn, RepOs.mono e (fun x hx => ⟨⟨(k x hx.1).1, hx.2⟩, (k x hx.1).2⟩) r⟩
theorem RepOs.mono (e : Same F F') : ∀ {ts : List OT} {vs : List V} {P P' : Addr → Prop}, (∀ x, P x → P' x ∧ H' x = H x) → RepOs K F H ts vs P → RepOs K F' H' ts vs P'
  | [], vs, P, P', _, h => by
    unfold RepOs at h ⊢
    exact h
  | t :: ts, vs, P, P', k, h => by
    unfold RepOs at h ⊢
    obtain ⟨v, ws, P1, P2, rfl, h1, h2, r1, r2⟩ := h
    exact ⟨v, ws, P1, P2, rfl, fun x hx => (k x (h1 x hx)).1, fun x hx => ⟨(k x (h2 x hx).1).1, (h2 x hx).2⟩, RepO.mono e (fun x hx => ⟨hx, (k x (h1 x hx)).2⟩) r1, RepOs.mono e (fun x hx => ⟨hx, (k x (h2 x hx).1).2⟩) r2⟩
end
mutual
/-- frozen: the tree's own cells stand in F' as they stand in H -/
theorem RepO.frz (e : Same F F') : ∀ {t : OT} {v : V} {P : Addr → Prop}, (∀ x, P x → ∀ o, H x = some o → F' x = some o) → RepO K F H t v P → Rep K F' v t.view
  | .fz d, v, P, _, h => by
    unfold RepO at h
    rw [OT.view]
    exact h.mono e
  | .ol ts, v, P, k, h => by
    unfold RepO at h
    obtain ⟨a, vs, rfl, pa, ha, r⟩ := h
    rw [OT.view]
    exact .lst (.inl (k a pa _ ha)) (RepOs.frz e (fun x hx => k x hx.1) r)
  | .od tk ks ts, v, P, k, h => by
    unfold RepO at h
    obtain ⟨a, rfl, pa, h⟩ := h
    rw [OT.view]
    rcases h with ⟨e0, kvs, ha, hk, r⟩ | ⟨e0, kvs, ha, hk, r⟩
    · subst hk e0; exact .dicK (.inl (k a pa _ ha)) (RepOs.frz e (fun x hx => k x hx.1) r)
    · subst hk e0; exact .dicT (.inl (k a pa _ ha)) (RepOs.frz e (fun x hx => k x hx.1) r)
  | .oi C ns ts, v, P, k, h => by
    unfold RepO at h
    obtain ⟨a, dx, fvs, rfl, pa, ha, hn, r⟩ := h
    rw [OT.view]
    subst hn
    exact .ins (k a pa _ ha) (RepOs.frz e (fun x hx => k x hx.1) r)
theorem RepOs.frz (e : Same F F') : ∀ {ts : List OT} {vs : List V} {P : Addr → Prop}, (∀ x, P x → ∀ o, H x = some o → F' x = some o) → RepOs K F H ts vs P → Reps K F' vs (OT.views ts)
  | [], vs, P, _, h => by
    unfold RepOs at h
    subst h
    rw [OT.views]
    exact .nil
  | t :: ts, vs, P, k, h => by
    unfold RepOs at h
    obtain ⟨v, ws, P1, P2, rfl, h1, h2, r1, r2⟩ := h
    rw [OT.views]
    exact .cons (RepO.frz e (fun x hx => k x (h1 x hx)) r1) (RepOs.frz e (fun x hx => k x (h2 x hx).1) r2)
end
/-- a list of frozen items -/
theorem repOs_fz : ∀ {ds : List D} {vs : List V} {P : Addr → Prop}, RepOs K F H (ds.map OT.fz) vs P → Reps K F vs ds
  | [], vs, P, h => by
    rw [List.map_nil] at h
    unfold RepOs at h
    subst h
    exact .nil
  | d :: ds, vs, P, h => by
    rw [List.map_cons] at h
    unfold RepOs at h
    obtain ⟨v, ws, P1, P2, rfl, h1, h2, r1, r2⟩ := h
    unfold RepO at r1
    exact .cons r1 (repOs_fz r2)
theorem repOs_of : ∀ {ds : List D} {vs : List V} (P : Addr → Prop), Reps K F vs ds → RepOs K F H (ds.map OT.fz) vs P
  | [], vs, P, h => by
    cases h
    rw [List.map_nil]
    unfold RepOs
    rfl
  | d :: ds, vs, P, h => by
    cases h with
    | cons h r =>
      rw [List.map_cons]
      unfold RepOs
      refine ⟨_, _, fun _ => False, P, rfl, fun x z => z.elim, fun x z => ⟨z, id⟩, ?_, repOs_of P r⟩
      unfold RepO
      exact h
theorem RepOs.length : ∀ {ts : List OT} {vs : List V} {P : Addr → Prop}, RepOs K F H ts vs P → vs.length = ts.length
  | [], vs, P, h => by
    unfold RepOs at h
    subst h; rfl
  | t :: ts, vs, P, h => by
    unfold RepOs at h
    obtain ⟨v, ws, P1, P2, rfl, h1, h2, r1, r2⟩ := h
    rw [List.length_cons, List.length_cons, RepOs.length r2]
end

/-! ### a frame's state -/
/-- a slot: nothing known; a tree; the tree of the j-th parameter that the caller goes on with -/
inductive S where
  | un
  | ow (t : OT)
  | pa (j : Nat)
structure SD where
  sl : List S
  pa : List OT

structure Own (K : PySem.W.Frag) (pv : List V) (G F : Hp) (sd : SD) (σ : St) (H : Hp) (o : Nat ⊕ Nat → Addr → Prop) : Prop where
  fh : Same F H
  gh : Same G H
  fg : ∀ a, F a ≠ none → G a = none
  oh : ∀ i a, o i a → H a ≠ none ∧ F a = none ∧ G a = none
  oo : ∀ i j a, o i a → o j a → i = j
  len : σ.length = sd.sl.length
  sl : ∀ (i : Nat) (t : OT), sd.sl[i]? = some (S.ow t) → ∃ v : V, σ[i]? = some (some v) ∧ RepO K F H t v (o (.inl i))
  sp : ∀ (i j : Nat), sd.sl[i]? = some (S.pa j) → ∃ v : V, pv[j]? = some v ∧ σ[i]? = some (some v)
  pr : ∀ (j : Nat) (t : OT), sd.pa[j]? = some t → ∃ v : V, pv[j]? = some v ∧ RepO K F H t v (o (.inr j))
def StR (K : PySem.W.Frag) (pv : List V) (G F : Hp) (sd : SD) (σ : St) (H : Hp) : Prop := ∃ o, Own K pv G F sd σ H o
/-- .. and one tree more, that no name reaches yet -/
def StR1 (K : PySem.W.Frag) (pv : List V) (G F : Hp) (sd : SD) (σ : St) (H : Hp) (v : V) (t : OT) : Prop :=
  ∃ o P, Own K pv G F sd σ H o ∧ RepO K F H t v P ∧ ∀ a, P a → H a ≠ none ∧ F a = none ∧ G a = none ∧ ∀ i, ¬ o i a

section
variable {K : PySem.W.Frag} {pv : List V} {G F F' H H' : Hp} {sd : SD} {σ : St} {o : Nat ⊕ Nat → Addr → Prop}
theorem Own.fresh (W : Own K pv G F sd σ H o) {p : Addr} (hp : H p = none) : F p = none ∧ G p = none ∧ ∀ i, ¬ o i p :=
  ⟨W.fh.free hp, W.gh.free hp, fun i q => (W.oh i p q).1 hp⟩
/-- the heap grows, F grows by what is new -/
theorem Own.grow (W : Own K pv G F sd σ H o) (h : Same H H') (f : Same F F') (fh : Same F' H') (fn : ∀ a, F' a ≠ none → F a ≠ none ∨ H a = none) : Own K pv G F' sd σ H' o where
  fh := fh
  gh := W.gh.trans h
  fg := fun a ha => by
    rcases fn a ha with z | z
    · exact W.fg a z
    · exact W.gh.free z
  oh := fun i a q => by
    obtain ⟨h1, h2, h3⟩ := W.oh i a q
    refine ⟨?_, ?_, h3⟩
    · cases e : H a with
      | none => exact absurd e h1
      | some u => rw [h _ _ e]; simp
    · cases e : F' a with
      | none => rfl
      | some u =>
        rcases fn a (by rw [e]; simp) with z | z
        · exact absurd h2 z
        · exact absurd z h1
  oo := W.oo
  len := W.len
  sl := fun i t e => by
    obtain ⟨v, h1, h2⟩ := W.sl i t e
    refine ⟨v, h1, h2.mono f fun x hx => ⟨hx, ?_⟩⟩
    have n := (W.oh _ x hx).1
    cases e : H x with
    | none => exact absurd e n
    | some u => exact h _ _ e
  sp := W.sp
  pr := fun j t e => by
    obtain ⟨v, h1, h2⟩ := W.pr j t e
    refine ⟨v, h1, h2.mono f fun x hx => ⟨hx, ?_⟩⟩
    have n := (W.oh _ x hx).1
    cases e : H x with
    | none => exact absurd e n
    | some u => exact h _ _ e
theorem StR.fh (s : StR K pv G F sd σ H) : Same F H := let ⟨_, W⟩ := s; W.fh
/-- a new object, frozen at once -/
theorem StR.new {p : Addr} {u : HO} (s : StR K pv G F sd σ H) (hp : H p = none) : StR K pv G (upd F p u) sd σ (upd H p u) := by
  obtain ⟨o, W⟩ := s
  have n := W.fresh hp
  refine ⟨o, W.grow (Same.upd hp) (Same.upd n.1) (fun a x e => ?_) fun a ha => ?_⟩
  · by_cases h : a = p
    · subst h; rw [upd_same] at e ⊢; exact e
    · rw [upd_ne h] at e ⊢; exact W.fh a x e
  · by_cases h : a = p
    · subst h; exact .inr hp
    · rw [upd_ne h] at ha; exact .inl ha
theorem StR.sameNew {p : Addr} {u : HO} (s : StR K pv G F sd σ H) (hp : H p = none) : Same F (upd F p u) := by
  obtain ⟨o, W⟩ := s
  exact Same.upd (W.fresh hp).1
/-- a new list, not frozen -/
theorem StR.newL {p : Addr} {vs : List V} {ds : List D} (s : StR K pv G F sd σ H) (hp : H p = none) (r : Reps K F vs ds) : StR1 K pv G F sd σ (upd H p (.lst vs)) (.ref p) (.ol (ds.map .fz)) := by
  obtain ⟨o, W⟩ := s
  have n := W.fresh hp
  refine ⟨o, fun x => x = p, W.grow (Same.upd hp) (Same.refl _) (fun a x e => ?_) (fun a ha => .inl ha), ?_, fun a ha => ?_⟩
  · rw [upd_ne (fun z => by rw [z, n.1] at e; cases e)]; exact W.fh a x e
  · unfold RepO
    exact ⟨p, vs, rfl, rfl, upd_same, repOs_of _ r⟩
  · subst ha
    exact ⟨by rw [upd_same]; simp, n.1, n.2.1, n.2.2⟩
/-- the tree is frozen -/
theorem StR1.frz {v : V} {t : OT} (s : StR1 K pv G F sd σ H v t) : ∃ F', Same F F' ∧ StR K pv G F' sd σ H ∧ Rep K F' v t.view := by
  classical
  obtain ⟨o, P, W, r, k⟩ := s
  let F' : Hp := fun a => if P a then H a else F a
  have f1 : Same F F' := fun a u e => by
    have : ¬ P a := fun z => by rw [(k a z).2.1] at e; cases e
    show (if P a then H a else F a) = some u
    rw [if_neg this]; exact e
  have f2 : Same F' H := fun a u e => by
    by_cases z : P a
    · have e : (if P a then H a else F a) = some u := e
      rw [if_pos z] at e; exact e
    · have e : (if P a then H a else F a) = some u := e
      rw [if_neg z] at e; exact W.fh a u e
  refine ⟨F', f1, ⟨o, ⟨f2, W.gh, fun a ha => ?_, fun i a q => ?_, W.oo, W.len, fun i t e => ?_, W.sp, fun j t e => ?_⟩⟩, r.frz f1 fun x hx u e => ?_⟩
  · by_cases z : P a
    · exact (k a z).2.2.1
    · have ha : (if P a then H a else F a) ≠ none := ha
      rw [if_neg z] at ha; exact W.fg a ha
  · have z : ¬ P a := fun z => (k a z).2.2.2 i q
    obtain ⟨h1, h2, h3⟩ := W.oh i a q
    refine ⟨h1, ?_, h3⟩
    show (if P a then H a else F a) = none
    rw [if_neg z]; exact h2
  · obtain ⟨v, h1, h2⟩ := W.sl i t e
    exact ⟨v, h1, h2.mono f1 fun x hx => ⟨hx, rfl⟩⟩
  · obtain ⟨v, h1, h2⟩ := W.pr j t e
    exact ⟨v, h1, h2.mono f1 fun x hx => ⟨hx, rfl⟩⟩
  · show (if P x then H x else F x) = some u
    rw [if_pos hx]; exact e
theorem StR1.drop {v : V} {t : OT} (s : StR1 K pv G F sd σ H v t) : StR K pv G F sd σ H := let ⟨o, _, W, _⟩ := s; ⟨o, W⟩
theorem StR1.fz {v : V} {d : D} (s : StR K pv G F sd σ H) (r : Rep K F v d) : StR1 K pv G F sd σ H v (.fz d) := by
  obtain ⟨o, W⟩ := s
  refine ⟨o, fun _ => False, W, ?_, fun a z => z.elim⟩
  unfold RepO; exact r
/-- the tree becomes slot i's -/
theorem StR1.store {v : V} {t : OT} {i : Nat} (s : StR1 K pv G F sd σ H v t) (hi : i < sd.sl.length) : StR K pv G F { sd with sl := sd.sl.set i (.ow t) } (σ.set i (some v)) H := by
  classical
  obtain ⟨o, P, W, r, k⟩ := s
  refine ⟨fun j a => if j = .inl i then P a else o j a, ⟨W.fh, W.gh, W.fg, fun j a q => ?_, fun j l a q q' => ?_, by simpa using W.len, fun j t' e => ?_, fun j l e => ?_, fun j t' e => ?_⟩⟩
  · by_cases z : j = .inl i
    · rw [if_pos z] at q; exact ⟨(k a q).1, (k a q).2.1, (k a q).2.2.1⟩
    · rw [if_neg z] at q; exact W.oh j a q
  · by_cases z : j = .inl i
    · rw [if_pos z] at q
      by_cases y : l = .inl i
      · rw [z, y]
      · rw [if_neg y] at q'; exact absurd q' ((k a q).2.2.2 l)
    · rw [if_neg z] at q
      by_cases y : l = .inl i
      · rw [if_pos y] at q'; exact absurd q ((k a q').2.2.2 j)
      · rw [if_neg y] at q'; exact W.oo j l a q q'
  · have hs : i < σ.length := by rw [W.len]; exact hi
    by_cases z : i = j
    · subst z
      have e : (sd.sl.set i (S.ow t))[i]? = some (S.ow t') := e
      rw [List.getElem?_set_self hi] at e
      cases e
      refine ⟨v, List.getElem?_set_self hs, ?_⟩
      exact r.mono (Same.refl _) fun x hx => ⟨by show (if Sum.inl i = Sum.inl i then P x else o (Sum.inl i) x); rw [if_pos rfl]; exact hx, rfl⟩
    · have e : (sd.sl.set i (S.ow t))[j]? = some (S.ow t') := e
      rw [List.getElem?_set_ne z] at e
      obtain ⟨w, h1, h2⟩ := W.sl j t' e
      refine ⟨w, by rw [List.getElem?_set_ne z]; exact h1, ?_⟩
      exact h2.mono (Same.refl _) fun x hx => ⟨by show (if Sum.inl j = Sum.inl i then P x else o (Sum.inl j) x); rw [if_neg (fun y => z (Sum.inl.inj y).symm)]; exact hx, rfl⟩
  · by_cases z : i = j
    · subst z
      have e : (sd.sl.set i (S.ow t))[i]? = some (S.pa l) := e
      rw [List.getElem?_set_self hi] at e
      cases e
    · have e : (sd.sl.set i (S.ow t))[j]? = some (S.pa l) := e
      rw [List.getElem?_set_ne z] at e
      obtain ⟨w, h1, h2⟩ := W.sp j l e
      exact ⟨w, h1, by rw [List.getElem?_set_ne z]; exact h2⟩
  · obtain ⟨w, h1, h2⟩ := W.pr j t' e
    exact ⟨w, h1, h2.mono (Same.refl _) fun x hx => ⟨by show (if Sum.inr j = Sum.inl i then P x else o (Sum.inr j) x); rw [if_neg (by intro y; cases y)]; exact hx, rfl⟩⟩
end
end DL

/-! DL1: the judgements over values: expressions (DX, DO), arguments (DA), tests (DT). -/
namespace DL
open PySem PySem.Spec L2

structure Exn where
  C : Addr
  fs : Option (List (Str × D))
/-- what an expression gives: a value and the state behind; an exception; nothing told -/
inductive ER (α : Type) where
  | ok (a : α) (sd : SD)
  | rz (x : Exn) (sd : SD)
  | bad
def ER.bind {α γ : Type} (r : ER α) (f : α → SD → ER γ) : ER γ :=
  match r with
  | .ok a sd => f a sd
  | .rz x sd => .rz x sd
  | .bad => .bad
def ER.opt {α : Type} (o : Option α) (sd : SD) : ER α :=
  match o with
  | some a => .ok a sd
  | none => .bad
theorem ER.bind_ok {α γ : Type} {a : α} {sd : SD} {f : α → SD → ER γ} : (ER.ok a sd).bind f = f a sd := rfl
theorem ER.bind_rz {α γ : Type} {x : Exn} {sd : SD} {f : α → SD → ER γ} : (ER.rz x sd : ER α).bind f = .rz x sd := rfl
theorem ER.bind_bad {α γ : Type} {f : α → SD → ER γ} : (ER.bad : ER α).bind f = .bad := rfl
theorem ER.opt_some {α : Type} {a : α} {sd : SD} : ER.opt (some a) sd = .ok a sd := rfl
theorem ER.opt_none {α : Type} {sd : SD} : ER.opt (none : Option α) sd = .bad := rfl

def RepX (K : PySem.W.Frag) (F : Hp) (cls : Value) (dd : Option Addr) (x : Exn) : Prop :=
  cls = .ref x.C ∧ match x.fs with
  | none => dd = none
  | some l => ∃ (d : Addr) (fvs : List (Str × V)), dd = some d ∧ F d = some (.xd fvs) ∧ fvs.map (·.1) = l.map (·.1) ∧ Reps K F (fvs.map (·.2)) (l.map (·.2))
theorem RepX.mono {K : PySem.W.Frag} {F F' : Hp} {cls : Value} {dd : Option Addr} {x : Exn} (e : Same F F') (h : RepX K F cls dd x) : RepX K F' cls dd x := by
  obtain ⟨h1, h2⟩ := h
  refine ⟨h1, ?_⟩
  revert h2
  cases x.fs with
  | none => exact id
  | some l => exact fun ⟨d, fvs, a, b, c, r⟩ => ⟨d, fvs, a, e _ _ b, c, r.mono e⟩

/-- a result's relation: G, F, the state, the heap, the slots, what lies there, what is meant -/
abbrev RSt (β α : Type) := Hp → Hp → SD → Hp → L2.St → β → α → Prop
def Meets {α β : Type} (K : PySem.W.Frag) (pv : List V) (W : WX) (G : Hp) (σ : L2.St) (RS : RSt β α) (p : Bool) (sd : SD) (F H : Hp) (r : ER α) (Q : β → Hp → Prop) (P : Prop) : Prop :=
  match r with
  | .ok a sd' => (∀ v F' H', Same F F' → StR K pv G F' sd' σ H' → RS G F' sd' H' σ v a → (p = true → Same H H' ∧ sd' = sd) → Q v H') → P
  | .rz x sd' => (∀ cls dd F' H', Same F F' → StR K pv G F' sd' σ H' → RepX K F' cls dd x → W cls dd σ H') → P
  | .bad => True

section
variable {α β γ δ : Type} {K : PySem.W.Frag} {pv : List V} {W : WX} {G F H : Hp} {σ : L2.St} {sd : SD} {p q : Bool}
theorem Meets.bind {RS : RSt β α} {RS' : RSt δ γ} {r : ER α} {f : α → SD → ER γ} {Q : δ → Hp → Prop} {k : β → Hp → Prop} {P : Prop} (h : Meets K pv W G σ RS p sd F H r k P)
    (g : ∀ v F1 H1 a sd1, Same F F1 → StR K pv G F1 sd1 σ H1 → RS G F1 sd1 H1 σ v a → (p = true → Same H H1 ∧ sd1 = sd) → Meets K pv W G σ RS' q sd1 F1 H1 (f a sd1) Q (k v H1)) :
    Meets K pv W G σ RS' (p && q) sd F H (r.bind f) Q P := by
  cases r with
  | bad => exact True.intro
  | rz x sd' => exact h
  | ok a sd1 =>
    show Meets K pv W G σ RS' (p && q) sd F H (f a sd1) Q P
    have h' : (∀ v F' H', Same F F' → StR K pv G F' sd1 σ H' → RS G F' sd1 H' σ v a → (p = true → Same H H' ∧ sd1 = sd) → k v H') → P := h
    have g' := fun v F1 H1 s1 s2 s3 s4 => g v F1 H1 a sd1 s1 s2 s3 s4
    revert g'
    cases f a sd1 with
    | bad => exact fun _ => True.intro
    | rz x sd2 =>
      intro g' hW
      refine h' fun v F1 H1 s1 s2 s3 s4 => ?_
      exact g' v F1 H1 s1 s2 s3 s4 fun cls dd F2 H2 t1 t2 t3 => hW cls dd F2 H2 (s1.trans t1) t2 t3
    | ok c sd2 =>
      intro g' hQ
      refine h' fun v F1 H1 s1 s2 s3 s4 => ?_
      refine g' v F1 H1 s1 s2 s3 s4 fun w F2 H2 t1 t2 t3 t4 => hQ w F2 H2 (s1.trans t1) t2 t3 fun z => ?_
      rw [Bool.and_eq_true] at z
      obtain ⟨a1, a2⟩ := s4 z.1
      obtain ⟨b1, b2⟩ := t4 z.2
      exact ⟨a1.trans b1, b2.trans a2⟩
/-- the same value another way -/
theorem Meets.imp {f : α → γ} {RS : RSt β α} {RS' : RSt δ γ} {r : ER α} {r' : ER γ} {Q : δ → Hp → Prop} {k : β → Hp → Prop} {P P' : Prop} (h : Meets K pv W G σ RS p sd F H r k P) (hP : P → P')
    (hr : r' = r.bind (fun a sd1 => .ok (f a) sd1)) (g : ∀ v F1 H1 a sd1, r = .ok a sd1 → Same F F1 → StR K pv G F1 sd1 σ H1 → RS G F1 sd1 H1 σ v a → (p = true → Same H H1 ∧ sd1 = sd) → (∀ w F2 H2, Same F1 F2 → StR K pv G F2 sd1 σ H2 → RS' G F2 sd1 H2 σ w (f a) → Same H1 H2 → Q w H2) → k v H1) :
    Meets K pv W G σ RS' p sd F H r' Q P' := by
  subst hr
  cases r with
  | bad => exact True.intro
  | rz x sd' => exact fun hW => hP (h hW)
  | ok a sd1 =>
    intro hQ
    refine hP (h fun v F1 H1 s1 s2 s3 s4 => g v F1 H1 a sd1 rfl s1 s2 s3 s4 fun w F2 H2 t1 t2 t3 t4 => hQ w F2 H2 (s1.trans t1) t2 t3 fun z => ?_)
    obtain ⟨a1, a2⟩ := s4 z
    exact ⟨a1.trans t4, a2⟩
/-- an answer at once -/
theorem Meets.here {RS : RSt β α} {a : α} {v : β} {Q : β → Hp → Prop} {P : Prop} (s : StR K pv G F sd σ H) (r : RS G F sd H σ v a) (hP : Q v H → P) : Meets K pv W G σ RS p sd F H (.ok a sd) Q P :=
  fun hQ => hP (hQ v F H (Same.refl _) s r fun _ => ⟨Same.refl _, rfl⟩)
end

/-- k: frozen; else to be read in the heap as it stands -/
def RSx (K : PySem.W.Frag) (k : Bool) : RSt V D := fun _ F _ H _ v d => Rep K (if k = true then F else H) v d
def RSo (K : PySem.W.Frag) (pv : List V) : RSt V OT := fun G F sd H σ v t => StR1 K pv G F sd σ H v t
def RSl (K : PySem.W.Frag) (k : Bool) : RSt (List V) (List D) := fun _ F _ H _ vs ds => Reps K (if k = true then F else H) vs ds
def RSb : RSt Bool Bool := fun _ _ _ _ _ b c => b = c

def TrX (K : PySem.W.Frag) (pv : List V) (W : WX) (p k : Bool) (te : TE) (m : SD → ER D) : Prop := ∀ G F sd σ H Q, StR K pv G F sd σ H → Meets K pv W G σ (RSx K k) p sd F H (m sd) Q (te σ H Q)
def TrO (K : PySem.W.Frag) (pv : List V) (W : WX) (p : Bool) (te : TE) (m : SD → ER OT) : Prop := ∀ G F sd σ H Q, StR K pv G F sd σ H → Meets K pv W G σ (RSo K pv) p sd F H (m sd) Q (te σ H Q)
def TrA (K : PySem.W.Frag) (pv : List V) (W : WX) (p k : Bool) (ta : TA) (m : SD → ER (List D)) : Prop := ∀ G F sd σ H Q, StR K pv G F sd σ H → Meets K pv W G σ (RSl K k) p sd F H (m sd) Q (ta σ H Q)
def TrT (K : PySem.W.Frag) (pv : List V) (W : WX) (p : Bool) (tt : TT) (m : SD → ER Bool) : Prop := ∀ G F sd σ H Q, StR K pv G F sd σ H → Meets K pv W G σ RSb p sd F H (m sd) Q (tt σ H Q)

/-- an expression: p: it changes nothing; k: its value is frozen -/
structure DX (X : Cx) (pv : List V) (W : WX) (p k : Bool) (e : Expr) (m : SD → ER D) : Prop where
  ex : ∃ te, PE X e te ∧ TrX X.K pv W p k te m
/-- an expression whose value is new -/
structure DO (X : Cx) (pv : List V) (W : WX) (p : Bool) (e : Expr) (m : SD → ER OT) : Prop where
  ex : ∃ te, PE X e te ∧ TrO X.K pv W p te m
structure DA (X : Cx) (pv : List V) (W : WX) (p k : Bool) (es : List Expr) (m : SD → ER (List D)) : Prop where
  ex : ∃ ta, PA X es ta ∧ TrA X.K pv W p k ta m
structure DT (X : Cx) (pv : List V) (W : WX) (p : Bool) (e : Expr) (m : SD → ER Bool) : Prop where
  ex : ∃ tt, PT X e tt ∧ TrT X.K pv W p tt m
/-- and, or -/
structure DW (X : Cx) (pv : List V) (W : WX) (p : Bool) (e : Expr) (m : SD → ER Bool) : Prop where
  ex : ∃ tt, PW X e tt ∧ TrT X.K pv W p tt m

/-! ### the words of a mirror -/
def mVar (i : Nat) : SD → ER D := fun sd => match sd.sl[i]? with
  | some (.ow (.fz d)) => .ok d sd
  | _ => .bad
/-- what stands there, to be read at once -/
def mSee (i : Nat) : SD → ER D := fun sd => match sd.sl[i]? with
  | some (.ow t) => .ok t.view sd
  | some (.pa j) => ER.opt ((sd.pa[j]?).map OT.view) sd
  | _ => .bad
/-- what stands there, never changed from now on -/
def mFrz (i : Nat) : SD → ER D := fun sd => match sd.sl[i]? with
  | some (.ow t) => .ok t.view { sd with sl := sd.sl.set i (.ow (.fz t.view)) }
  | _ => .bad
/-- what stands there, taken away -/
def mTake (i : Nat) : SD → ER OT := fun sd => match sd.sl[i]? with
  | some (.ow t) => .ok t { sd with sl := sd.sl.set i .un }
  | _ => .bad
def mC (d : D) : SD → ER D := fun sd => .ok d sd
def mUn (f : D → Option D) (a : SD → ER D) : SD → ER D := fun sd => (a sd).bind fun x sd1 => ER.opt (f x) sd1
def mOp (f : D → D → Option D) (a b : SD → ER D) : SD → ER D := fun sd => (a sd).bind fun x sd1 => (b sd1).bind fun y sd2 => ER.opt (f x y) sd2
def mNil : SD → ER (List D) := fun sd => .ok [] sd
def mCons (a : SD → ER D) (r : SD → ER (List D)) : SD → ER (List D) := fun sd => (a sd).bind fun x sd1 => (r sd1).bind fun xs sd2 => .ok (x :: xs) sd2
def mCall (f : List D → Option D) (a : SD → ER (List D)) : SD → ER D := fun sd => (a sd).bind fun xs sd1 => ER.opt (f xs) sd1
def mCallO (f : List D → Option OT) (a : SD → ER (List D)) : SD → ER OT := fun sd => (a sd).bind fun xs sd1 => ER.opt (f xs) sd1
def mTup (a : SD → ER (List D)) : SD → ER D := fun sd => (a sd).bind fun xs sd1 => if xs.length ≤ 16777216 then .ok (.tup xs) sd1 else .bad
def mLst (a : SD → ER (List D)) : SD → ER OT := fun sd => (a sd).bind fun xs sd1 => if xs.length ≤ 16777216 then .ok (.ol (xs.map .fz)) sd1 else .bad
def mView (a : SD → ER OT) : SD → ER D := fun sd => (a sd).bind fun t sd1 => .ok t.view sd1
def mOwn (a : SD → ER D) : SD → ER OT := fun sd => (a sd).bind fun d sd1 => .ok (.fz d) sd1
def mTest (a : SD → ER D) : SD → ER Bool := fun sd => (a sd).bind fun x sd1 => match x with
  | .bl b => .ok b sd1
  | _ => .bad
def mAnd (a b : SD → ER Bool) : SD → ER Bool := fun sd => (a sd).bind fun x sd1 => if x = true then b sd1 else .ok false sd1
def mOr (a b : SD → ER Bool) : SD → ER Bool := fun sd => (a sd).bind fun x sd1 => if x = true then .ok true sd1 else b sd1
def mNot (a : SD → ER Bool) : SD → ER Bool := fun sd => (a sd).bind fun x sd1 => .ok (!x) sd1
def mIf (c : SD → ER Bool) (a b : SD → ER D) : SD → ER D := fun sd => (c sd).bind fun x sd1 => if x = true then a sd1 else b sd1
def mB (a : SD → ER Bool) : SD → ER D := fun sd => (a sd).bind fun x sd1 => .ok (.bl x) sd1

section
variable {X : Cx} {pv : List V} {W : WX} {p q k l : Bool} {e a b : Expr} {es : List Expr}

theorem RSx.see {K : PySem.W.Frag} {k : Bool} {G F H : Hp} {sd : SD} {σ : L2.St} {v : V} {d : D} (r : RSx K k G F sd H σ v d) (s : StR K pv G F sd σ H) : Rep K H v d := by
  unfold RSx at r
  cases k with
  | true => exact Rep.mono s.fh r
  | false => exact r
theorem RSl.see {K : PySem.W.Frag} {k : Bool} {G F H : Hp} {sd : SD} {σ : L2.St} {v : List V} {d : List D} (r : RSl K k G F sd H σ v d) (s : StR K pv G F sd σ H) : Reps K H v d := by
  unfold RSl at r
  cases k with
  | true => exact Reps.mono s.fh r
  | false => exact r
/-- a frozen value may be seen -/
theorem DX.see {m : SD → ER D} (h : DX X pv W p true e m) : DX X pv W p false e m := by
  obtain ⟨te, h1, h2⟩ := h
  refine ⟨te, h1, fun G F sd σ H Q s => ?_⟩
  have z := h2 G F sd σ H Q s
  revert z
  cases m sd with
  | bad => exact id
  | rz x sd1 => exact id
  | ok d sd1 => exact fun z hQ => z fun v F1 H1 s1 s2 s3 s4 => hQ v F1 H1 s1 s2 (RSx.see s3 s2) s4
theorem DO.frz {m : SD → ER OT} (h : DO X pv W p e m) : DX X pv W p true e (mView m) := by
  obtain ⟨te, h1, h2⟩ := h
  refine ⟨te, h1, fun G F sd σ H Q s => ?_⟩
  refine Meets.imp (f := OT.view) (h2 G F sd σ H Q s) id rfl fun v F1 H1 t sd1 _ s1 s2 s3 s4 hQ => ?_
  obtain ⟨F2, t1, t2, t3⟩ := StR1.frz s3
  exact hQ v F2 H1 t1 t2 t3 (Same.refl _)
theorem DO.see {m : SD → ER OT} (h : DO X pv W p e m) : DX X pv W p false e (mView m) := h.frz.see
theorem DX.own {m : SD → ER D} (h : DX X pv W p true e m) : DO X pv W p e (mOwn m) := by
  obtain ⟨te, h1, h2⟩ := h
  refine ⟨te, h1, fun G F sd σ H Q s => ?_⟩
  refine Meets.imp (f := OT.fz) (h2 G F sd σ H Q s) id rfl fun v F1 H1 t sd1 _ s1 s2 s3 s4 hQ => ?_
  exact hQ v F1 H1 (Same.refl _) s2 (StR1.fz s2 s3) (Same.refl _)

/-! ### names, constants -/
theorem dx_var {i : Nat} {x : Str} {pos : Pos} (h : PE X (.Name x pos) (tVar i)) : DX X pv W true true (.Name x pos) (mVar i) := by
  refine ⟨_, h, fun G F sd σ H Q s => ?_⟩
  unfold mVar
  split
  · rename_i d e
    obtain ⟨o, w⟩ := id s
    obtain ⟨v, h1, h2⟩ := w.sl i _ e
    unfold RepO at h2
    exact Meets.here s (show RSx X.K true G F sd H σ v d from h2) fun q => ⟨v, h1, q⟩
  · exact True.intro
theorem dx_see {i : Nat} {x : Str} {pos : Pos} (h : PE X (.Name x pos) (tVar i)) : DX X pv W true false (.Name x pos) (mSee i) := by
  refine ⟨_, h, fun G F sd σ H Q s => ?_⟩
  unfold mSee
  split
  · rename_i t e
    obtain ⟨o, w⟩ := id s
    obtain ⟨v, h1, h2⟩ := w.sl i _ e
    exact Meets.here s (show RSx X.K false G F sd H σ v t.view from h2.frz w.fh fun _ _ _ z => z) fun q => ⟨v, h1, q⟩
  · rename_i j e
    obtain ⟨o, w⟩ := id s
    obtain ⟨v, h1, h2⟩ := w.sp i j e
    cases e2 : sd.pa[j]? with
    | none => exact True.intro
    | some t =>
      obtain ⟨v', h3, h4⟩ := w.pr j t e2
      rw [h1] at h3; cases h3
      exact Meets.here s (show RSx X.K false G F sd H σ v t.view from h4.frz w.fh fun _ _ _ z => z) fun q => ⟨v, h2, q⟩
  · exact True.intro
theorem dx_c {v : V} {d : D} (h : PE X e (tC v)) (r : ∀ F, Rep X.K F v d) : DX X pv W true true e (mC d) :=
  ⟨_, h, fun G F sd σ H Q s => Meets.here s (r F) id⟩
theorem dx_int {i : Int} {j : Nat} {pos : Pos} : DX X pv W true true (.Constant (.int i) j pos) (mC (.int i)) := dx_c pe_int fun _ => .int i
theorem dx_bl {b : Bool} {j : Nat} {pos : Pos} : DX X pv W true true (.Constant (.bool b) j pos) (mC (.bl b)) := dx_c pe_bl fun _ => .bl b
theorem dx_non {j : Nat} {pos : Pos} : DX X pv W true true (.Constant .none j pos) (mC .non) := dx_c pe_non fun _ => .non
theorem dx_str {x : Str} {j : Nat} {pos : Pos} : DX X pv W true true (.Constant (.str x) j pos) (mC (.str x)) := dx_c pe_str fun _ => .str x

/-! ### operators by values -/
/-- a flat value has its own V -/
def D.sc : D → Option V
  | .non => some .non
  | .bl b => some (.bl b)
  | .int i => some (.int i)
  | .str x => some (.str x)
  | .ty n => some (.ty n)
  | .cls C => some (.ref C)
  | _ => none
theorem Rep.sc {K : PySem.W.Frag} {F : Hp} {d : D} {v : V} (h : d.sc = some v) : Rep K F v d := by
  cases d <;> simp only [D.sc, Option.some.injEq, reduceCtorEq] at h <;> subst h <;> constructor
/-- an operator that gives a flat value -/
def Op2S (K : PySem.W.Frag) (r : R2) (f : D → D → Option D) : Prop := ∀ H x y a b c, Rep K H x a → Rep K H y b → f a b = some c → ∃ v, c.sc = some v ∧ ∀ Q : VK, Q v H → r x y H Q
theorem tr_op2 {r : R2} {f : D → D → Option D} {ta tb : TE} {ma mb : SD → ER D} (hf : Op2S X.K r f) (ha : TrX X.K pv W p k ta ma) (hb : TrX X.K pv W q l tb mb) (hk : (k || q) = true) : TrX X.K pv W (p && q) true (tOp r ta tb) (mOp f ma mb) := by
  intro G F sd σ H Q s
  refine Meets.bind (ha G F sd σ H _ s) fun x F1 H1 dx sd1 s1 s2 s3 s4 => ?_
  have hq : q = (q && true) := by cases q <;> rfl
  rw [hq]
  refine Meets.bind (hb G F1 sd1 σ H1 _ s2) fun y F2 H2 dy sd2 t1 t2 t3 t4 => ?_
  have rx : Rep X.K H2 x dx := by
    cases k with
    | true => exact Rep.mono t2.fh (Rep.mono t1 s3)
    | false => exact Rep.mono (t4 (by simpa using hk)).1 s3
  cases e : f dx dy with
  | none => exact True.intro
  | some c =>
    obtain ⟨v, h1, h2⟩ := hf H2 x y dx dy c rx (RSx.see t3 t2) e
    exact Meets.here t2 (show RSx X.K true G F2 sd2 H2 σ v c from Rep.sc h1) (h2 Q)
theorem dx_op2 {op : Operator} {r : R2} {f : D → D → Option D} {pos : Pos} {ma mb : SD → ER D} (ho : OpR X (binaryOp op) r) (hf : Op2S X.K r f) (ha : DX X pv W p k a ma) (hb : DX X pv W q l b mb) (hk : (k || q) = true := by rfl) :
    DX X pv W (p && q) true (.BinOp a op b pos) (mOp f ma mb) := by
  obtain ⟨ta, a1, a2⟩ := ha
  obtain ⟨tb, b1, b2⟩ := hb
  exact ⟨_, pe_op ho a1 b1, tr_op2 hf a2 b2 hk⟩
theorem dx_cmp {op : CmpOp} {r : R2} {f : D → D → Option D} {pos : Pos} {ma mb : SD → ER D} (ho : OpR X (compareOp op) r) (hf : Op2S X.K r f) (ha : DX X pv W p k a ma) (hb : DX X pv W q l b mb) (hm : behindInMarks op b = false) (hk : (k || q) = true := by rfl) :
    DX X pv W (p && q) true (.Compare a [op] [b] pos) (mOp f ma mb) := by
  obtain ⟨ta, a1, a2⟩ := ha
  obtain ⟨tb, b1, b2⟩ := hb
  exact ⟨_, pe_cmpR ho a1 b1 hm, tr_op2 hf a2 b2 hk⟩
theorem tr_test {te : TE} {m : SD → ER D} (h : TrX X.K pv W p k te m) : TrT X.K pv W p (tTest te) (mTest m) := by
  intro G F sd σ H Q s
  have hp : p = (p && true) := by cases p <;> rfl
  rw [hp]
  refine Meets.bind (h G F sd σ H _ s) fun x F1 H1 dx sd1 s1 s2 s3 s4 => ?_
  have r := RSx.see s3 s2
  cases dx with
  | bl b =>
    cases r
    exact Meets.here s2 (show RSb G F1 sd1 H1 σ b b from rfl) fun q => ⟨b, rfl, q⟩
  | _ => exact True.intro
theorem dt_cmp {op : CmpOp} {r : R2} {f : D → D → Option D} {pos : Pos} {ma mb : SD → ER D} (ho : OpR X (compareOp op) r) (hf : Op2S X.K r f) (ha : DX X pv W p k a ma) (hb : DX X pv W q l b mb) (hm : behindInMarks op b = false) (hk : (k || q) = true := by rfl) :
    DT X pv W (p && q) (.Compare a [op] [b] pos) (mTest (mOp f ma mb)) := by
  obtain ⟨ta, a1, a2⟩ := ha
  obtain ⟨tb, b1, b2⟩ := hb
  exact ⟨_, pt_cmpR ho a1 b1 hm, tr_test (tr_op2 hf a2 b2 hk)⟩
/-- an expression that gives True or False, as a test -/
theorem dt_val {m : SD → ER D} (h : DX X pv W p k e m) (he : ∀ whole, isTrue e X.env whole = (do let v ← whole; standAt e.pos; holding [v] (truthy v)) := by intro _; rfl) : DT X pv W p e (mTest m) := by
  obtain ⟨te, a1, a2⟩ := h
  exact ⟨_, pt_val a1 he, tr_test a2⟩
theorem DW.dt {m : SD → ER Bool} (h : DW X pv W p e m) : DT X pv W p e m := by
  obtain ⟨tt, a1, a2⟩ := h
  exact ⟨tt, a1.pt, a2⟩
theorem tr_not {tt : TT} {m : SD → ER Bool} (h : TrT X.K pv W p tt m) : TrT X.K pv W p (tNot tt) (mNot m) := by
  intro G F sd σ H Q s
  have hp : p = (p && true) := by cases p <;> rfl
  rw [hp]
  refine Meets.bind (h G F sd σ H _ s) fun x F1 H1 dx sd1 s1 s2 s3 s4 => ?_
  exact Meets.here s2 (show RSb G F1 sd1 H1 σ (!x) (!dx) from congrArg _ s3) id
theorem dt_not {pos : Pos} {m : SD → ER Bool} (h : DT X pv W p e m) : DT X pv W p (.UnaryOp .Not e pos) (mNot m) := by
  obtain ⟨tt, a1, a2⟩ := h
  exact ⟨_, pt_not a1, tr_not a2⟩
theorem tr_and {t u : TT} {ma mb : SD → ER Bool} (h : TrT X.K pv W p t ma) (h2 : TrT X.K pv W q u mb) : TrT X.K pv W (p && q) (tAnd t u) (mAnd ma mb) := by
  intro G F sd σ H Q s
  refine Meets.bind (h G F sd σ H _ s) fun x F1 H1 dx sd1 s1 s2 s3 s4 => ?_
  have s3 : x = dx := s3
  subst s3
  cases x with
  | true => exact h2 G F1 sd1 σ H1 Q s2
  | false => exact Meets.here s2 (show RSb G F1 sd1 H1 σ false false from rfl) id
theorem tr_or {t u : TT} {ma mb : SD → ER Bool} (h : TrT X.K pv W p t ma) (h2 : TrT X.K pv W q u mb) : TrT X.K pv W (p && q) (tOr t u) (mOr ma mb) := by
  intro G F sd σ H Q s
  refine Meets.bind (h G F sd σ H _ s) fun x F1 H1 dx sd1 s1 s2 s3 s4 => ?_
  have s3 : x = dx := s3
  subst s3
  cases x with
  | false => exact h2 G F1 sd1 σ H1 Q s2
  | true => exact Meets.here s2 (show RSb G F1 sd1 H1 σ true true from rfl) id
theorem dw_and1 {pos : Pos} {m : SD → ER Bool} (h : DT X pv W p a m) : DW X pv W p (.BoolOp .And [a] pos) m := by
  obtain ⟨tt, a1, a2⟩ := h
  exact ⟨tt, pw_and1 a1, a2⟩
theorem dw_or1 {pos : Pos} {m : SD → ER Bool} (h : DT X pv W p a m) : DW X pv W p (.BoolOp .Or [a] pos) m := by
  obtain ⟨tt, a1, a2⟩ := h
  exact ⟨tt, pw_or1 a1, a2⟩
theorem dw_and {pos : Pos} {ma mb : SD → ER Bool} (h : DT X pv W p a ma) (h2 : DW X pv W q (.BoolOp .And (b :: es) pos) mb) : DW X pv W (p && q) (.BoolOp .And (a :: b :: es) pos) (mAnd ma mb) := by
  obtain ⟨t, a1, a2⟩ := h
  obtain ⟨u, b1, b2⟩ := h2
  exact ⟨_, pw_and a1 b1, tr_and a2 b2⟩
theorem dw_or {pos : Pos} {ma mb : SD → ER Bool} (h : DT X pv W p a ma) (h2 : DW X pv W q (.BoolOp .Or (b :: es) pos) mb) : DW X pv W (p && q) (.BoolOp .Or (a :: b :: es) pos) (mOr ma mb) := by
  obtain ⟨t, a1, a2⟩ := h
  obtain ⟨u, b1, b2⟩ := h2
  exact ⟨_, pw_or a1 b1, tr_or a2 b2⟩

/-! ### argument lists, displays -/
theorem da_nil : DA X pv W true true [] mNil := ⟨_, pa_nil, fun G F sd σ H Q s => Meets.here s (show RSl X.K true G F sd H σ [] [] from .nil) id⟩
theorem da_cons {ma : SD → ER D} {mr : SD → ER (List D)} (ha : DX X pv W p k e ma) (hr : DA X pv W q l es mr) (hk : (k || q) = true := by rfl) (hs : starEach (e :: es) X.env = (false, eval e X.env) :: starEach es X.env := by rfl) : DA X pv W (p && q) (k && l) (e :: es) (mCons ma mr) := by
  obtain ⟨te, a1, a2⟩ := ha
  obtain ⟨tr, b1, b2⟩ := hr
  refine ⟨_, pa_cons a1 b1 hs, fun G F sd σ H Q s => ?_⟩
  refine Meets.bind (a2 G F sd σ H _ s) fun x F1 H1 dx sd1 s1 s2 s3 s4 => ?_
  have hq : q = (q && true) := by cases q <;> rfl
  rw [hq]
  refine Meets.bind (b2 G F1 sd1 σ H1 _ s2) fun xs F2 H2 ds sd2 t1 t2 t3 t4 => ?_
  refine Meets.here t2 (show RSl X.K (k && l) G F2 sd2 H2 σ (x :: xs) (dx :: ds) from ?_) id
  show Reps X.K (if (k && l) = true then F2 else H2) (x :: xs) (dx :: ds)
  cases k with
  | true =>
    have r : Rep X.K F2 x dx := Rep.mono t1 s3
    cases l with
    | true => exact .cons r t3
    | false => exact .cons (Rep.mono t2.fh r) t3
  | false => exact .cons (Rep.mono (t4 (by simpa using hk)).1 s3) (RSl.see t3 t2)
theorem dx_tup {x1 : Nat} {pos : Pos} {m : SD → ER (List D)} (h : DA X pv W p true es m) : DX X pv W p true (.Tuple es x1 pos) (mTup m) := by
  obtain ⟨ta, a1, a2⟩ := h
  refine ⟨_, pe_tup a1, fun G F sd σ H Q s => ?_⟩
  have hp : p = (p && true) := by cases p <;> rfl
  rw [hp]
  refine Meets.bind (a2 G F sd σ H _ s) fun vs F1 H1 ds sd1 s1 s2 s3 s4 => ?_
  split
  · rename_i hl
    intro hQ
    refine ⟨by rw [Reps.length s3, sizeLine_eq]; exact hl, fun p hp => ?_⟩
    exact hQ _ _ _ (s2.sameNew hp) (s2.new hp) (.tup upd_same (Reps.mono (s2.sameNew hp) s3)) fun _ => ⟨Same.upd hp, rfl⟩
  · exact True.intro
theorem do_lst {pos : Pos} {m : SD → ER (List D)} (h : DA X pv W p true es m) : DO X pv W p (.List es pos) (mLst m) := by
  obtain ⟨ta, a1, a2⟩ := h
  refine ⟨_, pe_lst a1, fun G F sd σ H Q s => ?_⟩
  have hp : p = (p && true) := by cases p <;> rfl
  rw [hp]
  refine Meets.bind (a2 G F sd σ H _ s) fun vs F1 H1 ds sd1 s1 s2 s3 s4 => ?_
  split
  · rename_i hl
    intro hQ
    refine ⟨by rw [Reps.length s3, sizeLine_eq]; exact hl, fun p hp => ?_⟩
    have z := s2.newL hp s3
    exact hQ _ _ _ (Same.refl _) z.drop z fun _ => ⟨Same.upd hp, rfl⟩
  · exact True.intro

/-! ### conditional expressions -/
theorem dx_if {c : Expr} {pos : Pos} {mc : SD → ER Bool} {ma mb : SD → ER D} {q' : Bool} (hc : DT X pv W p c mc) (ha : DX X pv W q k a ma) (hb : DX X pv W q' k b mb) : DX X pv W (p && (q && q')) k (.IfExp c a b pos) (mIf mc ma mb) := by
  obtain ⟨tc, c1, c2⟩ := hc
  obtain ⟨ta, a1, a2⟩ := ha
  obtain ⟨tb, b1, b2⟩ := hb
  refine ⟨_, pe_ifExp c1 a1 b1, fun G F sd σ H Q s => ?_⟩
  refine Meets.bind (c2 G F sd σ H _ s) fun x F1 H1 dx sd1 s1 s2 s3 s4 => ?_
  have s3 : x = dx := s3
  subst s3
  have wk : ∀ {p' : Bool} {r : ER D} {P : Prop}, ((q && q') = true → p' = true) → Meets X.K pv W G σ (RSx X.K k) p' sd1 F1 H1 r Q P → Meets X.K pv W G σ (RSx X.K k) (q && q') sd1 F1 H1 r Q P := fun {p' r P} hpp z => by
    revert z
    cases r with
    | bad => exact id
    | rz y sd2 => exact id
    | ok d sd2 => exact fun z hQ => z fun v F2 H2 t1 t2 t3 t4 => hQ v F2 H2 t1 t2 t3 fun w => t4 (hpp w)
  cases x with
  | true => exact wk (fun z => (Bool.and_eq_true _ _ ▸ z : q = true ∧ q' = true).1) (a2 G F1 sd1 σ H1 Q s2)
  | false => exact wk (fun z => (Bool.and_eq_true _ _ ▸ z : q = true ∧ q' = true).2) (b2 G F1 sd1 σ H1 Q s2)
end

/-! ### defs called where no text of a list is under way (so that repr may be walked) -/
open PyProof.Rows (envOfC IntsAre AllBare)
/-- room for calls, and no guard on the stack -/
structure RoomG (k : Nat) (A : Around) : Prop where
  r : Room k A
  g : A.guards = some []
section
variable {j k : Nat} {A : Around}
theorem RoomG.mono (x : RoomG k A) (h : j ≤ k) : RoomG j A := ⟨x.r.mono h, x.g⟩
theorem RoomG.in1 (x : RoomG (k + 1) A) : RoomG k A.in1 := ⟨x.r.in1, x.g⟩
theorem RoomG.deeper (x : RoomG (k + 1) A) (env : Env) : RoomG k (A.deeper env) := ⟨x.r.deeper env, x.g⟩
theorem RoomG.make (x : RoomG (k + 1) A) (C : Addr) (us : List Value) (kw : List (Str × Value)) : RoomG k (A.under (.builtin "type.__call__" ⟨.ref C :: us, kw⟩)) := ⟨x.r.make C us kw, by
  have e := x.g
  first | exact e | (simp [Around.under, Code.isGuard, guardIds, e])⟩
theorem RoomG.units (x : RoomG k A) : A.units + 64 < cLine := x.r.units
theorem RoomG.units0 (x : RoomG k A) : A.units < cLine := x.r.units0
theorem RoomG.un (x : RoomG k A) : A.units + 16 * k + 200 < cLine := x.r.un
theorem RoomG.hd (x : RoomG k A) : A.handled = none := x.r.hd
theorem RoomG.depth (x : RoomG k A) : A.depth < recursionLimit := x.r.depth
end
structure FnG (P : Program) (w : World) (K : PySem.W.Frag) (mg : Str → Option Value) (base : Heap) (C : CXT) (k : Nat) (f : Addr) (fd : FuncData) (ps : List Str) (sp : Sp) : Prop where
  len : ∀ vs H Q E, sp vs H Q E → vs.length = ps.length
  run : ∀ (A : Around) (out : List Env) (s : Shared) (H : Hp) (args : Args) (us : List Value) (vs : List V) (Q : VK) (E : XK), RoomG k A → Env0 P w K mg base A out s H → BindsTo s fd args (ps.zip us) → Vals vs us → sp vs H Q E →
    codeAny (model P w) A (.call (.ref f) args) (CR C out P w H s Q E) s
theorem FnG.mono {P : Program} {w : World} {K : PySem.W.Frag} {mg : Str → Option Value} {base : Heap} {C : CXT} {j k : Nat} {f : Addr} {fd : FuncData} {ps : List Str} {sp : Sp} (F : FnG P w K mg base C j f fd ps sp) (h : j ≤ k) : FnG P w K mg base C k f fd ps sp :=
  ⟨F.len, fun A out s H args us vs Q E x => F.run A out s H args us vs Q E (x.mono h)⟩
/-- a def by its body, there -/
theorem fun_okG {P : Program} {w : World} {K : PySem.W.Frag} {mg : Str → Option Value} {base : Heap} {x qual : Str} {st : Stmt} {f : Addr} {fd : FuncData} {N ps : List Str} {k : Nat} {sp : Sp} (F : Fun K x qual st f fd) (S : FnScope N ps (defScope st)) (len : ∀ vs H Q E, sp vs H Q E → vs.length = ps.length)
    (body : ∀ (cdv : Value) (A : Around) (out : List Env) (s : Shared) (H : Hp) (vs : List V) (Q : VK) (E : XK), RoomG k (A.deeper (envOfC qual (defScope st) s.heap.objs.size f cdv)) → sp vs H Q E →
      ∃ t, PSs (cxOf (L2.CX P w) P w K mg base N qual (defScope st) f cdv A out s H E) (defBody st) t ∧ t { nx := fun _ H' => Q .non H', rt := Q } (L2.start N vs) H) : FnG P w K mg base (L2.CX P w) (k + 1) f fd ps sp := by
  obtain ⟨oc, od, kV, doc, pm, an, cdv, ct, osl, rfl, lk, hcd⟩ := F.ex
  refine ⟨len, fun A out s H args us vs Q E room e0 bnd rel hsp => ?_⟩
  have grows := fun (b : Addr) (o : Obj) (e : base.get? b = some o) => (e0.bs b o e).1
  have inK : K.In s.heap := e0.mod.kin.keeps grows
  refine codeAny_call_function room.depth (inK _ _ lk) rfl S.co S.gen rfl (PySem.W.codeRec_of inK hcd) (bnd _ _ _ _ (wpAny_newFunctionEnv_cells S.kind (fun y hy => ?_) fun env he s1 z => ?_))
  · rcases S.par y.1 (List.of_mem_zip (a := y.1) (b := y.2) hy).1 with q | q
    · exact .inl q
    · exact .inr ⟨q, PySem.W.cellsFrom_some _ _ _ (.inl q)⟩
  · subst he
    obtain ⟨t, ht, hq⟩ := body cdv A out s H vs Q E (room.deeper _) hsp
    have I := inv_start (CX := L2.CX P w) (E := E) S room.hd e0 (len _ _ _ _ hsp) rel z
    refine ⟨(e0.mod.nolimit.keeps grows).keeps z.toInCall.keep, codeAny_func (wpAny_mono (ht.run [] s1 (L2.start N vs) H _ I hq) (fun fl s2 hs => ?_) fun e s2 hs => hs)⟩
    cases fl with
    | ret u =>
      obtain ⟨v, _, H2, J, rv, q⟩ := hs
      exact ⟨v, H2, J.os, J.bare, J.base, J.hok, rv, q⟩
    | next =>
      obtain ⟨_, H2, J, q⟩ := hs
      exact ⟨V.non, H2, J.os, J.bare, J.base, J.hok, rfl, q⟩
    | brk => exact (let ⟨_, _, _, q⟩ := hs; False.elim q)
    | cont => exact (let ⟨_, _, _, q⟩ := hs; False.elim q)
section
variable {X : Cx} {W : WX} {f : Addr} {fd : FuncData} {ps : List Str} {sp : Sp} {k : Nat} {pins : List (Addr × Obj)} {σ : L2.St} {H : Hp} {s : Shared} {Q : VK} {us : List Value} {vs : List V} {x : Str} {p pos : Pos} {e : Expr} {es : List Expr} {t : TA} {E : L2.St → XK}
theorem code_G (F : FnG X.prog X.w X.K X.mg X.base (L2.CX X.prog X.w) k f fd ps sp) (hr : RoomG k X.A) (hb : Binds X.K fd ps []) (hx : PassesAt (L2.CX X.prog X.w) X σ (E σ)) (I : Inv X pins σ H s) (r : Vals vs us) (h : sp vs H Q (E σ)) :
    codeAny (model X.prog X.w) X.A (.call (.ref f) ⟨us, []⟩) (wants (EP X pins σ Q) X.xe) s := by
  have hl : (us ++ []).length = ps.length := by rw [List.append_nil, ← r.length, F.len _ _ _ _ h]
  have b := hb s us I.kIn hl
  rw [List.append_nil] at b
  refine codeAny_mono (F.run X.A X.stack s H ⟨us, []⟩ us vs Q (E σ) hr I.env0 b r h) fun res s2 hq => ?_
  cases res with
  | error e => exact hx pins H s e s2 I hq
  | ok fl =>
    cases fl with
    | ret u => exact I.after hq
    | next => exact hq.elim
    | brk => exact hq.elim
    | cont => exact hq.elim
theorem run_G (F : FnG X.prog X.w X.K X.mg X.base (L2.CX X.prog X.w) k f fd ps sp) (hr : RoomG k X.A) (hb : Binds X.K fd ps []) (hx : PassesAt (L2.CX X.prog X.w) X σ (E σ)) (I : Inv X pins σ H s) (r : Vals vs us) (h : sp vs H Q (E σ)) :
    wpAny (model X.prog X.w) X.A (call (.ref f) us) (EP X pins σ Q) X.xe s := wpAny_call (code_G F hr hb hx I r h)
/-- f(e, ..) -/
theorem pe_callG (F : FnG X.prog X.w X.K X.mg X.base (L2.CX X.prog X.w) k f fd ps sp) (hr : RoomG k X.A) (hg : Gl X x) (hm : X.mg x = some (.ref f)) (hk : PySem.W.keepIn X.K (.ref f) = true) (hb : Binds X.K fd ps []) (tk : Takes X W) (ha : PA X (e :: es) t)
    (hdb : (x == ("__debug__" : Str)) = false := by decide) (he : starEach (e :: es) X.env = (false, eval e X.env) :: starEach es X.env := by rfl) (hpl : (backTo pos (starEach es X.env)).any (·.1) = false := by rfl) :
    PE X (.Call (.Name x p) (e :: es) [] pos) (fun σ H Q => t σ H fun vs H1 => sp vs H1 Q (WE W σ)) :=
  ⟨fun pins s σ H Q I h => wpAny_Call_Name_kw (ld_glob I hg hm (PySem.W.callWith_K (h₀ := X.base) I.ok.mod.kin hk (thn (ha.run pos pins s σ H _ I h) fun us s1 ⟨vs, H1, I1, r, q⟩ => ⟨I1.kIn, run_G F hr hb (passAt tk σ) I1 r q⟩) he hpl) hdb)⟩
end

/-! ### the law's own call -/
theorem law_G {P : Program} {w : World} {K : PySem.W.Frag} {mg mb : Str → Option Value} {k : Nat} {fa a : Addr} {fd : FuncData} {x : Str} {sp : Sp} {sc : Shared} {vs : List Value} {ns : List Int} (kx : K.In sc.heap) (g1 : sc.heap.Ns mainGlobals mg) (g2 : sc.heap.Ns builtinsNs mb)
    (g3 : ∀ x : Str, x ≠ "__name__" → mb x = bootBuiltins x) (g4 : sc.heap.NoLimit) (g5 : sc.gens = #[]) (ha : sc.heap.get? a = some { cls := .type "list", data := .seq vs.toArray }) (hi : IntsAre vs ns) (hl : ns.length ≤ sizeLine) (hr : RoomG k callerA)
    (F : ∀ base : Heap, K.In base → base.Ns mainGlobals mg → FnG P w K mg base (L2.CX P w) k fa fd [x] sp) (hbind : ∀ (s : Shared) (u : Value), BindsTo s fd ⟨[u], []⟩ [(x, u)]) (hsp : ∀ T : Hp, Only T → SqL K T a (ns.map V.int) → sp [.ref a] T (fun v _ => v = .bl true) fun _ _ _ => False)
    (no : ∀ T e s', L2.CX P w [] T sc (fun _ _ _ => False) e s' → False) : codeAny (model P w) callerA (.call (.ref fa) ⟨[.ref a], []⟩) (fun r s' => r = .ok (.ret (.bool true)) ∧ OldK sc.heap s'.heap ∧ s'.os = sc.os ∧ AllBare s'.gens) sc := by
  have go : ∀ T : Hp, Only T → SqL K T a (ns.map V.int) → HOk P w T sc.heap → (∀ b, T b ≠ none → b = a) → (T a ≠ none → K.lookup a = none) → codeAny (model P w) callerA (.call (.ref fa) ⟨[.ref a], []⟩) (fun r s' => r = .ok (.ret (.bool true)) ∧ OldK sc.heap s'.heap ∧ s'.os = sc.os ∧ AllBare s'.gens) sc := fun T only seq hok one own => by
    have isA : ∀ {b : Addr}, (∃ u, T b = some u) → b = a := fun {b} ⟨u, q⟩ => one b (by rw [q]; simp)
    have free : ∀ {b : Addr} {P : Prop}, (b = a → False) → T b = none := fun {b _} n => by
      cases q : T b with
      | none => rfl
      | some u => exact (n (isA ⟨u, q⟩)).elim
    have ns2 : ∀ {b : Addr} {m : Str → Option Value}, sc.heap.Ns b m → (hidT sc.heap T).Ns b m := fun {b m} ⟨o, es, ep, e, d, r⟩ => ⟨o, es, ep, hidT_get e (free (P := True) fun z => by
      subst z
      rw [ha] at e; cases e
      exact (nomatch (show Data.seq vs.toArray _ = Data.dict es ep from d))), d, r⟩
    have kin : K.In (hidT sc.heap T) := fun b o e => hidT_get (kx b o e) (by
      cases q : T b with
      | none => rfl
      | some u =>
        have z := isA ⟨u, q⟩
        subst z
        rw [own (by rw [q]; simp)] at e; cases e)
    obtain ⟨mc, c1, c2⟩ := g4
    have e0 : Env0 P w K mg (hidT sc.heap T) callerA [] sc T := ⟨rfl, ⟨kin, ns2 g1, ⟨mb, ns2 g2, g3⟩, ⟨mc, ns2 c1, c2⟩⟩, fun b o e => of_hidT e, Nat.le_of_eq (hidT_size _ _), trivial, fun b hb => (nomatch (show b ∈ ([] : List Addr) from hb)), hok, .of_eq g5⟩
    refine codeAny_mono ((F _ kin (ns2 g1)).run callerA [] sc T ⟨[.ref a], []⟩ [.ref a] [.ref a] _ _ hr e0 (hbind sc (.ref a)) (.cons rfl .nil) (hsp T only seq)) fun r s2 h => ?_
    cases r with
    | error e => exact (no T e s2 h).elim
    | ok fl =>
      cases fl with
      | next => exact h.elim
      | brk => exact h.elim
      | cont => exact h.elim
      | ret u =>
        obtain ⟨v, T2, os, bare, un, hok2, ru, q⟩ := h
        have q : v = .bl true := q
        subst q
        cases (show u = Value.bool true from ru)
        refine ⟨rfl, OldK.of_keep fun b o e => ?_, os, bare⟩
        cases q : T b with
        | none => exact un.keep b o e q (fun z => nomatch (show b ∈ ([] : List Addr) from z)) (by simp)
        | some u =>
          rcases only b with z | ⟨ob, xs, z⟩
          · rw [q] at z; cases z
          · obtain ⟨m1, _⟩ := hok b _ z
            obtain ⟨m2, _⟩ := hok2 b _ (un.frzs b ob _ z)
            rw [e] at m1; cases m1
            exact m2
  cases hk : K.lookup a with
  | some o =>
    have e := kx a o hk
    rw [ha] at e
    cases e
    exact go (fun _ => none) (fun _ => .inl rfl) (.inr ⟨_, vs.toArray, _, hk, rfl, rfl, rfl, by rw [List.size_toArray, hi.length]; exact hl, by simpa using vals_ints hi⟩) (fun b u z => nomatch (show (none : Option HO) = some u from z)) (fun b z => absurd rfl z) fun z => absurd rfl z
  | none =>
    let T : Hp := fun b => if b = a then some (.frz { cls := .type "list", data := .seq vs.toArray } (.lst (ns.map V.int))) else none
    have t1 : T a = some (.frz { cls := .type "list", data := .seq vs.toArray } (.lst (ns.map V.int))) := if_pos rfl
    have t2 : ∀ b, b ≠ a → T b = none := fun b n => if_neg n
    refine go T (fun b => ?_) (.inl (.inr ⟨_, t1⟩)) (fun b u z => ?_) (fun b z => Classical.byContradiction fun n => z (t2 b n)) fun _ => hk
    · by_cases e : b = a
      · subst e; exact .inr ⟨_, _, t1⟩
      · exact .inl (t2 b e)
    · by_cases e : b = a
      · subst e
        rw [t1] at z; cases z
        exact ⟨ha, by rw [List.length_map]; exact hl, vs, _, vals_ints hi, ha⟩
      · rw [t2 b e] at z; cases z
open PyProof.Rows in
theorem walk_G {l : PySem.W.OpenLaw} {n k : Nat} {q : Program} {loose : List Str} {XP : (Str → Option Value) → Heap → Prop} {YP : World → Heap → Prop} {d : DefRec} {K : Params → PySem.W.Frag} {sp : World → Sp} {x : Str} (hn : l.most = some n) (hn2 : n ≤ sizeLine) (hdf : d.params.defaults = []) (hr : RoomG k callerA)
    (hY : ∀ (w : World) (h : Heap), YP w h → (K w.params).In h) (F : ∀ (w : World) (mg : Str → Option Value) (fa : Addr) (h : Heap), (K w.params).In h → h.Ns mainGlobals mg → mg d.name = some (.ref fa) → ∃ fd : FuncData, (∀ (s : Shared) (u : Value), BindsTo s fd ⟨[u], []⟩ [(x, u)]) ∧
        ∀ base : Heap, (K w.params).In base → base.Ns mainGlobals mg → FnG l.prog w (K w.params) mg base (L2.CX l.prog w) k fa fd [x] (sp w))
    (hsp : ∀ (w : World) (H : Hp) (a : Addr) (ns : List Int), ns.length ≤ n → (∀ z ∈ ns, Builtin.Int.intBits z ≤ 1048576) → SqL (K w.params) H a (ns.map V.int) → sp w [.ref a] H (fun v _ => v = .bl true) fun _ _ _ => False) : PySem.W.WalkO q loose XP YP l.row.toRowW d [] (fun f vs => PySem.call f vs) := by
  refine Att.attach_callB hn hdf fun w s0 sc mg mb fa o pm cd doc a vs ns G Y ho hd hcd hmg hobj hints hlen hbits hg => ?_
  obtain ⟨fd, hb, hF⟩ := F w mg fa _ (hY w _ Y) G.T.g hmg
  refine law_G (hY w _ Y) G.T.g G.T.b G.T.builtins G.T.nolimit hg hobj hints (Nat.le_trans hlen hn2) hr hF hb (fun T _ hS => hsp w T a ns hlen hbits hS) fun T e s' z => ?_
  obtain ⟨_, _, _, _, _, _, _, _, _, _, _, _, q⟩ := z
  exact q
end DL

/-! DL2: calls of defs, statements, a def by its mirror. -/
namespace DL
open PySem PySem.Spec L2

/-! ### a tree put aside -/
section
variable {K : PySem.W.Frag} {pv : List V} {G F H : Hp} {sd : SD} {σ : L2.St}
theorem StR1.hide {v : V} {t : OT} (s : StR1 K pv G F sd σ H v t) : ∃ G', Same G G' ∧ StR K pv G' F sd σ H ∧
    ∀ (F' : Hp) (sd' : SD) (σ' : L2.St) (H' : Hp), Same F F' → StR K pv G' F' sd' σ' H' → StR1 K pv G F' sd' σ' H' v t := by
  classical
  obtain ⟨o, P, W, r, k⟩ := s
  refine ⟨fun a => if P a then H a else G a, fun a u e => ?_, ⟨o, W.fh, fun a u e => ?_, fun a ha => ?_, fun i a q => ?_, W.oo, W.len, W.sl, W.sp, W.pr⟩, fun F' sd' σ' H' f ⟨o', W'⟩ => ?_⟩
  · have : ¬ P a := fun z => by rw [(k a z).2.2.1] at e; cases e
    show (if P a then H a else G a) = some u
    rw [if_neg this]; exact e
  · have e : (if P a then H a else G a) = some u := e
    by_cases z : P a
    · rw [if_pos z] at e; exact e
    · rw [if_neg z] at e; exact W.gh a u e
  · show (if P a then H a else G a) = none
    by_cases z : P a
    · exact absurd (k a z).2.1 ha
    · rw [if_neg z]; exact W.fg a ha
  · obtain ⟨h1, h2, h3⟩ := W.oh i a q
    refine ⟨h1, h2, ?_⟩
    show (if P a then H a else G a) = none
    rw [if_neg fun z => (k a z).2.2.2 i q]; exact h3
  · have up : ∀ a, P a → (if P a then H a else G a) = H a := fun a z => if_pos z
    have hH : ∀ a, P a → H' a = H a := fun a z => by
      cases e : H a with
      | none => exact absurd e (k a z).1
      | some u => exact W'.gh a u (by rw [up a z]; exact e)
    have ne : ∀ a, P a → (if P a then H a else G a) ≠ none := fun a z => by rw [up a z]; exact (k a z).1
    refine ⟨o', P, ⟨W'.fh, fun a u e => ?_, fun a ha => ?_, fun i a q => ?_, W'.oo, W'.len, W'.sl, W'.sp, W'.pr⟩, r.mono f fun x hx => ⟨hx, hH x hx⟩, fun a z => ⟨?_, ?_, (k a z).2.2.1, fun i q => ?_⟩⟩
    · by_cases z : P a
      · rw [(k a z).2.2.1] at e; cases e
      · exact W'.gh a u (by show (if P a then H a else G a) = some u; rw [if_neg z]; exact e)
    · by_cases z : P a
      · exact (k a z).2.2.1
      · have q := W'.fg a ha
        have q : (if P a then H a else G a) = none := q
        rw [if_neg z] at q; exact q
    · obtain ⟨h1, h2, h3⟩ := W'.oh i a q
      refine ⟨h1, h2, ?_⟩
      by_cases z : P a
      · exact (k a z).2.2.1
      · have h3 : (if P a then H a else G a) = none := h3
        rw [if_neg z] at h3; exact h3
    · rw [hH a z]; exact (k a z).1
    · cases e : F' a with
      | none => rfl
      | some u => exact absurd (W'.fg a (by rw [e]; simp)) (ne a z)
    · exact absurd (W'.oh i a q).2.2 (ne a z)

/-- what a callee is given: all of the frame is put aside but the trees handed over. idx: where the callee's parameters come from -/
theorem StR.give {ts : List OT} {vs : List V} (s : StR K pv G F sd σ H) (hr : Reps K F vs (ts.map OT.view) ∧ ts.all (fun t => match t with | .fz _ => true | _ => false) = true) :
    ∃ G', StR K vs G' F ⟨[], ts⟩ [] H ∧ (∀ (F' H' : Hp) (v : V) (t : OT) (sd1 : SD), Same F F' → StR1 K vs G' F' sd1 [] H' v t → StR1 K pv G F' sd σ H' v t ∧ Same H H') ∧
      (∀ (F' H' : Hp) (sd1 : SD), Same F F' → StR K vs G' F' sd1 [] H' → StR K pv G F' sd σ H' ∧ Same H H') := by
  classical
  obtain ⟨hr, hfz⟩ := hr
  obtain ⟨o, W⟩ := s
  have back : ∀ (F' H' : Hp) (o' : Nat ⊕ Nat → Addr → Prop) (sd1 : SD), Same F F' → Own K vs (fun a => if F a = none then H a else none) F' sd1 [] H' o' → Same H H' ∧ Own K pv G F' sd σ H' o := fun F' H' o' sd1 f W' => by
    have hh : Same H H' := fun a u e => by
      by_cases z : F a = none
      · exact W'.gh a u (by show (if F a = none then H a else none) = some u; rw [if_pos z]; exact e)
      · cases e2 : F a with
        | none => exact absurd e2 z
        | some u' =>
          have := W.fh a u' e2
          rw [e] at this; cases this
          exact W'.fh a u (f a u e2)
    refine ⟨hh, W.grow hh f W'.fh fun a ha => ?_⟩
    by_cases z : F a = none
    · have q := W'.fg a ha
      have q : (if F a = none then H a else none) = none := q
      rw [if_pos z] at q; exact .inr q
    · exact .inl z
  refine ⟨fun a => if F a = none then H a else none, ⟨fun _ _ => False, W.fh, fun a u e => ?_, fun a ha => if_neg ha, fun i a q => q.elim, fun i j a q => q.elim, rfl, fun i t e => by simp at e, fun i j e => by simp at e, fun j t e => ?_⟩, fun F' H' v t sd1 f ⟨o', P, W', r, k⟩ => ?_, fun F' H' sd1 f ⟨o', W'⟩ => ?_⟩
  · have e : (if F a = none then H a else none) = some u := e
    by_cases z : F a = none
    · rw [if_pos z] at e; exact e
    · rw [if_neg z] at e; cases e
  · have e : ts[j]? = some t := e
    have ef := List.all_eq_true.mp hfz t (List.mem_of_getElem? e)
    cases t with
    | fz d =>
      obtain ⟨v, h1, h2⟩ := hr.get (i := j) (d := d) (by rw [List.getElem?_map, e]; rfl)
      refine ⟨v, h1, ?_⟩
      unfold RepO; exact h2
    | ol _ => cases ef
    | od _ _ _ => cases ef
    | oi _ _ _ => cases ef
  · obtain ⟨hh, W2⟩ := back F' H' o' sd1 f W'
    refine ⟨⟨o, P, W2, r, fun a z => ?_⟩, hh⟩
    obtain ⟨h1, h2, h3, h4⟩ := k a z
    have fa : F a = none := f.free h2
    have h3 : (if F a = none then H a else none) = none := h3
    rw [if_pos fa] at h3
    exact ⟨h1, h2, W.gh.free h3, fun i q => (W.oh i a q).1 h3⟩
  · obtain ⟨hh, W2⟩ := back F' H' o' sd1 f W'
    exact ⟨⟨o, W2⟩, hh⟩
end

/-! ### what a def promises: its mirror -/
def spD (K : PySem.W.Frag) (n : Nat) (m : List OT → ER OT) : Sp := fun vs H Q E => vs.length = n ∧ ∃ (G F : Hp) (ts : List OT), ts.length = n ∧ StR K vs G F ⟨[], ts⟩ [] H ∧
  match m ts with
  | .ok t sd' => ∀ v F' H', Same F F' → StR1 K vs G F' sd' [] H' v t → Q v H'
  | .rz x sd' => ∀ cls dd F' H', Same F F' → StR K vs G F' sd' [] H' → RepX K F' cls dd x → E cls dd H'
  | .bad => False

def mCall0 (f : List OT → ER OT) (a : SD → ER (List D)) : SD → ER OT := fun sd => (a sd).bind fun ds sd1 =>
  match f (ds.map .fz) with
  | .ok t _ => .ok t sd1
  | .rz x _ => .rz x sd1
  | .bad => .bad
theorem map_view_fz : ∀ ds : List D, (ds.map OT.fz).map OT.view = ds
  | [] => rfl
  | d :: ds => by rw [List.map_cons, List.map_cons, OT.view, map_view_fz ds]
theorem all_fz : ∀ ds : List D, (ds.map OT.fz).all (fun t => match t with | .fz _ => true | _ => false) = true
  | [] => rfl
  | d :: ds => by rw [List.map_cons, List.all_cons, all_fz ds]; rfl
section
variable {X : Cx} {pv : List V} {W : WX} {p q k l : Bool} {e a b : Expr} {es : List Expr}
theorem tr_call0 {sp : Sp} {n : Nat} {f : List OT → ER OT} {ta : TA} {m : SD → ER (List D)} (hsp : sp = spD X.K n f) (hn : ∀ sd ds sd1, m sd = .ok ds sd1 → ds.length = n) (h : TrA X.K pv W p true ta m) :
    TrO X.K pv W p (fun σ H Q => ta σ H fun vs H1 => sp vs H1 Q (WE W σ)) (mCall0 f m) := by
  intro G F sd σ H Q s
  subst hsp
  have z := h G F sd σ H (fun vs H1 => spD X.K n f vs H1 Q (WE W σ)) s
  unfold mCall0
  have hn := hn sd
  revert z hn
  cases m sd with
  | bad => exact fun _ _ => True.intro
  | rz x sd1 => exact fun z _ => z
  | ok ds sd1 =>
    intro z hn
    have hn := hn ds sd1 rfl
    show Meets X.K pv W G σ (RSo X.K pv) p sd F H (match f (ds.map .fz) with
      | .ok t _ => .ok t sd1
      | .rz x _ => .rz x sd1
      | .bad => .bad) Q _
    cases e : f (ds.map .fz) with
    | bad => exact True.intro
    | rz x s' =>
      intro hW
      refine z fun vs F1 H1 s1 s2 s3 s4 => ?_
      have s3 : Reps X.K F1 vs ds := s3
      obtain ⟨G', g1, g2, g3⟩ := s2.give (ts := ds.map .fz) (vs := vs) ⟨by rw [map_view_fz]; exact s3, all_fz ds⟩
      refine ⟨by rw [s3.length, hn], G', F1, ds.map .fz, by rw [List.length_map, hn], g1, ?_⟩
      rw [e]
      intro cls dd F2 H2 t1 t2 t3
      obtain ⟨u1, u2⟩ := g3 F2 H2 s' t1 t2
      exact hW cls dd F2 H2 (s1.trans t1) u1 t3
    | ok t s' =>
      intro hQ
      refine z fun vs F1 H1 s1 s2 s3 s4 => ?_
      have s3 : Reps X.K F1 vs ds := s3
      obtain ⟨G', g1, g2, g3⟩ := s2.give (ts := ds.map .fz) (vs := vs) ⟨by rw [map_view_fz]; exact s3, all_fz ds⟩
      refine ⟨by rw [s3.length, hn], G', F1, ds.map .fz, by rw [List.length_map, hn], g1, ?_⟩
      rw [e]
      intro v F2 H2 t1 t2
      obtain ⟨u1, u2⟩ := g2 F2 H2 v t s' t1 t2
      refine hQ v F2 H2 (s1.trans t1) u1.drop u1 fun hp => ?_
      obtain ⟨a1, a2⟩ := s4 hp
      exact ⟨a1.trans u2, a2⟩
/-- how many arguments there are -/
theorem len_nil : ∀ sd ds sd1, mNil sd = .ok ds sd1 → ds.length = 0 := fun sd ds sd1 h => by cases h; rfl
theorem len_cons {ma : SD → ER D} {mr : SD → ER (List D)} {n : Nat} (h : ∀ sd ds sd1, mr sd = .ok ds sd1 → ds.length = n) : ∀ sd ds sd1, mCons ma mr sd = .ok ds sd1 → ds.length = n + 1 := fun sd ds sd1 e => by
  unfold mCons at e
  cases e1 : ma sd with
  | bad => rw [e1] at e; cases e
  | rz x s => rw [e1] at e; cases e
  | ok d s =>
    rw [e1] at e
    have e : (mr s).bind (fun xs sd2 => ER.ok (d :: xs) sd2) = .ok ds sd1 := e
    cases e2 : mr s with
    | bad => rw [e2] at e; cases e
    | rz x s2 => rw [e2] at e; cases e
    | ok ys s2 =>
      rw [e2] at e
      cases e
      rw [List.length_cons, h s ys _ e2]
theorem do_call0 {n j : Nat} {f : Addr} {fd : FuncData} {ps : List Str} {x : Str} {pp pos : Pos} {g : List OT → ER OT} {m : SD → ER (List D)} (F : FnG X.prog X.w X.K X.mg X.base (L2.CX X.prog X.w) j f fd ps (spD X.K n g)) (hr : RoomG j X.A) (hg : Gl X x)
    (hm : X.mg x = some (.ref f)) (hk : PySem.W.keepIn X.K (.ref f) = true) (hb : Binds X.K fd ps []) (tk : Takes X W) (ha : DA X pv W p true (e :: es) m) (hn : ∀ sd ds sd1, m sd = .ok ds sd1 → ds.length = n)
    (hdb : (x == ("__debug__" : Str)) = false := by decide) (he : starEach (e :: es) X.env = (false, eval e X.env) :: starEach es X.env := by rfl) (hpl : (backTo pos (starEach es X.env)).any (·.1) = false := by rfl) :
    DO X pv W p (.Call (.Name x pp) (e :: es) [] pos) (mCall0 g m) := by
  obtain ⟨ta, a1, a2⟩ := ha
  exact ⟨_, pe_callG F hr hg hm hk hb tk a1 hdb he hpl, tr_call0 rfl hn a2⟩
end

/-! ### statements -/
inductive Fl where
  | nx (sd : SD)
  | rt (t : OT) (sd : SD)
  | bk (sd : SD)
  | ct (sd : SD)
  | rz (x : Exn) (sd : SD)
  | bad
def ER.stm {α : Type} (r : ER α) (f : α → SD → Fl) : Fl :=
  match r with
  | .ok a sd => f a sd
  | .rz x sd => .rz x sd
  | .bad => .bad
theorem ER.stm_ok {α : Type} {a : α} {sd : SD} {f : α → SD → Fl} : (ER.ok a sd).stm f = f a sd := rfl
def Fl.seq (r : Fl) (f : SD → Fl) : Fl :=
  match r with
  | .nx sd => f sd
  | r => r
def MeetsS (K : PySem.W.Frag) (pv : List V) (W : WX) (G : Hp) (F : Hp) (r : Fl) (D : Ends) (P : Prop) : Prop :=
  match r with
  | .nx sd' => (∀ F' σ' H', Same F F' → StR K pv G F' sd' σ' H' → D.nx σ' H') → P
  | .rt t sd' => (∀ v F' σ' H', Same F F' → StR1 K pv G F' sd' σ' H' v t → D.rt v H') → P
  | .bk sd' => (∀ F' σ' H', Same F F' → StR K pv G F' sd' σ' H' → D.bk σ' H') → P
  | .ct sd' => (∀ F' σ' H', Same F F' → StR K pv G F' sd' σ' H' → D.ct σ' H') → P
  | .rz x sd' => (∀ cls dd F' σ' H', Same F F' → StR K pv G F' sd' σ' H' → RepX K F' cls dd x → W cls dd σ' H') → P
  | .bad => True
def TrS (K : PySem.W.Frag) (pv : List V) (W : WX) (ts : TS) (m : SD → Fl) : Prop := ∀ G F sd σ H D, StR K pv G F sd σ H → MeetsS K pv W G F (m sd) D (ts D σ H)
structure DS (X : Cx) (pv : List V) (W : WX) (st : Stmt) (m : SD → Fl) : Prop where
  ex : ∃ ts, PS X st ts ∧ TrS X.K pv W ts m
structure DSs (X : Cx) (pv : List V) (W : WX) (st : List Stmt) (m : SD → Fl) : Prop where
  ex : ∃ ts, PSs X st ts ∧ TrS X.K pv W ts m
section
variable {α β : Type} {K : PySem.W.Frag} {pv : List V} {W : WX} {G F H : Hp} {σ : L2.St} {sd : SD} {p q : Bool}
theorem Meets.stm {RS : RSt β α} {r : ER α} {f : α → SD → Fl} {D : Ends} {k : β → Hp → Prop} {P : Prop} (h : Meets K pv W G σ RS p sd F H r k P)
    (g : ∀ v F1 H1 a sd1, Same F F1 → StR K pv G F1 sd1 σ H1 → RS G F1 sd1 H1 σ v a → MeetsS K pv W G F1 (f a sd1) D (k v H1)) : MeetsS K pv W G F (r.stm f) D P := by
  cases r with
  | bad => exact True.intro
  | rz x sd' => exact fun hW => h fun cls dd F1 H1 s1 s2 s3 => hW cls dd F1 σ H1 s1 s2 s3
  | ok a sd1 =>
    show MeetsS K pv W G F (f a sd1) D P
    have h' : (∀ v F' H', Same F F' → StR K pv G F' sd1 σ H' → RS G F' sd1 H' σ v a → (p = true → Same H H' ∧ sd1 = sd) → k v H') → P := h
    have g' := fun v F1 H1 s1 s2 s3 => g v F1 H1 a sd1 s1 s2 s3
    revert g'
    cases f a sd1 with
    | bad => exact fun _ => True.intro
    | rz x sd2 => exact fun g' hW => h' fun v F1 H1 s1 s2 s3 s4 => g' v F1 H1 s1 s2 s3 fun cls dd F2 σ2 H2 t1 t2 t3 => hW cls dd F2 σ2 H2 (s1.trans t1) t2 t3
    | nx sd2 => exact fun g' hQ => h' fun v F1 H1 s1 s2 s3 s4 => g' v F1 H1 s1 s2 s3 fun F2 σ2 H2 t1 t2 => hQ F2 σ2 H2 (s1.trans t1) t2
    | bk sd2 => exact fun g' hQ => h' fun v F1 H1 s1 s2 s3 s4 => g' v F1 H1 s1 s2 s3 fun F2 σ2 H2 t1 t2 => hQ F2 σ2 H2 (s1.trans t1) t2
    | ct sd2 => exact fun g' hQ => h' fun v F1 H1 s1 s2 s3 s4 => g' v F1 H1 s1 s2 s3 fun F2 σ2 H2 t1 t2 => hQ F2 σ2 H2 (s1.trans t1) t2
    | rt t sd2 => exact fun g' hQ => h' fun v F1 H1 s1 s2 s3 s4 => g' v F1 H1 s1 s2 s3 fun v2 F2 σ2 H2 t1 t2 => hQ v2 F2 σ2 H2 (s1.trans t1) t2
theorem MeetsS.seq {r : Fl} {f : SD → Fl} {D : Ends} {N : L2.St → Hp → Prop} {P : Prop} (h : MeetsS K pv W G F r { D with nx := N } P)
    (g : ∀ F1 σ1 H1 sd1, Same F F1 → StR K pv G F1 sd1 σ1 H1 → MeetsS K pv W G F1 (f sd1) D (N σ1 H1)) : MeetsS K pv W G F (r.seq f) D P := by
  cases r with
  | bad => exact True.intro
  | rz x sd' => exact h
  | bk sd' => exact h
  | ct sd' => exact h
  | rt t sd' => exact h
  | nx sd1 =>
    show MeetsS K pv W G F (f sd1) D P
    have h' : (∀ F' σ' H', Same F F' → StR K pv G F' sd1 σ' H' → N σ' H') → P := h
    have g' := fun F1 σ1 H1 s1 s2 => g F1 σ1 H1 sd1 s1 s2
    revert g'
    cases f sd1 with
    | bad => exact fun _ => True.intro
    | rz x sd2 => exact fun g' hW => h' fun F1 σ1 H1 s1 s2 => g' F1 σ1 H1 s1 s2 fun cls dd F2 σ2 H2 t1 t2 t3 => hW cls dd F2 σ2 H2 (s1.trans t1) t2 t3
    | nx sd2 => exact fun g' hQ => h' fun F1 σ1 H1 s1 s2 => g' F1 σ1 H1 s1 s2 fun F2 σ2 H2 t1 t2 => hQ F2 σ2 H2 (s1.trans t1) t2
    | bk sd2 => exact fun g' hQ => h' fun F1 σ1 H1 s1 s2 => g' F1 σ1 H1 s1 s2 fun F2 σ2 H2 t1 t2 => hQ F2 σ2 H2 (s1.trans t1) t2
    | ct sd2 => exact fun g' hQ => h' fun F1 σ1 H1 s1 s2 => g' F1 σ1 H1 s1 s2 fun F2 σ2 H2 t1 t2 => hQ F2 σ2 H2 (s1.trans t1) t2
    | rt t sd2 => exact fun g' hQ => h' fun F1 σ1 H1 s1 s2 => g' F1 σ1 H1 s1 s2 fun v2 F2 σ2 H2 t1 t2 => hQ v2 F2 σ2 H2 (s1.trans t1) t2
theorem MeetsS.imp {r : Fl} {D : Ends} {P P' : Prop} (h : MeetsS K pv W G F r D P) (hP : P → P') : MeetsS K pv W G F r D P' := by
  cases r with
  | bad => exact True.intro
  | rz x sd' => exact fun z => hP (h z)
  | bk sd' => exact fun z => hP (h z)
  | ct sd' => exact fun z => hP (h z)
  | rt t sd' => exact fun z => hP (h z)
  | nx sd' => exact fun z => hP (h z)
end

/-! ### the words of statements -/
def sNil : SD → Fl := .nx
def sSeq (a b : SD → Fl) : SD → Fl := fun sd => (a sd).seq b
def sSet (i : Nat) (m : SD → ER OT) : SD → Fl := fun sd => (m sd).stm fun t sd1 => if i < sd1.sl.length then .nx { sd1 with sl := sd1.sl.set i (.ow t) } else .bad
def sRet (m : SD → ER OT) : SD → Fl := fun sd => (m sd).stm fun t sd1 => .rt t sd1
def sIf (c : SD → ER Bool) (a b : SD → Fl) : SD → Fl := fun sd => (c sd).stm fun x sd1 => if x = true then a sd1 else b sd1
def sDrop (m : SD → ER D) : SD → Fl := fun sd => (m sd).stm fun _ sd1 => .nx sd1
def sNever : SD → Fl := fun _ => .bad
def sBreak : SD → Fl := .bk
def sCont : SD → Fl := .ct
section
variable {X : Cx} {pv : List V} {W : WX} {p q k l : Bool} {e a b : Expr} {es : List Expr} {pos : Pos}
theorem dss_nil : DSs X pv W [] sNil := ⟨_, pss_nil, fun G F sd σ H D s hQ => hQ F σ H (Same.refl _) s⟩
theorem tr_seq {t u : TS} {ma mb : SD → Fl} (h1 : TrS X.K pv W t ma) (h2 : TrS X.K pv W u mb) : TrS X.K pv W (tSeq t u) (sSeq ma mb) := fun G F sd σ H D s =>
  MeetsS.seq (N := u D) (h1 G F sd σ H { D with nx := u D } s) fun F1 σ1 H1 sd1 s1 s2 => h2 G F1 sd1 σ1 H1 D s2
theorem dss_cons {st : Stmt} {rest : List Stmt} {ma mb : SD → Fl} (h1 : DS X pv W st ma) (h2 : DSs X pv W rest mb) : DSs X pv W (st :: rest) (sSeq ma mb) := by
  obtain ⟨t, a1, a2⟩ := h1
  obtain ⟨u, b1, b2⟩ := h2
  exact ⟨_, pss_cons a1 b1, tr_seq a2 b2⟩
theorem dss_one {st : Stmt} {ma : SD → Fl} (h1 : DS X pv W st ma) : DSs X pv W [st] ma := by
  obtain ⟨t, a1, a2⟩ := h1
  exact ⟨_, pss_one a1, a2⟩
theorem ds_never {st : Stmt} : DS X pv W st sNever := ⟨_, ps_never, fun G F sd σ H D s => True.intro⟩
theorem dss_never {st : List Stmt} : DSs X pv W st sNever := ⟨_, pss_never, fun G F sd σ H D s => True.intro⟩
theorem ds_pass : DS X pv W (.Pass pos) sNil := ⟨_, ps_pass, fun G F sd σ H D s hQ => hQ F σ H (Same.refl _) s⟩
theorem ds_break : DS X pv W (.Break pos) sBreak := ⟨_, ps_break, fun G F sd σ H D s hQ => hQ F σ H (Same.refl _) s⟩
theorem ds_cont : DS X pv W (.Continue pos) sCont := ⟨_, ps_continue, fun G F sd σ H D s hQ => hQ F σ H (Same.refl _) s⟩
theorem tr_set {te : TE} {i : Nat} {m : SD → ER OT} (h : TrO X.K pv W p te m) : TrS X.K pv W (tAsg te (gName i)) (sSet i m) := by
  intro G F sd σ H D s
  refine Meets.stm (h G F sd σ H _ s) fun v F1 H1 t sd1 s1 s2 s3 => ?_
  split
  · rename_i hi
    exact fun hQ => hQ F1 _ H1 (Same.refl _) (StR1.store s3 hi)
  · exact True.intro
theorem ds_set {i : Nat} {x : Str} {pos' : Pos} {m : SD → ER OT} (hN : X.N.Nodup) (hi : X.N[i]? = some x) (hx : Loc X.env.scope x) (he : DO X pv W p e m) (hs : swapsWith e (some (.Name x pos')) pos.line X.env = pure false := by rfl)
    (hf : X.fn x = true ∨ X.env.scope.names.lookup x = some .local := by first | exact .inl rfl | exact .inr rfl | assumption) : DS X pv W (.Assign [.Name x pos'] e pos) (sSet i m) := by
  obtain ⟨te, a1, a2⟩ := he
  exact ⟨_, ps_set hN hi hx a1 hs hf, tr_set a2⟩
theorem ds_ret {m : SD → ER OT} (he : DO X pv W p e m) : DS X pv W (.Return (some e) pos) (sRet m) := by
  obtain ⟨te, a1, a2⟩ := he
  refine ⟨_, ps_ret a1, fun G F sd σ H D s => ?_⟩
  exact Meets.stm (a2 G F sd σ H D.rt s) fun v F1 H1 t sd1 s1 s2 s3 hQ => hQ v F1 σ H1 (Same.refl _) s3
theorem ds_retN : DS X pv W (.Return none pos) (sRet (mOwn (mC .non))) := by
  refine ⟨_, ps_retN, fun G F sd σ H D s hQ => ?_⟩
  exact hQ .non F σ H (Same.refl _) (StR1.fz s .non)
theorem ds_if {c : Expr} {sa sb : List Stmt} {mc : SD → ER Bool} {ma mb : SD → Fl} (hc : DT X pv W p c mc) (ha : DSs X pv W sa ma) (hb : DSs X pv W sb mb) : DS X pv W (.If c sa sb pos) (sIf mc ma mb) := by
  obtain ⟨tc, c1, c2⟩ := hc
  obtain ⟨t, a1, a2⟩ := ha
  obtain ⟨u, b1, b2⟩ := hb
  refine ⟨_, ps_if c1 a1 b1, fun G F sd σ H D s => ?_⟩
  refine Meets.stm (c2 G F sd σ H _ s) fun x F1 H1 dx sd1 s1 s2 s3 => ?_
  have s3 : x = dx := s3
  subst s3
  cases x with
  | true => exact a2 G F1 sd1 σ H1 D s2
  | false => exact b2 G F1 sd1 σ H1 D s2
theorem ds_expr {m : SD → ER D} (he : DX X pv W p k e m) (hs : swapsWith e none pos.line X.env = pure false := by rfl) : DS X pv W (.Expr e pos) (sDrop m) := by
  obtain ⟨te, a1, a2⟩ := he
  refine ⟨_, ps_expr a1 hs, fun G F sd σ H D s => ?_⟩
  exact Meets.stm (a2 G F sd σ H _ s) fun v F1 H1 d sd1 s1 s2 s3 hQ => hQ F1 σ H1 (Same.refl _) s2
end

/-! ### a def by its mirror -/
/-- the slots at the entry: a parameter that is handed over as a tree is the caller's -/
def slotsOf : Nat → List OT → List S
  | _, [] => []
  | j, .fz d :: ts => .ow (.fz d) :: slotsOf (j + 1) ts
  | j, _ :: ts => .pa j :: slotsOf (j + 1) ts
theorem slotsOf_length : ∀ (j : Nat) (ts : List OT), (slotsOf j ts).length = ts.length
  | _, [] => rfl
  | j, .fz d :: ts => by rw [slotsOf, List.length_cons, List.length_cons, slotsOf_length]
  | j, .ol _ :: ts => by rw [slotsOf, List.length_cons, List.length_cons, slotsOf_length] <;> exact fun _ h => nomatch h
  | j, .od _ _ _ :: ts => by rw [slotsOf, List.length_cons, List.length_cons, slotsOf_length] <;> exact fun _ h => nomatch h
  | j, .oi _ _ _ :: ts => by rw [slotsOf, List.length_cons, List.length_cons, slotsOf_length] <;> exact fun _ h => nomatch h
theorem slotsOf_get : ∀ (j : Nat) (ts : List OT) (i : Nat) (t : OT), ts[i]? = some t → (slotsOf j ts)[i]? = some (match t with | .fz d => .ow (.fz d) | _ => .pa (j + i))
  | j, [], i, t, h => by simp at h
  | j, .fz d :: ts, 0, t, h => by simp at h; subst h; rw [slotsOf]; rfl
  | j, .ol _ :: ts, 0, t, h => by simp at h; subst h; rw [slotsOf]; rfl; exact fun _ h => nomatch h
  | j, .od _ _ _ :: ts, 0, t, h => by simp at h; subst h; rw [slotsOf]; rfl; exact fun _ h => nomatch h
  | j, .oi _ _ _ :: ts, 0, t, h => by simp at h; subst h; rw [slotsOf]; rfl; exact fun _ h => nomatch h
  | j, .fz d :: ts, i + 1, t, h => by
    rw [slotsOf]
    have z := slotsOf_get (j + 1) ts i t (by simpa using h)
    rw [List.getElem?_cons_succ, z, Nat.add_right_comm, Nat.add_assoc]
  | j, .ol _ :: ts, i + 1, t, h => by
    rw [slotsOf]
    · have z := slotsOf_get (j + 1) ts i t (by simpa using h)
      rw [List.getElem?_cons_succ, z, Nat.add_right_comm, Nat.add_assoc]
    · exact fun _ h => nomatch h
  | j, .od _ _ _ :: ts, i + 1, t, h => by
    rw [slotsOf]
    · have z := slotsOf_get (j + 1) ts i t (by simpa using h)
      rw [List.getElem?_cons_succ, z, Nat.add_right_comm, Nat.add_assoc]
    · exact fun _ h => nomatch h
  | j, .oi _ _ _ :: ts, i + 1, t, h => by
    rw [slotsOf]
    · have z := slotsOf_get (j + 1) ts i t (by simpa using h)
      rw [List.getElem?_cons_succ, z, Nat.add_right_comm, Nat.add_assoc]
    · exact fun _ h => nomatch h
/-- the state at a def's entry; n: the names of the def -/
def entry (n : Nat) (ts : List OT) : SD := ⟨slotsOf 0 ts ++ List.replicate (n - ts.length) .un, ts⟩
/-- a body as a def's mirror -/
def asDef (n : Nat) (body : SD → Fl) : List OT → ER OT := fun ts => match body (entry n ts) with
  | .rt t sd => .ok t ⟨[], sd.pa⟩
  | .nx sd => .ok (.fz .non) ⟨[], sd.pa⟩
  | .rz x sd => .rz x ⟨[], sd.pa⟩
  | _ => .bad
section
variable {K : PySem.W.Frag} {pv : List V} {G F H : Hp} {sd : SD} {σ : L2.St}
theorem StR.bare (s : StR K pv G F sd σ H) : StR K pv G F ⟨[], sd.pa⟩ [] H := by
  obtain ⟨o, W⟩ := s
  exact ⟨o, W.fh, W.gh, W.fg, W.oh, W.oo, rfl, fun i t e => by simp at e, fun i j e => by simp at e, W.pr⟩
theorem StR1.bare {v : V} {t : OT} (s : StR1 K pv G F sd σ H v t) : StR1 K pv G F ⟨[], sd.pa⟩ [] H v t := by
  obtain ⟨o, P, W, r⟩ := s
  exact ⟨o, P, ⟨W.fh, W.gh, W.fg, W.oh, W.oo, rfl, fun i t e => by simp at e, fun i j e => by simp at e, W.pr⟩, r⟩
theorem StR.enter {ts : List OT} {vs : List V} {N : List Str} (s : StR K vs G F ⟨[], ts⟩ [] H) (hl : vs.length = ts.length) (hN : ts.length ≤ N.length) : StR K vs G F (entry N.length ts) (L2.start N vs) H := by
  obtain ⟨o, W⟩ := s
  have at1 : ∀ (i : Nat) (S1 : S), (entry N.length ts).sl[i]? = some S1 → S1 ≠ .un → ∃ t v, ts[i]? = some t ∧ vs[i]? = some v ∧ (L2.start N vs)[i]? = some (some v) ∧ S1 = (match t with | .fz d => .ow (.fz d) | _ => .pa i) := fun i S1 e hu => by
    have e : (slotsOf 0 ts ++ List.replicate (N.length - ts.length) .un)[i]? = some S1 := e
    by_cases hi : i < ts.length
    · have h1 : ts[i]? = some ts[i] := by simp [hi]
      have z := slotsOf_get 0 ts i _ h1
      rw [List.getElem?_append_left (by rw [slotsOf_length]; exact hi), z] at e
      have hv : i < vs.length := by omega
      refine ⟨ts[i], vs[i], h1, by simp [hv], ?_, ?_⟩
      · unfold L2.start
        rw [List.getElem?_append_left (by simpa using hv), List.getElem?_map]
        simp [hv]
      · have e := Option.some.inj e
        rw [← e]
        cases ts[i] <;> simp
    · rw [List.getElem?_append_right (by rw [slotsOf_length]; omega), List.getElem?_replicate] at e
      split at e
      · exact absurd (Option.some.inj e).symm hu
      · cases e
  refine ⟨fun i a => match i with | .inl _ => False | .inr j => o (.inr j) a, W.fh, W.gh, W.fg, fun i a q => ?_, fun i j a q q' => ?_, ?_, fun i t e => ?_, fun i j e => ?_, fun j t e => ?_⟩
  · cases i with
    | inl _ => exact q.elim
    | inr j => exact W.oh (.inr j) a q
  · cases i with
    | inl _ => exact q.elim
    | inr i =>
      cases j with
      | inl _ => exact q'.elim
      | inr j => exact W.oo _ _ a q q'
  · unfold L2.start entry
    rw [List.length_append, List.length_append, List.length_map, List.length_replicate, List.length_replicate, slotsOf_length, hl]
  · obtain ⟨t', v, h1, h2, h3, h4⟩ := at1 i _ e (by intro z; cases z)
    cases t' with
    | fz d =>
      have h4 : S.ow t = .ow (.fz d) := h4
      cases h4
      obtain ⟨v', q1, q2⟩ := W.pr i _ h1
      rw [h2] at q1; cases q1
      refine ⟨v, h3, ?_⟩
      unfold RepO at q2 ⊢
      exact q2
    | ol _ => cases h4
    | od _ _ _ => cases h4
    | oi _ _ _ => cases h4
  · obtain ⟨t', v, h1, h2, h3, h4⟩ := at1 i _ e (by intro z; cases z)
    cases t' with
    | fz d => cases h4
    | ol _ =>
      cases h4; exact ⟨v, h2, h3⟩
    | od _ _ _ =>
      cases h4; exact ⟨v, h2, h3⟩
    | oi _ _ _ =>
      cases h4; exact ⟨v, h2, h3⟩
  · exact W.pr j t e
end
/-- THE RULE for a def -/
theorem fn_mirror {P : Program} {w : World} {K : PySem.W.Frag} {mg : Str → Option Value} {base : Heap} {x qual : Str} {st : Stmt} {f : Addr} {fd : FuncData} {N ps : List Str} {k : Nat} {body : SD → Fl} (F : Fun K x qual st f fd) (S : FnScope N ps (defScope st))
    (h : ∀ (X : Cx) (pv : List V) (W : WX) (cdv : Value) (A : Around) (outer : List Env) (s : Shared) (H : Hp) (E : XK), X = cxOf (L2.CX P w) P w K mg base N qual (defScope st) f cdv A outer s H E → Takes X W → RoomG k X.A → DSs X pv W (defBody st) body) :
    FnG P w K mg base (L2.CX P w) (k + 1) f fd ps (spD K ps.length (asDef N.length body)) := by
  refine fun_okG F S (fun vs H Q E hs => hs.1) fun cdv A outer s H vs Q E hr hs => ?_
  obtain ⟨hl, G, Fz, ts, htl, hst, hm⟩ := hs
  obtain ⟨t, h1, h2⟩ := h _ vs (fun cls d _ H => E cls d H) cdv A outer s H E rfl (takes_of rfl rfl rfl rfl) hr
  refine ⟨t, h1, ?_⟩
  have hpl : ps.length ≤ N.length := by have := congrArg List.length S.pre; rw [List.length_take] at this; omega
  have z := h2 G Fz (entry N.length ts) (L2.start N vs) H { nx := fun _ H' => Q .non H', rt := Q } (hst.enter (by omega) (by omega))
  unfold asDef at hm
  revert z hm
  cases body (entry N.length ts) with
  | bad => exact fun hm _ => hm.elim
  | bk sd' => exact fun hm _ => hm.elim
  | ct sd' => exact fun hm _ => hm.elim
  | nx sd' => exact fun hm z => z fun F' σ' H' s1 s2 => hm .non F' H' s1 (StR1.fz s2.bare .non)
  | rt t sd' => exact fun hm z => z fun v F' σ' H' s1 s2 => hm v F' H' s1 s2.bare
  | rz e sd' => exact fun hm z => z fun cls dd F' σ' H' s1 s2 s3 => hm cls dd F' H' s1 s2.bare s3
end DL

/-! DL3: operators, built-in functions, subscripts, slices. -/
namespace DL
open PySem PySem.Spec L2
open PyProof.Rows (floordiv_int mod_int' pow_int)

/-! ### arithmetic -/
def dAdd : D → D → Option D
  | .int i, .int j => some (.int (i + j))
  | .str x, .str y => if x.length + y.length ≤ 16777216 then some (.str (x ++ y)) else none
  | _, _ => none
def dSub : D → D → Option D
  | .int i, .int j => some (.int (i - j))
  | _, _ => none
def dMul : D → D → Option D
  | .int i, .int j => if i.natAbs.log2 + j.natAbs.log2 < 1000000 then some (.int (i * j)) else none
  | _, _ => none
def dDiv : D → D → Option D
  | .int i, .int j => if j ≠ 0 ∧ j.natAbs.log2 < 9000 then some (.int (i.fdiv j)) else none
  | _, _ => none
def dMod : D → D → Option D
  | .int i, .int j => if j ≠ 0 then some (.int (i.fmod j)) else none
  | _, _ => none
def dPow : D → D → Option D
  | .int i, .int j => if 0 ≤ j ∧ (Builtin.Int.intBits i : Int) * j ≤ 134217728 then some (.int (i ^ j.toNat)) else none
  | _, _ => none
def dNeg : D → Option D
  | .int i => some (.int (-i))
  | _ => none
def dLt : D → D → Option D
  | .int i, .int j => some (.bl (decide (i < j)))
  | .str x, .str y => some (.bl (decide (x.cps.toList < y.cps.toList)))
  | _, _ => none
def dLe : D → D → Option D
  | .int i, .int j => some (.bl (decide (i ≤ j)))
  | _, _ => none
def dGt : D → D → Option D
  | .int i, .int j => some (.bl (decide (j < i)))
  | _, _ => none
def dGe : D → D → Option D
  | .int i, .int j => some (.bl (decide (j ≤ i)))
  | _, _ => none
def isNonD : D → Bool
  | .non => true
  | _ => false
def dIsN : D → D → Option D
  | a, .non => some (.bl (isNonD a))
  | _, _ => none
def dNotN : D → D → Option D
  | a, .non => some (.bl (!isNonD a))
  | _, _ => none

section
variable {X : Cx}
def rDiv : R2 := rI (fun _ j => j ≠ 0 ∧ j.natAbs.log2 < 9000) fun i j => .int (i.fdiv j)
theorem op_divX : OpR X (binaryOp .FloorDiv) rDiv := opI fun _ _ _ _ _ _ _ hc q => floordiv_int hc.1 q (.inl (PyProof.noPylong_of_log2 hc.2))
def rPow : R2 := rI (fun i j => 0 ≤ j ∧ (Builtin.Int.intBits i : Int) * j ≤ 134217728) fun i j => .int (i ^ j.toNat)
theorem op_powX : OpR X (binaryOp .Pow) rPow := opI fun _ _ _ _ _ _ _ hc q => pow_int hc.1 (by have := hc.2; simpa using this) q
def rAddX : R2 := fun x y H Q => (rI0 fun i j => .int (i + j)) x y H Q ∨ ∃ i j, x = .str i ∧ y = .str j ∧ i.length + j.length ≤ sizeLine ∧ Q (.str (i ++ j)) H
theorem op_addX : OpR X (binaryOp .Add) rAddX := op_add.or op_add_str
end
section
variable {K : PySem.W.Frag}
theorem f_add : Op2S K rAddX dAdd := by
  intro H x y a b c ra rb h
  cases ra <;> cases rb <;> simp only [dAdd, reduceCtorEq, Option.some.injEq] at h
  · subst h
    exact ⟨_, rfl, fun Q q => .inl ⟨_, _, rfl, rfl, q⟩⟩
  · split at h
    · rename_i hl
      cases h
      exact ⟨_, rfl, fun Q q => .inr ⟨_, _, rfl, rfl, by rw [sizeLine_eq]; exact hl, q⟩⟩
    · cases h
theorem f_sub : Op2S K (rI0 fun i j => .int (i - j)) dSub := by
  intro H x y a b c ra rb h
  cases ra <;> cases rb <;> simp only [dSub, reduceCtorEq, Option.some.injEq] at h
  subst h
  exact ⟨_, rfl, fun Q q => ⟨_, _, rfl, rfl, q⟩⟩
theorem f_mul : Op2S K (rI CMulW fun i j => .int (i * j)) dMul := by
  intro H x y a b c ra rb h
  cases ra <;> cases rb <;> simp only [dMul, reduceCtorEq] at h
  split at h
  · rename_i hl
    cases h
    exact ⟨_, rfl, fun Q q => ⟨_, _, rfl, rfl, hl, q⟩⟩
  · cases h
theorem f_div : Op2S K rDiv dDiv := by
  intro H x y a b c ra rb h
  cases ra <;> cases rb <;> simp only [dDiv, reduceCtorEq] at h
  split at h
  · rename_i hl
    cases h
    exact ⟨_, rfl, fun Q q => ⟨_, _, rfl, rfl, hl, q⟩⟩
  · cases h
theorem f_mod : Op2S K (rI (fun _ j => j ≠ 0) fun i j => .int (i.fmod j)) dMod := by
  intro H x y a b c ra rb h
  cases ra <;> cases rb <;> simp only [dMod, reduceCtorEq] at h
  split at h
  · rename_i hl
    cases h
    exact ⟨_, rfl, fun Q q => ⟨_, _, rfl, rfl, hl, q⟩⟩
  · cases h
theorem f_pow : Op2S K rPow dPow := by
  intro H x y a b c ra rb h
  cases ra <;> cases rb <;> simp only [dPow, reduceCtorEq] at h
  split at h
  · rename_i hl
    cases h
    exact ⟨_, rfl, fun Q q => ⟨_, _, rfl, rfl, hl, q⟩⟩
  · cases h
def rLtX : R2 := fun x y H Q => (rI0 fun i j => .bl (decide (i < j))) x y H Q ∨ ∃ i j, x = .str i ∧ y = .str j ∧ Q (.bl (decide (i.cps.toList < j.cps.toList))) H
theorem op_ltX {X : Cx} : OpR X (compareOp .Lt) rLtX := op_lt.or op_lt_str
theorem f_lt : Op2S K rLtX dLt := by
  intro H x y a b c ra rb h
  cases ra <;> cases rb <;> simp only [dLt, reduceCtorEq, Option.some.injEq] at h
  · subst h
    exact ⟨_, rfl, fun Q q => .inl ⟨_, _, rfl, rfl, q⟩⟩
  · subst h
    exact ⟨_, rfl, fun Q q => .inr ⟨_, _, rfl, rfl, q⟩⟩
theorem f_le : Op2S K (rI0 fun i j => .bl (decide (i ≤ j))) dLe := by
  intro H x y a b c ra rb h
  cases ra <;> cases rb <;> simp only [dLe, reduceCtorEq, Option.some.injEq] at h
  subst h
  exact ⟨_, rfl, fun Q q => ⟨_, _, rfl, rfl, q⟩⟩
theorem f_gt : Op2S K (rI0 fun i j => .bl (decide (j < i))) dGt := by
  intro H x y a b c ra rb h
  cases ra <;> cases rb <;> simp only [dGt, reduceCtorEq, Option.some.injEq] at h
  subst h
  exact ⟨_, rfl, fun Q q => ⟨_, _, rfl, rfl, q⟩⟩
theorem f_ge : Op2S K (rI0 fun i j => .bl (decide (j ≤ i))) dGe := by
  intro H x y a b c ra rb h
  cases ra <;> cases rb <;> simp only [dGe, reduceCtorEq, Option.some.injEq] at h
  subst h
  exact ⟨_, rfl, fun Q q => ⟨_, _, rfl, rfl, q⟩⟩
theorem rep_non {F : Hp} {x : V} {a : D} (r : Rep K F x a) : decide (x = .non) = isNonD a := by
  cases r <;> rfl
theorem f_isN : Op2S K (fun x y H Q => y = .non ∧ Q (.bl (decide (x = .non))) H) dIsN := by
  intro H x y a b c ra rb h
  cases rb <;> simp only [dIsN, reduceCtorEq, Option.some.injEq] at h
  subst h
  exact ⟨_, rfl, fun Q q => ⟨rfl, by rw [rep_non ra]; exact q⟩⟩
theorem f_notN : Op2S K (fun x y H Q => y = .non ∧ Q (.bl (!decide (x = .non))) H) dNotN := by
  intro H x y a b c ra rb h
  cases rb <;> simp only [dNotN, reduceCtorEq, Option.some.injEq] at h
  subst h
  exact ⟨_, rfl, fun Q q => ⟨rfl, by rw [rep_non ra]; exact q⟩⟩
end

/-! ### == of data -/
mutual
def D.py : D → Option PyData
  | .non => some .none
  | .bl b => some (.bool b)
  | .int i => some (.int i)
  | .str x => some (.str x)
  | .tup xs => (D.pys xs).map .tuple
  | .ktu xs => (D.pys xs).map .tuple
  | .lst xs => (D.pys xs).map .list
  | _ => none
def D.pys : List D → Option (List PyData)
  | [] => some []
  | d :: ds => d.py.bind fun p => (D.pys ds).map (p :: ·)
end
section
variable {K : PySem.W.Frag} {F : Hp}
mutual
theorem Rep.dp : ∀ {v : V} {d : D} {p : PyData}, Rep K F v d → d.py = some p → Dp K F v p
  | _, _, _, .non, h => by rw [D.py] at h; cases h; exact .non
  | _, _, _, .bl b, h => by rw [D.py] at h; cases h; exact .bl b
  | _, _, _, .int i, h => by rw [D.py] at h; cases h; exact .int i
  | _, _, _, .str x, h => by rw [D.py] at h; cases h; exact .str x
  | _, _, _, .ty n, h => by simp [D.py] at h
  | _, _, _, .cls C, h => by simp [D.py] at h
  | _, _, p, .tup (ds := ds) s r, h => by
    rw [D.py] at h
    cases e : D.pys ds with
    | none => rw [e] at h; cases h
    | some ps => rw [e] at h; cases h; exact .tup (.inl (.inl s)) (Reps.dp r e)
  | _, _, p, .ktu (ds := ds) s r, h => by
    rw [D.py] at h
    cases e : D.pys ds with
    | none => rw [e] at h; cases h
    | some ps => rw [e] at h; cases h; exact .tup s (Reps.dp r e)
  | _, _, p, .lst (ds := ds) s r, h => by
    rw [D.py] at h
    cases e : D.pys ds with
    | none => rw [e] at h; cases h
    | some ps => rw [e] at h; cases h; exact .lst (.inl s) (Reps.dp r e)
  | _, _, _, .scr _, h => by simp [D.py] at h
  | _, _, _, .dicK _ _, h => by simp [D.py] at h
  | _, _, _, .dicT _ _, h => by simp [D.py] at h
  | _, _, _, .ins _ _, h => by simp [D.py] at h
  | _, _, _, .exc _ _ _ _, h => by simp [D.py] at h
theorem Reps.dp : ∀ {vs : List V} {ds : List D} {ps : List PyData}, Reps K F vs ds → D.pys ds = some ps → DpAll K F vs ps
  | _, _, _, .nil, h => by rw [D.pys] at h; cases h; exact .nil
  | _, _, ps, .cons (d := d) (ds := ds) r1 r2, h => by
    rw [D.pys] at h
    cases e : d.py with
    | none => rw [e] at h; cases h
    | some p =>
      rw [e] at h
      cases e2 : D.pys ds with
      | none => rw [e2] at h; cases h
      | some qs => rw [e2] at h; cases h; exact .cons (Rep.dp r1 e) (Reps.dp r2 e2)
end
end
def dEqB (a b : D) : Option Bool := match a, b with
  | .int i, .int j => some (decide (i = j))
  | .str x, .str y => some (decide (x = y))
  | .bl x, .bl y => some (decide (x = y))
  | a, b => match a.py, b.py with
    | some p, some q => if (SeqAt.shaped p && SeqAt.shaped q) = true then some (PyData.eqv p q) else none
    | _, _ => none
def dEq (a b : D) : Option D := (dEqB a b).map .bl
def dNe (a b : D) : Option D := (dEqB a b).map fun c => .bl (!c)
def rEqX (K : PySem.W.Frag) : R2 := fun x y H Q => rEq x y H Q ∨ rEqD K x y H Q
def rNeX (K : PySem.W.Frag) : R2 := fun x y H Q => rNe x y H Q ∨ rNeD K x y H Q
theorem op_eqX {X : Cx} (hu : X.A.units + 64 < cLine) : OpR X (compareOp .Eq) (rEqX X.K) := op_eq.or (op_eqD hu)
theorem op_neX {X : Cx} (hu : X.A.units + 64 < cLine) : OpR X (compareOp .NotEq) (rNeX X.K) := op_ne.or (op_neD hu)
section
variable {K : PySem.W.Frag}
theorem eqB_of {H : Hp} {x y : V} {a b : D} {c : Bool} (ra : Rep K H x a) (rb : Rep K H y b) (h : dEqB a b = some c) :
    (scal x y = true ∧ decide (x = y) = c) ∨ ∃ d e, Dp K H x d ∧ Dp K H y e ∧ SeqAt.shaped d = true ∧ SeqAt.shaped e = true ∧ PyData.eqv d e = c := by
  have gen : (match a.py, b.py with
    | some p, some q => if (SeqAt.shaped p && SeqAt.shaped q) = true then some (PyData.eqv p q) else none
    | _, _ => none) = some c → (scal x y = true ∧ decide (x = y) = c) ∨ ∃ d e, Dp K H x d ∧ Dp K H y e ∧ SeqAt.shaped d = true ∧ SeqAt.shaped e = true ∧ PyData.eqv d e = c := fun h => by
    cases e1 : a.py with
    | none => rw [e1] at h; cases h
    | some p =>
      cases e2 : b.py with
      | none => rw [e1, e2] at h; cases h
      | some q =>
        rw [e1, e2] at h
        have h : (if (SeqAt.shaped p && SeqAt.shaped q) = true then some (PyData.eqv p q) else none) = some c := h
        split at h
        · rename_i hs
          rw [Bool.and_eq_true] at hs
          cases h
          exact .inr ⟨p, q, ra.dp e1, rb.dp e2, hs.1, hs.2, rfl⟩
        · cases h
  unfold dEqB at h
  split at h
  · cases ra; cases rb
    cases h
    exact .inl ⟨rfl, by simp⟩
  · cases ra; cases rb
    cases h
    exact .inl ⟨rfl, by simp⟩
  · cases ra; cases rb
    cases h
    exact .inl ⟨rfl, by simp⟩
  · exact gen h
theorem f_eq : Op2S K (rEqX K) dEq := by
  intro H x y a b c ra rb h
  unfold dEq at h
  cases e : dEqB a b with
  | none => rw [e] at h; cases h
  | some k =>
    rw [e] at h; cases h
    refine ⟨_, rfl, fun Q q => ?_⟩
    rcases eqB_of ra rb e with ⟨h1, h2⟩ | ⟨d, d2, h1, h2, h3, h4, h5⟩
    · subst h2; exact .inl ⟨h1, q⟩
    · subst h5; exact .inr ⟨d, d2, h1, h2, h3, h4, q⟩
theorem f_ne : Op2S K (rNeX K) dNe := by
  intro H x y a b c ra rb h
  unfold dNe at h
  cases e : dEqB a b with
  | none => rw [e] at h; cases h
  | some k =>
    rw [e] at h; cases h
    refine ⟨_, rfl, fun Q q => ?_⟩
    rcases eqB_of ra rb e with ⟨h1, h2⟩ | ⟨d, d2, h1, h2, h3, h4, h5⟩
    · subst h2; exact .inl ⟨h1, q⟩
    · subst h5; exact .inr ⟨d, d2, h1, h2, h3, h4, q⟩
end

/-! ### unary minus, and, or, not as values, chains -/
section
variable {X : Cx} {pv : List V} {W : WX} {p q k l : Bool} {e a b c : Expr} {es : List Expr} {pos : Pos}
theorem dx_neg {m : SD → ER D} (h : DX X pv W p k a m) : DX X pv W p true (.UnaryOp .USub a pos) (mUn dNeg m) := by
  obtain ⟨te, a1, a2⟩ := h
  refine ⟨_, pe_un un_neg a1, fun G F sd σ H Q s => ?_⟩
  have hp : p = (p && true) := by cases p <;> rfl
  rw [hp]
  refine Meets.bind (a2 G F sd σ H _ s) fun x F1 H1 dx sd1 s1 s2 s3 s4 => ?_
  have r := RSx.see s3 s2
  cases dx with
  | int i =>
    cases r
    exact Meets.here s2 (show RSx X.K true G F1 sd1 H1 σ (.int (-i)) (.int (-i)) from .int _) fun q => ⟨i, rfl, q⟩
  | _ => exact True.intro
/-- True or False -/
def mBool (a : SD → ER D) : SD → ER D := fun sd => (a sd).bind fun x sd1 => match x with
  | .bl b => .ok (.bl b) sd1
  | _ => .bad
def mAndV (a b : SD → ER D) : SD → ER D := fun sd => (a sd).bind fun x sd1 => match x with
  | .bl true => b sd1
  | .bl false => .ok (.bl false) sd1
  | _ => .bad
def mOrV (a b : SD → ER D) : SD → ER D := fun sd => (a sd).bind fun x sd1 => match x with
  | .bl true => .ok (.bl true) sd1
  | .bl false => b sd1
  | _ => .bad
def mNotV (a : SD → ER D) : SD → ER D := fun sd => (a sd).bind fun x sd1 => match x with
  | .bl b => .ok (.bl (!b)) sd1
  | _ => .bad
theorem dx_one {op : BoolOp} {m : SD → ER D} (h : DX X pv W p k a m) (hop : ∀ {te : TE}, PE X a te → PE X (.BoolOp op [a] pos) te) : DX X pv W p k (.BoolOp op [a] pos) m := by
  obtain ⟨te, a1, a2⟩ := h
  exact ⟨te, hop a1, a2⟩
theorem dx_and {ma mb : SD → ER D} (h : DX X pv W p k a ma) (h2 : DX X pv W q true (.BoolOp .And (b :: es) pos) mb) : DX X pv W (p && q) true (.BoolOp .And (a :: b :: es) pos) (mAndV ma mb) := by
  obtain ⟨te, a1, a2⟩ := h
  obtain ⟨tf, b1, b2⟩ := h2
  refine ⟨_, pe_and a1 b1, fun G F sd σ H Q s => ?_⟩
  refine Meets.bind (a2 G F sd σ H _ s) fun x F1 H1 dx sd1 s1 s2 s3 s4 => ?_
  have r := RSx.see s3 s2
  cases dx with
  | bl b =>
    cases r
    cases b with
    | true =>
      refine Meets.imp (f := id) (b2 G F1 sd1 σ H1 Q s2) (fun z => ⟨true, rfl, by rw [if_pos rfl]; exact z⟩) ?_ fun v F2 H2 a2 sd2 _ t1 t2 t3 t4 hQ => hQ v F2 H2 (Same.refl _) t2 t3 (Same.refl _)
      show mb sd1 = (mb sd1).bind fun a sd1 => .ok a sd1
      cases mb sd1 <;> rfl
    | false => exact Meets.here s2 (show RSx X.K true G F1 sd1 H1 σ (.bl false) (.bl false) from .bl _) fun q => ⟨false, rfl, by rw [if_neg (by decide)]; exact q⟩
  | _ => exact True.intro
theorem dx_or {ma mb : SD → ER D} (h : DX X pv W p k a ma) (h2 : DX X pv W q true (.BoolOp .Or (b :: es) pos) mb) : DX X pv W (p && q) true (.BoolOp .Or (a :: b :: es) pos) (mOrV ma mb) := by
  obtain ⟨te, a1, a2⟩ := h
  obtain ⟨tf, b1, b2⟩ := h2
  refine ⟨_, pe_or a1 b1, fun G F sd σ H Q s => ?_⟩
  refine Meets.bind (a2 G F sd σ H _ s) fun x F1 H1 dx sd1 s1 s2 s3 s4 => ?_
  have r := RSx.see s3 s2
  cases dx with
  | bl b =>
    cases r
    cases b with
    | false =>
      refine Meets.imp (f := id) (b2 G F1 sd1 σ H1 Q s2) (fun z => ⟨false, rfl, by rw [if_neg (by decide)]; exact z⟩) ?_ fun v F2 H2 a2 sd2 _ t1 t2 t3 t4 hQ => hQ v F2 H2 (Same.refl _) t2 t3 (Same.refl _)
      show mb sd1 = (mb sd1).bind fun a sd1 => .ok a sd1
      cases mb sd1 <;> rfl
    | true => exact Meets.here s2 (show RSx X.K true G F1 sd1 H1 σ (.bl true) (.bl true) from .bl _) fun q => ⟨true, rfl, by rw [if_pos rfl]; exact q⟩
  | _ => exact True.intro
theorem dx_and1 {m : SD → ER D} (h : DX X pv W p k a m) : DX X pv W p k (.BoolOp .And [a] pos) m := dx_one h fun z => pe_one z
theorem dx_or1 {m : SD → ER D} (h : DX X pv W p k a m) : DX X pv W p k (.BoolOp .Or [a] pos) m := dx_one h fun z => pe_one z
theorem dx_not {m : SD → ER D} (h : DX X pv W p k a m) : DX X pv W p true (.UnaryOp .Not a pos) (mNotV m) := by
  obtain ⟨te, a1, a2⟩ := h
  refine ⟨_, pe_not a1, fun G F sd σ H Q s => ?_⟩
  have hp : p = (p && true) := by cases p <;> rfl
  rw [hp]
  refine Meets.bind (a2 G F sd σ H _ s) fun x F1 H1 dx sd1 s1 s2 s3 s4 => ?_
  have r := RSx.see s3 s2
  cases dx with
  | bl b =>
    cases r
    exact Meets.here s2 (show RSx X.K true G F1 sd1 H1 σ (.bl (!b)) (.bl (!b)) from .bl _) fun q => ⟨b, rfl, q⟩
  | _ => exact True.intro
/-- a < b < c -/
def mChain (f g : D → D → Option D) (a b c : SD → ER D) : SD → ER D := fun sd => (a sd).bind fun x sd1 => (b sd1).bind fun y sd2 => match f x y with
  | some (.bl true) => (c sd2).bind fun z sd3 => ER.opt (g y z) sd3
  | some (.bl false) => .ok (.bl false) sd2
  | _ => .bad
end
end DL

/-! DL4: chains, built-in functions, subscripts, slices. -/
namespace DL
open PySem PySem.Spec L2
section
variable {α β : Type} {K : PySem.W.Frag} {pv : List V} {W : WX} {G F H : Hp} {σ : L2.St} {sd : SD} {p q : Bool}
theorem Meets.to {RS : RSt β α} {r : ER α} {Q : β → Hp → Prop} {P P' : Prop} (h : Meets K pv W G σ RS p sd F H r Q P) (hP : P → P') : Meets K pv W G σ RS p sd F H r Q P' := by
  cases r with
  | bad => exact True.intro
  | rz x sd' => exact fun z => hP (h z)
  | ok a sd' => exact fun z => hP (h z)
theorem Meets.bindL {γ δ : Type} {RS : RSt β α} {RS' : RSt δ γ} {r : ER α} {f : α → SD → ER γ} {Q : δ → Hp → Prop} {k : β → Hp → Prop} {P : Prop} (h : Meets K pv W G σ RS p sd F H r k P)
    (g : ∀ v F1 H1 a sd1, Same F F1 → StR K pv G F1 sd1 σ H1 → RS G F1 sd1 H1 σ v a → (p = true → Same H H1 ∧ sd1 = sd) → Meets K pv W G σ RS' true sd1 F1 H1 (f a sd1) Q (k v H1)) :
    Meets K pv W G σ RS' p sd F H (r.bind f) Q P := by
  have z := Meets.bind h g
  have hp : (p && true) = p := by cases p <;> rfl
  rw [hp] at z
  exact z
end
section
variable {X : Cx} {pv : List V} {W : WX} {p q k l : Bool} {e a b c : Expr} {es : List Expr} {pos : Pos}
theorem tr_chain {r r' : R2} {f g : D → D → Option D} {ta tb tc : TE} {ma mb mc : SD → ER D} {q' l' : Bool} (hf : Op2S X.K r f) (hg : Op2S X.K r' g) (ha : TrX X.K pv W p k ta ma) (hb : TrX X.K pv W q l tb mb) (hc : TrX X.K pv W q' l' tc mc)
    (hk : (k || q) = true) (hk2 : (l || q') = true) : TrX X.K pv W (p && (q && q')) true (tChain r r' ta tb tc) (mChain f g ma mb mc) := by
  intro G F sd σ H Q s
  refine Meets.bind (ha G F sd σ H _ s) fun x F1 H1 dx sd1 s1 s2 s3 s4 => ?_
  refine Meets.bind (hb G F1 sd1 σ H1 _ s2) fun y F2 H2 dy sd2 t1 t2 t3 t4 => ?_
  have rx : Rep X.K H2 x dx := by
    cases k with
    | true => exact Rep.mono t2.fh (Rep.mono t1 s3)
    | false => exact Rep.mono (t4 (by simpa using hk)).1 s3
  split
  · rename_i e
    obtain ⟨v, h1, h2⟩ := hf H2 x y dx dy _ rx (RSx.see t3 t2) e
    cases h1
    refine Meets.to (Meets.bindL (hc G F2 sd2 σ H2 (fun w' H4 => r' y w' H4 Q) t2) fun z F3 H3 dz sd3 u1 u2 u3 u4 => ?_) fun z => h2 _ ⟨true, rfl, by rw [if_pos rfl]; exact z⟩
    have ry : Rep X.K H3 y dy := by
      cases l with
      | true => exact Rep.mono u2.fh (Rep.mono u1 t3)
      | false => exact Rep.mono (u4 (by simpa using hk2)).1 t3
    cases e2 : g dy dz with
    | none => exact True.intro
    | some c =>
      obtain ⟨v, h1, h2⟩ := hg H3 y z dy dz c ry (RSx.see u3 u2) e2
      exact Meets.here u2 (show RSx X.K true G F3 sd3 H3 σ v c from Rep.sc h1) (h2 Q)
  · rename_i e
    obtain ⟨v, h1, h2⟩ := hf H2 x y dx dy _ rx (RSx.see t3 t2) e
    cases h1
    exact Meets.here t2 (show RSx X.K true G F2 sd2 H2 σ (.bl false) (.bl false) from .bl _) fun q => h2 _ ⟨false, rfl, by rw [if_neg (by decide)]; exact q⟩
  · exact True.intro
theorem dx_chain {op op' : CmpOp} {r r' : R2} {f g : D → D → Option D} {ma mb mc : SD → ER D} {q' l' : Bool} (ho : OpR X (compareOp op) r) (ho' : OpR X (compareOp op') r') (hf : Op2S X.K r f) (hg : Op2S X.K r' g) (ha : DX X pv W p k a ma) (hb : DX X pv W q l b mb)
    (hc : DX X pv W q' l' c mc) (hk : (k || q) = true := by rfl) (hk2 : (l || q') = true := by rfl) (hm : lastMarks [op, op'] [b, c] = false := by with_unfolding_all rfl) : DX X pv W (p && (q && q')) true (.Compare a [op, op'] [b, c] pos) (mChain f g ma mb mc) := by
  obtain ⟨ta, a1, a2⟩ := ha
  obtain ⟨tb, b1, b2⟩ := hb
  obtain ⟨tc, c1, c2⟩ := hc
  exact ⟨_, pe_chain ho ho' a1 b1 c1 hm, tr_chain hf hg a2 b2 c2 hk hk2⟩
theorem dt_chain {op op' : CmpOp} {r r' : R2} {f g : D → D → Option D} {ma mb mc : SD → ER D} {q' l' : Bool} (ho : OpR X (compareOp op) r) (ho' : OpR X (compareOp op') r') (hf : Op2S X.K r f) (hg : Op2S X.K r' g) (ha : DX X pv W p k a ma) (hb : DX X pv W q l b mb)
    (hc : DX X pv W q' l' c mc) (hk : (k || q) = true := by rfl) (hk2 : (l || q') = true := by rfl) (hm : lastMarks [op, op'] [b, c] = false := by with_unfolding_all rfl) : DT X pv W (p && (q && q')) (.Compare a [op, op'] [b, c] pos) (mTest (mChain f g ma mb mc)) := by
  obtain ⟨ta, a1, a2⟩ := ha
  obtain ⟨tb, b1, b2⟩ := hb
  obtain ⟨tc, c1, c2⟩ := hc
  exact ⟨_, pt_chain ho ho' a1 b1 c1 hm, tr_test (tr_chain hf hg a2 b2 c2 hk hk2)⟩

/-! ### built-in functions -/
/-- a call that gives a flat value -/
def CallS (K : PySem.W.Frag) (r : List V → Hp → VK → Prop) (f : List D → Option D) : Prop := ∀ H xs ds c, Reps K H xs ds → f ds = some c → ∃ v, c.sc = some v ∧ ∀ Q : VK, Q v H → r xs H Q
/-- a call that gives a new list -/
def CallL (K : PySem.W.Frag) (r : List V → Hp → VK → Prop) (f : List D → Option (List D)) : Prop := ∀ F H xs ds cs, Same F H → Reps K F xs ds → f ds = some cs → ∀ Q : VK, (∀ p vs, H p = none → Reps K F vs cs → Q (.ref p) (upd H p (.lst vs))) → r xs H Q
def mCallL (f : List D → Option (List D)) (a : SD → ER (List D)) : SD → ER OT := fun sd => (a sd).bind fun xs sd1 => ER.opt ((f xs).map fun cs => .ol (cs.map .fz)) sd1
theorem tr_callS {r : List V → Hp → VK → Prop} {f : List D → Option D} {ta : TA} {m : SD → ER (List D)} (hf : CallS X.K r f) (h : TrA X.K pv W p k ta m) : TrX X.K pv W p true (tCB r ta) (mCall f m) := by
  intro G F sd σ H Q s
  refine Meets.bindL (h G F sd σ H _ s) fun xs F1 H1 ds sd1 s1 s2 s3 s4 => ?_
  cases e : f ds with
  | none => exact True.intro
  | some c =>
    obtain ⟨v, h1, h2⟩ := hf H1 xs ds c (RSl.see s3 s2) e
    exact Meets.here s2 (show RSx X.K true G F1 sd1 H1 σ v c from Rep.sc h1) (h2 Q)
theorem tr_callL {r : List V → Hp → VK → Prop} {f : List D → Option (List D)} {ta : TA} {m : SD → ER (List D)} (hf : CallL X.K r f) (h : TrA X.K pv W p true ta m) : TrO X.K pv W p (tCB r ta) (mCallL f m) := by
  intro G F sd σ H Q s
  refine Meets.bindL (h G F sd σ H _ s) fun xs F1 H1 ds sd1 s1 s2 s3 s4 => ?_
  cases e : f ds with
  | none => exact True.intro
  | some cs =>
    intro hQ
    refine hf F1 H1 xs ds cs s2.fh s3 e Q fun p vs hp hr => ?_
    have z := s2.newL hp hr
    exact hQ _ _ _ (Same.refl _) z.drop z fun _ => ⟨Same.upd hp, rfl⟩
theorem dx_callB {x : Str} {id : String} {pp : Pos} {r : List V → Hp → VK → Prop} {f : List D → Option D} {m : SD → ER (List D)} (hc : CallR X (.builtin id) r) (hf : CallS X.K r f) (hg : Gl X x) (hm : X.mg x = none) (hv : bootBuiltins x = some (.builtin id)) (ha : DA X pv W p k (e :: es) m)
    (hn : x ≠ "__name__" := by decide) (hdb : (x == ("__debug__" : Str)) = false := by decide) (he : starEach (e :: es) X.env = (false, eval e X.env) :: starEach es X.env := by rfl) (hpl : (backTo pos (starEach es X.env)).any (·.1) = false := by rfl) :
    DX X pv W p true (.Call (.Name x pp) (e :: es) [] pos) (mCall f m) := by
  obtain ⟨ta, a1, a2⟩ := ha
  exact ⟨_, pe_callB hc hg hm hv a1 hn hdb he hpl, tr_callS hf a2⟩
theorem do_callB {x : Str} {id : String} {pp : Pos} {r : List V → Hp → VK → Prop} {f : List D → Option (List D)} {m : SD → ER (List D)} (hc : CallR X (.builtin id) r) (hf : CallL X.K r f) (hg : Gl X x) (hm : X.mg x = none) (hv : bootBuiltins x = some (.builtin id)) (ha : DA X pv W p true (e :: es) m)
    (hn : x ≠ "__name__" := by decide) (hdb : (x == ("__debug__" : Str)) = false := by decide) (he : starEach (e :: es) X.env = (false, eval e X.env) :: starEach es X.env := by rfl) (hpl : (backTo pos (starEach es X.env)).any (·.1) = false := by rfl) :
    DO X pv W p (.Call (.Name x pp) (e :: es) [] pos) (mCallL f m) := by
  obtain ⟨ta, a1, a2⟩ := ha
  exact ⟨_, pe_callB hc hg hm hv a1 hn hdb he hpl, tr_callL hf a2⟩
theorem dx_callTy {x : Str} {T : String} {pp : Pos} {r : List V → Hp → VK → Prop} {f : List D → Option D} {m : SD → ER (List D)} (hc : CallR X (.type T) r) (hf : CallS X.K r f) (hg : Gl X x) (hm : X.mg x = none) (hv : bootBuiltins x = some (.type T)) (ha : DA X pv W p k (e :: es) m)
    (hn : x ≠ "__name__" := by decide) (hdb : (x == ("__debug__" : Str)) = false := by decide) (he : starEach (e :: es) X.env = (false, eval e X.env) :: starEach es X.env := by rfl) (hpl : (backTo pos (starEach es X.env)).any (·.1) = false := by rfl) :
    DX X pv W p true (.Call (.Name x pp) (e :: es) [] pos) (mCall f m) := by
  obtain ⟨ta, a1, a2⟩ := ha
  exact ⟨_, pe_callTy hc hg hm hv a1 hn hdb he hpl, tr_callS hf a2⟩
theorem do_callTy {x : Str} {T : String} {pp : Pos} {r : List V → Hp → VK → Prop} {f : List D → Option (List D)} {m : SD → ER (List D)} (hc : CallR X (.type T) r) (hf : CallL X.K r f) (hg : Gl X x) (hm : X.mg x = none) (hv : bootBuiltins x = some (.type T)) (ha : DA X pv W p true (e :: es) m)
    (hn : x ≠ "__name__" := by decide) (hdb : (x == ("__debug__" : Str)) = false := by decide) (he : starEach (e :: es) X.env = (false, eval e X.env) :: starEach es X.env := by rfl) (hpl : (backTo pos (starEach es X.env)).any (·.1) = false := by rfl) :
    DO X pv W p (.Call (.Name x pp) (e :: es) [] pos) (mCallL f m) := by
  obtain ⟨ta, a1, a2⟩ := ha
  exact ⟨_, pe_callTy hc hg hm hv a1 hn hdb he hpl, tr_callL hf a2⟩

theorem reps1 {K : PySem.W.Frag} {F : Hp} {vs : List V} {d : D} (r : Reps K F vs [d]) : ∃ v, vs = [v] ∧ Rep K F v d := by
  cases r with
  | cons h t => cases t; exact ⟨_, rfl, h⟩
theorem reps2 {K : PySem.W.Frag} {F : Hp} {vs : List V} {d d' : D} (r : Reps K F vs [d, d']) : ∃ v v', vs = [v, v'] ∧ Rep K F v d ∧ Rep K F v' d' := by
  cases r with
  | cons h t =>
    obtain ⟨v', rfl, h'⟩ := reps1 t
    exact ⟨_, _, rfl, h, h'⟩
def dLen : List D → Option D
  | [.lst xs] => some (.int xs.length)
  | [.tup xs] => some (.int xs.length)
  | [.ktu xs] => some (.int xs.length)
  | [.str x] => if x.length ≤ 16777216 then some (.int x.length) else none
  | [.scr ns] => some (.int ns.length)
  | _ => none
theorem f_len {K : PySem.W.Frag} : CallS K (fun xs H Q => ∃ x n, xs = [x] ∧ LenV K x H n ∧ Q (.int n) H) dLen := by
  intro H xs ds c r h
  unfold dLen at h
  split at h
  · obtain ⟨v, rfl, r1⟩ := reps1 r
    cases r1 with
    | lst s t =>
      cases h
      exact ⟨_, rfl, fun Q q => ⟨_, _, rfl, .inl ⟨_, .inl s, rfl⟩, by rw [t.length]; exact q⟩⟩
  · obtain ⟨v, rfl, r1⟩ := reps1 r
    cases r1 with
    | tup s t =>
      cases h
      exact ⟨_, rfl, fun Q q => ⟨_, _, rfl, .inr ⟨_, .inl (.inl s), rfl⟩, by rw [t.length]; exact q⟩⟩
  · obtain ⟨v, rfl, r1⟩ := reps1 r
    cases r1 with
    | ktu s t =>
      cases h
      exact ⟨_, rfl, fun Q q => ⟨_, _, rfl, .inr ⟨_, s, rfl⟩, by rw [t.length]; exact q⟩⟩
  · obtain ⟨v, rfl, r1⟩ := reps1 r
    cases r1
    split at h
    · rename_i hl
      cases h
      exact ⟨_, rfl, fun Q q => ⟨_, _, rfl, (show LenV K (.str _) H _ from ⟨by rw [sizeLine_eq]; exact hl, rfl⟩), q⟩⟩
    · cases h
  · obtain ⟨v, rfl, r1⟩ := reps1 r
    cases r1 with
    | scr s =>
      cases h
      exact ⟨_, rfl, fun Q q => ⟨_, _, rfl, .inl ⟨_, s, rfl⟩, by rw [List.length_map]; exact q⟩⟩
  · cases h
/-- the ints of a list -/
def intsOf : List D → Option (List Int)
  | [] => some []
  | .int i :: r => (intsOf r).map (i :: ·)
  | _ => none
theorem intsOf_map : ∀ ns : List Int, intsOf (ns.map D.int) = some ns
  | [] => rfl
  | n :: r => by rw [List.map_cons, intsOf, intsOf_map r]; rfl
theorem reps_ints {K : PySem.W.Frag} {F : Hp} : ∀ {ds : List D} {vs : List V} {ns : List Int}, Reps K F vs ds → intsOf ds = some ns → vs = ns.map V.int ∧ ds = ns.map D.int
  | [], _, _, .nil, h => by cases h; exact ⟨rfl, rfl⟩
  | d :: ds, _, ns, .cons r t, h => by
    cases d with
    | int i =>
      rw [intsOf] at h
      cases e : intsOf ds with
      | none => rw [e] at h; cases h
      | some ms =>
        rw [e] at h; cases h
        cases r
        obtain ⟨h1, h2⟩ := reps_ints t e
        exact ⟨by rw [h1]; rfl, by rw [h2]; rfl⟩
    | _ => simp [intsOf] at h
def dSum : List D → Option D
  | [.lst ds] => (intsOf ds).map fun ns => .int ns.sum
  | _ => none
theorem f_sum {K : PySem.W.Frag} : CallS K (rSum K) dSum := by
  intro H xs ds c r h
  unfold dSum at h
  split at h
  · obtain ⟨v, rfl, r1⟩ := reps1 r
    cases r1 with
    | @lst a vs ds s t =>
      obtain ⟨ns, e, h⟩ := Option.map_eq_some_iff.mp h
      cases h
      obtain ⟨h1, h2⟩ := reps_ints t e
      subst h1
      exact ⟨_, rfl, fun Q q => ⟨a, ns, rfl, .inl s, q⟩⟩
  · cases h
def maxI : List Int → Int
  | [] => 0
  | n :: r => r.foldl max n
def minI : List Int → Int
  | [] => 0
  | n :: r => r.foldl min n
theorem foldl_max : ∀ (r : List Int) (n : Int), (r.foldl max n = n ∨ r.foldl max n ∈ r) ∧ n ≤ r.foldl max n ∧ ∀ y ∈ r, y ≤ r.foldl max n
  | [], n => ⟨.inl rfl, Int.le_refl _, fun y h => by cases h⟩
  | m :: r, n => by
    obtain ⟨h1, h2, h3⟩ := foldl_max r (max n m)
    rw [List.foldl_cons]
    have e1 : n ≤ max n m := Int.le_max_left ..
    have e2 : m ≤ max n m := Int.le_max_right ..
    refine ⟨?_, Int.le_trans e1 h2, fun y hy => ?_⟩
    · rcases h1 with h1 | h1
      · by_cases z : n ≤ m
        · rw [h1]; rw [show max n m = m by omega]; exact .inr List.mem_cons_self
        · rw [h1]; exact .inl (by omega)
      · exact .inr (List.mem_cons_of_mem _ h1)
    · rcases List.mem_cons.mp hy with rfl | hy
      · exact Int.le_trans e2 h2
      · exact h3 y hy
theorem foldl_min : ∀ (r : List Int) (n : Int), (r.foldl min n = n ∨ r.foldl min n ∈ r) ∧ r.foldl min n ≤ n ∧ ∀ y ∈ r, r.foldl min n ≤ y
  | [], n => ⟨.inl rfl, Int.le_refl _, fun y h => by cases h⟩
  | m :: r, n => by
    obtain ⟨h1, h2, h3⟩ := foldl_min r (min n m)
    rw [List.foldl_cons]
    have e1 : min n m ≤ n := Int.min_le_left ..
    have e2 : min n m ≤ m := Int.min_le_right ..
    refine ⟨?_, Int.le_trans h2 e1, fun y hy => ?_⟩
    · rcases h1 with h1 | h1
      · by_cases z : m ≤ n
        · rw [h1]; rw [show min n m = m by omega]; exact .inr List.mem_cons_self
        · rw [h1]; exact .inl (by omega)
      · exact .inr (List.mem_cons_of_mem _ h1)
    · rcases List.mem_cons.mp hy with rfl | hy
      · exact Int.le_trans h2 e2
      · exact h3 y hy
theorem maxI_mem {n : Int} {r : List Int} : maxI (n :: r) ∈ n :: r := by
  obtain ⟨h1, _, _⟩ := foldl_max r n
  show r.foldl max n ∈ _
  rcases h1 with h1 | h1
  · rw [h1]; exact List.mem_cons_self
  · exact List.mem_cons_of_mem _ h1
theorem maxI_ge {n : Int} {r : List Int} : ∀ y ∈ n :: r, y ≤ maxI (n :: r) := fun y hy => by
  obtain ⟨_, h2, h3⟩ := foldl_max r n
  rcases List.mem_cons.mp hy with rfl | hy
  · exact h2
  · exact h3 y hy
theorem minI_mem {n : Int} {r : List Int} : minI (n :: r) ∈ n :: r := by
  obtain ⟨h1, _, _⟩ := foldl_min r n
  show r.foldl min n ∈ _
  rcases h1 with h1 | h1
  · rw [h1]; exact List.mem_cons_self
  · exact List.mem_cons_of_mem _ h1
theorem minI_le {n : Int} {r : List Int} : ∀ y ∈ n :: r, minI (n :: r) ≤ y := fun y hy => by
  obtain ⟨_, h2, h3⟩ := foldl_min r n
  rcases List.mem_cons.mp hy with rfl | hy
  · exact h2
  · exact h3 y hy
def dMax : List D → Option D
  | [.int i, .int j] => some (.int (max i j))
  | [.lst ds] => match intsOf ds with
    | some (n :: r) => some (.int (maxI (n :: r)))
    | _ => none
  | _ => none
def dMin : List D → Option D
  | [.int i, .int j] => some (.int (min i j))
  | [.lst ds] => match intsOf ds with
    | some (n :: r) => some (.int (minI (n :: r)))
    | _ => none
  | _ => none
def rMaxX (K : PySem.W.Frag) : List V → Hp → VK → Prop := fun xs H Q => (∃ i j, xs = [.int i, .int j] ∧ Q (.int (if j > i then j else i)) H) ∨ rMax K xs H Q
def rMinX (K : PySem.W.Frag) : List V → Hp → VK → Prop := fun xs H Q => (∃ i j, xs = [.int i, .int j] ∧ Q (.int (if j < i then j else i)) H) ∨ rMin K xs H Q
theorem call_maxX (hc : X.calm = true) : CallR X (.builtin "max") (rMaxX X.K) := (call_max2 hc).or (cr_max hc)
theorem call_minX (hc : X.calm = true) : CallR X (.builtin "min") (rMinX X.K) := (call_min2 hc).or (cr_min hc)
theorem f_max {K : PySem.W.Frag} : CallS K (rMaxX K) dMax := by
  intro H xs ds c r h
  unfold dMax at h
  split at h
  · rename_i i j
    obtain ⟨v, v', rfl, r1, r2⟩ := reps2 r
    cases r1; cases r2; cases h
    refine ⟨_, rfl, fun Q q => .inl ⟨_, _, rfl, ?_⟩⟩
    have e : (if j > i then j else i) = max i j := by split <;> omega
    rw [e]; exact q
  · obtain ⟨v, rfl, r1⟩ := reps1 r
    cases r1 with
    | @lst a vs ds s t =>
      split at h
      · rename_i n rr e
        cases h
        obtain ⟨h1, h2⟩ := reps_ints t e
        subst h1
        refine ⟨_, rfl, fun Q q => .inr ⟨a, n :: rr, rfl, .inl s, by simp, fun m hm hge => ?_⟩⟩
        have e : m = maxI (n :: rr) := Int.le_antisymm (maxI_ge m hm) (hge _ maxI_mem)
        rw [e]; exact q
      · cases h
  · cases h
theorem f_min {K : PySem.W.Frag} : CallS K (rMinX K) dMin := by
  intro H xs ds c r h
  unfold dMin at h
  split at h
  · rename_i i j
    obtain ⟨v, v', rfl, r1, r2⟩ := reps2 r
    cases r1; cases r2; cases h
    refine ⟨_, rfl, fun Q q => .inl ⟨_, _, rfl, ?_⟩⟩
    have e : (if j < i then j else i) = min i j := by split <;> omega
    rw [e]; exact q
  · obtain ⟨v, rfl, r1⟩ := reps1 r
    cases r1 with
    | @lst a vs ds s t =>
      split at h
      · rename_i n rr e
        cases h
        obtain ⟨h1, h2⟩ := reps_ints t e
        subst h1
        refine ⟨_, rfl, fun Q q => .inr ⟨a, n :: rr, rfl, .inl s, by simp, fun m hm hge => ?_⟩⟩
        have e : m = minI (n :: rr) := Int.le_antisymm (hge _ minI_mem) (minI_le m hm)
        rw [e]; exact q
      · cases h
  · cases h
/-- the bools of a list -/
def boolsOf : List D → Option (List Bool)
  | [] => some []
  | .bl b :: r => (boolsOf r).map (b :: ·)
  | _ => none
theorem boolsOf_map : ∀ ns : List Bool, boolsOf (ns.map D.bl) = some ns
  | [] => rfl
  | n :: r => by rw [List.map_cons, boolsOf, boolsOf_map r]; rfl
theorem reps_bools {K : PySem.W.Frag} {F : Hp} : ∀ {ds : List D} {vs : List V} {ns : List Bool}, Reps K F vs ds → boolsOf ds = some ns → vs = ns.map V.bl
  | [], _, _, .nil, h => by cases h; rfl
  | d :: ds, _, ns, .cons r t, h => by
    cases d with
    | bl i =>
      rw [boolsOf] at h
      cases e : boolsOf ds with
      | none => rw [e] at h; cases h
      | some ms =>
        rw [e] at h; cases h
        cases r
        rw [reps_bools t e]; rfl
    | _ => simp [boolsOf] at h
def dAll : List D → Option D
  | [.lst ds] => (boolsOf ds).map fun bs => .bl (bs.all id)
  | _ => none
def dAny : List D → Option D
  | [.lst ds] => (boolsOf ds).map fun bs => .bl (bs.any id)
  | _ => none
theorem f_all {K : PySem.W.Frag} : CallS K (rAll K) dAll := by
  intro H xs ds c r h
  unfold dAll at h
  split at h
  · obtain ⟨v, rfl, r1⟩ := reps1 r
    cases r1 with
    | @lst a vs ds s t =>
      obtain ⟨ns, e, h⟩ := Option.map_eq_some_iff.mp h
      cases h
      have h1 := reps_bools t e
      subst h1
      exact ⟨_, rfl, fun Q q => ⟨a, ns, rfl, .inl s, q⟩⟩
  · cases h
theorem f_any {K : PySem.W.Frag} : CallS K (rAny K) dAny := by
  intro H xs ds c r h
  unfold dAny at h
  split at h
  · obtain ⟨v, rfl, r1⟩ := reps1 r
    cases r1 with
    | @lst a vs ds s t =>
      obtain ⟨ns, e, h⟩ := Option.map_eq_some_iff.mp h
      cases h
      have h1 := reps_bools t e
      subst h1
      exact ⟨_, rfl, fun Q q => ⟨a, ns, rfl, .inl s, q⟩⟩
  · cases h
end
end DL

/-! DL5: sorted of ints, of tuples of ints of any length. -/
namespace DL
open PySem PySem.Spec L2
open PyProof.Rows (IntsAre seqObj)

/-! ### the order of lists of ints -/
abbrev lexI : List Int → List Int → Bool := HT.lexLt
theorem lexI_asym : ∀ a b : List Int, lexI a b = true → lexI b a = false
  | [], [], h => by cases h
  | [], _ :: _, _ => rfl
  | _ :: _, [], h => by cases h
  | x :: a, y :: b, h => by
    unfold lexI at h ⊢
    rw [HT.lexLt_cons] at h ⊢
    by_cases e : x = y
    · rw [if_pos e] at h
      rw [if_pos e.symm]
      exact lexI_asym a b h
    · rw [if_neg e] at h
      rw [if_neg (Ne.symm e)]
      have h := of_decide_eq_true h
      exact decide_eq_false (by omega)
theorem lexI_tr : ∀ a b c : List Int, lexI b a = false → lexI c b = false → lexI c a = false
  | _, _, [], _, h2 => by
    rename_i a b h1
    cases b with
    | nil => cases a with
      | nil => rfl
      | cons x a => exact h1
    | cons y b => cases h2
  | [], _, _ :: _, _, _ => rfl
  | x :: a, [], z :: c, h1, _ => by cases h1
  | x :: a, y :: b, z :: c, h1, h2 => by
    unfold lexI at h1 h2 ⊢
    rw [HT.lexLt_cons] at h1 h2 ⊢
    by_cases e1 : y = x
    · rw [if_pos e1] at h1
      by_cases e2 : z = y
      · rw [if_pos e2] at h2
        rw [if_pos (e2.trans e1)]
        exact lexI_tr a b c h1 h2
      · rw [if_neg e2] at h2
        have h2 := of_decide_eq_false h2
        rw [if_neg (by omega)]
        exact decide_eq_false (by omega)
    · rw [if_neg e1] at h1
      have h1 := of_decide_eq_false h1
      by_cases e2 : z = y
      · rw [if_neg (by omega)]
        exact decide_eq_false (by omega)
      · rw [if_neg e2] at h2
        have h2 := of_decide_eq_false h2
        rw [if_neg (by omega)]
        exact decide_eq_false (by omega)
theorem lexI_eq : ∀ a b : List Int, lexI a b = false → lexI b a = false → a = b
  | [], [], _, _ => rfl
  | [], _ :: _, h, _ => by cases h
  | _ :: _, [], _, h => by cases h
  | x :: a, y :: b, h1, h2 => by
    unfold lexI at h1 h2
    rw [HT.lexLt_cons] at h1 h2
    by_cases e : x = y
    · rw [if_pos e] at h1
      rw [if_pos e.symm] at h2
      rw [e, lexI_eq a b h1 h2]
    · rw [if_neg e] at h1
      rw [if_neg (Ne.symm e)] at h2
      have h1 := of_decide_eq_false h1
      have h2 := of_decide_eq_false h2
      exact absurd (show x = y by omega) e
def leI (a b : List Int) : Bool := !lexI b a
def sortT (l : List (List Int)) : List (List Int) := l.mergeSort leI
def sortI (l : List Int) : List Int := l.mergeSort (fun a b => decide (a ≤ b))
theorem leI_total (a b : List Int) : (leI a b || leI b a) = true := by
  unfold leI
  cases h : lexI b a with
  | false => rfl
  | true => rw [lexI_asym _ _ h]; rfl
theorem leI_trans (a b c : List Int) (h1 : leI a b = true) (h2 : leI b c = true) : leI a c = true := by
  unfold leI at *
  simp only [Bool.not_eq_true'] at *
  exact lexI_tr a b c h1 h2
theorem sortT_pw (l : List (List Int)) : (sortT l).Pairwise (fun a b => leI a b = true) := List.pairwise_mergeSort leI_trans leI_total l
theorem sortT_perm (l : List (List Int)) : (sortT l).Perm l := List.mergeSort_perm l leI
theorem sortI_perm (l : List Int) : (sortI l).Perm l := List.mergeSort_perm l _
theorem sortI_pw (l : List Int) : (sortI l).Pairwise (· ≤ ·) := by
  have h := List.pairwise_mergeSort (le := fun a b : Int => decide (a ≤ b)) (fun a b c h1 h2 => by simp at *; omega) (fun a b => by simp; omega) l
  exact h.imp fun z => by simpa using z
/-- two sorted arrangements are one -/
theorem pw_uniq {α : Type} {r : α → α → Prop} (anti : ∀ a b, r a b → r b a → a = b) : ∀ {l m : List α}, l.Perm m → l.Pairwise r → m.Pairwise r → l = m
  | [], m, p, _, _ => (List.nil_perm.mp p).symm
  | a :: l, [], p, _, _ => by have := p.length_eq; simp at this
  | a :: l, b :: m, p, h1, h2 => by
    have e : a = b := by
      rcases List.mem_cons.mp (p.mem_iff.mp (List.mem_cons_self : a ∈ a :: l)) with e | ha
      · exact e
      · rcases List.mem_cons.mp (p.mem_iff.mpr (List.mem_cons_self : b ∈ b :: m)) with e | hb
        · exact e.symm
        · exact anti a b ((List.pairwise_cons.mp h1).1 b hb) ((List.pairwise_cons.mp h2).1 a ha)
    subst e
    rw [pw_uniq anti (List.perm_cons a |>.mp p) (List.pairwise_cons.mp h1).2 (List.pairwise_cons.mp h2).2]
theorem sortI_uniq {l m : List Int} (p : m.Perm l) (h : m.Pairwise (· ≤ ·)) : m = sortI l := pw_uniq (fun a b h1 h2 => Int.le_antisymm h1 h2) (p.trans (sortI_perm l).symm) h (sortI_pw l)
theorem sortT_uniq {l m : List (List Int)} (p : m.Perm l) (h : m.Pairwise (fun a b => leI a b = true)) : m = sortT l := by
  refine pw_uniq (fun a b h1 h2 => ?_) (p.trans (sortT_perm l).symm) h (sortT_pw l)
  unfold leI at h1 h2
  simp only [Bool.not_eq_true'] at h1 h2
  exact lexI_eq a b h2 h1

/-! ### the machine's sort over tuples of ints -/
def IsIT (h : Heap) (v : Value) (ns : List Int) : Prop := ∃ a o its n, v = .ref a ∧ h.get? a = some o ∧ o.cls = .type "tuple" ∧ o.data = .seq its n ∧ IntsAre its.toList ns
theorem IsIT.keeps {h h' : Heap} {v : Value} {ns : List Int} (p : IsIT h v ns) (k : ∀ b o, h.get? b = some o → o.cls = .type "tuple" → h'.get? b = some o) : IsIT h' v ns := by
  obtain ⟨a, o, its, n, e, ho, hc, hd⟩ := p
  exact ⟨a, o, its, n, e, k _ _ ho hc, hc, hd⟩
section
variable {prog : Program} {w : World} {A : Around} {E : Value → Shared → Prop} {s : Shared}
theorem oneLt_any (c : Bool) {p q : Int} {t u : Tok} {Q : Bool → Shared → Prop} (h : Q (decide (p < q)) s) : wpAny (model prog w) A (PyProof.Rows.oneLt' c (.int p t) (.int q u)) Q E s := by
  cases c with
  | true => exact PyProof.Rows.oneLt_int h
  | false => exact PySem.W.kat_one _ _ (PyProof.Rows.lt_int (Q := PySem.W.BoolBack Q) h)
theorem lex_go {b fin : Bool} {Q : Bool → Shared → Prop} : ∀ (ns ms : List Int) (xs ys : List Value) (i : Nat), IntsAre xs ns → IntsAre ys ms → fin = decide (ns.length < ms.length) → Q (lexI ns ms) s → PySem.W.KatLex prog w A b fin Q (xs.zip ys) i s
  | [], [], _, _, _, .nil, .nil, hf, h => by subst hf; exact PySem.W.kat_nil h
  | [], m :: ms, _, _, _, .nil, .cons _ _ _, hf, h => by
    have e : decide (([] : List Int).length < (m :: ms).length) = true := by simp
    rw [e] at hf
    subst hf; exact PySem.W.kat_nil h
  | n :: ns, [], _, _, _, .cons _ _ _, .nil, hf, h => by
    have e : decide ((n :: ns).length < ([] : List Int).length) = false := by simp
    rw [e] at hf
    subst hf; exact PySem.W.kat_nil h
  | n :: ns, m :: ms, _, _, i, .cons _ t hx, .cons _ u hy, hf, h => by
    refine PySem.W.kat_cons (SeqAt.EqAt.int_int n t m u prog w _ _ ?_)
    unfold lexI at h
    rw [HT.lexLt_cons] at h
    refine PySem.W.kat_go (fun e1 => ?_) fun e1 => ?_
    · have ex : n = m := by simpa using e1
      rw [if_pos ex] at h
      exact PySem.W.kat_yes (lex_go ns ms _ _ (i + 1) hx hy (by rw [hf]; simp) h)
    · have ex : ¬ n = m := by simpa using e1
      rw [if_neg ex] at h
      exact PySem.W.kat_no (oneLt_any _ h)
theorem it_cmp {vs : List Value} {k : Value → List Int} (hp : ∀ v ∈ vs, IsIT s.heap v (k v)) : SrtO.Cmp prog w A s (PyProof.Rows.tuples' true) (fun p => p.1 ∈ vs) (SrtO.lt2 fun v u => lexI (k v) (k u)) := by
  intro p q hm hm'
  show wpAny (model prog w) A (PyProof.Rows.keyLt' (PyProof.Rows.tuples' true) p.1 q.1) (fun r s' => s' = s ∧ r = lexI (k p.1) (k q.1)) (fun _ _ => False) s
  obtain ⟨a, o, its, n, e, ho, hc, hd, hi⟩ := hp _ hm
  obtain ⟨a', o', its', n', e', ho', hc', hd', hi'⟩ := hp _ hm'
  generalize k p.1 = x at hi ⊢
  generalize k q.1 = y at hi' ⊢
  rw [e, e']
  refine PySem.W.kat_lt ho hd ho' hd' ?_
  exact lex_go _ _ _ _ 0 hi hi' (by rw [← hi.length, ← hi'.length, Array.length_toList, Array.length_toList]) ⟨rfl, rfl⟩
theorem it_firsts {h : Heap} {k : Value → List Int} : ∀ {vs : List Value}, (∀ v ∈ vs, IsIT h v (k v) ∧ k v ≠ []) → ∃ fs : List Value, PySem.W.KatTups h vs fs ∧ fs.length = vs.length ∧ ∀ f ∈ fs, ∃ x t, f = Value.int x t
  | [], _ => ⟨[], PySem.W.KatTups.nil, rfl, fun _ hm => by simp at hm⟩
  | v :: vs, hp => by
    obtain ⟨fs, h1, h2, h3⟩ := it_firsts (vs := vs) fun v' hm => hp v' (List.mem_cons_of_mem _ hm)
    obtain ⟨⟨a, o, its, n, e, ho, hc, hd, hi⟩, hne⟩ := hp v (List.mem_cons_self ..)
    subst e
    obtain ⟨y, ys, eq⟩ : ∃ y ys, its.toList = y :: ys := by
      cases q : its.toList with
      | nil =>
        rw [q] at hi
        generalize k (Value.ref a) = z at hi hne
        cases hi
        exact absurd rfl hne
      | cons y ys => exact ⟨y, ys, rfl⟩
    rw [eq] at hi
    obtain ⟨x, t, rfl⟩ : ∃ x t, y = Value.int x t := by
      generalize k (Value.ref a) = z at hi
      cases hi
      exact ⟨_, _, rfl⟩
    have e2 : its[0]? = some (.int x t) := by
      rw [← Array.getElem?_toList, eq]; rfl
    refine ⟨.int x t :: fs, PySem.W.KatTups.cons ho hc hd e2 h1, by rw [List.length_cons, List.length_cons, h2], fun f hm => ?_⟩
    rcases List.mem_cons.mp hm with rfl | hm
    · exact ⟨x, t, rfl⟩
    · exact h3 f hm
theorem it_sortable {a : Addr} {vs : List Value} {k : Value → List Int} (h0 : 0 < vs.length) (hp : ∀ v ∈ vs, IsIT s.heap v (k v) ∧ k v ≠ []) (ha : ∀ o, s.heap.get? a = some o → o.cls ≠ .type "tuple") : SrtO.SortableO prog w A s a vs fun v u => lexI (k v) (k u) := by
  intro h' keep
  have hp' : ∀ v ∈ vs, IsIT h' v (k v) ∧ k v ≠ [] := fun v hm => ⟨(hp v hm).1.keeps fun b o e c => keep b o (fun z => by subst z; exact ha o e c) e, (hp v hm).2⟩
  obtain ⟨fs, h1, h2, h3⟩ := it_firsts hp'
  refine ⟨PyProof.Rows.tuples' true, fun Q E hq => ?_, it_cmp fun v hm => (hp' v hm).1⟩
  refine PySem.W.kat_kind (T := .type "int") h1 (by omega) (fun f hm => ?_) (by rfl) ?_
  · obtain ⟨x, t, rfl⟩ := h3 f hm
    exact PySem.W.Looks.now
  · have e : (Value.type "int" != Value.type "tuple") = true := by first | decide +kernel | rfl | decide
    rw [e]
    exact hq
theorem swo_lexI (k : Value → List Int) : SrtO.Swo fun v u => lexI (k v) (k u) := ⟨fun x y h => lexI_asym _ _ h, fun x y z h1 h2 => lexI_tr _ _ _ h1 h2⟩
theorem sorted_it {l : Addr} {vs : List Value} {k : Value → List Int} {Q : Value → Shared → Prop} (hl : s.heap.IsList l vs.toArray) (hz : vs.length ≤ sizeLine) (hp : ∀ v ∈ vs, IsIT s.heap v (k v) ∧ k v ≠ [])
    (h : ∀ (h' : Heap) (d : Addr) (out : List Value), SrtO.Srtd (fun v u => lexI (k v) (k u)) out → SrtO.Stb (fun v u => lexI (k v) (k u)) out vs → (∀ b o, s.heap.get? b = some o → h'.get? b = some o) → s.heap.objs.size ≤ d → (∃ n, h'.get? d = some (seqObj "list" out.toArray n)) → Q (.ref d) { s with heap := h' }) :
    wpAny (model prog w) A (call (.builtin "sorted") [.ref l]) Q E s := by
  refine SrtO.sorted_ord (swo_lexI k) hl hz (fun h2 h₁ a ha kk => ?_) fun out hs hb => ?_
  · refine it_sortable (s := { s with heap := h₁ }) (by omega) (fun v hm => ⟨(hp v hm).1.keeps fun b o e _ => (kk b o e).2, (hp v hm).2⟩) fun o e => ?_
    have e' : some o = some (seqObj "list" vs.toArray 0) := e.symm.trans ha
    cases e'
    intro c
    exact absurd (Value.type.inj c) (by decide)
  · exact h _ _ out hs hb (fun b o e => PyProof.Rows.sortedAll_old e) (Nat.le_succ _) (PyProof.Rows.sortedAll_at s.heap vs out.toArray)
end

/-! ### the rule -/
/-- the tuples of ints in a list -/
def tupsOf : List D → Option (List (List Int))
  | [] => some []
  | .tup xs :: r => (intsOf xs).bind fun ns => if ns = [] then none else (tupsOf r).map (ns :: ·)
  | _ => none
def tupD (ns : List Int) : D := .tup (ns.map .int)
def rSortT (K : PySem.W.Frag) : List V → Hp → VK → Prop := fun vs H Q => ∃ (a : Addr) (xs : List V) (ps : List (List Int)), vs = [V.ref a] ∧ SqL K H a xs ∧ Paired (fun x ns => ns ≠ [] ∧ ∃ t, x = V.ref t ∧ SqT K H t (ns.map V.int)) xs ps ∧
  ∀ ys p, ys.Perm xs → (∀ (R : V → List Int → Prop), Paired R xs ps → Paired R ys (sortT ps)) → H p = none → Q (.ref p) (upd H p (.lst ys))
theorem paired_mem {α β : Type} {R : α → β → Prop} : ∀ {xs : List α} {ps : List β}, Paired R xs ps → ∀ x ∈ xs, ∃ p ∈ ps, R x p
  | _, _, .nil, x, h => by cases h
  | _, _, .cons r t, x, h => by
    rcases List.mem_cons.mp h with rfl | h
    · exact ⟨_, List.mem_cons_self, r⟩
    · obtain ⟨p, h1, h2⟩ := paired_mem t x h
      exact ⟨p, List.mem_cons_of_mem _ h1, h2⟩
theorem paired_map {α β : Type} {R : α → β → Prop} {f : α → β} : ∀ {xs : List α} {ps : List β}, Paired R xs ps → (∀ x ∈ xs, ∀ p, R x p → f x = p) → xs.map f = ps
  | _, _, .nil, _ => rfl
  | _, _, .cons r t, h => by
    rw [List.map_cons, h _ List.mem_cons_self _ r, paired_map t fun x hx => h x (List.mem_cons_of_mem _ hx)]
theorem paired_of {α β : Type} {R : α → β → Prop} {f : α → β} : ∀ (xs : List α), (∀ x ∈ xs, R x (f x)) → Paired R xs (xs.map f)
  | [], _ => .nil
  | x :: xs, h => .cons (h x List.mem_cons_self) (paired_of xs fun y hy => h y (List.mem_cons_of_mem _ hy))
theorem ints_inj : ∀ {l : List Value} {x y : List Int}, IntsAre l x → IntsAre l y → x = y
  | _, _, _, .nil, .nil => rfl
  | _, _, _, .cons _ _ h, .cons _ _ h' => by rw [ints_inj h h']
section
variable {X : Cx}
theorem cr_sortTup : CallR X (.builtin "sorted") (rSortT X.K) := by
  classical
  intro pins s σ H vs us Q I r h
  obtain ⟨a, xs, ps, rfl, hs, hx, q⟩ := h
  obtain ⟨its, rv, hl, hz⟩ := I.list hs
  obtain ⟨u, rfl, ru⟩ := vals1 r
  obtain rfl : u = Value.ref a := ru
  obtain ⟨e1, e2⟩ := refs_back rv fun x m => by
    obtain ⟨p, _, _, t, e, _⟩ := paired_mem hx x m
    exact ⟨t, e⟩
  let k : Value → List Int := fun u => if z : ∃ ns, IsIT s.heap u ns then z.choose else []
  have uniq : ∀ u ns, IsIT s.heap u ns → k u = ns := fun u ns hu => by
    have z : ∃ ns, IsIT s.heap u ns := ⟨ns, hu⟩
    have ek : k u = z.choose := dif_pos z
    obtain ⟨a1, o1, i1, n1, e1, h1, c1, d1, j1⟩ := z.choose_spec
    obtain ⟨a2, o2, i2, n2, e2, h2, c2, d2, j2⟩ := hu
    rw [e1] at e2; cases e2
    rw [h1] at h2; cases h2
    rw [d1] at d2; cases d2
    rw [ek]
    exact ints_inj j1 j2
  have raw : ∀ t ns, SqT X.K H t (ns.map V.int) → IsIT s.heap (.ref t) ns := fun t ns ht => by
    obtain ⟨its2, r2, ⟨o, ho, hc, n, hd⟩, _⟩ := I.tuple ht
    exact ⟨t, o, _, n, rfl, ho, hc, hd, by simpa using r2.ints⟩
  have hk : ∀ x ∈ xs, ∀ ns, (ns ≠ [] ∧ ∃ t, x = V.ref t ∧ SqT X.K H t (ns.map V.int)) → ∃ t, x = .ref t ∧ k (.ref t) = ns ∧ IsIT s.heap (.ref t) ns ∧ ns ≠ [] := fun x hm ns ⟨hne, t, et, ht⟩ => ⟨t, et, uniq _ _ (raw t ns ht), raw t ns ht, hne⟩
  let kV : V → List Int := fun x => match x with
    | .ref t => k (.ref t)
    | _ => []
  have hkV : xs.map kV = ps := paired_map hx fun x hm ns hr => by
    obtain ⟨t, rfl, h1, _⟩ := hk x hm ns hr
    exact h1
  refine sorted_it (k := k) hl.isList (by rw [← rv.length]; exact hz) (fun v hv => ?_) fun h' d out h1 h2 kp hd hn => ?_
  · obtain ⟨t, rfl⟩ := e2 v hv
    have hm : V.ref t ∈ xs := by rw [e1]; exact List.mem_map.mpr ⟨_, hv, rfl⟩
    obtain ⟨ns, _, hr⟩ := paired_mem hx _ hm
    obtain ⟨t', e, h3, h4, h5⟩ := hk _ hm ns hr
    cases e
    rw [h3]
    exact ⟨h4, h5⟩
  · have h3 : ∀ u ∈ out, ∃ a, u = Value.ref a := fun u hu => e2 u (h2.perm.mem_iff.mp hu)
    obtain ⟨n, hn⟩ := hn
    have hb : (out.map backV).Perm xs := by
      rw [e1]
      exact h2.perm.map _
    have hkb : ∀ u ∈ out, kV (backV u) = k u := fun u hu => by
      obtain ⟨t, rfl⟩ := h3 u hu
      rfl
    have hso : (out.map backV).map kV = sortT ps := by
      refine sortT_uniq ?_ ?_
      · rw [← hkV]
        exact hb.map _
      · rw [List.map_map, show out.map (kV ∘ backV) = out.map k from List.map_congr_left hkb, List.pairwise_map]
        exact h1.imp fun z => by unfold leI; simpa using z
    refine ⟨.ref d, upd H d (.lst (out.map backV)), I.laid (t' := s.toks) kp hd ⟨?_, out, n, vals_back h3, hn⟩, rfl, q _ d hb (fun R hR => ?_) (I.hok.fresh hd)⟩
    · rw [hb.length_eq]
      exact hz
    · rw [← hso]
      refine paired_of _ fun y hy => ?_
      have hy' : y ∈ xs := hb.mem_iff.mp hy
      obtain ⟨ns, _, hr⟩ := paired_mem hR y hy'
      obtain ⟨i, hi⟩ := List.getElem?_of_mem hy'
      have both : ∀ {ys : List V} {qs : List (List Int)} {R1 R2 : V → List Int → Prop}, Paired R1 ys qs → Paired R2 ys qs → ∀ y ∈ ys, ∃ q, R1 y q ∧ R2 y q := by
        intro ys qs R1 R2 p1
        induction p1 with
        | nil => intro _ y h; cases h
        | cons r1 t1 ih =>
          intro p2 y h
          cases p2 with
          | cons r2 t2 =>
            rcases List.mem_cons.mp h with rfl | h
            · exact ⟨_, r1, r2⟩
            · exact ih t2 y h
      obtain ⟨q, q1, q2⟩ := both hR hx y hy'
      obtain ⟨t, rfl, h4, _⟩ := hk y hy' q q2
      show R (V.ref t) (k (.ref t))
      rw [h4]
      exact q1
end
def dSortT : List D → Option (List D)
  | [.lst ds] => match intsOf ds with
    | some ns => some ((sortI ns).map .int)
    | none => (tupsOf ds).map fun ps => (sortT ps).map tupD
  | _ => none
def rSortX (K : PySem.W.Frag) : List V → Hp → VK → Prop := fun xs H Q => rSortedI K xs H Q ∨ rSortT K xs H Q
theorem call_sortX {X : Cx} : CallR X (.builtin "sorted") (rSortX X.K) := cr_sortedI.or cr_sortTup
theorem tups_rep {K : PySem.W.Frag} {F : Hp} : ∀ {ds : List D} {vs : List V} {ps : List (List Int)}, Reps K F vs ds → tupsOf ds = some ps → Paired (fun x ns => ns ≠ [] ∧ ∃ t, x = V.ref t ∧ SqT K F t (ns.map V.int)) vs ps ∧ ds = ps.map tupD
  | [], _, _, .nil, h => by cases h; exact ⟨.nil, rfl⟩
  | d :: ds, _, ps, .cons r t, h => by
    cases d with
    | tup xs =>
      rw [tupsOf] at h
      obtain ⟨ns, hn, h⟩ := Option.bind_eq_some_iff.mp h
      split at h
      · cases h
      · rename_i hne
        obtain ⟨qs, e, h⟩ := Option.map_eq_some_iff.mp h
        subst h
        cases r with
        | tup s rr =>
          obtain ⟨h1, h2⟩ := reps_ints rr hn
          obtain ⟨k1, k2⟩ := tups_rep t e
          subst h1
          refine ⟨.cons ⟨hne, _, rfl, .inl (.inl s)⟩ k1, ?_⟩
          rw [List.map_cons, ← k2]
          unfold tupD
          rw [← h2]
    | _ => simp [tupsOf] at h
theorem paired_reps {K : PySem.W.Frag} {F : Hp} : ∀ {vs : List V} {ps : List (List Int)}, Paired (fun x ns => Rep K F x (tupD ns)) vs ps → Reps K F vs (ps.map tupD)
  | _, _, .nil => .nil
  | _, _, .cons r t => .cons r (paired_reps t)
theorem reps_paired {K : PySem.W.Frag} {F : Hp} : ∀ {vs : List V} {ps : List (List Int)}, Reps K F vs (ps.map tupD) → Paired (fun x ns => Rep K F x (tupD ns)) vs ps
  | _, [], .nil => .nil
  | _, p :: ps, .cons r t => .cons r (reps_paired t)
theorem f_sortX {K : PySem.W.Frag} : CallL K (rSortX K) dSortT := by
  intro F H xs ds cs hle r h Q hQ
  unfold dSortT at h
  split at h
  · obtain ⟨v, rfl, r1⟩ := reps1 r
    cases r1 with
    | @lst a vs _ s t =>
      split at h
      · rename_i ns e
        cases h
        obtain ⟨h1, h2⟩ := reps_ints t e
        subst h1
        refine .inl ⟨a, ns, rfl, hle.seq (.inl s), fun ns' p hp hpw hf => ?_⟩
        refine hQ p _ hf ?_
        rw [sortI_uniq hp hpw]
        exact Reps.ints _
      · obtain ⟨ps, e, h⟩ := Option.map_eq_some_iff.mp h
        subst h
        obtain ⟨h1, h2⟩ := tups_rep t e
        refine .inr ⟨a, vs, ps, rfl, hle.seq (.inl s), ?_, fun ys p hperm hR hf => ?_⟩
        · exact Paired.mapP h1 fun x ns ⟨n1, t, e, q⟩ => ⟨n1, t, e, Same.sqt hle q⟩
        · subst h2
          exact hQ p _ hf (paired_reps (hR _ (reps_paired t)))
  · cases h
end DL

/-! DL6: isinstance of built-in types, subscripts, slices, lists put together. -/
namespace DL
open PySem PySem.Spec L2

/-! ### isinstance -/
def D.isA (d : D) (n : String) : Option Bool :=
  match d with
  | .non => some false
  | .bl _ => some (n == "bool" || n == "int")
  | .int _ => some (n == "int")
  | .str _ => some (n == "str")
  | .tup _ => some (n == "tuple")
  | .ktu _ => some (n == "tuple")
  | .lst _ => some (n == "list")
  | .scr _ => some (n == "list")
  | .dic false _ _ => some (n == "dict")
  | _ => none
def tyName (n : String) : Bool := n == "bool" || n == "int" || n == "str" || n == "tuple" || n == "list" || n == "dict"
def dIsi : List D → Option D
  | [d, .ty n] => if tyName n = true then (d.isA n).map .bl else none
  | _ => none
theorem kitB_all : ∀ n ∈ ["bool", "int", "str", "tuple", "list", "dict"], kitB "NoneType" n = some false ∧ kitB "bool" n = some (n == "bool" || n == "int") ∧ kitB "int" n = some (n == "int") ∧ kitB "str" n = some (n == "str") ∧
    kitB "tuple" n = some (n == "tuple") ∧ kitB "list" n = some (n == "list") ∧ kitB "dict" n = some (n == "dict") := by decide +kernel
theorem kitB_is {n : String} (h : tyName n = true) : kitB "NoneType" n = some false ∧ kitB "bool" n = some (n == "bool" || n == "int") ∧ kitB "int" n = some (n == "int") ∧ kitB "str" n = some (n == "str") ∧
    kitB "tuple" n = some (n == "tuple") ∧ kitB "list" n = some (n == "list") ∧ kitB "dict" n = some (n == "dict") := by
  refine kitB_all n ?_
  unfold tyName at h
  simp only [Bool.or_eq_true, beq_iff_eq] at h
  simp only [List.mem_cons, List.not_mem_nil, or_false]
  rcases h with ((((h | h) | h) | h) | h) | h <;> simp [h]
theorem tyx_tup {K : PySem.W.Frag} {H : Hp} {a : Addr} {xs : List V} (h : SqT K H a xs) : TyX K H (.ref a) (.type "tuple") := by
  rcases h with (h | ⟨o, h⟩) | ⟨o, its, n, h1, h2, _⟩
  · exact .base (.tup h)
  · exact .fTuple h
  · exact .kTuple h1 h2
theorem tyx_lst {K : PySem.W.Frag} {H : Hp} {a : Addr} {xs : List V} (h : SqL K H a xs) : TyX K H (.ref a) (.type "list") := by
  rcases h with (h | ⟨o, h⟩) | ⟨o, its, n, h1, h2, _⟩
  · exact .base (.lst h)
  · exact .base (.frz h)
  · exact .kList h1 h2
theorem f_isi {K : PySem.W.Frag} : CallS K (rIsi K) dIsi := by
  intro H xs ds c r h
  unfold dIsi at h
  split at h
  · rename_i d n
    obtain ⟨v, v', rfl, r1, r2⟩ := reps2 r
    cases r2
    split at h
    · rename_i hn
      obtain ⟨b, e, h⟩ := Option.map_eq_some_iff.mp h
      subst h
      obtain ⟨k0, k1, k2, k3, k4, k5, k6⟩ := kitB_is hn
      refine ⟨.bl b, rfl, fun Q q => ?_⟩
      have go : ∀ {t : String}, TyX K H v (.type t) → kitB t n = some b → rIsi K [v, .ty n] H Q := fun ht hk => ⟨v, .ty n, _, _, b, rfl, .ty n, ht, kit_ty hk, q⟩
      cases r1 with
      | non => exact go (.base .non) (by rw [k0]; exact e)
      | bl x => exact go (.base (.bl x)) (by rw [k1]; exact e)
      | int x => exact go (.base (.int x)) (by rw [k2]; exact e)
      | str x => exact go (.base (.str x)) (by rw [k3]; exact e)
      | ty x => cases e
      | cls x => cases e
      | tup s t => exact go (tyx_tup (.inl (.inl s))) (by rw [k4]; exact e)
      | ktu s t => exact go (tyx_tup s) (by rw [k4]; exact e)
      | lst s t => exact go (tyx_lst (.inl s)) (by rw [k5]; exact e)
      | scr s => exact go (tyx_lst s) (by rw [k5]; exact e)
      | dicK s t =>
        rcases s with s | ⟨o, s⟩
        · exact go (.base (.dK s)) (by rw [k6]; exact e)
        · exact go (.fDict s) (by rw [k6]; exact e)
      | dicT s t => cases e
      | ins s t => cases e
      | exc _ _ _ _ => cases e
    · cases h
  · cases h
section
variable {X : Cx} {pv : List V} {W : WX} {p q k l : Bool} {e a b c : Expr} {es : List Expr} {pos : Pos}
/-- a built-in class's name -/
theorem dx_ty {x : Str} {T : String} {pp : Pos} (hg : Gl X x) (hm : X.mg x = none) (hv : bootBuiltins x = some (.type T)) (hn : x ≠ "__name__" := by decide) (hd : (x == ("__debug__" : Str)) = false := by decide) : DX X pv W true true (.Name x pp) (mC (.ty T)) :=
  dx_c (pe_bltn (v := .ty T) hg hm hv rfl hn hd) fun _ => .ty T
/-- a constant of the module -/
theorem dx_glob {x : Str} {v : V} {d : D} {u : Value} {pp : Pos} (hg : Gl X x) (hm : X.mg x = some u) (r : RelV v u) (hr : ∀ F, Rep X.K F v d) (hd : (x == ("__debug__" : Str)) = false := by decide) : DX X pv W true true (.Name x pp) (mC d) :=
  dx_c (pe_glob hg hm r hd) hr

/-! ### subscripts -/
def dIx : D → D → Option D
  | .lst xs, .int i => atI xs i
  | .tup xs, .int i => atI xs i
  | .ktu xs, .int i => atI xs i
  | .scr ns, .int i => (atI ns i).map .int
  | .str z, .int i => if z.length ≤ 16777216 then (atI z.cps.toList i).map fun c => .str ⟨#[c]⟩ else none
  | _, _ => none
theorem reps_at {K : PySem.W.Frag} {F : Hp} {vs : List V} {ds : List D} {i : Int} {d : D} (r : Reps K F vs ds) (h : atI ds i = some d) : ∃ v, atI vs i = some v ∧ Rep K F v d := by
  unfold atI at h ⊢
  rw [r.length]
  cases e : ixN ds.length i with
  | none => rw [e] at h; cases h
  | some j =>
    rw [e] at h
    exact r.get h
theorem ix_go {K : PySem.W.Frag} {F H : Hp} {x y : V} {a b c : D} (hF : Same F H) (ra : Rep K F x a) (rb : Rep K H y b) (h : dIx a b = some c) : ∃ v, Rep K F v c ∧ ∀ Q : VK, Q v H → rIx K x y H Q := by
  unfold dIx at h
  split at h
  · cases rb
    cases ra with
    | lst s t =>
      obtain ⟨v, h1, h2⟩ := reps_at t h
      exact ⟨v, h2, fun Q q => .inl ⟨_, _, _, v, rfl, rfl, hF.seq (.inl s), h1, q⟩⟩
  · cases rb
    cases ra with
    | tup s t =>
      obtain ⟨v, h1, h2⟩ := reps_at t h
      exact ⟨v, h2, fun Q q => .inr (.inl ⟨_, _, _, v, rfl, rfl, .inl (.inl (hF _ _ s)), h1, q⟩)⟩
  · cases rb
    cases ra with
    | ktu s t =>
      obtain ⟨v, h1, h2⟩ := reps_at t h
      exact ⟨v, h2, fun Q q => .inr (.inl ⟨_, _, _, v, rfl, rfl, Same.sqt hF s, h1, q⟩)⟩
  · cases rb
    cases ra with
    | scr s =>
      obtain ⟨n, e, h⟩ := Option.map_eq_some_iff.mp h
      subst h
      exact ⟨_, .int n, fun Q q => .inl ⟨_, _, _, .int n, rfl, rfl, hF.seq s, by unfold atI at e ⊢; rw [List.length_map]; cases e2 : ixN _ _ with
        | none => rw [e2] at e; cases e
        | some j => rw [e2] at e; show (List.map V.int _)[j]? = _; rw [List.getElem?_map]; have e : _[j]? = some n := e; rw [e]; rfl, q⟩⟩
  · cases rb
    cases ra
    split at h
    · rename_i hl
      obtain ⟨c', e, h⟩ := Option.map_eq_some_iff.mp h
      subst h
      exact ⟨_, .str _, fun Q q => .inr (.inr ⟨_, _, c', rfl, rfl, by rw [sizeLine_eq]; exact hl, e, q⟩)⟩
    · cases h
  · cases h
theorem dx_ix {ma mb : SD → ER D} (ha : DX X pv W p k a ma) (hb : DX X pv W q l b mb) (hk : (k || q) = true := by rfl) (hs : PlainIx b := by exact fun _ _ => rfl) : DX X pv W (p && q) k (.Subscript a b pos) (mOp dIx ma mb) := by
  obtain ⟨ta, a1, a2⟩ := ha
  obtain ⟨tb, b1, b2⟩ := hb
  refine ⟨_, pe_ix ix_seq a1 b1 hs, fun G F sd σ H Q s => ?_⟩
  refine Meets.bind (a2 G F sd σ H _ s) fun x F1 H1 dx sd1 s1 s2 s3 s4 => ?_
  refine Meets.bindL (b2 G F1 sd1 σ H1 _ s2) fun y F2 H2 dy sd2 t1 t2 t3 t4 => ?_
  cases e : dIx dx dy with
  | none => exact True.intro
  | some c =>
    cases k with
    | true =>
      obtain ⟨v, h1, h2⟩ := ix_go t2.fh (Rep.mono t1 (show Rep X.K F1 x dx from s3)) (RSx.see t3 t2) e
      exact Meets.here t2 (show RSx X.K true G F2 sd2 H2 σ v c from h1) (h2 Q)
    | false =>
      obtain ⟨v, h1, h2⟩ := ix_go (Same.refl H2) (Rep.mono (t4 (by simpa using hk)).1 (show Rep X.K H1 x dx from s3)) (RSx.see t3 t2) e
      exact Meets.here t2 (show RSx X.K false G F2 sd2 H2 σ v c from h1) (h2 Q)
/-- a flat value that was seen is frozen -/
def mFlat (a : SD → ER D) : SD → ER D := fun sd => (a sd).bind fun x sd1 => if x.sc.isSome = true then .ok x sd1 else .bad
theorem rep_flat {K : PySem.W.Frag} {F H : Hp} {v : V} {d : D} (r : Rep K H v d) (h : d.sc.isSome = true) : Rep K F v d := by
  cases r <;> first | (simp [D.sc] at h; done) | constructor
theorem DX.flat {m : SD → ER D} (h : DX X pv W p k e m) : DX X pv W p true e (mFlat m) := by
  obtain ⟨te, h1, h2⟩ := h
  refine ⟨te, h1, fun G F sd σ H Q s => ?_⟩
  have z := h2 G F sd σ H Q s
  unfold mFlat
  revert z
  cases m sd with
  | bad => exact id
  | rz x sd1 => exact id
  | ok d sd1 =>
    intro z
    show Meets X.K pv W G σ (RSx X.K true) p sd F H (if d.sc.isSome = true then .ok d sd1 else .bad) Q _
    split
    · rename_i hf
      exact fun hQ => z fun v F1 H1 s1 s2 s3 s4 => hQ v F1 H1 s1 s2 (rep_flat (RSx.see s3 s2) hf) s4
    · exact True.intro

/-! ### lists to be read: their items are frozen -/
def RSq (K : PySem.W.Frag) (k : Bool) : RSt V (List D) := fun _ F _ H _ v ds => ∃ a vs, v = .ref a ∧ Rd (if k = true then F else H) a (.lst vs) ∧ Reps K F vs ds
def TrQ (K : PySem.W.Frag) (pv : List V) (W : WX) (p k : Bool) (te : TE) (m : SD → ER (List D)) : Prop := ∀ G F sd σ H Q, StR K pv G F sd σ H → Meets K pv W G σ (RSq K k) p sd F H (m sd) Q (te σ H Q)
structure DQ (X : Cx) (pv : List V) (W : WX) (p k : Bool) (e : Expr) (m : SD → ER (List D)) : Prop where
  ex : ∃ te, PE X e te ∧ TrQ X.K pv W p k te m
def qFz (a : SD → ER D) : SD → ER (List D) := fun sd => (a sd).bind fun x sd1 => match x with
  | .lst ds => .ok ds sd1
  | _ => .bad
/-- the items, if they are all frozen -/
def fzOf : List OT → Option (List D)
  | [] => some []
  | .fz d :: r => (fzOf r).map (d :: ·)
  | _ => none
theorem fzOf_map : ∀ ds : List D, fzOf (ds.map OT.fz) = some ds
  | [] => rfl
  | d :: ds => by rw [List.map_cons, fzOf, fzOf_map ds]; rfl
theorem fzOf_eq : ∀ {ts : List OT} {ds : List D}, fzOf ts = some ds → ts = ds.map OT.fz
  | [], ds, h => by cases h; rfl
  | .fz d :: r, ds, h => by
    rw [fzOf] at h
    obtain ⟨es, e, h⟩ := Option.map_eq_some_iff.mp h
    subst h
    rw [fzOf_eq e]; rfl
  | .ol _ :: _, _, h => by simp [fzOf] at h
  | .od _ _ _ :: _, _, h => by simp [fzOf] at h
  | .oi _ _ _ :: _, _, h => by simp [fzOf] at h
def SD.tree (sd : SD) (i : Nat) : Option OT := match sd.sl[i]? with
  | some (.ow t) => some t
  | some (.pa j) => sd.pa[j]?
  | _ => none
def OT.items : OT → Option (List D)
  | .ol ts => fzOf ts
  | .fz (.lst ds) => some ds
  | _ => none
def qSee (i : Nat) : SD → ER (List D) := fun sd => ER.opt ((sd.tree i).bind OT.items) sd
def qNew (a : SD → ER OT) : SD → ER (List D) := fun sd => (a sd).bind fun t sd1 => ER.opt t.items sd1
theorem items_rep {K : PySem.W.Frag} {F H : Hp} {t : OT} {v : V} {P : Addr → Prop} {ds : List D} (hF : Same F H) (r : RepO K F H t v P) (h : t.items = some ds) : ∃ a vs, v = .ref a ∧ Rd H a (.lst vs) ∧ Reps K F vs ds := by
  cases t with
  | ol ts =>
    have h : fzOf ts = some ds := h
    have e := fzOf_eq h
    subst e
    unfold RepO at r
    obtain ⟨a, vs, rfl, _, h1, h2⟩ := r
    exact ⟨a, vs, rfl, .inl h1, repOs_fz h2⟩
  | fz d =>
    unfold RepO at r
    cases d with
    | lst es =>
      have h : some es = some ds := h
      cases h
      cases r with
      | lst s t => exact ⟨_, _, rfl, Same.rd hF s, t⟩
    | _ => cases h
  | od _ _ _ => cases h
  | oi _ _ _ => cases h
theorem StR.tree {K : PySem.W.Frag} {G F H : Hp} {sd : SD} {σ : L2.St} {i : Nat} {t : OT} (s : StR K pv G F sd σ H) (h : sd.tree i = some t) : ∃ v P, σ[i]? = some (some v) ∧ RepO K F H t v P := by
  obtain ⟨o, w⟩ := s
  unfold SD.tree at h
  split at h
  · rename_i t' e
    cases h
    obtain ⟨v, h1, h2⟩ := w.sl i _ e
    exact ⟨v, _, h1, h2⟩
  · rename_i j e
    obtain ⟨v, h1, h2⟩ := w.sp i j e
    obtain ⟨v', h3, h4⟩ := w.pr j t h
    rw [h1] at h3; cases h3
    exact ⟨v, _, h2, h4⟩
  · cases h
theorem DX.dq {m : SD → ER D} (h : DX X pv W p true e m) : DQ X pv W p true e (qFz m) := by
  obtain ⟨te, h1, h2⟩ := h
  refine ⟨te, h1, fun G F sd σ H Q s => ?_⟩
  have z := h2 G F sd σ H Q s
  unfold qFz
  revert z
  cases m sd with
  | bad => exact id
  | rz x sd1 => exact id
  | ok d sd1 =>
    intro z
    cases d with
    | lst ds =>
      intro hQ
      refine z fun v F1 H1 s1 s2 s3 s4 => hQ v F1 H1 s1 s2 ?_ s4
      have s3 : Rep X.K F1 v (.lst ds) := s3
      cases s3 with
      | lst s t => exact ⟨_, _, rfl, s, t⟩
    | _ => exact True.intro
theorem dq_see {i : Nat} {x : Str} {pp : Pos} (h : PE X (.Name x pp) (tVar i)) : DQ X pv W true false (.Name x pp) (qSee i) := by
  refine ⟨_, h, fun G F sd σ H Q s => ?_⟩
  unfold qSee
  cases e : sd.tree i with
  | none => exact True.intro
  | some t =>
    cases e2 : t.items with
    | none =>
      show Meets X.K pv W G σ (RSq X.K false) true sd F H (ER.opt (t.items) sd) Q _
      rw [e2]; exact True.intro
    | some ds =>
      show Meets X.K pv W G σ (RSq X.K false) true sd F H (ER.opt (t.items) sd) Q _
      rw [e2]
      obtain ⟨v, P, h1, h2⟩ := s.tree e
      exact Meets.here s (show RSq X.K false G F sd H σ v ds from items_rep s.fh h2 e2) fun q => ⟨v, h1, q⟩
theorem DO.dq {m : SD → ER OT} (h : DO X pv W p e m) : DQ X pv W p false e (qNew m) := by
  obtain ⟨te, h1, h2⟩ := h
  refine ⟨te, h1, fun G F sd σ H Q s => ?_⟩
  have z := h2 G F sd σ H Q s
  unfold qNew
  revert z
  cases m sd with
  | bad => exact id
  | rz x sd1 => exact id
  | ok t sd1 =>
    intro z
    show Meets X.K pv W G σ (RSq X.K false) p sd F H (ER.opt t.items sd1) Q _
    cases e2 : t.items with
    | none => exact True.intro
    | some ds =>
      intro hQ
      refine z fun v F1 H1 s1 s2 s3 s4 => hQ v F1 H1 s1 s2 ?_ s4
      obtain ⟨o, P, w, r, _⟩ := s3
      exact items_rep w.fh r e2
theorem RSq.see {K : PySem.W.Frag} {k : Bool} {G F H : Hp} {sd : SD} {σ : L2.St} {v : V} {ds : List D} (r : RSq K k G F sd H σ v ds) (s : StR K pv G F sd σ H) : ∃ a vs, v = .ref a ∧ Rd H a (.lst vs) ∧ Reps K F vs ds := by
  obtain ⟨a, vs, e, h1, h2⟩ := r
  refine ⟨a, vs, e, ?_, h2⟩
  cases k with
  | true => exact Same.rd s.fh h1
  | false => exact h1
/-- carried on to a later heap -/
theorem RSq.on {K : PySem.W.Frag} {k q : Bool} {G F H F2 H2 : Hp} {sd sd2 sd3 : SD} {σ : L2.St} {v : V} {ds : List D} (r : RSq K k G F sd H σ v ds) (hk : (k || q) = true) (t1 : Same F F2) (t2 : StR K pv G F2 sd2 σ H2) (t4 : q = true → Same H H2 ∧ sd2 = sd3) : ∃ a vs, v = .ref a ∧ Rd H2 a (.lst vs) ∧ Reps K F2 vs ds := by
  obtain ⟨a, vs, e, h1, h2⟩ := r
  refine ⟨a, vs, e, ?_, h2.mono t1⟩
  cases k with
  | true => exact Same.rd t2.fh (Same.rd t1 h1)
  | false => exact Same.rd (t4 (by simpa using hk)).1 h1
/-- l[i] -/
def mAt (a : SD → ER (List D)) (b : SD → ER D) : SD → ER D := fun sd => (a sd).bind fun ds sd1 => (b sd1).bind fun y sd2 => match y with
  | .int i => ER.opt (atI ds i) sd2
  | _ => .bad
theorem dx_at {ma : SD → ER (List D)} {mb : SD → ER D} (ha : DQ X pv W p k a ma) (hb : DX X pv W q l b mb) (hk : (k || q) = true := by rfl) (hs : PlainIx b := by exact fun _ _ => rfl) : DX X pv W (p && q) true (.Subscript a b pos) (mAt ma mb) := by
  obtain ⟨ta, a1, a2⟩ := ha
  obtain ⟨tb, b1, b2⟩ := hb
  refine ⟨_, pe_ix ix_list a1 b1 hs, fun G F sd σ H Q s => ?_⟩
  refine Meets.bind (a2 G F sd σ H _ s) fun x F1 H1 ds sd1 s1 s2 s3 s4 => ?_
  refine Meets.bindL (b2 G F1 sd1 σ H1 _ s2) fun y F2 H2 dy sd2 t1 t2 t3 t4 => ?_
  have r := RSx.see t3 t2
  cases dy with
  | int i =>
    cases r
    show Meets X.K pv W G σ (RSx X.K true) true sd2 F2 H2 (ER.opt (atI ds i) sd2) Q _
    cases e : atI ds i with
    | none => exact True.intro
    | some c =>
      obtain ⟨aa, vs, rfl, h1, h2⟩ := s3.on hk t1 t2 t4
      obtain ⟨v, h3, h4⟩ := reps_at h2 e
      exact Meets.here t2 (show RSx X.K true G F2 sd2 H2 σ v c from h4) fun q => ⟨aa, vs, i, v, rfl, rfl, .inl h1, h3, q⟩
  | _ => exact True.intro
/-- l + m, a new list -/
def mCat (a b : SD → ER (List D)) : SD → ER OT := fun sd => (a sd).bind fun xs sd1 => (b sd1).bind fun ys sd2 => if xs.length + ys.length ≤ 16777216 then .ok (.ol ((xs ++ ys).map .fz)) sd2 else .bad
end
end DL

/-! DL7: lists put together, slices. -/
namespace DL
open PySem PySem.Spec L2
open PyProof.Rows (Subscript_ tail_any)
section
variable {X : Cx} {pv : List V} {W : WX} {p q k l : Bool} {e a b c : Expr} {es : List Expr} {pos : Pos}
/-- a list's object by what may be read -/
theorem rd_list {pins : List (Addr × Obj)} {σ : L2.St} {H : Hp} {s : Shared} {a : Addr} {xs : List V} (I : Inv X pins σ H s) (h : Rd H a (.lst xs)) :
    xs.length ≤ sizeLine ∧ ∃ (its : List Value) (n : Nat), Vals xs its ∧ xs.length = its.length ∧ s.heap.get? a = some { cls := .type "list", data := .seq its.toArray n } := by
  obtain ⟨z, its, n, r, e⟩ := (show ObjOk X.prog X.w H s.heap a (.lst xs) from h.ok I.hok)
  exact ⟨z, its, n, r, r.length, e⟩
def rCatR : R2 := fun x y H Q => ∃ l b xs zs, x = .ref l ∧ y = .ref b ∧ Rd H l (.lst xs) ∧ Rd H b (.lst zs) ∧ xs.length + zs.length ≤ sizeLine ∧ ∀ p, H p = none → Q (.ref p) (upd H p (.lst (xs ++ zs)))
theorem op_catR : OpR X (binaryOp .Add) rCatR := by
  intro pins s σ H x y v u Q I rx ry h
  obtain ⟨l, b, xs, zs, rfl, rfl, hH, hB, hz, q⟩ := h
  cases rx
  cases ry
  obtain ⟨z, its, n, r, hl, e⟩ := rd_list I hH
  obtain ⟨z2, its2, n2, r2, hl2, e2⟩ := rd_list I hB
  refine PySem.P.add_list e e2 ?_ (by rw [List.size_toArray, List.size_toArray]; omega)
  have ea : its.toArray ++ its2.toArray = (its ++ its2).toArray := by simp
  rw [ea]
  exact ⟨.ref _, _, I.lnew (t' := s.toks) (r.append r2) (by rw [List.length_append]; omega), rfl, q _ I.fresh⟩
theorem tr_cat {ta tb : TE} {ma mb : SD → ER (List D)} (ha : TrQ X.K pv W p k ta ma) (hb : TrQ X.K pv W q l tb mb) (hk : (k || q) = true) : TrO X.K pv W (p && q) (tOp rCatR ta tb) (mCat ma mb) := by
  intro G F sd σ H Q s
  refine Meets.bind (ha G F sd σ H _ s) fun x F1 H1 xs sd1 s1 s2 s3 s4 => ?_
  refine Meets.bindL (hb G F1 sd1 σ H1 _ s2) fun y F2 H2 ys sd2 t1 t2 t3 t4 => ?_
  split
  · rename_i hz
    intro hQ
    obtain ⟨aa, vs, rfl, h1, h2⟩ := s3.on hk t1 t2 t4
    obtain ⟨bb, ws, rfl, h3, h4⟩ := t3.see t2
    refine ⟨aa, bb, vs, ws, rfl, rfl, h1, h3, by rw [h2.length, h4.length, sizeLine_eq]; exact hz, fun p hp => ?_⟩
    have z := t2.newL hp (h2.append h4)
    exact hQ _ _ _ (Same.refl _) z.drop z fun _ => ⟨Same.upd hp, rfl⟩
  · exact True.intro
theorem do_cat {ma mb : SD → ER (List D)} (ha : DQ X pv W p k a ma) (hb : DQ X pv W q l b mb) (hk : (k || q) = true := by rfl) : DO X pv W (p && q) (.BinOp a .Add b pos) (mCat ma mb) := by
  obtain ⟨ta, a1, a2⟩ := ha
  obtain ⟨tb, b1, b2⟩ := hb
  exact ⟨_, pe_op op_catR a1 b1, tr_cat a2 b2 hk⟩

/-! ### slices -/
def TrP (K : PySem.W.Frag) (pv : List V) (W : WX) (p : Bool) (to : TO) (m : SD → ER (Option Int)) : Prop := ∀ G F sd σ H Q, StR K pv G F sd σ H → Meets K pv W G σ (fun _ _ _ _ _ (v d : Option Int) => v = d) p sd F H (m sd) Q (to σ H Q)
structure DP (X : Cx) (pv : List V) (W : WX) (p : Bool) (e : Option Expr) (m : SD → ER (Option Int)) : Prop where
  ex : ∃ to, PO X e to ∧ TrP X.K pv W p to m
def oNone : SD → ER (Option Int) := fun sd => .ok none sd
def oSome (a : SD → ER D) : SD → ER (Option Int) := fun sd => (a sd).bind fun x sd1 => match x with
  | .int i => .ok (some i) sd1
  | _ => .bad
theorem dp_none : DP X pv W true none oNone := ⟨_, po_none, fun G F sd σ H Q s => Meets.here s rfl id⟩
theorem dp_some {m : SD → ER D} (h : DX X pv W p k e m) : DP X pv W p (some e) (oSome m) := by
  obtain ⟨te, a1, a2⟩ := h
  refine ⟨_, po_some a1, fun G F sd σ H Q s => ?_⟩
  refine Meets.bindL (a2 G F sd σ H _ s) fun x F1 H1 dx sd1 s1 s2 s3 s4 => ?_
  have r := RSx.see s3 s2
  cases dx with
  | int i =>
    cases r
    exact Meets.here s2 rfl fun q => ⟨i, rfl, q⟩
  | _ => exact True.intro
def cutL {α : Type} (xs : List α) (lo hi : Option Int) : List α := (xs.drop (HT.sIx xs.length 0 lo)).take (HT.sIx xs.length xs.length hi - HT.sIx xs.length 0 lo)
theorem reps_cut {K : PySem.W.Frag} {F : Hp} {vs : List V} {ds : List D} (lo hi : Option Int) (r : Reps K F vs ds) : Reps K F (cutV vs lo hi) (cutL ds lo hi) := by
  unfold cutV cutL
  rw [r.length]
  exact (r.drop _).take _
/-- l[lo:hi], a new list -/
def mCut (a : SD → ER (List D)) (lo hi : SD → ER (Option Int)) : SD → ER OT := fun sd => (a sd).bind fun xs sd1 => (lo sd1).bind fun i sd2 => (hi sd2).bind fun j sd3 => .ok (.ol ((cutL xs i j).map .fz)) sd3
theorem do_cut {lo hi : Option Expr} {p2 : Pos} {ma : SD → ER (List D)} {ml mh : SD → ER (Option Int)} {q1 q2 : Bool} (ha : DQ X pv W p k a ma) (hl : DP X pv W q1 lo ml) (hh : DP X pv W q2 hi mh) (hk : (k || (q1 && q2)) = true := by rfl) :
    DO X pv W (p && (q1 && q2)) (.Subscript a (.Slice lo hi none p2) pos) (mCut ma ml mh) := by
  obtain ⟨ta, a1, a2⟩ := ha
  obtain ⟨tl, b1, b2⟩ := hl
  obtain ⟨th, c1, c2⟩ := hh
  refine ⟨_, pe_slice sl_list a1 b1 c1, fun G F sd σ H Q s => ?_⟩
  refine Meets.bind (a2 G F sd σ H _ s) fun x F1 H1 xs sd1 s1 s2 s3 s4 => ?_
  refine Meets.bind (b2 G F1 sd1 σ H1 _ s2) fun i F2 H2 i' sd2 t1 t2 t3 t4 => ?_
  refine Meets.bindL (c2 G F2 sd2 σ H2 _ t2) fun j F3 H3 j' sd3 u1 u2 u3 u4 => ?_
  have t3 : i = i' := t3
  have u3 : j = j' := u3
  subst t3 u3
  intro hQ
  have s34 : (q1 && q2) = true → Same H1 H3 ∧ sd3 = sd1 := fun z => by
    rw [Bool.and_eq_true] at z
    obtain ⟨x1, x2⟩ := t4 z.1
    obtain ⟨y1, y2⟩ := u4 z.2
    exact ⟨x1.trans y1, y2.trans x2⟩
  obtain ⟨aa, vs, rfl, h1, h2⟩ := s3.on hk (t1.trans u1) u2 s34
  refine ⟨aa, vs, rfl, .inl h1, fun p hp => ?_⟩
  have z := u2.newL hp (reps_cut i j h2)
  exact hQ _ _ _ (Same.refl _) z.drop z fun _ => ⟨Same.upd hp, rfl⟩
/-- t[lo:hi] of a frozen list, a tuple, a text -/
def mCutX (a : SD → ER D) (lo hi : SD → ER (Option Int)) : SD → ER D := fun sd => (a sd).bind fun x sd1 => (lo sd1).bind fun i sd2 => (hi sd2).bind fun j sd3 => match x with
  | .lst xs => .ok (.lst (cutL xs i j)) sd3
  | .tup xs => .ok (.tup (cutL xs i j)) sd3
  | .ktu xs => if HT.sIx xs.length 0 i = 0 ∧ HT.sIx xs.length xs.length j = xs.length then .bad else .ok (.tup (cutL xs i j)) sd3
  | .str z => if z.length ≤ 16777216 then .ok (.str (cutS z i j)) sd3 else .bad
  | _ => .bad
theorem cut_whole {α : Type} {xs : List α} {lo hi : Option Int} (h : HT.sIx xs.length 0 lo = 0 ∧ HT.sIx xs.length xs.length hi = xs.length) : cutL xs lo hi = xs := by
  unfold cutL
  rw [h.1, h.2]
  simp
theorem sl_any : SlR X (fun x lo hi H Q => rSlL X.K x lo hi H Q ∨ (rSlA X.K x lo hi H Q ∨ rSlS x lo hi H Q)) := sl_list.or (sl_tupA.or sl_str)
theorem dx_cut {lo hi : Option Expr} {p2 : Pos} {ma : SD → ER D} {ml mh : SD → ER (Option Int)} {q1 q2 : Bool} (ha : DX X pv W p true a ma) (hl : DP X pv W q1 lo ml) (hh : DP X pv W q2 hi mh) :
    DX X pv W (p && (q1 && q2)) true (.Subscript a (.Slice lo hi none p2) pos) (mCutX ma ml mh) := by
  obtain ⟨ta, a1, a2⟩ := ha
  obtain ⟨tl, b1, b2⟩ := hl
  obtain ⟨th, c1, c2⟩ := hh
  refine ⟨_, pe_slice sl_any a1 b1 c1, fun G F sd σ H Q s => ?_⟩
  refine Meets.bind (a2 G F sd σ H _ s) fun x F1 H1 dx sd1 s1 s2 s3 s4 => ?_
  refine Meets.bind (b2 G F1 sd1 σ H1 _ s2) fun i F2 H2 i' sd2 t1 t2 t3 t4 => ?_
  refine Meets.bindL (c2 G F2 sd2 σ H2 _ t2) fun j F3 H3 j' sd3 u1 u2 u3 u4 => ?_
  have t3 : i = i' := t3
  have u3 : j = j' := u3
  subst t3 u3
  have rx : Rep X.K F3 x dx := Rep.mono (t1.trans u1) (show Rep X.K F1 x dx from s3)
  cases dx with
  | lst xs =>
    intro hQ
    cases rx with
    | @lst aa vs _ h1 h2 =>
      refine .inl ⟨aa, vs, rfl, .inl (Same.rd u2.fh h1), fun p hp => ?_⟩
      exact hQ _ _ _ (u2.sameNew hp) (u2.new hp) (.lst (.inl upd_same) ((reps_cut i j h2).mono (u2.sameNew hp))) fun _ => ⟨Same.upd hp, rfl⟩
  | tup xs =>
    intro hQ
    cases rx with
    | @tup aa vs _ h1 h2 =>
      refine .inr (.inl ⟨aa, vs, rfl, .inl (.inl (u2.fh _ _ h1)), fun hw => ?_, fun hw p hp => ?_⟩)
      · refine hQ _ _ _ (Same.refl _) u2 ?_ fun _ => ⟨Same.refl _, rfl⟩
        rw [h2.length] at hw
        rw [cut_whole hw]
        exact .tup h1 h2
      · exact hQ _ _ _ (u2.sameNew hp) (u2.new hp) (.tup upd_same ((reps_cut i j h2).mono (u2.sameNew hp))) fun _ => ⟨Same.upd hp, rfl⟩
  | ktu xs =>
    show Meets X.K pv W G σ (RSx X.K true) true sd3 F3 H3 (if HT.sIx xs.length 0 i = 0 ∧ HT.sIx xs.length xs.length j = xs.length then .bad else .ok (.tup (cutL xs i j)) sd3) Q _
    split
    · exact True.intro
    · rename_i hnw
      intro hQ
      cases rx with
      | @ktu aa vs _ h1 h2 =>
        refine .inr (.inl ⟨aa, vs, rfl, Same.sqt u2.fh h1, fun hw => absurd (by rw [h2.length] at hw; exact hw) hnw, fun hw p hp => ?_⟩)
        exact hQ _ _ _ (u2.sameNew hp) (u2.new hp) (.tup upd_same ((reps_cut i j h2).mono (u2.sameNew hp))) fun _ => ⟨Same.upd hp, rfl⟩
  | str z =>
    cases rx
    show Meets X.K pv W G σ (RSx X.K true) true sd3 F3 H3 (if z.length ≤ 16777216 then .ok (.str (cutS z i j)) sd3 else .bad) Q _
    split
    · rename_i hz
      exact Meets.here u2 (show RSx X.K true G F3 sd3 H3 σ _ _ from .str _) fun q => .inr (.inr ⟨z, rfl, by rw [sizeLine_eq]; exact hz, q⟩)
    · exact True.intro
  | _ => exact True.intro
/-- l[lo:hi:st] -/
def pickL {α : Type} (xs : List α) (lo hi st : Option Int) : List α := (sliceRange (sliceBounds lo hi st xs.length).1 (sliceBounds lo hi st xs.length).2.1 (sliceBounds lo hi st xs.length).2.2).filterMap (xs[·]?)
def tSl3 (K : PySem.W.Frag) (te : TE) (tl th ts : TO) : TE := fun σ H Q => te σ H fun x H1 => tl σ H1 fun l H2 => th σ H2 fun u H3 => ts σ H3 fun o H4 => ∃ a xs, x = .ref a ∧ Rd H4 a (.lst xs) ∧ o ≠ some 0 ∧ ∀ p, H4 p = none → Q (.ref p) (upd H4 p (.lst (pickL xs l u o)))
theorem vals_pick {xs : List V} {us : List Value} (r : Vals xs us) : ∀ ks : List Nat, Vals (ks.filterMap (xs[·]?)) (ks.filterMap (us[·]?))
  | [] => .nil
  | k :: ks => by
    rw [List.filterMap_cons, List.filterMap_cons]
    cases e : xs[k]? with
    | none =>
      rw [r.none_of e]
      exact vals_pick r ks
    | some x =>
      obtain ⟨u, h1, h2⟩ := r.get e
      rw [h1]
      exact .cons h2 (vals_pick r ks)
theorem reps_pick {K : PySem.W.Frag} {F : Hp} {vs : List V} {ds : List D} (r : Reps K F vs ds) : ∀ ks : List Nat, Reps K F (ks.filterMap (vs[·]?)) (ks.filterMap (ds[·]?))
  | [] => .nil
  | k :: ks => by
    rw [List.filterMap_cons, List.filterMap_cons]
    cases e : vs[k]? with
    | none =>
      have e2 : ds[k]? = none := by
        rw [List.getElem?_eq_none_iff] at e ⊢
        rw [← r.length]; exact e
      rw [e2]
      exact reps_pick r ks
    | some x =>
      obtain ⟨u, h1, h2⟩ := r.get' e
      rw [h1]
      exact .cons h2 (reps_pick r ks)
theorem pick_len {α : Type} (xs : List α) (ks : List Nat) : (ks.filterMap (xs[·]?)).length ≤ ks.length := List.length_filterMap_le _ _
theorem pe_slice3 {e : Expr} {te : TE} {lo hi : Option Expr} {st : Expr} {tl th ts : TO} {p3 pos : Pos} (he : PE X e te) (hl : PO X lo tl) (hh : PO X hi th) (hst : PO X (some st) ts) : PE X (.Subscript e (.Slice lo hi (some st) p3) pos) (tSl3 X.K te tl th ts) := by
  refine ⟨fun pins s σ H Q I h => ?_⟩
  refine Subscript_ (thn (he.run pins s σ H _ I h) fun v s1 ⟨x, H1, I1, r1, q1⟩ => ?_)
  refine wpAny_Slice (thn (hl.run pins s1 σ H1 _ I1 q1) fun vl s2 ⟨l, H2, I2, pl, q2⟩ => ?_)
  refine thn (hh.run pins s2 σ H2 _ I2 q2) fun vu s3 ⟨u, H3, I3, pu, q3⟩ => ?_
  refine thn (hst.run pins s3 σ H3 _ I3 q3) fun vs s4 ⟨o, H4, I4, ps, q4⟩ => ?_
  obtain ⟨a, xs, ex, hx, ho, q⟩ := q4
  subst ex
  cases r1
  have I5 : Inv X pins σ H4 { s4 with heap := s4.heap.push { cls := .type "slice", data := .fields #[vl, vu, vs] } } := I4.kept (t' := s4.toks) fun b ob q => Heap.get?_push_of_some _ q
  obtain ⟨its, r, ht, hz⟩ := I5.list (.inl hx)
  have hlen := r.length
  show wpAny (model X.prog X.w) X.A (PyProof.Rows.subscriptTail e (.Slice lo hi (some st) p3) (.ref a) (.ref s4.heap.objs.size)) (EP X pins σ Q) X.xe { s4 with heap := s4.heap.push { cls := .type "slice", data := .fields #[vl, vu, vs] } }
  refine tail_any (ops := [.ref a, .ref s4.heap.objs.size]) ht.isList.typeIs (PySem.slot_list_getitem.lookup) ?_ (by with_unfolding_all rfl)
  refine wpAny_getItem_list_slice ht.isList (Heap.IsSliceOf.new _ vl vu vs) pl pu ps ho ?_ (by rw [List.size_toArray]; omega)
  have ep : slicePick its.toArray l u o = ((sliceRange (sliceBounds l u o xs.length).1 (sliceBounds l u o xs.length).2.1 (sliceBounds l u o xs.length).2.2).filterMap (its[·]?)).toArray := by
    unfold slicePick
    rw [List.size_toArray, hlen]
    congr 1
    congr 1
    funext i
    simp
  rw [ep]
  have hr : Vals (pickL xs l u o) _ := vals_pick r _
  refine ⟨.ref _, _, I5.laid (t' := s4.toks) (o := .lst (pickL xs l u o)) (fun b ob q => Heap.get?_push_of_some _ q) (Nat.le_refl _) ?_, rfl, q _ (I5.hok.fresh (Nat.le_refl _))⟩
  refine ⟨?_, _, 0, hr, Heap.get?_push_size _ rfl⟩
  have hs := slicePick_size_le its.toArray l u o
  rw [ep, List.size_toArray, List.size_toArray] at hs
  rw [hr.length]
  omega
def mPick (a : SD → ER (List D)) (lo hi st : SD → ER (Option Int)) : SD → ER OT := fun sd => (a sd).bind fun xs sd1 => (lo sd1).bind fun i sd2 => (hi sd2).bind fun j sd3 => (st sd3).bind fun o sd4 => if o = some 0 then .bad else .ok (.ol ((pickL xs i j o).map .fz)) sd4
theorem do_pick {lo hi : Option Expr} {st : Expr} {p3 : Pos} {ma : SD → ER (List D)} {ml mh ms : SD → ER (Option Int)} {q1 q2 q3 : Bool} (ha : DQ X pv W p k a ma) (hl : DP X pv W q1 lo ml) (hh : DP X pv W q2 hi mh) (hs : DP X pv W q3 (some st) ms) (hk : (k || (q1 && (q2 && q3))) = true := by rfl) :
    DO X pv W (p && (q1 && (q2 && q3))) (.Subscript a (.Slice lo hi (some st) p3) pos) (mPick ma ml mh ms) := by
  obtain ⟨ta, a1, a2⟩ := ha
  obtain ⟨tl, b1, b2⟩ := hl
  obtain ⟨th, c1, c2⟩ := hh
  obtain ⟨ts, d1, d2⟩ := hs
  refine ⟨_, pe_slice3 a1 b1 c1 d1, fun G F sd σ H Q s => ?_⟩
  refine Meets.bind (a2 G F sd σ H _ s) fun x F1 H1 xs sd1 s1 s2 s3 s4 => ?_
  refine Meets.bind (b2 G F1 sd1 σ H1 _ s2) fun i F2 H2 i' sd2 t1 t2 t3 t4 => ?_
  refine Meets.bind (c2 G F2 sd2 σ H2 _ t2) fun j F3 H3 j' sd3 u1 u2 u3 u4 => ?_
  refine Meets.bindL (d2 G F3 sd3 σ H3 _ u2) fun o F4 H4 o' sd4 v1 v2 v3 v4 => ?_
  have t3 : i = i' := t3
  have u3 : j = j' := u3
  have v3 : o = o' := v3
  subst t3 u3 v3
  split
  · exact True.intro
  · rename_i ho
    intro hQ
    have s34 : (q1 && (q2 && q3)) = true → Same H1 H4 ∧ sd4 = sd1 := fun z => by
      rw [Bool.and_eq_true, Bool.and_eq_true] at z
      obtain ⟨x1, x2⟩ := t4 z.1
      obtain ⟨y1, y2⟩ := u4 z.2.1
      obtain ⟨w1, w2⟩ := v4 z.2.2
      exact ⟨(x1.trans y1).trans w1, (w2.trans y2).trans x2⟩
    obtain ⟨aa, vs, rfl, h1, h2⟩ := s3.on hk ((t1.trans u1).trans v1) v2 s34
    refine ⟨aa, vs, rfl, h1, ho, fun p hp => ?_⟩
    have hr : Reps X.K F4 (pickL vs i j o) (pickL xs i j o) := by
      unfold pickL
      rw [h2.length]
      exact reps_pick h2 _
    have z := v2.newL hp hr
    exact hQ _ _ _ (Same.refl _) z.drop z fun _ => ⟨Same.upd hp, rfl⟩
end
end DL

/-! DL8: targets, what is walked, for, while, comprehensions. -/
namespace DL
open PySem PySem.Spec L2

/-! ### what is wanted of a statement's end -/
def Wants (K : PySem.W.Frag) (pv : List V) (W : WX) (G F : Hp) (r : Fl) (D : Ends) : Prop :=
  match r with
  | .nx sd' => ∀ F' σ' H', Same F F' → StR K pv G F' sd' σ' H' → D.nx σ' H'
  | .rt t sd' => ∀ v F' σ' H', Same F F' → StR1 K pv G F' sd' σ' H' v t → D.rt v H'
  | .bk sd' => ∀ F' σ' H', Same F F' → StR K pv G F' sd' σ' H' → D.bk σ' H'
  | .ct sd' => ∀ F' σ' H', Same F F' → StR K pv G F' sd' σ' H' → D.ct σ' H'
  | .rz x sd' => ∀ cls dd F' σ' H', Same F F' → StR K pv G F' sd' σ' H' → RepX K F' cls dd x → W cls dd σ' H'
  | .bad => False
section
variable {K : PySem.W.Frag} {pv : List V} {W : WX} {G F F1 : Hp} {r : Fl} {D : Ends} {P : Prop}
theorem meetsS_of (h : Wants K pv W G F r D → P) : MeetsS K pv W G F r D P := by
  cases r with
  | bad => exact True.intro
  | _ => exact h
theorem MeetsS.get (h : MeetsS K pv W G F r D P) (w : Wants K pv W G F r D) : P := by
  cases r with
  | bad => exact w.elim
  | _ => exact h w
theorem Wants.mono (e : Same F F1) (w : Wants K pv W G F r D) : Wants K pv W G F1 r D := by
  cases r with
  | bad => exact w
  | nx sd => exact fun F' σ' H' s => w F' σ' H' (e.trans s)
  | bk sd => exact fun F' σ' H' s => w F' σ' H' (e.trans s)
  | ct sd => exact fun F' σ' H' s => w F' σ' H' (e.trans s)
  | rt t sd => exact fun v F' σ' H' s => w v F' σ' H' (e.trans s)
  | rz x sd => exact fun c d F' σ' H' s => w c d F' σ' H' (e.trans s)
end

/-! ### targets -/
def wipeS (l : List S) : List Nat → List S
  | [] => l
  | v :: vs => (wipeS l vs).set v .un
def SD.wipe (sd : SD) (vs : List Nat) : SD := { sd with sl := wipeS sd.sl vs }
def backS (l orig : List S) : List Nat → List S
  | [] => l
  | v :: vs => (backS l orig vs).set v ((orig[v]?).getD .un)
def SD.back (sd orig : SD) (vs : List Nat) : SD := { sd with sl := backS sd.sl orig.sl vs }
theorem wipeS_length (l : List S) : ∀ vs : List Nat, (wipeS l vs).length = l.length
  | [] => rfl
  | v :: vs => by unfold wipeS; rw [List.length_set, wipeS_length l vs]
theorem backS_length (l o : List S) : ∀ vs : List Nat, (backS l o vs).length = l.length
  | [] => rfl
  | v :: vs => by unfold backS; rw [List.length_set, backS_length l o vs]
theorem wipeS_in {l : List S} {i : Nat} : ∀ {vs : List Nat}, i ∈ vs → i < l.length → (wipeS l vs)[i]? = some .un
  | v :: vs, h, hl => by
    unfold wipeS
    by_cases e : v = i
    · subst e
      rw [List.getElem?_set_self (by rw [wipeS_length]; exact hl)]
    · rw [List.getElem?_set_ne e]
      exact wipeS_in ((List.mem_cons.mp h).resolve_left (fun z => e z.symm)) hl
theorem wipeS_out {l : List S} {i : Nat} : ∀ {vs : List Nat}, i ∉ vs → (wipeS l vs)[i]? = l[i]?
  | [], _ => rfl
  | v :: vs, h => by
    unfold wipeS
    rw [List.getElem?_set_ne (fun z => h (by rw [z]; exact List.mem_cons_self))]
    exact wipeS_out fun z => h (List.mem_cons_of_mem _ z)
theorem backS_in {l o : List S} {i : Nat} : ∀ {vs : List Nat}, i ∈ vs → i < l.length → (backS l o vs)[i]? = some ((o[i]?).getD .un)
  | v :: vs, h, hl => by
    unfold backS
    by_cases e : v = i
    · subst e
      rw [List.getElem?_set_self (by rw [backS_length]; exact hl)]
    · rw [List.getElem?_set_ne e]
      exact backS_in ((List.mem_cons.mp h).resolve_left (fun z => e z.symm)) hl
theorem backS_out {l o : List S} {i : Nat} : ∀ {vs : List Nat}, i ∉ vs → (backS l o vs)[i]? = l[i]?
  | [], _ => rfl
  | v :: vs, h => by
    unfold backS
    rw [List.getElem?_set_ne (fun z => h (by rw [z]; exact List.mem_cons_self))]
    exact backS_out fun z => h (List.mem_cons_of_mem _ z)
theorem wipeS_set {l : List S} {i : Nat} {x : S} {vs : List Nat} (h : i ∈ vs) : wipeS (l.set i x) vs = wipeS l vs := by
  refine List.ext_getElem? fun j => ?_
  by_cases hj : j ∈ vs
  · by_cases hl : j < l.length
    · rw [wipeS_in hj (by rw [List.length_set]; exact hl), wipeS_in hj hl]
    · rw [List.getElem?_eq_none (by rw [wipeS_length, List.length_set]; omega), List.getElem?_eq_none (by rw [wipeS_length]; omega)]
  · rw [wipeS_out hj, wipeS_out hj, List.getElem?_set_ne (fun z => hj (by rw [← z]; exact h))]
theorem wipe_set {σ : L2.St} {i : Nat} {v : Option V} : ∀ {vs : List Nat}, i ∈ vs → wipe (σ.set i v) vs = wipe σ vs
  | [], h => by cases h
  | j :: vs, h => by
    unfold wipe
    by_cases hj : i ∈ vs
    · rw [wipe_set hj]
    · have e : i = j := by
        rcases List.mem_cons.mp h with e | h
        · exact e
        · exact absurd h hj
      subst e
      have go : ∀ (us : List Nat), i ∉ us → wipe (σ.set i v) us = (wipe σ us).set i v := fun us => by
        induction us with
        | nil => intro _; rfl
        | cons u us ih =>
          intro hn
          unfold wipe
          rw [ih fun z => hn (List.mem_cons_of_mem _ z), List.set_comm _ _ (fun z => hn (by rw [z]; exact List.mem_cons_self))]
      rw [go vs hj, List.set_set]
structure DG (X : Cx) (is : List Nat) (tg : Expr) (g : D → SD → Option SD) : Prop where
  ex : ∃ t, PG X tg t ∧ ∀ (pv : List V) (G F : Hp) (sd : SD) (σ : L2.St) (H : Hp) (x : V) (d : D) (sd' : SD), StR X.K pv G F sd σ H → Rep X.K F x d → g d sd = some sd' →
    ∃ σ', StR X.K pv G F sd' σ' H ∧ (∀ vs : List Nat, (∀ i ∈ is, i ∈ vs) → wipe σ' vs = wipe σ vs) ∧ ∀ Q : L2.St → Hp → Prop, Q σ' H → t x σ H Q
  wip : ∀ (vs : List Nat), (∀ i ∈ is, i ∈ vs) → ∀ d sd sd', g d sd = some sd' → SD.wipe sd' vs = SD.wipe sd vs
structure DGs (X : Cx) (is : List Nat) (tgs : List Expr) (g : List D → SD → Option SD) : Prop where
  ex : ∃ t, PGs X tgs t ∧ ∀ (pv : List V) (G F : Hp) (sd : SD) (σ : L2.St) (H : Hp) (xs : List V) (ds : List D) (sd' : SD), StR X.K pv G F sd σ H → Reps X.K F xs ds → g ds sd = some sd' →
    ∃ σ', StR X.K pv G F sd' σ' H ∧ (∀ vs : List Nat, (∀ i ∈ is, i ∈ vs) → wipe σ' vs = wipe σ vs) ∧ ∀ Q : L2.St → Hp → Prop, Q σ' H → t xs σ H Q
  wip : ∀ (vs : List Nat), (∀ i ∈ is, i ∈ vs) → ∀ d sd sd', g d sd = some sd' → SD.wipe sd' vs = SD.wipe sd vs
def SD.putFz (sd : SD) (i : Nat) (d : D) : Option SD := if i < sd.sl.length then some { sd with sl := sd.sl.set i (.ow (.fz d)) } else none
def tgN (i : Nat) : D → SD → Option SD := fun d sd => sd.putFz i d
def tgNil : List D → SD → Option SD := fun ds sd => match ds with
  | [] => some sd
  | _ => none
def tgCons (g : D → SD → Option SD) (h : List D → SD → Option SD) : List D → SD → Option SD := fun ds sd => match ds with
  | d :: r => (g d sd).bind fun sd1 => h r sd1
  | [] => none
def tgT (n : Nat) (h : List D → SD → Option SD) : D → SD → Option SD := fun d sd => match d with
  | .tup ds => if ds.length = n then h ds sd else none
  | .ktu ds => if ds.length = n then h ds sd else none
  | _ => none
section
variable {X : Cx} {pos : Pos}
theorem dg_name {i : Nat} {x : Str} (hN : X.N.Nodup) (hi : X.N[i]? = some x) (hx : Loc X.env.scope x) (hf : X.fn x = true ∨ X.env.scope.names.lookup x = some .local := by first | exact .inl rfl | exact .inr rfl | assumption) : DG X [i] (.Name x pos) (tgN i) := by
  refine ⟨⟨_, pg_name hN hi hx hf, fun pv G F sd σ H x d sd' s r e => ?_⟩, fun vs h d sd sd' e => ?_⟩
  · unfold tgN SD.putFz at e
    split at e
    · rename_i hl
      cases e
      exact ⟨_, (StR1.fz s r).store hl, fun vs h => wipe_set (h i List.mem_cons_self), fun Q q => q⟩
    · cases e
  · unfold tgN SD.putFz at e
    split at e
    · cases e
      show SD.mk (wipeS (sd.sl.set i _) vs) sd.pa = SD.mk (wipeS sd.sl vs) sd.pa
      rw [wipeS_set (h i List.mem_cons_self)]
    · cases e
theorem dgs_nil : DGs X [] [] tgNil := by
  refine ⟨⟨_, pgs_nil, fun pv G F sd σ H xs ds sd' s r e => ?_⟩, fun vs h d sd sd' e => ?_⟩
  · unfold tgNil at e
    cases r with
    | nil => cases e; exact ⟨σ, s, fun _ _ => rfl, fun Q q => ⟨rfl, q⟩⟩
    | cons _ _ => cases e
  · unfold tgNil at e
    cases d with
    | nil => cases e; rfl
    | cons _ _ => cases e
theorem dgs_cons {is js : List Nat} {e : Expr} {es : List Expr} {g : D → SD → Option SD} {h : List D → SD → Option SD} (h1 : DG X is e g) (h2 : DGs X js es h)
    (hs : (assignEach (e :: es) X.env).map (·.2) = assign e X.env :: (assignEach es X.env).map (·.2) := by rfl) : DGs X (is ++ js) (e :: es) (tgCons g h) := by
  obtain ⟨⟨t, a1, a2⟩, a3⟩ := h1
  obtain ⟨⟨u, b1, b2⟩, b3⟩ := h2
  refine ⟨⟨_, pgs_cons a1 b1 hs, fun pv G F sd σ H xs ds sd' s r e => ?_⟩, fun vs hv d sd sd' e => ?_⟩
  · cases r with
    | nil => cases e
    | cons r rr =>
      obtain ⟨sd1, e1, e2⟩ := Option.bind_eq_some_iff.mp e
      obtain ⟨σ1, s1, w1, k1⟩ := a2 pv G F sd σ H _ _ sd1 s r e1
      obtain ⟨σ2, s2, w2, k2⟩ := b2 pv G F sd1 σ1 H _ _ sd' s1 rr e2
      exact ⟨σ2, s2, fun vs hv => (w2 vs fun i hi => hv i (List.mem_append_right _ hi)).trans (w1 vs fun i hi => hv i (List.mem_append_left _ hi)), fun Q q => ⟨_, _, rfl, k1 _ (k2 Q q)⟩⟩
  · cases d with
    | nil => cases e
    | cons d ds =>
      obtain ⟨sd1, e1, e2⟩ := Option.bind_eq_some_iff.mp e
      rw [b3 vs (fun i hi => hv i (List.mem_append_right _ hi)) _ _ _ e2, a3 vs (fun i hi => hv i (List.mem_append_left _ hi)) _ _ _ e1]
theorem dg_tup {is : List Nat} {es : List Expr} {kk n : Nat} {h : List D → SD → Option SD} (hc : X.calm = true) (h1 : DGs X is es h)
    (hn : (assignEach es X.env).length = n := by rfl) (hst : (assignEach es X.env).findIdx? (·.1) = none := by rfl) : DG X is (.Tuple es kk pos) (tgT n h) := by
  obtain ⟨⟨t, a1, a2⟩, a3⟩ := h1
  refine ⟨⟨_, pg_tup hc a1 hn hst, fun pv G F sd σ H x d sd' s r e => ?_⟩, fun vs hv d sd sd' e => ?_⟩
  · unfold tgT at e
    cases d with
    | tup ds =>
      have e : (if ds.length = n then h ds sd else none) = some sd' := e
      split at e
      · rename_i hl
        cases r with
        | @tup a vs _ q rr =>
          obtain ⟨σ1, s1, w1, k1⟩ := a2 pv G F sd σ H _ _ sd' s rr e
          exact ⟨σ1, s1, w1, fun Q q' => ⟨a, vs, rfl, .inl (.inl (s.fh _ _ q)), by rw [rr.length]; exact hl, k1 Q q'⟩⟩
      · cases e
    | ktu ds =>
      have e : (if ds.length = n then h ds sd else none) = some sd' := e
      split at e
      · rename_i hl
        cases r with
        | @ktu a vs _ q rr =>
          obtain ⟨σ1, s1, w1, k1⟩ := a2 pv G F sd σ H _ _ sd' s rr e
          exact ⟨σ1, s1, w1, fun Q q' => ⟨a, vs, rfl, Same.sqt s.fh q, by rw [rr.length]; exact hl, k1 Q q'⟩⟩
      · cases e
    | _ => cases e
  · unfold tgT at e
    cases d with
    | tup ds =>
      have e : (if ds.length = n then h ds sd else none) = some sd' := e
      split at e
      · exact a3 vs hv _ _ _ e
      · cases e
    | ktu ds =>
      have e : (if ds.length = n then h ds sd else none) = some sd' := e
      split at e
      · exact a3 vs hv _ _ _ e
      · cases e
    | _ => cases e
end

/-! ### what is walked -/
structure Walk (K : PySem.W.Frag) (J : It) (F : Hp) (ds : List D) : Prop where
  stop : ∀ F' H', Same F F' → Same F' H' → J.stop ds.length H'
  go : ∀ F' H' i d, Same F F' → Same F' H' → ds[i]? = some d → J.go i H'
  yld : ∀ F' H' i d x H'', Same F F' → Same F' H' → ds[i]? = some d → J.yld i H' x H'' → (H'' = H' ∧ Rep K F' x d) ∨ ∃ T vs es, x = .ref T ∧ d = .tup es ∧ H' T = none ∧ H'' = upd H' T (.tup vs) ∧ Reps K F' vs es
def RSw (K : PySem.W.Frag) : RSt It (List D) := fun _ F _ _ _ J ds => Walk K J F ds
def TrI (K : PySem.W.Frag) (pv : List V) (W : WX) (p : Bool) (wi : TI) (m : SD → ER (List D)) : Prop := ∀ G F sd σ H R, StR K pv G F sd σ H → Meets K pv W G σ (RSw K) p sd F H (m sd) R (wi σ H R)
structure DI (X : Cx) (pv : List V) (W : WX) (p : Bool) (tg iter : Expr) (m : SD → ER (List D)) : Prop where
  ex : ∃ wi, PI X tg iter wi ∧ TrI X.K pv W p wi m
def iLst (a : SD → ER D) : SD → ER (List D) := fun sd => (a sd).bind fun x sd1 => match x with
  | .lst ds => .ok ds sd1
  | .scr ns => .ok (ns.map .int) sd1
  | _ => .bad
def iTuP (a : SD → ER D) : SD → ER (List D) := fun sd => (a sd).bind fun x sd1 => match x with
  | .tup ds => .ok ds sd1
  | _ => .bad
def rangeD (lo : Int) (n : Nat) : List D := (List.range n).map fun (i : Nat) => D.int (lo + (i : Int))
def iRange1 (a : SD → ER (List D)) : SD → ER (List D) := fun sd => (a sd).bind fun xs sd1 => match xs with
  | [.int j] => if -(2 ^ 62) ≤ j ∧ j < 2 ^ 62 then .ok (rangeD 0 j.toNat) sd1 else .bad
  | _ => .bad
def iRange2 (a : SD → ER (List D)) : SD → ER (List D) := fun sd => (a sd).bind fun xs sd1 => match xs with
  | [.int i, .int j] => if -(2 ^ 62) ≤ i ∧ i < 2 ^ 62 ∧ -(2 ^ 62) ≤ j ∧ j < 2 ^ 62 then .ok (rangeD i (j - i).toNat) sd1 else .bad
  | _ => .bad
def iZip2 (a : SD → ER (List D)) : SD → ER (List D) := fun sd => (a sd).bind fun xs sd1 => match xs with
  | [.lst xs, .lst ys] => .ok ((xs.zip ys).map fun p => .tup [p.1, p.2]) sd1
  | _ => .bad
def iEnumL (a : SD → ER (List D)) : SD → ER (List D) := fun sd => (a sd).bind fun xs sd1 => match xs with
  | [.lst xs] => .ok (xs.zipIdx.map fun p => .tup [.int (p.2 : Int), p.1]) sd1
  | _ => .bad
section
variable {K : PySem.W.Frag} {F H : Hp}
theorem walk_list {a : Addr} {vs : List V} {ds : List D} (h : SqL K F a vs) (r : Reps K F vs ds) : Walk K (Itl K a) F ds where
  stop := fun F' H' e1 e2 => ⟨vs, (e1.trans e2).seq h, by rw [r.length]; exact Nat.le_refl _⟩
  go := fun F' H' i d e1 e2 hd => by
    obtain ⟨v, h1, _⟩ := r.get hd
    exact ⟨vs, v, (e1.trans e2).seq h, h1⟩
  yld := fun F' H' i d x H'' e1 e2 hd ⟨hH, hx⟩ => by
    obtain ⟨v, h1, h2⟩ := r.get hd
    have := hx vs ((e1.trans e2).seq h)
    rw [h1] at this; cases this
    exact .inl ⟨hH, h2.mono e1⟩
theorem walk_tup {a : Addr} {vs : List V} {ds : List D} (h : SqT K F a vs) (r : Reps K F vs ds) : Walk K (Itt K a) F ds where
  stop := fun F' H' e1 e2 => ⟨vs, Same.sqt (e1.trans e2) h, by rw [r.length]; exact Nat.le_refl _⟩
  go := fun F' H' i d e1 e2 hd => by
    obtain ⟨v, h1, _⟩ := r.get hd
    exact ⟨vs, v, Same.sqt (e1.trans e2) h, h1⟩
  yld := fun F' H' i d x H'' e1 e2 hd ⟨hH, hx⟩ => by
    obtain ⟨v, h1, h2⟩ := r.get hd
    have := hx vs (Same.sqt (e1.trans e2) h)
    rw [h1] at this; cases this
    exact .inl ⟨hH, h2.mono e1⟩
theorem rangeD_get {lo : Int} {n i : Nat} {d : D} (h : (rangeD lo n)[i]? = some d) : i < n ∧ d = .int (lo + i) := by
  unfold rangeD at h
  rw [List.getElem?_map] at h
  obtain ⟨j, h1, h2⟩ := Option.map_eq_some_iff.mp h
  obtain ⟨hi, e⟩ := List.getElem?_eq_some_iff.mp h1
  rw [List.getElem_range] at e
  rw [List.length_range] at hi
  subst e
  exact ⟨hi, h2.symm⟩
theorem rangeD_length (lo : Int) (n : Nat) : (rangeD lo n).length = n := by unfold rangeD; rw [List.length_map, List.length_range]
theorem walk_range (lo : Int) (n : Nat) : Walk K (Itr lo n) F (rangeD lo n) where
  stop := fun F' H' _ _ => by rw [rangeD_length]; exact Nat.le_refl n
  go := fun F' H' i d _ _ hd => (rangeD_get hd).1
  yld := fun F' H' i d x H'' _ _ hd ⟨hH, hx⟩ => by
    rw [hx, (rangeD_get hd).2]
    exact .inl ⟨hH, .int _⟩
theorem walk_zip {a b : Addr} {vs ws : List V} {ds es : List D} (h : SqL K F a vs) (r : Reps K F vs ds) (h' : SqL K F b ws) (r' : Reps K F ws es) : Walk K (Itz K a b) F ((ds.zip es).map fun p => .tup [p.1, p.2]) where
  stop := fun F' H' e1 e2 => by
    refine ⟨vs, ws, (e1.trans e2).seq h, (e1.trans e2).seq h', ?_⟩
    rw [List.length_map, List.length_zip, r.length, r'.length]
    omega
  go := fun F' H' i d e1 e2 hd => by
    rw [List.getElem?_map] at hd
    obtain ⟨⟨d1, d2⟩, h1, _⟩ := Option.map_eq_some_iff.mp hd
    rw [List.getElem?_zip_eq_some] at h1
    obtain ⟨v, k1, _⟩ := r.get h1.1
    obtain ⟨w, k2, _⟩ := r'.get h1.2
    exact ⟨vs, ws, v, w, (e1.trans e2).seq h, (e1.trans e2).seq h', k1, k2⟩
  yld := fun F' H' i d x H'' e1 e2 hd ⟨T, y, z, hx, hT, hH, q1, q2⟩ => by
    rw [List.getElem?_map] at hd
    obtain ⟨⟨d1, d2⟩, h1, hd⟩ := Option.map_eq_some_iff.mp hd
    rw [List.getElem?_zip_eq_some] at h1
    obtain ⟨v, k1, k3⟩ := r.get h1.1
    obtain ⟨w, k2, k4⟩ := r'.get h1.2
    have a1 := q1 vs ((e1.trans e2).seq h)
    have a2 := q2 ws ((e1.trans e2).seq h')
    rw [k1] at a1; cases a1
    rw [k2] at a2; cases a2
    exact .inr ⟨T, [y, z], [d1, d2], hx, hd.symm, hT, hH, .cons (k3.mono e1) (.cons (k4.mono e1) .nil)⟩
theorem walk_enum {a : Addr} {vs : List V} {ds : List D} (h : SqL K F a vs) (r : Reps K F vs ds) : Walk K (Ite K a) F (ds.zipIdx.map fun p => .tup [.int (p.2 : Int), p.1]) where
  stop := fun F' H' e1 e2 => ⟨vs, (e1.trans e2).seq h, by rw [List.length_map, List.length_zipIdx, r.length]; exact Nat.le_refl _⟩
  go := fun F' H' i d e1 e2 hd => by
    rw [List.getElem?_map] at hd
    obtain ⟨⟨d1, j⟩, h1, _⟩ := Option.map_eq_some_iff.mp hd
    rw [List.getElem?_zipIdx] at h1
    obtain ⟨d', h2, _⟩ := Option.map_eq_some_iff.mp h1
    obtain ⟨v, k1, _⟩ := r.get h2
    exact ⟨vs, v, (e1.trans e2).seq h, k1⟩
  yld := fun F' H' i d x H'' e1 e2 hd ⟨T, y, hx, hT, hH, q⟩ => by
    rw [List.getElem?_map] at hd
    obtain ⟨⟨d1, j⟩, h1, hd⟩ := Option.map_eq_some_iff.mp hd
    rw [List.getElem?_zipIdx] at h1
    obtain ⟨d', h2, h3⟩ := Option.map_eq_some_iff.mp h1
    cases h3
    obtain ⟨v, k1, k3⟩ := r.get h2
    have a1 := q vs ((e1.trans e2).seq h)
    rw [k1] at a1; cases a1
    refine .inr ⟨T, [.int (i : Nat), y], [.int (i : Nat), d1], hx, ?_, hT, hH, .cons (.int _) (.cons (k3.mono e1) .nil)⟩
    rw [← hd]; simp
end
section
variable {X : Cx} {pv : List V} {W : WX} {p q k l : Bool} {tg e a b c : Expr} {es : List Expr} {pos pp : Pos}
theorem di_list {m : SD → ER D} (h : DX X pv W p true e m) : DI X pv W p tg e (iLst m) := by
  obtain ⟨te, a1, a2⟩ := h
  refine ⟨_, pi_list a1, fun G F sd σ H R s => ?_⟩
  refine Meets.bindL (a2 G F sd σ H _ s) fun x F1 H1 dx sd1 s1 s2 s3 s4 => ?_
  have s3 : Rep X.K F1 x dx := s3
  cases dx with
  | lst ds =>
    cases s3 with
    | @lst aa vs _ h1 h2 =>
      exact Meets.here s2 (show RSw X.K G F1 sd1 H1 σ (Itl X.K aa) ds from walk_list (.inl h1) h2) fun q => ⟨aa, rfl, ⟨vs, .inl (Same.rd s2.fh h1)⟩, q⟩
  | scr ns =>
    cases s3 with
    | @scr aa _ h1 =>
      exact Meets.here s2 (show RSw X.K G F1 sd1 H1 σ (Itl X.K aa) (ns.map .int) from walk_list h1 (Reps.ints ns)) fun q => ⟨aa, rfl, ⟨_, s2.fh.seq h1⟩, q⟩
  | _ => exact True.intro
theorem di_tup {m : SD → ER D} (h : DX X pv W p true e m) : DI X pv W p tg e (iTuP m) := by
  obtain ⟨te, a1, a2⟩ := h
  refine ⟨_, pi_tup a1, fun G F sd σ H R s => ?_⟩
  refine Meets.bindL (a2 G F sd σ H _ s) fun x F1 H1 dx sd1 s1 s2 s3 s4 => ?_
  have s3 : Rep X.K F1 x dx := s3
  cases dx with
  | tup ds =>
    cases s3 with
    | @tup aa vs _ h1 h2 =>
      exact Meets.here s2 (show RSw X.K G F1 sd1 H1 σ (Itt X.K aa) ds from walk_tup (.inl (.inl h1)) h2) fun q => ⟨aa, rfl, ⟨vs, .inl (.inl (s2.fh _ _ h1))⟩, q⟩
  | _ => exact True.intro
theorem di_range1 {m : SD → ER (List D)} (hg : Gl X "range") (hm : X.mg "range" = none) (ha : DA X pv W p k [a] m) (hs : starEach [a] X.env = [(false, eval a X.env)] := by rfl) : DI X pv W p tg (.Call (.Name "range" pp) [a] [] pos) (iRange1 m) := by
  obtain ⟨ta, a1, a2⟩ := ha
  refine ⟨_, pi_range1 hg hm a1 hs, fun G F sd σ H R s => ?_⟩
  refine Meets.bindL (a2 G F sd σ H _ s) fun xs F1 H1 ds sd1 s1 s2 s3 s4 => ?_
  have r := RSl.see s3 s2
  split
  · rename_i j
    obtain ⟨v, rfl, r1⟩ := reps1 r
    cases r1
    split
    · rename_i hj
      exact Meets.here s2 (show RSw X.K G F1 sd1 H1 σ _ _ from walk_range 0 j.toNat) fun q => ⟨j, rfl, hj.1, hj.2, q⟩
    · exact True.intro
  · exact True.intro
theorem di_range2 {m : SD → ER (List D)} (hg : Gl X "range") (hm : X.mg "range" = none) (ha : DA X pv W p k [a, b] m) (hs : starEach [a, b] X.env = [(false, eval a X.env), (false, eval b X.env)] := by rfl) (hs2 : starEach [b] X.env = [(false, eval b X.env)] := by rfl) :
    DI X pv W p tg (.Call (.Name "range" pp) [a, b] [] pos) (iRange2 m) := by
  obtain ⟨ta, a1, a2⟩ := ha
  refine ⟨_, pi_range2 hg hm a1 hs hs2, fun G F sd σ H R s => ?_⟩
  refine Meets.bindL (a2 G F sd σ H _ s) fun xs F1 H1 ds sd1 s1 s2 s3 s4 => ?_
  have r := RSl.see s3 s2
  split
  · rename_i i j
    obtain ⟨v, v', rfl, r1, r2⟩ := reps2 r
    cases r1; cases r2
    split
    · rename_i hj
      exact Meets.here s2 (show RSw X.K G F1 sd1 H1 σ _ _ from walk_range i (j - i).toNat) fun q => ⟨i, j, rfl, hj, q⟩
    · exact True.intro
  · exact True.intro
theorem di_zip {elts : List Expr} {kk : Nat} {tpos : Pos} {m : SD → ER (List D)} (hg : Gl X "zip") (hm : X.mg "zip" = none) (ha : DA X pv W p true [a, b] m)
    (hs : starEach [a, b] X.env = (false, eval a X.env) :: starEach [b] X.env := by rfl) (hpl : (backTo pos (starEach [b] X.env)).any (·.1) = false := by rfl) : DI X pv W p (.Tuple elts kk tpos) (.Call (.Name "zip" pp) [a, b] [] pos) (iZip2 m) := by
  obtain ⟨ta, a1, a2⟩ := ha
  refine ⟨_, pi_zip hg hm a1 hs hpl, fun G F sd σ H R s => ?_⟩
  refine Meets.bindL (a2 G F sd σ H _ s) fun xs F1 H1 ds sd1 s1 s2 s3 s4 => ?_
  have r : Reps X.K F1 xs ds := s3
  split
  · obtain ⟨v, v', rfl, r1, r2⟩ := reps2 r
    cases r1 with
    | @lst aa vs _ h1 h2 =>
      cases r2 with
      | @lst bb ws _ h3 h4 =>
        exact Meets.here s2 (show RSw X.K G F1 sd1 H1 σ _ _ from walk_zip (.inl h1) h2 (.inl h3) h4) fun q => ⟨aa, bb, vs, ws, rfl, .inl (Same.rd s2.fh h1), .inl (Same.rd s2.fh h3), q⟩
  · exact True.intro
theorem di_enum {elts : List Expr} {kk : Nat} {tpos : Pos} {m : SD → ER (List D)} (hg : Gl X "enumerate") (hm : X.mg "enumerate" = none) (ha : DA X pv W p true [a] m)
    (hs : starEach [a] X.env = [(false, eval a X.env)] := by rfl) : DI X pv W p (.Tuple elts kk tpos) (.Call (.Name "enumerate" pp) [a] [] pos) (iEnumL m) := by
  obtain ⟨ta, a1, a2⟩ := ha
  refine ⟨_, pi_enum hg hm a1 hs, fun G F sd σ H R s => ?_⟩
  refine Meets.bindL (a2 G F sd σ H _ s) fun xs F1 H1 ds sd1 s1 s2 s3 s4 => ?_
  have r : Reps X.K F1 xs ds := s3
  split
  · obtain ⟨v, rfl, r1⟩ := reps1 r
    cases r1 with
    | @lst aa vs _ h1 h2 =>
      exact Meets.here s2 (show RSw X.K G F1 sd1 H1 σ _ _ from walk_enum (.inl h1) h2) fun q => ⟨aa, vs, rfl, .inl (Same.rd s2.fh h1), q⟩
  · exact True.intro
end

/-! ### for -/
def goFor (g : D → SD → Option SD) (body : SD → Fl) : List D → SD → Fl
  | [], sd => .nx sd
  | d :: ds, sd => match g d sd with
    | none => .bad
    | some sd1 => match body sd1 with
      | .nx sd2 => goFor g body ds sd2
      | .ct sd2 => goFor g body ds sd2
      | .bk sd2 => .nx sd2
      | r => r
def sFor (it : SD → ER (List D)) (g : D → SD → Option SD) (body : SD → Fl) : SD → Fl := fun sd => (it sd).stm fun ds sd1 => goFor g body ds sd1
section
variable {X : Cx} {pv : List V} {W : WX} {p q k l : Bool} {pos : Pos}
theorem drop_at {α : Type} {l : List α} {i : Nat} {x : α} (h : l[i]? = some x) : l.drop i = x :: l.drop (i + 1) := by
  obtain ⟨hi, e⟩ := List.getElem?_eq_some_iff.mp h
  rw [← e]
  exact List.drop_eq_getElem_cons hi
theorem ds_for {is : List Nat} {tg iter : Expr} {body : List Stmt} {mi : SD → ER (List D)} {g : D → SD → Option SD} {mb : SD → Fl} (hp : PassesOwn (model X.prog X.w) X.A X.env X.xe) (hc : X.calm = true) (hi : DI X pv W p tg iter mi) (hg : DG X is tg g) (hb : DSs X pv W body mb)
    (hs : ∀ x, foldedSetIterable iter X.env x = pure x := by intro _; rfl) : DS X pv W (.For tg iter body [] pos) (sFor mi g mb) := by
  obtain ⟨wi, a1, a2⟩ := hi
  obtain ⟨⟨t, b1, b2⟩, _⟩ := hg
  obtain ⟨tb, c1, c2⟩ := hb
  refine ⟨_, ps_for hp hc a1 b1 c1 hs, fun G F sd σ H D s => ?_⟩
  refine Meets.stm (a2 G F sd σ H _ s) fun J F1 H1 ds sd1 s1 s2 s3 => ?_
  refine meetsS_of fun w => ?_
  have wk : Walk X.K J F1 ds := s3
  refine ⟨fun i m σ H => m = ds.length - i ∧ i ≤ ds.length ∧ ∃ F' sd', Same F1 F' ∧ StR X.K pv G F' sd' σ H ∧ Wants X.K pv W G F' (goFor g mb (ds.drop i) sd') D, ⟨ds.length, by simp, Nat.zero_le _, F1, sd1, Same.refl _, s2, w⟩, ?_⟩
  rintro i m σ H ⟨rfl, hi, F', sd', f1, st, wt⟩
  by_cases hlt : i < ds.length
  · have hd : ds[i]? = some ds[i] := by simp [hlt]
    refine .inr ⟨wk.go F' H i _ f1 st.fh hd, fun σ' H' => ∃ F'' sd'', Same F1 F'' ∧ StR X.K pv G F'' sd'' σ' H' ∧ Wants X.K pv W G F'' (goFor g mb (ds.drop (i + 1)) sd'') D, fun σ' H' q => ⟨ds.length - (i + 1), by omega, rfl, hlt, q⟩, fun x H' y => ?_⟩
    rw [drop_at hd] at wt
    have main : ∀ F2 H2, Same F' F2 → StR X.K pv G F2 sd' σ H2 → Rep X.K F2 x ds[i] → t x σ H2 fun σ2 H2 => tb { D with nx := fun σ' H' => ∃ F'' sd'', Same F1 F'' ∧ StR X.K pv G F'' sd'' σ' H' ∧ Wants X.K pv W G F'' (goFor g mb (ds.drop (i + 1)) sd'') D, ct := fun σ' H' => ∃ F'' sd'', Same F1 F'' ∧ StR X.K pv G F'' sd'' σ' H' ∧ Wants X.K pv W G F'' (goFor g mb (ds.drop (i + 1)) sd'') D, bk := D.nx } σ2 H2 := fun F2 H2 f2 st2 rx => by
      rw [goFor] at wt
      cases eg : g ds[i] sd' with
      | none => rw [eg] at wt; exact wt.elim
      | some sd2 =>
        rw [eg] at wt
        dsimp only at wt
        obtain ⟨σ2, k1, _, k2⟩ := b2 pv G F2 sd' σ H2 x _ sd2 st2 rx eg
        refine k2 _ (MeetsS.get (c2 G F2 sd2 σ2 H2 _ k1) ?_)
        have wt := wt.mono f2
        revert wt
        cases mb sd2 with
        | bad => exact id
        | nx sd3 => exact fun wt F3 σ3 H3 e3 st3 => ⟨F3, sd3, (f1.trans f2).trans e3, st3, wt.mono e3⟩
        | ct sd3 => exact fun wt F3 σ3 H3 e3 st3 => ⟨F3, sd3, (f1.trans f2).trans e3, st3, wt.mono e3⟩
        | bk sd3 => exact id
        | rt tt sd3 => exact id
        | rz y sd3 => exact id
    rcases wk.yld F' H i _ x H' f1 st.fh hd y with ⟨rfl, rx⟩ | ⟨T, vs, es, rfl, ed, hT, rfl, rr⟩
    · exact main F' H' (Same.refl _) st rx
    · refine main _ _ (st.sameNew hT) (st.new (u := .tup vs) hT) ?_
      rw [ed]
      exact .tup upd_same (rr.mono (st.sameNew hT))
  · have e : i = ds.length := by omega
    subst e
    refine .inl ⟨wk.stop F' H f1 st.fh, ?_⟩
    rw [List.drop_length, goFor] at wt
    exact wt F' σ H (Same.refl _) st

/-! ### while -/
def goWhile (c : SD → ER Bool) (body : SD → Fl) : Nat → SD → Fl
  | 0, _ => .bad
  | n + 1, sd => (c sd).stm fun b sd1 => if b = true then (match body sd1 with
      | .nx sd2 => goWhile c body n sd2
      | .ct sd2 => goWhile c body n sd2
      | .bk sd2 => .nx sd2
      | r => r) else .nx sd1
def sWhile (fuel : SD → Nat) (c : SD → ER Bool) (body : SD → Fl) : SD → Fl := fun sd => goWhile c body (fuel sd) sd
theorem ds_while {c : Expr} {body : List Stmt} {mc : SD → ER Bool} {mb : SD → Fl} (fuel : SD → Nat) (hp : PassesOwn (model X.prog X.w) X.A X.env X.xe) (hc : DT X pv W p c mc) (hb : DSs X pv W body mb) : DS X pv W (.While c body [] pos) (sWhile fuel mc mb) := by
  obtain ⟨tc, a1, a2⟩ := hc
  obtain ⟨tb, c1, c2⟩ := hb
  refine ⟨_, ps_while hp a1 c1, fun G F sd σ H D s => ?_⟩
  refine meetsS_of fun w => ?_
  refine ⟨fun m σ H => ∃ F' sd', Same F F' ∧ StR X.K pv G F' sd' σ H ∧ Wants X.K pv W G F' (goWhile mc mb m sd') D, ⟨fuel sd, F, sd, Same.refl _, s, w⟩, ?_⟩
  rintro m σ H ⟨F', sd', f1, st, wt⟩
  cases m with
  | zero => exact wt.elim
  | succ m =>
    rw [goWhile] at wt
    refine MeetsS.get (D := D) (Meets.stm (a2 G F' sd' σ H _ st) (f := fun b sd1 => if b = true then (match mb sd1 with
      | .nx sd2 => goWhile mc mb m sd2
      | .ct sd2 => goWhile mc mb m sd2
      | .bk sd2 => .nx sd2
      | r => r) else .nx sd1) fun x F1 H1 dx sd1 s1 s2 s3 => ?_) wt
    have s3 : x = dx := s3
    subst s3
    refine meetsS_of fun wt => ?_
    cases x with
    | false =>
      rw [if_neg (by decide)] at wt ⊢
      exact wt F1 σ H1 (Same.refl _) s2
    | true =>
      rw [if_pos rfl] at wt ⊢
      refine ⟨fun σ' H' => ∃ F'' sd'', Same F F'' ∧ StR X.K pv G F'' sd'' σ' H' ∧ Wants X.K pv W G F'' (goWhile mc mb m sd'') D, fun σ' H' q => ⟨m, Nat.lt_succ_self m, q⟩, ?_⟩
      refine MeetsS.get (c2 G F1 sd1 σ H1 _ s2) ?_
      revert wt
      cases mb sd1 with
      | bad => exact id
      | nx sd3 => exact fun wt F3 σ3 H3 e3 st3 => ⟨F3, sd3, (f1.trans s1).trans e3, st3, wt.mono e3⟩
      | ct sd3 => exact fun wt F3 σ3 H3 e3 st3 => ⟨F3, sd3, (f1.trans s1).trans e3, st3, wt.mono e3⟩
      | bk sd3 => exact id
      | rt tt sd3 => exact id
      | rz y sd3 => exact id
end
end DL

/-! DL9: list comprehensions. -/
namespace DL
open PySem PySem.Spec L2

theorem wipe_in {σ : L2.St} {i : Nat} : ∀ {vs : List Nat}, i ∉ vs → (wipe σ vs)[i]? = σ[i]?
  | [], _ => rfl
  | v :: vs, h => by
    unfold wipe
    rw [List.getElem?_set_ne (fun z => h (by rw [z]; exact List.mem_cons_self))]
    exact wipe_in fun z => h (List.mem_cons_of_mem _ z)
theorem back_self {sd sd1 : SD} {vs : List Nat} (h : sd.wipe vs = sd1.wipe vs) : sd.back sd1 vs = sd1 := by
  obtain ⟨l, pa⟩ := sd
  obtain ⟨l1, pa1⟩ := sd1
  have h1 : wipeS l vs = wipeS l1 vs := congrArg SD.sl h
  have h2 : pa = pa1 := congrArg SD.pa h
  subst h2
  have hl : l.length = l1.length := by rw [← wipeS_length l vs, h1, wipeS_length]
  show SD.mk (backS l l1 vs) pa = SD.mk l1 pa
  congr 1
  refine List.ext_getElem? fun i => ?_
  by_cases hi : i ∈ vs
  · by_cases hl2 : i < l.length
    · rw [backS_in hi hl2]
      have : l1[i]? = some l1[i] := by simp [hl ▸ hl2]
      rw [this]; rfl
    · rw [List.getElem?_eq_none (by rw [backS_length]; omega), List.getElem?_eq_none (by omega)]
  · rw [backS_out hi, ← wipeS_out (l := l) hi, h1, wipeS_out hi]

section
variable {K : PySem.W.Frag} {pv : List V} {G F H : Hp} {sd : SD} {σ : L2.St}
theorem wiped_at {vs : List Nat} {i : Nat} {x : S} (h : (wipeS sd.sl vs)[i]? = some x) (hx : x ≠ .un) : i ∉ vs ∧ sd.sl[i]? = some x := by
  by_cases hi : i ∈ vs
  · by_cases hl : i < sd.sl.length
    · rw [wipeS_in hi hl] at h
      exact absurd (Option.some.inj h).symm hx
    · rw [List.getElem?_eq_none (by rw [wipeS_length]; omega)] at h
      cases h
  · exact ⟨hi, by rw [← wipeS_out hi]; exact h⟩
theorem StR.wipe (vs : List Nat) (s : StR K pv G F sd σ H) : StR K pv G F (sd.wipe vs) (L2.wipe σ vs) H := by
  obtain ⟨o, W⟩ := s
  refine ⟨o, W.fh, W.gh, W.fg, W.oh, W.oo, by show _ = (wipeS sd.sl vs).length; rw [L2.wipe_length, wipeS_length]; exact W.len, fun i t e => ?_, fun i j e => ?_, W.pr⟩
  · obtain ⟨h1, h2⟩ := wiped_at e (by intro z; cases z)
    rw [wipe_in h1]
    exact W.sl i t h2
  · obtain ⟨h1, h2⟩ := wiped_at e (by intro z; cases z)
    rw [wipe_in h1]
    exact W.sp i j h2
/-- a block is entered: its own names' trees are put aside -/
theorem StR.block (vs : List Nat) (s : StR K pv G F sd σ H) : ∃ G', (∀ a, H a = none → G' a = none) ∧ StR K pv G' F (sd.wipe vs) (L2.wipe σ vs) H ∧
    ∀ (F' : Hp) (sd' : SD) (H' : Hp) (v : V) (t : OT), Same F F' → StR1 K pv G' F' (sd'.wipe vs) (L2.wipe σ vs) H' v t → StR1 K pv G F' (sd'.back sd vs) σ H' v t := by
  classical
  obtain ⟨o, W⟩ := s
  let P : Addr → Prop := fun a => ∃ i ∈ vs, o (.inl i) a
  have gp : ∀ a, P a → G a = none := fun a ⟨i, _, h⟩ => (W.oh _ a h).2.2
  refine ⟨fun a => if P a then H a else G a, fun a ha => ?_, ⟨fun x a => o x a ∧ ∀ i ∈ vs, x ≠ .inl i, W.fh, fun a u e => ?_, fun a ha => ?_, fun x a ⟨q1, q2⟩ => ?_, fun x y a q q' => W.oo x y a q.1 q'.1, by show _ = (wipeS sd.sl vs).length; rw [L2.wipe_length, wipeS_length]; exact W.len, fun i t e => ?_, fun i j e => ?_, fun j t e => ?_⟩, fun F' sd' H' v t f ⟨o1, P1, W1, r1, k1⟩ => ?_⟩
  · show (if P a then H a else G a) = none
    by_cases z : P a
    · rw [if_pos z]; exact ha
    · rw [if_neg z]; exact W.gh.free ha
  · have e : (if P a then H a else G a) = some u := e
    by_cases z : P a
    · rw [if_pos z] at e; exact e
    · rw [if_neg z] at e; exact W.gh a u e
  · show (if P a then H a else G a) = none
    by_cases z : P a
    · obtain ⟨i, _, h⟩ := z
      exact absurd (W.oh _ a h).2.1 ha
    · rw [if_neg z]; exact W.fg a ha
  · obtain ⟨h1, h2, h3⟩ := W.oh x a q1
    refine ⟨h1, h2, ?_⟩
    show (if P a then H a else G a) = none
    rw [if_neg fun ⟨i, hi, h⟩ => q2 i hi (W.oo _ _ a q1 h)]
    exact h3
  · obtain ⟨h1, h2⟩ := wiped_at e (by intro z; cases z)
    rw [wipe_in h1]
    obtain ⟨v, a1, a2⟩ := W.sl i t h2
    exact ⟨v, a1, a2.mono (Same.refl _) fun x hx => ⟨⟨hx, fun j hj z => h1 (by rw [Sum.inl.inj z]; exact hj)⟩, rfl⟩⟩
  · obtain ⟨h1, h2⟩ := wiped_at e (by intro z; cases z)
    rw [wipe_in h1]
    exact W.sp i j h2
  · obtain ⟨v, a1, a2⟩ := W.pr j t e
    exact ⟨v, a1, a2.mono (Same.refl _) fun x hx => ⟨⟨hx, fun j hj z => by cases z⟩, rfl⟩⟩
  · have hP : ∀ a, P a → H' a = H a := fun a z => by
      have hn : H a ≠ none := by
        obtain ⟨i, _, h⟩ := z
        exact (W.oh _ a h).1
      cases e : H a with
      | none => exact absurd e hn
      | some u => exact W1.gh a u (by show (if P a then H a else G a) = some u; rw [if_pos z]; exact e)
    have hG : ∀ a, (if P a then H a else G a) = none → ¬ P a ∧ G a = none := fun a z => by
      by_cases y : P a
      · rw [if_pos y] at z
        obtain ⟨i, _, h⟩ := y
        exact absurd z (W.oh _ a h).1
      · rw [if_neg y] at z
        exact ⟨y, z⟩
    have hF : ∀ a, P a → F' a = none := fun a z => by
      cases e : F' a with
      | none => rfl
      | some u => exact absurd z (hG a (W1.fg a (by rw [e]; simp))).1
    have len1 : sd'.sl.length = sd.sl.length := by
      have := W1.len
      have e2 : (wipeS sd'.sl vs).length = sd'.sl.length := wipeS_length _ _
      have : (L2.wipe σ vs).length = (wipeS sd'.sl vs).length := this
      rw [L2.wipe_length, e2, W.len] at this
      exact this.symm
    refine ⟨fun x a => match x with
      | .inl i => if i ∈ vs then o (.inl i) a else o1 (.inl i) a
      | .inr j => o1 (.inr j) a, P1, ⟨W1.fh, fun a u e => ?_, fun a ha => (hG a (W1.fg a ha)).2, fun x a q => ?_, fun x y a q q' => ?_, ?_, fun i t e => ?_, fun i j e => ?_, fun j t e => ?_⟩, r1, fun a z => ?_⟩
    · by_cases z : P a
      · rw [gp a z] at e; cases e
      · exact W1.gh a u (by show (if P a then H a else G a) = some u; rw [if_neg z]; exact e)
    · cases x with
      | inl i =>
        by_cases hi : i ∈ vs
        · have q : o (.inl i) a := by simpa [hi] using q
          have z : P a := ⟨i, hi, q⟩
          exact ⟨by rw [hP a z]; exact (W.oh _ a q).1, hF a z, gp a z⟩
        · have q : o1 (.inl i) a := by simpa [hi] using q
          obtain ⟨h1, h2, h3⟩ := W1.oh _ a q
          exact ⟨h1, h2, (hG a h3).2⟩
      | inr j =>
        obtain ⟨h1, h2, h3⟩ := W1.oh _ a q
        exact ⟨h1, h2, (hG a h3).2⟩
    · have old : ∀ (x : Nat ⊕ Nat), (match x with
        | .inl i => if i ∈ vs then o (.inl i) a else o1 (.inl i) a
        | .inr j => o1 (.inr j) a) → (∃ i, x = .inl i ∧ i ∈ vs ∧ o (.inl i) a ∧ P a) ∨ (o1 x a ∧ ¬ P a) := fun x q => by
        cases x with
        | inl i =>
          by_cases hi : i ∈ vs
          · have q : o (.inl i) a := by simpa [hi] using q
            exact .inl ⟨i, rfl, hi, q, i, hi, q⟩
          · have q : o1 (.inl i) a := by simpa [hi] using q
            exact .inr ⟨q, (hG a (W1.oh _ a q).2.2).1⟩
        | inr j => exact .inr ⟨q, (hG a (W1.oh _ a q).2.2).1⟩
      rcases old x q with ⟨i, rfl, _, q1, q2⟩ | ⟨q1, q2⟩
      · rcases old y q' with ⟨j, rfl, _, q3, _⟩ | ⟨_, q4⟩
        · exact W.oo _ _ a q1 q3
        · exact absurd q2 q4
      · rcases old y q' with ⟨j, rfl, _, _, q4⟩ | ⟨q3, _⟩
        · exact absurd q4 q2
        · exact W1.oo _ _ a q1 q3
    · show σ.length = (backS sd'.sl sd.sl vs).length
      rw [backS_length, len1]
      exact W.len
    · have e : (backS sd'.sl sd.sl vs)[i]? = some (S.ow t) := e
      by_cases hi : i ∈ vs
      · by_cases hl : i < sd'.sl.length
        · rw [backS_in hi hl] at e
          have hl2 : i < sd.sl.length := by omega
          have e2 : sd.sl[i]? = some sd.sl[i] := by simp [hl2]
          rw [e2] at e
          have e : some sd.sl[i] = some (S.ow t) := e
          rw [e] at e2
          obtain ⟨v, a1, a2⟩ := W.sl i t e2
          refine ⟨v, a1, a2.mono f fun x hx => ⟨by simpa [hi] using hx, hP x ⟨i, hi, hx⟩⟩⟩
        · rw [List.getElem?_eq_none (by rw [backS_length]; omega)] at e
          cases e
      · rw [backS_out hi, ← wipeS_out (l := sd'.sl) hi] at e
        obtain ⟨v, a1, a2⟩ := W1.sl i t e
        rw [wipe_in hi] at a1
        exact ⟨v, a1, a2.mono (Same.refl _) fun x hx => ⟨by simpa [hi] using hx, rfl⟩⟩
    · have e : (backS sd'.sl sd.sl vs)[i]? = some (S.pa j) := e
      by_cases hi : i ∈ vs
      · by_cases hl : i < sd'.sl.length
        · rw [backS_in hi hl] at e
          have hl2 : i < sd.sl.length := by omega
          have e2 : sd.sl[i]? = some sd.sl[i] := by simp [hl2]
          rw [e2] at e
          have e : some sd.sl[i] = some (S.pa j) := e
          rw [e] at e2
          exact W.sp i j e2
        · rw [List.getElem?_eq_none (by rw [backS_length]; omega)] at e
          cases e
      · rw [backS_out hi, ← wipeS_out (l := sd'.sl) hi] at e
        obtain ⟨v, a1, a2⟩ := W1.sp i j e
        rw [wipe_in hi] at a2
        exact ⟨v, a1, a2⟩
    · obtain ⟨v, a1, a2⟩ := W1.pr j t e
      exact ⟨v, a1, a2⟩
    · obtain ⟨h1, h2, h3, h4⟩ := k1 a z
      refine ⟨h1, h2, (hG a h3).2, fun x q => ?_⟩
      cases x with
      | inl i =>
        by_cases hi : i ∈ vs
        · have q : o (.inl i) a := by simpa [hi] using q
          exact (hG a h3).1 ⟨i, hi, q⟩
        · have q : o1 (.inl i) a := by simpa [hi] using q
          exact h4 _ q
      | inr j => exact h4 _ q
/-- a list that nobody but we know -/
theorem StR.lay {L : Addr} {xs : List V} (s : StR K pv G F sd σ H) (hD : H L = none) : StR K pv (upd G L (.lst xs)) F sd σ (upd H L (.lst xs)) := by
  obtain ⟨o, W⟩ := s
  obtain ⟨f0, g0, n0⟩ := W.fresh hD
  have W' := W.grow (Same.upd (o := .lst xs) hD) (Same.refl F) (fun a u e => by rw [upd_ne (ne_of_none e f0)]; exact W.fh a u e) fun a ha => .inl ha
  refine ⟨o, W'.fh, fun a u e => ?_, fun a ha => ?_, fun i a q => ?_, W'.oo, W'.len, W'.sl, W'.sp, W'.pr⟩
  · by_cases h : a = L
    · subst h; rw [upd_same] at e ⊢; exact e
    · rw [upd_ne h] at e; exact W'.gh a u e
  · have h : a ≠ L := fun z => ha (by rw [z]; exact f0)
    rw [upd_ne h]; exact W'.fg a ha
  · obtain ⟨h1, h2, h3⟩ := W'.oh i a q
    have h : a ≠ L := fun z => n0 i (by rw [← z]; exact q)
    exact ⟨h1, h2, by rw [upd_ne h]; exact h3⟩
theorem StR.relay {L : Addr} {xs ys : List V} (s : StR K pv (upd G L (.lst xs)) F sd σ H) : StR K pv (upd G L (.lst ys)) F sd σ (upd H L (.lst ys)) := by
  obtain ⟨o, W⟩ := s
  have gL : (upd G L (HO.lst xs)) L = some (.lst xs) := upd_same
  have f0 : F L = none := by
    cases e : F L with
    | none => rfl
    | some u =>
      have := W.fg L (by rw [e]; simp)
      rw [gL] at this; cases this
  have n0 : ∀ i, ¬ o i L := fun i q => by
    have := (W.oh i L q).2.2
    rw [gL] at this; cases this
  have cell : ∀ i x, o i x → upd H L (.lst ys) x = H x := fun i x q => upd_ne fun z => n0 i (by rw [← z]; exact q)
  refine ⟨o, fun a u e => ?_, fun a u e => ?_, fun a ha => ?_, fun i a q => ?_, W.oo, W.len, fun i t e => ?_, W.sp, fun j t e => ?_⟩
  · rw [upd_ne (ne_of_none e f0)]; exact W.fh a u e
  · by_cases h : a = L
    · subst h; rw [upd_same] at e ⊢; exact e
    · rw [upd_ne h] at e ⊢; exact W.gh a u (by rw [upd_ne h]; exact e)
  · have h : a ≠ L := fun z => ha (by rw [z]; exact f0)
    have := W.fg a ha
    rw [upd_ne h] at this ⊢; exact this
  · obtain ⟨h1, h2, h3⟩ := W.oh i a q
    have h : a ≠ L := fun z => n0 i (by rw [← z]; exact q)
    rw [upd_ne h] at h3
    exact ⟨by rw [upd_ne h]; exact h1, h2, by rw [upd_ne h]; exact h3⟩
  · obtain ⟨v, h1, h2⟩ := W.sl i t e
    exact ⟨v, h1, h2.mono (Same.refl _) fun x hx => ⟨hx, cell _ x hx⟩⟩
  · obtain ⟨v, h1, h2⟩ := W.pr j t e
    exact ⟨v, h1, h2.mono (Same.refl _) fun x hx => ⟨hx, cell _ x hx⟩⟩
theorem StR.unlay {L : Addr} {xs : List V} {ds : List D} (s : StR K pv (upd G L (.lst xs)) F sd σ H) (gL : G L = none) (r : Reps K F xs ds) : StR1 K pv G F sd σ H (.ref L) (.ol (ds.map .fz)) := by
  obtain ⟨o, W⟩ := s
  have gU : (upd G L (HO.lst xs)) L = some (.lst xs) := upd_same
  have f0 : F L = none := by
    cases e : F L with
    | none => rfl
    | some u =>
      have := W.fg L (by rw [e]; simp)
      rw [gU] at this; cases this
  have n0 : ∀ i, ¬ o i L := fun i q => by
    have := (W.oh i L q).2.2
    rw [gU] at this; cases this
  refine ⟨o, fun a => a = L, ⟨W.fh, fun a u e => W.gh a u (by rw [upd_ne (ne_of_none e gL)]; exact e), fun a ha => ?_, fun i a q => ?_, W.oo, W.len, W.sl, W.sp, W.pr⟩, ?_, fun a ha => ?_⟩
  · have h : a ≠ L := fun z => ha (by rw [z]; exact f0)
    have := W.fg a ha
    rw [upd_ne h] at this; exact this
  · obtain ⟨h1, h2, h3⟩ := W.oh i a q
    have h : a ≠ L := fun z => n0 i (by rw [← z]; exact q)
    rw [upd_ne h] at h3
    exact ⟨h1, h2, h3⟩
  · unfold RepO
    exact ⟨L, xs, rfl, rfl, W.gh L _ gU, repOs_of _ r⟩
  · subst ha
    exact ⟨by rw [W.gh a _ gU]; simp, f0, gL, n0⟩
theorem StR.at_lay {L : Addr} {xs : List V} (s : StR K pv (upd G L (.lst xs)) F sd σ H) : H L = some (.lst xs) := by
  obtain ⟨o, W⟩ := s
  exact W.gh L _ upd_same
end

/-! ### the mirror -/
/-- raising is not told here -/
def ER.calm {α : Type} (r : ER α) : ER α :=
  match r with
  | .rz _ _ => .bad
  | r => r
def goComp (g : D → SD → Option SD) (c : SD → ER Bool) (elt : SD → ER D) (vs : List Nat) : List D → List D → SD → ER (List D)
  | [], acc, sd => .ok acc sd
  | d :: ds, acc, sd => match g d (sd.wipe vs) with
    | none => .bad
    | some sd1 => (c sd1).calm.bind fun b sd2 => if b = true then ((elt sd2).calm.bind fun y sd3 => if acc.length < 16777216 then goComp g c elt vs ds (acc ++ [y]) sd3 else .bad) else goComp g c elt vs ds acc sd2
def mComp (it : SD → ER (List D)) (g : D → SD → Option SD) (c : SD → ER Bool) (elt : SD → ER D) (vs : List Nat) : SD → ER OT := fun sd => (it sd).bind fun ds sd1 => (goComp g c elt vs ds [] sd1).bind fun res sd2 => .ok (.ol (res.map .fz)) (sd2.back sd1 vs)
def mYes : SD → ER Bool := fun sd => .ok true sd
theorem tr_yes {K : PySem.W.Frag} {pv : List V} {W : WX} : TrT K pv W true tYes mYes := fun G F sd σ H Q s => Meets.here s (show RSb G F sd H σ true true from rfl) id

/-- no wish -/
abbrev W0 : WX := fun _ _ _ _ => False
theorem goComp_calm {g : D → SD → Option SD} {c : SD → ER Bool} {elt : SD → ER D} {vs : List Nat} : ∀ (ds acc : List D) (sd : SD) (x : Exn) (s : SD), goComp g c elt vs ds acc sd ≠ .rz x s
  | [], acc, sd, x, s => by rw [goComp]; intro h; cases h
  | d :: ds, acc, sd, x, s => by
    rw [goComp]
    cases g d (sd.wipe vs) with
    | none => intro h; cases h
    | some sd1 =>
      show (c sd1).calm.bind _ ≠ _
      cases c sd1 with
      | bad => intro h; cases h
      | rz _ _ => intro h; cases h
      | ok b sd2 =>
        show (if b = true then _ else _) ≠ _
        split
        · cases elt sd2 with
          | bad => intro h; cases h
          | rz _ _ => intro h; cases h
          | ok y sd3 =>
            show (if acc.length < 16777216 then _ else _) ≠ _
            split
            · exact goComp_calm ds _ sd3 x s
            · intro h; cases h
        · exact goComp_calm ds acc sd2 x s
section
variable {K : PySem.W.Frag} {pv : List V} {W : WX} {p q pc pe : Bool}
theorem wipe_wipe {vs vs1 : List Nat} (h : ∀ i ∈ vs1, i ∈ vs) (sd : SD) : (sd.wipe vs1).wipe vs = sd.wipe vs := by
  show SD.mk (wipeS (wipeS sd.sl vs1) vs) sd.pa = SD.mk (wipeS sd.sl vs) sd.pa
  congr 1
  refine List.ext_getElem? fun i => ?_
  by_cases hi : i ∈ vs
  · by_cases hl : i < sd.sl.length
    · rw [wipeS_in hi (by rw [wipeS_length]; exact hl), wipeS_in hi hl]
    · rw [List.getElem?_eq_none (by rw [wipeS_length, wipeS_length]; omega), List.getElem?_eq_none (by rw [wipeS_length]; omega)]
  · rw [wipeS_out hi, wipeS_out hi, wipeS_out fun z => hi (h i z)]
theorem wipe_one {σ : L2.St} {i : Nat} : ∀ {us : List Nat}, i ∈ us → (wipe σ us)[i]? = if i < σ.length then some none else none
  | u :: us, h => by
    unfold wipe
    by_cases e : u = i
    · subst e
      by_cases hl : u < σ.length
      · rw [List.getElem?_set_self (by rw [wipe_length]; exact hl), if_pos hl]
      · rw [List.getElem?_eq_none (by rw [List.length_set, wipe_length]; omega), if_neg hl]
    · rw [List.getElem?_set_ne e]
      exact wipe_one ((List.mem_cons.mp h).resolve_left fun z => e z.symm)
theorem wipe_wipeV {vs vs1 : List Nat} (h : ∀ i ∈ vs1, i ∈ vs) (σ : L2.St) : wipe (wipe σ vs1) vs = wipe σ vs := by
  refine List.ext_getElem? fun i => ?_
  by_cases hi : i ∈ vs
  · rw [wipe_one hi, wipe_one hi, wipe_length]
  · rw [wipe_in hi, wipe_in hi, wipe_in fun z => hi (h i z)]
/-- the loop of a comprehension, by values: acc0 is there already -/
theorem comp_go {J : It} {t : TG} {tt : TT} {te : TE} {g : D → SD → Option SD} {c : SD → ER Bool} {elt : SD → ER D} {vs is : List Nat} {G F1 H1 : Hp} {sd1 : SD} {σ : L2.St} {ds acc0 : List D} {xs0 : List V} {L : Addr} {Q : Hp → Prop} {res : List D} {sdr : SD}
    (his : ∀ i ∈ is, i ∈ vs)
    (hg : ∀ (pv : List V) (G F : Hp) (sd : SD) (σ : L2.St) (H : Hp) (x : V) (d : D) (sd' : SD), StR K pv G F sd σ H → Rep K F x d → g d sd = some sd' → ∀ Q : L2.St → Hp → Prop, (∀ σ', StR K pv G F sd' σ' H → (∀ vs : List Nat, (∀ i ∈ is, i ∈ vs) → wipe σ' vs = wipe σ vs) → Q σ' H) → t x σ H Q)
    (hgw : ∀ d sd sd', g d sd = some sd' → sd'.wipe vs = sd.wipe vs)
    (hc : TrT K pv W0 pc tt c) (he : TrX K pv W0 pe true te elt) (wk : Walk K J F1 ds) (s1 : StR K pv (upd G L (.lst xs0)) F1 (sd1.wipe vs) (wipe σ vs) H1) (ra0 : Reps K F1 xs0 acc0) (e : goComp g c elt vs ds acc0 sd1 = .ok res sdr)
    (hQ : ∀ F' H' xs, Same F1 F' → StR K pv (upd G L (.lst xs)) F' (sdr.wipe vs) (wipe σ vs) H' → Reps K F' xs res → ((pc && pe) = true → (∀ a u, a ≠ L → H1 a = some u → H' a = some u) ∧ sdr.wipe vs = sd1.wipe vs) → Q H') :
    ∃ W : Nat → Nat → Hp → Prop, (∃ m, W 0 m H1) ∧ ∀ i m H, W i m H → (J.stop i H ∧ Q H) ∨ (J.go i H ∧ ∃ Nx : Hp → Prop, (∀ H', Nx H' → ∃ m', m' < m ∧ W (i + 1) m' H') ∧ ∀ x H', J.yld i H x H' → t x (wipe σ vs) H' fun σ2 H2 => wipe σ2 vs = wipe σ vs ∧ tt σ2 H2 fun b H3 =>
      if b = true then te σ2 H3 fun y H4 => ∃ acc, H4 L = some (.lst acc) ∧ acc.length < sizeLine ∧ Nx (upd H4 L (.lst (acc ++ [y]))) else Nx H3) := by
  have ww : ∀ (sd : SD) , (sd.wipe vs).wipe vs = sd.wipe vs := fun sd => wipe_wipe (fun i h => h) sd
  have sw : wipe (wipe σ vs) vs = wipe σ vs := wipe_wipeV (fun i h => h) σ
  let Inv : Nat → Hp → Prop := fun i H => ∃ F' sd' acc xs, Same F1 F' ∧ StR K pv (upd G L (.lst xs)) F' (sd'.wipe vs) (wipe σ vs) H ∧ Reps K F' xs acc ∧ goComp g c elt vs (ds.drop i) acc sd' = .ok res sdr ∧ ((pc && pe) = true → (∀ a u, a ≠ L → H1 a = some u → H a = some u) ∧ sd'.wipe vs = sd1.wipe vs)
  refine ⟨fun i m H => m = ds.length - i ∧ i ≤ ds.length ∧ Inv i H, ⟨ds.length, by simp, Nat.zero_le _, F1, sd1, acc0, xs0, Same.refl _, s1, ra0, e, fun _ => ⟨fun a u _ h => h, rfl⟩⟩, ?_⟩
  rintro i m H ⟨rfl, hi, F', sd', acc, xs, f1, st, ra, eg, pu⟩
  by_cases hlt : i < ds.length
  · have hd : ds[i]? = some ds[i] := by simp [hlt]
    refine .inr ⟨wk.go F' H i _ f1 st.fh hd, Inv (i + 1), fun H' q => ⟨ds.length - (i + 1), by omega, rfl, hlt, q⟩, fun x H' y => ?_⟩
    rw [drop_at hd, goComp] at eg
    cases e1 : g ds[i] (sd'.wipe vs) with
    | none => rw [e1] at eg; cases eg
    | some sda =>
      rw [e1] at eg
      dsimp only at eg
      have main : ∀ F2 H2, Same F' F2 → StR K pv (upd G L (.lst xs)) F2 (sd'.wipe vs) (wipe σ vs) H2 → Rep K F2 x ds[i] → ((pc && pe) = true → ∀ a u, a ≠ L → H1 a = some u → H2 a = some u) → t x (wipe σ vs) H2 fun σ2 H2 => wipe σ2 vs = wipe σ vs ∧ tt σ2 H2 fun b H3 =>
          if b = true then te σ2 H3 fun y H4 => ∃ acc, H4 L = some (.lst acc) ∧ acc.length < sizeLine ∧ Inv (i + 1) (upd H4 L (.lst (acc ++ [y]))) else Inv (i + 1) H3 := fun F2 H2 f2 st2 rx pu2 => by
        refine hg pv _ F2 _ _ H2 x _ sda st2 rx e1 _ fun σ2 k1 k2 => ?_
        have w2 : wipe σ2 vs = wipe σ vs := (k2 vs his).trans sw
        have pw : (pc && pe) = true → sda.wipe vs = sd1.wipe vs := fun z => by rw [hgw _ _ _ e1, ww, (pu z).2]
        refine ⟨w2, ?_⟩
        have z := hc (upd G L (.lst xs)) F2 sda σ2 H2 (fun b H3 => if b = true then te σ2 H3 fun y H4 => ∃ acc, H4 L = some (.lst acc) ∧ acc.length < sizeLine ∧ Inv (i + 1) (upd H4 L (.lst (acc ++ [y]))) else Inv (i + 1) H3) k1
        revert eg z
        cases c sda with
        | bad => intro eg; cases eg
        | rz _ _ => intro eg; cases eg
        | ok b sdb =>
          intro eg z
          refine z fun b' F3 H3 u1 u2 u3 u4 => ?_
          have u3 : b' = b := u3
          subst u3
          have eg : (if b' = true then ((elt sdb).calm.bind fun y sd3 => if acc.length < 16777216 then goComp g c elt vs (ds.drop (i + 1)) (acc ++ [y]) sd3 else .bad) else goComp g c elt vs (ds.drop (i + 1)) acc sdb) = .ok res sdr := eg
          cases b' with
          | false =>
            rw [if_neg (by decide)] at eg
            refine iteF ?_
            refine ⟨F3, sdb, acc, xs, (f1.trans f2).trans u1, ?_, ra.mono (f2.trans u1), eg, fun zz => ?_⟩
            · have q := u2.wipe vs
              rw [w2] at q; exact q
            · have zc : pc = true := (Bool.and_eq_true _ _ ▸ zz : pc = true ∧ pe = true).1
              obtain ⟨v1, v2⟩ := u4 zc
              exact ⟨fun a u n h => v1 a u (pu2 zz a u n h), by rw [v2]; exact pw zz⟩
          | true =>
            rw [if_pos rfl] at eg
            refine iteT ?_
            have z2 := he (upd G L (.lst xs)) F3 sdb σ2 H3 (fun y H4 => ∃ acc, H4 L = some (.lst acc) ∧ acc.length < sizeLine ∧ Inv (i + 1) (upd H4 L (.lst (acc ++ [y])))) u2
            revert eg z2
            cases elt sdb with
            | bad => intro eg; cases eg
            | rz _ _ => intro eg; cases eg
            | ok d sdc =>
              intro eg z2
              have eg : (if acc.length < 16777216 then goComp g c elt vs (ds.drop (i + 1)) (acc ++ [d]) sdc else .bad) = .ok res sdr := eg
              split at eg
              · rename_i hz
                refine z2 fun y F4 H4 v1 v2 v3 v4 => ?_
                have r4 : Reps K F4 xs acc := ra.mono ((f2.trans u1).trans v1)
                refine ⟨xs, v2.at_lay, by rw [r4.length, sizeLine_eq]; exact hz, F4, sdc, acc ++ [d], xs ++ [y], ((f1.trans f2).trans u1).trans v1, ?_, r4.append (.one v3), eg, fun zz => ?_⟩
                · have q := (v2.relay (ys := xs ++ [y])).wipe vs
                  rw [w2] at q; exact q
                · have zce : pc = true ∧ pe = true := (Bool.and_eq_true _ _ ▸ zz : pc = true ∧ pe = true)
                  obtain ⟨a1, a2⟩ := u4 zce.1
                  obtain ⟨b1, b2⟩ := v4 zce.2
                  exact ⟨fun a u n h => by
                    rw [upd_ne n]
                    exact b1 a u (a1 a u (pu2 zz a u n h)), by rw [b2, a2]; exact pw zz⟩
              · cases eg
      rcases wk.yld F' H i _ x H' f1 st.fh hd y with ⟨rfl, rx⟩ | ⟨T, us, es, rfl, ed, hT, rfl, rr⟩
      · exact main F' H' (Same.refl _) st rx fun z => (pu z).1
      · refine main _ _ (st.sameNew hT) (st.new (u := .tup us) hT) ?_ fun z a u n h => ?_
        · rw [ed]
          exact .tup upd_same (rr.mono (st.sameNew hT))
        · have := (pu z).1 a u n h
          rw [upd_ne (ne_of_none this hT)]; exact this
  · have e2 : i = ds.length := by omega
    subst e2
    rw [List.drop_length, goComp] at eg
    cases eg
    exact .inl ⟨wk.stop F' H f1 st.fh, hQ F' H xs f1 st ra pu⟩
/-- .. from the start -/
theorem comp_run {J : It} {t : TG} {tt : TT} {te : TE} {g : D → SD → Option SD} {c : SD → ER Bool} {elt : SD → ER D} {vs is : List Nat} {G F1 H1 : Hp} {sd1 : SD} {σ : L2.St} {ds : List D} {L : Addr} {Q : Hp → Prop} {res : List D} {sdr : SD}
    (his : ∀ i ∈ is, i ∈ vs)
    (hg : ∀ (pv : List V) (G F : Hp) (sd : SD) (σ : L2.St) (H : Hp) (x : V) (d : D) (sd' : SD), StR K pv G F sd σ H → Rep K F x d → g d sd = some sd' → ∀ Q : L2.St → Hp → Prop, (∀ σ', StR K pv G F sd' σ' H → (∀ vs : List Nat, (∀ i ∈ is, i ∈ vs) → wipe σ' vs = wipe σ vs) → Q σ' H) → t x σ H Q)
    (hgw : ∀ d sd sd', g d sd = some sd' → sd'.wipe vs = sd.wipe vs)
    (hc : TrT K pv W0 pc tt c) (he : TrX K pv W0 pe true te elt) (wk : Walk K J F1 ds) (s1 : StR K pv G F1 (sd1.wipe vs) (wipe σ vs) H1) (hL : H1 L = none) (e : goComp g c elt vs ds [] sd1 = .ok res sdr)
    (hQ : ∀ F' H' xs, Same F1 F' → StR K pv (upd G L (.lst xs)) F' (sdr.wipe vs) (wipe σ vs) H' → Reps K F' xs res → ((pc && pe) = true → Same H1 H' ∧ sdr.wipe vs = sd1.wipe vs) → Q H') :
    ∃ W : Nat → Nat → Hp → Prop, (∃ m, W 0 m (upd H1 L (.lst []))) ∧ ∀ i m H, W i m H → (J.stop i H ∧ Q H) ∨ (J.go i H ∧ ∃ Nx : Hp → Prop, (∀ H', Nx H' → ∃ m', m' < m ∧ W (i + 1) m' H') ∧ ∀ x H', J.yld i H x H' → t x (wipe σ vs) H' fun σ2 H2 => wipe σ2 vs = wipe σ vs ∧ tt σ2 H2 fun b H3 =>
      if b = true then te σ2 H3 fun y H4 => ∃ acc, H4 L = some (.lst acc) ∧ acc.length < sizeLine ∧ Nx (upd H4 L (.lst (acc ++ [y]))) else Nx H3) :=
  comp_go his hg hgw hc he wk (s1.lay hL) .nil e fun F' H' xs f1 st r pu => hQ F' H' xs f1 st r fun z => ⟨fun a u h => (pu z).1 a u (ne_of_none h hL) (by rw [upd_ne (ne_of_none h hL)]; exact h), (pu z).2⟩
end
section
variable {X : Cx} {pv : List V} {W : WX} {p q k l pc pe : Bool} {tg iter elt : Expr} {ifs : List Expr} {scope : Scope} {pos : Pos}
theorem comp_tr {own : List (Str × Nat)} {is : List Nat} {wi : TI} {t : TG} {tt : TT} {te : TE} {mi : SD → ER (List D)} {g : D → SD → Option SD} {mc : SD → ER Bool} {me : SD → ER D} (hi : TrI X.K pv W p wi mi)
    (hg : ∀ (pv : List V) (G F : Hp) (sd : SD) (σ : L2.St) (H : Hp) (x : V) (d : D) (sd' : SD), StR X.K pv G F sd σ H → Rep X.K F x d → g d sd = some sd' → ∀ Q : L2.St → Hp → Prop, (∀ σ', StR X.K pv G F sd' σ' H → (∀ vs : List Nat, (∀ i ∈ is, i ∈ vs) → wipe σ' vs = wipe σ vs) → Q σ' H) → t x σ H Q)
    (hgw : ∀ (vs : List Nat), (∀ i ∈ is, i ∈ vs) → ∀ d sd sd', g d sd = some sd' → SD.wipe sd' vs = SD.wipe sd vs) (hc : TrT X.K pv W0 pc tt mc) (he : TrX X.K pv W0 pe true te me) (his : ∀ i ∈ is, i ∈ own.map (·.2)) :
    TrO X.K pv W (p && (pc && pe)) (tLc wi t tt te (own.map (·.2))) (mComp mi g mc me (own.map (·.2))) := by
  intro G F sd σ H Q s
  refine Meets.bind (hi G F sd σ H _ s) fun J F1 H1 ds sd1 s1 s2 s3 s4 => ?_
  cases e : goComp g mc me (own.map (·.2)) ds [] sd1 with
  | bad => exact True.intro
  | rz x sr => exact absurd e (goComp_calm ds [] sd1 x sr)
  | ok res sdr =>
    intro hQ L hL
    obtain ⟨G', g1, g2, g3⟩ := s2.block (own.map (·.2))
    refine comp_run his hg (hgw _ his) hc he s3 g2 hL e fun F' H' xs f1 st r pu => ?_
    have z := st.unlay (g1 L hL) r
    have z2 := g3 F' sdr H' _ _ f1 z
    exact hQ _ F' H' f1 z2.drop z2 fun zz => ⟨(pu zz).1, back_self (pu zz).2⟩
end

/-! ### readings by the mirror alone -/
def Cond {α β : Type} (K : PySem.W.Frag) (pv : List V) (W : WX) (G : Hp) (σ : L2.St) (RS : RSt β α) (p : Bool) (sd : SD) (F H : Hp) (r : ER α) (Q : β → Hp → Prop) : Prop :=
  match r with
  | .ok a sd' => ∀ v F' H', Same F F' → StR K pv G F' sd' σ H' → RS G F' sd' H' σ v a → (p = true → Same H H' ∧ sd' = sd) → Q v H'
  | .rz x sd' => ∀ cls dd F' H', Same F F' → StR K pv G F' sd' σ H' → RepX K F' cls dd x → W cls dd σ H'
  | .bad => False
theorem meets_of {α β : Type} {K : PySem.W.Frag} {pv : List V} {W : WX} {G F H : Hp} {σ : L2.St} {RS : RSt β α} {p : Bool} {sd : SD} {r : ER α} {Q : β → Hp → Prop} {P : Prop} (h : Cond K pv W G σ RS p sd F H r Q → P) : Meets K pv W G σ RS p sd F H r Q P := by
  cases r with
  | bad => exact True.intro
  | _ => exact h
theorem Meets.get {α β : Type} {K : PySem.W.Frag} {pv : List V} {W : WX} {G F H : Hp} {σ : L2.St} {RS : RSt β α} {p : Bool} {sd : SD} {r : ER α} {Q : β → Hp → Prop} {P : Prop} (h : Meets K pv W G σ RS p sd F H r Q P) (c : Cond K pv W G σ RS p sd F H r Q) : P := by
  cases r with
  | bad => exact c.elim
  | _ => exact h c
def canX (K : PySem.W.Frag) (pv : List V) (W : WX) (p k : Bool) (m : SD → ER D) : TE := fun σ H Q => ∃ G F sd, StR K pv G F sd σ H ∧ Cond K pv W G σ (RSx K k) p sd F H (m sd) Q
def canT (K : PySem.W.Frag) (pv : List V) (W : WX) (p : Bool) (m : SD → ER Bool) : TT := fun σ H Q => ∃ G F sd, StR K pv G F sd σ H ∧ Cond K pv W G σ RSb p sd F H (m sd) Q
def canG (K : PySem.W.Frag) (is : List Nat) (g : D → SD → Option SD) : TG := fun x σ H Q => ∃ (pv : List V) (G F : Hp) (sd : SD) (d : D) (sd' : SD), StR K pv G F sd σ H ∧ Rep K F x d ∧ g d sd = some sd' ∧
  ∀ σ', StR K pv G F sd' σ' H → (∀ vs : List Nat, (∀ i ∈ is, i ∈ vs) → wipe σ' vs = wipe σ vs) → Q σ' H
def canI (K : PySem.W.Frag) (pv : List V) (W : WX) (p : Bool) (m : SD → ER (List D)) : TI := fun σ H R => ∃ G F sd, StR K pv G F sd σ H ∧ Cond K pv W G σ (RSw K) p sd F H (m sd) R
section
variable {X : Cx} {pv : List V} {W : WX} {p q k l pc pe : Bool} {e tg iter elt : Expr} {ifs : List Expr} {scope : Scope} {pos : Pos}
theorem DX.can {m : SD → ER D} (h : DX X pv W p k e m) : PE X e (canX X.K pv W p k m) := by
  obtain ⟨te, h1, h2⟩ := h
  exact ⟨fun pins s σ H Q I ⟨G, F, sd, st, c⟩ => h1.run pins s σ H Q I ((h2 G F sd σ H Q st).get c)⟩
theorem canX_tr {K : PySem.W.Frag} {m : SD → ER D} : TrX K pv W p k (canX K pv W p k m) m := fun G F sd σ H Q s => meets_of fun c => ⟨G, F, sd, s, c⟩
theorem DT.can {m : SD → ER Bool} (h : DT X pv W p e m) : PT X e (canT X.K pv W p m) := by
  obtain ⟨te, h1, h2⟩ := h
  exact ⟨fun pins s σ H Q I ⟨G, F, sd, st, c⟩ => h1.run pins s σ H Q I ((h2 G F sd σ H Q st).get c)⟩
theorem canT_tr {K : PySem.W.Frag} {m : SD → ER Bool} : TrT K pv W p (canT K pv W p m) m := fun G F sd σ H Q s => meets_of fun c => ⟨G, F, sd, s, c⟩
theorem DI.can {m : SD → ER (List D)} (h : DI X pv W p tg iter m) : PI X tg iter (canI X.K pv W p m) := by
  obtain ⟨te, h1, h2⟩ := h
  exact ⟨fun pins s σ H Q I ⟨G, F, sd, st, c⟩ => h1.run pins s σ H Q I ((h2 G F sd σ H Q st).get c)⟩
theorem canI_tr {K : PySem.W.Frag} {m : SD → ER (List D)} : TrI K pv W p (canI K pv W p m) m := fun G F sd σ H Q s => meets_of fun c => ⟨G, F, sd, s, c⟩
theorem DG.can {is : List Nat} {g : D → SD → Option SD} (h : DG X is tg g) : PG X tg (canG X.K is g) := by
  obtain ⟨⟨t, h1, h2⟩, _⟩ := h
  refine ⟨fun pins s σ H v u Q I r ⟨pv, G, F, sd, d, sd', st, rd, e, hq⟩ => ?_⟩
  obtain ⟨σ', k1, k2, k3⟩ := h2 pv G F sd σ H v d sd' st rd e
  exact h1.run pins s σ H v u Q I r (k3 Q (hq σ' k1 k2))
/-- the tests of a clause -/
structure DTs (X : Cx) (pv : List V) (W : WX) (p : Bool) (ifs : List Expr) (m : SD → ER Bool) : Prop where
  run : PTs X ifs (canT X.K pv W p m)
theorem dts_nil : DTs X pv W true [] mYes := ⟨⟨fun pins s σ H Q I ⟨G, F, sd, st, c⟩ => (pts_nil (X := X)).run pins s σ H Q I (c true F H (Same.refl _) st rfl fun _ => ⟨Same.refl _, rfl⟩)⟩⟩
theorem dts_one {c : Expr} {m : SD → ER Bool} (h : DT X pv W p c m) : DTs X pv W p [c] m := ⟨pts_one h.can⟩
theorem canG_run {K : PySem.W.Frag} {is : List Nat} {g : D → SD → Option SD} (pv : List V) (G F : Hp) (sd : SD) (σ : L2.St) (H : Hp) (x : V) (d : D) (sd' : SD) (s : StR K pv G F sd σ H) (r : Rep K F x d) (e : g d sd = some sd') (Q : L2.St → Hp → Prop)
    (hQ : ∀ σ', StR K pv G F sd' σ' H → (∀ vs : List Nat, (∀ i ∈ is, i ∈ vs) → wipe σ' vs = wipe σ vs) → Q σ' H) : canG K is g x σ H Q := ⟨pv, G, F, sd, d, sd', s, r, e, hQ⟩
/-- [elt for tg in iter if ..] as a value -/
theorem do_comp {own : List (Str × Nat)} {is : List Nat} {mi : SD → ER (List D)} {g : D → SD → Option SD} {mc : SD → ER Bool} {me : SD → ER D} (hc : X.calm = true) (hN : X.N.Nodup) (hi : DI X pv W p tg iter mi) (ok : BlkOk X.N X.env.scope scope own)
    (hg : ∀ (s : Shared) (H : Hp) (C : Addr) (cl : List (Str × Addr)) (fp : List Addr), DG (X.blk s H scope (compEnvC scope cl C X.env) fp) is tg g)
    (ht : ∀ (s : Shared) (H : Hp) (C : Addr) (cl : List (Str × Addr)) (fp : List Addr), DTs (X.blk s H scope (compEnvC scope cl C X.env) fp) pv W0 pc ifs mc)
    (he : ∀ (s : Shared) (H : Hp) (C : Addr) (cl : List (Str × Addr)) (fp : List Addr), DX (X.blk s H scope (compEnvC scope cl C X.env) fp) pv W0 pe true elt me) (his : ∀ i ∈ is, i ∈ own.map (·.2))
    (wip : ∀ (vs : List Nat), (∀ i ∈ is, i ∈ vs) → ∀ d sd sd', g d sd = some sd' → SD.wipe sd' vs = SD.wipe sd vs)
    (hs : ∀ x, foldedSetIterable iter X.env x = pure x := by intro _; rfl) :
    DO X pv W (p && (pc && pe)) (.ListComp elt [⟨tg, iter, ifs, 0⟩] scope pos) (mComp mi g mc me (own.map (·.2))) := by
  obtain ⟨wi, a1, a2⟩ := hi
  exact ⟨_, pe_lc hc hN a1 ok (fun s H C cl fp => (hg s H C cl fp).can) (fun s H C cl fp => (ht s H C cl fp).run) (fun s H C cl fp => (he s H C cl fp).can) hs, comp_tr a2 canG_run wip canT_tr canX_tr his⟩
/-- name = [..], on one line -/
theorem ds_setComp {own : List (Str × Nat)} {is : List Nat} {i : Nat} {y : Str} {py spos : Pos} {mi : SD → ER (List D)} {g : D → SD → Option SD} {mc : SD → ER Bool} {me : SD → ER D} (hc : X.calm = true) (hN : X.N.Nodup) (hy : X.N[i]? = some y) (hyl : X.env.scope.names.lookup y = some .local)
    (hsw : swapsWith (.ListComp elt [⟨tg, iter, ifs, 0⟩] scope pos) (some (.Name y py)) spos.line X.env = pure true) (hi : DI X pv W p tg iter mi) (ok : BlkOk X.N X.env.scope scope own)
    (hg : ∀ (s : Shared) (H : Hp) (C : Addr) (cl : List (Str × Addr)) (fp : List Addr), DG (X.blk s H scope (compEnvC scope cl C X.env) fp) is tg g)
    (ht : ∀ (s : Shared) (H : Hp) (C : Addr) (cl : List (Str × Addr)) (fp : List Addr), DTs (X.blk s H scope (compEnvC scope cl C X.env) fp) pv W0 pc ifs mc)
    (he : ∀ (s : Shared) (H : Hp) (C : Addr) (cl : List (Str × Addr)) (fp : List Addr), DX (X.blk s H scope (compEnvC scope cl C X.env) fp) pv W0 pe true elt me) (his : ∀ i ∈ is, i ∈ own.map (·.2))
    (wip : ∀ (vs : List Nat), (∀ i ∈ is, i ∈ vs) → ∀ d sd sd', g d sd = some sd' → SD.wipe sd' vs = SD.wipe sd vs)
    (hs : ∀ x, foldedSetIterable iter X.env x = pure x := by intro _; rfl) :
    DS X pv W (.Assign [.Name y py] (.ListComp elt [⟨tg, iter, ifs, 0⟩] scope pos) spos) (sSet i (mComp mi g mc me (own.map (·.2)))) := by
  obtain ⟨wi, a1, a2⟩ := hi
  exact ⟨_, ps_setLc hc hN hy hyl hsw a1 ok (fun s H C cl fp => (hg s H C cl fp).can) (fun s H C cl fp => (ht s H C cl fp).run) (fun s H C cl fp => (he s H C cl fp).can) hs, tr_set (comp_tr a2 canG_run wip canT_tr canX_tr his)⟩
end
end DL

/-! DL10: list comprehensions with two fors. -/
namespace DL
open PySem PySem.Spec L2

def goComp2 (g : D → SD → Option SD) (c : SD → ER Bool) (it1 : SD → ER (List D)) (g1 : D → SD → Option SD) (c1 : SD → ER Bool) (elt : SD → ER D) (vs vs1 : List Nat) : List D → List D → SD → ER (List D)
  | [], acc, sd => .ok acc sd
  | d :: ds, acc, sd => match g d (sd.wipe vs) with
    | none => .bad
    | some sd1 => (c sd1).calm.bind fun b sd2 => if b = true then ((it1 sd2).calm.bind fun es sd3 => (goComp g1 c1 elt vs1 es acc sd3).bind fun acc2 sd4 => goComp2 g c it1 g1 c1 elt vs vs1 ds acc2 sd4) else goComp2 g c it1 g1 c1 elt vs vs1 ds acc sd2
def mComp2 (it : SD → ER (List D)) (g : D → SD → Option SD) (c : SD → ER Bool) (it1 : SD → ER (List D)) (g1 : D → SD → Option SD) (c1 : SD → ER Bool) (elt : SD → ER D) (vs vs1 : List Nat) : SD → ER OT :=
  fun sd => (it sd).bind fun ds sd1 => (goComp2 g c it1 g1 c1 elt vs vs1 ds [] sd1).bind fun res sd2 => .ok (.ol (res.map .fz)) (sd2.back sd1 vs)
theorem goComp2_calm {g : D → SD → Option SD} {c : SD → ER Bool} {it1 : SD → ER (List D)} {g1 : D → SD → Option SD} {c1 : SD → ER Bool} {elt : SD → ER D} {vs vs1 : List Nat} : ∀ (ds acc : List D) (sd : SD) (x : Exn) (s : SD), goComp2 g c it1 g1 c1 elt vs vs1 ds acc sd ≠ .rz x s
  | [], acc, sd, x, s => by rw [goComp2]; intro h; cases h
  | d :: ds, acc, sd, x, s => by
    rw [goComp2]
    cases g d (sd.wipe vs) with
    | none => intro h; cases h
    | some sd1 =>
      show (c sd1).calm.bind _ ≠ _
      cases c sd1 with
      | bad => intro h; cases h
      | rz _ _ => intro h; cases h
      | ok b sd2 =>
        show (if b = true then _ else _) ≠ _
        split
        · cases it1 sd2 with
          | bad => intro h; cases h
          | rz _ _ => intro h; cases h
          | ok es sd3 =>
            show (goComp g1 c1 elt vs1 es acc sd3).bind _ ≠ _
            cases e : goComp g1 c1 elt vs1 es acc sd3 with
            | bad => intro h; cases h
            | rz y s2 => exact absurd e (goComp_calm es acc sd3 y s2)
            | ok acc2 sd4 => exact goComp2_calm ds acc2 sd4 x s
        · exact goComp2_calm ds acc sd2 x s
section
variable {K : PySem.W.Frag} {pv : List V} {W : WX} {p q pc pe pi1 pc1 : Bool}
/-- by values -/
abbrev TgRun (K : PySem.W.Frag) (is : List Nat) (t : TG) (g : D → SD → Option SD) : Prop := ∀ (pv : List V) (G F : Hp) (sd : SD) (σ : L2.St) (H : Hp) (x : V) (d : D) (sd' : SD), StR K pv G F sd σ H → Rep K F x d → g d sd = some sd' → ∀ Q : L2.St → Hp → Prop, (∀ σ', StR K pv G F sd' σ' H → (∀ vs : List Nat, (∀ i ∈ is, i ∈ vs) → wipe σ' vs = wipe σ vs) → Q σ' H) → t x σ H Q
theorem comp2_run {J : It} {t t1 : TG} {tt tt1 : TT} {te : TE} {wi1 : TI} {g g1 : D → SD → Option SD} {c c1 : SD → ER Bool} {it1 : SD → ER (List D)} {elt : SD → ER D} {vs vs1 is is1 : List Nat} {G F1 H1 : Hp} {sd1 : SD} {σ : L2.St} {ds : List D} {L : Addr} {Q : Hp → Prop} {res : List D} {sdr : SD}
    (his : ∀ i ∈ is, i ∈ vs) (his1 : ∀ i ∈ is1, i ∈ vs1) (hvs : ∀ i ∈ vs1, i ∈ vs)
    (hg : TgRun K is t g) (hgw : ∀ d sd sd', g d sd = some sd' → sd'.wipe vs = sd.wipe vs) (hg1 : TgRun K is1 t1 g1) (hgw1 : ∀ d sd sd', g1 d sd = some sd' → sd'.wipe vs1 = sd.wipe vs1)
    (hc : TrT K pv W0 pc tt c) (hi1 : TrI K pv W0 pi1 wi1 it1) (hc1 : TrT K pv W0 pc1 tt1 c1) (he : TrX K pv W0 pe true te elt) (wk : Walk K J F1 ds) (s1 : StR K pv G F1 (sd1.wipe vs) (wipe σ vs) H1) (hL : H1 L = none)
    (e : goComp2 g c it1 g1 c1 elt vs vs1 ds [] sd1 = .ok res sdr)
    (hQ : ∀ F' H' xs, Same F1 F' → StR K pv (upd G L (.lst xs)) F' (sdr.wipe vs) (wipe σ vs) H' → Reps K F' xs res → ((pc && (pi1 && (pc1 && pe))) = true → Same H1 H' ∧ sdr.wipe vs = sd1.wipe vs) → Q H') :
    ∃ W : Nat → Nat → Hp → Prop, (∃ m, W 0 m (upd H1 L (.lst []))) ∧ ∀ i m H, W i m H → (J.stop i H ∧ Q H) ∨ (J.go i H ∧ ∃ Nx : Hp → Prop, (∀ H', Nx H' → ∃ m', m' < m ∧ W (i + 1) m' H') ∧ ∀ x H', J.yld i H x H' → t x (wipe σ vs) H' fun σ2 H2 => wipe σ2 vs = wipe σ vs ∧ tt σ2 H2 fun b H3 =>
      if b = true then wi1 σ2 H3 fun J1 H4 => ∃ W1 : Nat → Nat → Hp → Prop, (∃ m, W1 0 m H4) ∧ ∀ j k H, W1 j k H →
        (J1.stop j H ∧ Nx H) ∨ (J1.go j H ∧ ∃ Nx1 : Hp → Prop, (∀ H', Nx1 H' → ∃ k', k' < k ∧ W1 (j + 1) k' H') ∧ ∀ x H', J1.yld j H x H' → t1 x (wipe σ2 vs1) H' fun σ3 H5 => wipe σ3 vs1 = wipe σ2 vs1 ∧ tt1 σ3 H5 fun b H6 =>
          if b = true then te σ3 H6 fun y H7 => ∃ acc, H7 L = some (.lst acc) ∧ acc.length < sizeLine ∧ Nx1 (upd H7 L (.lst (acc ++ [y]))) else Nx1 H6)
      else Nx H3) := by
  have ww : ∀ (sd : SD) , (sd.wipe vs).wipe vs = sd.wipe vs := fun sd => wipe_wipe (fun i h => h) sd
  have sw : wipe (wipe σ vs) vs = wipe σ vs := wipe_wipeV (fun i h => h) σ
  let Inv : Nat → Hp → Prop := fun i H => ∃ F' sd' acc xs, Same F1 F' ∧ StR K pv (upd G L (.lst xs)) F' (sd'.wipe vs) (wipe σ vs) H ∧ Reps K F' xs acc ∧ goComp2 g c it1 g1 c1 elt vs vs1 (ds.drop i) acc sd' = .ok res sdr ∧ ((pc && (pi1 && (pc1 && pe))) = true → (∀ a u, a ≠ L → H1 a = some u → H a = some u) ∧ sd'.wipe vs = sd1.wipe vs)
  refine ⟨fun i m H => m = ds.length - i ∧ i ≤ ds.length ∧ Inv i H, ⟨ds.length, by simp, Nat.zero_le _, F1, sd1, [], [], Same.refl _, s1.lay hL, .nil, e, fun _ => ⟨fun a u n h => by rw [upd_ne n]; exact h, rfl⟩⟩, ?_⟩
  rintro i m H ⟨rfl, hi, F', sd', acc, xs, f1, st, ra, eg, pu⟩
  by_cases hlt : i < ds.length
  · have hd : ds[i]? = some ds[i] := by simp [hlt]
    refine .inr ⟨wk.go F' H i _ f1 st.fh hd, Inv (i + 1), fun H' q => ⟨ds.length - (i + 1), by omega, rfl, hlt, q⟩, fun x H' y => ?_⟩
    rw [drop_at hd, goComp2] at eg
    cases e1 : g ds[i] (sd'.wipe vs) with
    | none => rw [e1] at eg; cases eg
    | some sda =>
      rw [e1] at eg
      dsimp only at eg
      have main : ∀ F2 H2, Same F' F2 → StR K pv (upd G L (.lst xs)) F2 (sd'.wipe vs) (wipe σ vs) H2 → Rep K F2 x ds[i] → ((pc && (pi1 && (pc1 && pe))) = true → ∀ a u, a ≠ L → H1 a = some u → H2 a = some u) → t x (wipe σ vs) H2 fun σ2 H2 => wipe σ2 vs = wipe σ vs ∧ tt σ2 H2 fun b H3 =>
          if b = true then wi1 σ2 H3 fun J1 H4 => ∃ W1 : Nat → Nat → Hp → Prop, (∃ m, W1 0 m H4) ∧ ∀ j k H, W1 j k H →
            (J1.stop j H ∧ Inv (i + 1) H) ∨ (J1.go j H ∧ ∃ Nx1 : Hp → Prop, (∀ H', Nx1 H' → ∃ k', k' < k ∧ W1 (j + 1) k' H') ∧ ∀ x H', J1.yld j H x H' → t1 x (wipe σ2 vs1) H' fun σ3 H5 => wipe σ3 vs1 = wipe σ2 vs1 ∧ tt1 σ3 H5 fun b H6 =>
              if b = true then te σ3 H6 fun y H7 => ∃ acc, H7 L = some (.lst acc) ∧ acc.length < sizeLine ∧ Nx1 (upd H7 L (.lst (acc ++ [y]))) else Nx1 H6)
          else Inv (i + 1) H3 := fun F2 H2 f2 st2 rx pu2 => by
        refine hg pv _ F2 _ _ H2 x _ sda st2 rx e1 _ fun σ2 k1 k2 => ?_
        have w2 : wipe σ2 vs = wipe σ vs := (k2 vs his).trans sw
        have pw : (pc && (pi1 && (pc1 && pe))) = true → sda.wipe vs = sd1.wipe vs := fun z => by rw [hgw _ _ _ e1, ww, (pu z).2]
        refine ⟨w2, ?_⟩
        have z := hc (upd G L (.lst xs)) F2 sda σ2 H2 (fun b H3 => if b = true then wi1 σ2 H3 fun J1 H4 => ∃ W1 : Nat → Nat → Hp → Prop, (∃ m, W1 0 m H4) ∧ ∀ j k H, W1 j k H →
            (J1.stop j H ∧ Inv (i + 1) H) ∨ (J1.go j H ∧ ∃ Nx1 : Hp → Prop, (∀ H', Nx1 H' → ∃ k', k' < k ∧ W1 (j + 1) k' H') ∧ ∀ x H', J1.yld j H x H' → t1 x (wipe σ2 vs1) H' fun σ3 H5 => wipe σ3 vs1 = wipe σ2 vs1 ∧ tt1 σ3 H5 fun b H6 =>
              if b = true then te σ3 H6 fun y H7 => ∃ acc, H7 L = some (.lst acc) ∧ acc.length < sizeLine ∧ Nx1 (upd H7 L (.lst (acc ++ [y]))) else Nx1 H6)
          else Inv (i + 1) H3) k1
        revert eg z
        cases c sda with
        | bad => intro eg; cases eg
        | rz _ _ => intro eg; cases eg
        | ok b sdb =>
          intro eg z
          refine z fun b' F3 H3 u1 u2 u3 u4 => ?_
          have u3 : b' = b := u3
          subst u3
          have eg : (if b' = true then ((it1 sdb).calm.bind fun es sd3 => (goComp g1 c1 elt vs1 es acc sd3).bind fun acc2 sd4 => goComp2 g c it1 g1 c1 elt vs vs1 (ds.drop (i + 1)) acc2 sd4) else goComp2 g c it1 g1 c1 elt vs vs1 (ds.drop (i + 1)) acc sdb) = .ok res sdr := eg
          cases b' with
          | false =>
            rw [if_neg (by decide)] at eg
            refine iteF ?_
            refine ⟨F3, sdb, acc, xs, (f1.trans f2).trans u1, ?_, ra.mono (f2.trans u1), eg, fun zz => ?_⟩
            · have q := u2.wipe vs
              rw [w2] at q; exact q
            · have zc : pc = true := (Bool.and_eq_true _ _ ▸ zz : pc = true ∧ (pi1 && (pc1 && pe)) = true).1
              obtain ⟨v1, v2⟩ := u4 zc
              exact ⟨fun a u n h => v1 a u (pu2 zz a u n h), by rw [v2]; exact pw zz⟩
          | true =>
            rw [if_pos rfl] at eg
            refine iteT ?_
            have z2 := hi1 (upd G L (.lst xs)) F3 sdb σ2 H3 (fun J1 H4 => ∃ W1 : Nat → Nat → Hp → Prop, (∃ m, W1 0 m H4) ∧ ∀ j k H, W1 j k H →
              (J1.stop j H ∧ Inv (i + 1) H) ∨ (J1.go j H ∧ ∃ Nx1 : Hp → Prop, (∀ H', Nx1 H' → ∃ k', k' < k ∧ W1 (j + 1) k' H') ∧ ∀ x H', J1.yld j H x H' → t1 x (wipe σ2 vs1) H' fun σ3 H5 => wipe σ3 vs1 = wipe σ2 vs1 ∧ tt1 σ3 H5 fun b H6 =>
                if b = true then te σ3 H6 fun y H7 => ∃ acc, H7 L = some (.lst acc) ∧ acc.length < sizeLine ∧ Nx1 (upd H7 L (.lst (acc ++ [y]))) else Nx1 H6)) u2
            revert eg z2
            cases it1 sdb with
            | bad => intro eg; cases eg
            | rz _ _ => intro eg; cases eg
            | ok es sdc =>
              intro eg z2
              have eg : (goComp g1 c1 elt vs1 es acc sdc).bind (fun acc2 sd4 => goComp2 g c it1 g1 c1 elt vs vs1 (ds.drop (i + 1)) acc2 sd4) = .ok res sdr := eg
              cases e2 : goComp g1 c1 elt vs1 es acc sdc with
              | bad => rw [e2] at eg; cases eg
              | rz y s2 => exact absurd e2 (goComp_calm es acc sdc y s2)
              | ok acc2 sdd =>
                rw [e2] at eg
                have eg : goComp2 g c it1 g1 c1 elt vs vs1 (ds.drop (i + 1)) acc2 sdd = .ok res sdr := eg
                refine z2 fun J1 F4 H4 v1 v2 v3 v4 => ?_
                refine comp_go (pc := pc1) (pe := pe) his1 hg1 hgw1 hc1 he v3 (v2.wipe vs1) (ra.mono ((f2.trans u1).trans v1)) e2 fun F5 H5 ys f5 st5 r5 pu5 => ?_
                refine ⟨F5, sdd, acc2, ys, (((f1.trans f2).trans u1).trans v1).trans f5, ?_, r5, eg, fun zz => ?_⟩
                · have q := st5.wipe vs
                  rw [wipe_wipe hvs, wipe_wipeV hvs, w2] at q; exact q
                · have zz2 : pc = true ∧ (pi1 && (pc1 && pe)) = true := (Bool.and_eq_true _ _ ▸ zz)
                  have zz3 : pi1 = true ∧ (pc1 && pe) = true := (Bool.and_eq_true _ _ ▸ zz2.2)
                  obtain ⟨a1, a2⟩ := u4 zz2.1
                  obtain ⟨b1, b2⟩ := v4 zz3.1
                  obtain ⟨d1, d2⟩ := pu5 zz3.2
                  refine ⟨fun a u n h => d1 a u n (b1 a u (a1 a u (pu2 zz a u n h))), ?_⟩
                  have d3 := congrArg (fun s => SD.wipe s vs) d2
                  have d3 : (sdd.wipe vs1).wipe vs = (sdc.wipe vs1).wipe vs := d3
                  rw [wipe_wipe hvs, wipe_wipe hvs] at d3
                  rw [d3, b2, a2]; exact pw zz
      rcases wk.yld F' H i _ x H' f1 st.fh hd y with ⟨rfl, rx⟩ | ⟨T, us, es, rfl, ed, hT, rfl, rr⟩
      · exact main F' H' (Same.refl _) st rx fun z => (pu z).1
      · refine main _ _ (st.sameNew hT) (st.new (u := .tup us) hT) ?_ fun z a u n h => ?_
        · rw [ed]
          exact .tup upd_same (rr.mono (st.sameNew hT))
        · have := (pu z).1 a u n h
          rw [upd_ne (ne_of_none this hT)]; exact this
  · have e2 : i = ds.length := by omega
    subst e2
    rw [List.drop_length, goComp2] at eg
    cases eg
    exact .inl ⟨wk.stop F' H f1 st.fh, hQ F' H xs f1 st ra fun z => ⟨fun a u h => (pu z).1 a u (ne_of_none h hL) h, (pu z).2⟩⟩
end
section
variable {X : Cx} {pv : List V} {W : WX} {p q k l pc pe pi1 pc1 : Bool} {tg iter tg1 iter1 elt : Expr} {ifs ifs1 : List Expr} {scope : Scope} {pos : Pos}
theorem comp2_tr {own : List (Str × Nat)} {vs1 is is1 : List Nat} {wi wi1 : TI} {t t1 : TG} {tt tt1 : TT} {te : TE} {mi mi1 : SD → ER (List D)} {g g1 : D → SD → Option SD} {mc mc1 : SD → ER Bool} {me : SD → ER D} (hi : TrI X.K pv W p wi mi)
    (hg : TgRun X.K is t g) (hgw : ∀ (vs : List Nat), (∀ i ∈ is, i ∈ vs) → ∀ d sd sd', g d sd = some sd' → SD.wipe sd' vs = SD.wipe sd vs) (hg1 : TgRun X.K is1 t1 g1) (hgw1 : ∀ (vs : List Nat), (∀ i ∈ is1, i ∈ vs) → ∀ d sd sd', g1 d sd = some sd' → SD.wipe sd' vs = SD.wipe sd vs)
    (hc : TrT X.K pv W0 pc tt mc) (hi1 : TrI X.K pv W0 pi1 wi1 mi1) (hc1 : TrT X.K pv W0 pc1 tt1 mc1) (he : TrX X.K pv W0 pe true te me) (his : ∀ i ∈ is, i ∈ own.map (·.2)) (his1 : ∀ i ∈ is1, i ∈ vs1) (hvs : ∀ i ∈ vs1, i ∈ own.map (·.2)) :
    TrO X.K pv W (p && (pc && (pi1 && (pc1 && pe)))) (tLc2 wi t tt wi1 t1 tt1 te (own.map (·.2)) vs1) (mComp2 mi g mc mi1 g1 mc1 me (own.map (·.2)) vs1) := by
  intro G F sd σ H Q s
  refine Meets.bind (hi G F sd σ H _ s) fun J F1 H1 ds sd1 s1 s2 s3 s4 => ?_
  cases e : goComp2 g mc mi1 g1 mc1 me (own.map (·.2)) vs1 ds [] sd1 with
  | bad => exact True.intro
  | rz x sr => exact absurd e (goComp2_calm ds [] sd1 x sr)
  | ok res sdr =>
    intro hQ L hL
    obtain ⟨G', g1', g2, g3⟩ := s2.block (own.map (·.2))
    refine comp2_run his his1 hvs hg (hgw _ his) hg1 (hgw1 _ his1) hc hi1 hc1 he s3 g2 hL e fun F' H' xs f1 st r pu => ?_
    have z := st.unlay (g1' L hL) r
    have z2 := g3 F' sdr H' _ _ f1 z
    exact hQ _ F' H' f1 z2.drop z2 fun zz => ⟨(pu zz).1, back_self (pu zz).2⟩
theorem do_comp2 {own : List (Str × Nat)} {vs1 is is1 : List Nat} {mi mi1 : SD → ER (List D)} {g g1 : D → SD → Option SD} {mc mc1 : SD → ER Bool} {me : SD → ER D} (hc : X.calm = true) (hN : X.N.Nodup) (hi : DI X pv W p tg iter mi) (ok : BlkOk X.N X.env.scope scope own)
    (hg : ∀ (s : Shared) (H : Hp) (C : Addr) (cl : List (Str × Addr)) (fp : List Addr), DG (X.blk s H scope (compEnvC scope cl C X.env) fp) is tg g)
    (ht : ∀ (s : Shared) (H : Hp) (C : Addr) (cl : List (Str × Addr)) (fp : List Addr), DTs (X.blk s H scope (compEnvC scope cl C X.env) fp) pv W0 pc ifs mc)
    (hi1 : ∀ (s : Shared) (H : Hp) (C : Addr) (cl : List (Str × Addr)) (fp : List Addr), DI (X.blk s H scope (compEnvC scope cl C X.env) fp) pv W0 pi1 tg1 iter1 mi1)
    (hg1 : ∀ (s : Shared) (H : Hp) (C : Addr) (cl : List (Str × Addr)) (fp : List Addr), DG (X.blk s H scope (compEnvC scope cl C X.env) fp) is1 tg1 g1)
    (ht1 : ∀ (s : Shared) (H : Hp) (C : Addr) (cl : List (Str × Addr)) (fp : List Addr), DTs (X.blk s H scope (compEnvC scope cl C X.env) fp) pv W0 pc1 ifs1 mc1)
    (he : ∀ (s : Shared) (H : Hp) (C : Addr) (cl : List (Str × Addr)) (fp : List Addr), DX (X.blk s H scope (compEnvC scope cl C X.env) fp) pv W0 pe true elt me)
    (his : ∀ i ∈ is, i ∈ own.map (·.2)) (his1 : ∀ i ∈ is1, i ∈ vs1) (hvs : ∀ i ∈ vs1, i ∈ own.map (·.2))
    (wip : ∀ (vs : List Nat), (∀ i ∈ is, i ∈ vs) → ∀ d sd sd', g d sd = some sd' → SD.wipe sd' vs = SD.wipe sd vs) (wip1 : ∀ (vs : List Nat), (∀ i ∈ is1, i ∈ vs) → ∀ d sd sd', g1 d sd = some sd' → SD.wipe sd' vs = SD.wipe sd vs)
    (hs : ∀ x, foldedSetIterable iter X.env x = pure x := by intro _; rfl) (hs1 : ∀ env x, foldedSetIterable iter1 env x = pure x := by intro _ _; rfl) :
    DO X pv W (p && (pc && (pi1 && (pc1 && pe)))) (.ListComp elt [⟨tg, iter, ifs, 0⟩, ⟨tg1, iter1, ifs1, 0⟩] scope pos) (mComp2 mi g mc mi1 g1 mc1 me (own.map (·.2)) vs1) := by
  obtain ⟨wi, a1, a2⟩ := hi
  exact ⟨_, pe_lc2 hc hN a1 ok hvs (fun s H C cl fp => (hg s H C cl fp).can) (fun s H C cl fp => (ht s H C cl fp).run) (fun s H C cl fp => (hi1 s H C cl fp).can) (fun s H C cl fp => (hg1 s H C cl fp).can) (fun s H C cl fp => (ht1 s H C cl fp).run) (fun s H C cl fp => (he s H C cl fp).can) hs hs1,
    comp2_tr a2 canG_run wip canG_run wip1 canT_tr canI_tr canT_tr canX_tr his his1 hvs⟩
end
end DL

/-! DL11: trees changed in place, calls that are handed a tree, more assignments. -/
namespace DL
open PySem PySem.Spec L2

/-! ### a tree changed -/
def SD.put (sd : SD) (i : Nat) (t : OT) : SD := match sd.sl[i]? with
  | some (.ow _) => { sd with sl := sd.sl.set i (.ow t) }
  | some (.pa j) => { sd with pa := sd.pa.set j t }
  | _ => sd
section
variable {K : PySem.W.Frag} {pv : List V} {G F F' H H' : Hp} {sd : SD} {σ : L2.St} {o : Nat ⊕ Nat → Addr → Prop}
theorem Own.put {i : Nat} {t : OT} (W : Own K pv G F sd σ H o) (h : sd.tree i = some t) : ∃ (src : Nat ⊕ Nat) (v : V), σ[i]? = some (some v) ∧ RepO K F H t v (o src) ∧
    ∀ (F' H' : Hp) (o2 : Nat ⊕ Nat → Addr → Prop) (t' : OT), Same F F' → Same F' H' → Same G H' → (∀ a, F' a ≠ none → G a = none) → (∀ x a, o2 x a → H' a ≠ none ∧ F' a = none ∧ G a = none) → (∀ x y a, o2 x a → o2 y a → x = y) →
      (∀ x, x ≠ src → ∀ a, o x a → o2 x a ∧ H' a = H a) → RepO K F' H' t' v (o2 src) → Own K pv G F' (sd.put i t') σ H' o2 := by
  unfold SD.tree at h
  split at h
  · rename_i t0 e
    cases h
    obtain ⟨v, h1, h2⟩ := W.sl i _ e
    refine ⟨.inl i, v, h1, h2, fun F' H' o2 t' f fh gh fg oh oo ho r => ?_⟩
    have ep : sd.put i t' = { sd with sl := sd.sl.set i (.ow t') } := by unfold SD.put; rw [e]
    have hi : i < sd.sl.length := (List.getElem?_eq_some_iff.mp e).1
    rw [ep]
    refine ⟨fh, gh, fg, oh, oo, by simpa using W.len, fun j t1 e1 => ?_, fun j l e1 => ?_, fun j t1 e1 => ?_⟩
    · have e1 : (sd.sl.set i (S.ow t'))[j]? = some (S.ow t1) := e1
      by_cases z : i = j
      · subst z
        rw [List.getElem?_set_self hi] at e1
        cases e1
        exact ⟨v, h1, r⟩
      · rw [List.getElem?_set_ne z] at e1
        obtain ⟨w, k1, k2⟩ := W.sl j t1 e1
        refine ⟨w, k1, k2.mono f fun x hx => ho (.inl j) (fun y => z (Sum.inl.inj y).symm) x hx⟩
    · have e1 : (sd.sl.set i (S.ow t'))[j]? = some (S.pa l) := e1
      by_cases z : i = j
      · subst z
        rw [List.getElem?_set_self hi] at e1
        cases e1
      · rw [List.getElem?_set_ne z] at e1
        exact W.sp j l e1
    · obtain ⟨w, k1, k2⟩ := W.pr j t1 e1
      exact ⟨w, k1, k2.mono f fun x hx => ho (.inr j) (fun y => by cases y) x hx⟩
  · rename_i j e
    obtain ⟨v, h1, h2⟩ := W.sp i j e
    obtain ⟨v', h3, h4⟩ := W.pr j t h
    rw [h1] at h3; cases h3
    refine ⟨.inr j, v, h2, h4, fun F' H' o2 t' f fh gh fg oh oo ho r => ?_⟩
    have ep : sd.put i t' = { sd with pa := sd.pa.set j t' } := by unfold SD.put; rw [e]
    have hj : j < sd.pa.length := (List.getElem?_eq_some_iff.mp h).1
    rw [ep]
    refine ⟨fh, gh, fg, oh, oo, W.len, fun l t1 e1 => ?_, W.sp, fun l t1 e1 => ?_⟩
    · obtain ⟨w, k1, k2⟩ := W.sl l t1 e1
      exact ⟨w, k1, k2.mono f fun x hx => ho (.inl l) (fun y => by cases y) x hx⟩
    · have e1 : (sd.pa.set j t')[l]? = some t1 := e1
      by_cases z : j = l
      · subst z
        rw [List.getElem?_set_self hj] at e1
        cases e1
        exact ⟨v, h1, r⟩
      · rw [List.getElem?_set_ne z] at e1
        obtain ⟨w, k1, k2⟩ := W.pr l t1 e1
        exact ⟨w, k1, k2.mono f fun x hx => ho (.inr l) (fun y => z (Sum.inr.inj y).symm) x hx⟩
  · cases h
/-- the tree of a name is changed, another tree may become a part of it -/
theorem StR1.mut {i : Nat} {t t2 : OT} {v2 : V} (s : StR1 K pv G F sd σ H v2 t2) (h : sd.tree i = some t) : ∃ (v : V) (P P2 : Addr → Prop), σ[i]? = some (some v) ∧ RepO K F H t v P ∧ RepO K F H t2 v2 P2 ∧ (∀ a, P a → ¬ P2 a) ∧
    (∀ a, P a → H a ≠ none) ∧ (∀ a, P2 a → H a ≠ none) ∧
    ∀ (H' : Hp) (t' : OT), (∀ a, ¬ P a → ∀ u, H a = some u → H' a = some u) → (∀ a, P a → H' a ≠ none) → RepO K F H' t' v (fun a => P a ∨ P2 a) → StR K pv G F (sd.put i t') σ H' := by
  classical
  obtain ⟨o, P2, W, r2, k2⟩ := s
  obtain ⟨src, v, h1, h2, h3⟩ := W.put h
  refine ⟨v, o src, P2, h1, h2, r2, fun a q q2 => (k2 a q2).2.2.2 src q, fun a q => (W.oh _ a q).1, fun a q => (k2 a q).1, fun H' t' hH hP r => ?_⟩
  have keep : ∀ a, ¬ o src a → H a ≠ none → H' a = H a := fun a n hn => by
    cases e : H a with
    | none => exact absurd e hn
    | some u => exact hH a n u e
  refine ⟨fun x a => if x = src then o src a ∨ P2 a else o x a, h3 F H' _ t' (Same.refl _) (fun a u e => ?_) (fun a u e => ?_) W.fg (fun x a q => ?_) (fun x y a q q' => ?_) (fun x n a q => ?_) ?_⟩
  · exact hH a (fun z => by rw [(W.oh _ a z).2.1] at e; cases e) u (W.fh a u e)
  · exact hH a (fun z => by rw [(W.oh _ a z).2.2] at e; cases e) u (W.gh a u e)
  · by_cases z : x = src
    · rw [if_pos z] at q
      rcases q with q | q
      · exact ⟨hP a q, (W.oh _ a q).2⟩
      · obtain ⟨k1, k3, k4, k5⟩ := k2 a q
        exact ⟨by rw [keep a (k5 _) k1]; exact k1, k3, k4⟩
    · rw [if_neg z] at q
      obtain ⟨k1, k3, k4⟩ := W.oh x a q
      exact ⟨by rw [keep a (fun q' => z (W.oo _ _ a q q')) k1]; exact k1, k3, k4⟩
  · by_cases z : x = src
    · rw [if_pos z] at q
      by_cases y' : y = src
      · rw [z, y']
      · rw [if_neg y'] at q'
        rcases q with q | q
        · exact absurd (W.oo _ _ a q q').symm y'
        · exact absurd q' ((k2 a q).2.2.2 y)
    · rw [if_neg z] at q
      by_cases y' : y = src
      · rw [if_pos y'] at q'
        rcases q' with q' | q'
        · exact absurd (W.oo _ _ a q q') z
        · exact absurd q ((k2 a q').2.2.2 x)
      · rw [if_neg y'] at q'
        exact W.oo _ _ a q q'
  · have k1 := (W.oh x a q).1
    exact ⟨by rw [if_neg n]; exact q, keep a (fun q' => n (W.oo _ _ a q q')) k1⟩
  · show RepO K F H' t' v (fun a => if src = src then o src a ∨ P2 a else o src a)
    exact r.mono (Same.refl _) fun x hx => ⟨by rw [if_pos rfl]; exact hx, rfl⟩
/-- .. alone -/
theorem StR.mut {i : Nat} {t : OT} (s : StR K pv G F sd σ H) (h : sd.tree i = some t) : ∃ (v : V) (P : Addr → Prop), σ[i]? = some (some v) ∧ RepO K F H t v P ∧ (∀ a, P a → H a ≠ none) ∧
    ∀ (H' : Hp) (t' : OT), (∀ a, ¬ P a → ∀ u, H a = some u → H' a = some u) → (∀ a, P a → H' a ≠ none) → RepO K F H' t' v P → StR K pv G F (sd.put i t') σ H' := by
  obtain ⟨v, P, P2, h1, h2, _, _, h5, _, h6⟩ := (StR1.fz s (.non)).mut h
  exact ⟨v, P, h1, h2, h5, fun H' t' a b r => h6 H' t' a b (r.mono (Same.refl _) fun x hx => ⟨.inl hx, rfl⟩)⟩
theorem repOs_app : ∀ {ts : List OT} {vs : List V} {P P2 : Addr → Prop} {t2 : OT} {v2 : V}, RepOs K F H ts vs P → RepO K F H t2 v2 P2 → (∀ a, P a → ¬ P2 a) → RepOs K F H (ts ++ [t2]) (vs ++ [v2]) (fun a => P a ∨ P2 a)
  | [], vs, P, P2, t2, v2, r, r2, d => by
    unfold RepOs at r
    subst r
    rw [List.nil_append, List.nil_append]
    unfold RepOs
    refine ⟨v2, [], P2, fun _ => False, rfl, fun x h => .inr h, fun x h => h.elim, r2, ?_⟩
    unfold RepOs; rfl
  | t :: ts, vs, P, P2, t2, v2, r, r2, d => by
    unfold RepOs at r
    obtain ⟨v, ws, Q1, Q2, rfl, h1, h2, r1, rr⟩ := r
    rw [List.cons_append, List.cons_append]
    unfold RepOs
    refine ⟨v, ws ++ [v2], Q1, fun a => Q2 a ∨ P2 a, rfl, fun x h => .inl (h1 x h), fun x h => ?_, r1, repOs_app rr r2 fun a q => d a (h2 a q).1⟩
    rcases h with h | h
    · exact ⟨.inl (h2 x h).1, (h2 x h).2⟩
    · exact ⟨.inr h, fun q => d x (h1 x q) h⟩
theorem repOs_set : ∀ {ts : List OT} {vs : List V} {P P2 : Addr → Prop} {t2 : OT} {v2 : V} (k : Nat), RepOs K F H ts vs P → RepO K F H t2 v2 P2 → (∀ a, P a → ¬ P2 a) → RepOs K F H (ts.set k t2) (vs.set k v2) (fun a => P a ∨ P2 a)
  | [], vs, P, P2, t2, v2, k, r, r2, d => by
    unfold RepOs at r
    subst r
    rw [List.set_nil, List.set_nil]
    unfold RepOs; rfl
  | t :: ts, vs, P, P2, t2, v2, 0, r, r2, d => by
    unfold RepOs at r
    obtain ⟨v, ws, Q1, Q2, rfl, h1, h2, r1, rr⟩ := r
    rw [List.set_cons_zero, List.set_cons_zero]
    unfold RepOs
    exact ⟨v2, ws, P2, Q2, rfl, fun x h => .inr h, fun x h => ⟨.inl (h2 x h).1, d x (h2 x h).1⟩, r2, rr⟩
  | t :: ts, vs, P, P2, t2, v2, k + 1, r, r2, d => by
    unfold RepOs at r
    obtain ⟨v, ws, Q1, Q2, rfl, h1, h2, r1, rr⟩ := r
    rw [List.set_cons_succ, List.set_cons_succ]
    unfold RepOs
    refine ⟨v, ws.set k v2, Q1, fun a => Q2 a ∨ P2 a, rfl, fun x h => .inl (h1 x h), fun x h => ?_, r1, repOs_set k rr r2 fun a q => d a (h2 a q).1⟩
    rcases h with h | h
    · exact ⟨.inl (h2 x h).1, (h2 x h).2⟩
    · exact ⟨.inr h, fun q => d x (h1 x q) h⟩
/-- a list of a name: its items anew -/
theorem StR1.lset {i : Nat} {ts : List OT} {t2 : OT} {v2 : V} (s : StR1 K pv G F sd σ H v2 t2) (h : sd.tree i = some (.ol ts)) : ∃ (a : Addr) (vs : List V), σ[i]? = some (some (.ref a)) ∧ H a = some (.lst vs) ∧ vs.length = ts.length ∧
    StR K pv G F (sd.put i (.ol (ts ++ [t2]))) σ (upd H a (.lst (vs ++ [v2]))) ∧ ∀ k, StR K pv G F (sd.put i (.ol (ts.set k t2))) σ (upd H a (.lst (vs.set k v2))) := by
  obtain ⟨v, P, P2, h1, h2, r2, d, hn, hn2, go⟩ := s.mut h
  unfold RepO at h2
  obtain ⟨a, vs, rfl, pa, ha, r⟩ := h2
  have main : ∀ (us : List V) (ts' : List OT), RepOs K F H ts' us (fun x => (P x ∧ x ≠ a) ∨ P2 x) → StR K pv G F (sd.put i (.ol ts')) σ (upd H a (.lst us)) := fun us ts' rr => by
    refine go _ _ (fun x hx u e => by rw [upd_ne (fun z => hx (by rw [z]; exact pa))]; exact e) (fun x hx => ?_) ?_
    · by_cases z : x = a
      · rw [z, upd_same]; simp
      · rw [upd_ne z]; exact hn x hx
    · unfold RepO
      refine ⟨a, us, rfl, .inl pa, upd_same, rr.mono (Same.refl _) fun x hx => ?_⟩
      have ne : x ≠ a := by
        rcases hx with hx | hx
        · exact hx.2
        · exact fun z => d a pa (by rw [← z]; exact hx)
      exact ⟨⟨hx.imp And.left id, ne⟩, upd_ne ne⟩
  exact ⟨a, vs, h1, ha, r.length, main _ _ (repOs_app r r2 fun x q => d x q.1), fun k => main _ _ (repOs_set k r r2 fun x q => d x q.1)⟩
end

/-- what happens while a tree is put aside -/
theorem Meets.unhide {α β : Type} {K : PySem.W.Frag} {pv : List V} {W : WX} {G G' F H : Hp} {σ : L2.St} {RS : RSt β α} {p : Bool} {sd : SD} {r : ER α} {Q : β → Hp → Prop} {P : Prop} {v : V} {t : OT} (h : Meets K pv W G' σ RS p sd F H r Q P)
    (g : ∀ (F' : Hp) (sd' : SD) (σ' : L2.St) (H' : Hp), Same F F' → StR K pv G' F' sd' σ' H' → StR1 K pv G F' sd' σ' H' v t) :
    Meets K pv W G σ (fun _ F' sd' H' σ w a => StR1 K pv G F' sd' σ H' v t ∧ RS G' F' sd' H' σ w a) p sd F H r Q P := by
  cases r with
  | bad => exact True.intro
  | rz x sd' => exact fun z => h fun cls dd F' H' s1 s2 s3 => z cls dd F' H' s1 (g F' sd' σ H' s1 s2).drop s3
  | ok a sd' => exact fun z => h fun w F' H' s1 s2 s3 s4 => z w F' H' s1 (g F' sd' σ H' s1 s2).drop ⟨g F' sd' σ H' s1 s2, s3⟩ s4

/-! ### statements that change a list -/
def sApp (i : Nat) (m : SD → ER OT) : SD → Fl := fun sd => match sd.tree i with
  | some (.ol _) => (m sd).stm fun t sd1 => match sd1.tree i with
    | some (.ol ts) => if ts.length < 16777216 then .nx (sd1.put i (.ol (ts ++ [t]))) else .bad
    | _ => .bad
  | _ => .bad
def setEnd (i : Nat) (t : OT) (d : D) (sd : SD) : Fl := match d, sd.tree i with
  | .int k, some (.ol ts) => match ixN ts.length k with
    | some j => .nx (sd.put i (.ol (ts.set j t)))
    | none => .bad
  | _, _ => .bad
def sSetAt (i : Nat) (mk : SD → ER D) (m : SD → ER OT) : SD → Fl := fun sd => (m sd).stm fun t sd1 => match sd1.tree i with
  | some (.ol _) => (mk sd1).stm (setEnd i t)
  | _ => .bad
def sAug (i : Nat) (f : D → D → Option D) (m : SD → ER D) : SD → Fl := fun sd => match sd.sl[i]? with
  | some (.ow (.fz d)) => (m sd).stm fun y sd1 => match f d y with
    | some c => if i < sd1.sl.length then .nx { sd1 with sl := sd1.sl.set i (.ow (.fz c)) } else .bad
    | none => .bad
  | _ => .bad
def sAsg (m : SD → ER D) (g : D → SD → Option SD) : SD → Fl := fun sd => (m sd).stm fun d sd1 => match g d sd1 with
  | some sd2 => .nx sd2
  | none => .bad
def sPar (i j : Nat) (ma mb : SD → ER OT) : SD → Fl := fun sd => (ma sd).stm fun t sd1 => (mb sd1).stm fun u sd2 => if i < sd2.sl.length ∧ j < sd2.sl.length then .nx { sd2 with sl := (sd2.sl.set i (.ow t)).set j (.ow u) } else .bad
section
variable {X : Cx} {pv : List V} {W : WX} {p q k l : Bool} {e a b c : Expr} {es : List Expr} {pos : Pos}
theorem ol_at {K : PySem.W.Frag} {G F H : Hp} {sd : SD} {σ : L2.St} {i : Nat} {ts : List OT} (s : StR K pv G F sd σ H) (h : sd.tree i = some (.ol ts)) : ∃ a vs, σ[i]? = some (some (.ref a)) ∧ H a = some (.lst vs) := by
  obtain ⟨v, P, h1, h2⟩ := s.tree h
  unfold RepO at h2
  obtain ⟨a, vs, rfl, _, ha, _⟩ := h2
  exact ⟨a, vs, h1, ha⟩
theorem ds_app {i : Nat} {x : Str} {pp apos cpos : Pos} {m : SD → ER OT} (hx : PE X (.Name x pp) (tVar i)) (he : DO X pv W p e m)
    (hline : (apos.endLine == cpos.line) = true := by rfl) (hs : swapsWith (.Call (.Attribute (.Name x pp) "append" apos) [e] [] cpos) none pos.line X.env = pure false := by rfl)
    (hbase : attributeBase (.Name x pp) "append" X.env (eval (.Name x pp) X.env) = eval (.Name x pp) X.env := by rfl)
    (hfew : ((backTo cpos (starEach [e] X.env)).all (fun x => !x.1) && (backToKw cpos (keywordEach [] X.env)).all (fun x => x.1.isSome)
      && decide ([e].length + ([] : List Keyword).length + (if ([] : List Keyword).isEmpty then 0 else 1) < 30)) = true := by rfl)
    (hse : starEach [e] X.env = (false, eval e X.env) :: starEach [] X.env := by rfl) (hplain : (backTo cpos (starEach [] X.env)).any (·.1) = false := by rfl) :
    DS X pv W (.Expr (.Call (.Attribute (.Name x pp) "append" apos) [e] [] cpos) pos) (sApp i m) := by
  obtain ⟨te, a1, a2⟩ := he
  refine ⟨_, ps_expr (pe_bm PySem.F.plainAttrs_list PySem.F.slot_list_append PySem.F.type_list_append mt_append hx (pa_cons a1 pa_nil hse) hbase hfew hline hse hplain) hs, fun G F sd σ H D s => ?_⟩
  unfold sApp
  split
  · rename_i ts0 e0
    obtain ⟨a, vs0, h0, hH0⟩ := ol_at s e0
    refine MeetsS.imp (Meets.stm (a2 G F sd σ H (fun v H1 => rAppend (.ref a) [v] H1 fun _ H2 => D.nx σ H2) s) (f := fun t sd1 => match sd1.tree i with
      | some (.ol ts) => if ts.length < 16777216 then .nx (sd1.put i (.ol (ts ++ [t]))) else .bad
      | _ => .bad) (D := D) fun v F1 H1 t sd1 s1 s2 s3 => ?_) fun z => ⟨_, h0, .inl ⟨rfl, vs0, .inl (.inl hH0)⟩, z⟩
    split
    · rename_i ts e1
      split
      · rename_i hl
        intro hQ
        obtain ⟨l, vs, h1, h2, h3, h4, _⟩ := s3.lset e1
        rw [h0] at h1; cases h1
        exact ⟨_, vs, v, rfl, rfl, h2, by rw [h3, sizeLine_eq]; exact hl, hQ F1 σ _ (Same.refl _) h4⟩
      · exact True.intro
    · exact True.intro
  · exact True.intro
theorem ds_setAt {i : Nat} {x : Str} {pp sp : Pos} {mk : SD → ER D} {m : SD → ER OT} (hx : PE X (.Name x pp) (tVar i)) (hk : DX X pv W true l b mk) (he : DO X pv W p e m)
    (ha : ∀ v, assign (.Subscript (.Name x pp) b sp) X.env v = (do
      let ov ← holding [v] (eval (.Name x pp) X.env)
      let iv ← holding [v, ov] (eval b X.env)
      standAt sp
      holding [v, ov, iv] (setItem ov iv v)
      release [v, ov, iv] []) := by intro _; rfl)
    (hs : swapsWithSole [.Subscript (.Name x pp) b sp] e pos.line X.env = pure false := by rfl) (hw : swappedStores [.Subscript (.Name x pp) b sp] e X.env = pure none := by rfl)
    (h1 : (assignEach [.Subscript (.Name x pp) b sp] X.env).map (·.2) = [assign (.Subscript (.Name x pp) b sp) X.env] := by rfl) :
    DS X pv W (.Assign [.Subscript (.Name x pp) b sp] e pos) (sSetAt i mk m) := by
  obtain ⟨te, a1, a2⟩ := he
  obtain ⟨tk, b1, b2⟩ := hk
  refine ⟨_, ps_asg a1 (pg_sub hx b1 set_list ha) hs hw h1, fun G F sd σ H D s => ?_⟩
  refine Meets.stm (a2 G F sd σ H _ s) fun v F1 H1 t sd1 s1 s2 s3 => ?_
  split
  · rename_i ts0 e0
    obtain ⟨a, vs0, h0, hH0⟩ := ol_at s2 e0
    obtain ⟨G', g1, g2, g3⟩ := s3.hide
    have z := (b2 G' F1 sd1 σ H1 (fun y H2 => rSetL (.ref a) y v H2 fun H3 => D.nx σ H3) g2).unhide g3
    refine MeetsS.imp (Meets.stm z (f := setEnd i t) (D := D) fun y F2 H2 dk sd2 t1 t2 t3 => ?_) fun z => ⟨_, h0, z⟩
    obtain ⟨t3, t4⟩ := t3
    unfold setEnd
    split
    · rename_i k ts e2
      have r : Rep X.K H2 y (.int k) := (show RSx X.K l G F2 sd2 H2 σ y (.int k) from t4).see t2
      cases r
      split
      · rename_i j hj
        intro hQ
        obtain ⟨l, vs, h1, h2, h3, _, h4⟩ := t3.lset e2
        rw [h0] at h1; cases h1
        exact ⟨_, vs, k, j, rfl, rfl, h2, by rw [h3]; exact hj, hQ F2 σ _ (Same.refl _) (h4 j)⟩
      · exact True.intro
    · exact True.intro
  · exact True.intro
theorem ds_asg {tg : Expr} {is : List Nat} {m : SD → ER D} {g : D → SD → Option SD} (he : DX X pv W p true e m) (hg : DG X is tg g) (hs : swapsWithSole [tg] e pos.line X.env = pure false := by rfl) (hw : swappedStores [tg] e X.env = pure none := by rfl)
    (h1 : (assignEach [tg] X.env).map (·.2) = [assign tg X.env] := by rfl) : DS X pv W (.Assign [tg] e pos) (sAsg m g) := by
  obtain ⟨te, a1, a2⟩ := he
  obtain ⟨⟨t, b1, b2⟩, _⟩ := hg
  refine ⟨_, ps_asg a1 b1 hs hw h1, fun G F sd σ H D s => ?_⟩
  refine Meets.stm (a2 G F sd σ H _ s) fun v F1 H1 d sd1 s1 s2 s3 => ?_
  split
  · rename_i sd2 e2
    intro hQ
    obtain ⟨σ', k1, _, k3⟩ := b2 pv G F1 sd1 σ H1 v d sd2 s2 s3 e2
    exact k3 D.nx (hQ F1 σ' H1 (Same.refl _) k1)
  · exact True.intro
theorem ds_aug {i : Nat} {x : Str} {op : Operator} {r : R2} {f : D → D → Option D} {pos' : Pos} {m : SD → ER D} (hN : X.N.Nodup) (hi : X.N[i]? = some x) (hx : Loc X.env.scope x) (ho : OpR X (inplaceOp op) r) (hf : Op2S X.K r f) (he : DX X pv W p k e m)
    (hl : X.fn x = true ∨ X.env.scope.names.lookup x = some .local := by first | exact .inl rfl | exact .inr rfl | assumption) : DS X pv W (.AugAssign (.Name x pos') op e pos) (sAug i f m) := by
  obtain ⟨te, a1, a2⟩ := he
  refine ⟨_, ps_aug hN hi hx a1 (show PIp X op r from ho) hl, fun G F sd σ H D s => ?_⟩
  unfold sAug
  split
  · rename_i d e0
    obtain ⟨o, w⟩ := id s
    obtain ⟨v, h1, h2⟩ := w.sl i _ e0
    unfold RepO at h2
    refine MeetsS.imp (Meets.stm (a2 G F sd σ H (fun y H1 => r v y H1 fun z H2 => D.nx (σ.set i (some z)) H2) s) (f := fun y sd1 => match f d y with
      | some c => if i < sd1.sl.length then .nx { sd1 with sl := sd1.sl.set i (.ow (.fz c)) } else .bad
      | none => .bad) (D := D) fun y F1 H1 dy sd1 s1 s2 s3 => ?_) fun z => ⟨v, h1, z⟩
    split
    · rename_i c ec
      obtain ⟨vc, c1, c2⟩ := hf H1 v y d dy c (Rep.mono s2.fh (Rep.mono s1 h2)) (RSx.see s3 s2) ec
      split
      · rename_i hi
        exact fun hQ => c2 _ (hQ F1 _ H1 (Same.refl _) ((StR1.fz s2 (Rep.sc c1)).store hi))
      · exact True.intro
    · exact True.intro
  · exact True.intro
theorem ds_par {i j : Nat} {x y : Str} {px py pt pt2 : Pos} {kt k2 : Nat} {ma mb : SD → ER OT} (hc : X.calm = true) (hN : X.N.Nodup) (hi : X.N[i]? = some x) (hj : X.N[j]? = some y) (hij : i ≠ j)
    (hx : X.env.scope.names.lookup x = some .local) (hy : X.env.scope.names.lookup y = some .local) (ha : DO X pv W p a ma) (hb : DO X pv W q b mb)
    (hw : swappedStores [.Tuple [.Name x px, .Name y py] kt pt] (.Tuple [a, b] k2 pt2) X.env = pure (some [x, y]))
    (hs : swapsWithSole [.Tuple [.Name x px, .Name y py] kt pt] (.Tuple [a, b] k2 pt2) pos.line X.env = pure false := by rfl)
    (hs1 : starEach [a, b] X.env = (false, eval a X.env) :: starEach [b] X.env := by rfl) (hs2 : starEach [b] X.env = (false, eval b X.env) :: starEach [] X.env := by rfl) :
    DS X pv W (.Assign [.Tuple [.Name x px, .Name y py] kt pt] (.Tuple [a, b] k2 pt2) pos) (sPar i j ma mb) := by
  obtain ⟨ta, a1, a2⟩ := ha
  obtain ⟨tb, b1, b2⟩ := hb
  refine ⟨_, ps_par hc hN hi hj hij hx hy (pa_cons a1 (pa_cons b1 pa_nil hs2) hs1) hw hs, fun G F sd σ H D s => ?_⟩
  refine Meets.stm (a2 G F sd σ H _ s) fun v F1 H1 t sd1 s1 s2 s3 => ?_
  obtain ⟨G', g1, g2, g3⟩ := StR1.hide s3
  have z := (b2 G' F1 sd1 σ H1 (fun w H2 => ∃ a b, [v, w] = [a, b] ∧ D.nx ((σ.set i (some a)).set j (some b)) H2) g2).unhide g3
  refine MeetsS.imp (Meets.stm z (f := fun u sd2 => if i < sd2.sl.length ∧ j < sd2.sl.length then .nx { sd2 with sl := (sd2.sl.set i (.ow t)).set j (.ow u) } else .bad) (D := D) fun w F2 H2 u sd2 t1 t2 t3 => ?_) ?_
  · obtain ⟨t3, t4⟩ := t3
    split
    · rename_i hl
      intro hQ
      have t4 : StR1 X.K pv G' F2 sd2 σ H2 w u := t4
      have q1 := t4.store hl.2
      have q2 := g3 F2 _ _ H2 t1 q1
      have q3 := q2.store (i := i) (by show i < (sd2.sl.set j (S.ow u)).length; rw [List.length_set]; exact hl.1)
      rw [List.set_comm _ _ (Ne.symm hij), List.set_comm _ _ (Ne.symm hij)] at q3
      exact ⟨v, w, rfl, hQ F2 _ H2 (Same.refl _) q3⟩
    · exact True.intro
  · exact id
end
end DL

/-! DL12: names taken and frozen; calls that are handed a tree. -/
namespace DL
open PySem PySem.Spec L2

section
variable {K : PySem.W.Frag} {pv : List V} {G F H : Hp} {sd : SD} {σ : L2.St}
/-- a name's tree is taken away from it -/
theorem StR.take {i : Nat} {t : OT} (s : StR K pv G F sd σ H) (h : sd.sl[i]? = some (.ow t)) : ∃ v, σ[i]? = some (some v) ∧ StR1 K pv G F { sd with sl := sd.sl.set i .un } σ H v t := by
  obtain ⟨o, W⟩ := s
  obtain ⟨v, h1, h2⟩ := W.sl i t h
  have hi : i < sd.sl.length := (List.getElem?_eq_some_iff.mp h).1
  refine ⟨v, h1, fun x a => o x a ∧ x ≠ .inl i, o (.inl i), ⟨W.fh, W.gh, W.fg, fun x a q => W.oh x a q.1, fun x y a q q' => W.oo x y a q.1 q'.1, by simpa using W.len, fun j t' e => ?_, fun j l e => ?_, fun j t' e => ?_⟩, h2, fun a z => ⟨(W.oh _ a z).1, (W.oh _ a z).2.1, (W.oh _ a z).2.2, fun x q => q.2 (W.oo _ _ a q.1 z)⟩⟩
  · have e : (sd.sl.set i S.un)[j]? = some (S.ow t') := e
    by_cases z : i = j
    · subst z; rw [List.getElem?_set_self hi] at e; cases e
    · rw [List.getElem?_set_ne z] at e
      obtain ⟨w, k1, k2⟩ := W.sl j t' e
      exact ⟨w, k1, k2.mono (Same.refl _) fun x hx => ⟨⟨hx, fun y => z (Sum.inl.inj y).symm⟩, rfl⟩⟩
  · have e : (sd.sl.set i S.un)[j]? = some (S.pa l) := e
    by_cases z : i = j
    · subst z; rw [List.getElem?_set_self hi] at e; cases e
    · rw [List.getElem?_set_ne z] at e
      exact W.sp j l e
  · obtain ⟨w, k1, k2⟩ := W.pr j t' e
    exact ⟨w, k1, k2.mono (Same.refl _) fun x hx => ⟨⟨hx, fun y => by cases y⟩, rfl⟩⟩
/-- a frozen value in a slot that nothing is known of -/
theorem StR.know {i : Nat} {v : V} {d : D} (s : StR K pv G F sd σ H) (h : σ[i]? = some (some v)) (r : Rep K F v d) : StR K pv G F { sd with sl := sd.sl.set i (.ow (.fz d)) } σ H := by
  have hl : i < sd.sl.length := by
    obtain ⟨o, W⟩ := s
    rw [← W.len]
    exact (List.getElem?_eq_some_iff.mp h).1
  have z := (StR1.fz s r).store hl
  have e : σ.set i (some v) = σ := by
    refine List.ext_getElem? fun j => ?_
    by_cases hj : i = j
    · subst hj
      rw [h, List.getElem?_set_self (List.getElem?_eq_some_iff.mp h).1]
    · rw [List.getElem?_set_ne hj]
  rw [e] at z
  exact z
end
section
variable {X : Cx} {pv : List V} {W : WX} {p q k l : Bool} {e a b c : Expr} {es : List Expr} {pos : Pos}
theorem do_take {i : Nat} {x : Str} {pos : Pos} (h : PE X (.Name x pos) (tVar i)) : DO X pv W false (.Name x pos) (mTake i) := by
  refine ⟨_, h, fun G F sd σ H Q s => ?_⟩
  unfold mTake
  split
  · rename_i t e
    obtain ⟨v, h1, h2⟩ := s.take e
    exact fun hQ => ⟨v, h1, hQ v F H (Same.refl _) h2.drop h2 (fun z => by cases z)⟩
  · exact True.intro
theorem dx_frz {i : Nat} {x : Str} {pos : Pos} (h : PE X (.Name x pos) (tVar i)) : DX X pv W false true (.Name x pos) (mFrz i) := by
  refine ⟨_, h, fun G F sd σ H Q s => ?_⟩
  unfold mFrz
  split
  · rename_i t e
    obtain ⟨v, h1, h2⟩ := s.take e
    obtain ⟨F', f1, f2, f3⟩ := h2.frz
    have z := f2.know h1 f3
    rw [List.set_set] at z
    exact fun hQ => ⟨v, h1, hQ v F' H f1 z f3 (fun z => by cases z)⟩
  · exact True.intro

/-! ### arguments, some of them trees of names -/
inductive Arg where
  | fz (d : D)
  | sl (i : Nat)
inductive RepsR (K : PySem.W.Frag) (F : Hp) (σ : L2.St) : List V → List Arg → Prop
  | nil : RepsR K F σ [] []
  | fz {v : V} {vs : List V} {d : D} {r : List Arg} : Rep K F v d → RepsR K F σ vs r → RepsR K F σ (v :: vs) (.fz d :: r)
  | sl {v : V} {vs : List V} {i : Nat} {r : List Arg} : σ[i]? = some (some v) → RepsR K F σ vs r → RepsR K F σ (v :: vs) (.sl i :: r)
theorem RepsR.mono {K : PySem.W.Frag} {F F' : Hp} {σ : L2.St} (e : Same F F') : ∀ {vs : List V} {r : List Arg}, RepsR K F σ vs r → RepsR K F' σ vs r
  | _, _, .nil => .nil
  | _, _, .fz h r => .fz (h.mono e) (r.mono e)
  | _, _, .sl h r => .sl h (r.mono e)
theorem RepsR.length {K : PySem.W.Frag} {F : Hp} {σ : L2.St} : ∀ {vs : List V} {r : List Arg}, RepsR K F σ vs r → vs.length = r.length
  | _, _, .nil => rfl
  | _, _, .fz h r => by rw [List.length_cons, List.length_cons, r.length]
  | _, _, .sl h r => by rw [List.length_cons, List.length_cons, r.length]
def TrR (K : PySem.W.Frag) (pv : List V) (W : WX) (ta : TA) (m : SD → ER (List Arg)) : Prop := ∀ G F sd σ H Q, StR K pv G F sd σ H → Meets K pv W G σ (fun _ F _ _ σ vs r => RepsR K F σ vs r) false sd F H (m sd) Q (ta σ H Q)
structure DR (X : Cx) (pv : List V) (W : WX) (es : List Expr) (m : SD → ER (List Arg)) : Prop where
  ex : ∃ ta, PA X es ta ∧ TrR X.K pv W ta m
def rNil : SD → ER (List Arg) := fun sd => .ok [] sd
def rSlot (i : Nat) (r : SD → ER (List Arg)) : SD → ER (List Arg) := fun sd => match sd.tree i with
  | some _ => (r sd).bind fun xs sd2 => .ok (.sl i :: xs) sd2
  | none => .bad
def rFz (a : SD → ER D) (r : SD → ER (List Arg)) : SD → ER (List Arg) := fun sd => (a sd).bind fun d sd1 => (r sd1).bind fun xs sd2 => .ok (.fz d :: xs) sd2
theorem Meets.weak {α β : Type} {K : PySem.W.Frag} {G F H : Hp} {σ : L2.St} {RS : RSt β α} {sd : SD} {r : ER α} {Q : β → Hp → Prop} {P : Prop} (h : Meets K pv W G σ RS p sd F H r Q P) : Meets K pv W G σ RS false sd F H r Q P := by
  cases r with
  | bad => exact True.intro
  | rz x sd' => exact h
  | ok a sd' => exact fun z => h fun v F' H' s1 s2 s3 _ => z v F' H' s1 s2 s3 fun w => by cases w
theorem dr_nil : DR X pv W [] rNil := ⟨_, pa_nil, fun G F sd σ H Q s => (Meets.here (p := true) s .nil id).weak⟩
theorem dr_slot {i : Nat} {x : Str} {pp : Pos} {mr : SD → ER (List Arg)} (hx : PE X (.Name x pp) (tVar i)) (hr : DR X pv W es mr) (hs : starEach (.Name x pp :: es) X.env = (false, eval (.Name x pp) X.env) :: starEach es X.env := by rfl) : DR X pv W (.Name x pp :: es) (rSlot i mr) := by
  obtain ⟨tr, b1, b2⟩ := hr
  refine ⟨_, pa_cons hx b1 hs, fun G F sd σ H Q s => ?_⟩
  unfold rSlot
  split
  · rename_i t e
    obtain ⟨v, P, h1, h2⟩ := s.tree e
    refine Meets.to (P := tr σ H fun xs H2 => Q (v :: xs) H2) ?_ fun z => ⟨v, h1, z⟩
    refine (Meets.bindL (b2 G F sd σ H (fun xs H2 => Q (v :: xs) H2) s) fun xs F1 H1 rs sd1 s1 s2 s3 s4 => ?_)
    exact Meets.here s2 (.sl h1 s3) id
  · exact True.intro
theorem dr_fz {ma : SD → ER D} {mr : SD → ER (List Arg)} (ha : DX X pv W p true e ma) (hr : DR X pv W es mr) (hs : starEach (e :: es) X.env = (false, eval e X.env) :: starEach es X.env := by rfl) : DR X pv W (e :: es) (rFz ma mr) := by
  obtain ⟨te, a1, a2⟩ := ha
  obtain ⟨tr, b1, b2⟩ := hr
  refine ⟨_, pa_cons a1 b1 hs, fun G F sd σ H Q s => ?_⟩
  refine Meets.weak (p := p && false) (Meets.bind (a2 G F sd σ H _ s) fun x F1 H1 dx sd1 s1 s2 s3 s4 => ?_)
  refine (Meets.bindL (b2 G F1 sd1 σ H1 _ s2) fun xs F2 H2 rs sd2 t1 t2 t3 t4 => ?_)
  exact Meets.here t2 (.fz (Rep.mono t1 (show Rep X.K F1 x dx from s3)) t3) id
end

/-! ### a call -/
def treesOf (sd : SD) : List Arg → Option (List OT)
  | [] => some []
  | .fz d :: r => (treesOf sd r).map (.fz d :: ·)
  | .sl i :: r => (sd.tree i).bind fun t => (treesOf sd r).map (t :: ·)
def noSlot : List Arg → Bool
  | [] => true
  | .fz _ :: r => noSlot r
  | .sl _ :: _ => false
def oneSlot : List Arg → Option (Nat × Nat)
  | [] => none
  | .fz _ :: r => (oneSlot r).map fun p => (p.1 + 1, p.2)
  | .sl i :: r => if noSlot r = true then some (0, i) else none
section
variable {K : PySem.W.Frag} {pv : List V} {G F H : Hp} {sd : SD} {σ : L2.St}
theorem args_no {F : Hp} : ∀ {vs : List V} {r : List Arg} {ts : List OT}, RepsR K F σ vs r → treesOf sd r = some ts → noSlot r = true → vs.length = ts.length ∧ ∀ (k : Nat) (t : OT), ts[k]? = some t → ∃ v d, vs[k]? = some v ∧ t = .fz d ∧ Rep K F v d
  | _, _, ts, .nil, h, _ => by
    unfold treesOf at h
    cases h
    exact ⟨rfl, fun k t e => by simp at e⟩
  | _, _, ts, .fz (r := r) h1 h2, h, hn => by
    unfold treesOf at h
    cases e : treesOf sd r with
    | none => rw [e] at h; cases h
    | some us =>
      rw [e] at h; cases h
      obtain ⟨l1, l2⟩ := args_no h2 e hn
      refine ⟨by rw [List.length_cons, List.length_cons, l1], fun k t et => ?_⟩
      cases k with
      | zero => simp at et; subst et; exact ⟨_, _, rfl, rfl, h1⟩
      | succ k =>
        obtain ⟨v, d, q1, q2, q3⟩ := l2 k t (by simpa using et)
        exact ⟨v, d, by simpa using q1, q2, q3⟩
  | _, _, ts, .sl h1 h2, h, hn => by cases hn
theorem args_one {F : Hp} : ∀ {vs : List V} {r : List Arg} {ts : List OT} {m i : Nat}, RepsR K F σ vs r → treesOf sd r = some ts → oneSlot r = some (m, i) → vs.length = ts.length ∧ (∃ t, ts[m]? = some t ∧ sd.tree i = some t) ∧ (∃ v, vs[m]? = some v ∧ σ[i]? = some (some v)) ∧
    ∀ (k : Nat) (t : OT), ts[k]? = some t → k ≠ m → ∃ v d, vs[k]? = some v ∧ t = .fz d ∧ Rep K F v d
  | _, _, ts, m, i, .nil, h, ho => by cases ho
  | _, _, ts, m, i, .fz (r := r) h1 h2, h, ho => by
    unfold treesOf at h
    unfold oneSlot at ho
    cases e : treesOf sd r with
    | none => rw [e] at h; cases h
    | some us =>
      rw [e] at h; cases h
      cases e2 : oneSlot r with
      | none => rw [e2] at ho; cases ho
      | some p =>
        rw [e2] at ho; cases ho
        obtain ⟨m', i'⟩ := p
        obtain ⟨l1, ⟨t, l2, l3⟩, ⟨v, l4, l5⟩, l6⟩ := args_one h2 e e2
        refine ⟨by rw [List.length_cons, List.length_cons, l1], ⟨t, by simpa using l2, l3⟩, ⟨v, by simpa using l4, l5⟩, fun k t et hk => ?_⟩
        cases k with
        | zero => simp at et; subst et; exact ⟨_, _, rfl, rfl, h1⟩
        | succ k =>
          obtain ⟨v, d, q1, q2, q3⟩ := l6 k t (by simpa using et) (fun z => hk (by show k + 1 = m' + 1; rw [z]))
          exact ⟨v, d, by simpa using q1, q2, q3⟩
  | _, _, ts, m, i, .sl (r := r) h1 h2, h, ho => by
    unfold treesOf at h
    unfold oneSlot at ho
    split at ho
    · rename_i hn
      cases ho
      cases e0 : sd.tree i with
      | none => rw [e0] at h; cases h
      | some t =>
        rw [e0] at h
        have h : (treesOf sd r).map (t :: ·) = some ts := h
        cases e : treesOf sd r with
        | none => rw [e] at h; cases h
        | some us =>
          rw [e] at h; cases h
          obtain ⟨l1, l2⟩ := args_no h2 e hn
          refine ⟨by rw [List.length_cons, List.length_cons, l1], ⟨t, rfl, rfl⟩, ⟨_, rfl, h1⟩, fun k t et hk => ?_⟩
          cases k with
          | zero => exact absurd rfl hk
          | succ k =>
            obtain ⟨v, d, q1, q2, q3⟩ := l2 k t (by simpa using et)
            exact ⟨v, d, by simpa using q1, q2, q3⟩
    · cases ho
/-- one tree is handed over -/
theorem StR.give1 {ts : List OT} {vs : List V} {m i : Nat} {t : OT} {v : V} (s : StR K pv G F sd σ H) (hl : vs.length = ts.length) (hm : ts[m]? = some t) (ht : sd.tree i = some t) (hv : vs[m]? = some v) (hs : σ[i]? = some (some v))
    (hr : ∀ (k : Nat) (t : OT), ts[k]? = some t → k ≠ m → ∃ v d, vs[k]? = some v ∧ t = .fz d ∧ Rep K F v d) :
    ∃ G', StR K vs G' F ⟨[], ts⟩ [] H ∧ (∀ (F' H' : Hp) (w : V) (u t' : OT) (sd1 : SD), Same F F' → StR1 K vs G' F' sd1 [] H' w u → sd1.pa[m]? = some t' → StR1 K pv G F' (sd.put i t') σ H' w u) ∧
      (∀ (F' H' : Hp) (t' : OT) (sd1 : SD), Same F F' → StR K vs G' F' sd1 [] H' → sd1.pa[m]? = some t' → StR K pv G F' (sd.put i t') σ H') := by
  classical
  obtain ⟨o, W⟩ := s
  obtain ⟨src, v0, h1, h2, h3⟩ := W.put ht
  rw [hs] at h1; cases h1
  let G' : Hp := fun a => if F a = none ∧ ¬ o src a then H a else none
  have g0 : ∀ a, F a = none → ¬ o src a → G' a = H a := fun a x y => if_pos ⟨x, y⟩
  have gn : ∀ a, G' a = none → F a ≠ none ∨ o src a ∨ H a = none := fun a z => by
    by_cases f : F a = none
    · by_cases q : o src a
      · exact .inr (.inl q)
      · rw [g0 a f q] at z; exact .inr (.inr z)
    · exact .inl f
  have back : ∀ (F' H' : Hp) (o' : Nat ⊕ Nat → Addr → Prop) (sd1 : SD) (t' : OT), Same F F' → Own K vs G' F' sd1 [] H' o' → sd1.pa[m]? = some t' → Own K pv G F' (sd.put i t') σ H' (fun x a => if x = src then o' (.inr m) a else o x a) ∧ ∀ x a, x ≠ src → o x a → G' a ≠ none := fun F' H' o' sd1 t' f W' et => by
    have ne : ∀ x a, x ≠ src → o x a → G' a = H a ∧ H a ≠ none := fun x a n q => by
      obtain ⟨k1, k2, k3⟩ := W.oh x a q
      exact ⟨g0 a k2 fun z => n (W.oo _ _ a q z), k1⟩
    have keep : ∀ x a, x ≠ src → o x a → H' a = H a := fun x a n q => by
      obtain ⟨k1, k2⟩ := ne x a n q
      cases e : H a with
      | none => exact absurd e k2
      | some u => exact W'.gh a u (by rw [k1]; exact e)
    have gG : ∀ a, G' a = none → F' a = none → G a = none := fun a z fa => by
      rcases gn a z with q | q | q
      · exact absurd (f.free fa) q
      · exact (W.oh _ a q).2.2
      · exact W.gh.free q
    refine ⟨?_, fun x a n q => by obtain ⟨k1, k2⟩ := ne x a n q; rw [k1]; exact k2⟩
    obtain ⟨v1, q1, q2⟩ := W'.pr m t' et
    rw [hv] at q1; cases q1
    refine h3 F' H' _ t' f W'.fh (fun a u e => ?_) (fun a ha => ?_) (fun x a q => ?_) (fun x y a q q' => ?_) (fun x n a q => ⟨by rw [if_neg n]; exact q, keep x a n q⟩) ?_
    · have hu := W.gh a u e
      have fa : F a = none := by
        cases e2 : F a with
        | none => rfl
        | some u2 => have := W.fg a (by rw [e2]; simp); rw [e] at this; cases this
      exact W'.gh a u (by rw [g0 a fa fun z => by rw [(W.oh _ a z).2.2] at e; cases e]; exact hu)
    · cases e : G a with
      | none => rfl
      | some u =>
        have hu := W.gh a u e
        have fa : F a = none := by
          cases e2 : F a with
          | none => rfl
          | some u2 => have := W.fg a (by rw [e2]; simp); rw [e] at this; cases this
        have := W'.fg a ha
        rw [g0 a fa (fun z => by rw [(W.oh _ a z).2.2] at e; cases e), hu] at this
        cases this
    · by_cases z : x = src
      · rw [if_pos z] at q
        obtain ⟨k1, k2, k3⟩ := W'.oh _ a q
        exact ⟨k1, k2, gG a k3 k2⟩
      · rw [if_neg z] at q
        obtain ⟨k1, k2⟩ := ne x a z q
        refine ⟨by rw [keep x a z q]; exact k2, ?_, (W.oh x a q).2.2⟩
        cases e : F' a with
        | none => rfl
        | some u =>
          have := W'.fg a (by rw [e]; simp)
          rw [k1] at this
          exact absurd this k2
    · by_cases z : x = src
      · rw [if_pos z] at q
        by_cases y' : y = src
        · rw [z, y']
        · rw [if_neg y'] at q'
          obtain ⟨k1, k2⟩ := ne y a y' q'
          exact absurd (W'.oh _ a q).2.2 (by rw [k1]; exact k2)
      · rw [if_neg z] at q
        by_cases y' : y = src
        · rw [if_pos y'] at q'
          obtain ⟨k1, k2⟩ := ne x a z q
          exact absurd (W'.oh _ a q').2.2 (by rw [k1]; exact k2)
        · rw [if_neg y'] at q'
          exact W.oo _ _ a q q'
    · exact q2.mono (Same.refl _) fun x hx => ⟨by show (if src = src then o' (.inr m) x else o src x); rw [if_pos rfl]; exact hx, rfl⟩
  refine ⟨G', ⟨fun x a => x = .inr m ∧ o src a, W.fh, fun a u e => ?_, fun a ha => ?_, fun x a q => ?_, fun x y a q q' => q.1.trans q'.1.symm, rfl, fun i t e => by simp at e, fun i j e => by simp at e, fun j t1 e => ?_⟩, fun F' H' w u t' sd1 f ⟨o', P, W', r, k⟩ et => ?_, fun F' H' t' sd1 f ⟨o', W'⟩ et => ?_⟩
  · have e : (if F a = none ∧ ¬ o src a then H a else none) = some u := e
    split at e
    · exact e
    · cases e
  · exact if_neg fun z => ha z.1
  · obtain ⟨k1, k2, k3⟩ := W.oh _ a q.2
    exact ⟨k1, k2, if_neg fun z => z.2 q.2⟩
  · have e : ts[j]? = some t1 := e
    by_cases z : j = m
    · subst z
      rw [hm] at e; cases e
      exact ⟨_, hv, h2.mono (Same.refl _) fun x hx => ⟨⟨rfl, hx⟩, rfl⟩⟩
    · obtain ⟨v1, d, q1, q2, q3⟩ := hr j t1 e z
      subst q2
      refine ⟨v1, q1, ?_⟩
      unfold RepO
      exact q3
  · obtain ⟨W2, nn⟩ := back F' H' o' sd1 t' f W' et
    refine ⟨_, P, W2, r, fun a z => ?_⟩
    obtain ⟨k1, k2, k3, k4⟩ := k a z
    refine ⟨k1, k2, ?_, fun x q => ?_⟩
    · rcases gn a k3 with q | q | q
      · exact absurd (f.free k2) q
      · exact (W.oh _ a q).2.2
      · exact W.gh.free q
    · by_cases y : x = src
      · rw [if_pos y] at q; exact k4 _ q
      · rw [if_neg y] at q; exact nn x a y q k3
  · obtain ⟨W2, nn⟩ := back F' H' o' sd1 t' f W' et
    exact ⟨_, W2⟩
end
def mCall1 (f : List OT → ER OT) (a : SD → ER (List Arg)) : SD → ER OT := fun sd => (a sd).bind fun args sd1 => match oneSlot args, treesOf sd1 args with
  | some (m, i), some ts => match f ts with
    | .ok t sd' => match sd'.pa[m]? with
      | some t' => .ok t (sd1.put i t')
      | none => .bad
    | .rz x sd' => match sd'.pa[m]? with
      | some t' => .rz x (sd1.put i t')
      | none => .bad
    | .bad => .bad
  | _, _ => .bad
section
variable {X : Cx} {pv : List V} {W : WX} {p q k l : Bool} {e a b : Expr} {es : List Expr}
theorem tr_call1 {n : Nat} {f : List OT → ER OT} {ta : TA} {mm : SD → ER (List Arg)} (hn : ∀ sd ds sd1, mm sd = .ok ds sd1 → ds.length = n) (h : TrR X.K pv W ta mm) :
    TrO X.K pv W false (fun σ H Q => ta σ H fun vs H1 => spD X.K n f vs H1 Q (WE W σ)) (mCall1 f mm) := by
  intro G F sd σ H Q s
  have z := h G F sd σ H (fun vs H1 => spD X.K n f vs H1 Q (WE W σ)) s
  unfold mCall1
  have hn := hn sd
  revert z hn
  cases mm sd with
  | bad => exact fun _ _ => True.intro
  | rz x sd1 => exact fun z _ => z
  | ok args sd1 =>
    intro z hn
    have hn := hn args sd1 rfl
    show Meets X.K pv W G σ (RSo X.K pv) false sd F H (match oneSlot args, treesOf sd1 args with
      | some (m, i), some ts => match f ts with
        | .ok t sd' => match sd'.pa[m]? with
          | some t' => .ok t (sd1.put i t')
          | none => .bad
        | .rz x sd' => match sd'.pa[m]? with
          | some t' => .rz x (sd1.put i t')
          | none => .bad
        | .bad => .bad
      | _, _ => .bad) Q _
    cases e1 : oneSlot args with
    | none => exact True.intro
    | some p =>
      obtain ⟨m, i⟩ := p
      cases e2 : treesOf sd1 args with
      | none => exact True.intro
      | some ts =>
        have main : ∀ vs F1 H1, Same F F1 → StR X.K pv G F1 sd1 σ H1 → RepsR X.K F1 σ vs args → vs.length = n ∧ ts.length = n ∧ ∃ G', StR X.K vs G' F1 ⟨[], ts⟩ [] H1 ∧ (∀ (F' H' : Hp) (w : V) (u t' : OT) (sd' : SD), Same F1 F' → StR1 X.K vs G' F' sd' [] H' w u → sd'.pa[m]? = some t' → StR1 X.K pv G F' (sd1.put i t') σ H' w u) ∧
            (∀ (F' H' : Hp) (t' : OT) (sd' : SD), Same F1 F' → StR X.K vs G' F' sd' [] H' → sd'.pa[m]? = some t' → StR X.K pv G F' (sd1.put i t') σ H') := fun vs F1 H1 s1 s2 s3 => by
          obtain ⟨l1, ⟨t, l2, l3⟩, ⟨v, l4, l5⟩, l6⟩ := args_one s3 e2 e1
          have la : vs.length = args.length := s3.length
          exact ⟨by omega, by omega, s2.give1 l1 l2 l3 l4 l5 l6⟩
        show Meets X.K pv W G σ (RSo X.K pv) false sd F H (match f ts with
          | .ok t sd' => match sd'.pa[m]? with
            | some t' => .ok t (sd1.put i t')
            | none => .bad
          | .rz x sd' => match sd'.pa[m]? with
            | some t' => .rz x (sd1.put i t')
            | none => .bad
          | .bad => .bad) Q _
        cases e : f ts with
        | bad => exact True.intro
        | rz x s' =>
          show Meets X.K pv W G σ (RSo X.K pv) false sd F H (match s'.pa[m]? with
            | some t' => .rz x (sd1.put i t')
            | none => .bad) Q _
          cases e3 : s'.pa[m]? with
          | none => exact True.intro
          | some t' =>
            intro hW
            refine z fun vs F1 H1 s1 s2 s3 s4 => ?_
            obtain ⟨a1, a2, G', g1, g2, g3⟩ := main vs F1 H1 s1 s2 s3
            refine ⟨a1, G', F1, ts, a2, g1, ?_⟩
            rw [e]
            exact fun cls dd F2 H2 t1 t2 t3 => hW cls dd F2 H2 (s1.trans t1) (g3 F2 H2 t' s' t1 t2 e3) t3
        | ok t s' =>
          show Meets X.K pv W G σ (RSo X.K pv) false sd F H (match s'.pa[m]? with
            | some t' => .ok t (sd1.put i t')
            | none => .bad) Q _
          cases e3 : s'.pa[m]? with
          | none => exact True.intro
          | some t' =>
            intro hQ
            refine z fun vs F1 H1 s1 s2 s3 s4 => ?_
            obtain ⟨a1, a2, G', g1, g2, g3⟩ := main vs F1 H1 s1 s2 s3
            refine ⟨a1, G', F1, ts, a2, g1, ?_⟩
            rw [e]
            exact fun v F2 H2 t1 t2 => hQ v F2 H2 (s1.trans t1) (g2 F2 H2 v t t' s' t1 t2 e3).drop (g2 F2 H2 v t t' s' t1 t2 e3) fun w => by cases w
theorem lenr_nil : ∀ sd ds sd1, rNil sd = .ok ds sd1 → ds.length = 0 := fun sd ds sd1 h => by cases h; rfl
theorem lenr_fz {ma : SD → ER D} {mr : SD → ER (List Arg)} {n : Nat} (h : ∀ sd ds sd1, mr sd = .ok ds sd1 → ds.length = n) : ∀ sd ds sd1, rFz ma mr sd = .ok ds sd1 → ds.length = n + 1 := fun sd ds sd1 e => by
  unfold rFz at e
  cases e1 : ma sd with
  | bad => rw [e1] at e; cases e
  | rz x s => rw [e1] at e; cases e
  | ok d s =>
    rw [e1] at e
    have e : (mr s).bind (fun xs sd2 => ER.ok (.fz d :: xs) sd2) = .ok ds sd1 := e
    cases e2 : mr s with
    | bad => rw [e2] at e; cases e
    | rz x s2 => rw [e2] at e; cases e
    | ok ys s2 =>
      rw [e2] at e
      cases e
      rw [List.length_cons, h s ys _ e2]
theorem lenr_slot {i : Nat} {mr : SD → ER (List Arg)} {n : Nat} (h : ∀ sd ds sd1, mr sd = .ok ds sd1 → ds.length = n) : ∀ sd ds sd1, rSlot i mr sd = .ok ds sd1 → ds.length = n + 1 := fun sd ds sd1 e => by
  unfold rSlot at e
  split at e
  · cases e2 : mr sd with
    | bad => rw [e2] at e; cases e
    | rz x s2 => rw [e2] at e; cases e
    | ok ys s2 =>
      rw [e2] at e
      cases e
      rw [List.length_cons, h sd ys _ e2]
  · cases e
theorem do_call1 {n j : Nat} {f : Addr} {fd : FuncData} {ps : List Str} {x : Str} {pp pos : Pos} {g : List OT → ER OT} {m : SD → ER (List Arg)} (F : FnG X.prog X.w X.K X.mg X.base (L2.CX X.prog X.w) j f fd ps (spD X.K n g)) (hr : RoomG j X.A) (hg : Gl X x)
    (hm : X.mg x = some (.ref f)) (hk : PySem.W.keepIn X.K (.ref f) = true) (hb : Binds X.K fd ps []) (tk : Takes X W) (ha : DR X pv W (e :: es) m) (hn : ∀ sd ds sd1, m sd = .ok ds sd1 → ds.length = n)
    (hdb : (x == ("__debug__" : Str)) = false := by decide) (he : starEach (e :: es) X.env = (false, eval e X.env) :: starEach es X.env := by rfl) (hpl : (backTo pos (starEach es X.env)).any (·.1) = false := by rfl) :
    DO X pv W false (.Call (.Name x pp) (e :: es) [] pos) (mCall1 g m) := by
  obtain ⟨ta, a1, a2⟩ := ha
  exact ⟨_, pe_callG F hr hg hm hk hb tk a1 hdb he hpl, tr_call1 hn a2⟩
end
end DL

/-! DL13: name = [..] whose list is frozen at once; the facts of a def. -/
namespace DL
open PySem PySem.Spec L2
def mFz (m : SD → ER OT) : SD → ER OT := mOwn (mView m)
theorem tr_fz {K : PySem.W.Frag} {pv : List V} {W : WX} {p : Bool} {te : TE} {m : SD → ER OT} (h : TrO K pv W p te m) : TrO K pv W p te (mFz m) := by
  intro G F sd σ H Q s
  refine Meets.imp (f := fun t => OT.fz t.view) (h G F sd σ H Q s) id ?_ fun v F1 H1 t sd1 _ s1 s2 s3 s4 hQ => ?_
  · unfold mFz mOwn mView
    cases m sd <;> rfl
  · obtain ⟨F2, t1, t2, t3⟩ := StR1.frz s3
    exact hQ v F2 H1 t1 t2 (StR1.fz t2 t3) (Same.refl _)
section
variable {X : Cx} {pv : List V} {W : WX} {p q k l pc pe pi1 pc1 : Bool} {e tg iter tg1 iter1 elt : Expr} {ifs ifs1 : List Expr} {scope : Scope} {pos : Pos}
theorem DO.fz {m : SD → ER OT} (h : DO X pv W p e m) : DO X pv W p e (mFz m) := by
  obtain ⟨te, h1, h2⟩ := h
  exact ⟨te, h1, tr_fz h2⟩
theorem ds_setCompF {own : List (Str × Nat)} {is : List Nat} {i : Nat} {y : Str} {py spos : Pos} {mi : SD → ER (List D)} {g : D → SD → Option SD} {mc : SD → ER Bool} {me : SD → ER D} (hc : X.calm = true) (hN : X.N.Nodup) (hy : X.N[i]? = some y) (hyl : X.env.scope.names.lookup y = some .local)
    (hsw : swapsWith (.ListComp elt [⟨tg, iter, ifs, 0⟩] scope pos) (some (.Name y py)) spos.line X.env = pure true) (hi : DI X pv W p tg iter mi) (ok : BlkOk X.N X.env.scope scope own)
    (hg : ∀ (s : Shared) (H : Hp) (C : Addr) (cl : List (Str × Addr)) (fp : List Addr), DG (X.blk s H scope (compEnvC scope cl C X.env) fp) is tg g)
    (ht : ∀ (s : Shared) (H : Hp) (C : Addr) (cl : List (Str × Addr)) (fp : List Addr), DTs (X.blk s H scope (compEnvC scope cl C X.env) fp) pv W0 pc ifs mc)
    (he : ∀ (s : Shared) (H : Hp) (C : Addr) (cl : List (Str × Addr)) (fp : List Addr), DX (X.blk s H scope (compEnvC scope cl C X.env) fp) pv W0 pe true elt me) (his : ∀ i ∈ is, i ∈ own.map (·.2))
    (wip : ∀ (vs : List Nat), (∀ i ∈ is, i ∈ vs) → ∀ d sd sd', g d sd = some sd' → SD.wipe sd' vs = SD.wipe sd vs)
    (hs : ∀ x, foldedSetIterable iter X.env x = pure x := by intro _; rfl) :
    DS X pv W (.Assign [.Name y py] (.ListComp elt [⟨tg, iter, ifs, 0⟩] scope pos) spos) (sSet i (mFz (mComp mi g mc me (own.map (·.2))))) := by
  obtain ⟨wi, a1, a2⟩ := hi
  exact ⟨_, ps_setLc hc hN hy hyl hsw a1 ok (fun s H C cl fp => (hg s H C cl fp).can) (fun s H C cl fp => (ht s H C cl fp).run) (fun s H C cl fp => (he s H C cl fp).can) hs, tr_set (tr_fz (comp_tr a2 canG_run wip canT_tr canX_tr his))⟩
/-- what holds of targets in any context -/
theorem tgN_wip {i : Nat} : ∀ (vs : List Nat), (∀ j ∈ [i], j ∈ vs) → ∀ d sd sd', tgN i d sd = some sd' → SD.wipe sd' vs = SD.wipe sd vs := fun vs h d sd sd' e => by
  unfold tgN SD.putFz at e
  split at e
  · cases e
    show SD.mk (wipeS (sd.sl.set i _) vs) sd.pa = SD.mk (wipeS sd.sl vs) sd.pa
    rw [wipeS_set (h i List.mem_cons_self)]
  · cases e
abbrev Wip (is : List Nat) (g : D → SD → Option SD) : Prop := ∀ (vs : List Nat), (∀ j ∈ is, j ∈ vs) → ∀ d sd sd', g d sd = some sd' → SD.wipe sd' vs = SD.wipe sd vs
abbrev Wips (is : List Nat) (g : List D → SD → Option SD) : Prop := ∀ (vs : List Nat), (∀ j ∈ is, j ∈ vs) → ∀ d sd sd', g d sd = some sd' → SD.wipe sd' vs = SD.wipe sd vs
theorem wip_name {i : Nat} : Wip [i] (tgN i) := tgN_wip
theorem wip_nil : Wips [] tgNil := fun vs h d sd sd' e => by
  unfold tgNil at e
  cases d with
  | nil => cases e; rfl
  | cons _ _ => cases e
theorem wip_cons {is js : List Nat} {g : D → SD → Option SD} {h : List D → SD → Option SD} (a : Wip is g) (b : Wips js h) : Wips (is ++ js) (tgCons g h) := fun vs hv d sd sd' e => by
  cases d with
  | nil => cases e
  | cons d ds =>
    obtain ⟨sd1, e1, e2⟩ := Option.bind_eq_some_iff.mp e
    rw [b vs (fun i hi => hv i (List.mem_append_right _ hi)) _ _ _ e2, a vs (fun i hi => hv i (List.mem_append_left _ hi)) _ _ _ e1]
theorem wip_tup {is : List Nat} {n : Nat} {h : List D → SD → Option SD} (a : Wips is h) : Wip is (tgT n h) := fun vs hv d sd sd' e => by
  unfold tgT at e
  cases d with
  | tup ds =>
    have e : (if ds.length = n then h ds sd else none) = some sd' := e
    split at e
    · exact a vs hv _ _ _ e
    · cases e
  | ktu ds =>
    have e : (if ds.length = n then h ds sd else none) = some sd' := e
    split at e
    · exact a vs hv _ _ _ e
    · cases e
  | _ => cases e
end
/-- a def at its name -/
structure Fd (K : PySem.W.Frag) (mg : Str → Option Value) (x : Str) (st : Stmt) (f : Addr) (fd : FuncData) (ps : List Str) : Prop where
  F : Fun K x x st f fd
  g : mg x = some (.ref f)
  b : Binds K fd ps []
theorem bo_abs : bootBuiltins "abs" = some (.builtin "abs") := by decide +kernel
theorem bo_all : bootBuiltins "all" = some (.builtin "all") := by decide +kernel
theorem bo_any : bootBuiltins "any" = some (.builtin "any") := by decide +kernel
theorem bo_chr : bootBuiltins "chr" = some (.builtin "chr") := by decide +kernel
theorem bo_divmod : bootBuiltins "divmod" = some (.builtin "divmod") := by decide +kernel
theorem bo_getattr : bootBuiltins "getattr" = some (.builtin "getattr") := by decide +kernel
theorem bo_hasattr : bootBuiltins "hasattr" = some (.builtin "hasattr") := by decide +kernel
theorem bo_isinstance : bootBuiltins "isinstance" = some (.builtin "isinstance") := by decide +kernel
theorem bo_len : bootBuiltins "len" = some (.builtin "len") := by decide +kernel
theorem bo_max : bootBuiltins "max" = some (.builtin "max") := by decide +kernel
theorem bo_min : bootBuiltins "min" = some (.builtin "min") := by decide +kernel
theorem bo_ord : bootBuiltins "ord" = some (.builtin "ord") := by decide +kernel
theorem bo_pow : bootBuiltins "pow" = some (.builtin "pow") := by decide +kernel
theorem bo_repr : bootBuiltins "repr" = some (.builtin "repr") := by decide +kernel
theorem bo_round : bootBuiltins "round" = some (.builtin "round") := by decide +kernel
theorem bo_sorted : bootBuiltins "sorted" = some (.builtin "sorted") := by decide +kernel
theorem bo_sum : bootBuiltins "sum" = some (.builtin "sum") := by decide +kernel
theorem bo_bool : bootBuiltins "bool" = some (.type "bool") := by decide +kernel
theorem bo_dict : bootBuiltins "dict" = some (.type "dict") := by decide +kernel
theorem bo_enumerate : bootBuiltins "enumerate" = some (.type "enumerate") := by decide +kernel
theorem bo_float : bootBuiltins "float" = some (.type "float") := by decide +kernel
theorem bo_int : bootBuiltins "int" = some (.type "int") := by decide +kernel
theorem bo_list : bootBuiltins "list" = some (.type "list") := by decide +kernel
theorem bo_range : bootBuiltins "range" = some (.type "range") := by decide +kernel
theorem bo_reversed : bootBuiltins "reversed" = some (.type "reversed") := by decide +kernel
theorem bo_set : bootBuiltins "set" = some (.type "set") := by decide +kernel
theorem bo_str : bootBuiltins "str" = some (.type "str") := by decide +kernel
theorem bo_tuple : bootBuiltins "tuple" = some (.type "tuple") := by decide +kernel
theorem bo_zip : bootBuiltins "zip" = some (.type "zip") := by decide +kernel
theorem bo_IndexError : bootBuiltins "IndexError" = some (.type "IndexError") := by decide +kernel
theorem bo_KeyError : bootBuiltins "KeyError" = some (.type "KeyError") := by decide +kernel
theorem bo_OverflowError : bootBuiltins "OverflowError" = some (.type "OverflowError") := by decide +kernel
theorem bo_TypeError : bootBuiltins "TypeError" = some (.type "TypeError") := by decide +kernel
theorem bo_ValueError : bootBuiltins "ValueError" = some (.type "ValueError") := by decide +kernel
theorem bo_ZeroDivisionError : bootBuiltins "ZeroDivisionError" = some (.type "ZeroDivisionError") := by decide +kernel
theorem iop_addX {X : Cx} : OpR X (inplaceOp .Add) rAddX := iop_add.or iop_add_str
end DL

/-! DL14: from a law's mirror to the law's promise. -/
namespace DL
open PySem PySem.Spec L2
theorem law_sp {K : PySem.W.Frag} {H : Hp} {a : Addr} {ns : List Int} {m : List OT → ER OT} (hS : SqL K H a (ns.map V.int)) (h : ∃ sd, m [.fz (.scr ns)] = .ok (.fz (.bl true)) sd) : spD K 1 m [.ref a] H (fun v _ => v = .bl true) fun _ _ _ => False := by
  obtain ⟨sd, h⟩ := h
  have st : StR K [.ref a] (fun _ => none) H ⟨[], [.fz (.scr ns)]⟩ [] H := by
    refine ⟨fun _ _ => False, Same.refl _, fun b u e => ?_, fun _ _ => rfl, fun i b q => False.elim q, fun i j b q => False.elim q, rfl, fun i t e => ?_, fun i j e => ?_, fun j t e => ?_⟩
    · exact nomatch (show (none : Option HO) = some u from e)
    · have e : ([] : List S)[i]? = some (.ow t) := e
      simp at e
    · have e : ([] : List S)[i]? = some (.pa j) := e
      simp at e
    · have e : [OT.fz (.scr ns)][j]? = some t := e
      cases j with
      | zero =>
        have e : some (OT.fz (.scr ns)) = some t := e
        cases e
        refine ⟨_, rfl, ?_⟩
        unfold RepO
        exact .scr hS
      | succ j => simp at e
  refine ⟨rfl, fun _ => none, H, [.fz (.scr ns)], rfl, st, ?_⟩
  rw [h]
  intro v F' H' _ s
  obtain ⟨o, P, W, r, _⟩ := s
  unfold RepO at r
  cases r
  rfl
theorem cx_no {P : Program} {w : World} {H : Hp} {s s' : Shared} {e : Value} (z : L2.CX P w [] H s (fun _ _ _ => False) e s') : False := by
  obtain ⟨_, _, _, _, _, _, _, _, _, _, _, _, q⟩ := z
  exact q
end DL

/-! DL15: what mirrors come to: comprehensions, loops, slices with a step. -/
namespace DL
open PySem PySem.Spec L2
theorem goComp_of {α : Type} {g : D → SD → Option SD} {c : SD → ER Bool} {elt : SD → ER D} {vs : List Nat} {w : SD} (e : α → D) (b : α → Bool) (f : α → D) : ∀ (xs : List α) (acc : List D) (sd : SD), sd.wipe vs = w → acc.length + xs.length ≤ 16777216 →
    (∀ x ∈ xs, ∃ sda, g (e x) w = some sda ∧ sda.wipe vs = w ∧ c sda = .ok (b x) sda ∧ (b x = true → elt sda = .ok (f x) sda)) →
    ∃ sd', goComp g c elt vs (xs.map e) acc sd = .ok (acc ++ (xs.filter b).map f) sd' ∧ sd'.wipe vs = w
  | [], acc, sd, hw, _, _ => ⟨sd, by rw [List.map_nil, goComp]; simp, hw⟩
  | x :: xs, acc, sd, hw, hl, h => by
    obtain ⟨sda, h1, h2, h3, h4⟩ := h x List.mem_cons_self
    rw [List.map_cons, goComp, hw, h1]
    dsimp only
    rw [h3]
    have hl' : acc.length + (xs.length + 1) ≤ 16777216 := hl
    cases hb : b x with
    | false =>
      obtain ⟨sd', q1, q2⟩ := goComp_of e b f xs acc sda h2 (by omega) fun y hy => h y (List.mem_cons_of_mem _ hy)
      refine ⟨sd', ?_, q2⟩
      simp only [ER.calm, ER.bind, Bool.false_eq_true, if_false]
      rw [q1, List.filter_cons, hb]
      rfl
    | true =>
      obtain ⟨sd', q1, q2⟩ := goComp_of e b f xs (acc ++ [f x]) sda h2 (by rw [List.length_append]; show acc.length + 1 + xs.length ≤ _; omega) fun y hy => h y (List.mem_cons_of_mem _ hy)
      refine ⟨sd', ?_, q2⟩
      simp only [ER.calm, ER.bind, if_true, h4 hb]
      rw [if_pos (by omega), q1, List.filter_cons, hb, if_pos rfl, List.map_cons, List.append_assoc]
      rfl
theorem mComp_of {α : Type} {mi : SD → ER (List D)} {g : D → SD → Option SD} {c : SD → ER Bool} {elt : SD → ER D} {vs : List Nat} {sd sd1 : SD} (xs : List α) (e : α → D) (b : α → Bool) (f : α → D) (hi : mi sd = .ok (xs.map e) sd1) (hl : xs.length ≤ 16777216)
    (h : ∀ x ∈ xs, ∃ sda, g (e x) (sd1.wipe vs) = some sda ∧ sda.wipe vs = sd1.wipe vs ∧ c sda = .ok (b x) sda ∧ (b x = true → elt sda = .ok (f x) sda)) :
    mComp mi g c elt vs sd = .ok (.ol (((xs.filter b).map f).map .fz)) sd1 := by
  obtain ⟨sd', q1, q2⟩ := goComp_of e b f xs [] sd1 rfl (by simpa using hl) h
  unfold mComp
  rw [hi]
  show (goComp g c elt vs (xs.map e) [] sd1).bind _ = _
  rw [q1]
  show ER.ok (OT.ol (([] ++ (xs.filter b).map f).map .fz)) (sd'.back sd1 vs) = _
  rw [back_self q2, List.nil_append]
/-- no test -/
theorem mComp_map {α : Type} {mi : SD → ER (List D)} {g : D → SD → Option SD} {elt : SD → ER D} {vs : List Nat} {sd sd1 : SD} (xs : List α) (e : α → D) (f : α → D) (hi : mi sd = .ok (xs.map e) sd1) (hl : xs.length ≤ 16777216)
    (h : ∀ x ∈ xs, ∃ sda, g (e x) (sd1.wipe vs) = some sda ∧ sda.wipe vs = sd1.wipe vs ∧ elt sda = .ok (f x) sda) :
    mComp mi g mYes elt vs sd = .ok (.ol ((xs.map f).map .fz)) sd1 := by
  have z := mComp_of (mi := mi) (c := mYes) xs e (fun _ => true) f hi hl fun x hx => by
    obtain ⟨sda, h1, h2, h3⟩ := h x hx
    exact ⟨sda, h1, h2, rfl, fun _ => h3⟩
  rw [List.filter_eq_self.mpr fun _ _ => rfl] at z
  exact z
theorem goComp2_of {α β : Type} {g g1 : D → SD → Option SD} {it1 : SD → ER (List D)} {elt : SD → ER D} {vs vs1 : List Nat} {w : SD} (e : α → D) (ys : α → List β) (e1 : β → D) (f : α → β → D) (hsub : ∀ i ∈ vs1, i ∈ vs) : ∀ (xs : List α) (acc : List D) (sd : SD), sd.wipe vs = w → acc.length + (xs.flatMap fun x => (ys x).map (f x)).length ≤ 16777216 →
    (∀ x ∈ xs, ∃ sda, g (e x) w = some sda ∧ sda.wipe vs = w ∧ it1 sda = .ok ((ys x).map e1) sda ∧ ∀ y ∈ ys x, ∃ sdb, g1 (e1 y) (sda.wipe vs1) = some sdb ∧ sdb.wipe vs1 = sda.wipe vs1 ∧ elt sdb = .ok (f x y) sdb) →
    ∃ sd', goComp2 g mYes it1 g1 mYes elt vs vs1 (xs.map e) acc sd = .ok (acc ++ xs.flatMap fun x => (ys x).map (f x)) sd' ∧ sd'.wipe vs = w
  | [], acc, sd, hw, _, _ => ⟨sd, by rw [List.map_nil, goComp2]; simp, hw⟩
  | x :: xs, acc, sd, hw, hl, h => by
    obtain ⟨sda, h1, h2, h3, h4⟩ := h x List.mem_cons_self
    rw [List.map_cons, goComp2, hw, h1]
    dsimp only
    rw [List.flatMap_cons, List.length_append, List.length_map] at hl
    obtain ⟨sd1, q1, q2⟩ := goComp_of (c := mYes) (elt := elt) e1 (fun _ => true) (f x) (ys x) acc sda rfl (by omega) fun y hy => by
      obtain ⟨sdb, k1, k2, k3⟩ := h4 y hy
      exact ⟨sdb, k1, k2, rfl, fun _ => k3⟩
    rw [List.filter_eq_self.mpr fun _ _ => rfl] at q1
    have q3 : sd1.wipe vs = w := by
      have z := congrArg (fun s => SD.wipe s vs) q2
      have z : (sd1.wipe vs1).wipe vs = (sda.wipe vs1).wipe vs := z
      rw [wipe_wipe hsub, wipe_wipe hsub] at z
      rw [z, h2]
    obtain ⟨sd', r1, r2⟩ := goComp2_of e ys e1 f hsub xs (acc ++ (ys x).map (f x)) sd1 q3 (by rw [List.length_append, List.length_map]; omega) fun y hy => h y (List.mem_cons_of_mem _ hy)
    refine ⟨sd', ?_, r2⟩
    simp only [mYes, ER.calm, ER.bind, if_true, h3]
    simp only [q1, r1, List.append_assoc, List.flatMap_cons]
theorem mComp2_map {α β : Type} {mi it1 : SD → ER (List D)} {g g1 : D → SD → Option SD} {elt : SD → ER D} {vs vs1 : List Nat} {sd sd1 : SD} (xs : List α) (e : α → D) (ys : α → List β) (e1 : β → D) (f : α → β → D) (hi : mi sd = .ok (xs.map e) sd1) (hsub : ∀ i ∈ vs1, i ∈ vs) (hl : (xs.flatMap fun x => (ys x).map (f x)).length ≤ 16777216)
    (h : ∀ x ∈ xs, ∃ sda, g (e x) (sd1.wipe vs) = some sda ∧ sda.wipe vs = sd1.wipe vs ∧ it1 sda = .ok ((ys x).map e1) sda ∧ ∀ y ∈ ys x, ∃ sdb, g1 (e1 y) (sda.wipe vs1) = some sdb ∧ sdb.wipe vs1 = sda.wipe vs1 ∧ elt sdb = .ok (f x y) sdb) :
    mComp2 mi g mYes it1 g1 mYes elt vs vs1 sd = .ok (.ol ((xs.flatMap fun x => (ys x).map (f x)).map .fz)) sd1 := by
  obtain ⟨sd', q1, q2⟩ := goComp2_of e ys e1 f hsub xs [] sd1 rfl (by simpa using hl) h
  unfold mComp2
  rw [hi]
  show (goComp2 g mYes it1 g1 mYes elt vs vs1 (xs.map e) [] sd1).bind _ = _
  rw [q1]
  show ER.ok (OT.ol (([] ++ _).map .fz)) (sd'.back sd1 vs) = _
  rw [back_self q2, List.nil_append]
/-- a loop by an invariant over what is still to come -/
theorem goFor_inv {α : Type} {g : D → SD → Option SD} {body : SD → Fl} (e : α → D) (I : List α → SD → Prop) (h : ∀ x r sd, I (x :: r) sd → ∃ sda sdb, g (e x) sd = some sda ∧ (body sda = .nx sdb ∨ body sda = .ct sdb) ∧ I r sdb) : ∀ (xs : List α) (sd : SD), I xs sd → ∃ sd', goFor g body (xs.map e) sd = .nx sd' ∧ I [] sd'
  | [], sd, hi => ⟨sd, by rw [List.map_nil, goFor], hi⟩
  | x :: xs, sd, hi => by
    obtain ⟨sda, sdb, h1, h2, h3⟩ := h x xs sd hi
    obtain ⟨sd', q1, q2⟩ := goFor_inv e I h xs sdb h3
    refine ⟨sd', ?_, q2⟩
    rw [List.map_cons, goFor, h1]
    dsimp only
    rcases h2 with h2 | h2 <;> rw [h2] <;> exact q1
/-- .. from a range -/
theorem rangeD_map (lo : Int) (n : Nat) : rangeD lo n = (List.range n).map fun i : Nat => D.int (lo + (i : Int)) := rfl
theorem sFor_inv {α : Type} {it : SD → ER (List D)} {g : D → SD → Option SD} {body : SD → Fl} {sd sd1 : SD} (xs : List α) (e : α → D) (I : List α → SD → Prop) (hi : it sd = .ok (xs.map e) sd1) (h0 : I xs sd1) (h : ∀ x r sd, I (x :: r) sd → ∃ sda sdb, g (e x) sd = some sda ∧ (body sda = .nx sdb ∨ body sda = .ct sdb) ∧ I r sdb) :
    ∃ sd', sFor it g body sd = .nx sd' ∧ I [] sd' := by
  unfold sFor
  rw [hi]
  exact goFor_inv e I h xs sd1 h0
theorem seq_nx {a b : SD → Fl} {sd sd1 : SD} {r : Fl} (h : a sd = .nx sd1) (h2 : b sd1 = r) : sSeq a b sd = r := by
  unfold sSeq
  rw [h]
  exact h2

/-! ### every second -/
def evens {α : Type} : List α → List α
  | [] => []
  | [a] => [a]
  | a :: _ :: r => a :: evens r
def odds {α : Type} : List α → List α
  | [] => []
  | [_] => []
  | _ :: b :: r => b :: odds r
theorem evens_get {α : Type} : ∀ (xs : List α) (k : Nat), (evens xs)[k]? = xs[2 * k]?
  | [], k => by simp [evens]
  | [a], 0 => by simp [evens]
  | [a], k + 1 => by simp [evens, Nat.mul_add]
  | a :: b :: r, 0 => by simp [evens]
  | a :: b :: r, k + 1 => by
    rw [evens, List.getElem?_cons_succ, evens_get r k, Nat.mul_add]
    simp
theorem odds_get {α : Type} : ∀ (xs : List α) (k : Nat), (odds xs)[k]? = xs[2 * k + 1]?
  | [], k => by simp [odds]
  | [a], k => by simp [odds]
  | a :: b :: r, 0 => by simp [odds]
  | a :: b :: r, k + 1 => by
    rw [odds, List.getElem?_cons_succ, odds_get r k, Nat.mul_add]
    simp
theorem evens_len {α : Type} : ∀ xs : List α, (evens xs).length = (xs.length + 1) / 2
  | [] => by simp [evens]
  | [a] => by simp [evens]
  | a :: b :: r => by rw [evens, List.length_cons, evens_len r, List.length_cons, List.length_cons]; omega
theorem odds_len {α : Type} : ∀ xs : List α, (odds xs).length = xs.length / 2
  | [] => by simp [odds]
  | [a] => by simp [odds]
  | a :: b :: r => by rw [odds, List.length_cons, odds_len r, List.length_cons, List.length_cons]; omega
theorem pick_eq {α : Type} (xs ys : List α) (n : Nat) (s : Nat → Nat) (hn : ys.length = n) (h : ∀ k, k < n → ys[k]? = xs[s k]?) : ((List.range n).map s).filterMap (xs[·]?) = ys := by
  induction n generalizing ys s with
  | zero => cases ys with
    | nil => rfl
    | cons _ _ => simp at hn
  | succ n ih =>
    cases ys with
    | nil => simp at hn
    | cons y ys =>
      rw [List.range_succ_eq_map, List.map_cons, List.filterMap_cons]
      have h0 := h 0 (by omega)
      rw [List.getElem?_cons_zero] at h0
      rw [← h0]
      show y :: _ = _
      rw [List.map_map]
      rw [ih ys (s ∘ Nat.succ) (by simpa using hn) fun k hk => by
        have := h (k + 1) (by omega)
        rw [List.getElem?_cons_succ] at this
        exact this]
theorem pick_evens {α : Type} (xs : List α) : pickL xs none none (some 2) = evens xs := by
  have e : sliceRange (sliceBounds none none (some 2) xs.length).1 (sliceBounds none none (some 2) xs.length).2.1 (sliceBounds none none (some 2) xs.length).2.2 = (List.range ((xs.length + 1) / 2)).map fun k => 2 * k := by
    show (List.range (if (2 : Int) > 0 then (if (0 : Int) < (xs.length : Int) then ((xs.length : Int) - 0 + 2 - 1) / 2 else 0) else _).toNat).map (fun (k : Nat) => ((0 : Int) + 2 * (k : Int)).toNat) = _
    rw [if_pos (by decide)]
    congr 1
    · funext k; omega
    · congr 1
      split <;> omega
  unfold pickL
  rw [e]
  exact pick_eq xs _ _ _ (evens_len xs) fun k _ => evens_get xs k
theorem pick_odds {α : Type} (xs : List α) : pickL xs (some 1) none (some 2) = odds xs := by
  have e : sliceRange (sliceBounds (some 1) none (some 2) xs.length).1 (sliceBounds (some 1) none (some 2) xs.length).2.1 (sliceBounds (some 1) none (some 2) xs.length).2.2 = (List.range (xs.length / 2)).map fun k => 2 * k + 1 := by
    show (List.range (if (2 : Int) > 0 then (if max 0 (min (1 : Int) (xs.length : Int)) < (xs.length : Int) then ((xs.length : Int) - max 0 (min (1 : Int) (xs.length : Int)) + 2 - 1) / 2 else 0) else _).toNat).map (fun (k : Nat) => (max 0 (min (1 : Int) (xs.length : Int)) + 2 * (k : Int)).toNat) = _
    rw [if_pos (by decide)]
    by_cases h : xs.length = 0
    · rw [h]; rfl
    · have e1 : max 0 (min (1 : Int) (xs.length : Int)) = 1 := by omega
      rw [e1]
      congr 1
      · funext k; omega
      · congr 1
        split <;> omega
  unfold pickL
  rw [e]
  exact pick_eq xs _ _ _ (odds_len xs) fun k _ => odds_get xs k
theorem evens_map {α β : Type} (f : α → β) : ∀ xs : List α, evens (xs.map f) = (evens xs).map f
  | [] => rfl
  | [a] => rfl
  | a :: b :: r => by rw [List.map_cons, List.map_cons, evens, evens, List.map_cons, evens_map f r]
theorem odds_map {α β : Type} (f : α → β) : ∀ xs : List α, odds (xs.map f) = (odds xs).map f
  | [] => rfl
  | [a] => rfl
  | a :: b :: r => by rw [List.map_cons, List.map_cons, odds, odds, List.map_cons, odds_map f r]
/-- slices -/
theorem cut_from1 {α : Type} (xs : List α) : cutL xs (some 1) none = xs.drop 1 := by
  unfold cutL
  rw [show HT.sIx xs.length 0 (some 1) = min 1 xs.length from HT.sIx_nat _ _ 1, show HT.sIx xs.length xs.length none = xs.length from rfl]
  cases xs with
  | nil => rfl
  | cons a r => simp
theorem cut_to1 {α : Type} (xs : List α) : cutL xs none (some 1) = xs.take 1 := by
  unfold cutL
  rw [show HT.sIx xs.length xs.length (some 1) = min 1 xs.length from HT.sIx_nat _ _ 1, show HT.sIx xs.length 0 none = 0 from rfl]
  cases xs with
  | nil => rfl
  | cons a r => simp
end DL

/-! DL16: instances: made, attributes, properties, methods, own operators. -/
namespace DL
open PySem PySem.Spec L2

/-! ### a def called with frozen values -/
def callFz (f : List OT → ER OT) (ds : List D) (sd : SD) : ER OT := match f (ds.map .fz) with
  | .ok t _ => .ok t sd
  | .rz x _ => .rz x sd
  | .bad => .bad
section
variable {K : PySem.W.Frag} {pv : List V} {W : WX} {G F H : Hp} {σ : L2.St} {sd : SD}
theorem meets_call {n : Nat} {f : List OT → ER OT} {vs : List V} {ds : List D} {Q : VK} (s : StR K pv G F sd σ H) (r : Reps K F vs ds) (hn : ds.length = n) : Meets K pv W G σ (RSo K pv) true sd F H (callFz f ds sd) Q (spD K n f vs H Q (WE W σ)) := by
  obtain ⟨G', g1, g2, g3⟩ := s.give (ts := ds.map .fz) (vs := vs) ⟨by rw [map_view_fz]; exact r, all_fz ds⟩
  unfold callFz
  cases e : f (ds.map .fz) with
  | bad => exact True.intro
  | rz x s' =>
    intro hW
    refine ⟨by rw [r.length, hn], G', F, ds.map .fz, by rw [List.length_map, hn], g1, ?_⟩
    rw [e]
    intro cls dd F2 H2 t1 t2 t3
    obtain ⟨u1, u2⟩ := g3 F2 H2 s' t1 t2
    exact hW cls dd F2 H2 t1 u1 t3
  | ok t s' =>
    intro hQ
    refine ⟨by rw [r.length, hn], G', F, ds.map .fz, by rw [List.length_map, hn], g1, ?_⟩
    rw [e]
    intro v F2 H2 t1 t2
    obtain ⟨u1, u2⟩ := g2 F2 H2 v t s' t1 t2
    exact hQ v F2 H2 t1 u1.drop u1 fun _ => ⟨u2, rfl⟩
/-- a tree that no name reaches is handed over as the first parameter -/
theorem StR1.giveX {v : V} {t : OT} {vs : List V} {ds : List D} (s : StR1 K pv G F sd σ H v t) (hr : Reps K F vs ds) :
    ∃ G', StR K (v :: vs) G' F ⟨[], t :: ds.map .fz⟩ [] H ∧ (∀ (F' H' : Hp) (t' : OT) (sd1 : SD), Same F F' → StR K (v :: vs) G' F' sd1 [] H' → sd1.pa[0]? = some t' → StR1 K pv G F' sd σ H' v t') := by
  classical
  obtain ⟨o, P, W, r, k⟩ := s
  let G' : Hp := fun a => if F a = none ∧ ¬ P a then H a else none
  have g0 : ∀ a, F a = none → ¬ P a → G' a = H a := fun a x y => if_pos ⟨x, y⟩
  have gn : ∀ a, G' a = none → F a ≠ none ∨ P a ∨ H a = none := fun a z => by
    by_cases f : F a = none
    · by_cases q : P a
      · exact .inr (.inl q)
      · rw [g0 a f q] at z; exact .inr (.inr z)
    · exact .inl f
  refine ⟨G', ⟨fun x a => x = .inr 0 ∧ P a, W.fh, fun a u e => ?_, fun a ha => ?_, fun x a q => ?_, fun x y a q q' => q.1.trans q'.1.symm, rfl, fun i t e => ?_, fun i j e => ?_, fun j t1 e => ?_⟩, fun F' H' t' sd1 f ⟨o', W'⟩ et => ?_⟩
  · have e : (if F a = none ∧ ¬ P a then H a else none) = some u := e
    split at e
    · exact e
    · cases e
  · exact if_neg fun z => ha z.1
  · obtain ⟨k1, k2, k3, k4⟩ := k a q.2
    exact ⟨k1, k2, if_neg fun z => z.2 q.2⟩
  · have e : ([] : List S)[i]? = some (.ow t) := e
    simp at e
  · have e : ([] : List S)[i]? = some (.pa j) := e
    simp at e
  · have e : (t :: ds.map OT.fz)[j]? = some t1 := e
    cases j with
    | zero =>
      cases e
      exact ⟨v, rfl, r.mono (Same.refl _) fun x hx => ⟨⟨rfl, hx⟩, rfl⟩⟩
    | succ j =>
      have e : (ds.map OT.fz)[j]? = some t1 := e
      rw [List.getElem?_map] at e
      obtain ⟨d, e1, e2⟩ := Option.map_eq_some_iff.mp e
      subst e2
      obtain ⟨w, h1, h2⟩ := hr.get e1
      refine ⟨w, h1, ?_⟩
      unfold RepO
      exact h2
  · have ne : ∀ x a, o x a → G' a = H a ∧ H a ≠ none := fun x a q => by
      obtain ⟨k1, k2, k3⟩ := W.oh x a q
      exact ⟨g0 a k2 fun z => (k a z).2.2.2 x q, k1⟩
    have keep : ∀ x a, o x a → H' a = H a := fun x a q => by
      obtain ⟨k1, k2⟩ := ne x a q
      cases e : H a with
      | none => exact absurd e k2
      | some u => exact W'.gh a u (by rw [k1]; exact e)
    have gG : ∀ a, G' a = none → F' a = none → G a = none := fun a z fa => by
      rcases gn a z with q | q | q
      · exact absurd (f.free fa) q
      · exact (k a q).2.2.1
      · exact W.gh.free q
    obtain ⟨v1, q1, q2⟩ := W'.pr 0 t' et
    cases q1
    have fa : ∀ a u, G a = some u → F a = none := fun a u e => by
      cases e2 : F a with
      | none => rfl
      | some u2 => have := W.fg a (by rw [e2]; simp); rw [e] at this; cases this
    have np : ∀ a u, G a = some u → ¬ P a := fun a u e z => by rw [(k a z).2.2.1] at e; cases e
    refine ⟨o, o' (.inr 0), ⟨W'.fh, fun a u e => W'.gh a u (by rw [g0 a (fa a u e) (np a u e)]; exact W.gh a u e), fun a ha => ?_, fun x a q => ?_, W.oo, W.len, fun i t e => ?_, W.sp, fun j t e => ?_⟩, q2, fun a q => ?_⟩
    · cases e : G a with
      | none => rfl
      | some u =>
        have := W'.fg a ha
        rw [g0 a (fa a u e) (np a u e), W.gh a u e] at this
        cases this
    · obtain ⟨k1, k2⟩ := ne x a q
      refine ⟨by rw [keep x a q]; exact k2, ?_, (W.oh x a q).2.2⟩
      cases e : F' a with
      | none => rfl
      | some u =>
        have := W'.fg a (by rw [e]; simp)
        rw [k1] at this
        exact absurd this k2
    · obtain ⟨w, h1, h2⟩ := W.sl i t e
      exact ⟨w, h1, h2.mono f fun x hx => ⟨hx, keep _ x hx⟩⟩
    · obtain ⟨w, h1, h2⟩ := W.pr j t e
      exact ⟨w, h1, h2.mono f fun x hx => ⟨hx, keep _ x hx⟩⟩
    · obtain ⟨k1, k2, k3⟩ := W'.oh _ a q
      exact ⟨k1, k2, gG a k3 k2, fun x q' => by
        obtain ⟨m1, m2⟩ := ne x a q'
        rw [m1] at k3
        exact m2 k3⟩
/-- a new instance without attributes -/
theorem StR.newI {x dx C : Addr} (s : StR K pv G F sd σ H) (hx : H x = none) (hdx : H dx = none) (hne : dx ≠ x) : StR1 K pv G F sd σ (upd (upd H dx (.own x)) x (.ins C dx [])) (.ref x) (.oi C [] []) := by
  obtain ⟨o, W⟩ := s
  have n := W.fresh hx
  have nd := W.fresh hdx
  have sm : Same H (upd (upd H dx (.own x)) x (.ins C dx [])) := fun a u e => by
    rw [upd_ne (ne_of_none e hx), upd_ne (ne_of_none e hdx)]; exact e
  refine ⟨o, fun a => a = x, W.grow sm (Same.refl _) (W.fh.trans sm) fun a ha => .inl ha, ?_, fun a ha => ?_⟩
  · unfold RepO
    refine ⟨x, dx, [], rfl, rfl, upd_same, rfl, ?_⟩
    unfold RepOs
    rfl
  · subst ha
    exact ⟨by rw [upd_same]; simp, n.1, n.2.1, n.2.2⟩
end

theorem Meets.bindW {α β γ δ : Type} {K : PySem.W.Frag} {pv : List V} {W : WX} {G F H : Hp} {σ : L2.St} {sd : SD} {p : Bool} {RS : RSt β α} {RS' : RSt δ γ} {r : ER α} {f : α → SD → ER γ} {Q : δ → Hp → Prop} {k : β → Hp → Prop} {P : Prop} (h : Meets K pv W G σ RS p sd F H r k P)
    (g : ∀ v F1 H1 a sd1, r = .ok a sd1 → Same F F1 → StR K pv G F1 sd1 σ H1 → RS G F1 sd1 H1 σ v a → Meets K pv W G σ RS' false sd1 F1 H1 (f a sd1) Q (k v H1)) :
    Meets K pv W G σ RS' false sd F H (r.bind f) Q P := by
  cases r with
  | bad => exact True.intro
  | rz x sd' => exact h
  | ok a sd1 =>
    show Meets K pv W G σ RS' false sd F H (f a sd1) Q P
    have h' : (∀ v F' H', Same F F' → StR K pv G F' sd1 σ H' → RS G F' sd1 H' σ v a → (p = true → Same H H' ∧ sd1 = sd) → k v H') → P := h
    have g' := fun v F1 H1 s1 s2 s3 => g v F1 H1 a sd1 rfl s1 s2 s3
    revert g'
    cases f a sd1 with
    | bad => exact fun _ => True.intro
    | rz x sd2 => exact fun g' hW => h' fun v F1 H1 s1 s2 s3 s4 => g' v F1 H1 s1 s2 s3 fun cls dd F2 H2 t1 t2 t3 => hW cls dd F2 H2 (s1.trans t1) t2 t3
    | ok c sd2 => exact fun g' hQ => h' fun v F1 H1 s1 s2 s3 s4 => g' v F1 H1 s1 s2 s3 fun w F2 H2 t1 t2 t3 t4 => hQ w F2 H2 (s1.trans t1) t2 t3 fun z => by cases z

/-! ### C(..) -/
def mMake (C : Addr) (f : List OT → ER OT) (a : SD → ER (List D)) : SD → ER OT := fun sd => (a sd).bind fun ds sd1 => match f (.oi C [] [] :: ds.map .fz) with
  | .ok (.fz .non) sd' => match sd'.pa[0]? with
    | some t => .ok t sd1
    | none => .bad
  | .rz x sd' => match sd'.pa[0]? with
    | some _ => .rz x sd1
    | none => .bad
  | _ => .bad
section
variable {X : Cx} {pv : List V} {W : WX} {p q k l : Bool} {e a b : Expr} {es : List Expr} {pos : Pos}
theorem run_makeS {C f : Addr} {fd : FuncData} {ps : List Str} {sp : Sp} {E : L2.St → XK} {k : Nat} {pins : List (Addr × Obj)} {σ : L2.St} {H : Hp} {s : Shared} {Q : VK} {us : List Value} {vs : List V} (M : Mk X.K C f) (F : FnG X.prog X.w X.K X.mg X.base (L2.CX X.prog X.w) k f fd ps sp) (hr : RoomG (k + 1) X.A) (hb : Binds X.K fd ps [])
    (hx : PassesAt (L2.CX X.prog X.w) X σ (E σ)) (I : Inv X pins σ H s) (r : Vals vs us)
    (h : ∀ x dx, H x = none → H dx = none → dx ≠ x → sp (.ref x :: vs) (upd (upd H dx (.own x)) x (.ins C dx [])) (fun v H2 => v = .non ∧ Q (.ref x) H2) (E σ)) :
    wpAny (model X.prog X.w) X.A (call (.ref C) us) (EP X pins σ Q) X.xe s := by
  have hq := h (s.heap.objs.size + 1) s.heap.objs.size (I.hok.fresh (Nat.le_succ _)) (I.hok.fresh (Nat.le_refl _)) (Nat.ne_of_lt (Nat.lt_succ_self _))
  have I2 := Inv.made (C := C) I
  have r2 : Vals (V.ref (s.heap.objs.size + 1) :: vs) (Value.ref (s.heap.objs.size + 1) :: us) := .cons rfl r
  have hl : (Value.ref (s.heap.objs.size + 1) :: us).length = ps.length := by
    have e := r2.length
    rw [F.len _ _ _ _ hq] at e
    exact e.symm
  have hb1 := hb _ (Value.ref (s.heap.objs.size + 1) :: us) I2.kIn (by rw [List.append_nil]; exact hl)
  rw [List.append_nil] at hb1
  refine wpAny_call (make_map (f := f) I.kIn M.makes M.init (beq_iff_eq.mp M.fn) (codeAny_mono (F.run _ X.stack _ _ ⟨Value.ref (s.heap.objs.size + 1) :: us, []⟩ (Value.ref (s.heap.objs.size + 1) :: us) _ _ (E σ) (hr.make C us [])
    (I2.env0.make C us []) hb1 r2 hq) fun r s' hq' => ?_))
  cases r with
  | error e => exact hx pins _ _ e s' I2 hq'
  | ok fl =>
    cases fl with
    | ret u =>
      obtain ⟨v, H', I3, rv, ev, q3⟩ := I2.after hq'
      subst ev
      exact ⟨rv, ⟨V.ref (s.heap.objs.size + 1), H', I3, rfl, q3⟩⟩
    | next => exact False.elim hq'
    | brk => exact False.elim hq'
    | cont => exact False.elim hq'
theorem do_make {C f : Addr} {fd : FuncData} {ps : List Str} {x : Str} {pp : Pos} {n j : Nat} {g : List OT → ER OT} {m : SD → ER (List D)} (M : Mk X.K C f) (F : FnG X.prog X.w X.K X.mg X.base (L2.CX X.prog X.w) j f fd ps (spD X.K (n + 1) g)) (hr : RoomG (j + 1) X.A) (hg : Gl X x)
    (hm : X.mg x = some (.ref C)) (hb : Binds X.K fd ps []) (tk : Takes X W) (ha : DA X pv W p true (e :: es) m) (hn : ∀ sd ds sd1, m sd = .ok ds sd1 → ds.length = n)
    (hdb : (x == ("__debug__" : Str)) = false := by decide) (he : starEach (e :: es) X.env = (false, eval e X.env) :: starEach es X.env := by rfl) (hpl : (backTo pos (starEach es X.env)).any (·.1) = false := by rfl) :
    DO X pv W false (.Call (.Name x pp) (e :: es) [] pos) (mMake C g m) := by
  obtain ⟨ta, a1, a2⟩ := ha
  refine ⟨fun σ H Q => ta σ H fun vs H1 => ∀ x dx, H1 x = none → H1 dx = none → dx ≠ x → spD X.K (n + 1) g (.ref x :: vs) (upd (upd H1 dx (.own x)) x (.ins C dx [])) (fun v H2 => v = .non ∧ Q (.ref x) H2) (WE W σ), ⟨fun pins s σ H Q I h => ?_⟩, fun G Fz sd σ H Q s => ?_⟩
  · refine wpAny_Call_Name_kw (ld_glob I hg hm ?_ hdb)
    refine PySem.W.callWith_K (h₀ := X.base) I.ok.mod.kin M.kp (thn (a1.run pos pins s σ H _ I h) fun us s1 ⟨vs, H1, I1, r, q⟩ => ⟨I1.kIn, ?_⟩) he hpl
    exact run_makeS (E := WE W) M F hr hb (passAt tk σ) I1 r q
  · refine Meets.bindW (a2 G Fz sd σ H _ s) fun vs F1 H1 ds sd1 hmm s1 s2 s3 => ?_
    have s3 : Reps X.K F1 vs ds := s3
    have hnn := hn sd ds sd1 hmm
    have key : ∀ x dx, H1 x = none → H1 dx = none → dx ≠ x → ∃ G', StR X.K (V.ref x :: vs) G' F1 ⟨[], .oi C [] [] :: ds.map .fz⟩ [] (upd (upd H1 dx (.own x)) x (.ins C dx [])) ∧
        (∀ (F' H' : Hp) (t' : OT) (sdx : SD), Same F1 F' → StR X.K (V.ref x :: vs) G' F' sdx [] H' → sdx.pa[0]? = some t' → StR1 X.K pv G F' sd1 σ H' (.ref x) t') := fun x dx h1 h2 h3 => (s2.newI (C := C) h1 h2 h3).giveX s3
    have len1 : ∀ (x : Addr), (V.ref x :: vs).length = n + 1 := fun x => by rw [List.length_cons, s3.length, hnn]
    have len2 : (OT.oi C [] [] :: ds.map OT.fz).length = n + 1 := by rw [List.length_cons, List.length_map, hnn]
    split
    · rename_i sd' e1
      split
      · rename_i t et
        intro hQ x dx h1 h2 h3
        obtain ⟨G', g1, g2⟩ := key x dx h1 h2 h3
        refine ⟨len1 x, G', F1, _, len2, g1, ?_⟩
        rw [e1]
        intro v F' H' t1 t2
        refine ⟨?_, hQ (.ref x) F' H' t1 (g2 F' H' t sd' t1 t2.drop et).drop (g2 F' H' t sd' t1 t2.drop et) fun z => by cases z⟩
        obtain ⟨o, P, w, r, _⟩ := t2
        unfold RepO at r
        cases r
        rfl
      · exact True.intro
    · rename_i x1 sd' e1
      split
      · rename_i t et
        intro hW x dx h1 h2 h3
        obtain ⟨G', g1, g2⟩ := key x dx h1 h2 h3
        refine ⟨len1 x, G', F1, _, len2, g1, ?_⟩
        rw [e1]
        exact fun cls dd F' H' t1 t2 t3 => hW cls dd F' H' t1 (g2 F' H' t sd' t1 t2 et).drop t3
      · exact True.intro
    · exact True.intro
end
/-! ### defs called where nothing may be raised -/
theorem cx_none {P : Program} {w : World} {outer : List Env} {H : Hp} {s s' : Shared} {e : Value} (z : L2.CX P w outer H s (fun _ _ _ => False) e s') : False := by
  obtain ⟨_, _, _, _, _, _, _, _, _, _, _, _, q⟩ := z
  exact q
section
variable {X : Cx} {f : Addr} {fd : FuncData} {ps : List Str} {sp : Sp} {j : Nat} {pins : List (Addr × Obj)} {σ : L2.St} {H : Hp} {s : Shared} {Q : VK} {E : Value → Shared → Prop} {us : List Value} {vs : List V}
theorem code_at {A : Around} (F : FnG X.prog X.w X.K X.mg X.base (L2.CX X.prog X.w) j f fd ps sp) (hr : RoomG j A) (he : Env0 X.prog X.w X.K X.mg X.base A X.stack s H) (hb : Binds X.K fd ps []) (I : Inv X pins σ H s) (r : Vals vs us) (h : sp vs H Q fun _ _ _ => False) :
    codeAny (model X.prog X.w) A (.call (.ref f) ⟨us, []⟩) (wants (EP X pins σ Q) E) s := by
  have hl : (us ++ []).length = ps.length := by rw [List.append_nil, ← r.length, F.len _ _ _ _ h]
  have b := hb s us I.kIn hl
  rw [List.append_nil] at b
  refine codeAny_mono (F.run A X.stack s H ⟨us, []⟩ us vs Q _ hr he b r h) fun res s2 hq => ?_
  cases res with
  | error e => exact (cx_none hq).elim
  | ok fl =>
    cases fl with
    | ret u => exact I.after hq
    | next => exact hq.elim
    | brk => exact hq.elim
    | cont => exact hq.elim
theorem run_0 (F : FnG X.prog X.w X.K X.mg X.base (L2.CX X.prog X.w) j f fd ps sp) (hr : RoomG j X.A) (hb : Binds X.K fd ps []) (I : Inv X pins σ H s) (r : Vals vs us) (h : sp vs H Q fun _ _ _ => False) : wpAny (model X.prog X.w) X.A (call (.ref f) us) (EP X pins σ Q) E s := wpAny_call (code_at F hr I.env0 hb I r h)
theorem run_1 (F : FnG X.prog X.w X.K X.mg X.base (L2.CX X.prog X.w) j f fd ps sp) (hr : RoomG (j + 1) X.A) (hb : Binds X.K fd ps []) (I : Inv X pins σ H s) (r : Vals vs us) (h : sp vs H Q fun _ _ _ => False) : wpAny (model X.prog X.w) X.A.in1 (call (.ref f) us) (EP X pins σ Q) E s := wpAny_call (code_at F hr.in1 I.env0.in1 hb I r h)
end
end DL

/-! DL17: attributes, properties, methods. -/
namespace DL
open PySem PySem.Spec L2

/-! ### attributes -/
def fldD {α : Type} (f : Str) : List Str → List α → Option α
  | n :: ns, v :: vs => if n = f then some v else fldD f ns vs
  | _, _ => none
theorem lookup_head {α : Type} {f g : Str} {v : α} {r : List (Str × α)} : List.lookup f ((g, v) :: r) = if g = f then some v else List.lookup f r := by
  by_cases h : g = f
  · subst h
    rw [if_pos rfl]
    simp [List.lookup]
  · rw [if_neg h]
    have : (f == g) = false := by simpa using fun z : f = g => h z.symm
    simp [List.lookup, this]
theorem fldD_rep {K : PySem.W.Frag} {F : Hp} {f : Str} {d : D} : ∀ {fs : List (Str × V)} {vs : List D}, Reps K F (fs.map (·.2)) vs → fldD f (fs.map (·.1)) vs = some d → ∃ v, fs.lookup f = some v ∧ Rep K F v d
  | [], vs, r, h => by
    cases r
    cases h
  | (n, v) :: fs, vs, r, h => by
    cases r with
    | cons r1 r2 =>
      rw [List.map_cons, fldD] at h
      rw [lookup_head]
      by_cases e : n = f
      · rw [if_pos e] at h ⊢
        cases h
        exact ⟨v, rfl, r1⟩
      · rw [if_neg e] at h ⊢
        exact fldD_rep r2 h
theorem fldD_none {α : Type} {f : Str} : ∀ {fs : List (Str × α)}, f ∉ fs.map (·.1) → fs.lookup f = none
  | [], _ => rfl
  | (n, v) :: fs, h => by
    rw [lookup_head, if_neg fun z => h (by rw [z]; exact List.mem_cons_self)]
    exact fldD_none fun z => h (List.mem_cons_of_mem _ z)
def mFld (ok : Addr → Bool) (f : Str) (a : SD → ER D) : SD → ER D := fun sd => (a sd).bind fun x sd1 => match x with
  | .ins C ns vs => if ok C = true then ER.opt (fldD f ns vs) sd1 else .bad
  | _ => .bad
/-- the place of a name -/
def idxN (f : Str) : List Str → Option Nat
  | [] => none
  | n :: ns => if n = f then some 0 else (idxN f ns).map (· + 1)
def putO (C : Addr) (f : Str) (t : OT) (ns : List Str) (ts : List OT) : OT := match idxN f ns with
  | some k => .oi C ns (ts.set k t)
  | none => .oi C (ns ++ [f]) (ts ++ [t])
theorem putF_some {f : Str} {y : V} : ∀ {fs : List (Str × V)} {k : Nat}, idxN f (fs.map (·.1)) = some k → (putF f y fs).map (·.1) = fs.map (·.1) ∧ (putF f y fs).map (·.2) = (fs.map (·.2)).set k y
  | [], k, h => by cases h
  | (n, v) :: fs, k, h => by
    rw [List.map_cons, idxN] at h
    unfold putF
    by_cases e : n = f
    · rw [if_pos e] at h ⊢
      cases h
      subst e
      exact ⟨rfl, rfl⟩
    · rw [if_neg e] at h ⊢
      obtain ⟨j, e1, e2⟩ := Option.map_eq_some_iff.mp h
      subst e2
      obtain ⟨h1, h2⟩ := putF_some (y := y) e1
      exact ⟨by rw [List.map_cons, h1]; rfl, by rw [List.map_cons, h2]; rfl⟩
theorem putF_none {f : Str} {y : V} : ∀ {fs : List (Str × V)}, idxN f (fs.map (·.1)) = none → (putF f y fs).map (·.1) = fs.map (·.1) ++ [f] ∧ (putF f y fs).map (·.2) = fs.map (·.2) ++ [y]
  | [], h => ⟨rfl, rfl⟩
  | (n, v) :: fs, h => by
    rw [List.map_cons, idxN] at h
    unfold putF
    by_cases e : n = f
    · rw [if_pos e] at h; cases h
    · rw [if_neg e] at h ⊢
      have e1 : idxN f (fs.map (·.1)) = none := by
        cases e2 : idxN f (fs.map (·.1)) with
        | none => rfl
        | some j => rw [e2] at h; cases h
      obtain ⟨h1, h2⟩ := putF_none (y := y) e1
      exact ⟨by rw [List.map_cons, h1]; rfl, by rw [List.map_cons, h2]; rfl⟩
section
variable {K : PySem.W.Frag} {pv : List V} {G F H : Hp} {sd : SD} {σ : L2.St}
theorem StR1.fset {i : Nat} {C : Addr} {ns : List Str} {ts : List OT} {t2 : OT} {v2 : V} (s : StR1 K pv G F sd σ H v2 t2) (h : sd.tree i = some (.oi C ns ts)) : ∃ (a dx : Addr) (fs : List (Str × V)), σ[i]? = some (some (.ref a)) ∧ H a = some (.ins C dx fs) ∧ fs.map (·.1) = ns ∧ fs.length = ns.length ∧
    ∀ f, StR K pv G F (sd.put i (putO C f t2 ns ts)) σ (upd H a (.ins C dx (putF f v2 fs))) := by
  obtain ⟨v, P, P2, h1, h2, r2, d, hn, hn2, go⟩ := s.mut h
  unfold RepO at h2
  obtain ⟨a, dx, fs, rfl, pa, ha, hns, r⟩ := h2
  have main : ∀ (gs : List (Str × V)) (ns' : List Str) (ts' : List OT), gs.map (·.1) = ns' → RepOs K F H ts' (gs.map (·.2)) (fun x => (P x ∧ x ≠ a) ∨ P2 x) → StR K pv G F (sd.put i (.oi C ns' ts')) σ (upd H a (.ins C dx gs)) := fun gs ns' ts' hg rr => by
    refine go _ _ (fun x hx u e => by rw [upd_ne (fun z => hx (by rw [z]; exact pa))]; exact e) (fun x hx => ?_) ?_
    · by_cases z : x = a
      · rw [z, upd_same]; simp
      · rw [upd_ne z]; exact hn x hx
    · unfold RepO
      refine ⟨a, dx, gs, rfl, .inl pa, upd_same, hg.symm, rr.mono (Same.refl _) fun x hx => ?_⟩
      have ne : x ≠ a := by
        rcases hx with hx | hx
        · exact hx.2
        · exact fun z => d a pa (by rw [← z]; exact hx)
      exact ⟨⟨hx.imp And.left id, ne⟩, upd_ne ne⟩
  refine ⟨a, dx, fs, h1, ha, hns.symm, by rw [hns, List.length_map], fun f => ?_⟩
  unfold putO
  subst hns
  cases e : idxN f (fs.map (·.1)) with
  | some k =>
    obtain ⟨q1, q2⟩ := putF_some (y := v2) e
    exact main _ _ _ q1 (by rw [q2]; exact repOs_set k r r2 fun x q => d x q.1)
  | none =>
    obtain ⟨q1, q2⟩ := putF_none (y := v2) e
    exact main _ _ _ q1 (by rw [q2]; exact repOs_app r r2 fun x q => d x q.1)
end
def sFldSet (ok : Addr → Bool) (i : Nat) (f : Str) (m : SD → ER OT) : SD → Fl := fun sd => (m sd).stm fun t sd1 => match sd1.tree i with
  | some (.oi C ns ts) => if ok C = true ∧ ns.length < 1000 then .nx (sd1.put i (putO C f t ns ts)) else .bad
  | _ => .bad
section
variable {X : Cx} {pv : List V} {W : WX} {p q k l : Bool} {e a b : Expr} {es : List Expr} {pos : Pos}
theorem dx_fld {ok : Addr → Bool} {f : Str} {m : SD → ER D} (h : DX X pv W p k e m) (hf : ∀ C, ok C = true → Cls X.K C ∧ NoAttr X.K C f) (hb : attributeBase e f X.env (eval e X.env) = eval e X.env := by rfl) : DX X pv W p k (.Attribute e f pos) (mFld ok f m) := by
  obtain ⟨te, a1, a2⟩ := h
  refine ⟨_, pe_fld a1 hb, fun G F sd σ H Q s => ?_⟩
  refine Meets.bindL (a2 G F sd σ H _ s) fun x F1 H1 dx sd1 s1 s2 s3 s4 => ?_
  split
  · rename_i C ns vs
    split
    · rename_i hok
      obtain ⟨c1, c2⟩ := hf C hok
      cases e1 : fldD f ns vs with
      | none => exact True.intro
      | some d =>
        have main : ∀ Fz : Hp, Same Fz H1 → Rep X.K Fz x (.ins C ns vs) → ∃ a dx fs v, x = .ref a ∧ H1 a = some (.ins C dx fs) ∧ fs.lookup f = some v ∧ Rep X.K Fz v d := fun Fz hs r => by
          cases r with
          | @ins a C dx fs _ ha rr =>
            obtain ⟨v, k1, k2⟩ := fldD_rep rr e1
            exact ⟨a, dx, fs, v, rfl, hs _ _ ha, k1, k2⟩
        cases k with
        | true =>
          obtain ⟨a, dx, fs, v, k1, k2, k3, k4⟩ := main F1 s2.fh s3
          exact Meets.here s2 (show RSx X.K true G F1 sd1 H1 σ v d from k4) fun q => ⟨a, C, dx, fs, v, k1, k2, c1, c2, k3, q⟩
        | false =>
          obtain ⟨a, dx, fs, v, k1, k2, k3, k4⟩ := main H1 (Same.refl _) s3
          exact Meets.here s2 (show RSx X.K false G F1 sd1 H1 σ v d from k4) fun q => ⟨a, C, dx, fs, v, k1, k2, c1, c2, k3, q⟩
    · exact True.intro
  · exact True.intro
theorem ds_fld {ok : Addr → Bool} {f : Str} {i : Nat} {x : Str} {pp ap : Pos} {m : SD → ER OT} (hx : PE X (.Name x pp) (tVar i)) (he : DO X pv W p e m) (hf : ∀ C, ok C = true → Cls X.K C ∧ NoAttr X.K C f)
    (hs : swapsWith e (some (.Attribute (.Name x pp) f ap)) pos.line X.env = pure false := by rfl) : DS X pv W (.Assign [.Attribute (.Name x pp) f ap] e pos) (sFldSet ok i f m) := by
  obtain ⟨te, a1, a2⟩ := he
  refine ⟨_, ps_fld hx a1 hs, fun G F sd σ H D s => ?_⟩
  refine Meets.stm (a2 G F sd σ H _ s) fun v F1 H1 t sd1 s1 s2 s3 => ?_
  split
  · rename_i C ns ts e1
    split
    · rename_i hok
      obtain ⟨c1, c2⟩ := hf C hok.1
      obtain ⟨a, dx, fs, k1, k2, k3, k4, k5⟩ := s3.fset e1
      intro hQ
      exact ⟨_, k1, a, C, dx, fs, rfl, k2, c1, c2, by rw [k4]; exact hok.2, hQ F1 σ _ (Same.refl _) (k5 f)⟩
    · exact True.intro
  · exact True.intro

/-! ### properties -/
def callFzQ (f : List OT → ER OT) (ds : List D) (sd : SD) : ER OT := match f (ds.map .fz) with
  | .ok t _ => .ok t sd
  | _ => .bad
theorem meets_callQ {K : PySem.W.Frag} {G F H : Hp} {σ : L2.St} {sd : SD} {n : Nat} {f : List OT → ER OT} {vs : List V} {ds : List D} {Q : VK} (s : StR K pv G F sd σ H) (r : Reps K F vs ds) (hn : ds.length = n) : Meets K pv W G σ (RSo K pv) true sd F H (callFzQ f ds sd) Q (spD K n f vs H Q fun _ _ _ => False) := by
  have z := meets_call (W := fun _ _ _ _ => False) (f := f) (Q := Q) s r hn
  unfold callFz at z
  unfold callFzQ
  revert z
  cases f (ds.map .fz) with
  | bad => exact fun _ => True.intro
  | rz x s' => exact fun _ => True.intro
  | ok t s' => exact id
def mProp (C0 : Addr) (g : List OT → ER OT) (a : SD → ER D) : SD → ER OT := fun sd => (a sd).bind fun x sd1 => match x with
  | .ins C ns vs => if C = C0 then callFzQ g [.ins C ns vs] sd1 else .bad
  | _ => .bad
theorem pe_propG {C pa g : Addr} {f : Str} {fd : FuncData} {ps : List Str} {sp : Sp} {j : Nat} {te : TE} (he : PE X e te) (c : Cls X.K C) (hp : PropOf X.K C f pa g) (F : FnG X.prog X.w X.K X.mg X.base (L2.CX X.prog X.w) j g fd ps sp) (hr : RoomG (j + 1) X.A) (hb : Binds X.K fd ps [])
    (hbase : attributeBase e f X.env (eval e X.env) = eval e X.env) : PE X (.Attribute e f pos) (fun σ H Q => te σ H fun x H1 => ∃ a dx fs, x = .ref a ∧ H1 a = some (.ins C dx fs) ∧ sp [.ref a] H1 Q fun _ _ _ => False) := by
  refine ⟨fun pins s σ H Q I h => attr_of hbase (thn (he.run pins s σ H _ I h) fun u s1 ⟨x, H1, I1, rx, a, dx, fs, ex, ea, q⟩ => ?_)⟩
  subst ex
  cases (show u = Value.ref a from rx)
  obtain ⟨mA, O, _⟩ := ins_get I1.hok ea
  obtain ⟨od, J, _⟩ := O.look
  obtain ⟨rest, hrec⟩ := hp.rec_
  have isC : (PySem.W.clsIn X.K C).isSome = true := by
    obtain ⟨cd, hcd, _⟩ := PySem.W.any_some c.hd
    rw [hcd]; rfl
  have I2 := I1.tok (s1.toks + 1)
  refine PySem.W.get_bind I1.kIn J (PySem.W.plainGet_of (c.get f)).1 (PySem.W.findObj_data isC hp.at_ hp.get hp.tak) (PySem.W.plainGet_of (c.get f)).2 (wpAny_call (PySem.W.prop_get (s := { s1 with toks := s1.toks + 1 }) I1.kIn hrec ?_))
  refine codeAny_mono (code_at (E := fun _ _ => False) (us := [.ref a]) (vs := [.ref a]) F hr.in1 I2.env0.in1 hb I2 (.cons rfl .nil) q) fun r s2 z => ?_
  cases r with
  | error er => exact False.elim z
  | ok fl =>
    cases fl with
    | ret u =>
      obtain ⟨v, H2, I3, rv, q3⟩ := z
      show wpAny _ _ (handedOut u) _ _ _
      rw [PySem.W.handedOut_of (handed_of rv)]
      exact wpAny_pure ⟨v, H2, I3, rv, q3⟩
    | next => exact z
    | brk => exact z
    | cont => exact z
theorem passN {P : Program} {w : World} {Y : Cx} : Passes (L2.CX P w) Y fun _ _ _ => False := fun pins σ H s u s' _ z => by
  obtain ⟨_, _, _, _, _, _, _, _, _, _, _, _, q⟩ := z
  exact q.elim
theorem do_prop {C pa g : Addr} {f : Str} {fd : FuncData} {ps : List Str} {j : Nat} {gm : List OT → ER OT} {m : SD → ER D} (h : DX X pv W p true e m) (c : Cls X.K C) (hp : PropOf X.K C f pa g) (F : FnG X.prog X.w X.K X.mg X.base (L2.CX X.prog X.w) j g fd ps (spD X.K 1 gm)) (hr : RoomG (j + 1) X.A) (hb : Binds X.K fd ps [])
    (hbase : attributeBase e f X.env (eval e X.env) = eval e X.env := by rfl) : DO X pv W p (.Attribute e f pos) (mProp C gm m) := by
  obtain ⟨te, a1, a2⟩ := h
  refine ⟨_, pe_propG a1 c hp F hr hb hbase, fun G Fz sd σ H Q s => ?_⟩
  refine Meets.bindL (a2 G Fz sd σ H _ s) fun x F1 H1 dx sd1 s1 s2 s3 s4 => ?_
  have s3 : Rep X.K F1 x dx := s3
  split
  · rename_i C' ns vs
    split
    · rename_i hC
      subst hC
      refine Meets.to (meets_callQ s2 (.one s3) rfl) fun z => ?_
      cases s3 with
      | @ins a _ dx fs _ ha rr => exact ⟨a, dx, fs, rfl, s2.fh _ _ ha, z⟩
    · exact True.intro
  · exact True.intro

/-! ### methods -/
def mMeth (C0 : Addr) (f : Str) (g : List OT → ER OT) (o : SD → ER D) (a : SD → ER (List D)) : SD → ER OT := fun sd => (o sd).bind fun x sd1 => match x with
  | .ins C ns vs => if C = C0 ∧ f ∉ ns then (a sd1).bind fun ds sd2 => callFz g (.ins C ns vs :: ds) sd2 else .bad
  | _ => .bad
theorem pe_methX {j : Nat} {C g : Addr} {f : Str} {fd : FuncData} {ps : List Str} {sp : Sp} {apos : Pos} {o : Expr} {to : TE} {t : TA} {pl : Sem Bool} (ho : PE X o to) (c : Cls X.K C) (hm : Meth X.K C f g) (F : FnG X.prog X.w X.K X.mg X.base (L2.CX X.prog X.w) j g fd ps sp) (hr : RoomG j X.A) (hb : Binds X.K fd ps []) (tk : Takes X W) (ha : PA X (e :: es) t)
    (hst : starEach (e :: es) X.env = (false, eval e X.env) :: starEach es X.env := by rfl) (hpl : (backTo pos (starEach es X.env)).any (·.1) = false := by rfl)
    (ht : eval (.Call (.Attribute o f apos) (e :: es) [] pos) X.env = (do
      let ov ← eval o X.env
      standAt apos.atName
      let (fn, first) ← holding [ov] (getMethod ov f pl)
      callWith pos fn first (backTo pos (starEach (e :: es) X.env)) (backToKw pos (keywordEach [] X.env))) := by rfl) :
    PE X (.Call (.Attribute o f apos) (e :: es) [] pos) (fun σ H Q => to σ H fun x H1 => ∃ a dx fs, x = .ref a ∧ H1 a = some (.ins C dx fs) ∧ fs.lookup f = none ∧ t σ H1 fun vs H2 => sp (x :: vs) H2 Q (WE W σ)) := by
  refine ⟨fun pins s σ H Q I h => ?_⟩
  refine PySem.W.methodCall_KW (pl := pl) (thn (ho.run pins s σ H _ I h) fun u s1 ⟨x, H1, I1, rx, a, dx, fs, ex, ea, l, q⟩ => ?_) ht
  subst ex
  obtain rfl : u = Value.ref a := rx
  refine getmeth_ok I1 ea c hm l ?_
  refine PySem.W.callWith_K (first := [.ref a]) (h₀ := X.base) I.ok.mod.kin hm.kp (thn (ha.run pos pins s1 σ H1 _ I1 q) fun us s2 ⟨vs, H2, I2, r, q2⟩ => ⟨I2.kIn, ?_⟩) hst hpl
  exact run_G (us := .ref a :: us) (vs := .ref a :: vs) F hr hb (passAt tk σ) I2 (.cons rfl r) q2
theorem pe_methX0 {j : Nat} {C g : Addr} {f : Str} {fd : FuncData} {ps : List Str} {sp : Sp} {apos : Pos} {o : Expr} {to : TE} {pl : Sem Bool} (ho : PE X o to) (c : Cls X.K C) (hm : Meth X.K C f g) (F : FnG X.prog X.w X.K X.mg X.base (L2.CX X.prog X.w) j g fd ps sp) (hr : RoomG j X.A) (hb : Binds X.K fd ps []) (tk : Takes X W)
    (ht : eval (.Call (.Attribute o f apos) [] [] pos) X.env = (do
      let ov ← eval o X.env
      standAt apos.atName
      let (fn, first) ← holding [ov] (getMethod ov f pl)
      callWith pos fn first (backTo pos (starEach [] X.env)) (backToKw pos (keywordEach [] X.env))) := by rfl) :
    PE X (.Call (.Attribute o f apos) [] [] pos) (fun σ H Q => to σ H fun x H1 => ∃ a dx fs, x = .ref a ∧ H1 a = some (.ins C dx fs) ∧ fs.lookup f = none ∧ tNil σ H1 fun vs H2 => sp (x :: vs) H2 Q (WE W σ)) := by
  refine ⟨fun pins s σ H Q I h => ?_⟩
  refine PySem.W.methodCall_KW (pl := pl) (thn (ho.run pins s σ H _ I h) fun u s1 ⟨x, H1, I1, rx, a, dx, fs, ex, ea, l, q⟩ => ?_) ht
  subst ex
  obtain rfl : u = Value.ref a := rx
  refine getmeth_ok I1 ea c hm l ?_
  exact PySem.W.callWith_K0 (first := [.ref a]) I1.kIn hm.kp (run_G (us := [.ref a]) (vs := [.ref a]) F hr hb (passAt tk σ) I1 (.cons rfl .nil) q)
theorem tr_meth {j n : Nat} {C : Addr} {f : Str} {gm : List OT → ER OT} {to : TE} {ta : TA} {mo : SD → ER D} {ma : SD → ER (List D)} (ho : TrX X.K pv W p true to mo) (ha : TrA X.K pv W q true ta ma) (hn : ∀ sd ds sd1, ma sd = .ok ds sd1 → ds.length = n) :
    TrO X.K pv W false (fun σ H Q => to σ H fun x H1 => ∃ a dx fs, x = .ref a ∧ H1 a = some (.ins C dx fs) ∧ fs.lookup f = none ∧ ta σ H1 fun vs H2 => spD X.K (n + 1) gm (x :: vs) H2 Q (WE W σ)) (mMeth C f gm mo ma) := by
  intro G F sd σ H Q s
  refine Meets.bindW (ho G F sd σ H _ s) fun x F1 H1 dx sd1 _ s1 s2 s3 => ?_
  have s3 : Rep X.K F1 x dx := s3
  split
  · rename_i C' ns vs
    split
    · rename_i hC
      obtain ⟨hC, hf⟩ := hC
      subst hC
      refine Meets.to (P := ta σ H1 fun us H2 => spD X.K (n + 1) gm (x :: us) H2 Q (WE W σ)) (Meets.bindW (ha G F1 sd1 σ H1 _ s2) fun us F2 H2 ds sd2 hm t1 t2 t3 => ?_) fun z => ?_
      · have t3 : Reps X.K F2 us ds := t3
        exact Meets.weak (meets_call t2 (.cons (s3.mono t1) t3) (by rw [List.length_cons, hn _ _ _ hm]))
      · cases s3 with
        | @ins a _ dx fs _ hh rr => exact ⟨a, dx, fs, rfl, s2.fh _ _ hh, fldD_none hf, z⟩
    · exact True.intro
  · exact True.intro
theorem do_meth {n j : Nat} {C g : Addr} {f : Str} {fd : FuncData} {ps : List Str} {apos : Pos} {o : Expr} {gm : List OT → ER OT} {pl : Sem Bool} {mo : SD → ER D} {ma : SD → ER (List D)} (ho : DX X pv W p true o mo) (c : Cls X.K C) (hm : Meth X.K C f g) (F : FnG X.prog X.w X.K X.mg X.base (L2.CX X.prog X.w) j g fd ps (spD X.K (n + 1) gm)) (hr : RoomG j X.A) (hb : Binds X.K fd ps []) (tk : Takes X W)
    (ha : DA X pv W q true (e :: es) ma) (hn : ∀ sd ds sd1, ma sd = .ok ds sd1 → ds.length = n)
    (hst : starEach (e :: es) X.env = (false, eval e X.env) :: starEach es X.env := by rfl) (hpl : (backTo pos (starEach es X.env)).any (·.1) = false := by rfl)
    (ht : eval (.Call (.Attribute o f apos) (e :: es) [] pos) X.env = (do
      let ov ← eval o X.env
      standAt apos.atName
      let (fn, first) ← holding [ov] (getMethod ov f pl)
      callWith pos fn first (backTo pos (starEach (e :: es) X.env)) (backToKw pos (keywordEach [] X.env))) := by rfl) : DO X pv W false (.Call (.Attribute o f apos) (e :: es) [] pos) (mMeth C f gm mo ma) := by
  obtain ⟨to, o1, o2⟩ := ho
  obtain ⟨ta, a1, a2⟩ := ha
  exact ⟨_, pe_methX o1 c hm F hr hb tk a1 hst hpl ht, tr_meth (j := j) o2 a2 hn⟩
theorem do_meth0 {j : Nat} {C g : Addr} {f : Str} {fd : FuncData} {ps : List Str} {apos : Pos} {o : Expr} {gm : List OT → ER OT} {pl : Sem Bool} {mo : SD → ER D} (ho : DX X pv W p true o mo) (c : Cls X.K C) (hm : Meth X.K C f g) (F : FnG X.prog X.w X.K X.mg X.base (L2.CX X.prog X.w) j g fd ps (spD X.K 1 gm)) (hr : RoomG j X.A) (hb : Binds X.K fd ps []) (tk : Takes X W)
    (ht : eval (.Call (.Attribute o f apos) [] [] pos) X.env = (do
      let ov ← eval o X.env
      standAt apos.atName
      let (fn, first) ← holding [ov] (getMethod ov f pl)
      callWith pos fn first (backTo pos (starEach [] X.env)) (backToKw pos (keywordEach [] X.env))) := by rfl) : DO X pv W false (.Call (.Attribute o f apos) [] [] pos) (mMeth C f gm mo mNil) := by
  obtain ⟨to, o1, o2⟩ := ho
  exact ⟨_, pe_methX0 o1 c hm F hr hb tk ht, tr_meth (j := j) (n := 0) o2 (fun G F sd σ H Q s => Meets.here (p := true) s (show RSl X.K true G F sd H σ [] [] from .nil) id) len_nil⟩
end
end DL

/-! DL18: own operators. -/
namespace DL
open PySem PySem.Spec L2

/-! ### a op b by an own def -/
/-- what is asked of two operands -/
def tOwn2 (R : V → V → Hp → Prop) (sp : Sp) (E : L2.St → XK) (ta tb : TE) : TE := fun σ H Q => ta σ H fun x H1 => tb σ H1 fun y H2 => R x y H2 ∧ sp [x, y] H2 Q (E σ)
def mOwn2 (c : D → D → Bool) (g : List OT → ER OT) (a b : SD → ER D) : SD → ER OT := fun sd => (a sd).bind fun x sd1 => (b sd1).bind fun y sd2 => if c x y = true then callFz g [x, y] sd2 else .bad
def IsR (K : PySem.W.Frag) (c : D → D → Bool) (R : V → V → Hp → Prop) : Prop := ∀ F H x y dx dy, Same F H → Rep K F x dx → Rep K F y dy → c dx dy = true → R x y H
/-- an instance of C -/
def InsR (C : Addr) (x : V) (H : Hp) : Prop := ∃ a dx fs, x = .ref a ∧ H a = some (.ins C dx fs)
def D.isIns (C : Addr) : D → Bool
  | .ins C' _ _ => C' == C
  | _ => false
theorem isIns_rep {K : PySem.W.Frag} {F H : Hp} {C : Addr} {x : V} {d : D} (e : Same F H) (r : Rep K F x d) (h : d.isIns C = true) : InsR C x H := by
  cases r with
  | @ins a C' dx fs _ ha rr =>
    have h : (C' == C) = true := h
    have h := beq_iff_eq.mp h
    subst h
    exact ⟨a, dx, fs, rfl, e _ _ ha⟩
  | _ => cases h
def D.isInt : D → Bool
  | .int _ => true
  | _ => false
theorem isInt_rep {K : PySem.W.Frag} {F : Hp} {x : V} {d : D} (r : Rep K F x d) (h : d.isInt = true) : ∃ i, x = .int i := by
  cases r <;> first | exact ⟨_, rfl⟩ | cases h
def cSame (C : Addr) : D → D → Bool := fun x y => x.isIns C && y.isIns C
def cInt (C : Addr) : D → D → Bool := fun x y => x.isIns C && y.isInt
theorem isR_same {K : PySem.W.Frag} {C : Addr} : IsR K (cSame C) fun x y H => InsR C x H ∧ InsR C y H := fun F H x y dx dy e r1 r2 h => by
  have h := (Bool.and_eq_true _ _).mp h
  exact ⟨isIns_rep e r1 h.1, isIns_rep e r2 h.2⟩
theorem isR_int {K : PySem.W.Frag} {C : Addr} : IsR K (cInt C) fun x y H => InsR C x H ∧ ∃ i, y = .int i := fun F H x y dx dy e r1 r2 h => by
  have h := (Bool.and_eq_true _ _).mp h
  exact ⟨isIns_rep e r1 h.1, isInt_rep r2 h.2⟩
section
variable {X : Cx} {pv : List V} {W : WX} {p q k l : Bool} {e a b : Expr} {es : List Expr} {pos : Pos}
theorem tr_own2 {c : D → D → Bool} {R : V → V → Hp → Prop} {g : List OT → ER OT} {ta tb : TE} {ma mb : SD → ER D} (hc : IsR X.K c R) (ha : TrX X.K pv W p true ta ma) (hb : TrX X.K pv W q true tb mb) : TrO X.K pv W (p && q) (tOwn2 R (spD X.K 2 g) (WE W) ta tb) (mOwn2 c g ma mb) := by
  intro G F sd σ H Q s
  refine Meets.bind (ha G F sd σ H _ s) fun x F1 H1 dx sd1 s1 s2 s3 s4 => ?_
  refine Meets.bindL (hb G F1 sd1 σ H1 _ s2) fun y F2 H2 dy sd2 t1 t2 t3 t4 => ?_
  have s3 : Rep X.K F1 x dx := s3
  have t3 : Rep X.K F2 y dy := t3
  split
  · rename_i h
    exact Meets.to (meets_call t2 (.cons (s3.mono t1) (.one t3)) rfl) fun z => ⟨hc F2 H2 x y dx dy t2.fh (s3.mono t1) t3 h, z⟩
  · exact True.intro
theorem ins_at {pins : List (Addr × Obj)} {σ : L2.St} {H : Hp} {s : Shared} {a C dx : Addr} {fs : List (Str × V)} (I : Inv X pins σ H s) (h : H a = some (.ins C dx fs)) : ∃ ox od, PySem.W.InstAt s.heap a ox C od := by
  obtain ⟨mA, O, _⟩ := ins_get I.hok h
  obtain ⟨od, J, _⟩ := O.look
  exact ⟨_, _, J⟩
/-- what of the text an own binary operator must have, both of one class -/
structure BinS (K : PySem.W.Frag) (C g : Addr) (nm : String) : Prop where
  first : PySem.W.selfFirst K C = true
  at_ : PySem.W.findIn K (.ref C) (PySem.dunder nm) = some (some (.ref g))
  fn : PySem.W.isFn K (.ref g) = true
/-- .. the right one an int -/
structure BinI (K : PySem.W.Frag) (C g : Addr) (nm : String) (rc fo ro : Option Value) : Prop where
  S : BinS K C g nm
  r : PySem.W.findIn K (.ref C) (dunderR nm) = some rc
  rp : rc = none ∨ ∃ g' : Addr, rc = some (.ref g')
  i1 : PySem.W.findIn K (.type "int") (PySem.dunder nm) = some fo
  i2 : PySem.W.findIn K (.type "int") (dunderR nm) = some ro
  sub : PySem.W.subIn K (.type "int") (.ref C) = some false
theorem do_binS {op : Operator} {C g : Addr} {fd : FuncData} {ps : List Str} {j : Nat} {gm : List OT → ER OT} {ma mb : SD → ER D} (h : BinS X.K C g op.info.2) (F : FnG X.prog X.w X.K X.mg X.base (L2.CX X.prog X.w) j g fd ps (spD X.K 2 gm)) (hr : RoomG j X.A) (hb : Binds X.K fd ps []) (tk : Takes X W)
    (h1 : DX X pv W p true a ma) (h2 : DX X pv W q true b mb) : DO X pv W (p && q) (.BinOp a op b pos) (mOwn2 (cSame C) gm ma mb) := by
  obtain ⟨ta, a1, a2⟩ := h1
  obtain ⟨tb, b1, b2⟩ := h2
  refine ⟨_, ⟨fun pins s σ H Q I hq => ?_⟩, tr_own2 isR_same a2 b2⟩
  refine wpAny_BinOp (binT a1 b1 I hq fun v u s2 x y H2 I2 rx ry q => ?_)
  obtain ⟨⟨⟨xa, dx, fs, rfl, ex⟩, ya, dy, gs, rfl, ey⟩, q⟩ := q
  cases (show v = Value.ref xa from rx)
  cases (show u = Value.ref ya from ry)
  obtain ⟨ox, od, J⟩ := ins_at I2 ex
  obtain ⟨oy, od', J'⟩ := ins_at I2 ey
  obtain ⟨m, hF⟩ := I2.fr
  refine PySem.W.binop_K hF I2.ok.mod.kin J J'.type h.first h.at_ h.fn ?_
  refine wpAny_mono (run_G (us := [.ref xa, .ref ya]) (vs := [.ref xa, .ref ya]) F hr hb (passAt tk σ) I2 (.cons rfl (.cons rfl .nil)) q) (fun w s' z => ?_) fun _ _ x => x
  obtain ⟨z', H', I', rz, qz⟩ := z
  exact SlX.cmpback rz ⟨z', H', I', rz, qz⟩
theorem do_binI {op : Operator} {C g : Addr} {fd : FuncData} {ps : List Str} {j : Nat} {gm : List OT → ER OT} {ma mb : SD → ER D} {rc fo ro : Option Value} (h : BinI X.K C g op.info.2 rc fo ro) (F : FnG X.prog X.w X.K X.mg X.base (L2.CX X.prog X.w) j g fd ps (spD X.K 2 gm)) (hr : RoomG j X.A) (hb : Binds X.K fd ps []) (tk : Takes X W)
    (h1 : DX X pv W p true a ma) (h2 : DX X pv W q true b mb) : DO X pv W (p && q) (.BinOp a op b pos) (mOwn2 (cInt C) gm ma mb) := by
  obtain ⟨ta, a1, a2⟩ := h1
  obtain ⟨tb, b1, b2⟩ := h2
  refine ⟨_, ⟨fun pins s σ H Q I hq => ?_⟩, tr_own2 isR_int a2 b2⟩
  refine wpAny_BinOp (binT a1 b1 I hq fun v u s2 x y H2 I2 rx ry q => ?_)
  obtain ⟨⟨⟨xa, dx, fs, rfl, ex⟩, i, rfl⟩, q⟩ := q
  cases (show v = Value.ref xa from rx)
  obtain ⟨t, rfl⟩ := (show ∃ t, u = Value.int i t from ry)
  obtain ⟨ox, od, J⟩ := ins_at I2 ex
  obtain ⟨m, hF⟩ := I2.fr
  refine PySem.W.ksp_binT hF I2.ok.mod.kin J rfl h.S.first h.S.at_ h.S.fn h.r h.rp h.i1 h.i2 h.sub ?_
  refine wpAny_mono (run_G (us := [.ref xa, .int i t]) (vs := [.ref xa, .int i]) F hr hb (passAt tk σ) I2 (.cons rfl (.cons ⟨t, rfl⟩ .nil)) q) (fun w s' z => ?_) fun _ _ x => x
  obtain ⟨z', H', I', rz, qz⟩ := z
  exact SlX.cmpback rz ⟨z', H', I', rz, qz⟩
/-- -x -/
def mOwn1 (C : Addr) (g : List OT → ER OT) (a : SD → ER D) : SD → ER OT := fun sd => (a sd).bind fun x sd1 => if x.isIns C = true then callFz g [x] sd1 else .bad
theorem do_negO {C g : Addr} {fd : FuncData} {ps : List Str} {j : Nat} {gm : List OT → ER OT} {ma : SD → ER D} (hs : PySem.W.findIn X.K (.ref C) "__neg__" = some (some (.ref g))) (hf : PySem.W.isFn X.K (.ref g) = true) (F : FnG X.prog X.w X.K X.mg X.base (L2.CX X.prog X.w) j g fd ps (spD X.K 1 gm)) (hr : RoomG j X.A)
    (hb : Binds X.K fd ps []) (tk : Takes X W) (h1 : DX X pv W p true a ma) : DO X pv W p (.UnaryOp .USub a pos) (mOwn1 C gm ma) := by
  obtain ⟨ta, a1, a2⟩ := h1
  refine ⟨fun σ H Q => ta σ H fun x H1 => InsR C x H1 ∧ spD X.K 1 gm [x] H1 Q (WE W σ), ⟨fun pins s σ H Q I hq => ?_⟩, fun G Fz sd σ H Q s => ?_⟩
  · refine PyProof.Rows.UnaryOp_ (thn (a1.run pins s σ H _ I hq) fun v s1 ⟨x, H1, I1, r1, q1⟩ => ?_)
    obtain ⟨⟨xa, dx, fs, rfl, ex⟩, q1⟩ := q1
    cases (show v = Value.ref xa from r1)
    obtain ⟨ox, od, J⟩ := ins_at I1 ex
    obtain ⟨m, hF⟩ := I1.fr
    exact PySem.W.ksp_neg hF I1.ok.mod.kin J hs hf (run_G (us := [.ref xa]) (vs := [.ref xa]) F hr hb (passAt tk σ) I1 (.cons rfl .nil) q1)
  · refine Meets.bindL (a2 G Fz sd σ H _ s) fun x F1 H1 dx sd1 s1 s2 s3 s4 => ?_
    have s3 : Rep X.K F1 x dx := s3
    split
    · rename_i h
      exact Meets.to (meets_call s2 (.one s3) rfl) fun z => ⟨isIns_rep s2.fh s3 h, z⟩
    · exact True.intro
end
end DL

/-! DL19: own ==, !=, in, len, calls of instances; isinstance of own classes. -/
namespace PySem.W
open PySem PySem.Calls PyProof.Rows
section
variable {prog : Program} {w : World} {A : Around} {E : Value → Shared → Prop} {s : Shared} {K : Frag} {x C L f : Addr} {h₀ : Heap} {m : Str → Option Value} {ox : Obj} {od : Option Obj} {b tb : Value}
/-- the library's != by an own == -/
theorem dl_objNe {Q : Fin → Shared → Prop} (hu : A.units < cLine) (X : K.In s.heap) (I : InstAt s.heap x ox C od) (hs : findIn K (.ref C) "__eq__" = some (some (.ref f))) (hf : isFn K (.ref f) = true)
    (h : wpAny (model prog w) A (call (.ref f) [.ref x, b]) (fun v s' => ∃ r, v = .bool r ∧ Q (.done (.ret (.bool (!r)))) s') E s) : wpAny (model prog w) A (Builtin.«object.__ne__» ⟨[.ref x, b], []⟩) Q E s := by
  unfold Builtin.«object.__ne__»
  repeat (first
    | with_reducible refine wpAny_cRoomFor hu ?_
    | (refine wpAny_bind (m := callSpecialIfBound? (.ref x) (Str.ofString "__eq__") [b])
        (ifBound_K X I hs hf (wpAny_mono h (fun r s' hr => by
          obtain ⟨b, rfl, hq⟩ := hr
          repeat (first | exact hq | exact wpAny_pure hq | exact wpAny_truthy_bool hq | (refine wpAny_bind (m := truthy (.bool _)) (wpAny_truthy_bool ?_)) | wp_step)) fun _ _ e => e)))
    | wp_step)
theorem dl_checkNe {rest : List Value} {Q : Unit → Shared → Prop} (ha : argsOk "object.__ne__" ⟨.ref x :: rest, []⟩) (X : K.In s.heap) (I : InstAt s.heap x ox C od) (hob : subIn K (.ref C) (.type "object") = some true) (hq : Q () s) :
    wpAny (model prog w) A (checkBuiltinCall "object.__ne__" ⟨.ref x :: rest, []⟩) Q E s := by
  simp only [checkBuiltinCall, F.cmpKind_ne, F.cmpSplit_ne]
  have L : Looks (model prog w) s.heap (isInstance (.ref x) (.type "object")) true := I.type.andThen (looks_subIn X hob)
  refine wpAny_bind (L.here ?_)
  cases hsig : Manifest.signature? "object.__ne__" with
  | none => exact wpAny_pure hq
  | some sig =>
    simp only [argsOk, hsig] at ha
    have h2 : Bind.checkArgs "object.__ne__" sig ⟨.ref x :: rest, []⟩ = pure () := ha
    show wpAny (model prog w) A (Bind.checkArgs "object.__ne__" sig ⟨.ref x :: rest, []⟩) Q E _
    rw [h2]; exact wpAny_pure hq
theorem dl_ifBoundB {name : Str} {id : String} {args : List Value} {Q : Option Value → Shared → Prop} (X : K.In s.heap) (I : InstAt s.heap x ox C od) (hs : findIn K (.ref C) name = some (some (.builtin id))) (S : Slot "object" name id)
    (hcall : wpAny (model prog w) A (call (.builtin id) (.ref x :: args)) (fun v => Q (some v)) E s) : wpAny (model prog w) A (callSpecialIfBound? (.ref x) name args) Q E s := by
  simp only [callSpecialIfBound?, bindSpecialIfBound?]
  refine wpAny_holding (wpAny_bind (wpAny_bind (wpAny_bind (I.type.here ((looks_findIn X hs).here ?_)))))
  simp only [S.bind]
  refine wpAny_bind (wpAny_askSetting (wpAny_ite ?_))
  have fin : wpAny (model prog w) A (call (.builtin id) ([.ref x] ++ args) >>= fun v => pure (some v)) Q E s :=
    wpAny_bind (wpAny_mono hcall (fun v s' h' => wpAny_pure h') fun _ _ h' => h')
  split
  · exact wpAny_bind (wpAny_pure (wpAny_pure fin))
  · exact wpAny_tryCatch (wpAny_bind (wpAny_pure (wpAny_pure fin)))
theorem dl_ne {Q : Value → Shared → Prop} (hu : A.units + 1 < cLine) (F0 : Fr h₀ L s.heap m) (X₀ : K.In h₀) (I : InstAt s.heap x ox C od) (hb : Looks (model prog w) s.heap (typeOf b) tb) (hn : notFirst K C tb = true)
    (hs : findIn K (.ref C) "__eq__" = some (some (.ref f))) (hf : isFn K (.ref f) = true) (hne : findIn K (.ref C) "__ne__" = some (some (.builtin "object.__ne__"))) (hob : subIn K (.ref C) (.type "object") = some true)
    (h : wpAny (model prog w) A.in1 (call (.ref f) [.ref x, b]) (fun v s' => ∃ r, v = .bool r ∧ Q (.bool (!r)) s') E s) : wpAny (model prog w) A (richCompare .NotEq (.ref x) b) Q E s := by
  have X := X₀.keeps F0.keep
  have one : wpAny (model prog w) A (tryCompare (.ref x) "__ne__" b) (fun r s' => ∃ v, r = some v ∧ Q v s') E s := by
    unfold tryCompare
    refine wpAny_bind (dl_ifBoundB X I hne F.cmp_object.ne (wpAny_call (codeAny_call_builtin F.cmp_object.ne.plain F.cmpEntry_ne (dl_checkNe (F.cmpArgs_ne _ _) X I hob
      (dl_objNe (A := A.in1) hu X I hs hf (wpAny_mono h (fun v s' hv => ?_) fun _ _ e => e))))))
    obtain ⟨r, rfl, hq⟩ := hv
    first | exact ⟨r, rfl, wpAny_pure ⟨_, rfl, hq⟩⟩ | exact ⟨r, rfl, wpAny_pure (wpAny_pure ⟨_, rfl, hq⟩)⟩
  unfold richCompare
  simp only [oneThing_ref]
  refine wpAny_holding (wpAny_bind (wpAny_cRoomFor (Nat.lt_of_succ_lt hu) ?_))
  rw [cmpInfo_NotEq]
  dsimp only
  refine wpAny_bind (I.type.here (wpAny_bind (hb.here ?_)))
  split
  · rename_i q
    have e : subIn K tb (.ref C) = some false := by
      rcases Bool.or_eq_true_iff.mp hn with e | e
      · rw [beq_iff_eq.mp e] at q; simp at q
      · exact beq_iff_eq.mp e
    refine wpAny_bind ((looks_subIn X e).here ?_)
    simp only [Bool.false_eq_true, if_false]
    refine wpAny_bind (wpAny_mono one (fun r s' z => ?_) fun _ _ e => e)
    obtain ⟨v, rfl, hq⟩ := z
    exact wpAny_pure hq
  · refine wpAny_bind (wpAny_pure ?_)
    simp only [Bool.false_eq_true, if_false]
    refine wpAny_bind (wpAny_mono one (fun r s' z => ?_) fun _ _ e => e)
    obtain ⟨v, rfl, hq⟩ := z
    exact wpAny_pure hq
end
end PySem.W

/-! DL20: own ==, !=, in, len, calls of instances; isinstance of own classes. -/
namespace DL
open PySem PySem.Spec L2

/-! ### classes of values -/
/-- what of an own class is asked for isinstance, == -/
structure CF (K : PySem.W.Frag) (C : Addr) : Prop where
  cl : Cls K C
  ha : PySem.W.findIn K (.ref C) "__class__" = some (some (.builtin "object.__class__"))
  hn : PySem.W.specialIn K (.builtin "object.__class__") "__get__" = some (some (.builtin "getset_descriptor.__get__"))
  ht : PySem.W.takesIn K (.builtin "object.__class__") = some true
  hm : PySem.W.mroIn K C (.type "object") = some true
def D.tyv (ok : Addr → Bool) : D → Option Value
  | .non => some (.type "NoneType")
  | .bl _ => some (.type "bool")
  | .int _ => some (.type "int")
  | .str _ => some (.type "str")
  | .tup _ => some (.type "tuple")
  | .ktu _ => some (.type "tuple")
  | .lst _ => some (.type "list")
  | .scr _ => some (.type "list")
  | .dic false _ _ => some (.type "dict")
  | .ins C _ _ => if ok C = true then some (.ref C) else none
  | _ => none
def bltTys : List String := ["NoneType", "bool", "int", "str", "tuple", "list", "dict"]
theorem tyv_rep {K : PySem.W.Frag} {H : Hp} {ok : Addr → Bool} {v : V} {d : D} {t : Value} (hC : ∀ C, ok C = true → CF K C) (r : Rep K H v d) (h : d.tyv ok = some t) : TyX K H v t := by
  cases r with
  | non => cases h; exact .base .non
  | bl x => cases h; exact .base (.bl x)
  | int x => cases h; exact .base (.int x)
  | str x => cases h; exact .base (.str x)
  | ty x => cases h
  | cls x => cases h
  | tup s r => cases h; exact tyx_tup (.inl (.inl s))
  | ktu s r => cases h; exact tyx_tup s
  | lst s r => cases h; exact tyx_lst (.inl s)
  | scr s => cases h; exact tyx_lst s
  | dicK s r =>
    cases h
    rcases s with s | ⟨o, s⟩
    · exact .base (.dK s)
    · exact .fDict s
  | dicT s r => cases h
  | @ins a C dx fs _ s r =>
    have h : (if ok C = true then some (Value.ref C) else none) = some t := h
    split at h
    · rename_i hok
      cases h
      have c := hC C hok
      exact .base (.ins s c.cl c.ha c.hn c.ht c.hm)
    · cases h
  | exc _ _ _ _ => cases h
theorem tyv_of {ok : Addr → Bool} {d : D} {t : Value} (h : d.tyv ok = some t) : (∃ n ∈ bltTys, t = .type n) ∨ ∃ C, ok C = true ∧ t = .ref C ∧ d.isIns C = true := by
  cases d with
  | ins C ns vs =>
    have h : (if ok C = true then some (Value.ref C) else none) = some t := h
    split at h
    · rename_i hok
      cases h
      exact .inr ⟨C, hok, rfl, by show (C == C) = true; simp⟩
    · cases h
  | ty _ => cases h
  | cls _ => cases h
  | exc _ _ _ => cases h
  | dic tk ks vs =>
    cases tk with
    | false => cases h; exact .inl ⟨_, by decide, rfl⟩
    | true => cases h
  | _ => cases h; exact .inl ⟨_, by decide, rfl⟩

/-! ### isinstance(x, C) -/
structure IsF (K : PySem.W.Frag) (ok : Addr → Bool) (C : Addr) : Prop where
  b : ∀ n ∈ bltTys, PySem.W.kitOne K (.type n) (.ref C) = some false
  o : ∀ C', ok C' = true → PySem.W.kitOne K (.ref C') (.ref C) = some (C' == C)
def dIsO (ok : Addr → Bool) (C : Addr) : List D → Option D
  | [d, .cls C'] => if C' = C then (d.tyv ok).map fun _ => .bl (d.isIns C) else none
  | _ => none
theorem f_isO {K : PySem.W.Frag} {ok : Addr → Bool} {C : Addr} (hC : ∀ C, ok C = true → CF K C) (f : IsF K ok C) : CallS K (rIsi K) (dIsO ok C) := by
  intro H xs ds c r h
  unfold dIsO at h
  split at h
  · rename_i d C'
    obtain ⟨v, v', rfl, r1, r2⟩ := reps2 r
    cases r2
    split at h
    · rename_i hC'
      subst hC'
      obtain ⟨t, e, h⟩ := Option.map_eq_some_iff.mp h
      subst h
      refine ⟨_, rfl, fun Q q => ⟨v, _, t, _, _, rfl, .own _, tyv_rep hC r1 e, ?_, q⟩⟩
      rcases tyv_of e with ⟨n, hn, rfl⟩ | ⟨C2, hok, rfl, hi⟩
      · have : d.isIns C' = false := by
          cases d with
          | ins C3 _ _ =>
            have e : (if ok C3 = true then some (Value.ref C3) else none) = some (.type n) := e
            split at e <;> cases e
          | _ => rfl
        rw [this]
        exact f.b n hn
      · cases d with
        | ins C3 _ _ =>
          have hi : (C3 == C2) = true := hi
          have hi := beq_iff_eq.mp hi
          subst hi
          exact f.o _ hok
        | _ => cases hi
    · cases h
  · cases h

/-! ### ==, != -/
structure EqF (K : PySem.W.Frag) (ok : Addr → Bool) (C g : Addr) : Prop where
  at_ : PySem.W.findIn K (.ref C) "__eq__" = some (some (.ref g))
  fn : PySem.W.isFn K (.ref g) = true
  ne : PySem.W.findIn K (.ref C) "__ne__" = some (some (.builtin "object.__ne__"))
  ob : PySem.W.subIn K (.ref C) (.type "object") = some true
  b : ∀ n ∈ bltTys, PySem.W.notFirst K C (.type n) = true
  o : ∀ C', ok C' = true → PySem.W.notFirst K C (.ref C') = true
/-- a def that gives True or False for two values -/
def rB2 (K : PySem.W.Frag) (C : Addr) (g : List OT → ER OT) (neg : Bool) : R2 := fun x y H Q => InsR C x H ∧ (∃ t, TyX K H y t ∧ PySem.W.notFirst K C t = true) ∧ spD K 2 g [x, y] H (fun v H' => ∃ r, v = .bl r ∧ Q (.bl (r != neg)) H') fun _ _ _ => False
def mB2 (ok : Addr → Bool) (C : Addr) (g : List OT → ER OT) (neg : Bool) (a b : SD → ER D) : SD → ER D := fun sd => (a sd).bind fun x sd1 => (b sd1).bind fun y sd2 => if x.isIns C = true ∧ (y.tyv ok).isSome = true then (match g [.fz x, .fz y] with
  | .ok (.fz (.bl r)) _ => .ok (.bl (r != neg)) sd2
  | _ => .bad) else .bad
section
variable {X : Cx} {pv : List V} {W : WX} {p q k l : Bool} {e a b : Expr} {es : List Expr} {pos : Pos}
theorem op_eqO {ok : Addr → Bool} {C g : Addr} {fd : FuncData} {ps : List Str} {j : Nat} {gm : List OT → ER OT} (h : EqF X.K ok C g) (F : FnG X.prog X.w X.K X.mg X.base (L2.CX X.prog X.w) j g fd ps (spD X.K 2 gm)) (hr : RoomG j X.A) (hb : Binds X.K fd ps []) : OpR X (compareOp .Eq) (rB2 X.K C gm false) := by
  intro pins s σ H x y v u Q I rx ry ⟨⟨xa, dx, fs, ex, eh⟩, ⟨t, ty, hn⟩, q⟩
  subst ex
  cases (show v = Value.ref xa from rx)
  obtain ⟨ox, od, J⟩ := ins_at I eh
  obtain ⟨m, hF⟩ := I.fr
  obtain ⟨P, Z, hp, _⟩ := kit_of I ry ty
  refine PySem.W.cmp_ofEq (PySem.W.cmp_K (op := .Eq) (tb := t) hr.units0 hF I.ok.mod.kin J (Z.ty _ _ I.kIn hp) hn h.at_ h.fn ?_)
  refine wpAny_mono (run_0 (us := [.ref xa, u]) (vs := [.ref xa, y]) F hr hb I (.cons rfl (.cons ry .nil)) q) (fun w s' z => ?_) fun _ _ x => x
  obtain ⟨z', H', I', rz, r, ez, qz⟩ := z
  subst ez
  refine SlX.cmpback rz ⟨.bl r, H', I', rz, ?_⟩
  have e : (r != false) = r := by cases r <;> rfl
  rw [e] at qz
  exact qz
theorem op_neO {ok : Addr → Bool} {C g : Addr} {fd : FuncData} {ps : List Str} {j : Nat} {gm : List OT → ER OT} (h : EqF X.K ok C g) (F : FnG X.prog X.w X.K X.mg X.base (L2.CX X.prog X.w) j g fd ps (spD X.K 2 gm)) (hr : RoomG (j + 1) X.A) (hb : Binds X.K fd ps []) : OpR X (compareOp .NotEq) (rB2 X.K C gm true) := by
  intro pins s σ H x y v u Q I rx ry ⟨⟨xa, dx, fs, ex, eh⟩, ⟨t, ty, hn⟩, q⟩
  subst ex
  cases (show v = Value.ref xa from rx)
  obtain ⟨ox, od, J⟩ := ins_at I eh
  obtain ⟨m, hF⟩ := I.fr
  obtain ⟨P, Z, hp, _⟩ := kit_of I ry ty
  refine PySem.W.cmp_ofNotEq (PySem.W.dl_ne (tb := t) (by have := hr.un; omega) hF I.ok.mod.kin J (Z.ty _ _ I.kIn hp) hn h.at_ h.fn h.ne h.ob ?_)
  refine wpAny_mono (run_1 (us := [.ref xa, u]) (vs := [.ref xa, y]) F hr hb I (.cons rfl (.cons ry .nil)) q) (fun w s' z => ?_) fun _ _ x => x
  obtain ⟨z', H', I', rz, r, ez, qz⟩ := z
  subst ez
  cases (show w = Value.bool r from rz)
  refine ⟨r, rfl, .bl (!r), H', I', rfl, ?_⟩
  have e : (r != true) = !r := by cases r <;> rfl
  rw [e] at qz
  exact qz
theorem tr_b2 {ok : Addr → Bool} {C g : Addr} {gm : List OT → ER OT} {neg : Bool} {ta tb : TE} {ma mb : SD → ER D} (hC : ∀ C, ok C = true → CF X.K C) (h : EqF X.K ok C g) (ha : TrX X.K pv W p true ta ma) (hb : TrX X.K pv W q true tb mb) : TrX X.K pv W (p && q) true (tOp (rB2 X.K C gm neg) ta tb) (mB2 ok C gm neg ma mb) := by
  intro G F sd σ H Q s
  refine Meets.bind (ha G F sd σ H _ s) fun x F1 H1 dx sd1 s1 s2 s3 s4 => ?_
  refine Meets.bindL (hb G F1 sd1 σ H1 _ s2) fun y F2 H2 dy sd2 t1 t2 t3 t4 => ?_
  have s3 : Rep X.K F2 x dx := (show Rep X.K F1 x dx from s3).mono t1
  have t3 : Rep X.K F2 y dy := t3
  split
  · rename_i hc
    have z := meets_callQ (pv := pv) (W := W) (K := X.K) (f := gm) (Q := fun v H' => ∃ r, v = .bl r ∧ Q (.bl (r != neg)) H') t2 (.cons s3 (.one t3)) rfl
    unfold callFzQ at z
    have e0 : ([dx, dy] : List D).map OT.fz = [.fz dx, .fz dy] := rfl
    rw [e0] at z
    revert z
    cases e : gm [.fz dx, .fz dy] with
    | bad => exact fun _ => True.intro
    | rz _ _ => exact fun _ => True.intro
    | ok t s' =>
      cases t with
      | fz d =>
        cases d with
        | bl r =>
          intro z hQ
          obtain ⟨tt, et⟩ := Option.isSome_iff_exists.mp hc.2
          refine ⟨isIns_rep t2.fh s3 hc.1, ⟨tt, tyv_rep hC (t3.mono t2.fh) et, ?_⟩, z fun v F' H' s1 s2 s3 s4 => ?_⟩
          · rcases tyv_of et with ⟨n, hn, rfl⟩ | ⟨C2, hok, rfl, _⟩
            · exact h.b n hn
            · exact h.o _ hok
          · obtain ⟨o, P, w, rr, _⟩ := (show StR1 X.K pv G F' sd2 σ H' v (.fz (.bl r)) from s3)
            unfold RepO at rr
            cases rr
            exact ⟨r, rfl, hQ (.bl (r != neg)) F' H' s1 s2 (.bl _) s4⟩
        | _ => exact fun _ => True.intro
      | _ => exact fun _ => True.intro
  · exact True.intro
theorem dx_eqO {ok : Addr → Bool} {C g : Addr} {fd : FuncData} {ps : List Str} {j : Nat} {gm : List OT → ER OT} {ma mb : SD → ER D} (hC : ∀ C, ok C = true → CF X.K C) (h : EqF X.K ok C g) (F : FnG X.prog X.w X.K X.mg X.base (L2.CX X.prog X.w) j g fd ps (spD X.K 2 gm)) (hr : RoomG j X.A) (hb : Binds X.K fd ps [])
    (h1 : DX X pv W p true a ma) (h2 : DX X pv W q true b mb) : DX X pv W (p && q) true (.Compare a [.Eq] [b] pos) (mB2 ok C gm false ma mb) := by
  obtain ⟨ta, a1, a2⟩ := h1
  obtain ⟨tb, b1, b2⟩ := h2
  exact ⟨_, pe_cmpR (op_eqO h F hr hb) a1 b1 (nomark _), tr_b2 hC h a2 b2⟩
theorem dt_eqO {ok : Addr → Bool} {C g : Addr} {fd : FuncData} {ps : List Str} {j : Nat} {gm : List OT → ER OT} {ma mb : SD → ER D} (hC : ∀ C, ok C = true → CF X.K C) (h : EqF X.K ok C g) (F : FnG X.prog X.w X.K X.mg X.base (L2.CX X.prog X.w) j g fd ps (spD X.K 2 gm)) (hr : RoomG j X.A) (hb : Binds X.K fd ps [])
    (h1 : DX X pv W p true a ma) (h2 : DX X pv W q true b mb) : DT X pv W (p && q) (.Compare a [.Eq] [b] pos) (mTest (mB2 ok C gm false ma mb)) := by
  obtain ⟨ta, a1, a2⟩ := h1
  obtain ⟨tb, b1, b2⟩ := h2
  exact ⟨_, pt_cmpR (op_eqO h F hr hb) a1 b1 (nomark _), tr_test (tr_b2 hC h a2 b2)⟩
theorem dx_neO {ok : Addr → Bool} {C g : Addr} {fd : FuncData} {ps : List Str} {j : Nat} {gm : List OT → ER OT} {ma mb : SD → ER D} (hC : ∀ C, ok C = true → CF X.K C) (h : EqF X.K ok C g) (F : FnG X.prog X.w X.K X.mg X.base (L2.CX X.prog X.w) j g fd ps (spD X.K 2 gm)) (hr : RoomG (j + 1) X.A) (hb : Binds X.K fd ps [])
    (h1 : DX X pv W p true a ma) (h2 : DX X pv W q true b mb) : DX X pv W (p && q) true (.Compare a [.NotEq] [b] pos) (mB2 ok C gm true ma mb) := by
  obtain ⟨ta, a1, a2⟩ := h1
  obtain ⟨tb, b1, b2⟩ := h2
  exact ⟨_, pe_cmpR (op_neO h F hr hb) a1 b1 (nomark _), tr_b2 hC h a2 b2⟩
theorem dt_neO {ok : Addr → Bool} {C g : Addr} {fd : FuncData} {ps : List Str} {j : Nat} {gm : List OT → ER OT} {ma mb : SD → ER D} (hC : ∀ C, ok C = true → CF X.K C) (h : EqF X.K ok C g) (F : FnG X.prog X.w X.K X.mg X.base (L2.CX X.prog X.w) j g fd ps (spD X.K 2 gm)) (hr : RoomG (j + 1) X.A) (hb : Binds X.K fd ps [])
    (h1 : DX X pv W p true a ma) (h2 : DX X pv W q true b mb) : DT X pv W (p && q) (.Compare a [.NotEq] [b] pos) (mTest (mB2 ok C gm true ma mb)) := by
  obtain ⟨ta, a1, a2⟩ := h1
  obtain ⟨tb, b1, b2⟩ := h2
  exact ⟨_, pt_cmpR (op_neO h F hr hb) a1 b1 (nomark _), tr_test (tr_b2 hC h a2 b2)⟩
end
end DL

/-! DL21: own in, len; calls of instances. -/
namespace DL
open PySem PySem.Spec L2
/-- x in o, o an instance of C -/
def rIn2 (K : PySem.W.Frag) (C : Addr) (g : List OT → ER OT) (neg : Bool) : R2 := fun x y H Q => InsR C y H ∧ spD K 2 g [y, x] H (fun v H' => ∃ r, v = .bl r ∧ Q (.bl (r != neg)) H') fun _ _ _ => False
def mIn2 (C : Addr) (g : List OT → ER OT) (neg : Bool) (a b : SD → ER D) : SD → ER D := fun sd => (a sd).bind fun x sd1 => (b sd1).bind fun y sd2 => if y.isIns C = true then (match g [.fz y, .fz x] with
  | .ok (.fz (.bl r)) _ => .ok (.bl (r != neg)) sd2
  | _ => .bad) else .bad
section
variable {X : Cx} {pv : List V} {W : WX} {p q k l : Bool} {e a b : Expr} {es : List Expr} {pos : Pos}
/-- a def that gives True or False -/
theorem meets_bool {K : PySem.W.Frag} {G F H : Hp} {σ : L2.St} {sd : SD} {gm : List OT → ER OT} {x y : V} {dx dy : D} {neg : Bool} {Q : VK} (s : StR K pv G F sd σ H) (r1 : Rep K F x dx) (r2 : Rep K F y dy) : Meets K pv W G σ (RSx K true) true sd F H (match gm [.fz dx, .fz dy] with
    | .ok (.fz (.bl r)) _ => .ok (.bl (r != neg)) sd
    | _ => .bad) Q (spD K 2 gm [x, y] H (fun v H' => ∃ r, v = .bl r ∧ Q (.bl (r != neg)) H') fun _ _ _ => False) := by
  have z := meets_callQ (pv := pv) (W := W) (K := K) (f := gm) (Q := fun v H' => ∃ r, v = .bl r ∧ Q (.bl (r != neg)) H') s (.cons r1 (.one r2)) rfl
  unfold callFzQ at z
  have e0 : ([dx, dy] : List D).map OT.fz = [.fz dx, .fz dy] := rfl
  rw [e0] at z
  revert z
  cases e : gm [.fz dx, .fz dy] with
  | bad => exact fun _ => True.intro
  | rz _ _ => exact fun _ => True.intro
  | ok t s' =>
    cases t with
    | fz d =>
      cases d with
      | bl r =>
        intro z hQ
        refine z fun v F' H' s1 s2 s3 s4 => ?_
        obtain ⟨o, P, w, rr, _⟩ := (show StR1 K pv G F' sd σ H' v (.fz (.bl r)) from s3)
        unfold RepO at rr
        cases rr
        exact ⟨r, rfl, hQ (.bl (r != neg)) F' H' s1 s2 (.bl _) s4⟩
      | _ => exact fun _ => True.intro
    | _ => exact fun _ => True.intro
theorem op_inO {C g : Addr} {fd : FuncData} {ps : List Str} {j : Nat} {gm : List OT → ER OT} (at_ : PySem.W.findIn X.K (.ref C) "__contains__" = some (some (.ref g))) (fn : PySem.W.isFn X.K (.ref g) = true) (F : FnG X.prog X.w X.K X.mg X.base (L2.CX X.prog X.w) j g fd ps (spD X.K 2 gm)) (hr : RoomG j X.A) (hb : Binds X.K fd ps []) :
    OpR X (compareOp .In) (rIn2 X.K C gm false) := by
  intro pins s σ H x y v u Q I rx ry ⟨⟨ya, dy, fs, ey, eh⟩, q⟩
  subst ey
  cases (show u = Value.ref ya from ry)
  obtain ⟨ox, od, J⟩ := ins_at I eh
  obtain ⟨m, hF⟩ := I.fr
  refine PySem.W.in_K hF I.ok.mod.kin J at_ fn ?_
  refine wpAny_mono (run_0 (us := [.ref ya, v]) (vs := [.ref ya, x]) F hr hb I (.cons rfl (.cons rx .nil)) q) (fun w s' z => ?_) fun _ _ x => x
  obtain ⟨z', H', I', rz, r, ez, qz⟩ := z
  subst ez
  cases (show w = Value.bool r from rz)
  refine wpAny_truthy_bool ⟨.bl r, H', I', rfl, ?_⟩
  have e : (r != false) = r := by cases r <;> rfl
  rw [e] at qz
  exact qz
theorem op_notInO {C g : Addr} {fd : FuncData} {ps : List Str} {j : Nat} {gm : List OT → ER OT} (at_ : PySem.W.findIn X.K (.ref C) "__contains__" = some (some (.ref g))) (fn : PySem.W.isFn X.K (.ref g) = true) (F : FnG X.prog X.w X.K X.mg X.base (L2.CX X.prog X.w) j g fd ps (spD X.K 2 gm)) (hr : RoomG j X.A) (hb : Binds X.K fd ps []) :
    OpR X (compareOp .NotIn) (rIn2 X.K C gm true) := by
  intro pins s σ H x y v u Q I rx ry ⟨⟨ya, dy, fs, ey, eh⟩, q⟩
  subst ey
  cases (show u = Value.ref ya from ry)
  obtain ⟨ox, od, J⟩ := ins_at I eh
  obtain ⟨m, hF⟩ := I.fr
  refine PySem.W.notIn_K hF I.ok.mod.kin J at_ fn ?_
  refine wpAny_mono (run_0 (us := [.ref ya, v]) (vs := [.ref ya, x]) F hr hb I (.cons rfl (.cons rx .nil)) q) (fun w s' z => ?_) fun _ _ x => x
  obtain ⟨z', H', I', rz, r, ez, qz⟩ := z
  subst ez
  cases (show w = Value.bool r from rz)
  refine wpAny_truthy_bool ⟨.bl (!r), H', I', rfl, ?_⟩
  have e : (r != true) = !r := by cases r <;> rfl
  rw [e] at qz
  exact qz
theorem tr_in2 {C : Addr} {gm : List OT → ER OT} {neg : Bool} {ta tb : TE} {ma mb : SD → ER D} (ha : TrX X.K pv W p true ta ma) (hb : TrX X.K pv W q true tb mb) : TrX X.K pv W (p && q) true (tOp (rIn2 X.K C gm neg) ta tb) (mIn2 C gm neg ma mb) := by
  intro G F sd σ H Q s
  refine Meets.bind (ha G F sd σ H _ s) fun x F1 H1 dx sd1 s1 s2 s3 s4 => ?_
  refine Meets.bindL (hb G F1 sd1 σ H1 _ s2) fun y F2 H2 dy sd2 t1 t2 t3 t4 => ?_
  have s3 : Rep X.K F2 x dx := (show Rep X.K F1 x dx from s3).mono t1
  have t3 : Rep X.K F2 y dy := t3
  split
  · rename_i hc
    exact Meets.to (meets_bool t2 t3 s3) fun z => ⟨isIns_rep t2.fh t3 hc, z⟩
  · exact True.intro
theorem dx_inO {C g : Addr} {fd : FuncData} {ps : List Str} {j : Nat} {gm : List OT → ER OT} {ma mb : SD → ER D} (at_ : PySem.W.findIn X.K (.ref C) "__contains__" = some (some (.ref g))) (fn : PySem.W.isFn X.K (.ref g) = true) (F : FnG X.prog X.w X.K X.mg X.base (L2.CX X.prog X.w) j g fd ps (spD X.K 2 gm)) (hr : RoomG j X.A) (hb : Binds X.K fd ps [])
    (h1 : DX X pv W p true a ma) (h2 : DX X pv W q true b mb) (hm : behindInMarks .In b = false := by rfl) : DX X pv W (p && q) true (.Compare a [.In] [b] pos) (mIn2 C gm false ma mb) := by
  obtain ⟨ta, a1, a2⟩ := h1
  obtain ⟨tb, b1, b2⟩ := h2
  exact ⟨_, pe_cmpR (op_inO at_ fn F hr hb) a1 b1 hm, tr_in2 a2 b2⟩
theorem dt_inO {C g : Addr} {fd : FuncData} {ps : List Str} {j : Nat} {gm : List OT → ER OT} {ma mb : SD → ER D} (at_ : PySem.W.findIn X.K (.ref C) "__contains__" = some (some (.ref g))) (fn : PySem.W.isFn X.K (.ref g) = true) (F : FnG X.prog X.w X.K X.mg X.base (L2.CX X.prog X.w) j g fd ps (spD X.K 2 gm)) (hr : RoomG j X.A) (hb : Binds X.K fd ps [])
    (h1 : DX X pv W p true a ma) (h2 : DX X pv W q true b mb) (hm : behindInMarks .In b = false := by rfl) : DT X pv W (p && q) (.Compare a [.In] [b] pos) (mTest (mIn2 C gm false ma mb)) := by
  obtain ⟨ta, a1, a2⟩ := h1
  obtain ⟨tb, b1, b2⟩ := h2
  exact ⟨_, pt_cmpR (op_inO at_ fn F hr hb) a1 b1 hm, tr_test (tr_in2 a2 b2)⟩
theorem dx_notInO {C g : Addr} {fd : FuncData} {ps : List Str} {j : Nat} {gm : List OT → ER OT} {ma mb : SD → ER D} (at_ : PySem.W.findIn X.K (.ref C) "__contains__" = some (some (.ref g))) (fn : PySem.W.isFn X.K (.ref g) = true) (F : FnG X.prog X.w X.K X.mg X.base (L2.CX X.prog X.w) j g fd ps (spD X.K 2 gm)) (hr : RoomG j X.A) (hb : Binds X.K fd ps [])
    (h1 : DX X pv W p true a ma) (h2 : DX X pv W q true b mb) (hm : behindInMarks .NotIn b = false := by rfl) : DX X pv W (p && q) true (.Compare a [.NotIn] [b] pos) (mIn2 C gm true ma mb) := by
  obtain ⟨ta, a1, a2⟩ := h1
  obtain ⟨tb, b1, b2⟩ := h2
  exact ⟨_, pe_cmpR (op_notInO at_ fn F hr hb) a1 b1 hm, tr_in2 a2 b2⟩
theorem dt_notInO {C g : Addr} {fd : FuncData} {ps : List Str} {j : Nat} {gm : List OT → ER OT} {ma mb : SD → ER D} (at_ : PySem.W.findIn X.K (.ref C) "__contains__" = some (some (.ref g))) (fn : PySem.W.isFn X.K (.ref g) = true) (F : FnG X.prog X.w X.K X.mg X.base (L2.CX X.prog X.w) j g fd ps (spD X.K 2 gm)) (hr : RoomG j X.A) (hb : Binds X.K fd ps [])
    (h1 : DX X pv W p true a ma) (h2 : DX X pv W q true b mb) (hm : behindInMarks .NotIn b = false := by rfl) : DT X pv W (p && q) (.Compare a [.NotIn] [b] pos) (mTest (mIn2 C gm true ma mb)) := by
  obtain ⟨ta, a1, a2⟩ := h1
  obtain ⟨tb, b1, b2⟩ := h2
  exact ⟨_, pt_cmpR (op_notInO at_ fn F hr hb) a1 b1 hm, tr_test (tr_in2 a2 b2)⟩

/-! ### len -/
def rLenO (K : PySem.W.Frag) (C : Addr) (g : List OT → ER OT) : List V → Hp → VK → Prop := fun xs H Q => ∃ x, xs = [x] ∧ InsR C x H ∧ spD K 1 g [x] H (fun v H' => ∃ n : Int, v = .int n ∧ 0 ≤ n ∧ n < 2 ^ 63 ∧ Q (.int n) H') fun _ _ _ => False
theorem call_lenO {C g : Addr} {fd : FuncData} {ps : List Str} {j : Nat} {gm : List OT → ER OT} (at_ : PySem.W.findIn X.K (.ref C) "__len__" = some (some (.ref g))) (fn : PySem.W.isFn X.K (.ref g) = true) (F : FnG X.prog X.w X.K X.mg X.base (L2.CX X.prog X.w) j g fd ps (spD X.K 1 gm)) (hr : RoomG (j + 1) X.A) (hb : Binds X.K fd ps []) :
    CallR X (.builtin "len") (rLenO X.K C gm) := by
  intro pins s σ H xs us Q I rv ⟨x, exs, ⟨xa, dx, fs, ex, eh⟩, q⟩
  subst exs
  subst ex
  obtain ⟨u, rfl, ru⟩ := rv.one
  cases (show u = Value.ref xa from ru)
  obtain ⟨ox, od, J⟩ := ins_at I eh
  obtain ⟨m, hF⟩ := I.fr
  refine PySem.W.len_K hF I.ok.mod.kin J at_ fn ?_
  refine wpAny_mono (run_1 (us := [.ref xa]) (vs := [.ref xa]) F hr hb I (.cons rfl .nil) q) (fun w s' z => ?_) fun _ _ x => x
  obtain ⟨z', H', I', rz, n, ez, h0, h1, qz⟩ := z
  subst ez
  obtain ⟨t, rfl⟩ := (show ∃ t, w = Value.int n t from rz)
  exact ⟨⟨h0, h1⟩, .int n, H', I'.tok _, ⟨_, rfl⟩, qz⟩
def mLenO (C : Addr) (g : List OT → ER OT) (a : SD → ER (List D)) : SD → ER D := fun sd => (a sd).bind fun xs sd1 => match xs with
  | [x] => if x.isIns C = true then (match g [.fz x] with
    | .ok (.fz (.int n)) _ => if 0 ≤ n ∧ n < 2 ^ 63 then .ok (.int n) sd1 else .bad
    | _ => .bad) else .bad
  | _ => .bad
theorem dx_lenO {C g : Addr} {fd : FuncData} {ps : List Str} {j : Nat} {gm : List OT → ER OT} {pp : Pos} {m : SD → ER (List D)} (at_ : PySem.W.findIn X.K (.ref C) "__len__" = some (some (.ref g))) (fn : PySem.W.isFn X.K (.ref g) = true) (F : FnG X.prog X.w X.K X.mg X.base (L2.CX X.prog X.w) j g fd ps (spD X.K 1 gm)) (hr : RoomG (j + 1) X.A) (hb : Binds X.K fd ps [])
    (hg : Gl X "len") (hm : X.mg "len" = none) (ha : DA X pv W p true (e :: es) m)
    (he : starEach (e :: es) X.env = (false, eval e X.env) :: starEach es X.env := by rfl) (hpl : (backTo pos (starEach es X.env)).any (·.1) = false := by rfl) : DX X pv W p true (.Call (.Name "len" pp) (e :: es) [] pos) (mLenO C gm m) := by
  obtain ⟨ta, a1, a2⟩ := ha
  refine ⟨_, pe_callB (call_lenO at_ fn F hr hb) hg hm bo_len a1 (by decide) (by decide) he hpl, fun G Fz sd σ H Q s => ?_⟩
  refine Meets.bindL (a2 G Fz sd σ H _ s) fun xs F1 H1 ds sd1 s1 s2 s3 s4 => ?_
  have s3 : Reps X.K F1 xs ds := s3
  split
  · rename_i x _
    obtain ⟨v, rfl, r1⟩ := reps1 s3
    split
    · rename_i hc
      have z := meets_callQ (pv := pv) (W := W) (K := X.K) (f := gm) (Q := fun v H' => ∃ n : Int, v = .int n ∧ 0 ≤ n ∧ n < 2 ^ 63 ∧ Q (.int n) H') s2 (.one r1) rfl
      unfold callFzQ at z
      have e0 : ([x] : List D).map OT.fz = [.fz x] := rfl
      rw [e0] at z
      revert z
      cases e : gm [.fz x] with
      | bad => exact fun _ => True.intro
      | rz _ _ => exact fun _ => True.intro
      | ok t s' =>
        cases t with
        | fz d =>
          cases d with
          | int n =>
            intro z
            show Meets X.K pv W G σ (RSx X.K true) true sd1 F1 H1 (if 0 ≤ n ∧ n < 2 ^ 63 then .ok (.int n) sd1 else .bad) Q _
            split
            · rename_i hn
              intro hQ
              refine ⟨v, rfl, isIns_rep s2.fh r1 hc, z fun w F' H' s1 s2 s3 s4 => ?_⟩
              obtain ⟨o, P, ww, rr, _⟩ := (show StR1 X.K pv G F' sd1 σ H' w (.fz (.int n)) from s3)
              unfold RepO at rr
              cases rr
              exact ⟨n, rfl, hn.1, hn.2, hQ (.int n) F' H' s1 s2 (.int _) s4⟩
            · exact True.intro
          | _ => exact fun _ => True.intro
        | _ => exact fun _ => True.intro
    · exact True.intro
  · exact True.intro

/-! ### o(..) -/
def mCallIns (C : Addr) (g : List OT → ER OT) (o : SD → ER D) (a : SD → ER (List D)) : SD → ER OT := fun sd => (o sd).bind fun x sd1 => if x.isIns C = true then (a sd1).bind fun ds sd2 => callFz g (x :: ds) sd2 else .bad
theorem do_callIns {n j : Nat} {C g : Addr} {fd : FuncData} {ps : List Str} {fe : Expr} {gm : List OT → ER OT} {mo : SD → ER D} {ma : SD → ER (List D)} (c : StX.CallO X.K C g) (F : FnG X.prog X.w X.K X.mg X.base (L2.CX X.prog X.w) j g fd ps (spD X.K (n + 1) gm)) (hr : RoomG j X.A) (hb : Binds X.K fd ps []) (tk : Takes X W)
    (ho : DX X pv W p true fe mo) (ha : DA X pv W q true (e :: es) ma) (hn : ∀ sd ds sd1, ma sd = .ok ds sd1 → ds.length = n)
    (ht : eval (.Call fe (e :: es) [] pos) X.env = (do callWith pos (← eval fe X.env) [] (backTo pos (starEach (e :: es) X.env)) (backToKw pos (keywordEach [] X.env))) := by rfl)
    (he : starEach (e :: es) X.env = (false, eval e X.env) :: starEach es X.env := by rfl) (hpl : (backTo pos (starEach es X.env)).any (·.1) = false := by rfl) : DO X pv W false (.Call fe (e :: es) [] pos) (mCallIns C gm mo ma) := by
  obtain ⟨to, o1, o2⟩ := ho
  obtain ⟨ta, a1, a2⟩ := ha
  refine ⟨fun σ H Q => to σ H fun y H1 => InsR C y H1 ∧ ta σ H1 fun vs H2 => InsR C y H2 ∧ spD X.K (n + 1) gm (y :: vs) H2 Q (WE W σ), ⟨fun pins s σ H Q I h => ?_⟩, fun G Fz sd σ H Q s => ?_⟩
  · refine PyProof.Rows.Call_ (thn (o1.run pins s σ H _ I h) fun u s1 ⟨y, H1, I1, ry, ⟨a, _, _, ey, _⟩, q⟩ => ?_) ht
    subst ey
    obtain rfl : u = Value.ref a := ry
    refine StX.callO_with (thn (a1.run pos pins s1 σ H1 _ I1 q) fun us s2 ⟨vs, H2, I2, r, ⟨a', dx, fs, ea, hi⟩, q2⟩ => ?_) he hpl
    cases ea
    obtain ⟨ox, od, J, hd⟩ := StX.insC_at I2 (.inr ⟨dx, fs, hi⟩)
    exact ⟨⟨C, ox, od, J, hd⟩, wpAny_call (PySem.W.kco_code I2.kIn J hd c.at_ c.fn c.fi (code_G (us := .ref a :: us) (vs := .ref a :: vs) F hr hb (passAt tk σ) I2 (.cons rfl r) q2))⟩
  · refine Meets.bindW (o2 G Fz sd σ H _ s) fun x F1 H1 dx sd1 _ s1 s2 s3 => ?_
    have s3 : Rep X.K F1 x dx := s3
    split
    · rename_i hc
      refine Meets.to (P := ta σ H1 fun us H2 => InsR C x H2 ∧ spD X.K (n + 1) gm (x :: us) H2 Q (WE W σ)) (Meets.bindW (a2 G F1 sd1 σ H1 _ s2) fun us F2 H2 ds sd2 hm t1 t2 t3 => ?_) fun z => ⟨isIns_rep s2.fh s3 hc, z⟩
      have t3 : Reps X.K F2 us ds := t3
      exact Meets.weak (Meets.to (meets_call t2 (.cons (s3.mono t1) t3) (by rw [List.length_cons, hn _ _ _ hm])) fun z => ⟨isIns_rep t2.fh (s3.mono t1) hc, z⟩)
    · exact True.intro
end
end DL

/-! DL22: repr of data. -/
namespace DL
open PySem PySem.Spec L2
section
variable {X : Cx} {pins : List (Addr × Obj)} {σ : L2.St} {F H : Hp} {s : Shared}
mutual
theorem rep_reads (I : Inv X pins σ H s) (e : Same F H) : ∀ {v : V} {d : D} {p : PyData} {u : Value}, Rep X.K F v d → d.py = some p → RelV v u → ∃ as, Reads s.heap u p as
  | _, _, p, u, .non, h, r => by
    rw [D.py] at h; cases h
    cases (show u = Value.none from r)
    exact ⟨_, .none⟩
  | _, _, p, u, .bl b, h, r => by
    rw [D.py] at h; cases h
    cases (show u = Value.bool b from r)
    exact ⟨_, .bool b⟩
  | _, _, p, u, .int i, h, r => by
    rw [D.py] at h; cases h
    obtain ⟨t, rfl⟩ := (show ∃ t, u = Value.int i t from r)
    exact ⟨_, .int i t⟩
  | _, _, p, u, .str x, h, r => by
    rw [D.py] at h; cases h
    obtain ⟨t, rfl⟩ := (show ∃ t, u = Value.str x t from r)
    exact ⟨_, .str x t⟩
  | _, _, p, u, .ty n, h, r => by simp [D.py] at h
  | _, _, p, u, .cls C, h, r => by simp [D.py] at h
  | _, _, p, u, .tup (a := a) (ds := ds) q rr, h, r => by
    rw [D.py] at h
    cases (show u = Value.ref a from r)
    cases e1 : D.pys ds with
    | none => rw [e1] at h; cases h
    | some ps =>
      rw [e1] at h; cases h
      obtain ⟨its, rv, ⟨o, ho, hc, n, hd⟩, hz⟩ := I.tuple (.inl (.inl (e _ _ q)))
      obtain ⟨as, ra⟩ := reps_reads I e rr e1 rv
      exact ⟨_, .tuple ho hc hd ra⟩
  | _, _, p, u, .ktu (a := a) (ds := ds) q rr, h, r => by
    rw [D.py] at h
    cases (show u = Value.ref a from r)
    cases e1 : D.pys ds with
    | none => rw [e1] at h; cases h
    | some ps =>
      rw [e1] at h; cases h
      obtain ⟨its, rv, ⟨o, ho, hc, n, hd⟩, hz⟩ := I.tuple (Same.sqt e q)
      obtain ⟨as, ra⟩ := reps_reads I e rr e1 rv
      exact ⟨_, .tuple ho hc hd ra⟩
  | _, _, p, u, .lst (a := a) (ds := ds) q rr, h, r => by
    rw [D.py] at h
    cases (show u = Value.ref a from r)
    cases e1 : D.pys ds with
    | none => rw [e1] at h; cases h
    | some ps =>
      rw [e1] at h; cases h
      obtain ⟨z, its, n, rv, hl, ho⟩ := rd_list I (Same.rd e q)
      obtain ⟨as, ra⟩ := reps_reads I e rr e1 rv
      exact ⟨_, .list ho rfl rfl ra⟩
  | _, _, p, u, .scr q, h, r => by simp [D.py] at h
  | _, _, p, u, .dicK q rr, h, r => by simp [D.py] at h
  | _, _, p, u, .dicT q rr, h, r => by simp [D.py] at h
  | _, _, p, u, .ins q rr, h, r => by simp [D.py] at h
  | _, _, p, u, .exc _ _ _ _, h, r => by simp [D.py] at h
theorem reps_reads (I : Inv X pins σ H s) (e : Same F H) : ∀ {vs : List V} {ds : List D} {ps : List PyData} {us : List Value}, Reps X.K F vs ds → D.pys ds = some ps → Vals vs us → ∃ as, ReadsAll s.heap us ps as
  | _, _, ps, us, .nil, h, r => by
    rw [D.pys] at h; cases h
    cases r
    exact ⟨_, .nil⟩
  | _, _, ps, us, .cons (d := d) (ds := ds) r1 r2, h, r => by
    rw [D.pys] at h
    cases r with
    | cons q1 q2 =>
      cases e1 : d.py with
      | none => rw [e1] at h; cases h
      | some p =>
        rw [e1] at h
        cases e2 : D.pys ds with
        | none => rw [e2] at h; cases h
        | some qs =>
          rw [e2] at h; cases h
          obtain ⟨as, k1⟩ := rep_reads I e r1 e1 q1
          obtain ⟨bs, k2⟩ := reps_reads I e r2 e2 q2
          exact ⟨_, .cons k1 k2⟩
end
end
mutual
theorem py_plain : ∀ {d : D} {p : PyData}, d.py = some p → p.hasDict = false
  | .non, p, h => by rw [D.py] at h; cases h; rfl
  | .bl _, p, h => by rw [D.py] at h; cases h; rfl
  | .int _, p, h => by rw [D.py] at h; cases h; rfl
  | .str _, p, h => by rw [D.py] at h; cases h; rfl
  | .tup ds, p, h => by
    rw [D.py] at h
    obtain ⟨ps, e, h⟩ := Option.map_eq_some_iff.mp h
    subst h
    rw [PyData.hasDict]
    exact pys_plain e
  | .ktu ds, p, h => by
    rw [D.py] at h
    obtain ⟨ps, e, h⟩ := Option.map_eq_some_iff.mp h
    subst h
    rw [PyData.hasDict]
    exact pys_plain e
  | .lst ds, p, h => by
    rw [D.py] at h
    obtain ⟨ps, e, h⟩ := Option.map_eq_some_iff.mp h
    subst h
    rw [PyData.hasDict]
    exact pys_plain e
  | .ty _, p, h => by simp [D.py] at h
  | .cls _, p, h => by simp [D.py] at h
  | .scr _, p, h => by simp [D.py] at h
  | .dic _ _ _, p, h => by simp [D.py] at h
  | .ins _ _ _, p, h => by simp [D.py] at h
  | .exc _ _ _, p, h => by simp [D.py] at h
theorem pys_plain : ∀ {ds : List D} {ps : List PyData}, D.pys ds = some ps → PyData.hasDictAll ps = false
  | [], ps, h => by rw [D.pys] at h; cases h; rfl
  | d :: ds, ps, h => by
    rw [D.pys] at h
    obtain ⟨p, e1, h⟩ := Option.bind_eq_some_iff.mp h
    obtain ⟨qs, e2, h⟩ := Option.map_eq_some_iff.mp h
    subst h
    rw [PyData.hasDictAll, py_plain e1, pys_plain e2]
    rfl
end
def dRepr : List D → Option D
  | [d] => d.py.bind fun p => if p.showable = true ∧ p.depth ≤ 40 ∧ p.shown.length ≤ 16777216 then some (.str p.shown) else none
  | _ => none
def rRepr (K : PySem.W.Frag) : List V → Hp → VK → Prop := fun xs H Q => ∃ (v : V) (F : Hp) (d : D) (p : PyData), xs = [v] ∧ Same F H ∧ Rep K F v d ∧ d.py = some p ∧ p.showable = true ∧ p.depth ≤ 40 ∧ p.shown.length ≤ 16777216 ∧ Q (.str p.shown) H
theorem call_reprX {X : Cx} (g : X.A.guards = some []) (hu : X.A.units + 64 < cLine) : CallR X (.builtin "repr") (rRepr X.K) := by
  intro pins s σ H xs us Q I rv ⟨v, F, d, p, exs, e, r, hp, h1, h2, h3, q⟩
  subst exs
  obtain ⟨u, rfl, ru⟩ := rv.one
  have h3 : p.shown.length ≤ sizeLine := by rw [sizeLine_eq]; exact h3
  have fin : ∀ (h' : Heap) (t : Tok) (tk : Nat), (∀ b o, s.heap.get? b = some o → h'.get? b = some o) → EP X pins σ Q (.str p.shown t) { s with heap := h', toks := tk } := fun h' t tk k => ⟨.str p.shown, H, I.kept k, ⟨t, rfl⟩, q⟩
  obtain ⟨as, rd⟩ := rep_reads I e r hp ru
  cases u with
  | ref a => exact repr_of_reads' rd h1 (fun z => by rw [py_plain hp] at z; cases z) g (by omega) (fun _ _ x => x) (fun h' t tk k => fin h' t tk k) h3
  | none => cases rd; exact P.repr_of_none (fin s.heap _ _ fun _ _ x => x)
  | bool b => cases rd; exact P.repr_of_bool (fin s.heap _ _ fun _ _ x => x)
  | int i t =>
    cases rd
    have : i.natAbs.log2 < 1920 := by simpa [PyData.showable] using h1
    exact P.repr_of_int this (fin s.heap _ _ fun _ _ x => x)
  | str x t => cases rd; exact P.repr_of_str (fin s.heap _ _ fun _ _ x => x) h3
  | _ => cases rd
theorem f_repr {K : PySem.W.Frag} : CallS K (rRepr K) dRepr := by
  intro H xs ds c r h
  unfold dRepr at h
  split at h
  · rename_i d
    obtain ⟨v, rfl, r1⟩ := reps1 r
    obtain ⟨p, hp, h⟩ := Option.bind_eq_some_iff.mp h
    split at h
    · rename_i hc
      cases h
      exact ⟨_, rfl, fun Q q => ⟨v, H, d, p, rfl, Same.refl _, r1, hp, hc.1, hc.2.1, hc.2.2, q⟩⟩
    · cases h
  · cases h
end DL

/-! DL23: methods' facts; int(..); constants of the module; three names at once. -/
namespace DL
open PySem PySem.Spec L2
/-- a method as it stands in its class -/
structure Fm (K : PySem.W.Frag) (x q : Str) (st : Stmt) (f : Addr) (fd : FuncData) (ps : List Str) : Prop where
  F : Fun K x q st f fd
  b : Binds K fd ps []
def dInt1 : List D → Option D
  | [.int i] => some (.int i)
  | [.bl b] => some (.int (if b = true then 1 else 0))
  | _ => none
def rInt1 : List V → Hp → VK → Prop := fun xs H Q => (∃ i, xs = [.int i] ∧ Q (.int i) H) ∨ ∃ k, xs = [.bl k] ∧ Q (.int (if k then 1 else 0)) H
theorem call_int1X {X : Cx} : CallR X (.type "int") rInt1 := call_int1
theorem f_int1 {K : PySem.W.Frag} : CallS K rInt1 dInt1 := by
  intro H xs ds c r h
  unfold dInt1 at h
  split at h
  · obtain ⟨v, rfl, r1⟩ := reps1 r
    cases r1; cases h
    exact ⟨_, rfl, fun Q q => .inl ⟨_, rfl, q⟩⟩
  · obtain ⟨v, rfl, r1⟩ := reps1 r
    cases r1; cases h
    exact ⟨_, rfl, fun Q q => .inr ⟨_, rfl, q⟩⟩
  · cases h
def sPar3 (i j l : Nat) (ma mb mc : SD → ER OT) : SD → Fl := fun sd => (ma sd).stm fun t sd1 => (mb sd1).stm fun u sd2 => (mc sd2).stm fun w sd3 => if i < sd3.sl.length ∧ j < sd3.sl.length ∧ l < sd3.sl.length then .nx { sd3 with sl := ((sd3.sl.set i (.ow t)).set j (.ow u)).set l (.ow w) } else .bad
section
variable {X : Cx} {pv : List V} {W : WX} {p q r k l : Bool} {e a b c : Expr} {es : List Expr} {pos : Pos}
theorem ds_par3 {i j l : Nat} {x y z : Str} {px py pz pt pt2 : Pos} {kt k2 : Nat} {ma mb mc : SD → ER OT} (hc : X.calm = true) (hN : X.N.Nodup) (hi : X.N[i]? = some x) (hj : X.N[j]? = some y) (hl : X.N[l]? = some z) (hij : i ≠ j) (hil : i ≠ l) (hjl : j ≠ l)
    (hx : X.env.scope.names.lookup x = some .local) (hy : X.env.scope.names.lookup y = some .local) (hz : X.env.scope.names.lookup z = some .local) (ha : DO X pv W p a ma) (hb : DO X pv W q b mb) (hd : DO X pv W r c mc)
    (hw : swappedStores [.Tuple [.Name x px, .Name y py, .Name z pz] kt pt] (.Tuple [a, b, c] k2 pt2) X.env = pure (some [x, y, z]))
    (hs : swapsWithSole [.Tuple [.Name x px, .Name y py, .Name z pz] kt pt] (.Tuple [a, b, c] k2 pt2) pos.line X.env = pure false := by rfl)
    (hs1 : starEach [a, b, c] X.env = (false, eval a X.env) :: starEach [b, c] X.env := by rfl) (hs2 : starEach [b, c] X.env = (false, eval b X.env) :: starEach [c] X.env := by rfl) (hs3 : starEach [c] X.env = (false, eval c X.env) :: starEach [] X.env := by rfl) :
    DS X pv W (.Assign [.Tuple [.Name x px, .Name y py, .Name z pz] kt pt] (.Tuple [a, b, c] k2 pt2) pos) (sPar3 i j l ma mb mc) := by
  obtain ⟨ta, a1, a2⟩ := ha
  obtain ⟨tb, b1, b2⟩ := hb
  obtain ⟨tc, c1, c2⟩ := hd
  refine ⟨_, ps_par3 hc hN hi hj hl hij hil hjl hx hy hz (pa_cons a1 (pa_cons b1 (pa_cons c1 pa_nil hs3) hs2) hs1) hw hs, fun G F sd σ H D s => ?_⟩
  refine Meets.stm (a2 G F sd σ H _ s) fun v F1 H1 t sd1 s1 s2 s3 => ?_
  obtain ⟨G', g1, g2, g3⟩ := StR1.hide s3
  have z := (b2 G' F1 sd1 σ H1 (fun w H2 => tc σ H2 fun y H3 => ∃ a b c, [v, w, y] = [a, b, c] ∧ D.nx (((σ.set i (some a)).set j (some b)).set l (some c)) H3) g2).unhide g3
  refine MeetsS.imp (Meets.stm z (f := fun u sd2 => (mc sd2).stm fun w sd3 => if i < sd3.sl.length ∧ j < sd3.sl.length ∧ l < sd3.sl.length then .nx { sd3 with sl := ((sd3.sl.set i (.ow t)).set j (.ow u)).set l (.ow w) } else .bad) (D := D) fun w F2 H2 u sd2 t1 t2 t3 => ?_) id
  obtain ⟨t3, t4⟩ := t3
  have t4 : StR1 X.K pv G' F2 sd2 σ H2 w u := t4
  obtain ⟨G2, k1, k2, k3⟩ := StR1.hide t4
  have z2 := ((c2 G2 F2 sd2 σ H2 (fun y H3 => ∃ a b c, [v, w, y] = [a, b, c] ∧ D.nx (((σ.set i (some a)).set j (some b)).set l (some c)) H3) k2).unhide k3).unhide (G := G) (v := v) (t := t) fun F' sd' σ' H' f st => g3 F' sd' σ' H' (t1.trans f) st
  refine Meets.stm z2 fun y F3 H3 x3 sd3 u1 u2 u3 => ?_
  obtain ⟨u3, u4, u5⟩ := u3
  have u5 : StR1 X.K pv G2 F3 sd3 σ H3 y x3 := u5
  split
  · rename_i hl
    intro hQ
    have q1 := u5.store hl.2.2
    have q2 := (k3 F3 _ _ H3 u1 q1).store (i := j) (by show j < (sd3.sl.set l (S.ow x3)).length; rw [List.length_set]; exact hl.2.1)
    have q3 := (g3 F3 _ _ H3 (t1.trans u1) q2).store (i := i) (by show i < ((sd3.sl.set l (S.ow x3)).set j (S.ow u)).length; rw [List.length_set, List.length_set]; exact hl.1)
    have e1 : ((sd3.sl.set l (S.ow x3)).set j (S.ow u)).set i (S.ow t) = ((sd3.sl.set i (S.ow t)).set j (S.ow u)).set l (S.ow x3) := by
      rw [List.set_comm _ _ (Ne.symm hjl), List.set_comm _ _ (Ne.symm hil), List.set_comm _ _ (Ne.symm hij)]
    have e2 : (((σ.set l (some y)).set j (some w)).set i (some v) : L2.St) = ((σ.set i (some v)).set j (some w)).set l (some y) := by
      rw [List.set_comm _ _ (Ne.symm hjl), List.set_comm _ _ (Ne.symm hil), List.set_comm _ _ (Ne.symm hij)]
    have q3 : StR X.K pv G F3 { sd3 with sl := ((sd3.sl.set l (S.ow x3)).set j (S.ow u)).set i (S.ow t) } (((σ.set l (some y)).set j (some w)).set i (some v)) H3 := q3
    rw [e1, e2] at q3
    exact ⟨v, w, y, rfl, hQ F3 _ H3 (Same.refl _) q3⟩
  · exact True.intro
/-- a constant of the module -/
theorem dx_const {x : Str} {v : V} {d : D} {pp : Pos} (hg : Gl X x) (hm : ∃ u, X.mg x = some u ∧ RelV v u) (hr : ∀ F, Rep X.K F v d) (hd : (x == ("__debug__" : Str)) = false := by decide) : DX X pv W true true (.Name x pp) (mC d) := by
  obtain ⟨u, h1, h2⟩ := hm
  exact dx_glob hg h1 h2 hr hd
/-- an own class by its name -/
theorem dx_cls {x : Str} {C : Addr} {pp : Pos} (hg : Gl X x) (hm : X.mg x = some (.ref C)) (hd : (x == ("__debug__" : Str)) = false := by decide) : DX X pv W true true (.Name x pp) (mC (.cls C)) := dx_glob hg hm (v := .ref C) rfl (fun _ => .cls C) hd
end
/-! ### isinstance's answers -/
theorem kit_sub {K : PySem.W.Frag} {C : Addr} {n : String} (h1 : PySem.W.isClsIn K C = true) (h2 : PySem.W.typeIn K (.ref C) = some (.type "type")) (h3 : PySem.W.subIn K (.type n) (.ref C) = some false) : PySem.W.kitOne K (.type n) (.ref C) = some false := by
  have e : (Value.type n == Value.ref C) = false := Bool.eq_false_iff.mpr fun q => by cases beq_iff_eq.mp q
  have h1 : (PySem.W.clsIn K C).isSome = true := h1
  unfold PySem.W.kitOne PySem.W.kitCls
  rw [e]
  simp [h1, h2, h3]
theorem kit_self {K : PySem.W.Frag} {C : Addr} : PySem.W.kitOne K (.ref C) (.ref C) = some true := by
  unfold PySem.W.kitOne
  rw [if_pos (by simp)]
theorem sub_ne {K : PySem.W.Frag} {C D : Addr} (h3 : PySem.W.subIn K (.ref D) (.ref C) = some false) (h4 : PySem.W.subIn K (.ref C) (.ref C) = some true) : (D == C) = false := Bool.eq_false_iff.mpr fun q => by
  have q := beq_iff_eq.mp q
  subst q
  rw [h3] at h4
  cases h4
theorem kit_oth {K : PySem.W.Frag} {C D : Addr} (h1 : PySem.W.isClsIn K C = true) (h2 : PySem.W.typeIn K (.ref C) = some (.type "type")) (h3 : PySem.W.subIn K (.ref D) (.ref C) = some false) (h4 : PySem.W.subIn K (.ref C) (.ref C) = some true) : PySem.W.kitOne K (.ref D) (.ref C) = some false := by
  have e : (Value.ref D == Value.ref C) = false := Bool.eq_false_iff.mpr fun q => by
    have q : D = C := by cases beq_iff_eq.mp q; rfl
    have z := sub_ne h3 h4
    rw [q] at z
    simp at z
  have h1 : (PySem.W.clsIn K C).isSome = true := h1
  unfold PySem.W.kitOne PySem.W.kitCls
  rw [e]
  simp [h1, h2, h3]
end DL

namespace DL
open PySem PySem.Spec L2
/-! ### how long the repr of data is -/
mutual
def szP : PyData → Nat
  | .none => 5
  | .bool _ => 5
  | .int _ => 1921
  | .str x => (reprText x).length
  | .list xs => szA xs + 4
  | .tuple xs => szA xs + 4
  | .dict kvs => (PyData.shown (.dict kvs)).length
def szA : List PyData → Nat
  | [] => 0
  | x :: xs => szP x + 2 + szA xs
end
def szT : List Str → Nat
  | [] => 0
  | t :: r => t.length + 2 + szT r
theorem textFrom_sz : ∀ (ts : List Str) (k : Nat) (acc : Str), (textFrom k acc ts).length ≤ acc.length + szT ts
  | [], k, acc => Nat.le_refl _
  | t :: r, k, acc => by
    have h := textFrom_sz r (k + 1) (acc ++ (if k > 0 then ", " else "" : String) ++ t)
    have e : (acc ++ (if k > 0 then ", " else "" : String) ++ t).length = acc.length + (if k > 0 then 2 else 0) + t.length := by
      rw [strLen_append, strLen_append]
      by_cases hk : k > 0
      · rw [if_pos hk, if_pos hk]; rfl
      · rw [if_neg hk, if_neg hk]; rfl
    rw [e] at h
    show (textFrom (k + 1) (acc ++ (if k > 0 then ", " else "" : String) ++ t) r).length ≤ _
    rw [szT]
    have : (if k > 0 then 2 else 0) ≤ 2 := by split <;> omega
    omega
theorem listText_sz (ts : List Str) : (listText ts).length ≤ szT ts + 2 := by
  unfold listText
  rw [strLen_append]
  have h := textFrom_sz ts 0 "["
  have e1 : (("[" : String) : Str).length = 1 := rfl
  have e2 : (("]" : String) : Str).length = 1 := rfl
  rw [e1] at h
  rw [e2]
  omega
theorem piled_sz : ∀ ts : List Str, piled ts ≤ szT ts
  | [] => by simp [piled]
  | t :: r => by
    have := piled_sz r
    rw [szT]
    simp [piled] at this ⊢
    omega
theorem tupleText_sz (ts : List Str) : (tupleText ts).length ≤ szT ts + 4 := by
  unfold tupleText
  rw [strLen_append, strLen_append]
  have e1 : (("(" : String) : Str).length = 1 := rfl
  have e2 : (((if ts.length == 1 then ",)" else ")" : String)) : Str).length ≤ 2 := by
    split
    · exact Nat.le_refl 2
    · exact Nat.le_succ 1
  rw [e1]
  cases ts with
  | nil =>
    have e3 : (Str.join ", " []).length = 0 := rfl
    omega
  | cons t r =>
    have h := join_length_add (t :: r) (by simp)
    have := piled_sz (t :: r)
    omega
mutual
theorem shown_sz : ∀ {d : PyData}, d.showable = true → d.shown.length ≤ szP d
  | .none, _ => by rw [PyData.shown, szP]; exact Nat.le_succ 4
  | .bool b, _ => by
    rw [PyData.shown, szP]
    cases b
    · exact Nat.le_refl 5
    · exact Nat.le_succ 4
  | .int i, h => by
    rw [PyData.showable] at h
    rw [PyData.shown, szP]
    exact PyProof.Rows.int_text_len_1921 (of_decide_eq_true h)
  | .str x, _ => by rw [PyData.shown, szP]; exact Nat.le_refl _
  | .list xs, h => by
    rw [PyData.showable] at h
    rw [PyData.shown, szP]
    have := listText_sz (PyData.shownAll xs)
    have := shownAll_sz h
    omega
  | .tuple xs, h => by
    rw [PyData.showable] at h
    rw [PyData.shown, szP]
    have := tupleText_sz (PyData.shownAll xs)
    have := shownAll_sz h
    omega
  | .dict kvs, _ => by rw [szP]; exact Nat.le_refl _
theorem shownAll_sz : ∀ {ds : List PyData}, PyData.showableAll ds = true → szT (PyData.shownAll ds) ≤ szA ds
  | [], _ => by rw [PyData.shownAll, szT, szA]; exact Nat.le_refl 0
  | d :: ds, h => by
    rw [PyData.showableAll] at h
    have h := (Bool.and_eq_true _ _).mp h
    have h1 := shown_sz h.1
    have h2 := shownAll_sz h.2
    rw [PyData.shownAll, szT, szA]
    omega
end
theorem dRepr_of {d : D} {p : PyData} (h : d.py = some p) (h1 : p.showable = true) (h2 : p.depth ≤ 40) (h3 : szP p ≤ 16777216) : dRepr [d] = some (.str p.shown) := by
  have := shown_sz h1
  show d.py.bind _ = _
  rw [h]
  show (if p.showable = true ∧ p.depth ≤ 40 ∧ p.shown.length ≤ 16777216 then some (D.str p.shown) else none) = _
  rw [if_pos ⟨h1, h2, by omega⟩]
/-! ### tuples of integers are alike -/
def tI (ns : List Int) : D := .tup (ns.map .int)
theorem pys_int : ∀ ns : List Int, D.pys (ns.map D.int) = some (ns.map PyData.int)
  | [] => rfl
  | n :: r => by rw [List.map_cons, D.pys, pys_int r]; rfl
theorem lay_int : ∀ ns : List Int, PyData.canLayAll0 (ns.map PyData.int) = true
  | [] => rfl
  | n :: r => by rw [List.map_cons, PyData.canLayAll0, lay_int r]; rfl
theorem dep_int : ∀ ns : List Int, PyData.depthAll (ns.map PyData.int) = 0
  | [] => rfl
  | n :: r => by rw [List.map_cons, PyData.depthAll, dep_int r]; rfl
theorem eqv_int : ∀ ns ms : List Int, PyData.eqvAll (ns.map PyData.int) (ms.map PyData.int) = decide (ns = ms)
  | [], [] => by simp [PyData.eqvAll]
  | [], _ :: _ => by simp [PyData.eqvAll]
  | _ :: _, [] => by simp [PyData.eqvAll]
  | n :: ns, m :: ms => by
    rw [List.map_cons, List.map_cons, PyData.eqvAll, eqv_int ns ms, PyData.eqv]
    by_cases h : n = m <;> simp [h]
theorem tI_py (ns : List Int) : (tI ns).py = some (.tuple (ns.map PyData.int)) := by
  unfold tI
  rw [D.py, pys_int]
  rfl
theorem tI_shaped (ns : List Int) : SeqAt.shaped (.tuple (ns.map PyData.int)) = true := by
  have h1 : PyData.canLay0 (.tuple (ns.map PyData.int)) = true := lay_int ns
  have h2 : PyData.depth (.tuple (ns.map PyData.int)) = 1 := by rw [PyData.depth, dep_int]
  unfold SeqAt.shaped
  rw [h1, h2]
  rfl
theorem eq_tI (ns ms : List Int) : dEqB (tI ns) (tI ms) = some (decide (ns = ms)) := by
  have z : dEqB (tI ns) (tI ms) = match (tI ns).py, (tI ms).py with
    | some p, some q => if (SeqAt.shaped p && SeqAt.shaped q) = true then some (PyData.eqv p q) else none
    | _, _ => none := rfl
  rw [z, tI_py, tI_py]
  dsimp only
  rw [tI_shaped, tI_shaped]
  show some (PyData.eqvAll _ _) = _
  rw [eqv_int]
theorem eqB_int (i j : Int) : dEqB (.int i) (.int j) = some (decide (i = j)) := rfl
theorem eqB_str (i j : Str) : dEqB (.str i) (.str j) = some (decide (i = j)) := rfl
theorem eqB_bl (i j : Bool) : dEqB (.bl i) (.bl j) = some (decide (i = j)) := rfl
theorem eq_2 (a b c d : Int) : dEqB (.tup [.int a, .int b]) (.tup [.int c, .int d]) = some (decide (a = c) && decide (b = d)) := by
  have := eq_tI [a, b] [c, d]
  simpa [tI] using this
theorem eq_3 (a b c d e f : Int) : dEqB (.tup [.int a, .int b, .int c]) (.tup [.int d, .int e, .int f]) = some (decide (a = d) && (decide (b = e) && decide (c = f))) := by
  have := eq_tI [a, b, c] [d, e, f]
  simpa [tI] using this
end DL

/-! DL25: sorted(set(l)) of a list of ints of any length. -/
namespace DL
open PySem PySem.Spec L2 PyProof.Rows
abbrev bareSet (w : World) : Obj := { cls := .type "set", dict := none, data := .set #[] 0 (.fresh 0 0 (!w.params.followText "set-order")) }
section
variable {P : Program} {w : World} {A : Around} {E : Value → Shared → Prop} {s : Shared}
set_option maxHeartbeats 3200000 in
theorem fill_list {S l : Addr} {us : Array Value} {ns : List Int} {nm : String} {Q : Unit → Shared → Prop} (hh : A.in1.handled = none) (ho : s.heap.get? S = some (bareSet w)) (hl : s.heap.IsList l us) (hi : IntsAre us.toList ns) (hb : ns.length + 1 < scanBound)
    (h : ∀ h' tk c, SetR w h' S (fun j => decide (j ∈ ns)) c → c ≤ ns.length → (∀ b o, b ≠ S → s.heap.get? b = some o → h'.get? b = some o) → Q () { s with heap := h', toks := tk }) :
    wpAny (model P w) A (Builtin.Frozenset.updateFrom nm S (.ref l)) Q E s := by
  have len : us.size = ns.length := by rw [← Array.length_toList]; exact hi.length
  have hl0 := hl
  obtain ⟨o, el, ec, k, ed⟩ := hl
  have ne : l ≠ S := fun e => by
    rw [e, ho] at el
    cases el
    exact absurd (show Value.type "set" = Value.type "list" from ec) (by decide)
  unfold Builtin.Frozenset.updateFrom
  generalize e0 : pyIter = it0
  obtain ⟨c1, c2, c3, c4⟩ := o
  simp only at ec ed
  subst ec ed
  have n1 := F.sub_list_set
  have n2 := F.sub_list_frozenset
  have n3 : (Value.type "list" == Value.type "dict") = false := by decide
  wp_walk
  subst e0
  refine wpAny_pyIter_list hl0 ?_
  refine wpAny_bind (wpAny_runValue ?_)
  have small : S < s.heap.objs.size ∧ l < s.heap.objs.size := ⟨Heap.lt_size ho, Heap.lt_size el⟩
  have far1 : l ≠ s.heap.objs.size := Nat.ne_of_lt small.2
  have far2 : S ∉ [s.heap.objs.size, l] := by
    intro hm
    rcases List.mem_cons.mp hm with e | e
    · exact Nat.ne_of_lt small.1 e
    · exact ne (List.mem_singleton.mp e).symm
  have each : ∀ (i : Nat) (v : Value), us[i]? = some v → ∃ z t, ns[i]? = some z ∧ v = .int z t := by
    intro i v hv
    obtain ⟨t, e⟩ := IntsAre.int_at hi i v (by rw [Array.getElem?_toList]; exact hv)
    have lt : i < ns.length := len ▸ (Array.getElem?_eq_some_iff.mp hv).1
    exact ⟨ns[i], t, List.getElem?_eq_getElem lt, by rw [e, List.getD_eq_getElem?_getD, List.getElem?_eq_getElem lt]; rfl⟩
  refine set_update_ints ((Walks.list hh _ l far1 us).toS) S far2 ns len hb each us.size 0 _ rfl (Nat.zero_le _) ⟨⟨_, Heap.get?_push_size _ rfl, rfl, rfl⟩, hl0.push _⟩ ⟨0, Nat.le_refl 0, setR_new_at (Heap.get?_push_of_some _ ho)⟩ fun s' c mv cn hS => ?_
  obtain ⟨hp, gg, dd, tt, oo⟩ := s'
  cases (show gg = s.gens from mv.gens)
  cases (show dd = s.drawn from mv.drawn)
  cases (show oo = s.os from mv.os)
  refine wpAny_pure (h hp tt c hS (len ▸ cn) fun b u hb e => mv.heap b u (fun hm => ?_) (Heap.get?_push_of_some _ e))
  have := Heap.lt_size e
  rcases List.mem_cons.mp hm with z | z
  · exact hb z
  · exact Nat.ne_of_lt this (List.mem_singleton.mp z)
end
end DL

/-! DL26: the call of set on a value. -/
namespace DL
open PySem PySem.Spec L2 PyProof.Rows
set_option maxHeartbeats 3200000
section
variable {P : Program} {w : World} {A : Around} {E : Value → Shared → Prop} {s : Shared}
set_option maxHeartbeats 3200000 in
/-- set(x), from what its __init__ does with the bare set -/
theorem set_call {x : Value} {Q : Value → Shared → Prop}
    (init : wpAny (model P w) A.in1.in1 (Builtin.«set.__init__» ⟨[.ref s.heap.objs.size, x], []⟩) (fun fin s' => fin = .done (.ret .none) ∧ Q (.ref s.heap.objs.size) s') E { s with heap := s.heap.push (bareSet w) }) :
    wpAny (model P w) A (call (.type "set") [x]) Q E s := by
  have C := F.called_set
  obtain ⟨b0, b1, mro⟩ := C.mro
  obtain ⟨k1, k2, k3, k4, k5⟩ : _ ∧ _ ∧ _ ∧ _ ∧ _ := ⟨C.made, C.sub, C.notType, C.canCreate, F.typeCall_set_1 x⟩
  refine codeAny_of_tree (wpAny_pure ⟨Code.quiet_builtin _ (by decide +kernel), codeAny_builtin F.entry_type_call ?_⟩) |> wpAny_call
  rw [Around.under_plain (weight_type_call_type "set" [x] []) rfl]
  have make := code_set_led1 (P := P) (w := w) (A := A.in1) (s := s) (E := E) (Q₁ := fun v s₁ => v = .ref s.heap.objs.size ∧ s₁ = { s with heap := s.heap.push (bareSet w) }) x ⟨rfl, rfl⟩
  repeat (any_goals (first | assumption | wp_step))
  refine codeAny_mono make fun r s₁ hr => ?_
  match r, hr with
  | .ok (.ret v), hr =>
    obtain ⟨ev, es⟩ := hr
    subst ev es
    have ty : Shared.TypeIs { s with heap := s.heap.push (bareSet w) } (.ref s.heap.objs.size) "set" := ⟨_, Heap.get?_push_size _ rfl, rfl⟩
    obtain ⟨i1, i2⟩ : _ ∧ _ := ⟨C.init.lookup, C.init.bind (.ref s.heap.objs.size)⟩
    repeat (any_goals (first | assumption | wp_step))
    refine codeAny_mono (codeAny_call_builtin (R := wants (fun z s₂ => z = .none ∧ Q (.ref s.heap.objs.size) s₂) E) C.init.plain F.entry_set_init (check_set_init_1 ty (wpAny_mono init (fun fin s' hf => ?_) fun _ _ e => e))) fun z s₂ hz => ?_
    · obtain ⟨rfl, hq⟩ := hf
      exact ⟨rfl, hq⟩
    · match z, hz with
      | .ok (.ret z), hz =>
        obtain ⟨rfl, hq⟩ := hz
        repeat (any_goals (first | assumption | wp_step))
      | .error e, hz => exact hz
  | .error e, hr => exact hr
/-- set(l) of a list of integers -/
theorem set_of_list {l : Addr} {us : Array Value} {ns : List Int} {Q : Value → Shared → Prop} (hh : A.handled = none) (hl : s.heap.IsList l us) (hi : IntsAre us.toList ns) (hb : ns.length + 1 < scanBound)
    (h : ∀ h' tk c, SetR w h' s.heap.objs.size (fun j => decide (j ∈ ns)) c → c ≤ ns.length → (∀ b o, s.heap.get? b = some o → h'.get? b = some o) → Q (.ref s.heap.objs.size) { s with heap := h', toks := tk }) :
    wpAny (model P w) A (call (.type "set") [.ref l]) Q E s := by
  refine set_call ?_
  have top : (s.heap.push (bareSet w)).get? s.heap.objs.size = some (bareSet w) := Heap.get?_push_size _ rfl
  have ty : Shared.TypeIs { s with heap := s.heap.push (bareSet w) } (.ref s.heap.objs.size) "set" := ⟨_, top, rfl⟩
  unfold Builtin.«set.__init__» noKeywords
  generalize e0 : Builtin.Frozenset.updateFrom = up0
  wp_walk
  subst e0
  refine fill_list (by simp [hh]) top (hl.push _) hi hb fun h' tk c r1 r2 r3 => ?_
  exact wpAny_pure ⟨rfl, h h' tk c r1 r2 fun b o e => r3 b o (Nat.ne_of_lt (Heap.lt_size e)) (Heap.get?_push_of_some _ e)⟩
end
end DL

/-! DL27: sorted(set(l)), len(set(l)). -/
set_option maxHeartbeats 3200000
namespace DL
open PySem PySem.Spec L2 PyProof.Rows
section
variable {P : Program} {w : World} {A : Around} {E : Value → Shared → Prop} {s : Shared}
/-- sorted of a set of integers, however many -/
theorem sorted_any {a : Addr} {S : Int → Bool} {n : Nat} {Q : Value → Shared → Prop} (R : SetR w s.heap a S n) (hh : A.handled = none)
    (hQ : ∀ (s' : Shared) (p : Addr) (out : List Value) (c : Nat) (ms : List Int), (∀ b o, s.heap.get? b = some o → s'.heap.get? b = some o) → s'.gens = s.gens → s'.os = s.os → s.heap.objs.size ≤ p →
      s'.heap.get? p = some (seqObj "list" out.toArray c) → IntsAre out ms → ms.Pairwise (· < ·) → (∀ k, k ∈ ms ↔ S k = true) → ms.length = n → n ≤ sizeLine → Q (.ref p) s') : wpAny (model P w) A (call (.builtin "sorted") [.ref a]) Q E s := by
  obtain ⟨ob, tab, ep, t, r1, r2, r3, good, nodup, mem, small, fit, cnt, ris, led⟩ := R
  have zl : n ≤ sizeLine := cnt ▸ fits_of_scanBound small
  refine Calls.call_function_entry kind_sorted plain_sorted entry_sorted (args_sorted1 _) ?_
  unfold Builtin.«sorted»
  refine wpAny_bind (m := checkCount "sorted" 1 1 _) (wpAny_pure (wpAny_bind ?_))
  refine collect_set (A := A.in1) hh ⟨ob, r1, r2.1, r3⟩ fit small ris led fun s1 vs keep grow g1 o1 perm => ?_
  have vn : vs.length = n := by rw [perm.length_eq, List.length_map, Array.length_toList]; exact cnt
  have vi : IntsAre vs (vs.map Builtin.Re.reRawOf) := ints_of vs fun v hv => by
    obtain ⟨e, he, q⟩ := List.mem_map.mp (perm.mem_iff.mp hv)
    obtain ⟨k, tk, g, _⟩ := good e he
    exact ⟨k, tk, q ▸ g⟩
  have keys : (vs.map Builtin.Re.reRawOf).Perm (tab.toList.map keyOf) := by
    have z := perm.map Builtin.Re.reRawOf
    rw [List.map_map] at z
    exact z
  refine wpAny_bind (wpAny_newList ?_ (vn ▸ zl))
  have new : (s1.heap.push (seqObj "list" vs.toArray 0)).get? s1.heap.objs.size = some (seqObj "list" vs.toArray 0) := Heap.get?_push_size _ rfl
  refine wpAny_bind (wpAny_holding (wpAny_call_entry slot_list_sort ⟨_, new, rfl⟩ entry_list_sort (SrtO.list_sort_ord SrtO.swo_int new (vn ▸ zl) (fun two => SrtO.ints_sortable vi two) fun out h1 h2 => ⟨_, rfl, ?_⟩) (args_list_sort _)))
  obtain ⟨k1, k2, k3⟩ := SrtO.ints_out vi h1 h2
  obtain ⟨c, hc⟩ := sortedHeap_at (vs := vs) (out := out.toArray) new
  have pn : (out.map SrtO.iv).Perm (tab.toList.map keyOf) := k2.trans keys
  refine wpAny_pure ⟨_, rfl, hQ _ s1.heap.objs.size out c (out.map SrtO.iv) (fun b u e => ?_) g1 o1 grow hc k1 (lt_of_le_nodup _ k3 (pn.nodup_iff.mpr nodup)) (fun k => by rw [pn.mem_iff, ← mem k]) (by rw [pn.length_eq, List.length_map, Array.length_toList]; exact cnt) zl⟩
  have old := Heap.lt_size (keep b u e)
  show (sortedHeap _ s1.heap.objs.size vs out.toArray).get? b = some u
  rw [sortedHeap_old (Nat.ne_of_lt old) (by rw [size_push']; exact Nat.lt_succ_of_lt old)]
  exact Heap.get?_push_of_some _ (keep b u e)
end
section
variable {X : Cx}
def rSetI (K : PySem.W.Frag) (w : World) : List V → Hp → VK → Prop := fun xs H Q => ∃ (l : Addr) (ns : List Int), xs = [V.ref l] ∧ SqL K H l (ns.map V.int) ∧ ns.length + 1 < scanBound ∧ ∀ (p : Addr) (c : Nat), c ≤ ns.length → H p = none → Q (.ref p) (upd H p (SetO w p (fun j => decide (j ∈ ns)) c))
theorem cr_setI (hc : X.calm = true) : CallR X (.type "set") (rSetI X.K X.w) := by
  intro pins s σ H vs us Q I r h
  obtain ⟨l, ns, rfl, hs, hb, q⟩ := h
  obtain ⟨its, rv, hl, hz⟩ := I.list hs
  rw [Vals.ref1 r]
  refine set_of_list (us := its.toArray) (I.ok.hd hc) hl.isList (by simpa using rv.ints) hb fun h' tk c R cn keep => ?_
  have hn : H s.heap.objs.size = none := I.hok.fresh (Nat.le_refl _)
  exact ⟨.ref _, _, I.call (ch := []) (Un.laid keep (Nat.le_refl _) hn) (I.hok.laid keep (Nat.le_refl _) (setO_new R)) I.bare (fun _ z => nomatch z), rfl, q _ c cn hn⟩
def rSortS (w : World) : List V → Hp → VK → Prop := fun vs H Q => ∃ (a : Addr) (S : Int → Bool) (n : Nat), vs = [V.ref a] ∧ H a = some (SetO w a S n) ∧
  ∀ (ms : List Int) (p : Addr), ms.Pairwise (· < ·) → (∀ k : Int, k ∈ ms ↔ S k = true) → ms.length = n → H p = none → Q (.ref p) (upd H p (.lst (ms.map V.int)))
theorem cr_sortS (hc : X.calm = true) : CallR X (.builtin "sorted") (rSortS X.w) := by
  intro pins s σ H vs us Q I r h
  obtain ⟨a, S, n, rfl, ha, q⟩ := h
  rw [Vals.ref1 r]
  refine sorted_any (setO_get I ha) (I.ok.hd hc) fun s' p out c ms keep g1 o1 hp hg hi pw mem len zl => ?_
  have hn : H p = none := I.hok.fresh hp
  have J : Inv X pins σ (upd H p (.lst (ms.map V.int))) { s with heap := s'.heap, gens := s'.gens, drawn := s'.drawn, toks := s'.toks } :=
    I.call (ch := []) (Un.laid keep hp hn) (I.hok.laid keep hp ⟨by rw [List.length_map, len]; exact zl, out, c, vals_of_ints hi, hg⟩) (g1 ▸ I.bare) (fun _ z => nomatch z)
  have e : s' = { s with heap := s'.heap, gens := s'.gens, drawn := s'.drawn, toks := s'.toks } := by
    obtain ⟨_, _, _, _, _⟩ := s'
    cases o1
    rfl
  rw [e]
  exact ⟨.ref p, _, J, rfl, q ms p pw mem len hn⟩
end
end DL

/-! DL28: the mirrors of sorted(set(l)). -/
namespace DL
open PySem PySem.Spec L2 PyProof.Rows
/-- the different ones, in order -/
def dd : List Int → List Int
  | [] => []
  | x :: r => if x ∈ dd r then dd r else x :: dd r
theorem mem_dd {k : Int} : ∀ {ns : List Int}, k ∈ dd ns ↔ k ∈ ns
  | [] => Iff.rfl
  | x :: r => by
    rw [dd, List.mem_cons]
    split
    · rename_i h
      rw [mem_dd]
      exact ⟨.inr, fun h2 => h2.elim (fun e => e ▸ mem_dd.mp h) id⟩
    · rw [List.mem_cons, mem_dd]
theorem nodup_dd : ∀ ns : List Int, (dd ns).Nodup
  | [] => List.nodup_nil
  | x :: r => by
    rw [dd]
    split
    · exact nodup_dd r
    · rename_i h
      exact List.nodup_cons.mpr ⟨h, nodup_dd r⟩
def ssI (ns : List Int) : List Int := sortI (dd ns)
def dSS : List D → Option (List D)
  | [.lst ds] => (intsOf ds).bind fun ns => if ns.length < 4000 then some ((ssI ns).map .int) else none
  | _ => none
theorem ssI_uniq {ns ms : List Int} (h1 : ms.Pairwise (· < ·)) (h2 : ∀ k, k ∈ ms ↔ k ∈ ns) : ms = ssI ns := by
  unfold ssI
  refine sortI_uniq ?_ (h1.imp fun h => Int.le_of_lt h)
  refine (List.perm_ext_iff_of_nodup (h1.imp fun h => Int.ne_of_lt h) (nodup_dd ns)).mpr fun k => ?_
  rw [h2, mem_dd]
section
variable {K : PySem.W.Frag} {pv : List V} {G F H : Hp} {σ : L2.St} {sd : SD}
theorem StR.junk {p : Addr} {o : HO} (s : StR K pv G F sd σ H) (hp : H p = none) : StR K pv G F sd σ (upd H p o) := by
  obtain ⟨ow, W⟩ := s
  exact ⟨ow, W.grow (Same.upd hp) (Same.refl _) (W.fh.trans (Same.upd hp)) fun a ha => .inl ha⟩
end
section
variable {X : Cx} {pv : List V} {W : WX} {p q k l : Bool} {e a b : Expr} {es : List Expr} {pos : Pos}
def rSS (K : PySem.W.Frag) (w : World) : List V → Hp → VK → Prop := fun xs H Q => rSetI K w xs H fun v H1 => rSortS w [v] H1 Q
theorem tr_sortSet {ta : TA} {m : SD → ER (List D)} (h : TrA X.K pv W p true ta m) : TrO X.K pv W p (tCB (rSS X.K X.w) ta) (mCallL dSS m) := by
  intro G F sd σ H Q s
  refine Meets.bindL (h G F sd σ H _ s) fun xs F1 H1 ds sd1 s1 s2 s3 s4 => ?_
  cases e : dSS ds with
  | none => exact True.intro
  | some cs =>
    intro hQ
    unfold dSS at e
    split at e
    · obtain ⟨ns, e1, e2⟩ := Option.bind_eq_some_iff.mp e
      split at e2
      · rename_i hlt
        cases e2
        obtain ⟨v, rfl, r1⟩ := reps1 s3
        cases r1 with
        | @lst a vs _ hs t =>
          obtain ⟨h1, h2⟩ := reps_ints t e1
          subst h1
          refine ⟨a, ns, rfl, s2.fh.seq (.inl hs), by show _ < 4096; omega, fun p1 c hc hp => ?_⟩
          refine ⟨p1, _, c, rfl, upd_same .., fun ms p2 hw hm hl hp2 => ?_⟩
          have em : ms = ssI ns := ssI_uniq hw fun k => (hm k).trans decide_eq_true_iff
          subst em
          have z := (s2.junk (o := SetO X.w p1 (fun j => decide (j ∈ ns)) c) hp).newL hp2 (Reps.ints (F := F1) (ssI ns))
          exact hQ _ _ _ (Same.refl _) z.drop z fun _ => ⟨(Same.upd hp).trans (Same.upd hp2), rfl⟩
      · cases e2
    · cases e
theorem do_sortSet {x1 x2 : Str} {n1 n2 p1 : Pos} {m : SD → ER (List D)} (hc : X.calm = true) (g1 : Gl X x1) (m1 : X.mg x1 = none) (v1 : bootBuiltins x1 = some (.builtin "sorted")) (g2 : Gl X x2) (m2 : X.mg x2 = none) (v2 : bootBuiltins x2 = some (.type "set")) (ha : DA X pv W p true [e] m)
    (k1 : x1 ≠ "__name__" := by decide) (k2 : (x1 == ("__debug__" : Str)) = false := by decide) (k3 : x2 ≠ "__name__" := by decide) (k4 : (x2 == ("__debug__" : Str)) = false := by decide)
    (he : starEach [e] X.env = (false, eval e X.env) :: starEach [] X.env := by rfl) : DO X pv W p (.Call (.Name x1 n1) [.Call (.Name x2 n2) [e] [] p1] [] pos) (mCallL dSS m) := by
  obtain ⟨ta, a1, a2⟩ := ha
  exact ⟨_, pe_callB (cr_sortS hc) g1 m1 v1 (pa_cons (pe_callTy (cr_setI hc) g2 m2 v2 a1 k3 k4 he) pa_nil) k1 k2, tr_sortSet a2⟩
end
end DL

/-! DL29: methods of built-in values that give flat values (list.count ..); list(range(..)), list(x). -/
namespace DL
open PySem PySem.Spec L2 PyProof.Rows
def CallM (K : PySem.W.Frag) (r : V → List V → Hp → VK → Prop) (f : D → List D → Option D) : Prop := ∀ H x xs d ds c, Rep K H x d → Reps K H xs ds → f d ds = some c → ∃ v, c.sc = some v ∧ ∀ Q : VK, Q v H → r x xs H Q
def TyD (K : PySem.W.Frag) (T : String) (t : D → Bool) : Prop := ∀ H x d, Rep K H x d → t d = true → tyV K T x H
def mBm (t : D → Bool) (f : D → List D → Option D) (a : SD → ER D) (b : SD → ER (List D)) : SD → ER D := fun sd => (a sd).bind fun d sd1 => if t d = true then (b sd1).bind fun ds sd2 => ER.opt (f d ds) sd2 else .bad
def D.isL : D → Bool
  | .lst _ => true
  | _ => false
def D.isS : D → Bool
  | .str _ => true
  | _ => false
theorem ty_lst {K : PySem.W.Frag} : TyD K "list" D.isL := fun H x d r h => by
  cases r with
  | lst s t => exact .inl ⟨rfl, _, .inl s⟩
  | _ => cases h
theorem ty_str {K : PySem.W.Frag} : TyD K "str" D.isS := fun H x d r h => by
  cases r with
  | str => exact (rfl : "str" = "str")
  | _ => cases h
def dCount : D → List D → Option D
  | .lst ds, [.int k] => (intsOf ds).map fun ns => .int (ns.count k : Nat)
  | _, _ => none
theorem f_count {K : PySem.W.Frag} : CallM K (rCntI K) dCount := by
  intro H x xs d ds c r rs h
  unfold dCount at h
  split at h
  · rename_i es k
    obtain ⟨ns, e1, e2⟩ := Option.map_eq_some_iff.mp h
    subst e2
    obtain ⟨v, rfl, r1⟩ := reps1 rs
    cases r1
    cases r with
    | @lst a vs _ s t =>
      obtain ⟨h1, h2⟩ := reps_ints t e1
      subst h1
      exact ⟨_, rfl, fun Q q => ⟨a, ns, k, rfl, rfl, .inl s, q⟩⟩
  · cases h
section
variable {X : Cx} {pv : List V} {W : WX} {p q k l : Bool} {o e a b : Expr} {es : List Expr} {apos cpos pos : Pos} {name : Str} {T id : String}
theorem tr_bm {r : V → List V → Hp → VK → Prop} {t : D → Bool} {f : D → List D → Option D} {to : TE} {ta : TA} {mo : SD → ER D} {ma : SD → ER (List D)} (ht : TyD X.K T t) (hf : CallM X.K r f) (ho : TrX X.K pv W p k to mo) (ha : TrA X.K pv W q l ta ma) (hk : (k || q) = true) :
    TrX X.K pv W (p && q) true (tBM X.K T r to ta) (mBm t f mo ma) := by
  intro G F sd σ H Q s
  refine Meets.bind (ho G F sd σ H _ s) fun x F1 H1 d sd1 s1 s2 s3 s4 => ?_
  have hq : q = (q && true) := by cases q <;> rfl
  rw [hq]
  by_cases tt : t d = true
  · rw [if_pos tt]
    have ty := ht H1 x d (RSx.see s3 s2) tt
    refine Meets.to ?_ fun z => ⟨ty, z⟩
    refine Meets.bind (ha G F1 sd1 σ H1 _ s2) fun xs F2 H2 ds sd2 t1 t2 t3 t4 => ?_
    have rx : Rep X.K H2 x d := by
      cases k with
      | true => exact Rep.mono t2.fh (Rep.mono t1 s3)
      | false => exact Rep.mono (t4 (by simpa using hk)).1 s3
    cases e : f d ds with
    | none => exact True.intro
    | some c =>
      obtain ⟨v, h1, h2⟩ := hf H2 x xs d ds c rx (RSl.see t3 t2) e
      exact Meets.here t2 (show RSx X.K true G F2 sd2 H2 σ v c from Rep.sc h1) (h2 Q)
  · rw [if_neg tt]
    exact True.intro
theorem dx_bm {r : V → List V → Hp → VK → Prop} {t : D → Bool} {f : D → List D → Option D} {mo : SD → ER D} {ma : SD → ER (List D)} (pa : PlainAttrs T) (slot : Slot T name id) (hty : typeOf (.builtin id) = pure (.type "method_descriptor")) (hm : MtR X id r) (ht : TyD X.K T t) (hf : CallM X.K r f) (ho : DX X pv W p k o mo) (ha : DA X pv W q l (e :: es) ma) (hk : (k || q) = true := by rfl)
    (hbase : attributeBase o name X.env (eval o X.env) = eval o X.env := by rfl)
    (hfew : ((backTo cpos (starEach (e :: es) X.env)).all (fun x => !x.1) && (backToKw cpos (keywordEach [] X.env)).all (fun x => x.1.isSome) && decide ((e :: es).length + ([] : List Keyword).length + (if ([] : List Keyword).isEmpty then 0 else 1) < 30)) = true := by rfl)
    (hline : (apos.endLine == cpos.line) = true := by rfl) (hs : starEach (e :: es) X.env = (false, eval e X.env) :: starEach es X.env := by rfl) (hplain : (backTo cpos (starEach es X.env)).any (·.1) = false := by rfl) :
    DX X pv W (p && q) true (.Call (.Attribute o name apos) (e :: es) [] cpos) (mBm t f mo ma) := by
  obtain ⟨to, o1, o2⟩ := ho
  obtain ⟨ta, a1, a2⟩ := ha
  exact ⟨_, pe_bm pa slot hty hm o1 a1 hbase hfew hline hs hplain, tr_bm ht hf o2 a2 hk⟩
theorem dx_count {mo : SD → ER D} {ma : SD → ER (List D)} (ho : DX X pv W p k o mo) (ha : DA X pv W q l [e] ma) (hk : (k || q) = true := by rfl) (hbase : attributeBase o "count" X.env (eval o X.env) = eval o X.env := by rfl)
    (hfew : ((backTo cpos (starEach [e] X.env)).all (fun x => !x.1) && (backToKw cpos (keywordEach [] X.env)).all (fun x => x.1.isSome) && decide ([e].length + ([] : List Keyword).length + (if ([] : List Keyword).isEmpty then 0 else 1) < 30)) = true := by rfl)
    (hline : (apos.endLine == cpos.line) = true := by rfl) (hs : starEach [e] X.env = (false, eval e X.env) :: starEach [] X.env := by rfl) (hplain : (backTo cpos (starEach [] X.env)).any (·.1) = false := by rfl) :
    DX X pv W (p && q) true (.Call (.Attribute o "count" apos) [e] [] cpos) (mBm D.isL dCount mo ma) :=
  dx_bm PySem.F.plainAttrs_list PySem.F.slot_list_count PySem.F.type_list_count mt_lcount ty_lst f_count ho ha hk hbase hfew hline hs hplain

/-! ### list(range(..)), list(x) -/
def mListRg1 (a : SD → ER D) : SD → ER OT := fun sd => (a sd).bind fun x sd1 => match x with
  | .int j => if -(2 ^ 62) ≤ j ∧ j ≤ 16777216 then .ok (.ol ((rangeD 0 j.toNat).map .fz)) sd1 else .bad
  | _ => .bad
def mListRg2 (a b : SD → ER D) : SD → ER OT := fun sd => (a sd).bind fun x sd1 => (b sd1).bind fun y sd2 => match x, y with
  | .int i, .int j => if -(2 ^ 62) ≤ i ∧ i < 2 ^ 62 ∧ -(2 ^ 62) ≤ j ∧ j < 2 ^ 62 ∧ (j - i).toNat ≤ 16777216 then .ok (.ol ((rangeD i (j - i).toNat).map .fz)) sd2 else .bad
  | _, _ => .bad
theorem reps_rg {K : PySem.W.Frag} {F : Hp} (i j : Int) : Reps K F (rgV i j) (rangeD i (j - i).toNat) := by
  have z : rgV i j = ((List.range (j - i).toNat).map fun n : Nat => i + (n : Int)).map V.int := by unfold rgV; rw [List.map_map]; rfl
  have y : rangeD i (j - i).toNat = ((List.range (j - i).toNat).map fun n : Nat => i + (n : Int)).map D.int := by unfold rangeD; rw [List.map_map]; rfl
  rw [z, y]
  exact Reps.ints _
theorem do_listRg2 {p1 p2 : Pos} {ma mb : SD → ER D} (hc : X.calm = true) (g1 : Gl X "list") (m1 : X.mg "list" = none) (g2 : Gl X "range") (m2 : X.mg "range" = none) (ha : DX X pv W p k a ma) (hb : DX X pv W q l b mb)
    (na : starEach [a, b] X.env = (false, eval a X.env) :: starEach [b] X.env := by rfl) (nb : starEach [b] X.env = (false, eval b X.env) :: starEach [] X.env := by rfl) (nc : starEach [.Call (.Name "range" p2) [a, b] [] pos] X.env = (false, eval (.Call (.Name "range" p2) [a, b] [] pos) X.env) :: starEach [] X.env := by rfl) (np : (backTo pos (starEach [b] X.env)).any (·.1) = false := by rfl) :
    DO X pv W (p && q) (.Call (.Name "list" p1) [.Call (.Name "range" p2) [a, b] [] pos] [] cpos) (mListRg2 ma mb) := by
  obtain ⟨ta, a1, a2⟩ := ha
  obtain ⟨tb, b1, b2⟩ := hb
  refine ⟨_, pe_listRg hc g1 m1 (prg_2 g2 m2 a1 b1 na nb np) nc, fun G F sd σ H Q s => ?_⟩
  refine Meets.bind (a2 G F sd σ H _ s) fun x F1 H1 dx sd1 s1 s2 s3 s4 => ?_
  have hq : q = (q && true) := by cases q <;> rfl
  rw [hq]
  refine Meets.bind (b2 G F1 sd1 σ H1 _ s2) fun y F2 H2 dy sd2 t1 t2 t3 t4 => ?_
  split
  · rename_i i j
    split
    · rename_i hr
      have rx := RSx.see s3 s2
      have ry := RSx.see t3 t2
      cases rx
      cases ry
      intro hQ
      refine ⟨i, j, rfl, rfl, ⟨hr.1, hr.2.1, hr.2.2.1, hr.2.2.2.1, hr.2.2.2.2⟩, fun pn hp => ?_⟩
      have z := t2.newL hp (reps_rg i j)
      exact hQ _ _ _ (Same.refl _) z.drop z fun _ => ⟨Same.upd hp, rfl⟩
    · exact True.intro
  · exact True.intro
end
end DL

/-! DL30: l[i] where i changes other things. -/
namespace DL
open PySem PySem.Spec L2
def mAtS (i : Nat) (b : SD → ER D) : SD → ER D := fun sd => match sd.tree i with
  | some _ => (b sd).bind fun y sd1 => match y with
    | .int k => ER.opt (((sd1.tree i).bind OT.items).bind fun ds => atI ds k) sd1
    | _ => .bad
  | none => .bad
section
variable {X : Cx} {pv : List V} {W : WX} {p q k l : Bool} {e a b : Expr} {es : List Expr} {pos : Pos}
theorem dx_atS {i : Nat} {x : Str} {pp : Pos} {mb : SD → ER D} (hx : PE X (.Name x pp) (tVar i)) (hb : DX X pv W q l b mb) (hs : PlainIx b := by exact fun _ _ => rfl) : DX X pv W q true (.Subscript (.Name x pp) b pos) (mAtS i mb) := by
  obtain ⟨tb, b1, b2⟩ := hb
  refine ⟨_, pe_ix ix_list hx b1 hs, fun G F sd σ H Q s => ?_⟩
  unfold mAtS
  cases e0 : sd.tree i with
  | none => exact True.intro
  | some t =>
    obtain ⟨v, P, h1, _⟩ := s.tree e0
    refine Meets.to ?_ fun z => ⟨v, h1, z⟩
    have hq : q = (q && true) := by cases q <;> rfl
    rw [hq]
    refine Meets.bind (b2 G F sd σ H _ s) fun y F2 H2 dy sd2 t1 t2 t3 t4 => ?_
    have r := RSx.see t3 t2
    cases dy with
    | int j =>
      cases r
      show Meets X.K pv W G σ (RSx X.K true) true sd2 F2 H2 (ER.opt (((sd2.tree i).bind OT.items).bind fun ds => atI ds j) sd2) Q _
      cases e1 : sd2.tree i with
      | none => exact True.intro
      | some u =>
        cases e2 : u.items with
        | none =>
          show Meets X.K pv W G σ (RSx X.K true) true sd2 F2 H2 (ER.opt ((u.items).bind fun ds => atI ds j) sd2) Q _
          rw [e2]; exact True.intro
        | some ds =>
          show Meets X.K pv W G σ (RSx X.K true) true sd2 F2 H2 (ER.opt ((u.items).bind fun ds => atI ds j) sd2) Q _
          rw [e2]
          show Meets X.K pv W G σ (RSx X.K true) true sd2 F2 H2 (ER.opt (atI ds j) sd2) Q _
          cases e : atI ds j with
          | none => exact True.intro
          | some c =>
            obtain ⟨v', P', g1, g2⟩ := t2.tree e1
            rw [h1] at g1; cases g1
            obtain ⟨aa, vs, rfl, r1, r2⟩ := items_rep t2.fh g2 e2
            obtain ⟨w, h3, h4⟩ := reps_at r2 e
            exact Meets.here t2 (show RSx X.K true G F2 sd2 H2 σ w c from h4) fun q => ⟨aa, vs, j, w, rfl, rfl, .inl r1, h3, q⟩
    | _ => exact True.intro
end
end DL

/-! DL31: what mirrors come to: more of slices, items, tests, sorted sets. -/
namespace DL
open PySem PySem.Spec L2
theorem pick_rev {α : Type} (xs : List α) : pickL xs none none (some (-1)) = xs.reverse := by
  have e : sliceRange (sliceBounds none none (some (-1)) xs.length).1 (sliceBounds none none (some (-1)) xs.length).2.1 (sliceBounds none none (some (-1)) xs.length).2.2 = (List.range xs.length).map fun k => xs.length - 1 - k := by
    show (List.range (if (-1 : Int) > 0 then _ else (if ((xs.length : Int) - 1) > (-1 : Int) then ((xs.length : Int) - 1 - (-1) - (-1) - 1) / (-(-1)) else 0)).toNat).map (fun (k : Nat) => ((xs.length : Int) - 1 + (-1) * (k : Int)).toNat) = _
    rw [if_neg (by decide)]
    congr 1
    · funext k; omega
    · congr 1
      rw [show -(-1 : Int) = 1 from rfl, Int.ediv_one]
      split <;> omega
  unfold pickL
  rw [e]
  refine pick_eq xs _ _ _ (List.length_reverse) fun k hk => ?_
  rw [List.getElem?_reverse hk]
theorem cut_toN {α : Type} (xs : List α) (n : Nat) : cutL xs none (some (n : Int)) = xs.take n := by
  unfold cutL
  rw [show HT.sIx xs.length xs.length (some (n : Int)) = min n xs.length from HT.sIx_nat _ _ n, show HT.sIx xs.length 0 none = 0 from rfl]
  rw [List.drop_zero, Nat.sub_zero]
  by_cases h : n ≤ xs.length
  · rw [Nat.min_eq_left h]
  · rw [Nat.min_eq_right (by omega), List.take_of_length_le (Nat.le_refl _), List.take_of_length_le (by omega)]
theorem cut_fromN {α : Type} (xs : List α) (n : Nat) : cutL xs (some (n : Int)) none = xs.drop n := by
  unfold cutL
  rw [show HT.sIx xs.length 0 (some (n : Int)) = min n xs.length from HT.sIx_nat _ _ n, show HT.sIx xs.length xs.length none = xs.length from rfl]
  by_cases h : n ≤ xs.length
  · rw [Nat.min_eq_left h, List.take_of_length_le (by rw [List.length_drop]; omega)]
  · rw [Nat.min_eq_right (by omega), List.drop_of_length_le (Nat.le_refl _), List.drop_of_length_le (by omega)]
    simp
theorem atI_of {α : Type} {xs : List α} {k : Nat} {v : α} (h : xs[k]? = some v) : atI xs (k : Int) = some v := by
  have hk := (List.getElem?_eq_some_iff.mp h).1
  unfold atI ixN
  rw [if_pos (by omega), if_pos (by omega)]
  exact h
theorem atI_in {α : Type} (xs : List α) {w : Int} (h0 : 0 ≤ w) (h1 : w < xs.length) : ∃ v ∈ xs, atI xs w = some v := by
  obtain ⟨k, rfl⟩ := Int.eq_ofNat_of_zero_le h0
  have hk : k < xs.length := by omega
  exact ⟨xs[k], List.getElem_mem _, atI_of (by simp [hk])⟩
theorem at_in {α : Type} (ds : List α) (f : α → D) {w : Int} (h0 : 0 ≤ w) (h1 : w < ds.length) : ∃ v ∈ ds, atI (ds.map f) w = some (f v) := by
  obtain ⟨v, hv, e⟩ := atI_in (ds.map f) h0 (by simpa using h1)
  obtain ⟨k, rfl⟩ := Int.eq_ofNat_of_zero_le h0
  have hk : k < ds.length := by omega
  exact ⟨ds[k], List.getElem_mem _, atI_of (by simp [hk])⟩
/-- the test of a chain -/
theorem chain_ok {a b c : SD → ER D} {sd : SD} {i j k : Int} (h1 : a sd = .ok (.int i) sd) (h2 : b sd = .ok (.int j) sd) (h3 : c sd = .ok (.int k) sd) : mTest (mChain dLe dLt a b c) sd = .ok (decide (i ≤ j) && decide (j < k)) sd := by
  unfold mTest mChain
  simp only [h1, h2, h3, ER.bind, dLe, dLt, ER.opt]
  by_cases h : i ≤ j <;> simp [h]
theorem mem_ssI {ns : List Int} {k : Int} : k ∈ ssI ns ↔ k ∈ ns := by
  unfold ssI
  rw [(sortI_perm _).mem_iff, mem_dd]
theorem ssI_pw (ns : List Int) : (ssI ns).Pairwise (· < ·) := by
  unfold ssI
  have h1 := sortI_pw (dd ns)
  have h2 : (sortI (dd ns)).Nodup := (sortI_perm _).nodup_iff.mpr (nodup_dd ns)
  exact (h1.and h2).imp fun ⟨a, b⟩ => by omega
theorem ssI_len (ns : List Int) : (ssI ns).length ≤ ns.length := by
  have go : ∀ ns : List Int, (dd ns).length ≤ ns.length := fun ns => by
    induction ns with
    | nil => exact Nat.le_refl _
    | cons n r ih =>
      rw [dd]
      split
      · exact Nat.le_succ_of_le ih
      · rw [List.length_cons, List.length_cons]; omega
  unfold ssI
  rw [(sortI_perm _).length_eq]
  exact go ns
/-- ints of things -/
theorem intsOf_of {α : Type} (f : α → Int) (xs : List α) : intsOf (xs.map fun x => D.int (f x)) = some (xs.map f) := by
  rw [← intsOf_map, List.map_map]; rfl
theorem log2_lt {n k : Nat} (h : n < 2 ^ k) : n.log2 < k + 1 := by
  by_cases e : n = 0
  · subst e; rw [Nat.log2_zero]; omega
  · have := (Nat.log2_lt e).mpr h; omega
end DL

/-! DL32: sorts that the kernel can compute; == of lists. -/
namespace DL
open PySem PySem.Spec L2
def ins {α : Type} (le : α → α → Bool) (a : α) : List α → List α
  | [] => [a]
  | b :: r => if le a b = true then a :: b :: r else b :: ins le a r
def isort {α : Type} (le : α → α → Bool) : List α → List α
  | [] => []
  | a :: r => ins le a (isort le r)
theorem ins_perm {α : Type} {le : α → α → Bool} {a : α} : ∀ l : List α, (ins le a l).Perm (a :: l)
  | [] => List.Perm.refl _
  | b :: r => by
    rw [ins]
    split
    · exact List.Perm.refl _
    · exact ((ins_perm r).cons b).trans (List.Perm.swap a b r)
theorem isort_perm {α : Type} {le : α → α → Bool} : ∀ l : List α, (isort le l).Perm l
  | [] => List.Perm.refl _
  | a :: r => (ins_perm _).trans ((isort_perm r).cons a)
theorem ins_pw {α : Type} {le : α → α → Bool} (tot : ∀ a b, le a b = true ∨ le b a = true) (tr : ∀ a b c, le a b = true → le b c = true → le a c = true) {a : α} : ∀ l : List α, l.Pairwise (fun x y => le x y = true) → (ins le a l).Pairwise (fun x y => le x y = true)
  | [], _ => List.pairwise_singleton _ _
  | b :: r, h => by
    rw [ins]
    split
    · rename_i q
      refine List.pairwise_cons.mpr ⟨fun c hc => ?_, h⟩
      rcases List.mem_cons.mp hc with rfl | hc
      · exact q
      · exact tr _ _ _ q ((List.pairwise_cons.mp h).1 c hc)
    · rename_i q
      refine List.pairwise_cons.mpr ⟨fun c hc => ?_, ins_pw tot tr r (List.pairwise_cons.mp h).2⟩
      rcases List.mem_cons.mp ((ins_perm r).mem_iff.mp hc) with rfl | hc
      · exact (tot _ _).resolve_left q
      · exact (List.pairwise_cons.mp h).1 c hc
theorem isort_pw {α : Type} {le : α → α → Bool} (tot : ∀ a b, le a b = true ∨ le b a = true) (tr : ∀ a b c, le a b = true → le b c = true → le a c = true) : ∀ l : List α, (isort le l).Pairwise (fun x y => le x y = true)
  | [] => List.Pairwise.nil
  | a :: r => ins_pw tot tr _ (isort_pw tot tr r)
theorem sortI_is (l : List Int) : sortI l = isort (fun a b => decide (a ≤ b)) l := by
  refine (sortI_uniq (isort_perm l) ?_).symm
  exact (isort_pw (le := fun a b : Int => decide (a ≤ b)) (fun a b => by simp; omega) (fun a b c h1 h2 => by simp at *; omega) l).imp fun h => of_decide_eq_true h
theorem sortT_is (l : List (List Int)) : sortT l = isort leI l :=
  (sortT_uniq (isort_perm l) (isort_pw (fun a b => by have := leI_total a b; rwa [Bool.or_eq_true] at this) (fun a b c => leI_trans a b c) l)).symm
/-! ### == of lists of ints -/
theorem lI_py (ns : List Int) : (D.lst (ns.map D.int)).py = some (.list (ns.map PyData.int)) := by
  rw [D.py, pys_int]
  rfl
theorem lI_shaped (ns : List Int) : SeqAt.shaped (.list (ns.map PyData.int)) = true := by
  have h1 : PyData.canLay0 (.list (ns.map PyData.int)) = true := lay_int ns
  have h2 : PyData.depth (.list (ns.map PyData.int)) = 1 := by rw [PyData.depth, dep_int]
  unfold SeqAt.shaped
  rw [h1, h2]
  rfl
theorem eq_lI (ns ms : List Int) : dEqB (.lst (ns.map D.int)) (.lst (ms.map D.int)) = some (decide (ns = ms)) := by
  have z : dEqB (.lst (ns.map D.int)) (.lst (ms.map D.int)) = match (D.lst (ns.map D.int)).py, (D.lst (ms.map D.int)).py with
    | some p, some q => if (SeqAt.shaped p && SeqAt.shaped q) = true then some (PyData.eqv p q) else none
    | _, _ => none := rfl
  rw [z, lI_py, lI_py]
  dsimp only
  rw [lI_shaped, lI_shaped]
  show some (PyData.eqvAll _ _) = _
  rw [eqv_int]
theorem ne_str (s : Str) : dNe (.str s) (.str s) = some (.bl false) := by simp [dNe, eqB_str]
theorem ne_int (i : Int) : dNe (.int i) (.int i) = some (.bl false) := by simp [dNe, eqB_int]
/-- small words -/
theorem range_it {a : SD → ER (List D)} {sd sd1 : SD} {j : Int} (h : a sd = .ok [.int j] sd1) (h0 : 0 ≤ j) (h1 : j < 2 ^ 62) : iRange1 a sd = .ok ((List.range j.toNat).map fun i : Nat => D.int (0 + (i : Int))) sd1 := by
  unfold iRange1
  rw [h]
  show (if _ then _ else _) = _
  rw [if_pos ⟨by omega, h1⟩]
  rfl
theorem mCons_one {a : SD → ER D} {sd sd1 : SD} {x : D} (h : a sd = .ok x sd1) : mCons a mNil sd = .ok [x] sd1 := by unfold mCons; rw [h]; rfl
end DL

/-! DL33: texts: split, join, in, numbers written and read, walked; tuple(x), divmod, text * n, is of truth values. -/
namespace DL
open PySem PySem.Spec L2
/-! ### lists of texts -/
def strsOf : List D → Option (List Str)
  | [] => some []
  | .str x :: r => (strsOf r).map (x :: ·)
  | _ => none
theorem strsOf_map : ∀ ys : List Str, strsOf (ys.map D.str) = some ys
  | [] => rfl
  | y :: r => by rw [List.map_cons, strsOf, strsOf_map r]; rfl
theorem reps_strs {K : PySem.W.Frag} {F : Hp} : ∀ {ds : List D} {vs : List V} {ys : List Str}, Reps K F vs ds → strsOf ds = some ys → vs = ys.map V.str ∧ ds = ys.map D.str
  | [], _, _, .nil, h => by cases h; exact ⟨rfl, rfl⟩
  | d :: ds, _, ys, .cons r t, h => by
    cases d with
    | str x =>
      obtain ⟨zs, e, h⟩ := Option.map_eq_some_iff.mp h
      subst h
      obtain ⟨h1, h2⟩ := reps_strs t e
      cases r
      rw [h1, h2]
      exact ⟨rfl, rfl⟩
    | _ => cases h
theorem Reps.strs {K : PySem.W.Frag} {F : Hp} : ∀ ys : List Str, Reps K F (ys.map V.str) (ys.map D.str)
  | [] => .nil
  | y :: r => .cons (.str y) (Reps.strs r)
def seqOf : D → Option (List D)
  | .lst ds => some ds
  | .tup ds => some ds
  | .ktu ds => some ds
  | _ => none
/-- a list or a tuple that stands there -/
theorem seq_rep {K : PySem.W.Frag} {F : Hp} {v : V} {d : D} {ds : List D} (r : Rep K F v d) (h : seqOf d = some ds) : ∃ a vs, v = .ref a ∧ (SqL K F a vs ∨ SqT K F a vs) ∧ Reps K F vs ds := by
  cases r with
  | lst s t => cases h; exact ⟨_, _, rfl, .inl (.inl s), t⟩
  | tup s t => cases h; exact ⟨_, _, rfl, .inr (.inl (.inl s)), t⟩
  | ktu s t => cases h; exact ⟨_, _, rfl, .inr s, t⟩
  | _ => cases h
def rJoin (K : PySem.W.Frag) : V → List V → Hp → VK → Prop := fun x xs H Q => ∃ a p, ∃ ys : List Str, x = .str a ∧ xs = [.ref p] ∧ (SqL K H p (ys.map V.str) ∨ SqT K H p (ys.map V.str)) ∧ (ys.map (·.length)).sum + ys.length * a.length ≤ 16777216 ∧ Q (.str (Txt.join a ys)) H
def dJoin : D → List D → Option D
  | .str a, [d] => (seqOf d).bind fun ds => (strsOf ds).bind fun ys => if (ys.map (·.length)).sum + ys.length * a.length ≤ 16777216 then some (.str (Txt.join a ys)) else none
  | _, _ => none
theorem f_join {K : PySem.W.Frag} : CallM K (rJoin K) dJoin := by
  intro H x xs d ds c r rs h
  unfold dJoin at h
  split at h
  · rename_i a e
    obtain ⟨zs, e1, h⟩ := Option.bind_eq_some_iff.mp h
    obtain ⟨ys, e2, h⟩ := Option.bind_eq_some_iff.mp h
    split at h
    · rename_i hl
      cases h
      obtain ⟨v, rfl, r1⟩ := reps1 rs
      obtain ⟨p, vs, rfl, sq, rr⟩ := seq_rep r1 e1
      obtain ⟨h1, _⟩ := reps_strs rr e2
      subst h1
      cases r
      exact ⟨_, rfl, fun Q q => ⟨a, p, ys, rfl, rfl, sq, hl, q⟩⟩
    · cases h
  · cases h
/-! ### methods that give a new list -/
def CallML (K : PySem.W.Frag) (r : V → List V → Hp → VK → Prop) (f : D → List D → Option (List D)) : Prop := ∀ F H x xs d ds cs, Same F H → Rep K F x d → Reps K F xs ds → f d ds = some cs → ∀ Q : VK, (∀ p vs, H p = none → Reps K F vs cs → Q (.ref p) (upd H p (.lst vs))) → r x xs H Q
def mBmL (t : D → Bool) (f : D → List D → Option (List D)) (a : SD → ER D) (b : SD → ER (List D)) : SD → ER OT := fun sd => (a sd).bind fun d sd1 => if t d = true then (b sd1).bind fun ds sd2 => ER.opt ((f d ds).map fun cs => .ol (cs.map .fz)) sd2 else .bad
def dSplit : D → List D → Option (List D)
  | .str a, [.str b] => if (b.length == 0) = false ∧ a.length + 2 ≤ 16777216 then some ((Txt.split a b).map .str) else none
  | _, _ => none
def rSplit : V → List V → Hp → VK → Prop := fun x xs H Q => ∃ a b, x = .str a ∧ xs = [.str b] ∧ (b.length == 0) = false ∧ a.length + 2 ≤ sizeLine ∧ rNewStrs (Txt.split a b) H Q
theorem f_split {K : PySem.W.Frag} : CallML K rSplit dSplit := by
  intro F H x xs d ds cs hF r rs h Q hQ
  unfold dSplit at h
  split at h
  · rename_i a b
    split at h
    · rename_i hl
      cases h
      obtain ⟨v, rfl, r1⟩ := reps1 rs
      cases r1
      cases r
      exact ⟨a, b, rfl, rfl, hl.1, by rw [sizeLine_eq]; exact hl.2, fun p hp => hQ p _ hp (Reps.strs _)⟩
    · cases h
  · cases h
/-! ### numbers as texts -/
def dStr1 : List D → Option D
  | [.int i] => if i.natAbs.log2 < 1920 then some (.str (toString i)) else none
  | [.str a] => some (.str a)
  | _ => none
def rStr1 : List V → Hp → VK → Prop := fun xs H Q => (∃ i, xs = [.int i] ∧ i.natAbs.log2 < 1920 ∧ Q (.str (toString i)) H) ∨ ∃ a, xs = [.str a] ∧ Q (.str a) H
theorem call_str1 {X : Cx} : CallR X (.type "str") rStr1 := call_str_int.or SkE.call_str_str
theorem f_str1 {K : PySem.W.Frag} : CallS K rStr1 dStr1 := by
  intro H xs ds c rs h
  unfold dStr1 at h
  split at h
  · split at h
    · rename_i i hl
      cases h
      obtain ⟨v, rfl, r1⟩ := reps1 rs
      cases r1
      exact ⟨_, rfl, fun Q q => .inl ⟨_, rfl, hl, q⟩⟩
    · cases h
  · cases h
    obtain ⟨v, rfl, r1⟩ := reps1 rs
    cases r1
    exact ⟨_, rfl, fun Q q => .inr ⟨_, rfl, q⟩⟩
  · cases h
def dInt2 : List D → Option D
  | [.int i] => some (.int i)
  | [.bl b] => some (.int (if b then 1 else 0))
  | [.str a] => if a.length ≤ 640 then (PySem.intText? a).map .int else none
  | _ => none
def rInt2 : List V → Hp → VK → Prop := fun xs H Q => rInt1 xs H Q ∨ ∃ a n, xs = [.str a] ∧ PySem.intText? a = some n ∧ a.length ≤ 640 ∧ Q (.int n) H
theorem call_int2 {X : Cx} : CallR X (.type "int") rInt2 := call_int1X.or call_int_str
theorem f_int2 {K : PySem.W.Frag} : CallS K rInt2 dInt2 := by
  intro H xs ds c rs h
  unfold dInt2 at h
  split at h
  · cases h
    obtain ⟨v, rfl, r1⟩ := reps1 rs
    cases r1
    exact ⟨_, rfl, fun Q q => .inl (.inl ⟨_, rfl, q⟩)⟩
  · cases h
    obtain ⟨v, rfl, r1⟩ := reps1 rs
    cases r1
    exact ⟨_, rfl, fun Q q => .inl (.inr ⟨_, rfl, q⟩)⟩
  · split at h
    · rename_i a hl
      obtain ⟨n, e, h⟩ := Option.map_eq_some_iff.mp h
      subst h
      obtain ⟨v, rfl, r1⟩ := reps1 rs
      cases r1
      exact ⟨_, rfl, fun Q q => .inr ⟨a, n, rfl, e, hl, q⟩⟩
    · cases h
  · cases h
/-! ### in -/
def D.fl : D → Option V
  | .non => some .non
  | .bl b => some (.bl b)
  | .int i => some (.int i)
  | .str x => some (.str x)
  | _ => none
def flsOf : List D → Option (List V)
  | [] => some []
  | d :: r => d.fl.bind fun v => (flsOf r).map (v :: ·)
theorem fl_rep {K : PySem.W.Frag} {F : Hp} {v w : V} {d : D} (r : Rep K F v d) (h : d.fl = some w) : v = w ∧ flatV v = true := by
  cases r <;> simp only [D.fl, Option.some.injEq, reduceCtorEq] at h <;> subst h <;> exact ⟨rfl, rfl⟩
theorem fls_rep {K : PySem.W.Frag} {F : Hp} : ∀ {ds : List D} {vs ws : List V}, Reps K F vs ds → flsOf ds = some ws → vs = ws ∧ vs.all flatV = true
  | [], _, _, .nil, h => by cases h; exact ⟨rfl, rfl⟩
  | d :: ds, _, ws, .cons r t, h => by
    obtain ⟨w, e1, h⟩ := Option.bind_eq_some_iff.mp h
    obtain ⟨us, e2, h⟩ := Option.map_eq_some_iff.mp h
    subst h
    obtain ⟨h1, h2⟩ := fl_rep r e1
    obtain ⟨k1, k2⟩ := fls_rep t e2
    subst h1 k1
    refine ⟨rfl, ?_⟩
    rw [List.all_cons, h2, k2]; rfl
/-- a text in another one; of one sign: by the signs -/
def inS (x z : Str) : Bool := match x with
  | ⟨⟨[c]⟩⟩ => decide (c ∈ z.cps.toList)
  | x => !(Builtin.Str.occurrences z x 0 z.length 1).isEmpty
def dIn (neg : Bool) : D → D → Option D
  | .str i, .str j => some (.bl (inS i j != neg))
  | x, d => x.fl.bind fun v => (seqOf d).bind fun ds => (flsOf ds).map fun vs => .bl (inV v vs != neg)
def rIn2S (K : PySem.W.Frag) : R2 := fun x y H Q => (∃ (c : Nat) (z : Str), x = .str ⟨#[c]⟩ ∧ y = .str z ∧ Q (.bl (decide (c ∈ z.cps.toList))) H) ∨ ((∃ i j, x = .str i ∧ y = .str j ∧ Q (.bl (!(Builtin.Str.occurrences j i 0 j.length 1).isEmpty)) H) ∨ rIn K false x y H Q)
def rNotIn2S (K : PySem.W.Frag) : R2 := fun x y H Q => (∃ (c : Nat) (z : Str), x = .str ⟨#[c]⟩ ∧ y = .str z ∧ Q (.bl (!decide (c ∈ z.cps.toList))) H) ∨ ((∃ i j, x = .str i ∧ y = .str j ∧ Q (.bl (!(!(Builtin.Str.occurrences j i 0 j.length 1).isEmpty))) H) ∨ rIn K true x y H Q)
theorem op_in2 {X : Cx} : OpR X (compareOp .In) (rIn2S X.K) := op_in_sign.or (op_in_str.or op_in_seq)
theorem op_notIn2 {X : Cx} : OpR X (compareOp .NotIn) (rNotIn2S X.K) := op_notIn_sign.or (op_notIn_str.or op_notIn_seq)
theorem in_go {K : PySem.W.Frag} {H : Hp} {x y : V} {a b c : D} {neg : Bool} (ra : Rep K H x a) (rb : Rep K H y b) (h : dIn neg a b = some c) : (∃ i j, x = .str i ∧ y = .str j ∧ c = .bl (inS i j != neg)) ∨ ∃ p xs, y = .ref p ∧ (SqL K H p xs ∨ SqT K H p xs) ∧ flatV x = true ∧ xs.all flatV = true ∧ c = .bl (inV x xs != neg) := by
  have gen : (a.fl.bind fun v => (seqOf b).bind fun ds => (flsOf ds).map fun vs => D.bl (inV v vs != neg)) = some c → ∃ p xs, y = .ref p ∧ (SqL K H p xs ∨ SqT K H p xs) ∧ flatV x = true ∧ xs.all flatV = true ∧ c = .bl (inV x xs != neg) := fun h => by
    obtain ⟨v, e1, h⟩ := Option.bind_eq_some_iff.mp h
    obtain ⟨ds, e2, h⟩ := Option.bind_eq_some_iff.mp h
    obtain ⟨vs, e3, h⟩ := Option.map_eq_some_iff.mp h
    obtain ⟨h1, h2⟩ := fl_rep ra e1
    obtain ⟨p, ws, rfl, sq, rr⟩ := seq_rep rb e2
    obtain ⟨k1, k2⟩ := fls_rep rr e3
    subst h1 k1
    exact ⟨p, ws, rfl, sq, h2, k2, h.symm⟩
  unfold dIn at h
  split at h
  · cases h
    cases ra
    cases rb
    exact .inl ⟨_, _, rfl, rfl, rfl⟩
  · exact .inr (gen h)
theorem inS_cases (x z : Str) : (∃ c, x = ⟨#[c]⟩ ∧ inS x z = decide (c ∈ z.cps.toList)) ∨ inS x z = !(Builtin.Str.occurrences z x 0 z.length 1).isEmpty := by
  unfold inS
  split
  · exact .inl ⟨_, rfl, rfl⟩
  · exact .inr rfl
theorem f_in2 {K : PySem.W.Frag} : Op2S K (rIn2S K) (dIn false) := by
  intro H x y a b c ra rb h
  rcases in_go ra rb h with ⟨i, j, rfl, rfl, rfl⟩ | ⟨p, xs, rfl, sq, f1, f2, rfl⟩
  · refine ⟨_, rfl, fun Q q => ?_⟩
    rw [Bool.bne_false] at q
    rcases inS_cases i j with ⟨k, rfl, e⟩ | e
    · rw [e] at q; exact .inl ⟨k, j, rfl, rfl, q⟩
    · rw [e] at q; exact .inr (.inl ⟨i, j, rfl, rfl, q⟩)
  · refine ⟨_, rfl, fun Q q => .inr (.inr ⟨p, xs, rfl, sq, f1, f2, ?_⟩)⟩
    rw [Bool.bne_false] at q
    exact q
theorem f_notIn2 {K : PySem.W.Frag} : Op2S K (rNotIn2S K) (dIn true) := by
  intro H x y a b c ra rb h
  rcases in_go ra rb h with ⟨i, j, rfl, rfl, rfl⟩ | ⟨p, xs, rfl, sq, f1, f2, rfl⟩
  · refine ⟨_, rfl, fun Q q => ?_⟩
    rw [Bool.bne_true] at q
    rcases inS_cases i j with ⟨k, rfl, e⟩ | e
    · rw [e] at q; exact .inl ⟨k, j, rfl, rfl, q⟩
    · rw [e] at q; exact .inr (.inl ⟨i, j, rfl, rfl, q⟩)
  · refine ⟨_, rfl, fun Q q => .inr (.inr ⟨p, xs, rfl, sq, f1, f2, ?_⟩)⟩
    rw [Bool.bne_true] at q
    exact q
/-! ### is of truth values -/
def dIsB : D → D → Option D
  | .bl a, .bl b => some (.bl (decide (a = b)))
  | a, b => dIsN a b
def rIsBN : R2 := fun x y H Q => (∃ a b, x = .bl a ∧ y = .bl b ∧ Q (.bl (decide (a = b))) H) ∨ (y = .non ∧ Q (.bl (decide (x = .non))) H)
theorem op_isB {X : Cx} : OpR X (compareOp .Is) rIsBN := op_is_bl.or op_isN
theorem f_isB {K : PySem.W.Frag} : Op2S K rIsBN dIsB := by
  intro H x y a b c ra rb h
  unfold dIsB at h
  split at h
  · cases h
    cases ra
    cases rb
    exact ⟨_, rfl, fun Q q => .inl ⟨_, _, rfl, rfl, q⟩⟩
  · obtain ⟨v, h1, h2⟩ := f_isN H x y a b c ra rb h
    exact ⟨v, h1, fun Q q => .inr (h2 Q q)⟩
/-! ### text * n -/
def repS (x : Str) (n : Int) : Str := ⟨(List.replicate n.toNat x.cps).foldl (· ++ ·) #[]⟩
theorem foldl_empty : ∀ n : Nat, (List.replicate n (#[] : Array Nat)).foldl (· ++ ·) #[] = #[]
  | 0 => rfl
  | n + 1 => by rw [List.replicate_succ, List.foldl_cons]; exact foldl_empty n
def rMulS : R2 := fun x y H Q => ∃ a n, x = .str a ∧ y = .int n ∧ 0 ≤ n ∧ n ≤ 16777216 ∧ a.length * n.toNat ≤ 16777216 ∧ Q (.str (repS a n)) H
theorem foldl_size (c : Array Nat) : ∀ (n : Nat) (acc : Array Nat), ((List.replicate n c).foldl (· ++ ·) acc).size = acc.size + c.size * n
  | 0, acc => by simp
  | n + 1, acc => by
    rw [List.replicate_succ, List.foldl_cons, foldl_size c n, Array.size_append, Nat.mul_succ]; omega
theorem repS_length (x : Str) (n : Int) : (repS x n).length = x.length * n.toNat := by
  show ((List.replicate n.toNat x.cps).foldl (· ++ ·) #[]).size = _
  rw [foldl_size]
  show 0 + x.cps.size * n.toNat = x.cps.size * n.toNat
  omega
theorem repS_same {x : Str} {n : Int} (h : (n == 1 || x.length == 0) = true) : repS x n = x := by
  rw [Bool.or_eq_true, beq_iff_eq, beq_iff_eq] at h
  unfold repS
  rcases h with d | d
  · subst d
    show (⟨#[] ++ x.cps⟩ : Str) = x
    rw [Array.empty_append]
  · obtain ⟨c⟩ := x
    have e : c = #[] := Array.eq_empty_of_size_eq_zero d
    subst e
    show (⟨(List.replicate n.toNat #[]).foldl (· ++ ·) #[]⟩ : Str) = _
    rw [foldl_empty]
theorem op_mulS {X : Cx} : OpR X (binaryOp .Mult) rMulS := by
  intro pins s σ H x y v u Q I rx ry h
  obtain ⟨a, n, rfl, rfl, h0, h1, h2, q⟩ := h
  obtain ⟨t, rfl⟩ := rx
  obtain ⟨t', rfl⟩ := ry
  refine P.mul_str (by
    have z1 : ¬ n < -(2 ^ 63 : Int) := by omega
    have z2 : ¬ n ≥ (2 ^ 63 : Int) := by omega
    rw [decide_eq_false z1, decide_eq_false z2]; rfl) (fun g1 g2 g3 => ?_) (fun g1 g2 => ?_) ?_
  · have g3 := (Int.ediv_lt_iff_lt_mul (show 0 < n by omega)).mp g3
    have e : (a.length : Int) * n = ((a.length * n.toNat : Nat) : Int) := by rw [Int.natCast_mul, Int.toNat_of_nonneg h0]
    omega
  · unfold Builtin.Str.tooLong
    rw [sizeLine_eq]
    exact decide_eq_false (by omega)
  · by_cases c : n < 1
    · rw [if_pos c]
      have e : n.toNat = 0 := by omega
      have : repS a n = Str.empty := by unfold repS; rw [e]; rfl
      rw [this] at q
      exact ⟨by decide, .str Str.empty, H, I.tok _, ⟨_, rfl⟩, q⟩
    · rw [if_neg c]
      by_cases d : (n == 1 || a.length == 0) = true
      · rw [if_pos d]
        rw [repS_same d] at q
        exact ⟨.str a, H, I, ⟨_, rfl⟩, q⟩
      · rw [if_neg d]
        have hl := repS_length a n
        refine ⟨?_, .str (repS a n), H, I.tok _, ⟨_, rfl⟩, q⟩
        show (repS a n).length ≤ sizeLine
        rw [sizeLine_eq, hl]
        exact h2
def dMulX : D → D → Option D
  | .str a, .int n => if 0 ≤ n ∧ n ≤ 16777216 ∧ a.length * n.toNat ≤ 16777216 then some (.str (repS a n)) else none
  | a, b => dMul a b
def rMulX : R2 := fun x y H Q => rMulS x y H Q ∨ (rI CMulW fun i j => .int (i * j)) x y H Q
theorem op_mulX2 {X : Cx} : OpR X (binaryOp .Mult) rMulX := op_mulS.or op_mulW
theorem f_mulX {K : PySem.W.Frag} : Op2S K rMulX dMulX := by
  intro H x y a b c ra rb h
  unfold dMulX at h
  split at h
  · split at h
    · rename_i hl
      cases h
      cases ra
      cases rb
      exact ⟨_, rfl, fun Q q => .inl ⟨_, _, rfl, rfl, hl.1, hl.2.1, hl.2.2, q⟩⟩
    · cases h
  · obtain ⟨v, h1, h2⟩ := f_mul H x y a b c ra rb h
    exact ⟨v, h1, fun Q q => .inr (h2 Q q)⟩
/-! ### calls that give a new tuple -/
def CallT (K : PySem.W.Frag) (r : List V → Hp → VK → Prop) (f : List D → Option (List D)) : Prop := ∀ F H xs ds cs, Same F H → Reps K F xs ds → f ds = some cs → ∀ Q : VK, (∀ p vs, H p = none → Reps K F vs cs → Q (.ref p) (upd H p (.tup vs))) → r xs H Q
def mCallT (f : List D → Option (List D)) (a : SD → ER (List D)) : SD → ER D := fun sd => (a sd).bind fun xs sd1 => ER.opt ((f xs).map .tup) sd1
def dDivmod : List D → Option (List D)
  | [.int i, .int j] => if 0 < j ∧ j.natAbs.log2 < 9000 then some [.int (i / j), .int (i % j)] else none
  | _ => none
def rDivmod : List V → Hp → VK → Prop := fun xs H Q => ∃ i j, xs = [.int i, .int j] ∧ CDivP i j ∧ ∀ p, H p = none → Q (.ref p) (upd H p (.tup [.int (i / j), .int (i % j)]))
theorem f_divmod {K : PySem.W.Frag} : CallT K rDivmod dDivmod := by
  intro F H xs ds cs hF rs h Q hQ
  unfold dDivmod at h
  split at h
  · split at h
    · rename_i i j hl
      cases h
      obtain ⟨v, w, rfl, r1, r2⟩ := reps2 rs
      cases r1
      cases r2
      exact ⟨i, j, rfl, ⟨hl.1, PyProof.noPylong_of_log2 hl.2⟩, fun p hp => hQ p _ hp (.cons (.int _) (.cons (.int _) .nil))⟩
    · cases h
  · cases h
def dTupOf : List D → Option (List D)
  | [.lst ds] => some ds
  | _ => none
def rTupOf (K : PySem.W.Frag) : List V → Hp → VK → Prop := fun xs H Q => ∃ p ys, xs = [.ref p] ∧ ((SqL K H p ys ∧ ∀ l, H l = none → Q (.ref l) (upd H l (.tup ys))) ∨ (SqT K H p ys ∧ Q (.ref p) H))
theorem f_tupOf {K : PySem.W.Frag} : CallT K (rTupOf K) dTupOf := by
  intro F H xs ds cs hF rs h Q hQ
  unfold dTupOf at h
  split at h
  · cases h
    obtain ⟨v, rfl, r1⟩ := reps1 rs
    cases r1 with
    | lst s t => exact ⟨_, _, rfl, .inl ⟨.inl (Same.rd hF s), fun l hl => hQ l _ hl t⟩⟩
  · cases h
def dListOf : List D → Option (List D)
  | [d] => seqOf d
  | _ => none
def rListOf (K : PySem.W.Frag) : List V → Hp → VK → Prop := fun xs H Q => ∃ p ys, xs = [.ref p] ∧ (SqL K H p ys ∨ SqT K H p ys) ∧ ∀ l, H l = none → Q (.ref l) (upd H l (.lst ys))
theorem f_listOf {K : PySem.W.Frag} : CallL K (rListOf K) dListOf := by
  intro F H xs ds cs hF rs h Q hQ
  unfold dListOf at h
  split at h
  · obtain ⟨v, rfl, r1⟩ := reps1 rs
    obtain ⟨a, vs, rfl, sq, rr⟩ := seq_rep r1 h
    refine ⟨a, vs, rfl, ?_, fun l hl => hQ l _ hl rr⟩
    rcases sq with sq | sq
    · exact .inl (hF.seq sq)
    · exact .inr (Same.sqt hF sq)
  · cases h
section
variable {X : Cx} {pv : List V} {W : WX} {p q k l : Bool} {tg o e a b : Expr} {es : List Expr} {apos cpos pos pp : Pos} {name : Str} {T id : String}
theorem tr_callT {r : List V → Hp → VK → Prop} {f : List D → Option (List D)} {ta : TA} {m : SD → ER (List D)} (hf : CallT X.K r f) (h : TrA X.K pv W p true ta m) : TrX X.K pv W p true (tCB r ta) (mCallT f m) := by
  intro G F sd σ H Q s
  refine Meets.bindL (h G F sd σ H _ s) fun xs F1 H1 ds sd1 s1 s2 s3 s4 => ?_
  cases e : f ds with
  | none => exact True.intro
  | some cs =>
    intro hQ
    refine hf F1 H1 xs ds cs s2.fh s3 e Q fun p vs hp hr => ?_
    exact hQ _ _ _ (s2.sameNew hp) (s2.new hp) (.tup upd_same (hr.mono (s2.sameNew hp))) fun _ => ⟨Same.upd hp, rfl⟩
theorem dx_callBT {x : Str} {id : String} {pp : Pos} {r : List V → Hp → VK → Prop} {f : List D → Option (List D)} {m : SD → ER (List D)} (hc : CallR X (.builtin id) r) (hf : CallT X.K r f) (hg : Gl X x) (hm : X.mg x = none) (hv : bootBuiltins x = some (.builtin id)) (ha : DA X pv W p true (e :: es) m)
    (hn : x ≠ "__name__" := by decide) (hdb : (x == ("__debug__" : Str)) = false := by decide) (he : starEach (e :: es) X.env = (false, eval e X.env) :: starEach es X.env := by rfl) (hpl : (backTo pos (starEach es X.env)).any (·.1) = false := by rfl) :
    DX X pv W p true (.Call (.Name x pp) (e :: es) [] pos) (mCallT f m) := by
  obtain ⟨ta, a1, a2⟩ := ha
  exact ⟨_, pe_callB hc hg hm hv a1 hn hdb he hpl, tr_callT hf a2⟩
theorem dx_callTyT {x : Str} {T : String} {pp : Pos} {r : List V → Hp → VK → Prop} {f : List D → Option (List D)} {m : SD → ER (List D)} (hc : CallR X (.type T) r) (hf : CallT X.K r f) (hg : Gl X x) (hm : X.mg x = none) (hv : bootBuiltins x = some (.type T)) (ha : DA X pv W p true (e :: es) m)
    (hn : x ≠ "__name__" := by decide) (hdb : (x == ("__debug__" : Str)) = false := by decide) (he : starEach (e :: es) X.env = (false, eval e X.env) :: starEach es X.env := by rfl) (hpl : (backTo pos (starEach es X.env)).any (·.1) = false := by rfl) :
    DX X pv W p true (.Call (.Name x pp) (e :: es) [] pos) (mCallT f m) := by
  obtain ⟨ta, a1, a2⟩ := ha
  exact ⟨_, pe_callTy hc hg hm hv a1 hn hdb he hpl, tr_callT hf a2⟩
theorem tr_bmL {r : V → List V → Hp → VK → Prop} {t : D → Bool} {f : D → List D → Option (List D)} {to : TE} {ta : TA} {mo : SD → ER D} {ma : SD → ER (List D)} (ht : TyD X.K T t) (hf : CallML X.K r f) (ho : TrX X.K pv W p true to mo) (ha : TrA X.K pv W q true ta ma) :
    TrO X.K pv W (p && q) (tBM X.K T r to ta) (mBmL t f mo ma) := by
  intro G F sd σ H Q s
  refine Meets.bind (ho G F sd σ H _ s) fun x F1 H1 d sd1 s1 s2 s3 s4 => ?_
  have hq : q = (q && true) := by cases q <;> rfl
  rw [hq]
  by_cases tt : t d = true
  · rw [if_pos tt]
    have ty := ht H1 x d (RSx.see s3 s2) tt
    refine Meets.to ?_ fun z => ⟨ty, z⟩
    refine Meets.bind (ha G F1 sd1 σ H1 _ s2) fun xs F2 H2 ds sd2 t1 t2 t3 t4 => ?_
    cases e : f d ds with
    | none => exact True.intro
    | some cs =>
      intro hQ
      refine hf F2 H2 x xs d ds cs t2.fh (Rep.mono t1 s3) t3 e Q fun p vs hp hr => ?_
      have z := t2.newL hp hr
      exact hQ _ _ _ (Same.refl _) z.drop z fun _ => ⟨Same.upd hp, rfl⟩
  · rw [if_neg tt]
    exact True.intro
theorem do_split {mo : SD → ER D} {ma : SD → ER (List D)} (ho : DX X pv W p true o mo) (ha : DA X pv W q true [e] ma) (hbase : attributeBase o "split" X.env (eval o X.env) = eval o X.env := by rfl)
    (hfew : ((backTo cpos (starEach [e] X.env)).all (fun x => !x.1) && (backToKw cpos (keywordEach [] X.env)).all (fun x => x.1.isSome) && decide ([e].length + ([] : List Keyword).length + (if ([] : List Keyword).isEmpty then 0 else 1) < 30)) = true := by rfl)
    (hline : (apos.endLine == cpos.line) = true := by rfl) (hs : starEach [e] X.env = (false, eval e X.env) :: starEach [] X.env := by rfl) (hplain : (backTo cpos (starEach [] X.env)).any (·.1) = false := by rfl) :
    DO X pv W (p && q) (.Call (.Attribute o "split" apos) [e] [] cpos) (mBmL D.isS dSplit mo ma) := by
  obtain ⟨to, o1, o2⟩ := ho
  obtain ⟨ta, a1, a2⟩ := ha
  exact ⟨_, pe_bm PySem.F.plainAttrs_str PySem.F.slot_str_split PySem.F.type_str_split mt_split o1 a1 hbase hfew hline hs hplain, tr_bmL ty_str f_split o2 a2⟩
theorem dx_join {mo : SD → ER D} {ma : SD → ER (List D)} (ho : DX X pv W p k o mo) (ha : DA X pv W q l [e] ma) (hk : (k || q) = true := by rfl) (hbase : attributeBase o "join" X.env (eval o X.env) = eval o X.env := by rfl)
    (hfew : ((backTo cpos (starEach [e] X.env)).all (fun x => !x.1) && (backToKw cpos (keywordEach [] X.env)).all (fun x => x.1.isSome) && decide ([e].length + ([] : List Keyword).length + (if ([] : List Keyword).isEmpty then 0 else 1) < 30)) = true := by rfl)
    (hline : (apos.endLine == cpos.line) = true := by rfl) (hs : starEach [e] X.env = (false, eval e X.env) :: starEach [] X.env := by rfl) (hplain : (backTo cpos (starEach [] X.env)).any (·.1) = false := by rfl) :
    DX X pv W (p && q) true (.Call (.Attribute o "join" apos) [e] [] cpos) (mBm D.isS dJoin mo ma) :=
  dx_bm PySem.F.plainAttrs_str PySem.F.slot_str_join PySem.F.type_str_join mt_join ty_str f_join ho ha hk hbase hfew hline hs hplain
/-! ### walked: a text, a list from behind -/
def iStrD (a : SD → ER D) : SD → ER (List D) := fun sd => (a sd).bind fun x sd1 => match x with
  | .str x => .ok (x.cps.toList.map fun c => .str ⟨#[c]⟩) sd1
  | _ => .bad
def iRevD (a : SD → ER D) : SD → ER (List D) := fun sd => (a sd).bind fun x sd1 => match x with
  | .lst ds => .ok ds.reverse sd1
  | _ => .bad
theorem walk_str {K : PySem.W.Frag} {F : Hp} {x : Str} : Walk K (Its x) F (x.cps.toList.map fun c => .str ⟨#[c]⟩) where
  stop := fun F' H' e1 e2 => by
    show x.cps.size ≤ _
    rw [List.length_map, Array.length_toList]
    exact Nat.le_refl _
  go := fun F' H' i d e1 e2 hd => by
    rw [List.getElem?_map] at hd
    obtain ⟨c, h1, _⟩ := Option.map_eq_some_iff.mp hd
    have := (List.getElem?_eq_some_iff.mp h1).1
    rwa [Array.length_toList] at this
  yld := fun F' H' i d z H'' e1 e2 hd ⟨hH, c, hc, hz⟩ => by
    rw [List.getElem?_map, Array.getElem?_toList, hc] at hd
    cases hd
    subst hz
    exact .inl ⟨hH, .str _⟩
theorem walk_rev {K : PySem.W.Frag} {F : Hp} {a : Addr} {vs : List V} {ds : List D} (h : SqL K F a vs) (r : Reps K F vs ds) : Walk K (Itv K a vs.length) F ds.reverse where
  stop := fun F' H' e1 e2 => by
    show vs.length ≤ _
    rw [List.length_reverse, r.length]
    exact Nat.le_refl _
  go := fun F' H' i d e1 e2 hd => by
    have hi := (List.getElem?_eq_some_iff.mp hd).1
    rw [List.length_reverse] at hi
    rw [List.getElem?_reverse hi] at hd
    obtain ⟨v, h1, _⟩ := r.get hd
    rw [← r.length] at h1 hi
    exact ⟨hi, vs, v, (e1.trans e2).seq h, h1⟩
  yld := fun F' H' i d z H'' e1 e2 hd ⟨hH, q⟩ => by
    have hi := (List.getElem?_eq_some_iff.mp hd).1
    rw [List.length_reverse] at hi
    rw [List.getElem?_reverse hi] at hd
    obtain ⟨v, h1, h2⟩ := r.get hd
    have := q vs ((e1.trans e2).seq h)
    rw [r.length] at this
    rw [h1] at this
    cases this
    exact .inl ⟨hH, h2.mono e1⟩
theorem di_str {m : SD → ER D} (h : DX X pv W p true e m) : DI X pv W p tg e (iStrD m) := by
  obtain ⟨te, a1, a2⟩ := h
  refine ⟨_, pi_str a1, fun G F sd σ H R s => ?_⟩
  refine Meets.bindL (a2 G F sd σ H _ s) fun x F1 H1 dx sd1 s1 s2 s3 s4 => ?_
  have s3 : Rep X.K F1 x dx := s3
  cases dx with
  | str z =>
    cases s3
    exact Meets.here s2 (show RSw X.K G F1 sd1 H1 σ (Its z) _ from walk_str) fun q => ⟨z, rfl, q⟩
  | _ => exact True.intro
theorem di_rev {m : SD → ER D} (hg : Gl X "reversed") (hm : X.mg "reversed" = none) (h : DX X pv W p true e m) (hs : starEach [e] X.env = (false, eval e X.env) :: starEach [] X.env := by rfl) : DI X pv W p tg (.Call (.Name "reversed" pp) [e] [] pos) (iRevD m) := by
  obtain ⟨te, a1, a2⟩ := h
  refine ⟨_, RT.pi_revA hg hm a1 hs, fun G F sd σ H R s => ?_⟩
  refine Meets.bindL (a2 G F sd σ H _ s) fun x F1 H1 dx sd1 s1 s2 s3 s4 => ?_
  have s3 : Rep X.K F1 x dx := s3
  cases dx with
  | lst ds =>
    cases s3 with
    | @lst aa vs _ h1 h2 =>
      exact Meets.here s2 (show RSw X.K G F1 sd1 H1 σ (Itv X.K aa vs.length) _ from walk_rev (.inl h1) h2) fun q => ⟨aa, vs, rfl, .inl ⟨.inl (Same.rd s2.fh h1), q⟩⟩
  | _ => exact True.intro
end
/-! ### a def that does nothing known -/
theorem fn_bad {P : Program} {w : World} {K : PySem.W.Frag} {mg : Str → Option Value} {base : Heap} {k n : Nat} {f : Addr} {fd : FuncData} {ps : List Str} : FnG P w K mg base (L2.CX P w) k f fd ps (spD K n fun _ => .bad) where
  len := fun vs H Q E h => by
    obtain ⟨_, _, _, _, _, _, h⟩ := h
    exact h.elim
  run := fun A out s H args us vs Q E x e0 bd rel h => by
    obtain ⟨_, _, _, _, _, _, h⟩ := h
    exact h.elim
end DL

/-! DL34: calls with keywords; keyword-only parameters and their defaults. -/
namespace DL
open PySem PySem.Spec L2
section
variable {X : Cx} {pv : List V} {W : WX} {p q : Bool} {f : Addr} {fd : FuncData} {ps ks : List Str} {sp : Sp} {k n m np : Nat} {σ : L2.St} {H : Hp} {s : Shared} {Q : VK} {us : List Value} {vs : List V} {x : Str} {pp pos : Pos} {e : Expr} {es : List Expr} {kws : List Keyword} {t tz : TA} {g : List Value → List Value → List Value} {gV : List V → List V → List V}
theorem code_GX {pins : List (Addr × Obj)} {args : Args} {E : L2.St → XK} (F : FnG X.prog X.w X.K X.mg X.base (L2.CX X.prog X.w) k f fd ps sp) (hr : RoomG k X.A) (b : BindsTo s fd args (ps.zip us)) (hx : PassesAt (L2.CX X.prog X.w) X σ (E σ)) (I : Inv X pins σ H s) (r : Vals vs us) (h : sp vs H Q (E σ)) :
    codeAny (model X.prog X.w) X.A (.call (.ref f) args) (wants (EP X pins σ Q) X.xe) s := by
  refine codeAny_mono (F.run X.A X.stack s H args us vs Q (E σ) hr I.env0 b r h) ?_
  rintro (e | fl) s2 hq
  · exact hx pins H s e s2 I hq
  · cases fl with
    | ret u => exact I.after hq
    | _ => exact hq.elim
theorem pe_callK (F : FnG X.prog X.w X.K X.mg X.base (L2.CX X.prog X.w) k f fd ps sp) (hr : RoomG k X.A) (hg : Gl X x) (hm : X.mg x = some (.ref f)) (hk : PySem.W.keepIn X.K (.ref f) = true) (hb : KBn X.K fd ps n ks g gV) (tk : Takes X W) (ha : PA X (e :: es) t) (hz : PK X kws tz)
    (h1 : (backToKw pos (keywordEach kws X.env)).all (·.1.isSome) = true := by rfl) (h2 : (backToKw pos (keywordEach kws X.env)).filterMap (·.1) = ks := by rfl) (h3 : (x == ("__debug__" : Str)) = false := by decide) (h4 : starEach (e :: es) X.env = (false, eval e X.env) :: starEach es X.env := by rfl)
    (h5 : ((backTo pos (starEach (e :: es) X.env)).any (·.1) || (backToKw pos (keywordEach kws X.env)).any (·.1.isNone)) = false := by rfl) :
    PE X (.Call (.Name x pp) (e :: es) kws pos) (fun σ H Q => t σ H fun vs H1 => tz σ H1 fun zs H2 => vs.length = n ∧ zs.length = ks.length ∧ sp (gV vs zs) H2 Q (WE W σ)) where
  run := fun pins s σ H Q I h => by
    have step : ∀ (us : List Value) (s1 : Shared) (vs : List V) (H1 : Hp) (ws : List Value) (s2 : Shared) (zs : List V) (H2 : Hp), Inv X pins σ H2 s2 → Vals vs us → Vals zs ws → vs.length = n → zs.length = ks.length → sp (gV vs zs) H2 Q (WE W σ) →
        wpAny (model X.prog X.w) X.A (call (.ref f) us (ks.zip ws)) (EP X pins σ Q) X.xe s2 := fun us s1 vs H1 ws s2 zs H2 I2 r1 r2 l1 l2 q2 =>
      wpAny_call (code_GX (E := WE W) F hr (hb.to s2 us ws I2.kIn (by rw [← l1]; exact r1.length.symm) (by rw [← l2]; exact r2.length.symm)) (passAt tk σ) I2 (hb.rel r1 r2) q2)
    refine wpAny_Call_Name_kw (ld_glob I hg hm (PySem.W.callWith_KW (h₀ := X.base) I.ok.mod.kin hk h1 ?_ h5 h4) h3)
    refine thn (ha.run pos pins s σ H _ I h) ?_
    rintro us s1 ⟨vs, H1, I1, r1, q1⟩
    refine thn (hz.run pos pins s1 σ H1 _ I1 q1) ?_
    rintro ws s2 ⟨zs, H2, I2, r2, l1, l2, q2⟩
    refine ⟨I2.kIn, ?_⟩
    rw [h2]
    exact step us s1 vs H1 ws s2 zs H2 I2 r1 r2 l1 l2 q2
theorem kwEnd {α : Type} {D : Addr} {t : Sem α} {r : α} (h : t = pure r) : KwChain D [] t r := h
theorem valsTake (n : Nat) {xs : List V} {us : List Value} (h : Vals xs us) : Vals (xs.take n) (us.take n) := Vals.take n h
/-- a def with keyword-only parameters, at its name -/
structure Fk (K : PySem.W.Frag) (mg : Str → Option Value) (x : Str) (st : Stmt) (f : Addr) (fd : FuncData) : Prop where
  F : Fun K x x st f fd
  g : mg x = some (.ref f)
structure DK (X : Cx) (pv : List V) (W : WX) (p : Bool) (kws : List Keyword) (m : SD → ER (List D)) : Prop where
  ex : ∃ tz, PK X kws tz ∧ TrA X.K pv W p true tz m
theorem dk_nil : DK X pv W true [] mNil := ⟨_, pk_nil, fun G F sd σ H Q s => Meets.here s (show RSl X.K true G F sd H σ [] [] from .nil) id⟩
theorem tr_cons {ta : TE} {tr : TA} {ma : SD → ER D} {mr : SD → ER (List D)} (ha : TrX X.K pv W p true ta ma) (hr : TrA X.K pv W q true tr mr) : TrA X.K pv W (p && q) true (tCons ta tr) (mCons ma mr) := by
  intro G F sd σ H Q s
  refine Meets.bind (ha G F sd σ H _ s) fun x F1 H1 d sd1 s1 s2 s3 s4 => ?_
  have hq : q = (q && true) := by cases q <;> rfl
  rw [hq]
  refine Meets.bind (hr G F1 sd1 σ H1 _ s2) fun xs F2 H2 ds sd2 t1 t2 t3 t4 => ?_
  exact Meets.here t2 (show RSl X.K true G F2 sd2 H2 σ (x :: xs) (d :: ds) from .cons (Rep.mono t1 s3) t3) id
theorem dk_cons {nm : Option Str} {kp : Pos} {ma : SD → ER D} {mr : SD → ER (List D)} (ha : DX X pv W p true e ma) (hr : DK X pv W q kws mr) : DK X pv W (p && q) (⟨nm, e, kp⟩ :: kws) (mCons ma mr) := by
  obtain ⟨ta, a1, a2⟩ := ha
  obtain ⟨tr, r1, r2⟩ := hr
  exact ⟨_, pk_cons a1 r1, tr_cons a2 r2⟩
/-- f(a, .., k = b, ..): G puts the values in their order; ms: what lacks -/
def mCallK (f : List OT → ER OT) (G : List D → List D → List D → List D) (ms : List D) (n m : Nat) (a z : SD → ER (List D)) : SD → ER OT := fun sd => (a sd).bind fun ds sd1 => (z sd1).bind fun dz sd2 => if ds.length = n ∧ dz.length = m then callFz f (G ds ms dz) sd2 else .bad
theorem do_callK {fm : List OT → ER OT} {G : List D → List D → List D → List D} {ms : List D} {ma mz : SD → ER (List D)} (F : FnG X.prog X.w X.K X.mg X.base (L2.CX X.prog X.w) k f fd ps (spD X.K np fm)) (hr : RoomG k X.A) (hg : Gl X x) (hm : X.mg x = some (.ref f)) (hk : PySem.W.keepIn X.K (.ref f) = true)
    (hb : KBn X.K fd ps n ks g gV) (hG : ∀ F vs ds zs dz, Reps X.K F vs ds → Reps X.K F zs dz → ds.length = n → dz.length = ks.length → Reps X.K F (gV vs zs) (G ds ms dz) ∧ (G ds ms dz).length = np) (hlm : ks.length = m) (tk : Takes X W) (ha : DA X pv W p true (e :: es) ma) (hz : DK X pv W q kws mz)
    (h1 : (backToKw pos (keywordEach kws X.env)).all (·.1.isSome) = true := by rfl) (h2 : (backToKw pos (keywordEach kws X.env)).filterMap (·.1) = ks := by rfl) (h3 : (x == ("__debug__" : Str)) = false := by decide) (h4 : starEach (e :: es) X.env = (false, eval e X.env) :: starEach es X.env := by rfl)
    (h5 : ((backTo pos (starEach (e :: es) X.env)).any (·.1) || (backToKw pos (keywordEach kws X.env)).any (·.1.isNone)) = false := by rfl) :
    DO X pv W (p && q) (.Call (.Name x pp) (e :: es) kws pos) (mCallK fm G ms n m ma mz) := by
  subst hlm
  obtain ⟨ta, a1, a2⟩ := ha
  obtain ⟨tz, z1, z2⟩ := hz
  refine ⟨_, pe_callK F hr hg hm hk hb tk a1 z1 h1 h2 h3 h4 h5, fun G0 F0 sd σ H Q s => ?_⟩
  refine Meets.bind (a2 G0 F0 sd σ H _ s) fun vs F1 H1 ds sd1 s1 s2 s3 s4 => ?_
  have hq : q = (q && true) := by cases q <;> rfl
  rw [hq]
  refine Meets.bind (z2 G0 F1 sd1 σ H1 _ s2) fun zs F2 H2 dz sd2 t1 t2 t3 t4 => ?_
  have s3 : Reps X.K F1 vs ds := s3
  have t3 : Reps X.K F2 zs dz := t3
  split
  · rename_i hl
    obtain ⟨y1, y2⟩ := hG F2 vs ds zs dz (s3.mono t1) t3 hl.1 hl.2
    exact Meets.to (meets_call t2 y1 y2) fun z => ⟨by rw [s3.length]; exact hl.1, by rw [t3.length]; exact hl.2, z⟩
  · exact True.intro
end
end DL

/-! DL35: a frozen field of an instance that is being made. -/
namespace DL
open PySem PySem.Spec L2
theorem fldO_rep {K : PySem.W.Frag} {F H : Hp} {f : Str} {d : D} : ∀ {fs : List (Str × V)} {ts : List OT} {P : Addr → Prop}, RepOs K F H ts (fs.map (·.2)) P → fldD f (fs.map (·.1)) ts = some (.fz d) → ∃ v, fs.lookup f = some v ∧ Rep K F v d
  | [], ts, P, _, h => by cases ts <;> cases h
  | (n, v) :: fs, [], P, r, _ => by
    unfold RepOs at r
    cases r
  | (n, v) :: fs, t :: ts, P, r, h => by
    unfold RepOs at r
    obtain ⟨v', ws, P1, P2, e, _, _, r1, r2⟩ := r
    rw [List.map_cons] at e
    injection e with e1 e2
    subst e1 e2
    rw [List.map_cons, fldD] at h
    rw [lookup_head]
    by_cases q : n = f
    · rw [if_pos q] at h ⊢
      cases h
      unfold RepO at r1
      exact ⟨_, rfl, r1⟩
    · rw [if_neg q] at h ⊢
      exact fldO_rep r2 h
def mFldO (ok : Addr → Bool) (i : Nat) (f : Str) : SD → ER D := fun sd => match sd.tree i with
  | some (.oi C ns ts) => if ok C = true then (match fldD f ns ts with
    | some (.fz d) => .ok d sd
    | _ => .bad) else .bad
  | _ => .bad
section
variable {X : Cx} {pv : List V} {W : WX}
theorem dx_fldO {ok : Addr → Bool} {f x : Str} {i : Nat} {pp pos : Pos} (hx : PE X (.Name x pp) (tVar i)) (hf : ∀ C, ok C = true → Cls X.K C ∧ NoAttr X.K C f) (hb : attributeBase (.Name x pp) f X.env (eval (.Name x pp) X.env) = eval (.Name x pp) X.env := by rfl) : DX X pv W true true (.Attribute (.Name x pp) f pos) (mFldO ok i f) := by
  refine ⟨_, pe_fld hx hb, fun G F sd σ H Q s => ?_⟩
  unfold mFldO
  split
  · rename_i C ns ts e0
    split
    · rename_i hok
      obtain ⟨c1, c2⟩ := hf C hok
      split
      · rename_i d e1
        obtain ⟨v, P, h1, h2⟩ := s.tree e0
        unfold RepO at h2
        obtain ⟨a, dx, fvs, rfl, _, ha, rfl, r⟩ := h2
        obtain ⟨u, k1, k2⟩ := fldO_rep r e1
        exact Meets.here s (show RSx X.K true G F sd H σ u d from k2) fun q => ⟨.ref a, h1, a, C, dx, fvs, u, rfl, ha, c1, c2, k1, q⟩
      · exact True.intro
    · exact True.intro
  · exact True.intro
end
end DL

/-! DL36: a call whose one argument is a tree that no name has. -/
namespace DL
open PySem PySem.Spec L2
section
variable {K : PySem.W.Frag} {pv : List V} {G F H : Hp} {sd : SD} {σ : L2.St}
/-- a tree without a name is handed over, and lost -/
theorem StR1.giveN {v : V} {t : OT} (s : StR1 K pv G F sd σ H v t) : ∃ G', StR K [v] G' F ⟨[], [t]⟩ [] H ∧ (∀ (F' H' : Hp) (w : V) (u : OT) (sd' : SD), Same F F' → StR1 K [v] G' F' sd' [] H' w u → StR1 K pv G F' sd σ H' w u) ∧
    (∀ (F' H' : Hp) (sd' : SD), Same F F' → StR K [v] G' F' sd' [] H' → StR K pv G F' sd σ H') := by
  classical
  obtain ⟨o, P, W, r, k⟩ := s
  let G' : Hp := fun a => if F a = none ∧ ¬ P a then H a else none
  have g0 : ∀ a, F a = none → ¬ P a → G' a = H a := fun a x y => if_pos ⟨x, y⟩
  have gn : ∀ a, G' a = none → F a ≠ none ∨ P a ∨ H a = none := fun a z => by
    by_cases f : F a = none
    · by_cases q : P a
      · exact .inr (.inl q)
      · rw [g0 a f q] at z; exact .inr (.inr z)
    · exact .inl f
  have own : ∀ x a, o x a → G' a = H a ∧ H a ≠ none := fun x a q => by
    obtain ⟨k1, k2, k3⟩ := W.oh x a q
    exact ⟨g0 a k2 fun z => (k a z).2.2.2 x q, k1⟩
  have old : ∀ a u, G a = some u → G' a = some u := fun a u e => by
    have fa : F a = none := by
      cases e2 : F a with
      | none => rfl
      | some u2 => have := W.fg a (by rw [e2]; simp); rw [e] at this; cases this
    rw [g0 a fa fun z => by rw [(k a z).2.2.1] at e; cases e]
    exact W.gh a u e
  have back : ∀ (F' H' : Hp) (o' : Nat ⊕ Nat → Addr → Prop) (sd' : SD), Same F F' → Own K [v] G' F' sd' [] H' o' → Own K pv G F' sd σ H' o := fun F' H' o' sd' f W' => by
    have keep : ∀ x a, o x a → H' a = H a := fun x a q => by
      obtain ⟨k1, k2⟩ := own x a q
      cases e : H a with
      | none => exact absurd e k2
      | some u => exact W'.gh a u (by rw [k1]; exact e)
    refine ⟨W'.fh, fun a u e => W'.gh a u (old a u e), fun a ha => ?_, fun x a q => ?_, W.oo, W.len, fun i t' e => ?_, W.sp, fun j t' e => ?_⟩
    · cases e : G a with
      | none => rfl
      | some u =>
        have := W'.fg a ha
        rw [old a u e] at this
        cases this
    · obtain ⟨k1, k2⟩ := own x a q
      refine ⟨by rw [keep x a q]; exact k2, ?_, (W.oh x a q).2.2⟩
      cases e : F' a with
      | none => rfl
      | some u =>
        have := W'.fg a (by rw [e]; simp)
        rw [k1] at this
        exact absurd this k2
    · obtain ⟨w, k1, k2⟩ := W.sl i t' e
      exact ⟨w, k1, k2.mono f fun x hx => ⟨hx, keep _ x hx⟩⟩
    · obtain ⟨w, k1, k2⟩ := W.pr j t' e
      exact ⟨w, k1, k2.mono f fun x hx => ⟨hx, keep _ x hx⟩⟩
  refine ⟨G', ⟨fun x a => x = .inr 0 ∧ P a, W.fh, fun a u e => ?_, fun a ha => if_neg fun z => ha z.1, fun x a q => ⟨(k a q.2).1, (k a q.2).2.1, if_neg fun z => z.2 q.2⟩, fun x y a q q' => q.1.trans q'.1.symm, rfl, fun i t e => by simp at e, fun i j e => by simp at e, fun j t1 e => ?_⟩, fun F' H' w u sd' f ⟨o', P', W', r', k'⟩ => ⟨o, P', back F' H' o' sd' f W', r', fun a z => ?_⟩, fun F' H' sd' f ⟨o', W'⟩ => ⟨o, back F' H' o' sd' f W'⟩⟩
  · have e : (if F a = none ∧ ¬ P a then H a else none) = some u := e
    split at e
    · exact e
    · cases e
  · cases j with
    | zero =>
      have e : t1 = t := by simpa using e.symm
      subst e
      exact ⟨v, rfl, r.mono (Same.refl _) fun x hx => ⟨⟨rfl, hx⟩, rfl⟩⟩
    | succ j => simp at e
  · obtain ⟨q1, q2, q3, q4⟩ := k' a z
    rcases gn a q3 with q | q | q
    · exact absurd (f.free q2) q
    · exact ⟨q1, q2, (k a q).2.2⟩
    · exact ⟨q1, q2, W.gh.free q, fun i y => (W.oh i a y).1 q⟩
end
def mCallN (f : List OT → ER OT) (m : SD → ER OT) : SD → ER OT := fun sd => (m sd).bind fun t sd1 => match f [t] with
  | .ok u _ => .ok u sd1
  | .rz x _ => .rz x sd1
  | .bad => .bad
section
variable {X : Cx} {pv : List V} {W : WX} {p : Bool} {e : Expr}
theorem tr_callN {f : List OT → ER OT} {te : TE} {m : SD → ER OT} (h : TrO X.K pv W p te m) : TrO X.K pv W false (fun σ H Q => te σ H fun v H1 => spD X.K 1 f [v] H1 Q (WE W σ)) (mCallN f m) := by
  intro G F sd σ H Q s
  have z := Meets.bind (RS' := RSo X.K pv) (q := false) (Q := Q) (f := fun t sd1 => match f [t] with
    | .ok u _ => .ok u sd1
    | .rz x _ => .rz x sd1
    | .bad => .bad) (k := fun v H1 => spD X.K 1 f [v] H1 Q (WE W σ)) (h G F sd σ H _ s) fun v F1 H1 t sd1 s1 s2 s3 s4 => ?_
  · exact z.weak
  · have s3 : StR1 X.K pv G F1 sd1 σ H1 v t := s3
    obtain ⟨G', g1, g2, g3⟩ := s3.giveN
    cases e : f [t] with
    | bad => exact True.intro
    | rz x s' =>
      intro hW
      refine ⟨rfl, G', F1, [t], rfl, g1, ?_⟩
      rw [e]
      exact fun cls dd F2 H2 t1 t2 t3 => hW cls dd F2 H2 t1 (g3 F2 H2 s' t1 t2) t3
    | ok u s' =>
      intro hQ
      refine ⟨rfl, G', F1, [t], rfl, g1, ?_⟩
      rw [e]
      exact fun w F2 H2 t1 t2 => hQ w F2 H2 t1 (g2 F2 H2 w u s' t1 t2).drop (g2 F2 H2 w u s' t1 t2) fun w => by cases w
theorem do_callN {j : Nat} {f : Addr} {fd : FuncData} {ps : List Str} {x : Str} {pp pos : Pos} {g : List OT → ER OT} {m : SD → ER OT} (F : FnG X.prog X.w X.K X.mg X.base (L2.CX X.prog X.w) j f fd ps (spD X.K 1 g)) (hr : RoomG j X.A) (hg : Gl X x)
    (hm : X.mg x = some (.ref f)) (hk : PySem.W.keepIn X.K (.ref f) = true) (hb : Binds X.K fd ps []) (tk : Takes X W) (ha : DO X pv W p e m)
    (hdb : (x == ("__debug__" : Str)) = false := by decide) (he : starEach [e] X.env = (false, eval e X.env) :: starEach [] X.env := by rfl) (hpl : (backTo pos (starEach [] X.env)).any (·.1) = false := by rfl) :
    DO X pv W false (.Call (.Name x pp) [e] [] pos) (mCallN g m) := by
  obtain ⟨te, a1, a2⟩ := ha
  exact ⟨_, pe_callG F hr hg hm hk hb tk (pa_cons a1 pa_nil he) hdb he hpl, tr_callN a2⟩
end
end DL

/-! DL37: exceptions: raise, try .. except X as e (the exception stays a value), isinstance of it. -/
namespace DL
open PySem PySem.Spec L2 PyProof.Rows

/-! ### an object of ours is tracked from here on -/
section
variable {X : Cx} {pins : List (Addr × Obj)} {σ : L2.St} {H : Hp} {s : Shared}
theorem inv_track {a : Addr} {o : HO} (I : Inv X pins σ H s) (hn : H a = none) (n0 : X.s_0.heap.get? a = none) (nL : a ≠ X.env.locals) (nC : ∀ x c, X.env.cells.lookup x = some c → c ≠ a)
    (nP : ∀ p ∈ X.pn ++ pins, p.1 ≠ a) (new : ObjOk X.prog X.w (upd H a o) s.heap a o) : Inv X pins σ (upd H a o) s := by
  have n1 : ∀ b ob, X.s_0.heap.get? b = some ob → b ≠ a := fun b ob e z => by rw [z, n0] at e; cases e
  refine ⟨I.ok, I.os, I.bare, ⟨I.base.keep, I.base.slot, fun b ob e n hx => ?_, I.base.there, fun b xs q => ?_, fun b ob y q => ?_, fun b qs q => ?_⟩, I.loc, I.cell, ?_, fun x c e => ?_, fun p hp => ?_, fun b u e => ?_, I.len⟩
  · rw [upd_ne (n1 b ob e)]; exact I.base.free b ob e n hx
  · have q2 := I.base.tups b xs q
    rw [upd_ne (ne_of_none q2 hn)]; exact q2
  · have q2 := I.base.frzs b ob y q
    rw [upd_ne (ne_of_none q2 hn)]; exact q2
  · obtain ⟨more, q2⟩ := I.base.tbls b qs q
    exact ⟨more, by rw [upd_ne (ne_of_none q2 hn)]; exact q2⟩
  · rw [upd_ne (Ne.symm nL)]; exact I.free
  · rw [upd_ne (nC x c e)]; exact I.freeC x c e
  · obtain ⟨h1, h2, h3⟩ := I.pin p hp
    exact ⟨h1, by rw [upd_ne (nP p hp)]; exact h2, h3⟩
  · by_cases hb : b = a
    · subst hb
      rw [upd_same] at e
      cases e
      exact new
    · rw [upd_ne hb] at e
      exact (I.hok b u e).stay (fun c v _ q => q) (fun c q => by rw [upd_ne (ne_of_none q hn)]; exact q) fun c xs q => by rw [upd_ne (ne_of_none q hn)]; exact q
theorem exT_ok {P : Program} {w : World} {H : Hp} {h : Heap} {a : Addr} {cls : Value} {d : Option Addr} {oe : Obj} {vs : Array Value} (e : h.get? a = some oe) (z : Zc cls d oe) (hd : oe.data = .fields vs) : ObjOk P w H h a (ExT cls d a) :=
  ⟨⟨oe, e, z, vs, hd⟩, ⟨oe, e⟩, fun _ _ ⟨o, q, r⟩ k => ⟨o, k o q, r⟩⟩
/-- into an except suite, and out of it -/
theorem inv_suite {a : Addr} (I : Inv X pins σ H s) : Inv (X.suite a (X.pn ++ pins)) [] σ H s :=
  ⟨I.ok.suite _ _, I.os, I.bare, I.base, I.loc, I.cell, I.free, I.freeC, fun p hp => I.pin p (by rw [List.append_nil] at hp; exact hp), I.hok, I.len⟩
theorem inv_unsuite {a : Addr} {pn' : List (Addr × Obj)} (I : Inv (X.suite a (X.pn ++ pins)) pn' σ H s) (ok : X.Ok) : Inv X pins σ H s :=
  ⟨ok, I.os, I.bare, I.base, I.loc, I.cell, I.free, I.freeC, fun p hp => I.pin p (List.mem_append_left _ hp), I.hok, I.len⟩
end

/-- the ends of a suite: the clause's name goes -/
def sEnd (D : Ends) (i : Nat) : Ends := { nx := fun σ' H' => D.nx (σ'.set i none) H', rt := D.rt, bk := fun σ' H' => D.bk (σ'.set i none) H', ct := fun σ' H' => D.ct (σ'.set i none) H' }
/-- what an exception of the body must be: of the class that the clause names, and good for the suite -/
def wKeep (X : Cx) (c : Value) (i : Nat) (suite : List Stmt) (D : Ends) : WX := fun cls d σ H =>
  PySem.W.exmOne X.K cls c = some true ∧ ∀ a pn, H a = none → ∃ ts, PSs (X.suite a pn) suite ts ∧ ts (sEnd D i) (σ.set i (some (.ref a))) (upd H a (ExT cls d a))
/-- an exception of the body, in the hands of the frame: sI, the state without it, is one of ours -/
structure Caught (X : Cx) (pins : List (Addr × Obj)) (B : Heap) (a : Addr) (cls : Value) (d : Option Addr) (σ : L2.St) (H : Hp) (z : Shared) : Prop where
  fly : HandSPX.FlyingZ B (X.env :: X.outer) a (Zc cls d) z.heap
  was : ∃ y : Shared, Inv X pins σ H y ∧ (∀ b o, y.heap.get? b = some o → b ∉ frs X.stack → B.get? b = some o) ∧ y.heap.UpToSlots z.heap ∧ z.os = y.os
  bare : AllBare z.gens
  new : H a = none
section
variable {X : Cx} {pins : List (Addr × Obj)} {B : Heap} {a : Addr} {cls : Value} {d : Option Addr} {σ : L2.St} {H : Hp} {z : Shared}
theorem Caught.move {h : Heap} (c : Caught X pins B a cls d σ H z) (f : HandSPX.FlyingZ B (X.env :: X.outer) a (Zc cls d) h) (u : z.heap.UpToSlots h) : Caught X pins B a cls d σ H { z with heap := h } :=
  let ⟨y, i, n, v, o⟩ := c.was
  ⟨f, ⟨y, i, n, v.trans u, o⟩, c.bare, c.new⟩
theorem Caught.inv (c : Caught X pins B a cls d σ H z) : Inv X pins σ H z :=
  let ⟨_, i, n, v, o⟩ := c.was
  i.landed n c.fly.1 v o c.bare
/-- no frame is an exception -/
theorem Caught.noframe (c : Caught X pins B a cls d σ H z) : a ∉ frs (X.env :: X.outer) := fun m => by
  obtain ⟨oe, vs, e1, _, e2⟩ := c.fly.there
  obtain ⟨_, o2, e3, n⟩ := c.fly.2.2.1.mem m
  exact n vs (by rw [e1] at e3; cases e3; exact e2)
/-- and from here on it is tracked -/
theorem Caught.kept (hs : X.stack = X.env :: X.outer) (hf : X.env.frame = some X.env.locals) (hex : X.ex = []) (c : Caught X pins B a cls d σ H z) : Inv X pins σ (upd H a (ExT cls d a)) z := by
  obtain ⟨y, i, n, v, o⟩ := c.was
  have nf := c.noframe
  have ny : y.heap.get? a = none := by
    cases e : y.heap.get? a with
    | none => rfl
    | some u => exact nomatch c.fly.2.1.symm.trans (n a u e (by rw [hs]; exact nf))
  have n0 : X.s_0.heap.get? a = none := by
    cases e : X.s_0.heap.get? a with
    | none => rfl
    | some u =>
      obtain ⟨w, ew⟩ := i.base.there a u e (by rw [hex]; exact fun q => nomatch q)
      exact nomatch ny.symm.trans ew
  obtain ⟨oe, vs, e1, e2, e3⟩ := c.fly.there
  refine inv_track c.inv c.new n0 (fun q => nf (List.mem_filterMap.mpr ⟨X.env, List.mem_cons_self, hf.trans (congrArg some q.symm)⟩)) (fun x k e q => ?_) (fun p m q => ?_) (exT_ok e1 e2 e3)
  · obtain ⟨_, u, eu, _⟩ := i.cell x k e
    rw [q] at eu
    exact nomatch ny.symm.trans eu
  · have eu := (i.pin p m).1
    rw [q] at eu
    exact nomatch ny.symm.trans eu
end
section
variable {X : Cx} {x n : Str} {c : Value} {i : Nat} {body suite : List Stmt} {b₀ : Stmt} {np pos pos' : Pos}
/-- the clause takes it -/
theorem Caught.handle {pins : List (Addr × Obj)} {B : Heap} {a : Addr} {cls : Value} {d : Option Addr} {σ : L2.St} {H : Hp} {z : Shared} {D : Ends} (hs : X.stack = X.env :: X.outer) (hf : X.env.frame = some X.env.locals) (hex : X.ex = [])
    (hN : X.N.Nodup) (hi : X.N[i]? = some n) (hln : X.env.kindOf n = some .local) (hc : Names X x c) (k : Caught X pins B a cls d σ H z) (w : wKeep X c i (b₀ :: suite) D cls d σ H) :
    wpAny (model X.prog X.w) X.A (handleBy (.ref a) X.env [.ExceptHandler (some (.Name x np)) (some n) (b₀ :: suite) pos']) (SP X pins D) X.xe z := by
  have ok := k.inv.ok
  obtain ⟨w1, w2⟩ := w
  obtain ⟨oe, vs, e1, e2, e3⟩ := k.fly.there
  have T : Inv (X.suite a (X.pn ++ pins)) [] σ H z := inv_suite k.inv
  have cl : PySem.W.Looks (model X.prog X.w) z.heap (typeOf (.ref a)) cls := fun _ _ _ _ keep q => wpAny_typeOf_ref (keep _ _ e1) (e2.1 ▸ q)
  have yes := PySem.W.exm_one (M := model X.prog X.w) k.inv.kIn cl w1
  refine wpAny_handleBy_cons (codeAny_handlers_test ?_) (fun q => nomatch q)
  have found : ∀ {R : Value → Shared → Prop} {E : Value → Shared → Prop}, R c z → wpAny (model X.prog X.w) (X.suite a (X.pn ++ pins)).A (eval (.Name x np) X.env) R E z := fun {R E} r => by
    rcases hc.2.2 with m | ⟨m, v, nn⟩
    · exact ld_glob (X := X.suite a (X.pn ++ pins)) T hc.1 m r hc.2.1
    · exact ld_blt (X := X.suite a (X.pn ++ pins)) T hc.1 m v r nn hc.2.1
  refine found (yes.here (codeAny_handlers_suite_as (HandSPX.lands_againZ k.fly fun h f u => ?_)))
  have k2 := k.move f u
  obtain ⟨ts, p, q⟩ := w2 a (X.pn ++ pins) k.new
  have gone : ∀ {σ6 : L2.St} {H6 : Hp} {y : Shared} {R : Shared → Prop}, Inv (X.suite a (X.pn ++ pins)) [] σ6 H6 y → (∀ y', Inv X pins (σ6.set i none) H6 y' → R y') →
      wpAny (model X.prog X.w) X.A (do bindName X.env n .none; unbindBehindTheSuite X.env n pos') (fun _ y' => R y') X.xe y := fun J r => gone_ok (inv_unsuite J ok) hN hi hln r
  refine store_ok (X := X.suite a (X.pn ++ pins)) (v := .ref a) (inv_suite (k2.kept hs hf hex)) hN hi (.inl hln) rfl (fun y J => ?_) (.inr hln)
  refine wpAny_mono (p.run [] y _ _ _ J q) (fun fl y2 g => ?_) fun _ _ g => g.elim
  rcases fl with _ | _ | _ | u
  all_goals first
    | (obtain ⟨σ6, H6, J6, g⟩ := g
       exact gone J6 fun y3 J7 => ⟨_, _, J7, g⟩)
    | (obtain ⟨v6, σ6, H6, J6, r6, g⟩ := g
       exact gone J6 fun y3 J7 => ⟨_, _, _, J7, r6, g⟩)
/-- try .. except X as n: the exception stays a value behind the suite. What the body lets out is caught -/
theorem ps_try_keep (hs : X.stack = X.env :: X.outer) (hf : X.env.frame = some X.env.locals) (hex : X.ex = []) (hN : X.N.Nodup) (hi : X.N[i]? = some n) (hln : X.env.kindOf n = some .local) (hc : Names X x c) :
    PS X (.Try body [.ExceptHandler (some (.Name x np)) (some n) (b₀ :: suite) pos'] [] [] pos) (fun D σ H => ∀ pn xe, Takes (X.tr pn xe) (wKeep X c i (b₀ :: suite) D) → PassesOwn (model X.prog X.w) X.A X.env xe → ∃ ts, PSs (X.tr pn xe) body ts ∧ ts D σ H) := by
  refine ⟨fun pins s σ H D I h => wpAny_Try_except ?_⟩
  have hfr : X.A.frames = some (X.env :: X.outer) := I.ok.frames.trans (congrArg some hs)
  obtain ⟨tb, hb, h⟩ := h (X.pn ++ pins) (fun e y => wpAny (model X.prog X.w) X.A (noteFrame e X.env) (fun _ y2 => wpAny (model X.prog X.w) X.A (setFlight e none) (fun _ y3 => wpAny (model X.prog X.w) X.A (handleBy e X.env [.ExceptHandler (some (.Name x np)) (some n) (b₀ :: suite) pos']) (SP X pins D) X.xe y3) X.xe y2) X.xe y) (fun u z q => by
    obtain ⟨a, B, y, _, σ2, H2, cls, d, rfl, J, n1, up, sky, na, os, ag, w⟩ := q
    have sky : Sky B (X.env :: X.outer) a (Zc cls d) X.env.locals z.heap := hs ▸ sky
    exact Sky.land Zc.steady hfr hf sky fun hh f u => Caught.handle (z := { z with heap := hh }) hs hf hex hN hi hln hc ⟨f, ⟨y, J.ofTry I.ok, n1, up.trans u, os⟩, ag, na⟩ w) PassesOwn.looking
  refine wpAny_mono (hb.run [] s σ H D (I.toTry _) h) (fun fl y g => ?_) fun _ _ g => g
  rcases fl with _ | _ | _ | u
  · obtain ⟨σ2, H2, J, g⟩ := g
    exact wpAny_execs_nil ⟨σ2, H2, J.ofTry I.ok, g⟩
  all_goals first
    | (obtain ⟨σ2, H2, J, g⟩ := g
       exact ⟨σ2, H2, J.ofTry I.ok, g⟩)
    | (obtain ⟨v, σ2, H2, J, r, g⟩ := g
       exact ⟨v, σ2, H2, J.ofTry I.ok, r, g⟩)
end

/-! ### its mirror -/
def Exn.okB (x : Exn) : Bool := match x.fs with
  | some [] => false
  | _ => true
def Exn.toD (x : Exn) : D := .exc x.C ((x.fs.getD []).map (·.1)) ((x.fs.getD []).map (·.2))
def SD.unset (sd : SD) (i : Nat) : SD := { sd with sl := sd.sl.set i .un }
def Fl.unset (i : Nat) (r : Fl) : Fl := match r with
  | .nx sd => .nx (sd.unset i)
  | .bk sd => .bk (sd.unset i)
  | .ct sd => .ct (sd.unset i)
  | .rt t sd => .rt t sd
  | _ => .bad
def sTry (test : Addr → Bool) (i : Nat) (body suite : SD → Fl) : SD → Fl := fun sd => match body sd with
  | .rz x sd1 => if test x.C = true ∧ i < sd1.sl.length ∧ x.okB = true then (suite { sd1 with sl := sd1.sl.set i (.ow (.fz x.toD)) }).unset i else .bad
  | r => r
theorem StR.unset {K : PySem.W.Frag} {pv : List V} {G F H : Hp} {sd : SD} {σ : L2.St} (s : StR K pv G F sd σ H) (i : Nat) : StR K pv G F (sd.unset i) (σ.set i none) H := by
  obtain ⟨o, W⟩ := s
  have ne : ∀ (j : Nat) (z : S), (sd.sl.set i .un)[j]? = some z → z ≠ .un → i ≠ j ∧ sd.sl[j]? = some z := fun j z e hz => by
    by_cases h : i = j
    · subst h
      by_cases hl : i < sd.sl.length
      · rw [List.getElem?_set_self hl] at e; cases e; exact absurd rfl hz
      · rw [List.getElem?_eq_none (by simpa using hl)] at e; cases e
    · rw [List.getElem?_set_ne h] at e; exact ⟨h, e⟩
  refine ⟨o, W.fh, W.gh, W.fg, W.oh, W.oo, ?_, fun j t e => ?_, fun j l e => ?_, W.pr⟩
  · show (σ.set i none).length = (sd.sl.set i .un).length
    rw [List.length_set, List.length_set]; exact W.len
  · obtain ⟨h, e⟩ := ne j _ e (fun z => by cases z)
    obtain ⟨v, h1, h2⟩ := W.sl j t e
    exact ⟨v, by rw [List.getElem?_set_ne h]; exact h1, h2⟩
  · obtain ⟨h, e⟩ := ne j _ e (fun z => by cases z)
    obtain ⟨v, h1, h2⟩ := W.sp j l e
    exact ⟨v, h1, by rw [List.getElem?_set_ne h]; exact h2⟩
theorem RepX.value {K : PySem.W.Frag} {F F' : Hp} {cls : Value} {d : Option Addr} {x : Exn} {a : Addr} (r : RepX K F cls d x) (ok : x.okB = true) (e : Same F F') (h : F' a = some (ExT cls d a)) : Rep K F' (.ref a) x.toD := by
  obtain ⟨C, fs⟩ := x
  obtain ⟨h1, h2⟩ := r
  subst h1
  cases fs with
  | none =>
    have h2 : d = none := h2
    subst h2
    exact .exc (fvs := []) h (fun dx z => nomatch z) ⟨fun _ => rfl, fun _ => rfl⟩ .nil
  | some l =>
    obtain ⟨dx, fvs, rfl, hx, hn, rs⟩ := h2
    show Rep K F' (.ref a) (.exc C (l.map (·.1)) (l.map (·.2)))
    rw [← hn]
    refine .exc h (fun d z => by cases z; exact e _ _ hx) ⟨(fun z => by cases z), fun z => ?_⟩ (rs.mono e)
    subst z
    cases l with
    | nil => cases ok
    | cons _ _ => cases hn
section
variable {X : Cx} {pv : List V} {W : WX} {x n : Str} {c : Value} {i : Nat} {body suite : List Stmt} {b₀ : Stmt} {np pos pos' : Pos} {mb ms : SD → Fl} {test : Addr → Bool}
theorem ds_try (hs : X.stack = X.env :: X.outer) (hf : X.env.frame = some X.env.locals) (hex : X.ex = []) (hN : X.N.Nodup) (hi : X.N[i]? = some n) (hln : X.env.kindOf n = some .local) (hc : Names X x c)
    (ht : ∀ C, test C = true → PySem.W.exmOne X.K (.ref C) c = some true)
    (hb : ∀ (W' : WX) (pn : List (Addr × Obj)) (xe : Value → Shared → Prop), Takes (X.tr pn xe) W' → PassesOwn (model X.prog X.w) X.A X.env xe → DSs (X.tr pn xe) pv W' body mb)
    (hsu : ∀ (a : Addr) (pn : List (Addr × Obj)), DSs (X.suite a pn) pv (fun _ _ _ _ => False) (b₀ :: suite) ms) :
    DS X pv W (.Try body [.ExceptHandler (some (.Name x np)) (some n) (b₀ :: suite) pos'] [] [] pos) (sTry test i mb ms) := by
  refine ⟨_, ps_try_keep hs hf hex hN hi hln hc, fun G F sd σ H D s => ?_⟩
  have key : ∀ pn xe, Takes (X.tr pn xe) (wKeep X c i (b₀ :: suite) D) → PassesOwn (model X.prog X.w) X.A X.env xe → ∃ ts, PSs (X.tr pn xe) body ts ∧ MeetsS X.K pv (wKeep X c i (b₀ :: suite) D) G F (mb sd) D (ts D σ H) := fun pn xe t po => by
    obtain ⟨ts, p, tr⟩ := hb _ pn xe t po
    exact ⟨ts, p, tr G F sd σ H D s⟩
  unfold sTry
  revert key
  cases mb sd with
  | bad => exact fun _ => True.intro
  | nx sd1 => exact fun key hQ pn xe t po => let ⟨ts, p, m⟩ := key pn xe t po; ⟨ts, p, m hQ⟩
  | rt v sd1 => exact fun key hQ pn xe t po => let ⟨ts, p, m⟩ := key pn xe t po; ⟨ts, p, m hQ⟩
  | bk sd1 => exact fun key hQ pn xe t po => let ⟨ts, p, m⟩ := key pn xe t po; ⟨ts, p, m hQ⟩
  | ct sd1 => exact fun key hQ pn xe t po => let ⟨ts, p, m⟩ := key pn xe t po; ⟨ts, p, m hQ⟩
  | rz y sd1 =>
    intro key
    show MeetsS X.K pv W G F (if test y.C = true ∧ i < sd1.sl.length ∧ y.okB = true then (ms { sd1 with sl := sd1.sl.set i (.ow (.fz y.toD)) }).unset i else .bad) D _
    split
    · rename_i hil
      obtain ⟨htc, hil, hok⟩ := hil
      have su : ∀ cls dd F' σ' H' a pn, Same F F' → StR X.K pv G F' sd1 σ' H' → RepX X.K F' cls dd y → H' a = none → ∃ ts, PSs (X.suite a pn) (b₀ :: suite) ts ∧ Same F (upd F' a (ExT cls dd a)) ∧
          MeetsS X.K pv (fun _ _ _ _ => False) G (upd F' a (ExT cls dd a)) (ms { sd1 with sl := sd1.sl.set i (.ow (.fz y.toD)) }) (sEnd D i) (ts (sEnd D i) (σ'.set i (some (.ref a))) (upd H' a (ExT cls dd a))) := fun cls dd F' σ' H' a pn s1 s2 s3 hn => by
        obtain ⟨ts, p, tr⟩ := hsu a pn
        have sn := s2.sameNew (u := ExT cls dd a) hn
        have r := s3.value (a := a) hok sn upd_same
        exact ⟨ts, p, s1.trans sn, tr G _ _ _ _ (sEnd D i) ((StR1.fz (s2.new hn) r).store hil)⟩
      have wrap : (∀ cls dd F' σ' H', Same F F' → StR X.K pv G F' sd1 σ' H' → RepX X.K F' cls dd y → ∀ a pn, H' a = none → ∃ ts, PSs (X.suite a pn) (b₀ :: suite) ts ∧ ts (sEnd D i) (σ'.set i (some (.ref a))) (upd H' a (ExT cls dd a))) →
          ∀ pn xe, Takes (X.tr pn xe) (wKeep X c i (b₀ :: suite) D) → PassesOwn (model X.prog X.w) X.A X.env xe → ∃ ts, PSs (X.tr pn xe) body ts ∧ ts D σ H := fun h pn xe t po => by
        obtain ⟨ts, p, m⟩ := key pn xe t po
        refine ⟨ts, p, m fun cls dd F' σ' H' s1 s2 s3 => ?_⟩
        obtain ⟨e1, _⟩ := id s3
        exact ⟨by rw [e1]; exact ht _ htc, fun a pn hn => h cls dd F' σ' H' s1 s2 s3 a pn hn⟩
      revert su
      cases ms { sd1 with sl := sd1.sl.set i (.ow (.fz y.toD)) } with
      | bad => exact fun _ => True.intro
      | rz _ _ => exact fun _ => True.intro
      | nx sd2 =>
        intro su hQ
        refine wrap fun cls dd F' σ' H' s1 s2 s3 a pn hn => ?_
        obtain ⟨ts, p, sm, m⟩ := su cls dd F' σ' H' a pn s1 s2 s3 hn
        exact ⟨ts, p, m fun F2 σ2 H2 t1 t2 => hQ F2 _ H2 (sm.trans t1) (t2.unset i)⟩
      | bk sd2 =>
        intro su hQ
        refine wrap fun cls dd F' σ' H' s1 s2 s3 a pn hn => ?_
        obtain ⟨ts, p, sm, m⟩ := su cls dd F' σ' H' a pn s1 s2 s3 hn
        exact ⟨ts, p, m fun F2 σ2 H2 t1 t2 => hQ F2 _ H2 (sm.trans t1) (t2.unset i)⟩
      | ct sd2 =>
        intro su hQ
        refine wrap fun cls dd F' σ' H' s1 s2 s3 a pn hn => ?_
        obtain ⟨ts, p, sm, m⟩ := su cls dd F' σ' H' a pn s1 s2 s3 hn
        exact ⟨ts, p, m fun F2 σ2 H2 t1 t2 => hQ F2 _ H2 (sm.trans t1) (t2.unset i)⟩
      | rt v sd2 =>
        intro su hQ
        refine wrap fun cls dd F' σ' H' s1 s2 s3 a pn hn => ?_
        obtain ⟨ts, p, sm, m⟩ := su cls dd F' σ' H' a pn s1 s2 s3 hn
        exact ⟨ts, p, m fun v2 F2 σ2 H2 t1 t2 => hQ v2 F2 σ2 H2 (sm.trans t1) t2⟩
    · exact True.intro

/-! ### raise -/
def sRaise (C : Addr) : SD → Fl := fun sd => .rz ⟨C, none⟩ sd
/-- what of an own exception class without own __init__ is asked to make one -/
structure XMk (K : PySem.W.Frag) (C : Addr) : Prop where
  q : PySem.W.excIn K C [.type "ValueError", .type "Exception", .type "BaseException", .type "object"] "ValueError.__new__" = true
  k : PySem.W.keepIn K (.ref C) = true
  b : PySem.W.subIn K (.ref C) (.type "BaseException") = some true
  t : PySem.W.typeIn K (.ref C) = some (.type "type")
theorem ds_raise {C : Addr} {m : Str} {j : Nat} {p p2 : Pos} (hc : X.calm = true) (tk : Takes X W) (f : XMk X.K C) (hg : Gl X x) (gC : X.mg x = some (.ref C)) (hdb : (x == ("__debug__" : Str)) = false := by decide) :
    DS X pv W (.Raise (some (.Call (.Name x p) [.Constant (.str m) j p2] [] pos')) none pos) (sRaise C) := by
  refine ⟨_, ps_raise hc tk (pmk_own PySem.F.excBase_ValueError f.q gC f.k (raises_own f.b f.t) hg hdb), fun G F sd σ H D s => ?_⟩
  exact fun hW => hW (.ref C) none F σ H (Same.refl _) s ⟨rfl, rfl⟩
end

/-! ### isinstance of an exception -/
/-- a value's type, exceptions without fields too -/
def TyE (K : PySem.W.Frag) (H : Hp) (v : V) (t : Value) : Prop := TyX K H v t ∨ ∃ a C, v = .ref a ∧ t = .ref C ∧ H a = some (ExT (.ref C) none a) ∧ ExcC K C
section
variable {X : Cx} {pins : List (Addr × Obj)} {σ : L2.St} {H : Hp} {s : Shared}
theorem kit_ofE {x : V} {u t : Value} (I : Inv X pins σ H s) (rx : RelV x u) (ty : TyE X.K H x t) : ∃ P : Heap → Prop, PySem.W.KitX X.K u t P ∧ P s.heap ∧ u ≠ .builtin "__main__.__loader__#opaque" := by
  rcases ty with ty | ⟨a, C, ex, et, e, c⟩
  · exact kit_of I rx ty
  · subst ex et
    cases (show u = Value.ref a from rx)
    obtain ⟨⟨oe, he, hz, vs, hd⟩, _, _⟩ := I.hok a _ e
    have J : PySem.W.InstAt s.heap a oe C none := by
      obtain ⟨oc, od, oda, osl⟩ := oe
      obtain ⟨h1, h2⟩ := hz
      dsimp only at h1 h2 hd
      subst h1 h2 hd
      exact ⟨he, rfl, rfl, True.intro⟩
    exact ⟨_, PySem.W.handS_kitx_exc c.hg c.hk c.hs c.hd c.ha c.hn c.ht c.hm, J, fun z => nomatch z⟩
end
def rIsiE (K : PySem.W.Frag) : List V → Hp → VK → Prop := fun xs H Q => ∃ (x c : V) (t u : Value) (b : Bool), xs = [x, c] ∧ ClsV c u ∧ TyE K H x t ∧ PySem.W.kitOne K t u = some b ∧ Q (.bl b) H
def rIsiTE (K : PySem.W.Frag) : List V → Hp → VK → Prop := fun xs H Q => ∃ (x : V) (tp : Addr) (cs : List V) (t : Value) (us : List Value) (b : Bool), xs = [x, .ref tp] ∧ H tp = some (.tup cs) ∧ Paired ClsV cs us ∧ TyE K H x t ∧ PySem.W.kitAny K t us = some b ∧ Q (.bl b) H
section
variable {X : Cx}
theorem call_isiE : CallR X (.builtin "isinstance") (fun xs H Q => rIsiE X.K xs H Q ∨ rIsiTE X.K xs H Q) := by
  intro pins s σ H xs us Q I r h
  rcases h with ⟨x, c, t, u, b, rfl, k, ty, e, q⟩ | ⟨x, tp, cs, t, ws, b, rfl, hT, k, ty, e, q⟩
  · obtain ⟨u1, u2, rfl, r1, r2⟩ := vals2 r
    have e2 := k.eq r2
    subst e2
    obtain ⟨P, Z, p, hx⟩ := kit_ofE I r1 ty
    exact PySem.W.kia_one Z I.kIn p e hx fun tk => ⟨.bl b, H, I.tok tk, rfl, q⟩
  · obtain ⟨u1, u2, rfl, r1, r2⟩ := vals2 r
    cases (show u2 = Value.ref tp from r2)
    obtain ⟨P, Z, p, hx⟩ := kit_ofE I r1 ty
    obtain ⟨_, its, rv, o, h1, h2, n, h3⟩ := (show ObjOk X.prog X.w H s.heap tp (.tup cs) from I.hok tp _ hT)
    have e3 := ClsV.all k rv
    subst e3
    obtain ⟨oc, od, dt, sl⟩ := o
    simp only at h2 h3
    subst h2 h3
    exact PySem.W.kia_tup Z I.kIn p h1 e hx fun tk => ⟨.bl b, H, I.tok tk, rfl, q⟩
end
/-- is an exception of the class C one of the class u? -/
abbrev XRel := Addr → Value → Option Bool
structure XRelOk (K : PySem.W.Frag) (rel : XRel) : Prop where
  c : ∀ C u b, rel C u = some b → ExcC K C
  r : ∀ C u b, rel C u = some b → PySem.W.kitOne K (.ref C) u = some b
def clsD : D → Option Value
  | .cls N => some (.ref N)
  | .ty n => some (.type n)
  | _ => none
def relAny (rel : XRel) (C : Addr) : List D → Option Bool
  | [] => some false
  | d :: ds => (clsD d).bind fun u => match rel C u with
    | some true => (relAny rel C ds).map fun _ => true
    | some false => relAny rel C ds
    | none => none
def dIsE (rel : XRel) : List D → Option D
  | [.exc C [] [], .tup ds] => if ds = [] then none else (relAny rel C ds).map .bl
  | [.exc C [] [], d] => ((clsD d).bind (rel C)).map .bl
  | _ => none
theorem clsD_v {K : PySem.W.Frag} {H : Hp} {v : V} {d : D} {u : Value} (r : Rep K H v d) (h : clsD d = some u) : ClsV v u := by
  cases r <;> cases h
  · exact .ty _
  · exact .own _
theorem relAny_ok {K : PySem.W.Frag} {rel : XRel} (o : XRelOk K rel) {H : Hp} {C : Addr} : ∀ {ds : List D} {vs : List V} {b : Bool}, Reps K H vs ds → relAny rel C ds = some b → ∃ us, Paired ClsV vs us ∧ PySem.W.kitAny K (.ref C) us = some b ∧ (ds ≠ [] → ExcC K C)
  | [], vs, b, r, h => by
    cases r
    cases h
    exact ⟨[], .nil, rfl, fun z => absurd rfl z⟩
  | d :: ds, vs, b, r, h => by
    cases r with
    | cons r1 r2 =>
      obtain ⟨u, e1, h⟩ := Option.bind_eq_some_iff.mp h
      have cv := clsD_v r1 e1
      have h : (match rel C u with
        | some true => (relAny rel C ds).map fun _ => true
        | some false => relAny rel C ds
        | none => none) = some b := h
      cases e : rel C u with
      | none => rw [e] at h; cases h
      | some t =>
        rw [e] at h
        cases t with
        | true =>
          obtain ⟨b', e2, h⟩ := Option.map_eq_some_iff.mp h
          subst h
          obtain ⟨us, k1, k2, k3⟩ := relAny_ok o r2 e2
          exact ⟨u :: us, .cons cv k1, kitAny_cons (o.r _ _ _ e) (fun z => by cases z) (fun _ => rfl), fun _ => o.c _ _ _ e⟩
        | false =>
          obtain ⟨us, k1, k2, k3⟩ := relAny_ok o r2 h
          exact ⟨u :: us, .cons cv k1, kitAny_cons (o.r _ _ _ e) (fun _ => k2) (fun z => by cases z), fun _ => o.c _ _ _ e⟩
theorem rep_exc0 {K : PySem.W.Frag} {H : Hp} {v : V} {C : Addr} {d : D} (r : Rep K H v d) (hd : d = .exc C [] []) : ∃ a, v = .ref a ∧ H a = some (ExT (.ref C) none a) := by
  cases r with
  | @exc a C' dd fvs ds h k n rr =>
    injection hd with e1 e2 e3
    subst e1
    have e : fvs = [] := List.map_eq_nil_iff.mp e2
    have e := n.mpr e
    subst e
    exact ⟨a, rfl, h⟩
  | _ => cases hd
theorem f_isE {K : PySem.W.Frag} {rel : XRel} (o : XRelOk K rel) : CallS K (fun xs H Q => rIsiE K xs H Q ∨ rIsiTE K xs H Q) (dIsE rel) := by
  intro H xs ds c r h
  unfold dIsE at h
  split at h
  · rename_i C ds
    obtain ⟨v, v', rfl, r1, r2⟩ := reps2 r
    split at h
    · cases h
    · rename_i hne
      obtain ⟨b, e, h⟩ := Option.map_eq_some_iff.mp h
      subst h
      obtain ⟨a, rfl, ea⟩ := rep_exc0 r1 rfl
      cases r2 with
      | @tup tp vs _ ht rr =>
        obtain ⟨us, k1, k2, k3⟩ := relAny_ok o rr e
        exact ⟨_, rfl, fun Q q => .inr ⟨_, tp, vs, .ref C, us, b, rfl, ht, k1, .inr ⟨a, C, rfl, rfl, ea, k3 hne⟩, k2, q⟩⟩
  · rename_i C d hd
    obtain ⟨v, v', rfl, r1, r2⟩ := reps2 r
    obtain ⟨b, e, h⟩ := Option.map_eq_some_iff.mp h
    subst h
    obtain ⟨u, e1, e2⟩ := Option.bind_eq_some_iff.mp e
    obtain ⟨a, rfl, ea⟩ := rep_exc0 r1 rfl
    exact ⟨_, rfl, fun Q q => .inl ⟨_, v', .ref C, u, b, rfl, clsD_v r2 e1, .inr ⟨a, C, rfl, rfl, ea, o.c _ _ _ e2⟩, o.r _ _ _ e2, q⟩⟩
  · cases h
end DL

/-! DL38: dict displays that nobody changes, repr of data with dicts, the table of exception classes. -/
namespace DL
open PySem PySem.Spec L2 PyProof.Rows

/-! ### {}, {0: 1} -/
section
variable {X : Cx} {pv : List V} {W : WX} {pos : Pos}
def mDict0 : SD → ER D := fun sd => .ok (.dic false [] []) sd
theorem dx_dict0 : DX X pv W true true (.Dict [] [] pos) mDict0 := by
  refine ⟨_, pe_dnewK, fun G F sd σ H Q s => ?_⟩
  intro hQ
  intro p hp
  exact hQ _ _ _ (s.sameNew hp) (s.new hp) (Rep.dicK (kvs := []) (.inl upd_same) .nil) fun _ => ⟨Same.upd hp, rfl⟩
def mDict1 (i j : Int) : SD → ER D := fun sd => .ok (.dic false [.k (.inl i)] [.int j]) sd
theorem dx_dict1 {i j : Int} {x1 x2 : Nat} {p1 p2 : Pos} : DX X pv W true true (.Dict [some (.Constant (.int i) x1 p1)] [.Constant (.int j) x2 p2] pos) (mDict1 i j) := by
  refine ⟨_, pe_disp (trs := [(_, _)]) (pps_cons pe_int pe_int pps_nil) rfl rfl (by simp) (by simp), fun G F sd σ H Q s => ?_⟩
  intro hQ p hp
  refine ⟨upd_same, [(.inl i, .int j)], rfl, by simp, ?_⟩
  have e : upd (upd H p (.dK [])) p (.dK (mergeK [] [((.inl i : Key), V.int j)])) = upd H p (.dK [((.inl i : Key), V.int j)]) := by
    funext b
    by_cases h : b = p
    · subst h; rw [upd_same, upd_same]; rfl
    · rw [upd_ne h, upd_ne h, upd_ne h]
  show Q (.ref p) (upd (upd H p (.dK [])) p (.dK (mergeK [] [((.inl i : Key), V.int j)])))
  rw [e]
  exact hQ _ _ _ (s.sameNew hp) (s.new hp) (Rep.dicK (kvs := [((.inl i : Key), V.int j)]) (.inl upd_same) (.cons (.int j) .nil)) fun _ => ⟨Same.upd hp, rfl⟩
end

/-! ### repr of data with dicts -/
def keyPy : DKey → Option PyData
  | .k (.inl i) => some (.int i)
  | .k (.inr x) => some (.str x)
  | .t _ => none
def keysPy : List DKey → Option (List PyData)
  | [] => some []
  | k :: ks => (keyPy k).bind fun p => (keysPy ks).map (p :: ·)
mutual
def D.pyd : D → Option PyData
  | .non => some .none
  | .bl b => some (.bool b)
  | .int i => some (.int i)
  | .str x => some (.str x)
  | .tup xs => (D.pyds xs).map .tuple
  | .ktu xs => (D.pyds xs).map .tuple
  | .lst xs => (D.pyds xs).map .list
  | .dic false ks vs => (keysPy ks).bind fun ps => (D.pyds vs).map fun qs => .dict (ps.zip qs)
  | _ => none
def D.pyds : List D → Option (List PyData)
  | [] => some []
  | d :: ds => d.pyd.bind fun p => (D.pyds ds).map (p :: ·)
end
/-- where the interpreter's own modules stand no list stands -/
def SmOk (K : PySem.W.Frag) : Prop := ∃ o, K.lookup sysModules = some o ∧ (o.cls == .type "list") = false
theorem keysPy_len : ∀ {ks : List DKey} {ps : List PyData}, keysPy ks = some ps → ps.length = ks.length
  | [], ps, h => by cases h; rfl
  | k :: ks, ps, h => by
    obtain ⟨p, e1, h⟩ := Option.bind_eq_some_iff.mp h
    obtain ⟨qs, e2, h⟩ := Option.map_eq_some_iff.mp h
    subst h
    rw [List.length_cons, List.length_cons, keysPy_len e2]
theorem keys_read {P : Program} {w : World} {h : Heap} : ∀ {kvs : List (Key × V)} {vs : List (Key × Value)} {es : List DictEntry} {ps : List PyData}, KV kvs vs → Pairs (mixKind P w) es vs → keysPy (kvs.map fun p => DKey.k p.1) = some ps → ReadsAll h (es.map (·.key)) ps []
  | [], vs, es, ps, r, q, e => by
    cases r; cases q; cases e
    exact .nil
  | p :: kvs, vs, es, ps, r, q, e => by
    unfold KV at r
    cases r with
    | @cons _ kv _ _ hr rr =>
      cases q with
      | @cons ent _ es' kvs' h1 h2 qq =>
        rw [List.map_cons] at e
        obtain ⟨pp, e1, e⟩ := Option.bind_eq_some_iff.mp e
        obtain ⟨qs, e2, e⟩ := Option.map_eq_some_iff.mp e
        subst e
        have t := keys_read (h := h) rr qq e2
        have hk : keyIs kv.1 ent.key = true := h1
        rw [← hr.1] at hk
        rcases keyIs_shape hk with ⟨i, t1, ek, ev⟩ | ⟨x, t1, ek, ev⟩
        · rw [ek] at e1; cases e1
          rw [List.map_cons, ev]
          exact .cons (as := []) (.int i t1) t
        · rw [ek] at e1; cases e1
          rw [List.map_cons, ev]
          exact .cons (as := []) (.str x t1) t
theorem vals_of {P : Program} {w : World} : ∀ {kvs : List (Key × V)} {vs : List (Key × Value)} {es : List DictEntry}, KV kvs vs → Pairs (mixKind P w) es vs → Vals (kvs.map (·.2)) (es.map (·.val))
  | [], vs, es, r, q => by
    cases r; cases q
    exact .nil
  | p :: kvs, vs, es, r, q => by
    unfold KV at r
    cases r with
    | cons hr rr =>
      cases q with
      | @cons ent kv es' kvs' h1 h2 qq =>
        rw [List.map_cons, List.map_cons, h2]
        exact .cons hr.2 (vals_of rr qq)
section
variable {X : Cx} {pins : List (Addr × Obj)} {σ : L2.St} {F H : Hp} {s : Shared}
mutual
theorem rep_readsD (I : Inv X pins σ H s) (sm : SmOk X.K) (e : Same F H) : ∀ {v : V} {d : D} {p : PyData} {u : Value}, Rep X.K F v d → d.pyd = some p → RelV v u → ∃ as, Reads s.heap u p as ∧ sysModules ∉ as
  | _, _, p, u, .non, h, r => by
    rw [D.pyd] at h; cases h
    cases (show u = Value.none from r)
    exact ⟨_, .none, by simp⟩
  | _, _, p, u, .bl b, h, r => by
    rw [D.pyd] at h; cases h
    cases (show u = Value.bool b from r)
    exact ⟨_, .bool b, by simp⟩
  | _, _, p, u, .int i, h, r => by
    rw [D.pyd] at h; cases h
    obtain ⟨t, rfl⟩ := (show ∃ t, u = Value.int i t from r)
    exact ⟨_, .int i t, by simp⟩
  | _, _, p, u, .str x, h, r => by
    rw [D.pyd] at h; cases h
    obtain ⟨t, rfl⟩ := (show ∃ t, u = Value.str x t from r)
    exact ⟨_, .str x t, by simp⟩
  | _, _, p, u, .ty n, h, r => by simp [D.pyd] at h
  | _, _, p, u, .cls C, h, r => by simp [D.pyd] at h
  | _, _, p, u, .tup (a := a) (ds := ds) q rr, h, r => by
    rw [D.pyd] at h
    cases (show u = Value.ref a from r)
    obtain ⟨ps, e1, h⟩ := Option.map_eq_some_iff.mp h
    subst h
    obtain ⟨its, rv, ⟨o, ho, hc, n, hd⟩, hz⟩ := I.tuple (.inl (.inl (e _ _ q)))
    obtain ⟨as, ra, ns⟩ := reps_readsD I sm e rr e1 rv
    exact ⟨_, .tuple ho hc hd ra, ns⟩
  | _, _, p, u, .ktu (a := a) (ds := ds) q rr, h, r => by
    rw [D.pyd] at h
    cases (show u = Value.ref a from r)
    obtain ⟨ps, e1, h⟩ := Option.map_eq_some_iff.mp h
    subst h
    obtain ⟨its, rv, ⟨o, ho, hc, n, hd⟩, hz⟩ := I.tuple (Same.sqt e q)
    obtain ⟨as, ra, ns⟩ := reps_readsD I sm e rr e1 rv
    exact ⟨_, .tuple ho hc hd ra, ns⟩
  | _, _, p, u, .lst (a := a) (ds := ds) q rr, h, r => by
    rw [D.pyd] at h
    cases (show u = Value.ref a from r)
    obtain ⟨ps, e1, h⟩ := Option.map_eq_some_iff.mp h
    subst h
    obtain ⟨z, its, n, rv, hl, ho⟩ := rd_list I (Same.rd e q)
    obtain ⟨as, ra, ns⟩ := reps_readsD I sm e rr e1 rv
    refine ⟨_, .list ho rfl rfl ra, fun hm => ?_⟩
    rcases List.mem_cons.mp hm with z | z
    · obtain ⟨o, k1, k2⟩ := sm
      have k3 := I.kIn _ o k1
      rw [z, ho] at k3
      cases k3
      simp at k2
    · exact ns z
  | _, _, p, u, .scr q, h, r => by simp [D.pyd] at h
  | _, _, p, u, .dicK (a := a) (kvs := kvs) (ds := ds) q rr, h, r => by
    rw [D.pyd] at h
    cases (show u = Value.ref a from r)
    obtain ⟨ps, e1, h⟩ := Option.bind_eq_some_iff.mp h
    obtain ⟨qs, e2, h⟩ := Option.map_eq_some_iff.mp h
    subst h
    obtain ⟨_, hsm, vs, kv, o, es, ep, ho, hx, hd, _, hp, _⟩ := dk_rd I.hok (Same.rd e q)
    have k1 := keys_read (h := s.heap) kv hp e1
    obtain ⟨as, k2, ns⟩ := reps_readsD I sm e rr e2 (vals_of kv hp)
    have hlen : ps.length = qs.length := by
      have a1 := keysPy_len e1
      rw [List.length_map] at a1
      have a2 : ∀ {ds : List D} {qs : List PyData}, D.pyds ds = some qs → qs.length = ds.length := by
        intro ds
        induction ds with
        | nil => intro qs h; rw [D.pyds] at h; cases h; rfl
        | cons d ds ih =>
          intro qs h
          rw [D.pyds] at h
          obtain ⟨p, _, h⟩ := Option.bind_eq_some_iff.mp h
          obtain ⟨rs, e3, h⟩ := Option.map_eq_some_iff.mp h
          subst h
          rw [List.length_cons, List.length_cons, ih e3]
      have a3 := a2 e2
      have a4 := rr.length
      rw [List.length_map] at a4
      omega
    refine ⟨_, .dict ho hx.1 hd (kvs := ps.zip qs) (as := []) (bs := as) ?_ ?_, fun hm => ?_⟩
    · rw [List.map_fst_zip (by omega)]; exact k1
    · rw [List.map_snd_zip (by omega)]; exact k2
    · rcases List.mem_append.mp hm with z | z
      · rcases List.mem_cons.mp z with z | z
        · rw [← z] at hsm; simp at hsm
        · cases z
      · exact ns z
  | _, _, p, u, .dicT q rr, h, r => by simp [D.pyd] at h
  | _, _, p, u, .ins q rr, h, r => by simp [D.pyd] at h
  | _, _, p, u, .exc _ _ _ _, h, r => by simp [D.pyd] at h
theorem reps_readsD (I : Inv X pins σ H s) (sm : SmOk X.K) (e : Same F H) : ∀ {vs : List V} {ds : List D} {ps : List PyData} {us : List Value}, Reps X.K F vs ds → D.pyds ds = some ps → Vals vs us → ∃ as, ReadsAll s.heap us ps as ∧ sysModules ∉ as
  | _, _, ps, us, .nil, h, r => by
    rw [D.pyds] at h; cases h
    cases r
    exact ⟨_, .nil, by simp⟩
  | _, _, ps, us, .cons (d := d) (ds := ds) r1 r2, h, r => by
    rw [D.pyds] at h
    cases r with
    | cons q1 q2 =>
      obtain ⟨p, e1, h⟩ := Option.bind_eq_some_iff.mp h
      obtain ⟨qs, e2, h⟩ := Option.map_eq_some_iff.mp h
      subst h
      obtain ⟨as, k1, n1⟩ := rep_readsD I sm e r1 e1 q1
      obtain ⟨bs, k2, n2⟩ := reps_readsD I sm e r2 e2 q2
      exact ⟨_, .cons k1 k2, fun z => (List.mem_append.mp z).elim n1 n2⟩
end
end
def dReprD : List D → Option D
  | [d] => d.pyd.bind fun p => if p.showable = true ∧ p.depth ≤ 40 ∧ p.shown.length ≤ 16777216 then some (.str p.shown) else none
  | _ => none
def rReprD (K : PySem.W.Frag) : List V → Hp → VK → Prop := fun xs H Q => ∃ (v : V) (F : Hp) (d : D) (p : PyData), xs = [v] ∧ Same F H ∧ Rep K F v d ∧ d.pyd = some p ∧ p.showable = true ∧ p.depth ≤ 40 ∧ p.shown.length ≤ 16777216 ∧ Q (.str p.shown) H
theorem call_reprD {X : Cx} (g : X.A.guards = some []) (hu : X.A.units + 64 < cLine) (sm : SmOk X.K) : CallR X (.builtin "repr") (rReprD X.K) := by
  intro pins s σ H xs us Q I rv ⟨v, F, d, p, exs, e, r, hp, h1, h2, h3, q⟩
  subst exs
  obtain ⟨u, rfl, ru⟩ := rv.one
  have h3 : p.shown.length ≤ sizeLine := by rw [sizeLine_eq]; exact h3
  have fin : ∀ (h' : Heap) (t : Tok) (tk : Nat), (∀ b o, s.heap.get? b = some o → h'.get? b = some o) → EP X pins σ Q (.str p.shown t) { s with heap := h', toks := tk } := fun h' t tk k => ⟨.str p.shown, H, I.kept k, ⟨t, rfl⟩, q⟩
  obtain ⟨as, rd, ns⟩ := rep_readsD I sm e r hp ru
  cases u with
  | ref a => exact repr_of_reads' rd h1 (fun _ => ns) g (by omega) (fun _ _ x => x) (fun h' t tk k => fin h' t tk k) h3
  | none => cases rd; exact P.repr_of_none (fin s.heap _ _ fun _ _ x => x)
  | bool b => cases rd; exact P.repr_of_bool (fin s.heap _ _ fun _ _ x => x)
  | int i t =>
    cases rd
    have : i.natAbs.log2 < 1920 := by simpa [PyData.showable] using h1
    exact P.repr_of_int this (fin s.heap _ _ fun _ _ x => x)
  | str x t => cases rd; exact P.repr_of_str (fin s.heap _ _ fun _ _ x => x) h3
  | _ => cases rd
theorem f_reprD {K : PySem.W.Frag} : CallS K (rReprD K) dReprD := by
  intro H xs ds c r h
  unfold dReprD at h
  split at h
  · rename_i d
    obtain ⟨v, rfl, r1⟩ := reps1 r
    obtain ⟨p, hp, h⟩ := Option.bind_eq_some_iff.mp h
    split at h
    · rename_i hc
      cases h
      exact ⟨_, rfl, fun Q q => ⟨v, H, d, p, rfl, Same.refl _, r1, hp, hc.1, hc.2.1, hc.2.2, q⟩⟩
    · cases h
  · cases h

/-! ### the table of exception classes -/
def ixOf (cs : Nat → Addr) (N : Nat) (C : Addr) : Option Nat := (List.range N).find? fun i => cs i == C
theorem ixOf_some {cs : Nat → Addr} {N : Nat} {C : Addr} {i : Nat} (h : ixOf cs N C = some i) : i < N ∧ cs i = C := by
  unfold ixOf at h
  have h1 := List.mem_of_find?_eq_some h
  have h2 := List.find?_some h
  exact ⟨List.mem_range.mp h1, beq_iff_eq.mp h2⟩
theorem ixOf_cs {cs : Nat → Addr} {N : Nat} (hc : ∀ i j, i < N → j < N → cs i = cs j → i = j) {i : Nat} (hi : i < N) : ixOf cs N (cs i) = some i := by
  cases h : ixOf cs N (cs i) with
  | none =>
    unfold ixOf at h
    have z := List.find?_eq_none.mp h i (List.mem_range.mpr hi)
    simp at z
  | some j =>
    obtain ⟨h1, h2⟩ := ixOf_some h
    rw [hc j i h1 hi h2]
/-- R: the classes of which exceptions are caught; Nn: the classes that are asked for; B: their base; all are ValueErrors -/
def relT (cs : Nat → Addr) (N B : Nat) (R Nn : List Nat) (i : Nat) : Value → Option Bool
  | .ref E => (ixOf cs N E).bind fun j => if (R.contains i && Nn.contains j) = true then some (i == j || j == B) else none
  | .type n => if (R.contains i && n == "ValueError") = true then some true else none
  | _ => none
def relX (cs : Nat → Addr) (N B : Nat) (R Nn : List Nat) : XRel := fun C u => (ixOf cs N C).bind fun i => relT cs N B R Nn i u
def xTest (cs : Nat → Addr) (N : Nat) (R : List Nat) : Addr → Bool := fun C => match ixOf cs N C with
  | some i => R.contains i
  | none => false
theorem fa_nil {α : Type} {p : α → Prop} : ∀ x ∈ ([] : List α), p x := fun x h => nomatch h
theorem fa_cons {α : Type} {p : α → Prop} {a : α} {l : List α} (h : p a) (r : ∀ x ∈ l, p x) : ∀ x ∈ a :: l, p x := fun x hx => by
  rcases List.mem_cons.mp hx with e | e
  · rw [e]; exact h
  · exact r x e
theorem kit_true {K : PySem.W.Frag} {C : Addr} {t : Value} (h1 : PySem.W.isClsIn K C = true) (h2 : PySem.W.typeIn K (.ref C) = some (.type "type")) (h3 : PySem.W.subIn K t (.ref C) = some true) : PySem.W.kitOne K t (.ref C) = some true := by
  have h1 : (PySem.W.clsIn K C).isSome = true := h1
  unfold PySem.W.kitOne PySem.W.kitCls
  by_cases e : (t == Value.ref C) = true
  · rw [if_pos e]
  · rw [if_neg e]; simp [h1, h2, h3]
theorem kit_ve {K : PySem.W.Frag} {C : Addr} (h3 : PySem.W.subIn K (.ref C) (.type "ValueError") = some true) : PySem.W.kitOne K (.ref C) (.type "ValueError") = some true := by
  have hm : PySem.W.kitMeta "ValueError" = true := by decide +kernel
  unfold PySem.W.kitOne PySem.W.kitCls
  by_cases e : (Value.ref C == Value.type "ValueError") = true
  · rw [if_pos e]
  · rw [if_neg e]; simp [hm, h3]
theorem relX_ok {K : PySem.W.Frag} {cs : Nat → Addr} {N B : Nat} {R Nn : List Nat} (c : ∀ i ∈ R, ExcC K (cs i)) (r : ∀ i ∈ R, ∀ j ∈ Nn, PySem.W.kitOne K (.ref (cs i)) (.ref (cs j)) = some (i == j || j == B))
    (v : ∀ i ∈ R, PySem.W.kitOne K (.ref (cs i)) (.type "ValueError") = some true) : XRelOk K (relX cs N B R Nn) := by
  have go : ∀ C u b, relX cs N B R Nn C u = some b → ExcC K C ∧ PySem.W.kitOne K (.ref C) u = some b := fun C u b h => by
    obtain ⟨i, e, h2⟩ := Option.bind_eq_some_iff.mp (show (ixOf cs N C).bind (fun i => relT cs N B R Nn i u) = some b from h)
    have ei := (ixOf_some e).2
    rw [← ei]
    cases u with
    | ref E =>
      obtain ⟨j, e2, h3⟩ := Option.bind_eq_some_iff.mp (show (ixOf cs N E).bind (fun j => if (R.contains i && Nn.contains j) = true then some (i == j || j == B) else none) = some b from h2)
      have ej := (ixOf_some e2).2
      rw [← ej]
      split at h3
      · rename_i hc
        rw [Bool.and_eq_true] at hc
        cases h3
        exact ⟨c i (List.contains_iff_mem.mp hc.1), r i (List.contains_iff_mem.mp hc.1) j (List.contains_iff_mem.mp hc.2)⟩
      · cases h3
    | type n =>
      have h3 : (if (R.contains i && n == "ValueError") = true then some true else none) = some b := h2
      split at h3
      · rename_i hc
        rw [Bool.and_eq_true, beq_iff_eq] at hc
        cases h3
        rw [hc.2]
        exact ⟨c i (List.contains_iff_mem.mp hc.1), v i (List.contains_iff_mem.mp hc.1)⟩
      · cases h3
    | _ => cases h2
  exact ⟨fun C u b h => (go C u b h).1, fun C u b h => (go C u b h).2⟩
theorem xTest_ok {K : PySem.W.Frag} {cs : Nat → Addr} {N : Nat} {R : List Nat} {c : Value} (m : ∀ i ∈ R, PySem.W.exmOne K (.ref (cs i)) c = some true) : ∀ C, xTest cs N R C = true → PySem.W.exmOne K (.ref C) c = some true := fun C h => by
  unfold xTest at h
  cases e : ixOf cs N C with
  | none => rw [e] at h; cases h
  | some i =>
    rw [e] at h
    rw [← (ixOf_some e).2]
    exact m i (List.contains_iff_mem.mp h)
/-- one of the classes of different addresses -/
theorem cs_inj {cs : Nat → Addr} {N : Nat} {l : List Addr} (h : ∀ i, i < N → l[i]? = some (cs i)) (nd : l.Nodup) : ∀ i j, i < N → j < N → cs i = cs j → i = j := fun i j hi hj e => by
  have h1 := h i hi
  have h2 := h j hj
  rw [e, ← h2] at h1
  have hl : i < l.length := by
    rcases Nat.lt_or_ge i l.length with z | z
    · exact z
    · rw [List.getElem?_eq_none z] at h1; rw [h2] at h1; cases h1
  exact (List.getElem?_inj hl nd).mp h1
/-- what cannot be walked: never reached -/
def mBadX : SD → ER D := fun _ => .bad
theorem dx_bad {X : Cx} {pv : List V} {W : WX} {e : Expr} {p k : Bool} : DX X pv W p k e mBadX := ⟨fun _ _ _ => False, ⟨fun pins s σ H Q I h => h.elim⟩, fun G F sd σ H Q s => True.intro⟩
end DL

/-! DL39: l.index(x), l.count(x) of data of any depth. -/
namespace DL
open PySem PySem.Spec L2 PyProof.Rows
def rCntD (K : PySem.W.Frag) : V → List V → Hp → VK → Prop := fun x xs H Q => ∃ (a : Addr) (y : V) (d : PyData) (ds : List PyData), x = V.ref a ∧ xs = [y] ∧ Dp K H (V.ref a) (.list ds) ∧ Dp K H y d ∧
  SeqAt.shaped (.list ds) = true ∧ SeqAt.shaped d = true ∧ Q (.int (ds.countP (fun z => PyData.eqv z d) : Nat)) H
theorem mt_cntD {X : Cx} (hu : X.A.units + 65 < cLine) : MtR X "list.count" (rCntD X.K) := by
  intro pins s σ H x xs v us Q I rx rxs h
  obtain ⟨a, y, d, ds, rfl, rfl, hl, hy, sl, sd, q⟩ := h
  cases rx
  obtain ⟨uy, rfl, ry⟩ := rxs.one
  obtain ⟨bs, r1⟩ := Dp.reads I d y uy hy ry
  have hxs : PyData.canLayAll0 ds = true := SeqAt.canLay_of_shaped sl
  have hroom : X.A.units + 1 + min (PyData.depthAll ds) d.depth < cLine := room_in_shaped sd hu
  cases hl with
  | lst hs ha =>
    obtain ⟨its, rv, ⟨⟨cls, dd, data, sls⟩, n, ho, hc, hdn, hdt⟩, hlen⟩ := I.list hs
    simp only at hc hdt
    subst hc hdt
    obtain ⟨as, h4⟩ := Dp.readsAll I ds _ its ha rv
    have hmap : its.map (SeqAt.readOf s.heap) = ds := SeqAt.readsAll_map ds its as hxs h4
    refine call_meets PySem.F.slot_list_count ⟨_, ho, rfl⟩ PySem.F.entry_list_count (PySem.F.args_list_count_2 _ _)
      (SeqAt.list_countAt a its.toArray n dd sls uy (fun u => PyData.eqv (SeqAt.readOf s.heap u) d)) ⟨ho, SeqAt.items_eqAt (vs := its.toArray) (show ReadsAll s.heap its.toArray.toList ds as from h4) r1 hxs (SeqAt.canLay_of_shaped sd) hroom, ?_⟩
    have ec : its.toArray.toList.countP (fun u => PyData.eqv (SeqAt.readOf s.heap u) d) = ds.countP (fun z => PyData.eqv z d) := by
      rw [← hmap, List.countP_map]; rfl
    refine ⟨.int (ds.countP (fun z => PyData.eqv z d) : Nat), H, I.tok _, ⟨s.toks, ?_⟩, q⟩
    show Value.int ((its.toArray.toList.countP (fun u => PyData.eqv (SeqAt.readOf s.heap u) d) : Nat) : Int) s.toks = Value.int _ s.toks
    rw [ec]
def dCountD : D → List D → Option D
  | .lst ds, [d] => (D.pys ds).bind fun ps => d.py.bind fun p => if (SeqAt.shaped (.list ps) && SeqAt.shaped p) = true then some (.int (ps.countP (fun z => PyData.eqv z p) : Nat)) else none
  | _, _ => none
def dIndexD : D → List D → Option D
  | .lst ds, [d] => (D.pys ds).bind fun ps => d.py.bind fun p => if (SeqAt.shaped (.list ps) && SeqAt.shaped p) = true then (ps.findIdx? (fun z => PyData.eqv z p)).map fun j => .int (j : Nat) else none
  | _, _ => none
theorem f_countD {K : PySem.W.Frag} : CallM K (rCntD K) dCountD := by
  intro H x xs d ds c r rs h
  unfold dCountD at h
  split at h
  · rename_i es d1
    obtain ⟨ps, e1, h⟩ := Option.bind_eq_some_iff.mp h
    obtain ⟨p, e2, h⟩ := Option.bind_eq_some_iff.mp h
    split at h
    · rename_i hc
      rw [Bool.and_eq_true] at hc
      cases h
      obtain ⟨v, rfl, r1⟩ := reps1 rs
      have rd : Dp K H x (.list ps) := Rep.dp r (by rw [D.py, e1]; rfl)
      cases r with
      | @lst a vs _ s t => exact ⟨_, rfl, fun Q q => ⟨a, v, p, ps, rfl, rfl, rd, Rep.dp r1 e2, hc.1, hc.2, q⟩⟩
    · cases h
  · cases h
theorem f_indexD {K : PySem.W.Frag} : CallM K (rIndexD K) dIndexD := by
  intro H x xs d ds c r rs h
  unfold dIndexD at h
  split at h
  · rename_i es d1
    obtain ⟨ps, e1, h⟩ := Option.bind_eq_some_iff.mp h
    obtain ⟨p, e2, h⟩ := Option.bind_eq_some_iff.mp h
    split at h
    · rename_i hc
      rw [Bool.and_eq_true] at hc
      obtain ⟨j, e3, h⟩ := Option.map_eq_some_iff.mp h
      subst h
      obtain ⟨v, rfl, r1⟩ := reps1 rs
      have rd : Dp K H x (.list ps) := Rep.dp r (by rw [D.py, e1]; rfl)
      obtain ⟨hj, hz, hno⟩ := List.findIdx?_eq_some_iff_getElem.mp e3
      cases r with
      | @lst a vs _ s t =>
        refine ⟨_, rfl, fun Q q => ⟨a, v, p, ps, j, ps[j], rfl, rfl, rd, Rep.dp r1 e2, hc.1, hc.2, List.getElem?_eq_getElem hj, hz, fun m z' hm hz' => ?_, q⟩⟩
        have hml : m < ps.length := by omega
        rw [List.getElem?_eq_getElem hml] at hz'
        cases hz'
        exact Bool.eq_false_iff.mpr (hno m hm)
    · cases h
  · cases h
section
variable {X : Cx} {pv : List V} {W : WX} {p q k l : Bool} {o e : Expr} {apos cpos pos : Pos}
theorem dx_countD {mo : SD → ER D} {ma : SD → ER (List D)} (hu : X.A.units + 65 < cLine) (ho : DX X pv W p k o mo) (ha : DA X pv W q l [e] ma) (hk : (k || q) = true := by rfl) (hbase : attributeBase o "count" X.env (eval o X.env) = eval o X.env := by rfl)
    (hfew : ((backTo cpos (starEach [e] X.env)).all (fun x => !x.1) && (backToKw cpos (keywordEach [] X.env)).all (fun x => x.1.isSome) && decide ([e].length + ([] : List Keyword).length + (if ([] : List Keyword).isEmpty then 0 else 1) < 30)) = true := by rfl)
    (hline : (apos.endLine == cpos.line) = true := by rfl) (hs : starEach [e] X.env = (false, eval e X.env) :: starEach [] X.env := by rfl) (hplain : (backTo cpos (starEach [] X.env)).any (·.1) = false := by rfl) :
    DX X pv W (p && q) true (.Call (.Attribute o "count" apos) [e] [] cpos) (mBm D.isL dCountD mo ma) :=
  dx_bm PySem.F.plainAttrs_list PySem.F.slot_list_count PySem.F.type_list_count (mt_cntD hu) ty_lst f_countD ho ha hk hbase hfew hline hs hplain
theorem dx_indexD {mo : SD → ER D} {ma : SD → ER (List D)} (hu : X.A.units + 65 < cLine) (ho : DX X pv W p k o mo) (ha : DA X pv W q l [e] ma) (hk : (k || q) = true := by rfl) (hbase : attributeBase o "index" X.env (eval o X.env) = eval o X.env := by rfl)
    (hfew : ((backTo cpos (starEach [e] X.env)).all (fun x => !x.1) && (backToKw cpos (keywordEach [] X.env)).all (fun x => x.1.isSome) && decide ([e].length + ([] : List Keyword).length + (if ([] : List Keyword).isEmpty then 0 else 1) < 30)) = true := by rfl)
    (hline : (apos.endLine == cpos.line) = true := by rfl) (hs : starEach [e] X.env = (false, eval e X.env) :: starEach [] X.env := by rfl) (hplain : (backTo cpos (starEach [] X.env)).any (·.1) = false := by rfl) :
    DX X pv W (p && q) true (.Call (.Attribute o "index" apos) [e] [] cpos) (mBm D.isL dIndexD mo ma) :=
  dx_bm PySem.F.plainAttrs_list PySem.F.slot_list_index PySem.F.type_list_index (mt_indexD hu) ty_lst f_indexD ho ha hk hbase hfew hline hs hplain
end
end DL

/-! DL40: a new list some times. -/
namespace DL
open PySem PySem.Spec L2 PyProof.Rows
def fzs : List OT → Option (List D)
  | [] => some []
  | .fz d :: ts => (fzs ts).map (d :: ·)
  | _ :: _ => none
theorem fzs_eq : ∀ {ts : List OT} {ds : List D}, fzs ts = some ds → ts = ds.map .fz
  | [], ds, h => by cases h; rfl
  | .fz d :: ts, ds, h => by
    obtain ⟨es, e, h⟩ := Option.map_eq_some_iff.mp (show (fzs ts).map (d :: ·) = some ds from h)
    subst h
    rw [List.map_cons, fzs_eq e]
  | .ol _ :: _, ds, h => by cases h
  | .od _ _ _ :: _, ds, h => by cases h
  | .oi _ _ _ :: _, ds, h => by cases h
theorem fzs_map : ∀ ds : List D, fzs (ds.map .fz) = some ds
  | [] => rfl
  | d :: ds => by rw [List.map_cons]; show (fzs (ds.map .fz)).map (d :: ·) = _; rw [fzs_map ds]; rfl
theorem reps_some {K : PySem.W.Frag} {F : Hp} {vs : List V} {ds : List D} (r : Reps K F vs ds) : ∀ n : Nat, Reps K F (List.replicate n vs).flatten (List.replicate n ds).flatten
  | 0 => .nil
  | n + 1 => by
    rw [List.replicate_succ, List.replicate_succ, List.flatten_cons, List.flatten_cons]
    exact r.append (reps_some r n)
def mRepC (a : SD → ER OT) (k : Int) : SD → ER OT := fun sd => (a sd).bind fun t sd1 => match t with
  | .ol ts => match fzs ts with
    | some ds => if 0 ≤ k ∧ k < 2 ^ 63 ∧ ds.length * k.toNat ≤ 16777216 then .ok (.ol ((List.replicate k.toNat ds).flatten.map .fz)) sd1 else .bad
    | none => .bad
  | _ => .bad
section
variable {X : Cx} {pv : List V} {W : WX} {p : Bool} {a : Expr} {pos : Pos}
theorem do_repC {ma : SD → ER OT} {k : Int} {x1 : Nat} {p2 : Pos} (ha : DO X pv W p a ma) : DO X pv W false (.BinOp a .Mult (.Constant (.int k) x1 p2) pos) (mRepC ma k) := by
  obtain ⟨ta, a1, a2⟩ := ha
  refine ⟨_, pe_op op_rep a1 pe_int, fun G F sd σ H Q s => ?_⟩
  have hp : false = (p && false) := by cases p <;> rfl
  rw [hp]
  refine Meets.bind (a2 G F sd σ H _ s) fun v F1 H1 t sd1 s1 s2 s3 s4 => ?_
  cases t with
  | ol ts =>
    show Meets X.K pv W G σ (RSo X.K pv) false sd1 F1 H1 (match fzs ts with
      | some ds => if 0 ≤ k ∧ k < 2 ^ 63 ∧ ds.length * k.toNat ≤ 16777216 then .ok (.ol ((List.replicate k.toNat ds).flatten.map .fz)) sd1 else .bad
      | none => .bad) Q _
    cases e : fzs ts with
    | none => exact True.intro
    | some ds =>
      have et := fzs_eq e
      subst et
      show Meets X.K pv W G σ (RSo X.K pv) false sd1 F1 H1 (if 0 ≤ k ∧ k < 2 ^ 63 ∧ ds.length * k.toNat ≤ 16777216 then .ok (.ol ((List.replicate k.toNat ds).flatten.map .fz)) sd1 else .bad) Q _
      split
      · rename_i hk
        obtain ⟨o, P, w, r, _⟩ := (show StR1 X.K pv G F1 sd1 σ H1 v (.ol (ds.map .fz)) from s3)
        unfold RepO at r
        obtain ⟨l, vs, rfl, _, hl, rr⟩ := r
        have rr := repOs_fz rr
        intro hQ
        refine ⟨l, k, vs, rfl, rfl, hl, by omega, hk.2.1, by rw [rr.length, sizeLine_eq]; exact hk.2.2, fun q hq => ?_⟩
        have z := s2.newL hq (reps_some rr k.toNat)
        exact hQ _ _ _ (Same.refl _) z.drop z fun y => nomatch y
      · exact True.intro
  | _ => exact True.intro
end
end DL

/-! DL41: own binary operators whose right operand is anything. -/
namespace PySem.W
open PySem PySem.Spec PySem.Calls PyProof.Rows
section
variable {prog : Program} {w : World} {A : Around} {E : Value → Shared → Prop} {K : Frag} {x C L f : Addr} {h₀ : Heap} {m : Str → Option Value} {ox : Obj} {od : Option Obj} {n : String} {op : Operator}
/-- the right operand is of a built-in type that knows nothing of the class -/
theorem own_bin_blt {s : Shared} {b : Value} {fo ro rc : Option Value} {Q : Value → Shared → Prop} (F : Fr h₀ L s.heap m) (kin : K.In h₀) (I : InstAt s.heap x ox C od) (tb : Looks (model prog w) s.heap (typeOf b) (.type n)) (first : selfFirst K C = true)
    (fn : isFn K (.ref f) = true) (at_ : findIn K (.ref C) (PySem.dunder op.info.2) = some (some (.ref f))) (hr : findIn K (.ref C) (dunderR op.info.2) = some rc) (hp : rc = none ∨ ∃ g : Addr, rc = some (.ref g))
    (b1 : findIn K (.type n) (PySem.dunder op.info.2) = some fo) (b2 : findIn K (.type n) (dunderR op.info.2) = some ro) (b3 : subIn K (.type n) (.ref C) = some false)
    (go : wpAny (model prog w) A (call (.ref f) [.ref x, b]) (CmpBack Q) E s) : wpAny (model prog w) A (binaryOp op (.ref x) b) Q E s := by
  have kh := kin.keeps F.keep
  have tried := ksp_try kh I at_ fn go
  obtain ⟨cd, r, e1, e2⟩ := ksp_first first
  obtain ⟨H, g, d, tk, os⟩ := s
  rcases hop : op.info with ⟨sym, nm⟩
  rw [hop] at at_ hr b1 b2 tried
  have k1 : Looks (model prog w) H (typeOf (.ref x)) (.ref C) := I.type
  have k2 : Looks (model prog w) H (typeOf b) (.type n) := tb
  have k3 : Looks (model prog w) H (fillsNumberSlot (.ref C) nm) true := fills_K kh e1 e2 at_
  have k4 := ksp_fillsT (M := model prog w) kh b1 b2
  have k5 : Looks (model prog w) H (numberSlotInPython (.ref C) nm) true := ksp_inPy kh at_ hr hp
  have k6 : Looks (model prog w) H (numberSlotInPython (.type n) nm) false := Looks.of_pure rfl
  have k7 : Looks (model prog w) H (isSubtype (.type n) (.ref C)) false := looks_subIn kh b3
  have k8 : Looks (model prog w) H (typeLookup (.type n) (dunderR nm)) ro := looks_findIn kh b2
  have ne : (Value.ref C == Value.type n) = false := Bool.eq_false_iff.mpr fun q => nomatch beq_iff_eq.mp q
  have fin : ∀ (r : Option Value) (s' : Shared), (∃ v, r = some v ∧ Q v s') → ∃ v, r = some v ∧ Q v s' := fun _ _ q => q
  revert k4
  generalize ((fo.isSome && !isSeqSlot fo) || (ro.isSome && !isSeqSlot ro)) = filled
  intro k4
  simp only [binaryOp, hop]
  refine wpAny_holding (wpAny_bind ?_)
  unfold binaryOp1
  refine wpAny_bind (k1.at (wpAny_bind (k2.at (wpAny_bind (k3.at ?_)))))
  simp only [ne, Bool.false_eq_true, if_false]
  cases filled
  all_goals
    ksp_lk
    refine wpAny_mono tried (fun r s' q => ?_) fun _ _ q => q
    obtain ⟨v, e, q⟩ := q
    subst e
    ksp_lk
    exact q
end
end PySem.W
namespace DL
open PySem PySem.Spec L2
/-- .. the right one of a built-in type -/
structure BinA (K : PySem.W.Frag) (C g : Addr) (nm : String) : Prop where
  S : BinS K C g nm
  r : ∃ rc, PySem.W.findIn K (.ref C) (dunderR nm) = some rc ∧ (rc = none ∨ ∃ g' : Addr, rc = some (.ref g'))
  b : ∀ n ∈ bltTys, ∃ fo ro, PySem.W.findIn K (.type n) (PySem.dunder nm) = some fo ∧ PySem.W.findIn K (.type n) (dunderR nm) = some ro ∧ PySem.W.subIn K (.type n) (.ref C) = some false
def D.isBlt : D → Bool
  | .non => true
  | .bl _ => true
  | .int _ => true
  | .str _ => true
  | .tup _ => true
  | .ktu _ => true
  | .lst _ => true
  | .scr _ => true
  | .dic false _ _ => true
  | _ => false
def cAny (C : Addr) : D → D → Bool := fun x y => x.isIns C && (y.isIns C || y.isBlt)
def RAny (K : PySem.W.Frag) (C : Addr) : V → V → Hp → Prop := fun x y H => InsR C x H ∧ (InsR C y H ∨ ∃ n ∈ bltTys, TyX K H y (.type n))
theorem isBlt_rep {K : PySem.W.Frag} {H : Hp} {v : V} {d : D} (r : Rep K H v d) (h : d.isBlt = true) : ∃ n ∈ bltTys, TyX K H v (.type n) := by
  have go : ∀ t, d.tyv (fun _ => false) = some t → TyX K H v t := fun t e => tyv_rep (ok := fun _ => false) (fun _ z => by cases z) r e
  cases d with
  | dic tk ks vs =>
    cases tk with
    | false => exact ⟨"dict", by decide, go _ rfl⟩
    | true => cases h
  | ty _ => cases h
  | cls _ => cases h
  | ins _ _ _ => cases h
  | exc _ _ _ => cases h
  | non => exact ⟨"NoneType", by decide, go _ rfl⟩
  | bl _ => exact ⟨"bool", by decide, go _ rfl⟩
  | int _ => exact ⟨"int", by decide, go _ rfl⟩
  | str _ => exact ⟨"str", by decide, go _ rfl⟩
  | tup _ => exact ⟨"tuple", by decide, go _ rfl⟩
  | ktu _ => exact ⟨"tuple", by decide, go _ rfl⟩
  | lst _ => exact ⟨"list", by decide, go _ rfl⟩
  | scr _ => exact ⟨"list", by decide, go _ rfl⟩
theorem isR_any {K : PySem.W.Frag} {C : Addr} : IsR K (cAny C) (RAny K C) := fun F H x y dx dy e r1 r2 h => by
  obtain ⟨h1, h2⟩ := (Bool.and_eq_true _ _).mp h
  refine ⟨isIns_rep e r1 h1, ?_⟩
  rcases (Bool.or_eq_true _ _).mp h2 with q | q
  · exact .inl (isIns_rep e r2 q)
  · exact .inr (isBlt_rep (r2.mono e) q)
section
variable {X : Cx} {pv : List V} {W : WX} {p q : Bool} {a b : Expr} {pos : Pos}
theorem do_binA {op : Operator} {C g : Addr} {fd : FuncData} {ps : List Str} {j : Nat} {gm : List OT → ER OT} {ma mb : SD → ER D} (h : BinA X.K C g op.info.2) (F : FnG X.prog X.w X.K X.mg X.base (L2.CX X.prog X.w) j g fd ps (spD X.K 2 gm)) (hr : RoomG j X.A) (hb : Binds X.K fd ps []) (tk : Takes X W)
    (h1 : DX X pv W p true a ma) (h2 : DX X pv W q true b mb) : DO X pv W (p && q) (.BinOp a op b pos) (mOwn2 (cAny C) gm ma mb) := by
  obtain ⟨ta, a1, a2⟩ := h1
  obtain ⟨tb, b1, b2⟩ := h2
  refine ⟨_, ⟨fun pins s σ H Q I hq => ?_⟩, tr_own2 isR_any a2 b2⟩
  refine wpAny_BinOp (binT a1 b1 I hq fun v u s2 x y H2 I2 rx ry z => ?_)
  obtain ⟨⟨⟨xa, dx, fs, rfl, ex⟩, hy⟩, z⟩ := z
  cases (show v = Value.ref xa from rx)
  obtain ⟨ox, od, J⟩ := ins_at I2 ex
  obtain ⟨m, hF⟩ := I2.fr
  have back : wpAny (model X.prog X.w) X.A (call (.ref g) [.ref xa, u]) (PySem.W.CmpBack (EP X pins σ Q)) X.xe s2 :=
    wpAny_mono (run_G (us := [.ref xa, u]) (vs := [.ref xa, y]) F hr hb (passAt tk σ) I2 (.cons rfl (.cons ry .nil)) z) (fun w s' ⟨z', H', I', rz, qz⟩ => SlX.cmpback rz ⟨z', H', I', rz, qz⟩) fun _ _ x => x
  rcases hy with ⟨ya, dy, gs, rfl, ey⟩ | ⟨n, hn, ty⟩
  · cases (show u = Value.ref ya from ry)
    obtain ⟨oy, od', J'⟩ := ins_at I2 ey
    exact PySem.W.binop_K hF I2.ok.mod.kin J J'.type h.S.first h.S.at_ h.S.fn back
  · obtain ⟨P, Z, hp, _⟩ := kit_of I2 ry ty
    obtain ⟨rc, r1, r2⟩ := h.r
    obtain ⟨fo, ro, c1, c2, c3⟩ := h.b n hn
    exact PySem.W.own_bin_blt hF I2.ok.mod.kin J (Z.ty _ _ I2.kIn hp) h.S.first h.S.fn h.S.at_ r1 r2 c1 c2 c3 back
end
end DL

/-! DL42: generators whose bodies are for, if and yield; list of one. -/
namespace DL
open PySem PySem.Spec L2 GenW
section
variable {X : Cx}
/-- what is wanted where either branch may hand out -/
def tgIf (tc : TT) (ta tb : TGn) : TGn := fun D ys σ H => tc σ H fun b H1 => if b = true then ta D ys σ H1 else tb D ys σ H1
theorem gen_if {c : Expr} {sa sb : List Stmt} {tc : TT} {ta tb : TGn} {pos : Pos} (hc : PT X c tc) (ha : GSs X sa ta) (hb : GSs X sb tb) : GS X (.If c sa sb pos) (tgIf tc ta tb) := by
  constructor
  intro A S ip R n ys first cd st K J gd lv now σ H D gc size gk here want
  rw [arm_exec_If]
  obtain ⟨got, cap, vals, I⟩ := here
  refine seg_bind_wrap (wpAny_standAt (seg_bind_wrap ?_))
  rw [gc.over]
  refine wpAny_mono (hc.run _ now σ H _ I want) (fun b next after => ?_) (fun x next bad => gk.exc n first x next bad)
  obtain ⟨H1, I1, q⟩ := after
  have in1 : GI X S ip ys σ H1 next := ⟨got, cap, vals, I1⟩
  by_cases h : b = true
  · rw [if_pos h] at q ⊢
    exact ha.run A S ip R n ys first cd st K J gd lv next σ H1 D gc size gk in1 q
  · rw [if_neg h] at q ⊢
    exact hb.run A S ip R n ys first cd st K J gd lv next σ H1 D gc size gk in1 q
theorem gen_one {st : Stmt} {t : TGn} (h : GS X st t) : GSs X [st] t := by
  constructor
  intro A S ip R n ys first cd fr K J gd lv now σ H D gc size gk here want
  refine seg_execs_cons (h.run A S ip R n ys first cd fr _ J gd lv now σ H D gc size ⟨fun n1 ys1 f1 s1 fl e1 q1 => ?_, gk.exc⟩ here want)
  cases fl with
  | next => exact seg_execs_nil (gk.ok n1 ys1 f1 s1 .next e1 q1)
  | brk => exact gk.ok n1 ys1 f1 s1 .brk e1 q1
  | cont => exact gk.ok n1 ys1 f1 s1 .cont e1 q1
  | ret u => exact gk.ok n1 ys1 f1 s1 (.ret u) e1 q1
/-- a statement that is never reached -/
theorem gen_never {st : Stmt} : GS X st (fun _ _ _ _ => False) := by
  constructor
  intros
  rename_i want
  exact want.elim

/-! ### for -/
/-- the iterator's own objects: what does not change in the loop -/
def Free (X : Cx) (S : Addr) (ip : List (Addr × Obj)) (b : Addr) : Prop :=
  b ≠ X.env.locals ∧ b ∉ X.fs ∧ (b ∈ X.ex ∨ X.s_0.heap.objs.size ≤ b) ∧ (∀ x c, X.env.cells.lookup x = some c → c ≠ b) ∧ (∀ p ∈ X.pn, p.1 ≠ b) ∧ S ≠ b ∧ ∀ p ∈ ip, p.1 ≠ b
theorem Free.of {X : Cx} {S : Addr} {o : Obj} {ip : List (Addr × Obj)} {H : Hp} {b : Addr} (h : FpOk X ((S, o) :: ip) H b) : Free X S ip b := by
  obtain ⟨_, a, b', c, d, e⟩ := h
  exact ⟨a, b', c, d, fun p hp => e p (List.mem_append_left _ hp), e (S, o) (List.mem_append_right _ List.mem_cons_self), fun p hp => e p (List.mem_append_right _ (List.mem_cons_of_mem _ hp))⟩
theorem Free.ok {X : Cx} {S : Addr} {o : Obj} {ip : List (Addr × Obj)} {H : Hp} {b : Addr} (h : Free X S ip b) (hn : H b = none) : FpOk X ((S, o) :: ip) H b := by
  obtain ⟨a, b', c, d, e, f, g⟩ := h
  refine ⟨hn, a, b', c, d, fun p hp => ?_⟩
  rcases List.mem_append.mp hp with k | k
  · exact e p k
  · rcases List.mem_cons.mp k with k | k
    · rw [k]; exact f
    · exact g p k
def tgFor (wi : TI) (g : TG) (tb : TGn) : TGn := fun D ys σ H => wi σ H fun J H1 => ∃ W : Nat → Nat → List V → L2.St → Hp → Prop, (∃ m, W 0 m ys σ H1) ∧ ∀ i m ys σ H, W i m ys σ H →
  (J.stop i H ∧ D.nx ys σ H) ∨ (J.go i H ∧ ∃ N : List V → L2.St → Hp → Prop, (∀ ys' σ' H', N ys' σ' H' → ∃ m', m' < m ∧ W (i + 1) m' ys' σ' H') ∧ ∀ x H', J.yld i H x H' → g x σ H' fun σ2 H2 => tb { D with nx := N, ct := N, bk := D.nx } ys σ2 H2)
theorem gen_for {tg iter : Expr} {body : List Stmt} {wi : TI} {g : TG} {tb : TGn} {pos : Pos} (nox : ∀ e s, ¬ X.xe e s) (calm : X.calm = true) (hi : PI X tg iter wi) (hg : PG X tg g) (hb : GSs X body tb)
    (hs : ∀ x, foldedSetIterable iter X.env x = pure x := by intro _; rfl) : GS X (.For tg iter body [] pos) (tgFor wi g tb) := by
  constructor
  intro A S ip R n ys first cd st K J gd lv now σ H D gc size gk here want
  have no : ∀ {P : Prop} {e : Value} {s : Shared}, X.xe e s → P := fun h => (nox _ _ h).elim
  rw [arm_exec_For]
  obtain ⟨got, cap, vals, I⟩ := here
  refine seg_bind_wrap (wpAny_standAt (seg_bind_wrap ?_))
  rw [gc.over]
  refine wpAny_mono (hi.run _ now σ H _ I want) (fun v s1 h1 => ?_) fun _ _ z => no z
  refine seg_bind_wrap (wpAny_of_eq (hs v) (seg_bind_wrap (wpAny_standAt (seg_bind_wrap (wpAny_holding ?_)))))
  rw [gc.over]
  refine wpAny_mono h1 (fun u s2 h2 => ?_) fun _ _ z => no z
  obtain ⟨it, fp, tn, Jt, H2, rfl, I2, T, t0, f2, W, ⟨m0, w0⟩, turn⟩ := h2
  have free : ∀ b ∈ fp, Free X S ip b := fun b z => Free.of (f2 b z)
  refine seg_call fun at0 => ?_
  have gl := fun (kk : Result → Sem PySem.Fin) => gc_loop (k := kk) (c' := .forLoop tg (.ref it) body [] X.env) (l := lv []) (kp := []) (p := at0) gc rfl rfl
  suffices loop : ∀ (m n i : Nat) (ys : List V) (first s : Shared) (σ : L2.St) (H : Hp), n + ys.length = sizeLine → W i m ys σ H → tn i s.heap → (∀ b ∈ fp, H b = none) → GI X S ip ys σ H s →
      Seg (model X.prog X.w) A R (GY X S) n first (.forLoop tg (.ref it) body [] X.env) ((model X.prog X.w).den (.forLoop tg (.ref it) body [] X.env))
        (.ret (fun r => ((match r with | .ok f => (.pure f : Sem Flow) | .error e => .raise e).onRaise (cameBack X.env)).wrap K J gd lv) none (gd false) (lv []) cd at0 [] :: st) s from
    loop m0 n 0 ys first s2 σ H2 size w0 t0 (fun b z => (f2 b z).1) ⟨got, cap, vals, I2⟩
  intro m
  induction m using Nat.strongRecOn with
  | ind m ih =>
    intro n i ys first s σ H size w tni untr here
    show Seg _ A R _ n first _ ((forTurn tg (.ref it) body [] X.env).onRaise _) _ s
    rw [Sem.onRaise_eq_wrap]
    unfold forTurn
    obtain ⟨got, cap, vals, I⟩ := here
    refine seg_bind_wrap (wpAny_standAt (seg_bind_wrap (wpAny_onRaise ?_)))
    rw [(gl _).over]
    rcases turn i m ys σ H w with ⟨stop, q⟩ | ⟨go, N, hN, step⟩
    · refine wpAny_mono (T.done X rfl rfl rfl calm i _ s σ H (fun _ _ => False) I (fun b z => (free b z).ok (untr b z)) tni stop) (fun r s4 h4 => ?_) fun _ _ z => z.elim
      obtain ⟨rfl, I4⟩ := h4
      refine seg_again rfl ?_
      exact seg_leaf (.ok .next) (gk.ok n ys first s4 .next size ⟨σ, H, ⟨got, cap, vals, I4⟩, q⟩)
    · refine wpAny_mono (T.item X rfl rfl rfl calm i _ s σ H (fun _ _ => False) I (fun b z => (free b z).ok (untr b z)) tni go) (fun r s4 h4 => ?_) fun _ _ z => z.elim
      obtain ⟨u, rfl, h4⟩ := h4
      refine seg_bind_wrap ?_
      rw [(gl _).over]
      refine wpAny_mono h4 (fun _ s5 h5 => ?_) fun _ _ z => z.elim
      obtain ⟨x, H5, I5, rx, yl, tn5, un5⟩ := h5
      have J5 := I5.pinned (fun b z => (free b z).ok (un5 b z)) (T.obj _ _ tn5)
      refine seg_bind_wrap ?_
      rw [(gl _).over]
      refine wpAny_mono (hg.run _ s5 σ H5 x u _ J5 rx (step x H5 yl)) (fun _ s6 h6 => ?_) fun _ _ z => no z
      obtain ⟨σ6, H6, I6, q6⟩ := h6
      rw [Sem.bind_eq_wrap', Sem.wrap_wrap]
      have back : ∀ {σ7 : L2.St} {H7 : Hp} {zs : List V} {n7 : Nat} {f7 s7 : Shared}, n7 + zs.length = sizeLine → GI X S (ip ++ pinsAt fp s5.heap) zs σ7 H7 s7 → N zs σ7 H7 →
          Seg (model X.prog X.w) A R (GY X S) n7 f7 (.forLoop tg (.ref it) body [] X.env) ((model X.prog X.w).den (.forLoop tg (.ref it) body [] X.env))
            (.ret (fun r => ((match r with | .ok f => (.pure f : Sem Flow) | .error e => .raise e).onRaise (cameBack X.env)).wrap K J gd lv) none (gd false) (lv []) cd at0 [] :: st) s7 := fun {σ7 H7 zs n7 f7 s7} e7 g7 q7 => by
        obtain ⟨m', less, w7⟩ := hN zs σ7 H7 q7
        obtain ⟨acc7, c7, v7, I7⟩ := g7
        have I7' : Inv X (((S, lstObj acc7 c7) :: ip) ++ pinsAt fp s5.heap) σ7 H7 s7 := I7
        have pin7 : ∀ b ∈ fp, ∀ o, s5.heap.get? b = some o → s7.heap.get? b = some o ∧ H7 b = none := fun b z o e => by
          have k := I7'.pin (b, o) (List.mem_append_right _ (List.mem_append_right _ (mem_pinsAt z e)))
          exact ⟨k.1, k.2.1⟩
        refine ih m' less n7 (i + 1) zs f7 s7 σ7 H7 e7 w7 (T.keep _ _ _ tn5 fun b z o e => (pin7 b z o e).1) (fun b z => ?_) ⟨acc7, c7, v7, I7'.unpinned⟩
        obtain ⟨o, e, _⟩ := T.obj _ _ tn5 b z
        exact (pin7 b z o e).2
      have less : ∀ {σ7 : L2.St} {H7 : Hp} {zs : List V} {s7 : Shared}, GI X S (ip ++ pinsAt fp s5.heap) zs σ7 H7 s7 → GI X S ip zs σ7 H7 s7 := fun g7 => by
        obtain ⟨acc7, c7, v7, I7⟩ := g7
        have I7' : Inv X (((S, lstObj acc7 c7) :: ip) ++ pinsAt fp s5.heap) _ _ _ := I7
        exact ⟨acc7, c7, v7, I7'.unpinned⟩
      have gin : ∀ (kk : Result → Sem PySem.Fin), GC X S (ip ++ pinsAt fp s5.heap) A (.forLoop tg (.ref it) body [] X.env) (.ret kk none (gd false) (lv []) cd at0 [] :: st) id := fun kk =>
        ⟨(gl kk).pn, fun p z => (List.mem_append.mp z).elim ((gl kk).ip p) fun z => fun e => (free p.1 (of_pinsAt z).1).2.2.2.2.2.1 e.symm, (gl kk).apart, (gl kk).over, (gl kk).split, (gl kk).guard, (gl kk).gd⟩
      refine hb.run A S (ip ++ pinsAt fp s5.heap) R n ys first _ _ _ _ id id s6 σ6 H6 { D with nx := N, ct := N, bk := D.nx } (gin _) size ⟨fun n7 zs f7 s7 fl e7 q7 => ?_, fun _ _ _ _ z => no z⟩ ⟨got, cap, vals, I6⟩ q6
      cases fl with
      | next =>
        obtain ⟨σ7, H7, g7, q7⟩ := q7
        exact seg_again rfl (back e7 g7 q7)
      | cont =>
        obtain ⟨σ7, H7, g7, q7⟩ := q7
        exact seg_again rfl (back e7 g7 q7)
      | brk =>
        obtain ⟨σ7, H7, g7, q7⟩ := q7
        exact seg_leaf (.ok .next) (gk.ok n7 zs f7 s7 .next e7 ⟨σ7, H7, less g7, q7⟩)
      | ret v =>
        obtain ⟨x7, σ7, H7, g7, r7, q7⟩ := q7
        exact seg_leaf (.ok (.ret v)) (gk.ok n7 zs f7 s7 (.ret v) e7 ⟨x7, σ7, H7, less g7, r7, q7⟩)
end

/-! ### the mirror of a generator: what it hands out -/
/-- what is handed out and the state behind; none: nothing told -/
abbrev GM := SD → Option (List D × SD)
def TrG (K : PySem.W.Frag) (pv : List V) (t : TGn) (m : GM) : Prop := ∀ (G F : Hp) (sd : SD) (σ : L2.St) (H : Hp) (D : GEnds) (ys : List V), StR K pv G F sd σ H → ∀ zs sd', m sd = some (zs, sd') →
  ys.length + zs.length ≤ sizeLine → (∀ F' σ' H' vs, Same F F' → StR K pv G F' sd' σ' H' → Reps K F' vs zs → D.nx (ys ++ vs) σ' H') → t D ys σ H
structure GD (X : Cx) (pv : List V) (st : Stmt) (m : GM) : Prop where
  ex : ∃ t, GS X st t ∧ TrG X.K pv t m
structure GDs (X : Cx) (pv : List V) (st : List Stmt) (m : GM) : Prop where
  ex : ∃ t, GSs X st t ∧ TrG X.K pv t m
def noX : WX := fun _ _ _ _ => False
def gNil : GM := fun sd => some ([], sd)
def gSeq (a b : GM) : GM := fun sd => (a sd).bind fun x => (b x.2).map fun y => (x.1 ++ y.1, y.2)
def gIf (c : SD → ER Bool) (a b : GM) : GM := fun sd => match c sd with
  | .ok x sd1 => if x = true then a sd1 else b sd1
  | _ => none
def gYield (m : SD → ER D) : GM := fun sd => match m sd with
  | .ok d sd1 => some ([d], sd1)
  | _ => none
def gNever : GM := fun _ => none
def gPlain (m : SD → Fl) : GM := fun sd => match m sd with
  | .nx sd1 => some ([], sd1)
  | _ => none
def goGen (g : D → SD → Option SD) (body : GM) : List D → GM
  | [], sd => some ([], sd)
  | d :: ds, sd => (g d sd).bind fun sd1 => (body sd1).bind fun x => (goGen g body ds x.2).map fun y => (x.1 ++ y.1, y.2)
def gFor (it : SD → ER (List D)) (g : D → SD → Option SD) (body : GM) : GM := fun sd => match it sd with
  | .ok ds sd1 => goGen g body ds sd1
  | _ => none
section
variable {X : Cx} {pv : List V} {p q k : Bool} {pos : Pos}
theorem gd_nil : GDs X pv [] gNil := by
  refine ⟨_, gss_nil, fun G F sd σ H D ys s zs sd' e size fin => ?_⟩
  cases e
  have z := fin F σ H [] (Same.refl _) s .nil
  rw [List.append_nil] at z
  exact z
theorem gd_one {st : Stmt} {m : GM} (h : GD X pv st m) : GDs X pv [st] m := by
  obtain ⟨t, a, b⟩ := h
  exact ⟨t, gen_one a, b⟩
theorem gd_cons {st : Stmt} {rest : List Stmt} {m1 m2 : GM} (h1 : GD X pv st m1) (h2 : GDs X pv rest m2) : GDs X pv (st :: rest) (gSeq m1 m2) := by
  obtain ⟨t, a1, a2⟩ := h1
  obtain ⟨u, b1, b2⟩ := h2
  refine ⟨_, gss_cons a1 b1, fun G F sd σ H D ys s zs sd' e size fin => ?_⟩
  obtain ⟨⟨z1, sd1⟩, e1, e⟩ := Option.bind_eq_some_iff.mp e
  obtain ⟨⟨z2, sd2⟩, e2, e⟩ := Option.map_eq_some_iff.mp e
  cases e
  dsimp only at size fin e2
  rw [List.length_append] at size
  refine a2 G F sd σ H _ ys s z1 sd1 e1 (by omega) fun F1 σ1 H1 vs f1 s1 r1 => ?_
  refine b2 G F1 sd1 σ1 H1 D (ys ++ vs) s1 z2 sd2 e2 (by rw [List.length_append, r1.length]; omega) fun F2 σ2 H2 ws f2 s2 r2 => ?_
  rw [List.append_assoc]
  exact fin F2 σ2 H2 (vs ++ ws) (f1.trans f2) s2 ((r1.mono f2).append r2)
theorem gd_never {st : Stmt} : GD X pv st gNever := ⟨_, gen_never, fun G F sd σ H D ys s zs sd' e => by cases e⟩
theorem gd_if {c : Expr} {sa sb : List Stmt} {mc : SD → ER Bool} {ma mb : GM} (hc : DT X pv noX p c mc) (ha : GDs X pv sa ma) (hb : GDs X pv sb mb) : GD X pv (.If c sa sb pos) (gIf mc ma mb) := by
  obtain ⟨tc, c1, c2⟩ := hc
  obtain ⟨ta, a1, a2⟩ := ha
  obtain ⟨tb, b1, b2⟩ := hb
  refine ⟨_, gen_if c1 a1 b1, fun G F sd σ H D ys s zs sd' e size fin => ?_⟩
  have z := c2 G F sd σ H (fun b H1 => if b = true then ta D ys σ H1 else tb D ys σ H1) s
  unfold gIf at e
  revert z e
  cases mc sd with
  | bad => exact fun e _ => by cases e
  | rz x sd1 => exact fun e _ => by cases e
  | ok x sd1 =>
    intro e z
    refine z fun v F1 H1 f1 s1 r1 _ => ?_
    have r1 : v = x := r1
    subst r1
    by_cases hv : v = true
    · show if v = true then _ else _
      rw [if_pos hv]
      exact a2 G F1 sd1 σ H1 D ys s1 zs sd' (by simpa [hv] using e) size fun F2 σ2 H2 vs f2 => fin F2 σ2 H2 vs (f1.trans f2)
    · show if v = true then _ else _
      rw [if_neg hv]
      exact b2 G F1 sd1 σ H1 D ys s1 zs sd' (by simpa [hv] using e) size fun F2 σ2 H2 vs f2 => fin F2 σ2 H2 vs (f1.trans f2)
theorem gd_yield {e : Expr} {yp : Pos} {m : SD → ER D} (he : DX X pv noX p true e m) (hco : X.env.scope.isCoroutine = false := by rfl) (hi : interactive X.env = false := by rfl) : GD X pv (.Expr (.Yield (some e) yp) pos) (gYield m) := by
  obtain ⟨te, a1, a2⟩ := he
  refine ⟨_, gs_yield a1 hco hi, fun G F sd σ H D ys s zs sd' e1 size fin => ?_⟩
  have z := a2 G F sd σ H (fun x H1 => D.nx (ys ++ [x]) σ H1) s
  unfold gYield at e1
  revert z e1
  cases m sd with
  | bad => exact fun e1 _ => by cases e1
  | rz x sd1 => exact fun e1 _ => by cases e1
  | ok d sd1 =>
    intro e1 z
    cases e1
    rw [List.length_singleton] at size
    exact ⟨by omega, z fun v F1 H1 f1 s1 r1 _ => fin F1 σ H1 [v] f1 s1 (.one r1)⟩
theorem gd_plain {st : Stmt} {m : SD → Fl} (h : DS X pv noX st m) : GD X pv st (gPlain m) := by
  obtain ⟨t, a1, a2⟩ := h
  refine ⟨_, gs_ps a1, fun G F sd σ H D ys s zs sd' e size fin => ?_⟩
  have z := a2 G F sd σ H (D.at ys) s
  unfold gPlain at e
  revert z e
  cases m sd with
  | nx sd1 =>
    intro e z
    cases e
    refine z fun F1 σ1 H1 f1 s1 => ?_
    have w := fin F1 σ1 H1 [] f1 s1 .nil
    rw [List.append_nil] at w
    exact w
  | _ => exact fun e _ => by cases e
theorem gd_for {is : List Nat} {tg iter : Expr} {body : List Stmt} {mi : SD → ER (List D)} {g : D → SD → Option SD} {mb : GM} (nox : ∀ e s, ¬ X.xe e s) (hc : X.calm = true) (hi : DI X pv noX p tg iter mi) (hg : DG X is tg g) (hb : GDs X pv body mb)
    (hs : ∀ x, foldedSetIterable iter X.env x = pure x := by intro _; rfl) : GD X pv (.For tg iter body [] pos) (gFor mi g mb) := by
  obtain ⟨wi, a1, a2⟩ := hi
  obtain ⟨⟨t, b1, b2⟩, _⟩ := hg
  obtain ⟨tb, c1, c2⟩ := hb
  refine ⟨_, gen_for nox hc a1 b1 c1 hs, fun G F sd σ H D ys s zs sd' e size fin => ?_⟩
  have z := a2 G F sd σ H (fun J H1 => ∃ W : Nat → Nat → List V → L2.St → Hp → Prop, (∃ m, W 0 m ys σ H1) ∧ ∀ i m ys σ H, W i m ys σ H →
    (J.stop i H ∧ D.nx ys σ H) ∨ (J.go i H ∧ ∃ N : List V → L2.St → Hp → Prop, (∀ ys' σ' H', N ys' σ' H' → ∃ m', m' < m ∧ W (i + 1) m' ys' σ' H') ∧ ∀ x H', J.yld i H x H' → t x σ H' fun σ2 H2 => tb { D with nx := N, ct := N, bk := D.nx } ys σ2 H2)) s
  unfold gFor at e
  revert z e
  cases mi sd with
  | bad => exact fun e _ => by cases e
  | rz x sd1 => exact fun e _ => by cases e
  | ok ds sd1 =>
    intro e z
    have e : goGen g mb ds sd1 = some (zs, sd') := e
    refine z fun J F1 H1 f1 s1 wk _ => ?_
    have wk : Walk X.K J F1 ds := wk
    refine ⟨fun i m ys σ H => m = ds.length - i ∧ i ≤ ds.length ∧ ∃ F' sd2 zs2, Same F1 F' ∧ StR X.K pv G F' sd2 σ H ∧ goGen g mb (ds.drop i) sd2 = some (zs2, sd') ∧ ys.length + zs2.length ≤ sizeLine ∧
      ∀ F'' σ' H' vs, Same F' F'' → StR X.K pv G F'' sd' σ' H' → Reps X.K F'' vs zs2 → D.nx (ys ++ vs) σ' H', ⟨ds.length, by simp, Nat.zero_le _, F1, sd1, zs, Same.refl _, s1, by rw [List.drop_zero]; exact e, size, fun F'' σ' H' vs f2 => fin F'' σ' H' vs (f1.trans f2)⟩, ?_⟩
    rintro i m ys σ H ⟨rfl, le, F', sd2, zs2, f2, st, run, size2, fin2⟩
    by_cases hlt : i < ds.length
    · have hd : ds[i]? = some ds[i] := by simp [hlt]
      rw [drop_at hd] at run
      obtain ⟨sd3, e3, run⟩ := Option.bind_eq_some_iff.mp run
      obtain ⟨⟨z4, sd4⟩, e4, run⟩ := Option.bind_eq_some_iff.mp run
      obtain ⟨⟨z5, sd5⟩, e5, run⟩ := Option.map_eq_some_iff.mp run
      have q1 : z4 ++ z5 = zs2 := congrArg Prod.fst run
      have q2 : sd5 = sd' := congrArg Prod.snd run
      rw [q2] at e5
      rw [← q1] at size2 fin2
      dsimp only at e5
      rw [List.length_append] at size2
      let N : List V → L2.St → Hp → Prop := fun ys' σ' H' => ∃ F3 sd3 z3, Same F1 F3 ∧ StR X.K pv G F3 sd3 σ' H' ∧ goGen g mb (ds.drop (i + 1)) sd3 = some (z3, sd') ∧ ys'.length + z3.length ≤ sizeLine ∧
        (∀ F4 σ4 H4 vs, Same F3 F4 → StR X.K pv G F4 sd' σ4 H4 → Reps X.K F4 vs z3 → D.nx (ys' ++ vs) σ4 H4)
      refine .inr ⟨wk.go F' H i _ f2 st.fh hd, N, fun ys' σ' H' h => ⟨ds.length - (i + 1), by omega, rfl, hlt, h⟩, fun x H' y => ?_⟩
      have main : ∀ F2 H2, Same F' F2 → StR X.K pv G F2 sd2 σ H2 → Rep X.K F2 x ds[i] → t x σ H2 fun σ2 H2 => tb { D with nx := N, ct := N, bk := D.nx } ys σ2 H2 := fun F2 H2 g2 st2 rx => by
        obtain ⟨σ2, k1, _, k2⟩ := b2 pv G F2 sd2 σ H2 x _ sd3 st2 rx e3
        refine k2 _ (c2 G F2 sd3 σ2 H2 _ ys k1 z4 sd4 e4 (by omega) fun F3 σ3 H3 vs g3 st3 r3 => ?_)
        refine ⟨F3, sd4, z5, f2.trans (g2.trans g3), st3, e5, by rw [List.length_append, r3.length]; omega, fun F4 σ4 H4 ws g4 st4 r4 => ?_⟩
        rw [List.append_assoc]
        exact fin2 F4 σ4 H4 (vs ++ ws) (g2.trans (g3.trans g4)) st4 ((r3.mono g4).append r4)
      rcases wk.yld F' H i _ x H' f2 st.fh hd y with ⟨rfl, rx⟩ | ⟨T, vs, es, rfl, ed, hT, rfl, rr⟩
      · exact main F' H' (Same.refl _) st rx
      · refine main _ _ (st.sameNew hT) (st.new (u := .tup vs) hT) ?_
        rw [ed]
        exact .tup upd_same (rr.mono (st.sameNew hT))
    · obtain rfl : i = ds.length := by omega
      rw [List.drop_length] at run
      cases run
      refine .inl ⟨wk.stop F' H f2 st.fh, ?_⟩
      have w := fin2 F' σ H [] (Same.refl _) st .nil
      rw [List.append_nil] at w
      exact w
end

/-! ### a generator def by its mirror -/
section
variable {X : Cx}
theorem gi_nox {S : Addr} {ip : List (Addr × Obj)} {ys : List V} {σ : L2.St} {H : Hp} {s : Shared} : GI X S ip ys σ H s ↔ GI X.nox S ip ys σ H s :=
  ⟨fun ⟨got, c, r, I⟩ => ⟨got, c, r, I.wish _⟩, fun ⟨got, c, r, I⟩ => ⟨got, c, r, I.unwish⟩⟩
theorem gsp_nox {S : Addr} {ip : List (Addr × Obj)} {D : GEnds} {ys : List V} {s : Shared} {f : Flow} (h : GSP X.nox S ip D ys f s) : GSP X S ip D ys f s := by
  cases f with
  | ret u => exact (let ⟨v, σ, H, a, b⟩ := h; ⟨v, σ, H, gi_nox.mpr a, b⟩)
  | next => exact (let ⟨σ, H, a, b⟩ := h; ⟨σ, H, gi_nox.mpr a, b⟩)
  | brk => exact (let ⟨σ, H, a, b⟩ := h; ⟨σ, H, gi_nox.mpr a, b⟩)
  | cont => exact (let ⟨σ, H, a, b⟩ := h; ⟨σ, H, gi_nox.mpr a, b⟩)
theorem gss_nox {st : List Stmt} {t : TGn} (h : GSs X.nox st t) : GSs X st t := by
  constructor
  intro A S ip R n ys first cd fr K J gd lv now σ H D gc size gk here want
  have to : ∀ (n : Nat) {s₀ : Shared} {c : Code} {t : Sem PySem.Fin} {fs : List Frame} {s : Shared}, Seg (model X.prog X.w) A R (GY X S) n s₀ c t fs s → Seg (model X.prog X.w) A R (GY X.nox S) n s₀ c t fs s := fun n => seg_imp (fun _ _ _ _ z => z)
    (fun n s₀ v s kap kap' w ⟨ys, x, ip, σ, H, a, b, c, d⟩ => ⟨ys, x, ip, σ, H, a, b, gi_nox.mp c, fun s' z => w _ _ (d s' z)⟩) n
  refine seg_imp (R := R) (Y := GY X.nox S) (fun _ _ _ _ z => z) (fun n s₀ v s kap kap' w ⟨ys, x, ip, σ, H, a, b, c, d⟩ => ⟨ys, x, ip, σ, H, a, b, gi_nox.mpr c, fun s' z => w _ _ (d s' z)⟩) n ?_
  refine h.run A S ip R n ys first cd fr K J gd lv now σ H D ⟨gc.pn, gc.ip, gc.apart, gc.over, gc.split, gc.guard, gc.gd⟩ size ⟨fun n' ys' f' s' fl e q => to _ (gk.ok n' ys' f' s' fl e (gsp_nox q)), fun _ _ _ _ z => z.elim⟩ (gi_nox.mp here) want
end
/-- a generator def's promise by its mirror -/
def spDG (K : PySem.W.Frag) (n : Nat) (m : List OT → Option (List D)) : SpG := fun vs H Q _ => vs.length = n ∧ ∃ (G F : Hp) (ts : List OT), ts.length = n ∧ StR K vs G F ⟨[], ts⟩ [] H ∧
  ∃ zs, m ts = some zs ∧ zs.length ≤ sizeLine ∧ ∀ out F' pa H', Same F F' → StR K vs G F' ⟨[], pa⟩ [] H' → Reps K F' out zs → Q out H'
def asGen (n : Nat) (body : GM) : List OT → Option (List D) := fun ts => (body (entry n ts)).map (·.1)
theorem gen_mirror {P : Program} {w : World} {K : PySem.W.Frag} {mg : Str → Option Value} {base : Heap} {x qual : Str} {st : Stmt} {f : Addr} {fd : FuncData} {N ps : List Str} {k : Nat} {body : GM} (F : Fun K x qual st f fd) (S : GScope N ps (defScope st))
    (h : ∀ (X : Cx) (pv : List V) (cdv : Value) (A : Around) (outer : List Env) (s : Shared) (H : Hp) (E : XK) (pn : List (Addr × Obj)), X = (gcxOf P w K mg base N qual (defScope st) f cdv A outer s H E pn).nox → Room k X.A → GDs X pv (defBody st) body) :
    GFn P w K mg base (k + 1) f fd ps (spDG K ps.length (asGen N.length body)) := by
  obtain ⟨oc, od, kV, doc, pm, an, cdv, ct, osl, rfl, lk, hcd⟩ := F.ex
  refine gfn_of lk hcd S (fun vs H Q E z => z.1) fun A outer s H vs Q E pn room want => ?_
  obtain ⟨hl, G, Fz, ts, htl, hst, zs, hm, size, fin⟩ := want
  obtain ⟨t, h1, h2⟩ := h _ vs cdv A outer s H E pn rfl room
  refine ⟨t, gss_nox h1, ?_⟩
  have hpl : ps.length ≤ N.length := by have := congrArg List.length S.pre; rw [List.length_take] at this; omega
  obtain ⟨⟨zs', sd'⟩, e, e2⟩ := Option.map_eq_some_iff.mp hm
  cases e2
  have z := h2 G Fz (entry N.length ts) (L2.start N vs) H { nx := fun ys _ H' => Q ys H', rt := fun ys v H' => v = .non ∧ Q ys H' } [] (hst.enter (by omega) (by omega)) zs' sd' e (by simpa using size)
  refine z fun F' σ' H' vs' f1 s1 r1 => ?_
  rw [List.nil_append]
  exact fin vs' F' _ H' f1 s1.bare r1
def mListG (m : List OT → Option (List D)) (a : SD → ER (List D)) : SD → ER OT := fun sd => (a sd).bind fun ds sd1 => match m (ds.map .fz) with
  | some zs => if zs.length ≤ 16777216 then .ok (.ol (zs.map .fz)) sd1 else .bad
  | none => .bad
section
variable {X : Cx} {pv : List V} {W : WX} {p : Bool} {pos : Pos}
/-- list(g(..)) -/
theorem do_listG {n k : Nat} {f : Addr} {fd : FuncData} {ps : List Str} {x : Str} {pp p2 pos2 : Pos} {e : Expr} {es : List Expr} {g : List OT → Option (List D)} {m : SD → ER (List D)} (F : GFn X.prog X.w X.K X.mg X.base k f fd ps (spDG X.K n g)) (hr : RoomG (k + 3) X.A) (hg : Gl X x)
    (hm : X.mg x = some (.ref f)) (hk : PySem.W.keepIn X.K (.ref f) = true) (hb : Binds X.K fd ps []) (ha : DA X pv W p true (e :: es) m) (hn : ∀ sd ds sd1, m sd = .ok ds sd1 → ds.length = n) (hl : Gl X "list") (hml : X.mg "list" = none)
    (hdb : (x == ("__debug__" : Str)) = false := by decide) (he : starEach (e :: es) X.env = (false, eval e X.env) :: starEach es X.env := by rfl) (hpl : (backTo pos2 (starEach es X.env)).any (·.1) = false := by rfl) 
    (hst : starEach [.Call (.Name x p2) (e :: es) [] pos2] X.env = (false, eval (.Call (.Name x p2) (e :: es) [] pos2) X.env) :: starEach [] X.env := by rfl) :
    DO X pv W p (.Call (.Name "list" pp) [.Call (.Name x p2) (e :: es) [] pos2] [] pos) (mListG g m) := by
  obtain ⟨ta, a1, a2⟩ := ha
  refine ⟨_, pe_listG (E := fun _ _ _ => False) (pgen_call F (hr.r.mono (by omega)) hg hm hk hb .nil a1 hdb he hpl) (fun pins σ H s e s' _ h => ?_) (fun _ _ _ z => z.elim) hr.r hl hml (by decide +kernel) (by decide) (by decide) hst, ?_⟩
  · obtain ⟨a, B, H', cls, d, _, _, _, _, _, _, _, z⟩ := h
    exact z.elim
  · intro G F sd σ H Q s
    have z := a2 G F sd σ H (fun vs H1 => spDG X.K n g (vs ++ []) H1 (fun out H2 => ∀ p, H2 p = none → Q (.ref p) (upd H2 p (.lst out))) fun _ _ _ => False) s
    have hn := hn sd
    unfold mListG
    revert z hn
    cases m sd with
    | bad => exact fun _ _ => True.intro
    | rz x sd1 => exact fun z _ => z
    | ok ds sd1 =>
      intro z hn
      have hn := hn ds sd1 rfl
      show Meets X.K pv W G σ (RSo X.K pv) p sd F H (match g (ds.map .fz) with
        | some zs => if zs.length ≤ 16777216 then .ok (.ol (zs.map .fz)) sd1 else .bad
        | none => .bad) Q _
      cases eg : g (ds.map .fz) with
      | none => exact True.intro
      | some zs =>
        dsimp only
        by_cases size : zs.length ≤ 16777216
        · rw [if_pos size]
          intro hQ
          refine z fun vs F1 H1 s1 s2 s3 s4 => ?_
          have s3 : Reps X.K F1 vs ds := s3
          show spDG X.K n g (vs ++ []) H1 _ _
          rw [List.append_nil]
          obtain ⟨G', g1, g2, g3⟩ := s2.give (ts := ds.map .fz) (vs := vs) ⟨by rw [map_view_fz]; exact s3, all_fz ds⟩
          refine ⟨by rw [s3.length, hn], G', F1, ds.map .fz, by rw [List.length_map, hn], g1, zs, eg, by rw [sizeLine_eq]; exact size, fun out F2 pa H2 t1 t2 t3 q hq => ?_⟩
          obtain ⟨u1, u2⟩ := g3 F2 H2 _ t1 t2
          have u3 := u1.newL hq t3
          refine hQ _ F2 _ (s1.trans t1) u3.drop u3 fun hp => ?_
          obtain ⟨a1, a2⟩ := s4 hp
          exact ⟨a1.trans (u2.trans (Same.upd hq)), a2⟩
        · rw [if_neg size]
          exact True.intro
end
end DL

/-! DL43: list(text), d.get(k, x) of a dict that stands, {i: j, k: l}. -/
namespace DL
open PySem PySem.Spec L2 PyProof.Rows
def dListX : List D → Option (List D)
  | [.str x] => if x.cps.size ≤ 16777216 then some (x.cps.toList.map fun c => .str ⟨#[c]⟩) else none
  | ds => dListOf ds
def rListTx : List V → Hp → VK → Prop := fun xs H Q => ∃ x : Str, xs = [.str x] ∧ x.cps.size ≤ 16777216 ∧ ∀ l, H l = none → Q (.ref l) (upd H l (.lst (x.cps.toList.map fun c => V.str ⟨#[c]⟩)))
def rListX (K : PySem.W.Frag) : List V → Hp → VK → Prop := fun xs H Q => rListTx xs H Q ∨ rListOf K xs H Q
theorem call_listTx {X : Cx} (hc : X.A.handled = none) : CallR X (.type "list") rListTx := by
  intro pins s σ H xs us Q I r ⟨x, e, size, q⟩
  subst e
  obtain ⟨u, rfl, ru⟩ := r.one
  obtain ⟨t, rfl⟩ := (show ∃ t, u = Value.str x t from ru)
  have h3 : x.cps.size ≤ sizeLine := by rw [sizeLine_eq]; exact size
  refine call_list_str hc x t (hn := h3) fun h' tk got cap keep there items => ?_
  have len : got.size = x.cps.size := items.1
  refine ⟨.ref s.heap.objs.size, upd H s.heap.objs.size (.lst (x.cps.toList.map fun c => V.str ⟨#[c]⟩)), I.laid keep (Nat.le_refl _) ⟨by rw [List.length_map, Array.length_toList]; exact h3, got.toList, cap, ?_, by rw [Array.toArray_toList]; exact there⟩, rfl, q _ (I.hok.fresh (Nat.le_refl _))⟩
  refine vals_of_idx _ _ (by rw [List.length_map, Array.length_toList, Array.length_toList]; exact len) fun j u hj => ?_
  rw [Array.getElem?_toList] at hj
  obtain ⟨c, t', e1, e2⟩ := items.2 j u hj
  refine ⟨.str ⟨#[c]⟩, ?_, t', e2⟩
  rw [List.getElem?_map, Array.getElem?_toList, e1]
  rfl
theorem call_listX {X : Cx} (hc : X.A.handled = none) : CallR X (.type "list") (rListX X.K) := (call_listTx hc).or call_list_of
theorem Reps.texts {K : PySem.W.Frag} {F : Hp} : ∀ cs : List Nat, Reps K F (cs.map fun c => V.str ⟨#[c]⟩) (cs.map fun c => D.str ⟨#[c]⟩)
  | [] => .nil
  | c :: cs => .cons (.str _) (Reps.texts cs)
theorem f_listX {K : PySem.W.Frag} : CallL K (rListX K) dListX := by
  intro F H xs ds cs hF rs h Q hQ
  unfold dListX at h
  split at h
  · rename_i x
    split at h
    · rename_i size
      cases h
      obtain ⟨v, rfl, r1⟩ := reps1 rs
      cases r1
      exact .inl ⟨x, rfl, size, fun l hl => hQ l _ hl (Reps.texts _)⟩
    · cases h
  · exact .inr (f_listOf F H xs ds cs hF rs h Q hQ)

/-! ### {i: j, k: l}, d.get(k, x) -/
section
variable {X : Cx} {pv : List V} {W : WX} {p q r : Bool} {pos : Pos}
def mDict2 (i j k l : Int) : SD → ER D := fun sd => .ok (.dic false [.k (.inl i), .k (.inl k)] [.int j, .int l]) sd
theorem dx_dict2 {i j k l : Int} (hne : k ≠ i) {x1 x2 x3 x4 : Nat} {p1 p2 p3 p4 : Pos} : DX X pv W true true (.Dict [some (.Constant (.int i) x1 p1), some (.Constant (.int k) x3 p3)] [.Constant (.int j) x2 p2, .Constant (.int l) x4 p4] pos) (mDict2 i j k l) := by
  refine ⟨_, pe_disp (trs := [(_, _), (_, _)]) (pps_cons pe_int pe_int (pps_cons pe_int pe_int pps_nil)) rfl rfl (by simp) (by simp), fun G F sd σ H Q s => ?_⟩
  intro hQ p hp
  refine ⟨upd_same, [(.inl i, .int j), (.inl k, .int l)], rfl, by simp, ?_⟩
  have m : mergeK [] [((.inl i : Key), V.int j), ((.inl k : Key), V.int l)] = [((.inl i : Key), V.int j), ((.inl k : Key), V.int l)] := by
    simp [mergeK, putK, Ne.symm hne]
  have e : upd (upd H p (.dK [])) p (.dK (mergeK [] [((.inl i : Key), V.int j), ((.inl k : Key), V.int l)])) = upd H p (.dK [((.inl i : Key), V.int j), ((.inl k : Key), V.int l)]) := by
    rw [m]
    funext b
    by_cases h : b = p
    · subst h; rw [upd_same, upd_same]
    · rw [upd_ne h, upd_ne h, upd_ne h]
  show Q (.ref p) (upd (upd H p (.dK [])) p (.dK (mergeK [] [((.inl i : Key), V.int j), ((.inl k : Key), V.int l)])))
  rw [e]
  exact hQ _ _ _ (s.sameNew hp) (s.new hp) (Rep.dicK (kvs := [((.inl i : Key), V.int j), ((.inl k : Key), V.int l)]) (.inl upd_same) (.cons (.int j) (.cons (.int l) .nil))) fun _ => ⟨Same.upd hp, rfl⟩
def atKey (i : Int) : List DKey → List D → Option D
  | k :: ks, v :: vs => if k = .k (.inl i) then some v else atKey i ks vs
  | _, _ => none
def getIt (ks : List DKey) (vs : List D) (x z : D) : Option D := match x with
  | .int i => some ((atKey i ks vs).getD z)
  | _ => none
def goGet (a b : SD → ER D) (sd1 : SD) : D → ER D
  | .dic false ks vs => (a sd1).bind fun x sd2 => (b sd2).bind fun z sd3 => ER.opt (getIt ks vs x z) sd3
  | _ => .bad
def mGetD (o a b : SD → ER D) : SD → ER D := fun sd => (o sd).bind fun d sd1 => goGet a b sd1 d
theorem atKey_rep {K : PySem.W.Frag} {F : Hp} {i : Int} {z : V} {dz : D} (hz : Rep K F z dz) : ∀ {kvs : List (Key × V)} {ds : List D}, Reps K F (kvs.map (·.2)) ds → Rep K F ((valV kvs (.inl i : Key)).getD z) ((atKey i (kvs.map fun p => .k p.1) ds).getD dz)
  | [], ds, _ => by
    rw [List.map_nil]
    show Rep K F z _
    exact hz
  | (k, v) :: kvs, ds, rr => by
    rw [List.map_cons] at rr
    cases rr with
    | cons h t =>
      rw [List.map_cons]
      by_cases e : k = .inl i
      · subst e
        have e1 : valV ((((Sum.inl i : Key), v)) :: kvs) (.inl i : Key) = some v := by simp [valV]
        rw [e1]
        unfold atKey
        rw [if_pos rfl]
        exact h
      · have e1 : valV ((k, v) :: kvs) (.inl i : Key) = valV kvs (.inl i : Key) := by simp [valV, e]
        rw [e1]
        unfold atKey
        rw [if_neg (fun z => e (by cases z; rfl))]
        exact atKey_rep hz t
theorem dx_getD {o e f : Expr} {apos cpos : Pos} {mo ma mb : SD → ER D} (hu : X.A.units + 1 < cLine) (ho : DX X pv W p true o mo) (he : DX X pv W q true e ma) (hf : DX X pv W r true f mb)
    (hb : attributeBase o "get" X.env (eval o X.env) = eval o X.env := by rfl) (few : ((backTo cpos (starEach [e, f] X.env)).all (fun x => !x.1) && (backToKw cpos (keywordEach [] X.env)).all (fun x => x.1.isSome) && decide (([e, f] : List Expr).length + ([] : List Keyword).length + (if ([] : List Keyword).isEmpty then 0 else 1) < 30)) = true := by rfl)
    (line : (apos.endLine == cpos.line) = true := by rfl) (trees : backTo cpos (starEach [e, f] X.env) = [(false, eval e X.env), (false, eval f X.env)] := by rfl) :
    DX X pv W (p && (q && r)) true (.Call (.Attribute o "get" apos) [e, f] [] cpos) (mGetD mo ma mb) := by
  obtain ⟨to, o1, o2⟩ := ho
  obtain ⟨ta, a1, a2⟩ := he
  obtain ⟨tb, b1, b2⟩ := hf
  refine ⟨_, pe_dget2 hu o1 a1 b1 ⟨hb, few, line, trees⟩, fun G F sd σ H Q s => ?_⟩
  refine Meets.bind (o2 G F sd σ H _ s) fun x F1 H1 d sd1 s1 s2 s3 s4 => ?_
  have s3 : Rep X.K F1 x d := s3
  cases s3 with
  | @dicK a kvs ds rd rr =>
    refine meets_of fun c => ?_
    refine ⟨a, rfl, .inl ⟨kvs, Same.rd s2.fh rd⟩, Meets.get (Q := Q) ?_ c⟩
    refine Meets.bind (a2 G F1 sd1 σ H1 _ s2) fun y F2 H2 dy sd2 t1 t2 t3 t4 => ?_
    have hr : r = (r && true) := by cases r <;> rfl
    rw [hr]
    refine Meets.bind (b2 G F2 sd2 σ H2 _ t2) fun z F3 H3 dz sd3 u1 u2 u3 u4 => ?_
    have t3 : Rep X.K F2 y dy := t3
    have u3 : Rep X.K F3 z dz := u3
    cases dy with
    | int i =>
      cases t3
      refine Meets.here u2 (show Rep X.K F3 ((valV kvs (.inl i : Key)).getD z) ((atKey i (kvs.map fun p => DKey.k p.1) ds).getD dz) from atKey_rep u3 (rr.mono (t1.trans u1))) fun q => ?_
      exact ⟨_, .inl ⟨kvs, .inl i, Same.rd u2.fh (Same.rd (t1.trans u1) rd), rfl, rfl⟩, q⟩
    | _ => exact True.intro
  | _ => exact True.intro
end
end DL

/-! DL44: x in l for data of any depth. -/
namespace DL
open PySem PySem.Spec L2 PyProof.Rows
def dInD : D → D → Option D
  | x, .lst ds => x.py.bind fun p => (D.pys ds).bind fun ps => if (SeqAt.shaped p && SeqAt.shaped (.list ps)) = true then some (.bl (ps.any fun z => PyData.eqv z p)) else none
  | _, _ => none
theorem f_inD {K : PySem.W.Frag} : Op2S K (rInD K) dInD := by
  intro H x y a b c ra rb h
  unfold dInD at h
  split at h
  · obtain ⟨p, e1, h⟩ := Option.bind_eq_some_iff.mp h
    obtain ⟨ps, e2, h⟩ := Option.bind_eq_some_iff.mp h
    split at h
    · rename_i hc
      rw [Bool.and_eq_true] at hc
      cases h
      exact ⟨_, rfl, fun Q q => ⟨p, ps, Rep.dp ra e1, Rep.dp rb (by rw [D.py, e2]; rfl), hc.1, hc.2, q⟩⟩
    · cases h
  · cases h
end DL

/-! DL45: l.pop() of a list of a name: its last tree moves out. -/
namespace DL
open PySem PySem.Spec L2 PyProof.Rows
section
variable {K : PySem.W.Frag} {pv : List V} {G F F' H H' : Hp} {sd : SD} {σ : L2.St}
theorem repOs_last : ∀ {ts : List OT} {t : OT} {vs : List V} {P : Addr → Prop}, RepOs K F H (ts ++ [t]) vs P → ∃ (ws : List V) (v : V) (P1 P2 : Addr → Prop), vs = ws ++ [v] ∧ (∀ x, P1 x → P x) ∧ (∀ x, P2 x → P x ∧ ¬ P1 x) ∧ RepOs K F H ts ws P1 ∧ RepO K F H t v P2
  | [], t, vs, P, r => by
    rw [List.nil_append] at r
    unfold RepOs at r
    obtain ⟨v, ws, Q1, Q2, rfl, h1, h2, r1, rr⟩ := r
    unfold RepOs at rr
    subst rr
    refine ⟨[], v, fun _ => False, Q1, rfl, fun x h => h.elim, fun x h => ⟨h1 x h, id⟩, ?_, r1⟩
    unfold RepOs; rfl
  | t0 :: ts, t, vs, P, r => by
    rw [List.cons_append] at r
    unfold RepOs at r
    obtain ⟨v, ws, Q1, Q2, rfl, h1, h2, r1, rr⟩ := r
    obtain ⟨us, u, P1, P2, rfl, k1, k2, k3, k4⟩ := repOs_last rr
    refine ⟨v :: us, u, fun x => Q1 x ∨ P1 x, P2, rfl, fun x h => h.elim (h1 x) fun h => (h2 x (k1 x h)).1, fun x h => ⟨(h2 x (k2 x h).1).1, fun z => z.elim (h2 x (k2 x h).1).2 (k2 x h).2⟩, ?_, k4⟩
    unfold RepOs
    exact ⟨v, us, Q1, P1, rfl, fun x h => .inl h, fun x h => ⟨.inr h, (h2 x (k1 x h)).2⟩, r1, k3⟩
theorem StR.lpop {i : Nat} {ts : List OT} {t : OT} (s : StR K pv G F sd σ H) (h : sd.tree i = some (.ol (ts ++ [t]))) : ∃ (a : Addr) (ws : List V) (v : V), σ[i]? = some (some (.ref a)) ∧ H a = some (.lst (ws ++ [v])) ∧
    StR1 K pv G F (sd.put i (.ol ts)) σ (upd H a (.lst ws)) v t := by
  classical
  obtain ⟨o, W⟩ := s
  obtain ⟨src, v0, h1, h2, h3⟩ := W.put h
  unfold RepO at h2
  obtain ⟨a, vs, rfl, pa, ha, r⟩ := h2
  obtain ⟨ws, v, P1, P2, rfl, k1, k2, k3, k4⟩ := repOs_last r
  have nF : ∀ b u, F b = some u → b ≠ a := fun b u e z => by rw [z, (W.oh _ a pa).2.1] at e; cases e
  have nG : ∀ b u, G b = some u → b ≠ a := fun b u e z => by rw [z, (W.oh _ a pa).2.2] at e; cases e
  have nz : ∀ b, H b ≠ none → upd H a (.lst ws) b ≠ none := fun b hb => by
    by_cases z : b = a
    · rw [z, upd_same]; simp
    · rw [upd_ne z]; exact hb
  have sub : ∀ x b, (if x = src then b = a ∨ P1 b else o x b) → o x b := fun x b q => by
    by_cases z : x = src
    · rw [if_pos z] at q
      rw [z]
      rcases q with q | q
      · rw [q]; exact pa
      · exact (k1 b q).1
    · rw [if_neg z] at q; exact q
  refine ⟨a, ws, v, h1, ha, fun x b => if x = src then b = a ∨ P1 b else o x b, P2, h3 F _ _ _ (Same.refl _) (fun b u e => ?_) (fun b u e => ?_) W.fg (fun x b q => ?_) (fun x y b q q' => W.oo x y b (sub x b q) (sub y b q')) (fun x n b q => ?_) ?_, ?_, fun b q => ?_⟩
  · rw [upd_ne (nF b u e)]; exact W.fh b u e
  · rw [upd_ne (nG b u e)]; exact W.gh b u e
  · obtain ⟨m1, m2⟩ := W.oh x b (sub x b q)
    exact ⟨nz b m1, m2⟩
  · have ne : b ≠ a := fun z => n (W.oo x src b q (by rw [z]; exact pa))
    exact ⟨by rw [if_neg n]; exact q, upd_ne ne⟩
  · show RepO K F (upd H a (.lst ws)) (.ol ts) (.ref a) (fun b => if src = src then b = a ∨ P1 b else o src b)
    unfold RepO
    have e : ∀ b, (if src = src then b = a ∨ P1 b else o src b) = (b = a ∨ P1 b) := fun b => if_pos rfl
    refine ⟨a, ws, rfl, (e a).mpr (.inl rfl), upd_same, k3.mono (Same.refl _) fun x hx => ⟨⟨(e x).mpr (.inr hx), (k1 x hx).2⟩, upd_ne (k1 x hx).2⟩⟩
  · exact k4.mono (Same.refl _) fun x hx => ⟨hx, upd_ne (k2 x hx).1.2⟩
  · obtain ⟨m1, m2⟩ := k2 b q
    obtain ⟨n1, n2, n3⟩ := W.oh src b m1.1
    refine ⟨nz b n1, n2, n3, fun x q' => ?_⟩
    have q' : if x = src then b = a ∨ P1 b else o x b := q'
    by_cases z : x = src
    · rw [if_pos z] at q'
      exact q'.elim m1.2 m2
    · rw [if_neg z] at q'
      exact z (W.oo x src b q' m1.1)
end
def mPop (i : Nat) : SD → ER OT := fun sd => match sd.tree i with
  | some (.ol ts) => match ts.getLast? with
    | some t => .ok t (sd.put i (.ol ts.dropLast))
    | none => .bad
  | _ => .bad
section
variable {X : Cx} {pv : List V} {W : WX}
theorem do_pop {i : Nat} {x : Str} {pp apos cpos : Pos} (hx : PE X (.Name x pp) (tVar i)) (hline : (apos.endLine == cpos.line) = true := by rfl)
    (hbase : attributeBase (.Name x pp) "pop" X.env (eval (.Name x pp) X.env) = eval (.Name x pp) X.env := by rfl) : DO X pv W false (.Call (.Attribute (.Name x pp) "pop" apos) [] [] cpos) (mPop i) := by
  refine ⟨_, pe_bm0 PySem.F.plainAttrs_list PySem.F.slot_list_pop PySem.F.type_list_pop mt_pop hx hbase hline, fun G F sd σ H Q s => ?_⟩
  unfold mPop
  split
  · rename_i ts0 e0
    split
    · rename_i t e1
      obtain ⟨ts, rfl⟩ := List.getLast?_eq_some_iff.mp e1
      rw [List.dropLast_concat]
      obtain ⟨a, ws, v, h1, h2, h3⟩ := s.lpop e0
      intro hQ
      have hd : (ws ++ [v]).dropLast = ws := List.dropLast_concat
      refine ⟨_, h1, .inl ⟨rfl, _, .inl (.inl h2)⟩, a, ws ++ [v], v, rfl, rfl, h2, by simp, ?_⟩
      rw [hd]
      exact hQ v F _ (Same.refl _) h3.drop h3 fun z => by cases z
    · exact True.intro
  · exact True.intro
end
end DL

/-! DL46: exceptions whose own __init__ keeps its arguments: raise, isinstance, a field. -/
namespace DL
open PySem PySem.Spec L2 PyProof.Rows

/-! ### the __init__ -/
/-- the arguments behind self become the fields ns, in order -/
def spI (K : PySem.W.Frag) (ns : List Str) : Sp := fun vs H Q _ => ∃ (a C : Addr) (ws : List V), vs = .ref a :: ws ∧ ws.length = ns.length ∧ OexC K C ∧ (∀ f ∈ ns, PySem.W.findIn K (.ref C) f = some none) ∧ H a = some (exo a C none) ∧
  ∀ dx, H dx = none → dx ≠ a → Q .non (upd (upd H dx (exd dx (ns.zip ws).reverse)) a (exo a C (some dx)))
section
variable {P : Program} {w : World} {K : PySem.W.Frag} {mg : Str → Option Value} {base : Heap} {x qual : Str} {st : Stmt} {f : Addr} {fd : FuncData}
theorem vis_par {N ps : List Str} {sc : Scope} (S : FnScope N ps sc) {y : Str} (h : y ∈ ps) : Vis sc y := (S.par y h).elim .inl fun z => .inr (.inl z)
theorem init1 {n : Str} {p1 p2 p3 pos : Pos} (F : Fun K x qual st f fd) (S : FnScope ["self", n] ["self", n] (defScope st)) (hb : defBody st = [.Assign [.Attribute (.Name "self" p1) n p2] (.Name n p3) pos])
    (hd : (n == ("__debug__" : Str)) = false := by decide) (hcd : (n == ("__classdict__" : Str)) = false := by decide) : FnOk P w K mg base (L2.CX P w) 1 f fd ["self", n] (spI K [n]) := by
  refine F.okX S (fun vs H Q E z => ?_) fun cdv A outer s H vs Q E hr hs => ?_
  · obtain ⟨a, C, ws, rfl, hl, _⟩ := z
    simpa using hl
  · obtain ⟨a, C, ws, rfl, hl, T, hno, ha, q⟩ := hs
    obtain ⟨y, rfl⟩ : ∃ y, ws = [y] := List.length_eq_one_iff.mp hl
    rw [hb]
    refine ⟨_, pss_one (ps_ost (pe_var (i := 0) rfl (vis_par S (by simp))) (pe_var (i := 1) rfl (vis_par S (by simp)) hd hcd) rfl), ?_⟩
    exact ⟨y, rfl, .ref a, rfl, a, C, rfl, T, hno n (by simp), .inl ⟨ha, q⟩⟩
theorem init2 {n m : Str} {p1 p2 p3 pos q1 q2 q3 qos : Pos} (F : Fun K x qual st f fd) (S : FnScope ["self", n, m] ["self", n, m] (defScope st)) (hb : defBody st = [.Assign [.Attribute (.Name "self" p1) n p2] (.Name n p3) pos, .Assign [.Attribute (.Name "self" q1) m q2] (.Name m q3) qos])
    (hd : (n == ("__debug__" : Str)) = false := by decide) (hcd : (n == ("__classdict__" : Str)) = false := by decide) (hd2 : (m == ("__debug__" : Str)) = false := by decide) (hcd2 : (m == ("__classdict__" : Str)) = false := by decide) : FnOk P w K mg base (L2.CX P w) 1 f fd ["self", n, m] (spI K [n, m]) := by
  refine F.okX S (fun vs H Q E z => ?_) fun cdv A outer s H vs Q E hr hs => ?_
  · obtain ⟨a, C, ws, rfl, hl, _⟩ := z
    simpa using hl
  · obtain ⟨a, C, ws, rfl, hl, T, hno, ha, q⟩ := hs
    obtain ⟨y, z, rfl⟩ : ∃ y z, ws = [y, z] := by
      match ws, hl with
      | [y, z], _ => exact ⟨y, z, rfl⟩
    rw [hb]
    refine ⟨_, pss_cons (ps_ost (pe_var (i := 0) rfl (vis_par S (by simp))) (pe_var (i := 1) rfl (vis_par S (by simp)) hd hcd) rfl) (pss_one (ps_ost (pe_var (i := 0) rfl (vis_par S (by simp))) (pe_var (i := 2) rfl (vis_par S (by simp)) hd2 hcd2) rfl)), ?_⟩
    refine ⟨y, rfl, .ref a, rfl, a, C, rfl, T, hno n (by simp), .inl ⟨ha, fun dx hn ne => ?_⟩⟩
    refine ⟨z, rfl, .ref a, rfl, a, C, rfl, T, hno m (by simp), .inr ⟨dx, [(n, y)], upd_same, by rw [upd_ne ne, upd_same], by simp, ?_⟩⟩
    have e : upd (upd (upd H dx (exd dx [(n, y)])) a (exo a C (some dx))) dx (exd dx [(m, z), (n, y)]) = upd (upd H dx (exd dx [(m, z), (n, y)])) a (exo a C (some dx)) := by
      funext b
      by_cases h1 : b = dx
      · subst h1; rw [upd_same, upd_ne ne, upd_same]
      · rw [upd_ne h1]
        by_cases h2 : b = a
        · subst h2; rw [upd_same, upd_same]
        · rw [upd_ne h2, upd_ne h2, upd_ne h1, upd_ne h1]
    show Q .non (upd (upd (upd H dx (exd dx [(n, y)])) a (exo a C (some dx))) dx (exd dx [(m, z), (n, y)]))
    rw [e]
    exact q dx hn ne
end

/-! ### raise -/
def sRaiseX (C : Addr) (ns : List Str) (m : SD → ER (List D)) : SD → Fl := fun sd => (m sd).stm fun ds sd1 => if ds.length = ns.length ∧ ns.length ≤ 900 then .rz ⟨C, some (ns.zip ds).reverse⟩ sd1 else .bad
/-- what is asked of the class -/
structure XMkI (K : PySem.W.Frag) (C fI : Addr) (ns : List Str) : Prop where
  o : OexC K C
  i : PySem.W.findIn K (.ref C) "__init__" = some (some (.ref fI))
  t : PySem.W.typeIn K (.ref fI) = some (.type "function")
  n : ∀ f ∈ ns, PySem.W.findIn K (.ref C) f = some none
/-- what is asked of the class object -/
def oexB (C : Addr) (cd : ClassData) (sl : Array (Option Value)) : Bool := match cd.mro, sl.toList with
  | .ref C' :: bm, [_, _, _, _, some (.builtin n), _] => C' == C && (n == "ValueError.__new__" && (!cd.hasDel && (cd.hasDict && PySem.HandSPX.refsVE bm)))
  | _, _ => false
theorem oex_mk {K : PySem.W.Frag} {C : Addr} {d : Option Addr} {cd : ClassData} {sl : Array (Option Value)} (h : K.lookup C = some ⟨.type "type", d, .cls cd, sl⟩) (q : oexB C cd sl = true) (sa : PySem.W.findIn K (.ref C) "__setattr__" = some (some (.builtin "object.__setattr__")))
    (b : PySem.W.subIn K (.ref C) (.type "BaseException") = some true) (t : PySem.W.typeIn K (.ref C) = some (.type "type")) (k : PySem.W.keepIn K (.ref C) = true) : OexC K C := by
  refine ⟨?_, sa, b, t, k⟩
  unfold oexB at q
  split at q
  · rename_i C' bm k0 k1 k2 k3 n k5 hm hs
    simp only [Bool.and_eq_true, beq_iff_eq, Bool.not_eq_true'] at q
    obtain ⟨q1, q2, q3, q4, q5⟩ := q
    subst q1 q2
    obtain ⟨nm, bs, mro, ns, qn, hd, sn, sub, ab, col, del⟩ := cd
    dsimp only at hm q3 q4
    subst hm q3 q4
    have hsl : sl = #[k0, k1, k2, k3, some (.builtin "ValueError.__new__"), k5] := by
      cases sl
      exact congrArg Array.mk hs
    subst hsl
    exact ⟨nm, qn, ns, bs, bm, sn, sub, ab, col, d, k0, k1, k2, k3, k5, h, q5⟩
  · cases q
theorem fst_zip {α β : Type} : ∀ (ns : List α) (ds : List β), ds.length = ns.length → (ns.zip ds).map (·.1) = ns
  | [], _, _ => rfl
  | n :: ns, [], h => by cases h
  | n :: ns, d :: ds, h => by rw [List.zip_cons_cons, List.map_cons, fst_zip ns ds (by simpa using h)]
theorem snd_zip {α β : Type} : ∀ (ns : List α) (ds : List β), ds.length = ns.length → (ns.zip ds).map (·.2) = ds
  | [], [], _ => rfl
  | [], d :: ds, h => by cases h
  | n :: ns, [], h => by cases h
  | n :: ns, d :: ds, h => by rw [List.zip_cons_cons, List.map_cons, snd_zip ns ds (by simpa using h)]
section
variable {X : Cx} {pv : List V} {W : WX} {p : Bool} {e : Expr} {es : List Expr} {x : Str} {pos pos' pp : Pos}
theorem ds_raiseX {C fI : Addr} {k : Nat} {fd : FuncData} {ps ns : List Str} {m : SD → ER (List D)} (hc : X.calm = true) (tk : Takes X W) (M : XMkI X.K C fI ns) (F : FnOk X.prog X.w X.K X.mg X.base (L2.CX X.prog X.w) k fI fd ps (spI X.K ns)) (hr : RoomG (k + 1) X.A) (hb : Binds X.K fd ps [])
    (hg : Gl X x) (hm : X.mg x = some (.ref C)) (ha : DA X pv W p true (e :: es) m)
    (hdb : (x == ("__debug__" : Str)) = false := by decide) (he : starEach (e :: es) X.env = (false, eval e X.env) :: starEach es X.env := by rfl) (hpl : (backTo pos' (starEach es X.env)).any (·.1) = false := by rfl) :
    DS X pv W (.Raise (some (.Call (.Name x pp) (e :: es) [] pos')) none pos) (sRaiseX C ns m) := by
  obtain ⟨ta, a1, a2⟩ := ha
  refine ⟨_, ps_raise hc tk (pmk_oex M.o M.i M.t F hr.r hb .nil (fun _ _ _ _ _ _ _ z => (cx_none z).elim) hg hm a1 hdb he hpl), fun G F sd σ H D s => ?_⟩
  unfold sRaiseX
  refine Meets.stm (a2 G F sd σ H _ s) fun vs F1 H1 ds sd1 s1 s2 s3 => ?_
  have s3 : Reps X.K F1 vs ds := s3
  split
  · rename_i hl
    obtain ⟨hl, hl2⟩ := hl
    intro hW
    refine ⟨by rw [s3.length]; omega, fun a hn => ?_⟩
    rw [List.append_nil]
    refine ⟨a, C, vs, rfl, by rw [s3.length, hl], M.o, M.n, upd_same, fun dx hdx ne => ?_⟩
    have hdx1 : H1 dx = none := by rw [upd_ne ne] at hdx; exact hdx
    refine ⟨rfl, dx, (ns.zip vs).reverse, upd_same, by rw [upd_ne ne, upd_same], hdx1, ?_⟩
    have e : upd (del (upd (upd (upd H1 a (exo a C none)) dx (exd dx (ns.zip vs).reverse)) a (exo a C (some dx))) a) dx (.xd (ns.zip vs).reverse) = upd H1 dx (.xd (ns.zip vs).reverse) := by
      funext b
      by_cases h1 : b = dx
      · subst h1; rw [upd_same, upd_same]
      · rw [upd_ne h1, upd_ne h1]
        by_cases h2 : b = a
        · subst h2; rw [del_same, hn]
        · rw [del_ne h2, upd_ne h2, upd_ne h1, upd_ne h2]
    rw [e]
    have hv : vs.length = ns.length := by rw [s3.length, hl]
    refine hW (.ref C) (some dx) (upd F1 dx (.xd (ns.zip vs).reverse)) σ _ (s2.sameNew hdx1) (s2.new hdx1) ⟨rfl, dx, _, rfl, upd_same, ?_, ?_⟩
    · rw [List.map_reverse, List.map_reverse, fst_zip _ _ hv, fst_zip _ _ hl]
    · rw [List.map_reverse, List.map_reverse, snd_zip _ _ hv, snd_zip _ _ hl]
      exact (s3.mono (s2.sameNew hdx1)).reverse
  · exact True.intro
end
end DL

/-! DL47: isinstance of exceptions with fields, a field of an exception. -/
namespace DL
open PySem PySem.Spec L2 PyProof.Rows
/-- a value's type, exceptions with or without fields too -/
def TyF (K : PySem.W.Frag) (H : Hp) (v : V) (t : Value) : Prop := TyX K H v t ∨ ∃ (a C : Addr) (d : Option Addr), v = .ref a ∧ t = .ref C ∧ H a = some (ExT (.ref C) d a) ∧ (∀ dx, d = some dx → ∃ fvs, H dx = some (.xd fvs)) ∧ ExcC K C
section
variable {X : Cx} {pins : List (Addr × Obj)} {σ : L2.St} {H : Hp} {s : Shared}
/-- the object of an exception -/
theorem inst_exc {a C : Addr} {d : Option Addr} (I : Inv X pins σ H s) (e : H a = some (ExT (.ref C) d a)) (hx : ∀ dx, d = some dx → ∃ fvs, H dx = some (.xd fvs)) : ∃ oe od, PySem.W.InstAt s.heap a oe C od := by
  obtain ⟨⟨oe, he, hz, vs, hd⟩, _, _⟩ := I.hok a _ e
  have nc : PySem.W.notCls oe = true := by unfold PySem.W.notCls; rw [hd]
  cases d with
  | none => exact ⟨oe, none, he, hz.1, nc, by rw [hz.2]; exact True.intro⟩
  | some dx =>
    obtain ⟨fvs, hf⟩ := hx dx rfl
    have hk : ObjOk X.prog X.w H s.heap dx (.xd fvs) := I.hok dx _ hf
    obtain ⟨mA, hns, _⟩ := hk
    obtain ⟨od, ho, _⟩ := lookIn_ns hns
    exact ⟨oe, some od, he, hz.1, nc, by rw [hz.2]; exact ho⟩
theorem kit_ofF {x : V} {u t : Value} (I : Inv X pins σ H s) (rx : RelV x u) (ty : TyF X.K H x t) : ∃ P : Heap → Prop, PySem.W.KitX X.K u t P ∧ P s.heap ∧ u ≠ .builtin "__main__.__loader__#opaque" := by
  rcases ty with ty | ⟨a, C, d, ex, et, e, hx, c⟩
  · exact kit_of I rx ty
  · subst ex et
    cases (show u = Value.ref a from rx)
    obtain ⟨oe, od, J⟩ := inst_exc I e hx
    obtain ⟨cd, hcd, _⟩ := PySem.W.any_some c.hd
    exact ⟨_, PySem.W.kitx_exc (by rw [hcd]; rfl) c.hg c.hk c.hs c.ha c.hn c.ht c.hm, J, fun z => nomatch z⟩
end
def rIsiF (K : PySem.W.Frag) : List V → Hp → VK → Prop := fun xs H Q => ∃ (x c : V) (t u : Value) (b : Bool), xs = [x, c] ∧ ClsV c u ∧ TyF K H x t ∧ PySem.W.kitOne K t u = some b ∧ Q (.bl b) H
def rIsiTF (K : PySem.W.Frag) : List V → Hp → VK → Prop := fun xs H Q => ∃ (x : V) (tp : Addr) (cs : List V) (t : Value) (us : List Value) (b : Bool), xs = [x, .ref tp] ∧ H tp = some (.tup cs) ∧ Paired ClsV cs us ∧ TyF K H x t ∧ PySem.W.kitAny K t us = some b ∧ Q (.bl b) H
section
variable {X : Cx}
theorem call_isiF : CallR X (.builtin "isinstance") (fun xs H Q => rIsiF X.K xs H Q ∨ rIsiTF X.K xs H Q) := by
  intro pins s σ H xs us Q I r h
  rcases h with ⟨x, c, t, u, b, rfl, k, ty, e, q⟩ | ⟨x, tp, cs, t, ws, b, rfl, hT, k, ty, e, q⟩
  · obtain ⟨u1, u2, rfl, r1, r2⟩ := vals2 r
    have e2 := k.eq r2
    subst e2
    obtain ⟨P, Z, p, hx⟩ := kit_ofF I r1 ty
    exact PySem.W.kia_one Z I.kIn p e hx fun tk => ⟨.bl b, H, I.tok tk, rfl, q⟩
  · obtain ⟨u1, u2, rfl, r1, r2⟩ := vals2 r
    cases (show u2 = Value.ref tp from r2)
    obtain ⟨P, Z, p, hx⟩ := kit_ofF I r1 ty
    obtain ⟨_, its, rv, o, h1, h2, n, h3⟩ := (show ObjOk X.prog X.w H s.heap tp (.tup cs) from I.hok tp _ hT)
    have e3 := ClsV.all k rv
    subst e3
    obtain ⟨oc, od, dt, sl⟩ := o
    simp only at h2 h3
    subst h2 h3
    exact PySem.W.kia_tup Z I.kIn p h1 e hx fun tk => ⟨.bl b, H, I.tok tk, rfl, q⟩
end
def dIsF (rel : XRel) : List D → Option D
  | [.exc C _ _, .tup ds] => if ds = [] then none else (relAny rel C ds).map .bl
  | [.exc C _ _, d] => ((clsD d).bind (rel C)).map .bl
  | _ => none
theorem rep_exc1 {K : PySem.W.Frag} {H : Hp} {v : V} {C : Addr} {ns : List Str} {vs : List D} (r : Rep K H v (.exc C ns vs)) : ∃ (a : Addr) (d : Option Addr) (fvs : List (Str × V)), v = .ref a ∧ H a = some (ExT (.ref C) d a) ∧ (∀ dx, d = some dx → H dx = some (.xd fvs)) ∧ (d = none ↔ fvs = []) ∧ fvs.map (·.1) = ns ∧ Reps K H (fvs.map (·.2)) vs := by
  generalize hd : D.exc C ns vs = x at r
  cases r with
  | @exc a C' d fvs ds h k n rr =>
    injection hd with e1 e2 e3
    subst e1 e2 e3
    exact ⟨a, d, fvs, rfl, h, k, n, rfl, rr⟩
  | _ => cases hd
theorem f_isF {K : PySem.W.Frag} {rel : XRel} (o : XRelOk K rel) : CallS K (fun xs H Q => rIsiF K xs H Q ∨ rIsiTF K xs H Q) (dIsF rel) := by
  intro H xs ds c r h
  unfold dIsF at h
  split at h
  · rename_i C ns vs ds
    obtain ⟨v, v', rfl, r1, r2⟩ := reps2 r
    split at h
    · cases h
    · rename_i hne
      obtain ⟨b, e, h⟩ := Option.map_eq_some_iff.mp h
      subst h
      obtain ⟨a, d, fvs, rfl, ea, ex, _⟩ := rep_exc1 r1
      cases r2 with
      | @tup tp vs _ ht rr =>
        obtain ⟨us, k1, k2, k3⟩ := relAny_ok o rr e
        exact ⟨_, rfl, fun Q q => .inr ⟨_, tp, vs, .ref C, us, b, rfl, ht, k1, .inr ⟨a, C, d, rfl, rfl, ea, fun dx z => ⟨_, ex dx z⟩, k3 hne⟩, k2, q⟩⟩
  · rename_i C ns vs d hd
    obtain ⟨v, v', rfl, r1, r2⟩ := reps2 r
    obtain ⟨b, e, h⟩ := Option.map_eq_some_iff.mp h
    subst h
    obtain ⟨u, e1, e2⟩ := Option.bind_eq_some_iff.mp e
    obtain ⟨a, dd, fvs, rfl, ea, ex, _⟩ := rep_exc1 r1
    exact ⟨_, rfl, fun Q q => .inl ⟨_, v', .ref C, u, b, rfl, clsD_v r2 e1, .inr ⟨a, C, dd, rfl, rfl, ea, fun dx z => ⟨_, ex dx z⟩, o.c _ _ _ e2⟩, o.r _ _ _ e2, q⟩⟩
  · cases h

/-! ### a field -/
def mFldX (ok : Addr → Bool) (f : Str) (a : SD → ER D) : SD → ER D := fun sd => (a sd).bind fun x sd1 => match x with
  | .exc C ns vs => if ok C = true then ER.opt (fldD f ns vs) sd1 else .bad
  | _ => .bad
section
variable {X : Cx} {pv : List V} {W : WX} {p q k l : Bool} {e a b : Expr} {es : List Expr} {pos : Pos}
theorem pe_fldX {ok : Addr → Bool} {f : Str} {te : TE} (he : PE X e te) (hf : ∀ C, ok C = true → XfC X.K C ∧ PySem.W.findIn X.K (.ref C) f = some none) (hb : attributeBase e f X.env (eval e X.env) = eval e X.env := by rfl) :
    PE X (.Attribute e f pos) (fun σ H Q => te σ H fun x H1 => ∃ (a C dd : Addr) (fs : List (Str × V)) (v : V), x = .ref a ∧ ok C = true ∧ H1 a = some (ExT (.ref C) (some dd) a) ∧ H1 dd = some (.xd fs) ∧ fs.lookup f = some v ∧ Q v H1) := by
  refine ⟨fun pins s σ H Q I h => attr_of hb (thn (he.run pins s σ H _ I h) fun u s1 ⟨x, H1, I1, rx, a, C, dd, fs, v, ex, hok, ea, ed, hl, q⟩ => ?_)⟩
  subst ex
  cases (show u = Value.ref a from rx)
  obtain ⟨T, hno⟩ := hf C hok
  obtain ⟨⟨oe, ho, hz, vs, hd⟩, _, _⟩ := I1.hok a _ ea
  have hx : ObjOk X.prog X.w H1 s1.heap dd (.xd fs) := I1.hok dd _ ed
  obtain ⟨mA, hns, hr⟩ := hx
  obtain ⟨od, hod, hlk⟩ := lookIn_ns hns
  obtain ⟨u, hu, ru⟩ := RelO.some_of (v := v) (o := mA f) (hl ▸ hr f)
  have nc : PySem.W.notCls oe = true := by unfold PySem.W.notCls; rw [hd]
  exact HandSPX.exc_get I1.kIn (⟨ho, hz.1, nc, by rw [hz.2]; exact hod⟩ : PySem.W.InstAt s1.heap a oe C (some od)) T.ga T.gg T.exC (PySem.W.findObj_own T.hdC hno rfl ((hlk f).trans (congrArg some hu))) (handed_of ru) ⟨v, H1, I1.tok _, ru, q⟩
theorem dx_fldX {ok : Addr → Bool} {f : Str} {m : SD → ER D} (h : DX X pv W p true e m) (hf : ∀ C, ok C = true → XfC X.K C ∧ PySem.W.findIn X.K (.ref C) f = some none) (hb : attributeBase e f X.env (eval e X.env) = eval e X.env := by rfl) : DX X pv W p true (.Attribute e f pos) (mFldX ok f m) := by
  obtain ⟨te, a1, a2⟩ := h
  refine ⟨_, pe_fldX a1 hf hb, fun G F sd σ H Q s => ?_⟩
  refine Meets.bindL (a2 G F sd σ H _ s) fun x F1 H1 dx sd1 s1 s2 s3 s4 => ?_
  have s5 : Rep X.K F1 x dx := s3
  clear s3
  split
  · rename_i C ns vs
    split
    · rename_i hok
      cases e1 : fldD f ns vs with
      | none => exact True.intro
      | some d =>
        obtain ⟨a, dd, fvs, rfl, ea, ex, en, rfl, rr⟩ := rep_exc1 s5
        obtain ⟨v, k1, k2⟩ := fldD_rep rr e1
        cases dd with
        | none =>
          rw [en.mp rfl] at k1
          cases k1
        | some dd => exact Meets.here s2 (show RSx X.K true G F1 sd1 H1 σ v d from k2) fun q => ⟨a, C, dd, fvs, v, rfl, hok, s2.fh _ _ ea, s2.fh _ _ (ex dd rfl), k1, q⟩
    · exact True.intro
  · exact True.intro
end
end DL

/-! DL48: {k: v for .. in l}, l empty; len of a dict. -/
namespace DL
open PySem PySem.Spec L2 PyProof.Rows
def mDc0 (mi : SD → ER (List D)) : SD → ER D := fun sd => (mi sd).bind fun ds sd1 => if ds = [] then .ok (.dic false [] []) sd1 else .bad
section
variable {X : Cx} {pv : List V} {W W0 W1 W2 : WX} {p pc pk pe k1 k2 : Bool} {tg iter kx vx : Expr} {ifs : List Expr} {scope : Scope} {pos : Pos}
theorem dx_dc0 {own : List (Str × Nat)} {is : List Nat} {mi : SD → ER (List D)} {g : D → SD → Option SD} {mc : SD → ER Bool} {mk me : SD → ER D} (hc : X.calm = true) (hN : X.N.Nodup) (hi : DI X pv W p tg iter mi) (ok : BlkOk X.N X.env.scope scope own)
    (hg : ∀ (s : Shared) (H : Hp) (C : Addr) (cl : List (Str × Addr)) (fp : List Addr), DG (X.blk s H scope (compEnvC scope cl C X.env) fp) is tg g)
    (ht : ∀ (s : Shared) (H : Hp) (C : Addr) (cl : List (Str × Addr)) (fp : List Addr), DTs (X.blk s H scope (compEnvC scope cl C X.env) fp) pv W0 pc ifs mc)
    (hk : ∀ (s : Shared) (H : Hp) (C : Addr) (cl : List (Str × Addr)) (fp : List Addr), DX (X.blk s H scope (compEnvC scope cl C X.env) fp) pv W0 pk true kx mk)
    (he : ∀ (s : Shared) (H : Hp) (C : Addr) (cl : List (Str × Addr)) (fp : List Addr), DX (X.blk s H scope (compEnvC scope cl C X.env) fp) pv W0 pe true vx me)
    (hs : ∀ x, foldedSetIterable iter X.env x = pure x := by intro _; rfl) :
    DX X pv W false true (.DictComp kx vx [⟨tg, iter, ifs, 0⟩] scope pos) (mDc0 mi) := by
  obtain ⟨wi, a1, a2⟩ := hi
  refine ⟨_, pe_dc (g := canG X.K is g) (tt := canT X.K pv W0 pc mc) (tk := canX X.K pv W0 pk true mk) (tv := canX X.K pv W0 pe true me) hc hN a1 ok (fun s H C cl fp => (hg s H C cl fp).can) (fun s H C cl fp => (ht s H C cl fp).run) (fun s H C cl fp => (hk s H C cl fp).can) (fun s H C cl fp => (he s H C cl fp).can) hs, fun G F sd σ H Q s => ?_⟩
  unfold mDc0
  refine Meets.bindW (a2 G F sd σ H _ s) fun J F1 H1 ds sd1 _ s1 s2 wk => ?_
  split
  · rename_i e
    subst e
    have wk : Walk X.K J F1 [] := wk
    intro hQ D hD
    have sn := s2.sameNew (u := .dK []) hD
    have q := hQ (.ref D) _ _ sn (s2.new hD) (show RSx X.K true G _ sd1 _ σ (.ref D) (.dic false [] []) from Rep.dicK (kvs := []) (.inl upd_same) .nil) (fun z => by cases z)
    exact ⟨fun i m H => i = 0 ∧ m = 0 ∧ H = upd H1 D (.dK []), ⟨0, rfl, rfl, rfl⟩, fun i m H ⟨e1, e2, e3⟩ => by
      subst e1 e2 e3
      exact .inl ⟨wk.stop F1 _ (Same.refl _) (s2.fh.trans (Same.upd hD)), q⟩⟩
  · exact True.intro
end
def rLenA (K : PySem.W.Frag) : List V → Hp → VK → Prop := fun xs H Q => (∃ x n, xs = [x] ∧ LenV K x H n ∧ Q (.int n) H) ∨ (∃ (a : Addr) (kvs : List (Key × V)), xs = [.ref a] ∧ Rd H a (.dK kvs) ∧ Q (.int ((kvs.length : Nat) : Int)) H) ∨ ∃ (a : Addr) (kvs : List (List Key × V)), xs = [.ref a] ∧ Rd H a (.dT kvs) ∧ Q (.int ((kvs.length : Nat) : Int)) H
theorem call_lenA {X : Cx} : CallR X (.builtin "len") (rLenA X.K) := by
  intro pins s σ H xs us Q I r h
  rcases h with h | ⟨a, kvs, rfl, ha, q⟩ | ⟨a, kvs, rfl, ha, q⟩
  · exact call_len pins s σ H xs us Q I r h
  · obtain ⟨u, rfl, ru⟩ := vals1 r
    cases ru
    exact d_len I ha fun t s' I' => ⟨.int kvs.length, H, I', ⟨t, rfl⟩, q⟩
  · obtain ⟨u, rfl, ru⟩ := vals1 r
    obtain rfl : u = .ref a := ru
    obtain ⟨z, hd, ys, rel, dd⟩ := dt_rd I.hok ha
    have hl : ys.length = kvs.length := (Paired.length rel).symm
    refine call_len_dictH hd dd (by rw [sizeLine_eq] at z; omega) ?_
    rw [hl]
    exact ⟨.int ((kvs.length : Nat) : Int), H, I.tok _, ⟨_, rfl⟩, q⟩
def dLenX : List D → Option D
  | [.dic _ ks _] => some (.int ks.length)
  | ds => dLen ds
theorem f_lenX {K : PySem.W.Frag} : CallS K (rLenA K) dLenX := by
  intro H xs ds c r h
  unfold dLenX at h
  split at h
  · obtain ⟨v, rfl, r1⟩ := reps1 r
    cases h
    cases r1 with
    | @dicK a kvs ds rd rr => exact ⟨_, rfl, fun Q q => .inr (.inl ⟨a, kvs, rfl, rd, by rw [List.length_map] at q; exact q⟩)⟩
    | @dicT a kvs ds rd rr => exact ⟨_, rfl, fun Q q => .inr (.inr ⟨a, kvs, rfl, rd, by rw [List.length_map] at q; exact q⟩)⟩
  · obtain ⟨cv, h1, h2⟩ := f_len H xs ds c r h
    exact ⟨cv, h1, fun Q q => .inl (h2 Q q)⟩
end DL

namespace Lw
open PySem PySem.Spec L2 DL
def CsOk (cs : Nat → Addr) : Prop := ∀ i j, i < 30 → j < 30 → cs i = cs j → i = j
/-- which exception is of which class -/
def relC (cs : Nat → Addr) : XRel := relX cs 30 0 [21, 22] [10, 28, 29, 24, 17, 18, 8, 9, 26, 15, 2, 1, 16, 5, 6, 7, 25, 20, 27, 3, 11, 12, 13, 14, 21, 19, 22, 23, 4]
def xT (cs : Nat → Addr) : Addr → Bool := xTest cs 30 [21, 22]
def m__law_tank_1 (cs : Nat → Addr) : SD → Fl := sSet 2 (mOwn (mC (.int 0)))
def m__law_tank_2 (cs : Nat → Addr) : SD → Fl := sSet 2 (mOwn (mOp dIx (mVar 0) (mVar 1)))
def m__law_tank_3 (cs : Nat → Addr) : SD → Fl := sIf (mTest (mOp dLt (mVar 1) (mCall dLen (mCons (mVar 0) (mNil))))) ((m__law_tank_2 cs)) (sNil)
def m__law_tank_4 (cs : Nat → Addr) : SD → Fl := sRet (mLst (mCons (mCall dMax (mCons (mC (.int 0)) (mCons (mOp dSub (mVar 2) (mOp dPow (mC (.int 10)) (mC (.int 18)))) (mNil)))) (mCons (mOp dAdd (mOp dAdd (mOp dMod (mVar 2) (mOp dAdd (mOp dPow (mC (.int 10)) (mC (.int 39))) (mC (.int 37)))) (mOp dMul (mC (.int 70001)) (mVar 1))) (mC (.int 83))) (mCons (mC (.int 0)) (mNil)))))
def m__law_tank (cs : Nat → Addr) : List OT → ER OT := asDef 3 (
    sSeq ((m__law_tank_1 cs))
    (sSeq ((m__law_tank_3 cs))
    ((m__law_tank_4 cs))))
def m__law_dip_1 (cs : Nat → Addr) : SD → Fl := sSet 2 (mOwn (mOp dMod (mAt (qSee 0) (mC (.int 0))) (mVar 1)))
def m__law_dip_2 (cs : Nat → Addr) : SD → Fl := sSetAt 0 (mC (.int 0)) (mOwn (mOp dDiv (mAt (qSee 0) (mC (.int 0))) (mVar 1)))
def m__law_dip_3 (cs : Nat → Addr) : SD → Fl := sRet (mOwn (mVar 2))
def m__law_dip_4 (cs : Nat → Addr) : SD → Fl := sIf (mTest (mOp dGt (mAt (qSee 0) (mC (.int 0))) (mC (.int 0)))) (sSeq ((m__law_dip_1 cs)) (sSeq ((m__law_dip_2 cs)) ((m__law_dip_3 cs)))) (sNil)
def m__law_dip_5 (cs : Nat → Addr) : SD → Fl := sSetAt 0 (mC (.int 2)) (mOwn (mOp dAdd (mAt (qSee 0) (mC (.int 2))) (mC (.int 1))))
def m__law_dip_6 (cs : Nat → Addr) : SD → Fl := sSet 3 (mOwn (mOp dMod (mOp dPow (mOp dAdd (mAt (qSee 0) (mC (.int 1))) (mOp dMul (mC (.int 86028157)) (mAt (qSee 0) (mC (.int 2))))) (mC (.int 3))) (mOp dAdd (mOp dPow (mC (.int 10)) (mC (.int 42))) (mC (.int 63)))))
def m__law_dip_7 (cs : Nat → Addr) : SD → Fl := sSet 3 (mOwn (mOp dMod (mOp dPow (mOp dAdd (mVar 3) (mOp dMul (mC (.int 49979693)) (mAt (qSee 0) (mC (.int 2))))) (mC (.int 3))) (mOp dAdd (mOp dPow (mC (.int 10)) (mC (.int 41))) (mC (.int 37)))))
def m__law_dip_8 (cs : Nat → Addr) : SD → Fl := sRet (mOwn (mOp dMod (mOp dDiv (mVar 3) (mC (.int 655373))) (mVar 1)))
def m__law_dip (cs : Nat → Addr) : List OT → ER OT := asDef 4 (
    sSeq ((m__law_dip_4 cs))
    (sSeq ((m__law_dip_5 cs))
    (sSeq ((m__law_dip_6 cs))
    (sSeq ((m__law_dip_7 cs))
    ((m__law_dip_8 cs))))))
def m__law_some_spans_1 (cs : Nat → Addr) : SD → Fl := sPar3 2 3 4 (mLst (mNil)) (mFz (mCall1 (m__law_dip cs) (rSlot 0 (rFz (mC (.int 6)) (rNil))))) (mOwn (mC (.int 0)))
def m__law_some_spans_2 (cs : Nat → Addr) : SD → Fl := sSet 6 (mLst (mCons (mView (mCall1 (m__law_dip cs) (rSlot 0 (rFz (mC (.int 12)) (rNil))))) (mCons (mVar 4) (mCons (mOp dSub (mView (mCall1 (m__law_dip cs) (rSlot 0 (rFz (mOp dPow (mC (.int 10)) (mC (.int 60))) (rNil))))) (mOp dPow (mC (.int 10)) (mC (.int 59)))) (mCons (mOp dAdd (mVar 4) (mView (mCall1 (m__law_dip cs) (rSlot 0 (rFz (mC (.int 4)) (rNil)))))) (mCons (mOp dSub (mC (.int 0)) (mVar 5)) (mNil)))))))
def m__law_some_spans_3 (cs : Nat → Addr) : SD → Fl := sApp 6 (mOwn (mOp dAdd (mOp dMul (mOp dMul (mOp dPow (mC (.int 10)) (mC (.int 60))) (mOp dPow (mC (.int 10)) (mC (.int 38)))) (mOp dSub (mView (mCall1 (m__law_dip cs) (rSlot 0 (rFz (mC (.int 3)) (rNil))))) (mC (.int 1)))) (mView (mCall1 (m__law_dip cs) (rSlot 0 (rFz (mC (.int 99)) (rNil)))))))
def m__law_some_spans_4 (cs : Nat → Addr) : SD → Fl := sSet 7 (mLst (mCons (mOp dAdd (mC (.int 1)) (mView (mCall1 (m__law_dip cs) (rSlot 0 (rFz (mC (.int 6)) (rNil)))))) (mCons (mOp dAdd (mC (.int 1)) (mView (mCall1 (m__law_dip cs) (rSlot 0 (rFz (mC (.int 3)) (rNil)))))) (mCons (mOp dAdd (mC (.int 1)) (mView (mCall1 (m__law_dip cs) (rSlot 0 (rFz (mOp dPow (mC (.int 10)) (mC (.int 60))) (rNil)))))) (mCons (mC (.int 2)) (mCons (mOp dAdd (mC (.int 1)) (mOp dMul (mC (.int 2)) (mVar 5))) (mNil)))))))
def m__law_some_spans_5 (cs : Nat → Addr) : SD → Fl := sApp 7 (mOwn (mOp dIx (mView (mLst (mCons (mOp dAdd (mC (.int 1)) (mView (mCall1 (m__law_dip cs) (rSlot 0 (rFz (mC (.int 50)) (rNil)))))) (mCons (mOp dMul (mOp dPow (mC (.int 10)) (mC (.int 60))) (mOp dPow (mC (.int 10)) (mC (.int 38)))) (mNil))))) (mView (mCall1 (m__law_dip cs) (rSlot 0 (rFz (mC (.int 2)) (rNil)))))))
def m__law_some_spans_6 (cs : Nat → Addr) : SD → Fl := sApp 2 (mOwn (mTup (mCons (mAt (qSee 6) (mVar 3)) (mCons (mOp dAdd (mAt (qSee 6) (mVar 3)) (mAt (qSee 7) (mVar 3))) (mNil)))))
def m__law_some_spans_7 (cs : Nat → Addr) : SD → Fl := sSet 4 (mOwn (mOp dIx (mAtS 2 (mView (mCall1 (m__law_dip cs) (rSlot 0 (rFz (mCall dLen (mCons (mSee 2) (mNil))) (rNil)))))) (mView (mCall1 (m__law_dip cs) (rSlot 0 (rFz (mC (.int 2)) (rNil)))))))
def m__law_some_spans_b1 (cs : Nat → Addr) : SD → Fl := sSeq ((m__law_some_spans_2 cs)) (sSeq ((m__law_some_spans_3 cs)) (sSeq ((m__law_some_spans_4 cs)) (sSeq ((m__law_some_spans_5 cs)) (sSeq ((m__law_some_spans_6 cs)) ((m__law_some_spans_7 cs))))))
def m__law_some_spans_8 (cs : Nat → Addr) : SD → Fl := sFor (iRange1 (mCons (mView (mCall1 (m__law_dip cs) (rSlot 0 (rFz (mOp dAdd (mVar 1) (mC (.int 1))) (rNil))))) (mNil))) (tgN 5) ((m__law_some_spans_b1 cs))
def m__law_some_spans_9 (cs : Nat → Addr) : SD → Fl := sRet (mTake 2)
def m__law_some_spans (cs : Nat → Addr) : List OT → ER OT := asDef 8 (
    sSeq ((m__law_some_spans_1 cs))
    (sSeq ((m__law_some_spans_8 cs))
    ((m__law_some_spans_9 cs))))
def m__law_no_intervals_1 (cs : Nat → Addr) : SD → Fl := sAsg (mTup (mCons (mView (mCall1 (m__law_dip cs) (rSlot 0 (rFz (mOp dAdd (mCall dLen (mCons (mVar 1) (mNil))) (mC (.int 1))) (rNil))))) (mCons (mView (mLst (mCons (mC .non) (mCons (mC (.int 0)) (mCons (mC (.str "")) (mCons (mTup (mNil)) (mCons (mTup (mCons (mC (.int 1)) (mNil))) (mCons (mTup (mCons (mC (.int 1)) (mCons (mC (.int 2)) (mCons (mC (.int 3)) (mNil))))) (mCons (mView (mLst (mCons (mC (.int 1)) (mCons (mC (.int 2)) (mNil))))) (mCons (mTup (mCons (mC (.int 2)) (mCons (mC (.int 2)) (mNil)))) (mCons (mTup (mCons (mC (.int 3)) (mCons (mC (.int 2)) (mNil)))) (mCons (mDict0) (mNil))))))))))))) (mNil)))) (tgT 2 (tgCons (tgN 2) (tgCons (tgN 3) (tgNil))))
def m__law_no_intervals_2 (cs : Nat → Addr) : SD → Fl := sSet 3 (mFz (mCat (qFz (mVar 3)) (qNew (mLst (mCons (mTup (mCons (mC .non) (mCons (mC (.int 1)) (mNil)))) (mCons (mTup (mCons (mC (.int 0)) (mCons (mC .non) (mNil)))) (mCons (mTup (mCons (mC (.bl true)) (mCons (mC (.int 2)) (mNil)))) (mCons (mTup (mCons (mC (.int 0)) (mCons (mC (.bl true)) (mNil)))) (mCons (mTup (mCons (mC (.bl false)) (mCons (mC (.int 5)) (mNil)))) (mCons (mTup (mCons (mC (.str "0")) (mCons (mC (.int 1)) (mNil)))) (mCons (mTup (mCons (mC (.int 0)) (mCons (mC (.str "1")) (mNil)))) (mCons (mTup (mCons (mView (mLst (mCons (mC (.int 0)) (mNil)))) (mCons (mC (.int 1)) (mNil)))) (mCons (mTup (mCons (mC (.int 0)) (mCons (mTup (mCons (mC (.int 1)) (mNil))) (mNil)))) (mNil))))))))))))))
def m__law_no_intervals_3 (cs : Nat → Addr) : SD → Fl := sSet 3 (mFz (mCat (qFz (mVar 3)) (qNew (mLst (mCons (mTup (mCons (mTup (mCons (mC (.int 0)) (mCons (mC (.int 1)) (mNil)))) (mNil))) (mCons (mC (.bl true)) (mNil)))))))
def m__law_no_intervals_4 (cs : Nat → Addr) : SD → Fl := sSet 3 (mFz (mCat (qFz (mVar 3)) (qNew (mLst (mCons (mTup (mCons (mOp dPow (mC (.int 10)) (mC (.int 60))) (mCons (mOp dPow (mC (.int 10)) (mC (.int 60))) (mNil)))) (mCons (mTup (mCons (mC (.int 0)) (mCons (mOp dSub (mC (.int 0)) (mOp dPow (mC (.int 10)) (mC (.int 60)))) (mNil)))) (mCons (mTup (mCons (mView (mCall1 (m__law_dip cs) (rSlot 0 (rFz (mC (.int 99)) (rNil))))) (mCons (mOp dSub (mUn dNeg (mC (.int 1))) (mView (mCall1 (m__law_dip cs) (rSlot 0 (rFz (mC (.int 99)) (rNil)))))) (mNil)))) (mNil))))))))
def m__law_no_intervals_c1 (cs : Nat → Addr) : SD → ER OT := mComp (iLst (mVar 3)) (tgN 5) (mYes) (mView (mCat (qNew (mCat (qNew (mCut (qFz (mVar 1)) (oNone) (oSome (mVar 2)))) (qNew (mLst (mCons (mVar 5) (mNil)))))) (qNew (mCut (qNew (mCut (qFz (mVar 1)) (oSome (mVar 2)) (oNone))) (oNone) (oSome (mC (.int 399))))))) [5]
def m__law_no_intervals_5 (cs : Nat → Addr) : SD → Fl := sSet 4 (mFz ((m__law_no_intervals_c1 cs)))
def m__law_no_intervals_c2 (cs : Nat → Addr) : SD → ER OT := mComp (iLst (mVar 3)) (tgN 5) (mYes) (mView (mCat (qNew (mCat (qNew (mCut (qFz (mVar 1)) (oNone) (oSome (mVar 2)))) (qNew (mLst (mCons (mVar 5) (mNil)))))) (qNew (mCut (qFz (mVar 1)) (oSome (mOp dAdd (mVar 2) (mC (.int 1)))) (oNone))))) [5]
def m__law_no_intervals_6 (cs : Nat → Addr) : SD → Fl := sSet 4 (mFz (mCat (qFz (mVar 4)) (qNew ((m__law_no_intervals_c2 cs)))))
def m__law_no_intervals_7 (cs : Nat → Addr) : SD → Fl := sRet (mCat (qFz (mVar 4)) (qNew (mLst (mCons (mC .non) (mCons (mC (.int 0)) (mCons (mC (.str "")) (mCons (mTup (mNil)) (mCons (mDict0) (mCons (mC (.bl true)) (mCons (mCallT dTupOf (mCons (mVar 1) (mNil))) (mCons (mView (mLst (mCons (mVar 1) (mNil)))) (mCons (mTup (mCons (mTup (mCons (mC (.int 0)) (mCons (mC (.int 1)) (mNil)))) (mNil))) (mCons (mC (.str "01")) (mCons (mTup (mCons (mC (.int 0)) (mCons (mC (.int 1)) (mNil)))) (mCons (mDict1 0 1) (mNil))))))))))))))))
def m__law_no_intervals (cs : Nat → Addr) : List OT → ER OT := asDef 6 (
    sSeq ((m__law_no_intervals_1 cs))
    (sSeq ((m__law_no_intervals_2 cs))
    (sSeq ((m__law_no_intervals_3 cs))
    (sSeq ((m__law_no_intervals_4 cs))
    (sSeq ((m__law_no_intervals_5 cs))
    (sSeq ((m__law_no_intervals_6 cs))
    ((m__law_no_intervals_7 cs))))))))
def m__law_class_1 (cs : Nat → Addr) : SD → Fl := sSet 1 (mFz (mLst (mCons (mCall (dIsE (relC cs)) (mCons (mVar 0) (mCons (mC (.cls (cs 5))) (mNil)))) (mCons (mCall (dIsE (relC cs)) (mCons (mVar 0) (mCons (mC (.cls (cs 6))) (mNil)))) (mCons (mCall (dIsE (relC cs)) (mCons (mVar 0) (mCons (mC (.cls (cs 7))) (mNil)))) (mNil))))))
def m__law_class_2 (cs : Nat → Addr) : SD → Fl := sSet 1 (mFz (mCat (qFz (mVar 1)) (qNew (mLst (mCons (mCall (dIsE (relC cs)) (mCons (mVar 0) (mCons (mC (.cls (cs 11))) (mNil)))) (mCons (mCall (dIsE (relC cs)) (mCons (mVar 0) (mCons (mC (.cls (cs 12))) (mNil)))) (mCons (mCall (dIsE (relC cs)) (mCons (mVar 0) (mCons (mC (.cls (cs 13))) (mNil)))) (mNil))))))))
def m__law_class_3 (cs : Nat → Addr) : SD → Fl := sSet 1 (mFz (mCat (qFz (mVar 1)) (qNew (mLst (mCons (mCall (dIsE (relC cs)) (mCons (mVar 0) (mCons (mC (.cls (cs 14))) (mNil)))) (mCons (mCall (dIsE (relC cs)) (mCons (mVar 0) (mCons (mC (.cls (cs 21))) (mNil)))) (mCons (mCall (dIsE (relC cs)) (mCons (mVar 0) (mCons (mC (.cls (cs 19))) (mNil)))) (mNil))))))))
def m__law_class_4 (cs : Nat → Addr) : SD → Fl := sSet 1 (mFz (mCat (qFz (mVar 1)) (qNew (mLst (mCons (mCall (dIsE (relC cs)) (mCons (mVar 0) (mCons (mC (.cls (cs 22))) (mNil)))) (mCons (mCall (dIsE (relC cs)) (mCons (mVar 0) (mCons (mC (.cls (cs 23))) (mNil)))) (mCons (mCall (dIsE (relC cs)) (mCons (mVar 0) (mCons (mC (.cls (cs 4))) (mNil)))) (mNil))))))))
def m__law_class_5 (cs : Nat → Addr) : SD → Fl := sRet (mOwn (mC (.str "odd")))
def m__law_class_6 (cs : Nat → Addr) : SD → Fl := sIf (mTest (mCall (dIsE (relC cs)) (mCons (mVar 0) (mCons (mTup (mCons (mC (.cls (cs 10))) (mCons (mC (.cls (cs 28))) (mCons (mC (.cls (cs 29))) (mCons (mC (.cls (cs 24))) (mCons (mC (.cls (cs 17))) (mCons (mC (.cls (cs 18))) (mCons (mC (.cls (cs 8))) (mNil))))))))) (mNil))))) ((m__law_class_5 cs)) (sNil)
def m__law_class_7 (cs : Nat → Addr) : SD → Fl := sRet (mOwn (mC (.str "odd")))
def m__law_class_8 (cs : Nat → Addr) : SD → Fl := sIf (mTest (mCall (dIsE (relC cs)) (mCons (mVar 0) (mCons (mTup (mCons (mC (.cls (cs 9))) (mCons (mC (.cls (cs 26))) (mCons (mC (.cls (cs 15))) (mCons (mC (.cls (cs 2))) (mCons (mC (.cls (cs 1))) (mCons (mC (.cls (cs 16))) (mNil)))))))) (mNil))))) ((m__law_class_7 cs)) (sNil)
def m__law_class_9 (cs : Nat → Addr) : SD → Fl := sRet (mOwn (mC (.str "odd")))
def m__law_class_10 (cs : Nat → Addr) : SD → Fl := sIf (mOr (mTest (mCall (dIsE (relC cs)) (mCons (mVar 0) (mCons (mTup (mCons (mC (.cls (cs 25))) (mCons (mC (.cls (cs 20))) (mCons (mC (.cls (cs 27))) (mCons (mC (.cls (cs 3))) (mNil)))))) (mNil))))) (mNot (mTest (mCall (dIsE (relC cs)) (mCons (mVar 0) (mCons (mC (.ty "ValueError")) (mNil))))))) ((m__law_class_9 cs)) (sNil)
def m__law_class_11 (cs : Nat → Addr) : SD → Fl := sSet 2 (mLst (mCons (mC (.str "program")) (mCons (mC (.str "times")) (mCons (mC (.str "index")) (mCons (mC (.str "motion")) (mCons (mC (.str "pose")) (mCons (mC (.str "point")) (mCons (mC (.str "edge")) (mCons (mC (.str "intervals")) (mCons (mC (.str "even")) (mCons (mC (.str "place")) (mCons (mC (.str "drift")) (mNil)))))))))))))
def m__law_class_12 (cs : Nat → Addr) : SD → Fl := sApp 2 (mOwn (mIf (mTest (mOp dIx (mVar 1) (mC (.int 11)))) (mOp dAdd (mC (.str "large ")) (mBadX)) (mC (.str "large"))))
def m__law_class_13 (cs : Nat → Addr) : SD → Fl := sRet (mOwn (mIf (mTest (mOp dEq (mBm D.isL dCountD (mVar 1) (mCons (mC (.bl true)) (mNil))) (mC (.int 1)))) (mAt (qSee 2) (mBm D.isL dIndexD (mVar 1) (mCons (mC (.bl true)) (mNil)))) (mC (.str "odd"))))
def m__law_class (cs : Nat → Addr) : List OT → ER OT := asDef 3 (
    sSeq ((m__law_class_1 cs))
    (sSeq ((m__law_class_2 cs))
    (sSeq ((m__law_class_3 cs))
    (sSeq ((m__law_class_4 cs))
    (sSeq ((m__law_class_6 cs))
    (sSeq ((m__law_class_8 cs))
    (sSeq ((m__law_class_10 cs))
    (sSeq ((m__law_class_11 cs))
    (sSeq ((m__law_class_12 cs))
    ((m__law_class_13 cs)))))))))))
def m_is_int_1 (cs : Nat → Addr) : SD → Fl := sRet (mOwn (mAndV (mCall dIsi (mCons (mVar 0) (mCons (mC (.ty "int")) (mNil)))) (mNotV (mCall dIsi (mCons (mVar 0) (mCons (mC (.ty "bool")) (mNil)))))))
def m_is_int (cs : Nat → Addr) : List OT → ER OT := asDef 1 (
    (m_is_int_1 cs))
def m_is_interval_1 (cs : Nat → Addr) : SD → Fl := sRet (mOwn (mC (.bl false)))
def m_is_interval_2 (cs : Nat → Addr) : SD → Fl := sIf (mOr (mNot (mTest (mCall dIsi (mCons (mVar 0) (mCons (mC (.ty "tuple")) (mNil)))))) (mTest (mOp dNe (mCall dLen (mCons (mVar 0) (mNil))) (mC (.int 2))))) ((m_is_interval_1 cs)) (sNil)
def m_is_interval_3 (cs : Nat → Addr) : SD → Fl := sRet (mOwn (mAndV (mView (mCall0 (m_is_int cs) (mCons (mOp dIx (mVar 0) (mC (.int 0))) (mNil)))) (mAndV (mView (mCall0 (m_is_int cs) (mCons (mOp dIx (mVar 0) (mC (.int 1))) (mNil)))) (mOp dLt (mOp dIx (mVar 0) (mC (.int 0))) (mOp dIx (mVar 0) (mC (.int 1)))))))
def m_is_interval (cs : Nat → Addr) : List OT → ER OT := asDef 1 (
    sSeq ((m_is_interval_2 cs))
    ((m_is_interval_3 cs)))
def m_require_intervals_c1 (cs : Nat → Addr) : SD → ER OT := mComp (iLst (mVar 0)) (tgN 1) (mYes) (mView (mCall0 (m_is_interval cs) (mCons (mVar 1) (mNil)))) [1]
def m_require_intervals_1 (cs : Nat → Addr) : SD → Fl := sRaise (cs 21)
def m_require_intervals_2 (cs : Nat → Addr) : SD → Fl := sIf (mOr (mNot (mTest (mCall dIsi (mCons (mVar 0) (mCons (mC (.ty "list")) (mNil)))))) (mNot (mTest (mCall dAll (mCons (mView ((m_require_intervals_c1 cs))) (mNil)))))) ((m_require_intervals_1 cs)) (sNil)
def m_require_intervals (cs : Nat → Addr) : List OT → ER OT := asDef 2 (
    (m_require_intervals_2 cs))
def m_covered_in_1 (cs : Nat → Addr) : SD → Fl := sAsg (mTup (mCons (mC (.int 0)) (mCons (mC .non) (mNil)))) (tgT 2 (tgCons (tgN 1) (tgCons (tgN 2) (tgNil))))
def m_covered_in_2 (cs : Nat → Addr) : SD → Fl := sSet 2 (mOwn (mVar 3))
def m_covered_in_3 (cs : Nat → Addr) : SD → Fl := sIf (mOr (mTest (mOp dIsN (mVar 2) (mC .non))) (mTest (mOp dGt (mVar 3) (mVar 2)))) ((m_covered_in_2 cs)) (sNil)
def m_covered_in_4 (cs : Nat → Addr) : SD → Fl := sAug 1 dAdd (mCall dMax (mCons (mC (.int 0)) (mCons (mOp dSub (mVar 4) (mVar 2)) (mNil))))
def m_covered_in_5 (cs : Nat → Addr) : SD → Fl := sSet 2 (mOwn (mCall dMax (mCons (mVar 2) (mCons (mVar 4) (mNil)))))
def m_covered_in_b1 (cs : Nat → Addr) : SD → Fl := sSeq ((m_covered_in_3 cs)) (sSeq ((m_covered_in_4 cs)) ((m_covered_in_5 cs)))
def m_covered_in_6 (cs : Nat → Addr) : SD → Fl := sFor (iLst (mView (mCallL dSortT (mCons (mVar 0) (mNil))))) (tgT 2 (tgCons (tgN 3) (tgCons (tgN 4) (tgNil)))) ((m_covered_in_b1 cs))
def m_covered_in_7 (cs : Nat → Addr) : SD → Fl := sRet (mOwn (mVar 1))
def m_covered_in (cs : Nat → Addr) : List OT → ER OT := asDef 5 (
    sSeq ((m_covered_in_1 cs))
    (sSeq ((m_covered_in_6 cs))
    ((m_covered_in_7 cs))))
def m_covered_1 (cs : Nat → Addr) : SD → Fl := sDrop (mView (mCall0 (m_require_intervals cs) (mCons (mVar 0) (mNil))))
def m_covered_2 (cs : Nat → Addr) : SD → Fl := sRet (mCall0 (m_covered_in cs) (mCons (mVar 0) (mNil)))
def m_covered (cs : Nat → Addr) : List OT → ER OT := asDef 1 (
    sSeq ((m_covered_1 cs))
    ((m_covered_2 cs)))
def m_odd_stretches_c1 (cs : Nat → Addr) : SD → ER OT := mComp2 (iLst (mVar 0)) (tgN 2) (mYes) (iTuP (mVar 2)) (tgN 3) (mYes) (mVar 3) [2, 3] [3]
def m_odd_stretches_1 (cs : Nat → Addr) : SD → Fl := sSet 1 (mFz (mCallL dSortT (mCons (mView ((m_odd_stretches_c1 cs))) (mNil))))
def m_odd_stretches_c2 (cs : Nat → Addr) : SD → ER OT := mComp (iZip2 (mCons (mView (mPick (qFz (mVar 1)) (oNone) (oNone) (oSome (mC (.int 2))))) (mCons (mView (mPick (qFz (mVar 1)) (oSome (mC (.int 1))) (oNone) (oSome (mC (.int 2))))) (mNil)))) (tgT 2 (tgCons (tgN 4) (tgCons (tgN 5) (tgNil)))) (mTest (mOp dLt (mVar 4) (mVar 5))) (mTup (mCons (mVar 4) (mCons (mVar 5) (mNil)))) [4, 5]
def m_odd_stretches_2 (cs : Nat → Addr) : SD → Fl := sRet ((m_odd_stretches_c2 cs))
def m_odd_stretches (cs : Nat → Addr) : List OT → ER OT := asDef 6 (
    sSeq ((m_odd_stretches_1 cs))
    ((m_odd_stretches_2 cs)))
def m_odd_in_spans_c1 (cs : Nat → Addr) : SD → ER OT := mComp (iLst (mView (mCall0 (m_odd_stretches cs) (mCons (mVar 0) (mNil))))) (tgT 2 (tgCons (tgN 1) (tgCons (tgN 2) (tgNil)))) (mYes) (mOp dSub (mVar 2) (mVar 1)) [1, 2]
def m_odd_in_spans_1 (cs : Nat → Addr) : SD → Fl := sRet (mOwn (mCall dSum (mCons (mView ((m_odd_in_spans_c1 cs))) (mNil))))
def m_odd_in_spans (cs : Nat → Addr) : List OT → ER OT := asDef 3 (
    (m_odd_in_spans_1 cs))
def m_odd_covered_1 (cs : Nat → Addr) : SD → Fl := sDrop (mView (mCall0 (m_require_intervals cs) (mCons (mVar 0) (mNil))))
def m_odd_covered_2 (cs : Nat → Addr) : SD → Fl := sRet (mCall0 (m_odd_in_spans cs) (mCons (mVar 0) (mNil)))
def m_odd_covered (cs : Nat → Addr) : List OT → ER OT := asDef 1 (
    sSeq ((m_odd_covered_1 cs))
    ((m_odd_covered_2 cs)))
def m_depth_in_c1 (cs : Nat → Addr) : SD → ER OT := mComp (iLst (mVar 0)) (tgT 2 (tgCons (tgN 2) (tgCons (tgN 3) (tgNil)))) (mTest (mChain dLe dLt (mVar 2) (mVar 1) (mVar 3))) (mVar 2) [2, 3]
def m_depth_in_1 (cs : Nat → Addr) : SD → Fl := sRet (mOwn (mCall dLen (mCons (mView ((m_depth_in_c1 cs))) (mNil))))
def m_depth_in (cs : Nat → Addr) : List OT → ER OT := asDef 4 (
    (m_depth_in_1 cs))
def m_depth_at_1 (cs : Nat → Addr) : SD → Fl := sDrop (mView (mCall0 (m_require_intervals cs) (mCons (mVar 0) (mNil))))
def m_depth_at_2 (cs : Nat → Addr) : SD → Fl := sRaise (cs 22)
def m_depth_at_3 (cs : Nat → Addr) : SD → Fl := sIf (mNot (mTest (mView (mCall0 (m_is_int cs) (mCons (mVar 1) (mNil)))))) ((m_depth_at_2 cs)) (sNil)
def m_depth_at_4 (cs : Nat → Addr) : SD → Fl := sRet (mCall0 (m_depth_in cs) (mCons (mVar 0) (mCons (mVar 1) (mNil))))
def m_depth_at (cs : Nat → Addr) : List OT → ER OT := asDef 2 (
    sSeq ((m_depth_at_1 cs))
    (sSeq ((m_depth_at_3 cs))
    ((m_depth_at_4 cs))))
def m__law_told_1 (cs : Nat → Addr) : SD → Fl := sPar 3 4 (mOwn (mCall dReprD (mCons (mView (mLst (mCons (mVar 1) (mCons (mVar 2) (mNil))))) (mNil)))) (mOwn (mC .non))
def m__law_told_2 (cs : Nat → Addr) : SD → Fl := sDrop (mView (mCall0 (m_covered cs) (mCons (mVar 1) (mNil))))
def m__law_told_3 (cs : Nat → Addr) : SD → Fl := sDrop (mView (mCall0 (m_odd_covered cs) (mCons (mVar 1) (mNil))))
def m__law_told_4 (cs : Nat → Addr) : SD → Fl := sDrop (mView (mCall0 (m_depth_at cs) (mCons (mVar 1) (mCons (mVar 2) (mNil)))))
def m__law_told_5 (cs : Nat → Addr) : SD → Fl := sIf (mTest (mOp dEq (mVar 0) (mC (.int 1)))) ((m__law_told_3 cs)) ((m__law_told_4 cs))
def m__law_told_6 (cs : Nat → Addr) : SD → Fl := sIf (mTest (mOp dEq (mVar 0) (mC (.int 0)))) ((m__law_told_2 cs)) ((m__law_told_5 cs))
def m__law_told_t1 (cs : Nat → Addr) : SD → Fl := (m__law_told_6 cs)
def m__law_told_7 (cs : Nat → Addr) : SD → Fl := sSet 4 (mOwn (mVar 5))
def m__law_told_x1 (cs : Nat → Addr) : SD → Fl := (m__law_told_7 cs)
def m__law_told_8 (cs : Nat → Addr) : SD → Fl := sTry (xT cs) 5 ((m__law_told_t1 cs)) ((m__law_told_x1 cs))
def m__law_told_9 (cs : Nat → Addr) : SD → Fl := sRet (mOwn (mC (.str "changed")))
def m__law_told_10 (cs : Nat → Addr) : SD → Fl := sIf (mTest (mOp dNe (mCall dReprD (mCons (mView (mLst (mCons (mVar 1) (mCons (mVar 2) (mNil))))) (mNil))) (mVar 3))) ((m__law_told_9 cs)) (sNil)
def m__law_told_11 (cs : Nat → Addr) : SD → Fl := sRet (mOwn (mIf (mTest (mOp dIsN (mVar 4) (mC .non))) (mC (.str "fine")) (mView (mCall0 (m__law_class cs) (mCons (mVar 4) (mNil))))))
def m__law_told (cs : Nat → Addr) : List OT → ER OT := asDef 6 (
    sSeq ((m__law_told_1 cs))
    (sSeq ((m__law_told_8 cs))
    (sSeq ((m__law_told_10 cs))
    ((m__law_told_11 cs)))))
def m_law_1 (cs : Nat → Addr) : SD → Fl := sSet 2 (mCall0 (m__law_tank cs) (mCons (mVar 0) (mCons (mVar 1) (mNil))))
def m_law_2 (cs : Nat → Addr) : SD → Fl := sSet 3 (mFz (mCall1 (m__law_some_spans cs) (rSlot 2 (rFz (mC (.int 30)) (rNil)))))
def m_law_3 (cs : Nat → Addr) : SD → Fl := sSet 5 (mFz (mLst (mCons (mView (mCall0 (m__law_told cs) (mCons (mC (.int 0)) (mCons (mVar 4) (mCons (mC .non) (mNil)))))) (mCons (mView (mCall0 (m__law_told cs) (mCons (mC (.int 1)) (mCons (mVar 4) (mCons (mC .non) (mNil)))))) (mCons (mView (mCall0 (m__law_told cs) (mCons (mC (.int 2)) (mCons (mVar 4) (mCons (mC (.int 0)) (mNil)))))) (mCons (mView (mCall0 (m__law_told cs) (mCons (mC (.int 2)) (mCons (mVar 4) (mCons (mC .non) (mNil)))))) (mNil)))))))
def m_law_4 (cs : Nat → Addr) : SD → Fl := sRet (mOwn (mC (.bl false)))
def m_law_5 (cs : Nat → Addr) : SD → Fl := sIf (mTest (mOp dNe (mVar 5) (mView (mRepC (mLst (mCons (mC (.str "intervals")) (mNil))) 4)))) ((m_law_4 cs)) (sNil)
def m_law_b1 (cs : Nat → Addr) : SD → Fl := sSeq ((m_law_3 cs)) ((m_law_5 cs))
def m_law_6 (cs : Nat → Addr) : SD → Fl := sFor (iLst (mView (mCall1 (m__law_no_intervals cs) (rSlot 2 (rFz (mVar 3) (rNil)))))) (tgN 4) ((m_law_b1 cs))
def m_law_7 (cs : Nat → Addr) : SD → Fl := sRet (mOwn (mC (.bl false)))
def m_law_8 (cs : Nat → Addr) : SD → Fl := sIf (mTest (mOp dNe (mView (mLst (mCons (mView (mCall0 (m__law_told cs) (mCons (mC (.int 2)) (mCons (mVar 3) (mCons (mVar 4) (mNil)))))) (mCons (mView (mCall0 (m__law_told cs) (mCons (mC (.int 2)) (mCons (mView (mLst (mNil))) (mCons (mVar 4) (mNil)))))) (mNil))))) (mView (mRepC (mLst (mCons (mC (.str "place")) (mNil))) 2)))) ((m_law_7 cs)) (sNil)
def m_law_b2 (cs : Nat → Addr) : SD → Fl := (m_law_8 cs)
def m_law_9 (cs : Nat → Addr) : SD → Fl := sFor (iLst (mView (mLst (mCons (mC .non) (mCons (mC (.bl true)) (mCons (mC (.bl false)) (mCons (mC (.str "0")) (mCons (mC (.str "")) (mCons (mTup (mCons (mC (.int 0)) (mNil))) (mCons (mView (mLst (mCons (mC (.int 0)) (mNil)))) (mCons (mView (mLst (mNil))) (mCons (mDict0) (mCons (mTup (mCons (mC (.int 0)) (mCons (mC (.int 1)) (mNil)))) (mNil)))))))))))))) (tgN 4) ((m_law_b2 cs))
def m_law_c1 (cs : Nat → Addr) : SD → ER OT := mComp (iRange1 (mCons (mC (.int 3)) (mNil))) (tgN 6) (mYes) (mView (mCall0 (m__law_told cs) (mCons (mVar 6) (mCons (mVar 3) (mCons (mC (.int 0)) (mNil)))))) [6]
def m_law_c2 (cs : Nat → Addr) : SD → ER OT := mComp (iRange1 (mCons (mC (.int 3)) (mNil))) (tgN 6) (mYes) (mView (mCall0 (m__law_told cs) (mCons (mVar 6) (mCons (mView (mLst (mNil))) (mCons (mOp dPow (mC (.int 10)) (mC (.int 60))) (mNil)))))) [6]
def m_law_10 (cs : Nat → Addr) : SD → Fl := sSet 5 (mFz (mCat (qNew ((m_law_c1 cs))) (qNew ((m_law_c2 cs)))))
def m_law_11 (cs : Nat → Addr) : SD → Fl := sRet (mOwn (mC (.bl false)))
def m_law_12 (cs : Nat → Addr) : SD → Fl := sIf (mTest (mOp dNe (mView (mCat (qFz (mVar 5)) (qNew (mLst (mCons (mView (mCall0 (m__law_told cs) (mCons (mC (.int 2)) (mCons (mVar 3) (mCons (mOp dSub (mC (.int 0)) (mOp dPow (mC (.int 10)) (mC (.int 60)))) (mNil)))))) (mNil)))))) (mView (mRepC (mLst (mCons (mC (.str "fine")) (mNil))) 7)))) ((m_law_11 cs)) (sNil)
def m_law_b3 (cs : Nat → Addr) : SD → Fl := sSeq ((m_law_1 cs)) (sSeq ((m_law_2 cs)) (sSeq ((m_law_6 cs)) (sSeq ((m_law_9 cs)) (sSeq ((m_law_10 cs)) ((m_law_12 cs))))))
def m_law_13 (cs : Nat → Addr) : SD → Fl := sFor (iRange1 (mCons (mCall dMax (mCons (mC (.int 1)) (mCons (mCall dMin (mCons (mC (.int 6)) (mCons (mCall dLen (mCons (mVar 0) (mNil))) (mNil)))) (mNil)))) (mNil))) (tgN 1) ((m_law_b3 cs))
def m_law_14 (cs : Nat → Addr) : SD → Fl := sRet (mOwn (mC (.bl true)))
def m_law (cs : Nat → Addr) : List OT → ER OT := asDef 7 (
    sSeq ((m_law_13 cs))
    ((m_law_14 cs)))
def top (i : Nat) : Stmt := PySem.Challenge.pw_plotpens_k22_interval_errors.main.body.getD i (.Pass ⟨0, 0, 0, 0⟩)
abbrev s__law_tank : Stmt := top 44
abbrev sc__law_tank_N : List Str := ["script", "k", "cell"]
theorem sc__law_tank : FnScope ["script", "k", "cell"] ["script", "k"] (defScope s__law_tank) := ⟨rfl, rfl, rfl, by decide +kernel, rfl, by decide +kernel, by decide +kernel⟩
abbrev s__law_dip : Stmt := top 45
abbrev sc__law_dip_N : List Str := ["tank", "bound", "found", "mixed"]
theorem sc__law_dip : FnScope ["tank", "bound", "found", "mixed"] ["tank", "bound"] (defScope s__law_dip) := ⟨rfl, rfl, rfl, by decide +kernel, rfl, by decide +kernel, by decide +kernel⟩
abbrev s__law_some_spans : Stmt := top 46
abbrev sc__law_some_spans_N : List Str := ["tank", "most", "found", "way", "last", "turn", "low", "size_here"]
theorem sc__law_some_spans : FnScope ["tank", "most", "found", "way", "last", "turn", "low", "size_here"] ["tank", "most"] (defScope s__law_some_spans) := ⟨rfl, rfl, rfl, by decide +kernel, rfl, by decide +kernel, by decide +kernel⟩
abbrev s__law_no_intervals : Stmt := top 49
abbrev sc__law_no_intervals_N : List Str := ["tank", "good", "spot", "odds", "found", "odd"]
theorem sc__law_no_intervals : FnScope ["tank", "good", "spot", "odds", "found", "odd"] ["tank", "good"] (defScope s__law_no_intervals) := ⟨rfl, rfl, rfl, by decide +kernel, rfl, by decide +kernel, by decide +kernel⟩
abbrev s__law_class : Stmt := top 47
abbrev sc__law_class_N : List Str := ["caught", "some", "names"]
theorem sc__law_class : FnScope ["caught", "some", "names"] ["caught"] (defScope s__law_class) := ⟨rfl, rfl, rfl, by decide +kernel, rfl, by decide +kernel, by decide +kernel⟩
abbrev s_is_int : Stmt := top 32
abbrev sc_is_int_N : List Str := ["value"]
theorem sc_is_int : FnScope ["value"] ["value"] (defScope s_is_int) := ⟨rfl, rfl, rfl, by decide +kernel, rfl, by decide +kernel, by decide +kernel⟩
abbrev s_is_interval : Stmt := top 34
abbrev sc_is_interval_N : List Str := ["value"]
theorem sc_is_interval : FnScope ["value"] ["value"] (defScope s_is_interval) := ⟨rfl, rfl, rfl, by decide +kernel, rfl, by decide +kernel, by decide +kernel⟩
abbrev s_require_intervals : Stmt := top 35
abbrev sc_require_intervals_N : List Str := ["value", "interval"]
theorem sc_require_intervals : FnScope ["value", "interval"] ["value"] (defScope s_require_intervals) := ⟨rfl, rfl, rfl, by decide +kernel, rfl, by decide +kernel, by decide +kernel⟩
abbrev s_covered_in : Stmt := top 36
abbrev sc_covered_in_N : List Str := ["intervals", "found", "reached", "start", "end"]
theorem sc_covered_in : FnScope ["intervals", "found", "reached", "start", "end"] ["intervals"] (defScope s_covered_in) := ⟨rfl, rfl, rfl, by decide +kernel, rfl, by decide +kernel, by decide +kernel⟩
abbrev s_covered : Stmt := top 40
abbrev sc_covered_N : List Str := ["intervals"]
theorem sc_covered : FnScope ["intervals"] ["intervals"] (defScope s_covered) := ⟨rfl, rfl, rfl, by decide +kernel, rfl, by decide +kernel, by decide +kernel⟩
abbrev s_odd_stretches : Stmt := top 37
abbrev sc_odd_stretches_N : List Str := ["intervals", "ends", "interval", "place", "low", "high"]
theorem sc_odd_stretches : FnScope ["intervals", "ends", "interval", "place", "low", "high"] ["intervals"] (defScope s_odd_stretches) := ⟨rfl, rfl, rfl, by decide +kernel, rfl, by decide +kernel, by decide +kernel⟩
abbrev s_odd_in_spans : Stmt := top 38
abbrev sc_odd_in_spans_N : List Str := ["intervals", "low", "high"]
theorem sc_odd_in_spans : FnScope ["intervals", "low", "high"] ["intervals"] (defScope s_odd_in_spans) := ⟨rfl, rfl, rfl, by decide +kernel, rfl, by decide +kernel, by decide +kernel⟩
abbrev s_odd_covered : Stmt := top 41
abbrev sc_odd_covered_N : List Str := ["intervals"]
theorem sc_odd_covered : FnScope ["intervals"] ["intervals"] (defScope s_odd_covered) := ⟨rfl, rfl, rfl, by decide +kernel, rfl, by decide +kernel, by decide +kernel⟩
abbrev s_depth_in : Stmt := top 39
abbrev sc_depth_in_N : List Str := ["intervals", "place", "start", "end"]
theorem sc_depth_in : FnScope ["intervals", "place", "start", "end"] ["intervals", "place"] (defScope s_depth_in) := ⟨rfl, rfl, rfl, by decide +kernel, rfl, by decide +kernel, by decide +kernel⟩
abbrev s_depth_at : Stmt := top 42
abbrev sc_depth_at_N : List Str := ["intervals", "place"]
theorem sc_depth_at : FnScope ["intervals", "place"] ["intervals", "place"] (defScope s_depth_at) := ⟨rfl, rfl, rfl, by decide +kernel, rfl, by decide +kernel, by decide +kernel⟩
abbrev s__law_told : Stmt := top 48
abbrev sc__law_told_N : List Str := ["door", "value", "place", "kept", "caught", "e"]
theorem sc__law_told : FnScope ["door", "value", "place", "kept", "caught", "e"] ["door", "value", "place"] (defScope s__law_told) := ⟨rfl, rfl, rfl, by decide +kernel, rfl, by decide +kernel, by decide +kernel⟩
abbrev s_law : Stmt := top 50
abbrev sc_law_N : List Str := ["script", "k", "tank", "good", "bad", "told", "door"]
theorem sc_law : FnScope ["script", "k", "tank", "good", "bad", "told", "door"] ["script"] (defScope s_law) := ⟨rfl, rfl, rfl, by decide +kernel, rfl, by decide +kernel, by decide +kernel⟩
/-- what the top has written -/
structure Tx (K : PySem.W.Frag) (mg : Str → Option Value) (ad : Nat → Addr) (fs : Nat → FuncData) (cs : Nat → Addr) : Prop where
  f__law_tank : Fd K mg "_law_tank" s__law_tank (ad 0) (fs 0) ["script", "k"]
  f__law_dip : Fd K mg "_law_dip" s__law_dip (ad 1) (fs 1) ["tank", "bound"]
  f__law_some_spans : Fd K mg "_law_some_spans" s__law_some_spans (ad 2) (fs 2) ["tank", "most"]
  f__law_no_intervals : Fd K mg "_law_no_intervals" s__law_no_intervals (ad 3) (fs 3) ["tank", "good"]
  f__law_class : Fd K mg "_law_class" s__law_class (ad 4) (fs 4) ["caught"]
  f_is_int : Fd K mg "is_int" s_is_int (ad 5) (fs 5) ["value"]
  f_is_interval : Fd K mg "is_interval" s_is_interval (ad 6) (fs 6) ["value"]
  f_require_intervals : Fd K mg "require_intervals" s_require_intervals (ad 7) (fs 7) ["value"]
  f_covered_in : Fd K mg "covered_in" s_covered_in (ad 8) (fs 8) ["intervals"]
  f_covered : Fd K mg "covered" s_covered (ad 9) (fs 9) ["intervals"]
  f_odd_stretches : Fd K mg "odd_stretches" s_odd_stretches (ad 10) (fs 10) ["intervals"]
  f_odd_in_spans : Fd K mg "odd_in_spans" s_odd_in_spans (ad 11) (fs 11) ["intervals"]
  f_odd_covered : Fd K mg "odd_covered" s_odd_covered (ad 12) (fs 12) ["intervals"]
  f_depth_in : Fd K mg "depth_in" s_depth_in (ad 13) (fs 13) ["intervals", "place"]
  f_depth_at : Fd K mg "depth_at" s_depth_at (ad 14) (fs 14) ["intervals", "place"]
  f__law_told : Fd K mg "_law_told" s__law_told (ad 15) (fs 15) ["door", "value", "place"]
  f_law : Fd K mg "law" s_law (ad 16) (fs 16) ["script"]
  z_ValueError : mg "ValueError" = none
  z_all : mg "all" = none
  z_bool : mg "bool" = none
  z_int : mg "int" = none
  z_isinstance : mg "isinstance" = none
  z_len : mg "len" = none
  z_list : mg "list" = none
  z_max : mg "max" = none
  z_min : mg "min" = none
  z_range : mg "range" = none
  z_repr : mg "repr" = none
  z_sorted : mg "sorted" = none
  z_sum : mg "sum" = none
  z_tuple : mg "tuple" = none
  z_zip : mg "zip" = none
  sm : SmOk K
  g_PlotError : mg "PlotError" = some (.ref (cs 0))
  g_InvalidText : mg "InvalidText" = some (.ref (cs 1))
  g_InvalidSource : mg "InvalidSource" = some (.ref (cs 2))
  g_TooDeep : mg "TooDeep" = some (.ref (cs 3))
  g_TooLarge : mg "TooLarge" = some (.ref (cs 4))
  g_InvalidProgram : mg "InvalidProgram" = some (.ref (cs 5))
  g_InvalidTimes : mg "InvalidTimes" = some (.ref (cs 6))
  g_InvalidIndex : mg "InvalidIndex" = some (.ref (cs 7))
  g_InvalidLetter : mg "InvalidLetter" = some (.ref (cs 8))
  g_InvalidName : mg "InvalidName" = some (.ref (cs 9))
  g_HasPen : mg "HasPen" = some (.ref (cs 10))
  g_InvalidMotion : mg "InvalidMotion" = some (.ref (cs 11))
  g_InvalidPose : mg "InvalidPose" = some (.ref (cs 12))
  g_InvalidPoint : mg "InvalidPoint" = some (.ref (cs 13))
  g_InvalidEdge : mg "InvalidEdge" = some (.ref (cs 14))
  g_InvalidPicture : mg "InvalidPicture" = some (.ref (cs 15))
  g_InvalidTurn : mg "InvalidTurn" = some (.ref (cs 16))
  g_InvalidFace : mg "InvalidFace" = some (.ref (cs 17))
  g_InvalidFaces : mg "InvalidFaces" = some (.ref (cs 18))
  g_NotEven : mg "NotEven" = some (.ref (cs 19))
  g_NotClosed : mg "NotClosed" = some (.ref (cs 20))
  g_InvalidIntervals : mg "InvalidIntervals" = some (.ref (cs 21))
  g_InvalidPlace : mg "InvalidPlace" = some (.ref (cs 22))
  g_NotDrifting : mg "NotDrifting" = some (.ref (cs 23))
  g_InvalidCount : mg "InvalidCount" = some (.ref (cs 24))
  g_NoSteps : mg "NoSteps" = some (.ref (cs 25))
  g_InvalidOperation : mg "InvalidOperation" = some (.ref (cs 26))
  g_Nothing : mg "Nothing" = some (.ref (cs 27))
  g_InvalidArt : mg "InvalidArt" = some (.ref (cs 28))
  g_InvalidCommand : mg "InvalidCommand" = some (.ref (cs 29))
  xm_InvalidIntervals : XMk K (cs 21)
  xm_InvalidPlace : XMk K (cs 22)
  xrel : XRelOk K (relC cs)
  xt : ∀ C, xT cs C = true → PySem.W.exmOne K (.ref C) (.ref (cs 0)) = some true
section
variable {P : Program} {w : World} {K : PySem.W.Frag} {mg : Str → Option Value} {base : Heap} {ad : Nat → Addr} {fs : Nat → FuncData} {cs : Nat → Addr}
theorem k__law_tank_ (T : Tx K mg ad fs cs) : FnG P w K mg base (L2.CX P w) 1 (ad 0) (fs 0) ["script", "k"] (spD K 2 (m__law_tank cs)) := by
  refine fn_mirror (N := sc__law_tank_N) T.f__law_tank.F sc__law_tank fun X pvs W cdv A outer s H E hX tk hr => ?_
  subst hX
  have hu := hr.units
  exact (dss_cons (ds_set (i := 2) sc__law_tank.nd rfl (by first | exact Or.inl rfl | exact Or.inr rfl) (DX.own dx_int))
    (dss_cons (ds_if (dt_cmp op_ltX f_lt (dx_var (pv 1)) (dx_callB call_len f_len (by rfl) T.z_len bo_len (da_cons (dx_var (pv 0)) da_nil)) (nomark _)) (dss_one (ds_set (i := 2) sc__law_tank.nd rfl (by first | exact Or.inl rfl | exact Or.inr rfl) (DX.own (dx_ix (dx_var (pv 0)) (dx_var (pv 1)))))) dss_nil)
    (dss_one (ds_ret (do_lst (da_cons (dx_callB (call_maxX rfl) f_max (by rfl) T.z_max bo_max (da_cons dx_int (da_cons (dx_op2 op_sub f_sub (dx_var (pv 2)) (dx_op2 op_powX f_pow dx_int dx_int)) da_nil))) (da_cons (dx_op2 op_addX f_add (dx_op2 op_addX f_add (dx_op2 op_modN f_mod (dx_var (pv 2)) (dx_op2 op_addX f_add (dx_op2 op_powX f_pow dx_int dx_int) dx_int)) (dx_op2 op_mulW f_mul dx_int (dx_var (pv 1)))) dx_int) (da_cons dx_int da_nil))))))))
theorem k__law_dip_ (T : Tx K mg ad fs cs) : FnG P w K mg base (L2.CX P w) 1 (ad 1) (fs 1) ["tank", "bound"] (spD K 2 (m__law_dip cs)) := by
  refine fn_mirror (N := sc__law_dip_N) T.f__law_dip.F sc__law_dip fun X pvs W cdv A outer s H E hX tk hr => ?_
  subst hX
  have hu := hr.units
  exact (dss_cons (ds_if (dt_cmp op_gt f_gt (dx_at (dq_see (pv 0)) dx_int) dx_int (nomark _)) (dss_cons (ds_set (i := 2) sc__law_dip.nd rfl (by first | exact Or.inl rfl | exact Or.inr rfl) (DX.own (dx_op2 op_modN f_mod (dx_at (dq_see (pv 0)) dx_int) (dx_var (pv 1))))) (dss_cons (ds_setAt (pv 0) dx_int (DX.own (dx_op2 op_divX f_div (dx_at (dq_see (pv 0)) dx_int) (dx_var (pv 1))))) (dss_one (ds_ret (DX.own (dx_var (pv 2))))))) dss_nil)
    (dss_cons (ds_setAt (pv 0) dx_int (DX.own (dx_op2 op_addX f_add (dx_at (dq_see (pv 0)) dx_int) dx_int)))
    (dss_cons (ds_set (i := 3) sc__law_dip.nd rfl (by first | exact Or.inl rfl | exact Or.inr rfl) (DX.own (dx_op2 op_modN f_mod (dx_op2 op_powX f_pow (dx_op2 op_addX f_add (dx_at (dq_see (pv 0)) dx_int) (dx_op2 op_mulW f_mul dx_int (dx_at (dq_see (pv 0)) dx_int))) dx_int) (dx_op2 op_addX f_add (dx_op2 op_powX f_pow dx_int dx_int) dx_int))))
    (dss_cons (ds_set (i := 3) sc__law_dip.nd rfl (by first | exact Or.inl rfl | exact Or.inr rfl) (DX.own (dx_op2 op_modN f_mod (dx_op2 op_powX f_pow (dx_op2 op_addX f_add (dx_var (pv 3)) (dx_op2 op_mulW f_mul dx_int (dx_at (dq_see (pv 0)) dx_int))) dx_int) (dx_op2 op_addX f_add (dx_op2 op_powX f_pow dx_int dx_int) dx_int))))
    (dss_one (ds_ret (DX.own (dx_op2 op_modN f_mod (dx_op2 op_divX f_div (dx_var (pv 3)) dx_int) (dx_var (pv 1))))))))))
theorem k__law_some_spans_ (T : Tx K mg ad fs cs) : FnG P w K mg base (L2.CX P w) 2 (ad 2) (fs 2) ["tank", "most"] (spD K 2 (m__law_some_spans cs)) := by
  refine fn_mirror (N := sc__law_some_spans_N) T.f__law_some_spans.F sc__law_some_spans fun X pvs W cdv A outer s H E hX tk hr => ?_
  subst hX
  have hu := hr.units
  have k__law_dip := k__law_dip_ (P := P) (w := w) (base := base) T
  exact (dss_cons (ds_par3 (i := 2) (j := 3) (l := 4) rfl sc__law_some_spans.nd rfl rfl rfl (by decide) (by decide) (by decide) rfl rfl rfl (do_lst da_nil) (DO.fz (do_call1 k__law_dip (hr.mono (by decide)) (by rfl) T.f__law_dip.g T.f__law_dip.F.kp T.f__law_dip.b tk (dr_slot (pv 0) (dr_fz dx_int dr_nil)) (lenr_slot (lenr_fz lenr_nil)))) (DX.own dx_int) rfl)
    (dss_cons (ds_for (passes_of rfl) rfl (di_range1 (by rfl) T.z_range (da_cons (DO.frz (do_call1 k__law_dip (hr.mono (by decide)) (by rfl) T.f__law_dip.g T.f__law_dip.F.kp T.f__law_dip.b tk (dr_slot (pv 0) (dr_fz (dx_op2 op_addX f_add (dx_var (pv 1)) dx_int) dr_nil)) (lenr_slot (lenr_fz lenr_nil)))) da_nil)) (dg_name (i := 5) sc__law_some_spans.nd rfl (by first | exact Or.inl rfl | exact Or.inr rfl)) (dss_cons (ds_set (i := 6) sc__law_some_spans.nd rfl (by first | exact Or.inl rfl | exact Or.inr rfl) (do_lst (da_cons (DO.frz (do_call1 k__law_dip (hr.mono (by decide)) (by rfl) T.f__law_dip.g T.f__law_dip.F.kp T.f__law_dip.b tk (dr_slot (pv 0) (dr_fz dx_int dr_nil)) (lenr_slot (lenr_fz lenr_nil)))) (da_cons (dx_var (pv 4)) (da_cons (dx_op2 op_sub f_sub (DO.frz (do_call1 k__law_dip (hr.mono (by decide)) (by rfl) T.f__law_dip.g T.f__law_dip.F.kp T.f__law_dip.b tk (dr_slot (pv 0) (dr_fz (dx_op2 op_powX f_pow dx_int dx_int) dr_nil)) (lenr_slot (lenr_fz lenr_nil)))) (dx_op2 op_powX f_pow dx_int dx_int)) (da_cons (dx_op2 op_addX f_add (dx_var (pv 4)) (DO.frz (do_call1 k__law_dip (hr.mono (by decide)) (by rfl) T.f__law_dip.g T.f__law_dip.F.kp T.f__law_dip.b tk (dr_slot (pv 0) (dr_fz dx_int dr_nil)) (lenr_slot (lenr_fz lenr_nil))))) (da_cons (dx_op2 op_sub f_sub dx_int (dx_var (pv 5))) da_nil))))))) (dss_cons (ds_app (pv 6) (DX.own (dx_op2 op_addX f_add (dx_op2 op_mulW f_mul (dx_op2 op_mulW f_mul (dx_op2 op_powX f_pow dx_int dx_int) (dx_op2 op_powX f_pow dx_int dx_int)) (dx_op2 op_sub f_sub (DO.frz (do_call1 k__law_dip (hr.mono (by decide)) (by rfl) T.f__law_dip.g T.f__law_dip.F.kp T.f__law_dip.b tk (dr_slot (pv 0) (dr_fz dx_int dr_nil)) (lenr_slot (lenr_fz lenr_nil)))) dx_int)) (DO.frz (do_call1 k__law_dip (hr.mono (by decide)) (by rfl) T.f__law_dip.g T.f__law_dip.F.kp T.f__law_dip.b tk (dr_slot (pv 0) (dr_fz dx_int dr_nil)) (lenr_slot (lenr_fz lenr_nil))))))) (dss_cons (ds_set (i := 7) sc__law_some_spans.nd rfl (by first | exact Or.inl rfl | exact Or.inr rfl) (do_lst (da_cons (dx_op2 op_addX f_add dx_int (DO.frz (do_call1 k__law_dip (hr.mono (by decide)) (by rfl) T.f__law_dip.g T.f__law_dip.F.kp T.f__law_dip.b tk (dr_slot (pv 0) (dr_fz dx_int dr_nil)) (lenr_slot (lenr_fz lenr_nil))))) (da_cons (dx_op2 op_addX f_add dx_int (DO.frz (do_call1 k__law_dip (hr.mono (by decide)) (by rfl) T.f__law_dip.g T.f__law_dip.F.kp T.f__law_dip.b tk (dr_slot (pv 0) (dr_fz dx_int dr_nil)) (lenr_slot (lenr_fz lenr_nil))))) (da_cons (dx_op2 op_addX f_add dx_int (DO.frz (do_call1 k__law_dip (hr.mono (by decide)) (by rfl) T.f__law_dip.g T.f__law_dip.F.kp T.f__law_dip.b tk (dr_slot (pv 0) (dr_fz (dx_op2 op_powX f_pow dx_int dx_int) dr_nil)) (lenr_slot (lenr_fz lenr_nil))))) (da_cons dx_int (da_cons (dx_op2 op_addX f_add dx_int (dx_op2 op_mulW f_mul dx_int (dx_var (pv 5)))) da_nil))))))) (dss_cons (ds_app (pv 7) (DX.own (dx_ix (DO.frz (do_lst (da_cons (dx_op2 op_addX f_add dx_int (DO.frz (do_call1 k__law_dip (hr.mono (by decide)) (by rfl) T.f__law_dip.g T.f__law_dip.F.kp T.f__law_dip.b tk (dr_slot (pv 0) (dr_fz dx_int dr_nil)) (lenr_slot (lenr_fz lenr_nil))))) (da_cons (dx_op2 op_mulW f_mul (dx_op2 op_powX f_pow dx_int dx_int) (dx_op2 op_powX f_pow dx_int dx_int)) da_nil)))) (DO.frz (do_call1 k__law_dip (hr.mono (by decide)) (by rfl) T.f__law_dip.g T.f__law_dip.F.kp T.f__law_dip.b tk (dr_slot (pv 0) (dr_fz dx_int dr_nil)) (lenr_slot (lenr_fz lenr_nil))))))) (dss_cons (ds_app (pv 2) (DX.own (dx_tup (da_cons (dx_at (dq_see (pv 6)) (dx_var (pv 3))) (da_cons (dx_op2 op_addX f_add (dx_at (dq_see (pv 6)) (dx_var (pv 3))) (dx_at (dq_see (pv 7)) (dx_var (pv 3)))) da_nil))))) (dss_one (ds_set (i := 4) sc__law_some_spans.nd rfl (by first | exact Or.inl rfl | exact Or.inr rfl) (DX.own (dx_ix (dx_atS (pv 2) (DO.frz (do_call1 k__law_dip (hr.mono (by decide)) (by rfl) T.f__law_dip.g T.f__law_dip.F.kp T.f__law_dip.b tk (dr_slot (pv 0) (dr_fz (dx_callB call_len f_len (by rfl) T.z_len bo_len (da_cons (dx_see (pv 2)) da_nil)) dr_nil)) (lenr_slot (lenr_fz lenr_nil))))) (DO.frz (do_call1 k__law_dip (hr.mono (by decide)) (by rfl) T.f__law_dip.g T.f__law_dip.F.kp T.f__law_dip.b tk (dr_slot (pv 0) (dr_fz dx_int dr_nil)) (lenr_slot (lenr_fz lenr_nil))))))))))))))
    (dss_one (ds_ret (do_take (pv 2))))))
theorem k__law_no_intervals_ (T : Tx K mg ad fs cs) : FnG P w K mg base (L2.CX P w) 2 (ad 3) (fs 3) ["tank", "good"] (spD K 2 (m__law_no_intervals cs)) := by
  refine fn_mirror (N := sc__law_no_intervals_N) T.f__law_no_intervals.F sc__law_no_intervals fun X pvs W cdv A outer s H E hX tk hr => ?_
  subst hX
  have hu := hr.units
  have k__law_dip := k__law_dip_ (P := P) (w := w) (base := base) T
  exact (dss_cons (ds_asg (dx_tup (da_cons (DO.frz (do_call1 k__law_dip (hr.mono (by decide)) (by rfl) T.f__law_dip.g T.f__law_dip.F.kp T.f__law_dip.b tk (dr_slot (pv 0) (dr_fz (dx_op2 op_addX f_add (dx_callB call_len f_len (by rfl) T.z_len bo_len (da_cons (dx_var (pv 1)) da_nil)) dx_int) dr_nil)) (lenr_slot (lenr_fz lenr_nil)))) (da_cons (DO.frz (do_lst (da_cons dx_non (da_cons dx_int (da_cons dx_str (da_cons (dx_tup da_nil) (da_cons (dx_tup (da_cons dx_int da_nil)) (da_cons (dx_tup (da_cons dx_int (da_cons dx_int (da_cons dx_int da_nil)))) (da_cons (DO.frz (do_lst (da_cons dx_int (da_cons dx_int da_nil)))) (da_cons (dx_tup (da_cons dx_int (da_cons dx_int da_nil))) (da_cons (dx_tup (da_cons dx_int (da_cons dx_int da_nil))) (da_cons dx_dict0 da_nil)))))))))))) da_nil))) (dg_tup rfl (dgs_cons (dg_name (i := 2) sc__law_no_intervals.nd rfl (by first | exact Or.inl rfl | exact Or.inr rfl)) (dgs_cons (dg_name (i := 3) sc__law_no_intervals.nd rfl (by first | exact Or.inl rfl | exact Or.inr rfl)) dgs_nil))))
    (dss_cons (ds_set (i := 3) sc__law_no_intervals.nd rfl (by first | exact Or.inl rfl | exact Or.inr rfl) (DO.fz (do_cat (DX.dq (dx_var (pv 3))) (DO.dq (do_lst (da_cons (dx_tup (da_cons dx_non (da_cons dx_int da_nil))) (da_cons (dx_tup (da_cons dx_int (da_cons dx_non da_nil))) (da_cons (dx_tup (da_cons dx_bl (da_cons dx_int da_nil))) (da_cons (dx_tup (da_cons dx_int (da_cons dx_bl da_nil))) (da_cons (dx_tup (da_cons dx_bl (da_cons dx_int da_nil))) (da_cons (dx_tup (da_cons dx_str (da_cons dx_int da_nil))) (da_cons (dx_tup (da_cons dx_int (da_cons dx_str da_nil))) (da_cons (dx_tup (da_cons (DO.frz (do_lst (da_cons dx_int da_nil))) (da_cons dx_int da_nil))) (da_cons (dx_tup (da_cons dx_int (da_cons (dx_tup (da_cons dx_int da_nil)) da_nil))) da_nil))))))))))))))
    (dss_cons (ds_set (i := 3) sc__law_no_intervals.nd rfl (by first | exact Or.inl rfl | exact Or.inr rfl) (DO.fz (do_cat (DX.dq (dx_var (pv 3))) (DO.dq (do_lst (da_cons (dx_tup (da_cons (dx_tup (da_cons dx_int (da_cons dx_int da_nil))) da_nil)) (da_cons dx_bl da_nil)))))))
    (dss_cons (ds_set (i := 3) sc__law_no_intervals.nd rfl (by first | exact Or.inl rfl | exact Or.inr rfl) (DO.fz (do_cat (DX.dq (dx_var (pv 3))) (DO.dq (do_lst (da_cons (dx_tup (da_cons (dx_op2 op_powX f_pow dx_int dx_int) (da_cons (dx_op2 op_powX f_pow dx_int dx_int) da_nil))) (da_cons (dx_tup (da_cons dx_int (da_cons (dx_op2 op_sub f_sub dx_int (dx_op2 op_powX f_pow dx_int dx_int)) da_nil))) (da_cons (dx_tup (da_cons (DO.frz (do_call1 k__law_dip (hr.mono (by decide)) (by rfl) T.f__law_dip.g T.f__law_dip.F.kp T.f__law_dip.b tk (dr_slot (pv 0) (dr_fz dx_int dr_nil)) (lenr_slot (lenr_fz lenr_nil)))) (da_cons (dx_op2 op_sub f_sub (dx_neg dx_int) (DO.frz (do_call1 k__law_dip (hr.mono (by decide)) (by rfl) T.f__law_dip.g T.f__law_dip.F.kp T.f__law_dip.b tk (dr_slot (pv 0) (dr_fz dx_int dr_nil)) (lenr_slot (lenr_fz lenr_nil))))) da_nil))) da_nil))))))))
    (dss_cons (ds_setCompF (i := 4) (own := [("odd", 5)]) rfl sc__law_no_intervals.nd rfl rfl (sw_true rfl rfl rfl (by decide +kernel)) (di_list (dx_var (pv 3))) (blkOk_by (N := sc__law_no_intervals_N) (sc := defScope s__law_no_intervals) (own := [("odd", 5)]) (by decide +kernel)) (fun _ _ _ _ _ => (dg_name (i := 5) sc__law_no_intervals.nd rfl (by first | exact Or.inl rfl | exact Or.inr rfl))) (fun _ _ _ _ _ => dts_nil) (fun _ _ _ _ _ => (DO.frz (do_cat (DO.dq (do_cat (DO.dq (do_cut (DX.dq (dx_var (pv 1))) dp_none (dp_some (dx_var (pv 2))))) (DO.dq (do_lst (da_cons (dx_var (pv 5)) da_nil))))) (DO.dq (do_cut (DO.dq (do_cut (DX.dq (dx_var (pv 1))) (dp_some (dx_var (pv 2))) dp_none)) dp_none (dp_some dx_int)))))) (by decide) (wip_name))
    (dss_cons (ds_set (i := 4) sc__law_no_intervals.nd rfl (by first | exact Or.inl rfl | exact Or.inr rfl) (DO.fz (do_cat (DX.dq (dx_var (pv 4))) (DO.dq (do_comp (own := [("odd", 5)]) rfl sc__law_no_intervals.nd (di_list (dx_var (pv 3))) (blkOk_by (N := sc__law_no_intervals_N) (sc := defScope s__law_no_intervals) (own := [("odd", 5)]) (by decide +kernel)) (fun _ _ _ _ _ => (dg_name (i := 5) sc__law_no_intervals.nd rfl (by first | exact Or.inl rfl | exact Or.inr rfl))) (fun _ _ _ _ _ => dts_nil) (fun _ _ _ _ _ => (DO.frz (do_cat (DO.dq (do_cat (DO.dq (do_cut (DX.dq (dx_var (pv 1))) dp_none (dp_some (dx_var (pv 2))))) (DO.dq (do_lst (da_cons (dx_var (pv 5)) da_nil))))) (DO.dq (do_cut (DX.dq (dx_var (pv 1))) (dp_some (dx_op2 op_addX f_add (dx_var (pv 2)) dx_int)) dp_none))))) (by decide) (wip_name))))))
    (dss_one (ds_ret (do_cat (DX.dq (dx_var (pv 4))) (DO.dq (do_lst (da_cons dx_non (da_cons dx_int (da_cons dx_str (da_cons (dx_tup da_nil) (da_cons dx_dict0 (da_cons dx_bl (da_cons (dx_callTyT call_tuple_of f_tupOf (by rfl) T.z_tuple bo_tuple (da_cons (dx_var (pv 1)) da_nil)) (da_cons (DO.frz (do_lst (da_cons (dx_var (pv 1)) da_nil))) (da_cons (dx_tup (da_cons (dx_tup (da_cons dx_int (da_cons dx_int da_nil))) da_nil)) (da_cons dx_str (da_cons (dx_tup (da_cons dx_int (da_cons dx_int da_nil))) (da_cons dx_dict1 da_nil)))))))))))))))))))))))
theorem k__law_class_ (T : Tx K mg ad fs cs) : FnG P w K mg base (L2.CX P w) 1 (ad 4) (fs 4) ["caught"] (spD K 1 (m__law_class cs)) := by
  refine fn_mirror (N := sc__law_class_N) T.f__law_class.F sc__law_class fun X pvs W cdv A outer s H E hX tk hr => ?_
  subst hX
  have hu := hr.units
  exact (dss_cons (ds_set (i := 1) sc__law_class.nd rfl (by first | exact Or.inl rfl | exact Or.inr rfl) (DO.fz (do_lst (da_cons (dx_callB call_isiE (f_isE T.xrel) (by rfl) T.z_isinstance bo_isinstance (da_cons (dx_var (pv 0)) (da_cons (dx_cls (by rfl) T.g_InvalidProgram) da_nil))) (da_cons (dx_callB call_isiE (f_isE T.xrel) (by rfl) T.z_isinstance bo_isinstance (da_cons (dx_var (pv 0)) (da_cons (dx_cls (by rfl) T.g_InvalidTimes) da_nil))) (da_cons (dx_callB call_isiE (f_isE T.xrel) (by rfl) T.z_isinstance bo_isinstance (da_cons (dx_var (pv 0)) (da_cons (dx_cls (by rfl) T.g_InvalidIndex) da_nil))) da_nil))))))
    (dss_cons (ds_set (i := 1) sc__law_class.nd rfl (by first | exact Or.inl rfl | exact Or.inr rfl) (DO.fz (do_cat (DX.dq (dx_var (pv 1))) (DO.dq (do_lst (da_cons (dx_callB call_isiE (f_isE T.xrel) (by rfl) T.z_isinstance bo_isinstance (da_cons (dx_var (pv 0)) (da_cons (dx_cls (by rfl) T.g_InvalidMotion) da_nil))) (da_cons (dx_callB call_isiE (f_isE T.xrel) (by rfl) T.z_isinstance bo_isinstance (da_cons (dx_var (pv 0)) (da_cons (dx_cls (by rfl) T.g_InvalidPose) da_nil))) (da_cons (dx_callB call_isiE (f_isE T.xrel) (by rfl) T.z_isinstance bo_isinstance (da_cons (dx_var (pv 0)) (da_cons (dx_cls (by rfl) T.g_InvalidPoint) da_nil))) da_nil))))))))
    (dss_cons (ds_set (i := 1) sc__law_class.nd rfl (by first | exact Or.inl rfl | exact Or.inr rfl) (DO.fz (do_cat (DX.dq (dx_var (pv 1))) (DO.dq (do_lst (da_cons (dx_callB call_isiE (f_isE T.xrel) (by rfl) T.z_isinstance bo_isinstance (da_cons (dx_var (pv 0)) (da_cons (dx_cls (by rfl) T.g_InvalidEdge) da_nil))) (da_cons (dx_callB call_isiE (f_isE T.xrel) (by rfl) T.z_isinstance bo_isinstance (da_cons (dx_var (pv 0)) (da_cons (dx_cls (by rfl) T.g_InvalidIntervals) da_nil))) (da_cons (dx_callB call_isiE (f_isE T.xrel) (by rfl) T.z_isinstance bo_isinstance (da_cons (dx_var (pv 0)) (da_cons (dx_cls (by rfl) T.g_NotEven) da_nil))) da_nil))))))))
    (dss_cons (ds_set (i := 1) sc__law_class.nd rfl (by first | exact Or.inl rfl | exact Or.inr rfl) (DO.fz (do_cat (DX.dq (dx_var (pv 1))) (DO.dq (do_lst (da_cons (dx_callB call_isiE (f_isE T.xrel) (by rfl) T.z_isinstance bo_isinstance (da_cons (dx_var (pv 0)) (da_cons (dx_cls (by rfl) T.g_InvalidPlace) da_nil))) (da_cons (dx_callB call_isiE (f_isE T.xrel) (by rfl) T.z_isinstance bo_isinstance (da_cons (dx_var (pv 0)) (da_cons (dx_cls (by rfl) T.g_NotDrifting) da_nil))) (da_cons (dx_callB call_isiE (f_isE T.xrel) (by rfl) T.z_isinstance bo_isinstance (da_cons (dx_var (pv 0)) (da_cons (dx_cls (by rfl) T.g_TooLarge) da_nil))) da_nil))))))))
    (dss_cons (ds_if (dt_val (dx_callB call_isiE (f_isE T.xrel) (by rfl) T.z_isinstance bo_isinstance (da_cons (dx_var (pv 0)) (da_cons (dx_tup (da_cons (dx_cls (by rfl) T.g_HasPen) (da_cons (dx_cls (by rfl) T.g_InvalidArt) (da_cons (dx_cls (by rfl) T.g_InvalidCommand) (da_cons (dx_cls (by rfl) T.g_InvalidCount) (da_cons (dx_cls (by rfl) T.g_InvalidFace) (da_cons (dx_cls (by rfl) T.g_InvalidFaces) (da_cons (dx_cls (by rfl) T.g_InvalidLetter) da_nil)))))))) da_nil)))) (dss_one (ds_ret (DX.own dx_str))) dss_nil)
    (dss_cons (ds_if (dt_val (dx_callB call_isiE (f_isE T.xrel) (by rfl) T.z_isinstance bo_isinstance (da_cons (dx_var (pv 0)) (da_cons (dx_tup (da_cons (dx_cls (by rfl) T.g_InvalidName) (da_cons (dx_cls (by rfl) T.g_InvalidOperation) (da_cons (dx_cls (by rfl) T.g_InvalidPicture) (da_cons (dx_cls (by rfl) T.g_InvalidSource) (da_cons (dx_cls (by rfl) T.g_InvalidText) (da_cons (dx_cls (by rfl) T.g_InvalidTurn) da_nil))))))) da_nil)))) (dss_one (ds_ret (DX.own dx_str))) dss_nil)
    (dss_cons (ds_if (DW.dt (dw_or (dt_val (dx_callB call_isiE (f_isE T.xrel) (by rfl) T.z_isinstance bo_isinstance (da_cons (dx_var (pv 0)) (da_cons (dx_tup (da_cons (dx_cls (by rfl) T.g_NoSteps) (da_cons (dx_cls (by rfl) T.g_NotClosed) (da_cons (dx_cls (by rfl) T.g_Nothing) (da_cons (dx_cls (by rfl) T.g_TooDeep) da_nil))))) da_nil)))) (dw_or1 (dt_not (dt_val (dx_callB call_isiE (f_isE T.xrel) (by rfl) T.z_isinstance bo_isinstance (da_cons (dx_var (pv 0)) (da_cons (dx_ty (by rfl) T.z_ValueError bo_ValueError) da_nil)))))))) (dss_one (ds_ret (DX.own dx_str))) dss_nil)
    (dss_cons (ds_set (i := 2) sc__law_class.nd rfl (by first | exact Or.inl rfl | exact Or.inr rfl) (do_lst (da_cons dx_str (da_cons dx_str (da_cons dx_str (da_cons dx_str (da_cons dx_str (da_cons dx_str (da_cons dx_str (da_cons dx_str (da_cons dx_str (da_cons dx_str (da_cons dx_str da_nil)))))))))))))
    (dss_cons (ds_app (pv 2) (DX.own (dx_if (dt_val (dx_ix (dx_var (pv 1)) dx_int)) (dx_op2 op_addX f_add dx_str (dx_bad (p := true) (k := true))) dx_str)))
    (dss_one (ds_ret (DX.own (dx_if (dt_cmp (op_eqX hu) f_eq (dx_countD (by have := hr.un; omega) (dx_var (pv 1)) (da_cons dx_bl da_nil)) dx_int (nomark _)) (dx_at (dq_see (pv 2)) (dx_indexD (by have := hr.un; omega) (dx_var (pv 1)) (da_cons dx_bl da_nil))) dx_str)))))))))))))
theorem k_is_int_ (T : Tx K mg ad fs cs) : FnG P w K mg base (L2.CX P w) 1 (ad 5) (fs 5) ["value"] (spD K 1 (m_is_int cs)) := by
  refine fn_mirror (N := sc_is_int_N) T.f_is_int.F sc_is_int fun X pvs W cdv A outer s H E hX tk hr => ?_
  subst hX
  have hu := hr.units
  exact (dss_one (ds_ret (DX.own (dx_and (dx_callB call_isi f_isi (by rfl) T.z_isinstance bo_isinstance (da_cons (dx_var (pv 0)) (da_cons (dx_ty (by rfl) T.z_int bo_int) da_nil))) (dx_and1 (dx_not (dx_callB call_isi f_isi (by rfl) T.z_isinstance bo_isinstance (da_cons (dx_var (pv 0)) (da_cons (dx_ty (by rfl) T.z_bool bo_bool) da_nil)))))))))
theorem k_is_interval_ (T : Tx K mg ad fs cs) : FnG P w K mg base (L2.CX P w) 2 (ad 6) (fs 6) ["value"] (spD K 1 (m_is_interval cs)) := by
  refine fn_mirror (N := sc_is_interval_N) T.f_is_interval.F sc_is_interval fun X pvs W cdv A outer s H E hX tk hr => ?_
  subst hX
  have hu := hr.units
  have k_is_int := k_is_int_ (P := P) (w := w) (base := base) T
  exact (dss_cons (ds_if (DW.dt (dw_or (dt_not (dt_val (dx_callB call_isi f_isi (by rfl) T.z_isinstance bo_isinstance (da_cons (dx_var (pv 0)) (da_cons (dx_ty (by rfl) T.z_tuple bo_tuple) da_nil))))) (dw_or1 (dt_cmp (op_neX hu) f_ne (dx_callB call_len f_len (by rfl) T.z_len bo_len (da_cons (dx_var (pv 0)) da_nil)) dx_int (nomark _))))) (dss_one (ds_ret (DX.own dx_bl))) dss_nil)
    (dss_one (ds_ret (DX.own (dx_and (DO.frz (do_call0 k_is_int (hr.mono (by decide)) (by rfl) T.f_is_int.g T.f_is_int.F.kp T.f_is_int.b tk (da_cons (dx_ix (dx_var (pv 0)) dx_int) da_nil) (len_cons len_nil))) (dx_and (DO.frz (do_call0 k_is_int (hr.mono (by decide)) (by rfl) T.f_is_int.g T.f_is_int.F.kp T.f_is_int.b tk (da_cons (dx_ix (dx_var (pv 0)) dx_int) da_nil) (len_cons len_nil))) (dx_and1 (dx_cmp op_ltX f_lt (dx_ix (dx_var (pv 0)) dx_int) (dx_ix (dx_var (pv 0)) dx_int) (nomark _)))))))))
theorem k_require_intervals_ (T : Tx K mg ad fs cs) : FnG P w K mg base (L2.CX P w) 3 (ad 7) (fs 7) ["value"] (spD K 1 (m_require_intervals cs)) := by
  refine fn_mirror (N := sc_require_intervals_N) T.f_require_intervals.F sc_require_intervals fun X pvs W cdv A outer s H E hX tk hr => ?_
  subst hX
  have hu := hr.units
  have k_is_interval := k_is_interval_ (P := P) (w := w) (base := base) T
  exact (dss_one (ds_if (DW.dt (dw_or (dt_not (dt_val (dx_callB call_isi f_isi (by rfl) T.z_isinstance bo_isinstance (da_cons (dx_var (pv 0)) (da_cons (dx_ty (by rfl) T.z_list bo_list) da_nil))))) (dw_or1 (dt_not (dt_val (dx_callB (cr_all rfl) f_all (by rfl) T.z_all bo_all (da_cons (DO.frz (do_comp (own := [("interval", 1)]) rfl sc_require_intervals.nd (di_list (dx_var (pv 0))) (blkOk_by (N := sc_require_intervals_N) (sc := defScope s_require_intervals) (own := [("interval", 1)]) (by decide +kernel)) (fun _ _ _ _ _ => (dg_name (i := 1) sc_require_intervals.nd rfl (by first | exact Or.inl rfl | exact Or.inr rfl))) (fun _ _ _ _ _ => dts_nil) (fun _ _ _ _ _ => (DO.frz (do_call0 k_is_interval (hr.mono (by decide)) (by rfl) T.f_is_interval.g T.f_is_interval.F.kp T.f_is_interval.b takes0 (da_cons (dx_var (pv 1)) da_nil) (len_cons len_nil)))) (by decide) (wip_name))) da_nil))))))) (dss_one (ds_raise rfl tk T.xm_InvalidIntervals (by rfl) T.g_InvalidIntervals)) dss_nil))
theorem k_covered_in_ (T : Tx K mg ad fs cs) : FnG P w K mg base (L2.CX P w) 1 (ad 8) (fs 8) ["intervals"] (spD K 1 (m_covered_in cs)) := by
  refine fn_mirror (N := sc_covered_in_N) T.f_covered_in.F sc_covered_in fun X pvs W cdv A outer s H E hX tk hr => ?_
  subst hX
  have hu := hr.units
  exact (dss_cons (ds_asg (dx_tup (da_cons dx_int (da_cons dx_non da_nil))) (dg_tup rfl (dgs_cons (dg_name (i := 1) sc_covered_in.nd rfl (by first | exact Or.inl rfl | exact Or.inr rfl)) (dgs_cons (dg_name (i := 2) sc_covered_in.nd rfl (by first | exact Or.inl rfl | exact Or.inr rfl)) dgs_nil))))
    (dss_cons (ds_for (passes_of rfl) rfl (di_list (DO.frz (do_callB call_sortX f_sortX (by rfl) T.z_sorted bo_sorted (da_cons (dx_var (pv 0)) da_nil)))) (dg_tup rfl (dgs_cons (dg_name (i := 3) sc_covered_in.nd rfl (by first | exact Or.inl rfl | exact Or.inr rfl)) (dgs_cons (dg_name (i := 4) sc_covered_in.nd rfl (by first | exact Or.inl rfl | exact Or.inr rfl)) dgs_nil))) (dss_cons (ds_if (DW.dt (dw_or (dt_cmp op_isN f_isN (dx_var (pv 2)) dx_non (nomark _)) (dw_or1 (dt_cmp op_gt f_gt (dx_var (pv 3)) (dx_var (pv 2)) (nomark _))))) (dss_one (ds_set (i := 2) sc_covered_in.nd rfl (by first | exact Or.inl rfl | exact Or.inr rfl) (DX.own (dx_var (pv 3))))) dss_nil) (dss_cons (ds_aug (i := 1) sc_covered_in.nd rfl (by first | exact Or.inl rfl | exact Or.inr rfl) iop_addX f_add (dx_callB (call_maxX rfl) f_max (by rfl) T.z_max bo_max (da_cons dx_int (da_cons (dx_op2 op_sub f_sub (dx_var (pv 4)) (dx_var (pv 2))) da_nil)))) (dss_one (ds_set (i := 2) sc_covered_in.nd rfl (by first | exact Or.inl rfl | exact Or.inr rfl) (DX.own (dx_callB (call_maxX rfl) f_max (by rfl) T.z_max bo_max (da_cons (dx_var (pv 2)) (da_cons (dx_var (pv 4)) da_nil)))))))))
    (dss_one (ds_ret (DX.own (dx_var (pv 1)))))))
theorem k_covered_ (T : Tx K mg ad fs cs) : FnG P w K mg base (L2.CX P w) 4 (ad 9) (fs 9) ["intervals"] (spD K 1 (m_covered cs)) := by
  refine fn_mirror (N := sc_covered_N) T.f_covered.F sc_covered fun X pvs W cdv A outer s H E hX tk hr => ?_
  subst hX
  have hu := hr.units
  have k_require_intervals := k_require_intervals_ (P := P) (w := w) (base := base) T
  have k_covered_in := k_covered_in_ (P := P) (w := w) (base := base) T
  exact (dss_cons (ds_expr (DO.frz (do_call0 k_require_intervals (hr.mono (by decide)) (by rfl) T.f_require_intervals.g T.f_require_intervals.F.kp T.f_require_intervals.b tk (da_cons (dx_var (pv 0)) da_nil) (len_cons len_nil))))
    (dss_one (ds_ret (do_call0 k_covered_in (hr.mono (by decide)) (by rfl) T.f_covered_in.g T.f_covered_in.F.kp T.f_covered_in.b tk (da_cons (dx_var (pv 0)) da_nil) (len_cons len_nil)))))
theorem k_odd_stretches_ (T : Tx K mg ad fs cs) : FnG P w K mg base (L2.CX P w) 1 (ad 10) (fs 10) ["intervals"] (spD K 1 (m_odd_stretches cs)) := by
  refine fn_mirror (N := sc_odd_stretches_N) T.f_odd_stretches.F sc_odd_stretches fun X pvs W cdv A outer s H E hX tk hr => ?_
  subst hX
  have hu := hr.units
  exact (dss_cons (ds_set (i := 1) sc_odd_stretches.nd rfl (by first | exact Or.inl rfl | exact Or.inr rfl) (DO.fz (do_callB call_sortX f_sortX (by rfl) T.z_sorted bo_sorted (da_cons (DO.frz (do_comp2 (own := [("interval", 2), ("place", 3)]) (vs1 := [3]) rfl sc_odd_stretches.nd (di_list (dx_var (pv 0))) (blkOk_by (N := sc_odd_stretches_N) (sc := defScope s_odd_stretches) (own := [("interval", 2), ("place", 3)]) (by decide +kernel)) (fun _ _ _ _ _ => (dg_name (i := 2) sc_odd_stretches.nd rfl (by first | exact Or.inl rfl | exact Or.inr rfl))) (fun _ _ _ _ _ => dts_nil) (fun _ _ _ _ _ => (di_tup (dx_var (pv 2)))) (fun _ _ _ _ _ => (dg_name (i := 3) sc_odd_stretches.nd rfl (by first | exact Or.inl rfl | exact Or.inr rfl))) (fun _ _ _ _ _ => dts_nil) (fun _ _ _ _ _ => (dx_var (pv 3))) (by decide) (by decide) (by decide) (wip_name) (wip_name))) da_nil))))
    (dss_one (ds_ret (do_comp (own := [("low", 4), ("high", 5)]) rfl sc_odd_stretches.nd (di_zip (by rfl) T.z_zip (da_cons (DO.frz (do_pick (DX.dq (dx_var (pv 1))) dp_none dp_none (dp_some dx_int))) (da_cons (DO.frz (do_pick (DX.dq (dx_var (pv 1))) (dp_some dx_int) dp_none (dp_some dx_int))) da_nil))) (blkOk_by (N := sc_odd_stretches_N) (sc := defScope s_odd_stretches) (own := [("low", 4), ("high", 5)]) (by decide +kernel)) (fun _ _ _ _ _ => (dg_tup rfl (dgs_cons (dg_name (i := 4) sc_odd_stretches.nd rfl (by first | exact Or.inl rfl | exact Or.inr rfl)) (dgs_cons (dg_name (i := 5) sc_odd_stretches.nd rfl (by first | exact Or.inl rfl | exact Or.inr rfl)) dgs_nil)))) (fun _ _ _ _ _ => (dts_one (dt_cmp op_ltX f_lt (dx_var (pv 4)) (dx_var (pv 5)) (nomark _)))) (fun _ _ _ _ _ => (dx_tup (da_cons (dx_var (pv 4)) (da_cons (dx_var (pv 5)) da_nil)))) (by decide) (wip_tup (wip_cons (wip_name) (wip_cons (wip_name) wip_nil)))))))
theorem k_odd_in_spans_ (T : Tx K mg ad fs cs) : FnG P w K mg base (L2.CX P w) 2 (ad 11) (fs 11) ["intervals"] (spD K 1 (m_odd_in_spans cs)) := by
  refine fn_mirror (N := sc_odd_in_spans_N) T.f_odd_in_spans.F sc_odd_in_spans fun X pvs W cdv A outer s H E hX tk hr => ?_
  subst hX
  have hu := hr.units
  have k_odd_stretches := k_odd_stretches_ (P := P) (w := w) (base := base) T
  exact (dss_one (ds_ret (DX.own (dx_callB (cr_sum rfl) f_sum (by rfl) T.z_sum bo_sum (da_cons (DO.frz (do_comp (own := [("low", 1), ("high", 2)]) rfl sc_odd_in_spans.nd (di_list (DO.frz (do_call0 k_odd_stretches (hr.mono (by decide)) (by rfl) T.f_odd_stretches.g T.f_odd_stretches.F.kp T.f_odd_stretches.b tk (da_cons (dx_var (pv 0)) da_nil) (len_cons len_nil)))) (blkOk_by (N := sc_odd_in_spans_N) (sc := defScope s_odd_in_spans) (own := [("low", 1), ("high", 2)]) (by decide +kernel)) (fun _ _ _ _ _ => (dg_tup rfl (dgs_cons (dg_name (i := 1) sc_odd_in_spans.nd rfl (by first | exact Or.inl rfl | exact Or.inr rfl)) (dgs_cons (dg_name (i := 2) sc_odd_in_spans.nd rfl (by first | exact Or.inl rfl | exact Or.inr rfl)) dgs_nil)))) (fun _ _ _ _ _ => dts_nil) (fun _ _ _ _ _ => (dx_op2 op_sub f_sub (dx_var (pv 2)) (dx_var (pv 1)))) (by decide) (wip_tup (wip_cons (wip_name) (wip_cons (wip_name) wip_nil))))) da_nil)))))
theorem k_odd_covered_ (T : Tx K mg ad fs cs) : FnG P w K mg base (L2.CX P w) 4 (ad 12) (fs 12) ["intervals"] (spD K 1 (m_odd_covered cs)) := by
  refine fn_mirror (N := sc_odd_covered_N) T.f_odd_covered.F sc_odd_covered fun X pvs W cdv A outer s H E hX tk hr => ?_
  subst hX
  have hu := hr.units
  have k_require_intervals := k_require_intervals_ (P := P) (w := w) (base := base) T
  have k_odd_in_spans := k_odd_in_spans_ (P := P) (w := w) (base := base) T
  exact (dss_cons (ds_expr (DO.frz (do_call0 k_require_intervals (hr.mono (by decide)) (by rfl) T.f_require_intervals.g T.f_require_intervals.F.kp T.f_require_intervals.b tk (da_cons (dx_var (pv 0)) da_nil) (len_cons len_nil))))
    (dss_one (ds_ret (do_call0 k_odd_in_spans (hr.mono (by decide)) (by rfl) T.f_odd_in_spans.g T.f_odd_in_spans.F.kp T.f_odd_in_spans.b tk (da_cons (dx_var (pv 0)) da_nil) (len_cons len_nil)))))
theorem k_depth_in_ (T : Tx K mg ad fs cs) : FnG P w K mg base (L2.CX P w) 1 (ad 13) (fs 13) ["intervals", "place"] (spD K 2 (m_depth_in cs)) := by
  refine fn_mirror (N := sc_depth_in_N) T.f_depth_in.F sc_depth_in fun X pvs W cdv A outer s H E hX tk hr => ?_
  subst hX
  have hu := hr.units
  exact (dss_one (ds_ret (DX.own (dx_callB call_len f_len (by rfl) T.z_len bo_len (da_cons (DO.frz (do_comp (own := [("start", 2), ("end", 3)]) rfl sc_depth_in.nd (di_list (dx_var (pv 0))) (blkOk_by (N := sc_depth_in_N) (sc := defScope s_depth_in) (own := [("start", 2), ("end", 3)]) (by decide +kernel)) (fun _ _ _ _ _ => (dg_tup rfl (dgs_cons (dg_name (i := 2) sc_depth_in.nd rfl (by first | exact Or.inl rfl | exact Or.inr rfl)) (dgs_cons (dg_name (i := 3) sc_depth_in.nd rfl (by first | exact Or.inl rfl | exact Or.inr rfl)) dgs_nil)))) (fun _ _ _ _ _ => (dts_one (dt_chain op_le op_ltX f_le f_lt (dx_var (pv 2)) (dx_var (pv 1)) (dx_var (pv 3))))) (fun _ _ _ _ _ => (dx_var (pv 2))) (by decide) (wip_tup (wip_cons (wip_name) (wip_cons (wip_name) wip_nil))))) da_nil)))))
theorem k_depth_at_ (T : Tx K mg ad fs cs) : FnG P w K mg base (L2.CX P w) 4 (ad 14) (fs 14) ["intervals", "place"] (spD K 2 (m_depth_at cs)) := by
  refine fn_mirror (N := sc_depth_at_N) T.f_depth_at.F sc_depth_at fun X pvs W cdv A outer s H E hX tk hr => ?_
  subst hX
  have hu := hr.units
  have k_require_intervals := k_require_intervals_ (P := P) (w := w) (base := base) T
  have k_depth_in := k_depth_in_ (P := P) (w := w) (base := base) T
  have k_is_int := k_is_int_ (P := P) (w := w) (base := base) T
  exact (dss_cons (ds_expr (DO.frz (do_call0 k_require_intervals (hr.mono (by decide)) (by rfl) T.f_require_intervals.g T.f_require_intervals.F.kp T.f_require_intervals.b tk (da_cons (dx_var (pv 0)) da_nil) (len_cons len_nil))))
    (dss_cons (ds_if (dt_not (dt_val (DO.frz (do_call0 k_is_int (hr.mono (by decide)) (by rfl) T.f_is_int.g T.f_is_int.F.kp T.f_is_int.b tk (da_cons (dx_var (pv 1)) da_nil) (len_cons len_nil))))) (dss_one (ds_raise rfl tk T.xm_InvalidPlace (by rfl) T.g_InvalidPlace)) dss_nil)
    (dss_one (ds_ret (do_call0 k_depth_in (hr.mono (by decide)) (by rfl) T.f_depth_in.g T.f_depth_in.F.kp T.f_depth_in.b tk (da_cons (dx_var (pv 0)) (da_cons (dx_var (pv 1)) da_nil)) (len_cons (len_cons len_nil)))))))
theorem k__law_told_ (T : Tx K mg ad fs cs) : FnG P w K mg base (L2.CX P w) 5 (ad 15) (fs 15) ["door", "value", "place"] (spD K 3 (m__law_told cs)) := by
  refine fn_mirror (N := sc__law_told_N) T.f__law_told.F sc__law_told fun X pvs W cdv A outer s H E hX tk hr => ?_
  subst hX
  have hu := hr.units
  have k__law_class := k__law_class_ (P := P) (w := w) (base := base) T
  have k_covered := k_covered_ (P := P) (w := w) (base := base) T
  have k_odd_covered := k_odd_covered_ (P := P) (w := w) (base := base) T
  have k_depth_at := k_depth_at_ (P := P) (w := w) (base := base) T
  exact (dss_cons (ds_par (i := 3) (j := 4) rfl sc__law_told.nd rfl rfl (by decide) rfl rfl (DX.own (dx_callB (call_reprD hr.g hu T.sm) f_reprD (by rfl) T.z_repr bo_repr (da_cons (DO.frz (do_lst (da_cons (dx_var (pv 1)) (da_cons (dx_var (pv 2)) da_nil)))) da_nil))) (DX.own dx_non) rfl)
    (dss_cons (ds_try (i := 5) rfl rfl rfl sc__law_told.nd rfl rfl ⟨rfl, by decide, .inl T.g_PlotError⟩ T.xt (fun W9 pn9 xe9 tk9 po9 => (dss_one (ds_if (dt_cmp (op_eqX hu) f_eq (dx_var (pv 0)) dx_int (nomark _)) (dss_one (ds_expr (DO.frz (do_call0 k_covered (hr.mono (by decide)) (by rfl) T.f_covered.g T.f_covered.F.kp T.f_covered.b tk9 (da_cons (dx_var (pv 1)) da_nil) (len_cons len_nil))))) (dss_one (ds_if (dt_cmp (op_eqX hu) f_eq (dx_var (pv 0)) dx_int (nomark _)) (dss_one (ds_expr (DO.frz (do_call0 k_odd_covered (hr.mono (by decide)) (by rfl) T.f_odd_covered.g T.f_odd_covered.F.kp T.f_odd_covered.b tk9 (da_cons (dx_var (pv 1)) da_nil) (len_cons len_nil))))) (dss_one (ds_expr (DO.frz (do_call0 k_depth_at (hr.mono (by decide)) (by rfl) T.f_depth_at.g T.f_depth_at.F.kp T.f_depth_at.b tk9 (da_cons (dx_var (pv 1)) (da_cons (dx_var (pv 2)) da_nil)) (len_cons (len_cons len_nil))))))))))) (fun a9 pn9 => (dss_one (ds_set (i := 4) sc__law_told.nd rfl (by first | exact Or.inl rfl | exact Or.inr rfl) (DX.own (dx_var (pv 5)))))))
    (dss_cons (ds_if (dt_cmp (op_neX hu) f_ne (dx_callB (call_reprD hr.g hu T.sm) f_reprD (by rfl) T.z_repr bo_repr (da_cons (DO.frz (do_lst (da_cons (dx_var (pv 1)) (da_cons (dx_var (pv 2)) da_nil)))) da_nil)) (dx_var (pv 3)) (nomark _)) (dss_one (ds_ret (DX.own dx_str))) dss_nil)
    (dss_one (ds_ret (DX.own (dx_if (dt_cmp op_isN f_isN (dx_var (pv 4)) dx_non (nomark _)) dx_str (DO.frz (do_call0 k__law_class (hr.mono (by decide)) (by rfl) T.f__law_class.g T.f__law_class.F.kp T.f__law_class.b tk (da_cons (dx_var (pv 4)) da_nil) (len_cons len_nil))))))))))
theorem k_law_ (T : Tx K mg ad fs cs) : FnG P w K mg base (L2.CX P w) 6 (ad 16) (fs 16) ["script"] (spD K 1 (m_law cs)) := by
  refine fn_mirror (N := sc_law_N) T.f_law.F sc_law fun X pvs W cdv A outer s H E hX tk hr => ?_
  subst hX
  have hu := hr.units
  have k__law_tank := k__law_tank_ (P := P) (w := w) (base := base) T
  have k__law_some_spans := k__law_some_spans_ (P := P) (w := w) (base := base) T
  have k__law_no_intervals := k__law_no_intervals_ (P := P) (w := w) (base := base) T
  have k__law_told := k__law_told_ (P := P) (w := w) (base := base) T
  exact (dss_cons (ds_for (passes_of rfl) rfl (di_range1 (by rfl) T.z_range (da_cons (dx_callB (call_maxX rfl) f_max (by rfl) T.z_max bo_max (da_cons dx_int (da_cons (dx_callB (call_minX rfl) f_min (by rfl) T.z_min bo_min (da_cons dx_int (da_cons (dx_callB call_len f_len (by rfl) T.z_len bo_len (da_cons (dx_var (pv 0)) da_nil)) da_nil))) da_nil))) da_nil)) (dg_name (i := 1) sc_law.nd rfl (by first | exact Or.inl rfl | exact Or.inr rfl)) (dss_cons (ds_set (i := 2) sc_law.nd rfl (by first | exact Or.inl rfl | exact Or.inr rfl) (do_call0 k__law_tank (hr.mono (by decide)) (by rfl) T.f__law_tank.g T.f__law_tank.F.kp T.f__law_tank.b tk (da_cons (dx_var (pv 0)) (da_cons (dx_var (pv 1)) da_nil)) (len_cons (len_cons len_nil)))) (dss_cons (ds_set (i := 3) sc_law.nd rfl (by first | exact Or.inl rfl | exact Or.inr rfl) (DO.fz (do_call1 k__law_some_spans (hr.mono (by decide)) (by rfl) T.f__law_some_spans.g T.f__law_some_spans.F.kp T.f__law_some_spans.b tk (dr_slot (pv 2) (dr_fz dx_int dr_nil)) (lenr_slot (lenr_fz lenr_nil))))) (dss_cons (ds_for (passes_of rfl) rfl (di_list (DO.frz (do_call1 k__law_no_intervals (hr.mono (by decide)) (by rfl) T.f__law_no_intervals.g T.f__law_no_intervals.F.kp T.f__law_no_intervals.b tk (dr_slot (pv 2) (dr_fz (dx_var (pv 3)) dr_nil)) (lenr_slot (lenr_fz lenr_nil))))) (dg_name (i := 4) sc_law.nd rfl (by first | exact Or.inl rfl | exact Or.inr rfl)) (dss_cons (ds_set (i := 5) sc_law.nd rfl (by first | exact Or.inl rfl | exact Or.inr rfl) (DO.fz (do_lst (da_cons (DO.frz (do_call0 k__law_told (hr.mono (by decide)) (by rfl) T.f__law_told.g T.f__law_told.F.kp T.f__law_told.b tk (da_cons dx_int (da_cons (dx_var (pv 4)) (da_cons dx_non da_nil))) (len_cons (len_cons (len_cons len_nil))))) (da_cons (DO.frz (do_call0 k__law_told (hr.mono (by decide)) (by rfl) T.f__law_told.g T.f__law_told.F.kp T.f__law_told.b tk (da_cons dx_int (da_cons (dx_var (pv 4)) (da_cons dx_non da_nil))) (len_cons (len_cons (len_cons len_nil))))) (da_cons (DO.frz (do_call0 k__law_told (hr.mono (by decide)) (by rfl) T.f__law_told.g T.f__law_told.F.kp T.f__law_told.b tk (da_cons dx_int (da_cons (dx_var (pv 4)) (da_cons dx_int da_nil))) (len_cons (len_cons (len_cons len_nil))))) (da_cons (DO.frz (do_call0 k__law_told (hr.mono (by decide)) (by rfl) T.f__law_told.g T.f__law_told.F.kp T.f__law_told.b tk (da_cons dx_int (da_cons (dx_var (pv 4)) (da_cons dx_non da_nil))) (len_cons (len_cons (len_cons len_nil))))) da_nil))))))) (dss_one (ds_if (dt_cmp (op_neX hu) f_ne (dx_var (pv 5)) (DO.frz (do_repC (do_lst (da_cons dx_str da_nil)))) (nomark _)) (dss_one (ds_ret (DX.own dx_bl))) dss_nil)))) (dss_cons (ds_for (passes_of rfl) rfl (di_list (DO.frz (do_lst (da_cons dx_non (da_cons dx_bl (da_cons dx_bl (da_cons dx_str (da_cons dx_str (da_cons (dx_tup (da_cons dx_int da_nil)) (da_cons (DO.frz (do_lst (da_cons dx_int da_nil))) (da_cons (DO.frz (do_lst da_nil)) (da_cons dx_dict0 (da_cons (dx_tup (da_cons dx_int (da_cons dx_int da_nil))) da_nil))))))))))))) (dg_name (i := 4) sc_law.nd rfl (by first | exact Or.inl rfl | exact Or.inr rfl)) (dss_one (ds_if (dt_cmp (op_neX hu) f_ne (DO.frz (do_lst (da_cons (DO.frz (do_call0 k__law_told (hr.mono (by decide)) (by rfl) T.f__law_told.g T.f__law_told.F.kp T.f__law_told.b tk (da_cons dx_int (da_cons (dx_var (pv 3)) (da_cons (dx_var (pv 4)) da_nil))) (len_cons (len_cons (len_cons len_nil))))) (da_cons (DO.frz (do_call0 k__law_told (hr.mono (by decide)) (by rfl) T.f__law_told.g T.f__law_told.F.kp T.f__law_told.b tk (da_cons dx_int (da_cons (DO.frz (do_lst da_nil)) (da_cons (dx_var (pv 4)) da_nil))) (len_cons (len_cons (len_cons len_nil))))) da_nil)))) (DO.frz (do_repC (do_lst (da_cons dx_str da_nil)))) (nomark _)) (dss_one (ds_ret (DX.own dx_bl))) dss_nil))) (dss_cons (ds_set (i := 5) sc_law.nd rfl (by first | exact Or.inl rfl | exact Or.inr rfl) (DO.fz (do_cat (DO.dq (do_comp (own := [("door", 6)]) rfl sc_law.nd (di_range1 (by rfl) T.z_range (da_cons dx_int da_nil)) (blkOk_by (N := sc_law_N) (sc := defScope s_law) (own := [("door", 6)]) (by decide +kernel)) (fun _ _ _ _ _ => (dg_name (i := 6) sc_law.nd rfl (by first | exact Or.inl rfl | exact Or.inr rfl))) (fun _ _ _ _ _ => dts_nil) (fun _ _ _ _ _ => (DO.frz (do_call0 k__law_told (hr.mono (by decide)) (by rfl) T.f__law_told.g T.f__law_told.F.kp T.f__law_told.b takes0 (da_cons (dx_var (pv 6)) (da_cons (dx_var (pv 3)) (da_cons dx_int da_nil))) (len_cons (len_cons (len_cons len_nil)))))) (by decide) (wip_name))) (DO.dq (do_comp (own := [("door", 6)]) rfl sc_law.nd (di_range1 (by rfl) T.z_range (da_cons dx_int da_nil)) (blkOk_by (N := sc_law_N) (sc := defScope s_law) (own := [("door", 6)]) (by decide +kernel)) (fun _ _ _ _ _ => (dg_name (i := 6) sc_law.nd rfl (by first | exact Or.inl rfl | exact Or.inr rfl))) (fun _ _ _ _ _ => dts_nil) (fun _ _ _ _ _ => (DO.frz (do_call0 k__law_told (hr.mono (by decide)) (by rfl) T.f__law_told.g T.f__law_told.F.kp T.f__law_told.b takes0 (da_cons (dx_var (pv 6)) (da_cons (DO.frz (do_lst da_nil)) (da_cons (dx_op2 op_powX f_pow dx_int dx_int) da_nil))) (len_cons (len_cons (len_cons len_nil)))))) (by decide) (wip_name)))))) (dss_one (ds_if (dt_cmp (op_neX hu) f_ne (DO.frz (do_cat (DX.dq (dx_var (pv 5))) (DO.dq (do_lst (da_cons (DO.frz (do_call0 k__law_told (hr.mono (by decide)) (by rfl) T.f__law_told.g T.f__law_told.F.kp T.f__law_told.b tk (da_cons dx_int (da_cons (dx_var (pv 3)) (da_cons (dx_op2 op_sub f_sub dx_int (dx_op2 op_powX f_pow dx_int dx_int)) da_nil))) (len_cons (len_cons (len_cons len_nil))))) da_nil))))) (DO.frz (do_repC (do_lst (da_cons dx_str da_nil)))) (nomark _)) (dss_one (ds_ret (DX.own dx_bl))) dss_nil))))))))
    (dss_one (ds_ret (DX.own dx_bl))))
end
set_option maxHeartbeats 0 in
theorem all_mk {l : PySem.W.OpenLaw} {w : World} {K : PySem.W.Frag} {h : Heap} {mg : Str → Option Value} {fa f1 f2 f3 f4 f5 f6 f7 f8 f9 f10 f11 f12 f13 f14 f15 f16 f17 C0 C1 C2 C3 C4 C5 C6 C7 C8 C9 C10 C11 C12 C13 C14 C15 C16 C17 C18 C19 C20 C21 C22 C23 C24 C25 C26 C27 C28 C29 : Addr} {smd : Option Addr} {sme : Array DictEntry} {smn : Nat} {sms : Array (Option Value)} (X : K.In h) (G : h.Ns mainGlobals mg) (hfa : mg "law" = some (.ref fa))
    {od1 an1 od2 an2 od3 an3 od4 an4 od5 an5 od6 an6 od7 an7 od8 an8 od9 an9 od10 an10 od11 an11 od12 an12 od13 an13 od14 an14 od15 an15 od16 an16 od17 an17 : Option Addr} {sl1 sl2 sl3 sl4 sl5 sl6 sl7 sl8 sl9 sl10 sl11 sl12 sl13 sl14 sl15 sl16 sl17 : Array (Option Value)} {oc1 dc1 pm1 cd1 ct1 kV1 oc2 dc2 pm2 cd2 ct2 kV2 oc3 dc3 pm3 cd3 ct3 kV3 oc4 dc4 pm4 cd4 ct4 kV4 oc5 dc5 pm5 cd5 ct5 kV5 oc6 dc6 pm6 cd6 ct6 kV6 oc7 dc7 pm7 cd7 ct7 kV7 oc8 dc8 pm8 cd8 ct8 kV8 oc9 dc9 pm9 cd9 ct9 kV9 oc10 dc10 pm10 cd10 ct10 kV10 oc11 dc11 pm11 cd11 ct11 kV11 oc12 dc12 pm12 cd12 ct12 kV12 oc13 dc13 pm13 cd13 ct13 kV13 oc14 dc14 pm14 cd14 ct14 kV14 oc15 dc15 pm15 cd15 ct15 kV15 oc16 dc16 pm16 cd16 ct16 kV16 oc17 dc17 pm17 cd17 ct17 kV17 : Value}
    (g_PlotError : PySem.W.nsIn K mainGlobals "PlotError" = some (some (.ref C0)))
    (g_InvalidText : PySem.W.nsIn K mainGlobals "InvalidText" = some (some (.ref C1)))
    (g_InvalidSource : PySem.W.nsIn K mainGlobals "InvalidSource" = some (some (.ref C2)))
    (g_TooDeep : PySem.W.nsIn K mainGlobals "TooDeep" = some (some (.ref C3)))
    (g_TooLarge : PySem.W.nsIn K mainGlobals "TooLarge" = some (some (.ref C4)))
    (g_InvalidProgram : PySem.W.nsIn K mainGlobals "InvalidProgram" = some (some (.ref C5)))
    (g_InvalidTimes : PySem.W.nsIn K mainGlobals "InvalidTimes" = some (some (.ref C6)))
    (g_InvalidIndex : PySem.W.nsIn K mainGlobals "InvalidIndex" = some (some (.ref C7)))
    (g_InvalidLetter : PySem.W.nsIn K mainGlobals "InvalidLetter" = some (some (.ref C8)))
    (g_InvalidName : PySem.W.nsIn K mainGlobals "InvalidName" = some (some (.ref C9)))
    (g_HasPen : PySem.W.nsIn K mainGlobals "HasPen" = some (some (.ref C10)))
    (g_InvalidMotion : PySem.W.nsIn K mainGlobals "InvalidMotion" = some (some (.ref C11)))
    (g_InvalidPose : PySem.W.nsIn K mainGlobals "InvalidPose" = some (some (.ref C12)))
    (g_InvalidPoint : PySem.W.nsIn K mainGlobals "InvalidPoint" = some (some (.ref C13)))
    (g_InvalidEdge : PySem.W.nsIn K mainGlobals "InvalidEdge" = some (some (.ref C14)))
    (g_InvalidPicture : PySem.W.nsIn K mainGlobals "InvalidPicture" = some (some (.ref C15)))
    (g_InvalidTurn : PySem.W.nsIn K mainGlobals "InvalidTurn" = some (some (.ref C16)))
    (g_InvalidFace : PySem.W.nsIn K mainGlobals "InvalidFace" = some (some (.ref C17)))
    (g_InvalidFaces : PySem.W.nsIn K mainGlobals "InvalidFaces" = some (some (.ref C18)))
    (g_NotEven : PySem.W.nsIn K mainGlobals "NotEven" = some (some (.ref C19)))
    (g_NotClosed : PySem.W.nsIn K mainGlobals "NotClosed" = some (some (.ref C20)))
    (g_InvalidIntervals : PySem.W.nsIn K mainGlobals "InvalidIntervals" = some (some (.ref C21)))
    (g_InvalidPlace : PySem.W.nsIn K mainGlobals "InvalidPlace" = some (some (.ref C22)))
    (g_NotDrifting : PySem.W.nsIn K mainGlobals "NotDrifting" = some (some (.ref C23)))
    (g_InvalidCount : PySem.W.nsIn K mainGlobals "InvalidCount" = some (some (.ref C24)))
    (g_NoSteps : PySem.W.nsIn K mainGlobals "NoSteps" = some (some (.ref C25)))
    (g_InvalidOperation : PySem.W.nsIn K mainGlobals "InvalidOperation" = some (some (.ref C26)))
    (g_Nothing : PySem.W.nsIn K mainGlobals "Nothing" = some (some (.ref C27)))
    (g_InvalidArt : PySem.W.nsIn K mainGlobals "InvalidArt" = some (some (.ref C28)))
    (g_InvalidCommand : PySem.W.nsIn K mainGlobals "InvalidCommand" = some (some (.ref C29)))
    (a1 : PySem.W.nsIn K mainGlobals "_law_tank" = some (some (.ref f1)))
    (l1 : K.lookup f1 = some ⟨oc1, od1, .func (PySem.W.fnOf "_law_tank" "_law_tank" (defArgs s__law_tank) (defBody s__law_tank) (defScope s__law_tank) .none kV1 dc1 pm1 an1 cd1 ct1), sl1⟩)
    (c1 : PySem.W.codeIn K cd1 "_law_tank" = true)
    (k1 : PySem.W.keepIn K (.ref f1) = true)
    (a2 : PySem.W.nsIn K mainGlobals "_law_dip" = some (some (.ref f2)))
    (l2 : K.lookup f2 = some ⟨oc2, od2, .func (PySem.W.fnOf "_law_dip" "_law_dip" (defArgs s__law_dip) (defBody s__law_dip) (defScope s__law_dip) .none kV2 dc2 pm2 an2 cd2 ct2), sl2⟩)
    (c2 : PySem.W.codeIn K cd2 "_law_dip" = true)
    (k2 : PySem.W.keepIn K (.ref f2) = true)
    (a3 : PySem.W.nsIn K mainGlobals "_law_some_spans" = some (some (.ref f3)))
    (l3 : K.lookup f3 = some ⟨oc3, od3, .func (PySem.W.fnOf "_law_some_spans" "_law_some_spans" (defArgs s__law_some_spans) (defBody s__law_some_spans) (defScope s__law_some_spans) .none kV3 dc3 pm3 an3 cd3 ct3), sl3⟩)
    (c3 : PySem.W.codeIn K cd3 "_law_some_spans" = true)
    (k3 : PySem.W.keepIn K (.ref f3) = true)
    (a4 : PySem.W.nsIn K mainGlobals "_law_no_intervals" = some (some (.ref f4)))
    (l4 : K.lookup f4 = some ⟨oc4, od4, .func (PySem.W.fnOf "_law_no_intervals" "_law_no_intervals" (defArgs s__law_no_intervals) (defBody s__law_no_intervals) (defScope s__law_no_intervals) .none kV4 dc4 pm4 an4 cd4 ct4), sl4⟩)
    (c4 : PySem.W.codeIn K cd4 "_law_no_intervals" = true)
    (k4 : PySem.W.keepIn K (.ref f4) = true)
    (a5 : PySem.W.nsIn K mainGlobals "_law_class" = some (some (.ref f5)))
    (l5 : K.lookup f5 = some ⟨oc5, od5, .func (PySem.W.fnOf "_law_class" "_law_class" (defArgs s__law_class) (defBody s__law_class) (defScope s__law_class) .none kV5 dc5 pm5 an5 cd5 ct5), sl5⟩)
    (c5 : PySem.W.codeIn K cd5 "_law_class" = true)
    (k5 : PySem.W.keepIn K (.ref f5) = true)
    (a6 : PySem.W.nsIn K mainGlobals "is_int" = some (some (.ref f6)))
    (l6 : K.lookup f6 = some ⟨oc6, od6, .func (PySem.W.fnOf "is_int" "is_int" (defArgs s_is_int) (defBody s_is_int) (defScope s_is_int) .none kV6 dc6 pm6 an6 cd6 ct6), sl6⟩)
    (c6 : PySem.W.codeIn K cd6 "is_int" = true)
    (k6 : PySem.W.keepIn K (.ref f6) = true)
    (a7 : PySem.W.nsIn K mainGlobals "is_interval" = some (some (.ref f7)))
    (l7 : K.lookup f7 = some ⟨oc7, od7, .func (PySem.W.fnOf "is_interval" "is_interval" (defArgs s_is_interval) (defBody s_is_interval) (defScope s_is_interval) .none kV7 dc7 pm7 an7 cd7 ct7), sl7⟩)
    (c7 : PySem.W.codeIn K cd7 "is_interval" = true)
    (k7 : PySem.W.keepIn K (.ref f7) = true)
    (a8 : PySem.W.nsIn K mainGlobals "require_intervals" = some (some (.ref f8)))
    (l8 : K.lookup f8 = some ⟨oc8, od8, .func (PySem.W.fnOf "require_intervals" "require_intervals" (defArgs s_require_intervals) (defBody s_require_intervals) (defScope s_require_intervals) .none kV8 dc8 pm8 an8 cd8 ct8), sl8⟩)
    (c8 : PySem.W.codeIn K cd8 "require_intervals" = true)
    (k8 : PySem.W.keepIn K (.ref f8) = true)
    (a9 : PySem.W.nsIn K mainGlobals "covered_in" = some (some (.ref f9)))
    (l9 : K.lookup f9 = some ⟨oc9, od9, .func (PySem.W.fnOf "covered_in" "covered_in" (defArgs s_covered_in) (defBody s_covered_in) (defScope s_covered_in) .none kV9 dc9 pm9 an9 cd9 ct9), sl9⟩)
    (c9 : PySem.W.codeIn K cd9 "covered_in" = true)
    (k9 : PySem.W.keepIn K (.ref f9) = true)
    (a10 : PySem.W.nsIn K mainGlobals "covered" = some (some (.ref f10)))
    (l10 : K.lookup f10 = some ⟨oc10, od10, .func (PySem.W.fnOf "covered" "covered" (defArgs s_covered) (defBody s_covered) (defScope s_covered) .none kV10 dc10 pm10 an10 cd10 ct10), sl10⟩)
    (c10 : PySem.W.codeIn K cd10 "covered" = true)
    (k10 : PySem.W.keepIn K (.ref f10) = true)
    (a11 : PySem.W.nsIn K mainGlobals "odd_stretches" = some (some (.ref f11)))
    (l11 : K.lookup f11 = some ⟨oc11, od11, .func (PySem.W.fnOf "odd_stretches" "odd_stretches" (defArgs s_odd_stretches) (defBody s_odd_stretches) (defScope s_odd_stretches) .none kV11 dc11 pm11 an11 cd11 ct11), sl11⟩)
    (c11 : PySem.W.codeIn K cd11 "odd_stretches" = true)
    (k11 : PySem.W.keepIn K (.ref f11) = true)
    (a12 : PySem.W.nsIn K mainGlobals "odd_in_spans" = some (some (.ref f12)))
    (l12 : K.lookup f12 = some ⟨oc12, od12, .func (PySem.W.fnOf "odd_in_spans" "odd_in_spans" (defArgs s_odd_in_spans) (defBody s_odd_in_spans) (defScope s_odd_in_spans) .none kV12 dc12 pm12 an12 cd12 ct12), sl12⟩)
    (c12 : PySem.W.codeIn K cd12 "odd_in_spans" = true)
    (k12 : PySem.W.keepIn K (.ref f12) = true)
    (a13 : PySem.W.nsIn K mainGlobals "odd_covered" = some (some (.ref f13)))
    (l13 : K.lookup f13 = some ⟨oc13, od13, .func (PySem.W.fnOf "odd_covered" "odd_covered" (defArgs s_odd_covered) (defBody s_odd_covered) (defScope s_odd_covered) .none kV13 dc13 pm13 an13 cd13 ct13), sl13⟩)
    (c13 : PySem.W.codeIn K cd13 "odd_covered" = true)
    (k13 : PySem.W.keepIn K (.ref f13) = true)
    (a14 : PySem.W.nsIn K mainGlobals "depth_in" = some (some (.ref f14)))
    (l14 : K.lookup f14 = some ⟨oc14, od14, .func (PySem.W.fnOf "depth_in" "depth_in" (defArgs s_depth_in) (defBody s_depth_in) (defScope s_depth_in) .none kV14 dc14 pm14 an14 cd14 ct14), sl14⟩)
    (c14 : PySem.W.codeIn K cd14 "depth_in" = true)
    (k14 : PySem.W.keepIn K (.ref f14) = true)
    (a15 : PySem.W.nsIn K mainGlobals "depth_at" = some (some (.ref f15)))
    (l15 : K.lookup f15 = some ⟨oc15, od15, .func (PySem.W.fnOf "depth_at" "depth_at" (defArgs s_depth_at) (defBody s_depth_at) (defScope s_depth_at) .none kV15 dc15 pm15 an15 cd15 ct15), sl15⟩)
    (c15 : PySem.W.codeIn K cd15 "depth_at" = true)
    (k15 : PySem.W.keepIn K (.ref f15) = true)
    (a16 : PySem.W.nsIn K mainGlobals "_law_told" = some (some (.ref f16)))
    (l16 : K.lookup f16 = some ⟨oc16, od16, .func (PySem.W.fnOf "_law_told" "_law_told" (defArgs s__law_told) (defBody s__law_told) (defScope s__law_told) .none kV16 dc16 pm16 an16 cd16 ct16), sl16⟩)
    (c16 : PySem.W.codeIn K cd16 "_law_told" = true)
    (k16 : PySem.W.keepIn K (.ref f16) = true)
    (a17 : PySem.W.nsIn K mainGlobals "law" = some (some (.ref f17)))
    (l17 : K.lookup f17 = some ⟨oc17, od17, .func (PySem.W.fnOf "law" "law" (defArgs s_law) (defBody s_law) (defScope s_law) .none kV17 dc17 pm17 an17 cd17 ct17), sl17⟩)
    (c17 : PySem.W.codeIn K cd17 "law" = true)
    (k17 : PySem.W.keepIn K (.ref f17) = true)
    (nd : ([C0, C1, C2, C3, C4, C5, C6, C7, C8, C9, C10, C11, C12, C13, C14, C15, C16, C17, C18, C19, C20, C21, C22, C23, C24, C25, C26, C27, C28, C29] : List Addr).Nodup)
    (z_ValueError : PySem.W.nsIn K mainGlobals "ValueError" = some none)
    (z_all : PySem.W.nsIn K mainGlobals "all" = some none)
    (z_bool : PySem.W.nsIn K mainGlobals "bool" = some none)
    (z_int : PySem.W.nsIn K mainGlobals "int" = some none)
    (z_isinstance : PySem.W.nsIn K mainGlobals "isinstance" = some none)
    (z_len : PySem.W.nsIn K mainGlobals "len" = some none)
    (z_list : PySem.W.nsIn K mainGlobals "list" = some none)
    (z_max : PySem.W.nsIn K mainGlobals "max" = some none)
    (z_min : PySem.W.nsIn K mainGlobals "min" = some none)
    (z_range : PySem.W.nsIn K mainGlobals "range" = some none)
    (z_repr : PySem.W.nsIn K mainGlobals "repr" = some none)
    (z_sorted : PySem.W.nsIn K mainGlobals "sorted" = some none)
    (z_sum : PySem.W.nsIn K mainGlobals "sum" = some none)
    (z_tuple : PySem.W.nsIn K mainGlobals "tuple" = some none)
    (z_zip : PySem.W.nsIn K mainGlobals "zip" = some none)
    (sm : K.lookup sysModules = some ⟨.type "dict", smd, .dict sme smn, sms⟩)
    (xq_InvalidIntervals : PySem.W.excIn K C21 [.type "ValueError", .type "Exception", .type "BaseException", .type "object"] "ValueError.__new__" = true)
    (xk_InvalidIntervals : PySem.W.keepIn K (.ref C21) = true)
    (xb_InvalidIntervals : PySem.W.subIn K (.ref C21) (.type "BaseException") = some true)
    (xt_InvalidIntervals : PySem.W.typeIn K (.ref C21) = some (.type "type"))
    (xq_InvalidPlace : PySem.W.excIn K C22 [.type "ValueError", .type "Exception", .type "BaseException", .type "object"] "ValueError.__new__" = true)
    (xk_InvalidPlace : PySem.W.keepIn K (.ref C22) = true)
    (xb_InvalidPlace : PySem.W.subIn K (.ref C22) (.type "BaseException") = some true)
    (xt_InvalidPlace : PySem.W.typeIn K (.ref C22) = some (.type "type"))
    (xs : PySem.W.specialIn K (.builtin "object.__class__") "__get__" = some (some (.builtin "getset_descriptor.__get__")))
    (xz : PySem.W.takesIn K (.builtin "object.__class__") = some true)
    (xg_InvalidIntervals : PySem.W.findIn K (.ref C21) "__getattribute__" = some (some (.builtin "BaseException.__getattribute__")))
    (xn_InvalidIntervals : PySem.W.findIn K (.ref C21) "__getattr__" = some none)
    (xd_InvalidIntervals : PySem.W.hasDictIn K C21 = true)
    (xa_InvalidIntervals : PySem.W.findIn K (.ref C21) "__class__" = some (some (.builtin "object.__class__")))
    (xo_InvalidIntervals : PySem.W.mroIn K C21 (.type "object") = some true)
    (xv_InvalidIntervals : PySem.W.subIn K (.ref C21) (.type "ValueError") = some true)
    (xg_InvalidPlace : PySem.W.findIn K (.ref C22) "__getattribute__" = some (some (.builtin "BaseException.__getattribute__")))
    (xn_InvalidPlace : PySem.W.findIn K (.ref C22) "__getattr__" = some none)
    (xd_InvalidPlace : PySem.W.hasDictIn K C22 = true)
    (xa_InvalidPlace : PySem.W.findIn K (.ref C22) "__class__" = some (some (.builtin "object.__class__")))
    (xo_InvalidPlace : PySem.W.mroIn K C22 (.type "object") = some true)
    (xv_InvalidPlace : PySem.W.subIn K (.ref C22) (.type "ValueError") = some true)
    (yc_HasPen : PySem.W.isClsIn K C10 = true)
    (yt_HasPen : PySem.W.typeIn K (.ref C10) = some (.type "type"))
    (ys_HasPen : PySem.W.subIn K (.ref C10) (.ref C10) = some true)
    (yc_InvalidArt : PySem.W.isClsIn K C28 = true)
    (yt_InvalidArt : PySem.W.typeIn K (.ref C28) = some (.type "type"))
    (ys_InvalidArt : PySem.W.subIn K (.ref C28) (.ref C28) = some true)
    (yc_InvalidCommand : PySem.W.isClsIn K C29 = true)
    (yt_InvalidCommand : PySem.W.typeIn K (.ref C29) = some (.type "type"))
    (ys_InvalidCommand : PySem.W.subIn K (.ref C29) (.ref C29) = some true)
    (yc_InvalidCount : PySem.W.isClsIn K C24 = true)
    (yt_InvalidCount : PySem.W.typeIn K (.ref C24) = some (.type "type"))
    (ys_InvalidCount : PySem.W.subIn K (.ref C24) (.ref C24) = some true)
    (yc_InvalidFace : PySem.W.isClsIn K C17 = true)
    (yt_InvalidFace : PySem.W.typeIn K (.ref C17) = some (.type "type"))
    (ys_InvalidFace : PySem.W.subIn K (.ref C17) (.ref C17) = some true)
    (yc_InvalidFaces : PySem.W.isClsIn K C18 = true)
    (yt_InvalidFaces : PySem.W.typeIn K (.ref C18) = some (.type "type"))
    (ys_InvalidFaces : PySem.W.subIn K (.ref C18) (.ref C18) = some true)
    (yc_InvalidLetter : PySem.W.isClsIn K C8 = true)
    (yt_InvalidLetter : PySem.W.typeIn K (.ref C8) = some (.type "type"))
    (ys_InvalidLetter : PySem.W.subIn K (.ref C8) (.ref C8) = some true)
    (yc_InvalidName : PySem.W.isClsIn K C9 = true)
    (yt_InvalidName : PySem.W.typeIn K (.ref C9) = some (.type "type"))
    (ys_InvalidName : PySem.W.subIn K (.ref C9) (.ref C9) = some true)
    (yc_InvalidOperation : PySem.W.isClsIn K C26 = true)
    (yt_InvalidOperation : PySem.W.typeIn K (.ref C26) = some (.type "type"))
    (ys_InvalidOperation : PySem.W.subIn K (.ref C26) (.ref C26) = some true)
    (yc_InvalidPicture : PySem.W.isClsIn K C15 = true)
    (yt_InvalidPicture : PySem.W.typeIn K (.ref C15) = some (.type "type"))
    (ys_InvalidPicture : PySem.W.subIn K (.ref C15) (.ref C15) = some true)
    (yc_InvalidSource : PySem.W.isClsIn K C2 = true)
    (yt_InvalidSource : PySem.W.typeIn K (.ref C2) = some (.type "type"))
    (ys_InvalidSource : PySem.W.subIn K (.ref C2) (.ref C2) = some true)
    (yc_InvalidText : PySem.W.isClsIn K C1 = true)
    (yt_InvalidText : PySem.W.typeIn K (.ref C1) = some (.type "type"))
    (ys_InvalidText : PySem.W.subIn K (.ref C1) (.ref C1) = some true)
    (yc_InvalidTurn : PySem.W.isClsIn K C16 = true)
    (yt_InvalidTurn : PySem.W.typeIn K (.ref C16) = some (.type "type"))
    (ys_InvalidTurn : PySem.W.subIn K (.ref C16) (.ref C16) = some true)
    (yc_InvalidProgram : PySem.W.isClsIn K C5 = true)
    (yt_InvalidProgram : PySem.W.typeIn K (.ref C5) = some (.type "type"))
    (ys_InvalidProgram : PySem.W.subIn K (.ref C5) (.ref C5) = some true)
    (yc_InvalidTimes : PySem.W.isClsIn K C6 = true)
    (yt_InvalidTimes : PySem.W.typeIn K (.ref C6) = some (.type "type"))
    (ys_InvalidTimes : PySem.W.subIn K (.ref C6) (.ref C6) = some true)
    (yc_InvalidIndex : PySem.W.isClsIn K C7 = true)
    (yt_InvalidIndex : PySem.W.typeIn K (.ref C7) = some (.type "type"))
    (ys_InvalidIndex : PySem.W.subIn K (.ref C7) (.ref C7) = some true)
    (yc_NoSteps : PySem.W.isClsIn K C25 = true)
    (yt_NoSteps : PySem.W.typeIn K (.ref C25) = some (.type "type"))
    (ys_NoSteps : PySem.W.subIn K (.ref C25) (.ref C25) = some true)
    (yc_NotClosed : PySem.W.isClsIn K C20 = true)
    (yt_NotClosed : PySem.W.typeIn K (.ref C20) = some (.type "type"))
    (ys_NotClosed : PySem.W.subIn K (.ref C20) (.ref C20) = some true)
    (yc_Nothing : PySem.W.isClsIn K C27 = true)
    (yt_Nothing : PySem.W.typeIn K (.ref C27) = some (.type "type"))
    (ys_Nothing : PySem.W.subIn K (.ref C27) (.ref C27) = some true)
    (yc_TooDeep : PySem.W.isClsIn K C3 = true)
    (yt_TooDeep : PySem.W.typeIn K (.ref C3) = some (.type "type"))
    (ys_TooDeep : PySem.W.subIn K (.ref C3) (.ref C3) = some true)
    (yc_InvalidMotion : PySem.W.isClsIn K C11 = true)
    (yt_InvalidMotion : PySem.W.typeIn K (.ref C11) = some (.type "type"))
    (ys_InvalidMotion : PySem.W.subIn K (.ref C11) (.ref C11) = some true)
    (yc_InvalidPose : PySem.W.isClsIn K C12 = true)
    (yt_InvalidPose : PySem.W.typeIn K (.ref C12) = some (.type "type"))
    (ys_InvalidPose : PySem.W.subIn K (.ref C12) (.ref C12) = some true)
    (yc_InvalidPoint : PySem.W.isClsIn K C13 = true)
    (yt_InvalidPoint : PySem.W.typeIn K (.ref C13) = some (.type "type"))
    (ys_InvalidPoint : PySem.W.subIn K (.ref C13) (.ref C13) = some true)
    (yc_InvalidEdge : PySem.W.isClsIn K C14 = true)
    (yt_InvalidEdge : PySem.W.typeIn K (.ref C14) = some (.type "type"))
    (ys_InvalidEdge : PySem.W.subIn K (.ref C14) (.ref C14) = some true)
    (yc_InvalidIntervals : PySem.W.isClsIn K C21 = true)
    (yt_InvalidIntervals : PySem.W.typeIn K (.ref C21) = some (.type "type"))
    (ys_InvalidIntervals : PySem.W.subIn K (.ref C21) (.ref C21) = some true)
    (yc_NotEven : PySem.W.isClsIn K C19 = true)
    (yt_NotEven : PySem.W.typeIn K (.ref C19) = some (.type "type"))
    (ys_NotEven : PySem.W.subIn K (.ref C19) (.ref C19) = some true)
    (yc_InvalidPlace : PySem.W.isClsIn K C22 = true)
    (yt_InvalidPlace : PySem.W.typeIn K (.ref C22) = some (.type "type"))
    (ys_InvalidPlace : PySem.W.subIn K (.ref C22) (.ref C22) = some true)
    (yc_NotDrifting : PySem.W.isClsIn K C23 = true)
    (yt_NotDrifting : PySem.W.typeIn K (.ref C23) = some (.type "type"))
    (ys_NotDrifting : PySem.W.subIn K (.ref C23) (.ref C23) = some true)
    (yc_TooLarge : PySem.W.isClsIn K C4 = true)
    (yt_TooLarge : PySem.W.typeIn K (.ref C4) = some (.type "type"))
    (ys_TooLarge : PySem.W.subIn K (.ref C4) (.ref C4) = some true)
    (yp_InvalidIntervals_HasPen : PySem.W.subIn K (.ref C21) (.ref C10) = some false)
    (yp_InvalidIntervals_InvalidArt : PySem.W.subIn K (.ref C21) (.ref C28) = some false)
    (yp_InvalidIntervals_InvalidCommand : PySem.W.subIn K (.ref C21) (.ref C29) = some false)
    (yp_InvalidIntervals_InvalidCount : PySem.W.subIn K (.ref C21) (.ref C24) = some false)
    (yp_InvalidIntervals_InvalidFace : PySem.W.subIn K (.ref C21) (.ref C17) = some false)
    (yp_InvalidIntervals_InvalidFaces : PySem.W.subIn K (.ref C21) (.ref C18) = some false)
    (yp_InvalidIntervals_InvalidLetter : PySem.W.subIn K (.ref C21) (.ref C8) = some false)
    (yp_InvalidIntervals_InvalidName : PySem.W.subIn K (.ref C21) (.ref C9) = some false)
    (yp_InvalidIntervals_InvalidOperation : PySem.W.subIn K (.ref C21) (.ref C26) = some false)
    (yp_InvalidIntervals_InvalidPicture : PySem.W.subIn K (.ref C21) (.ref C15) = some false)
    (yp_InvalidIntervals_InvalidSource : PySem.W.subIn K (.ref C21) (.ref C2) = some false)
    (yp_InvalidIntervals_InvalidText : PySem.W.subIn K (.ref C21) (.ref C1) = some false)
    (yp_InvalidIntervals_InvalidTurn : PySem.W.subIn K (.ref C21) (.ref C16) = some false)
    (yp_InvalidIntervals_InvalidProgram : PySem.W.subIn K (.ref C21) (.ref C5) = some false)
    (yp_InvalidIntervals_InvalidTimes : PySem.W.subIn K (.ref C21) (.ref C6) = some false)
    (yp_InvalidIntervals_InvalidIndex : PySem.W.subIn K (.ref C21) (.ref C7) = some false)
    (yp_InvalidIntervals_NoSteps : PySem.W.subIn K (.ref C21) (.ref C25) = some false)
    (yp_InvalidIntervals_NotClosed : PySem.W.subIn K (.ref C21) (.ref C20) = some false)
    (yp_InvalidIntervals_Nothing : PySem.W.subIn K (.ref C21) (.ref C27) = some false)
    (yp_InvalidIntervals_TooDeep : PySem.W.subIn K (.ref C21) (.ref C3) = some false)
    (yp_InvalidIntervals_InvalidMotion : PySem.W.subIn K (.ref C21) (.ref C11) = some false)
    (yp_InvalidIntervals_InvalidPose : PySem.W.subIn K (.ref C21) (.ref C12) = some false)
    (yp_InvalidIntervals_InvalidPoint : PySem.W.subIn K (.ref C21) (.ref C13) = some false)
    (yp_InvalidIntervals_InvalidEdge : PySem.W.subIn K (.ref C21) (.ref C14) = some false)
    (yp_InvalidIntervals_NotEven : PySem.W.subIn K (.ref C21) (.ref C19) = some false)
    (yp_InvalidIntervals_InvalidPlace : PySem.W.subIn K (.ref C21) (.ref C22) = some false)
    (yp_InvalidIntervals_NotDrifting : PySem.W.subIn K (.ref C21) (.ref C23) = some false)
    (yp_InvalidIntervals_TooLarge : PySem.W.subIn K (.ref C21) (.ref C4) = some false)
    (yp_InvalidPlace_HasPen : PySem.W.subIn K (.ref C22) (.ref C10) = some false)
    (yp_InvalidPlace_InvalidArt : PySem.W.subIn K (.ref C22) (.ref C28) = some false)
    (yp_InvalidPlace_InvalidCommand : PySem.W.subIn K (.ref C22) (.ref C29) = some false)
    (yp_InvalidPlace_InvalidCount : PySem.W.subIn K (.ref C22) (.ref C24) = some false)
    (yp_InvalidPlace_InvalidFace : PySem.W.subIn K (.ref C22) (.ref C17) = some false)
    (yp_InvalidPlace_InvalidFaces : PySem.W.subIn K (.ref C22) (.ref C18) = some false)
    (yp_InvalidPlace_InvalidLetter : PySem.W.subIn K (.ref C22) (.ref C8) = some false)
    (yp_InvalidPlace_InvalidName : PySem.W.subIn K (.ref C22) (.ref C9) = some false)
    (yp_InvalidPlace_InvalidOperation : PySem.W.subIn K (.ref C22) (.ref C26) = some false)
    (yp_InvalidPlace_InvalidPicture : PySem.W.subIn K (.ref C22) (.ref C15) = some false)
    (yp_InvalidPlace_InvalidSource : PySem.W.subIn K (.ref C22) (.ref C2) = some false)
    (yp_InvalidPlace_InvalidText : PySem.W.subIn K (.ref C22) (.ref C1) = some false)
    (yp_InvalidPlace_InvalidTurn : PySem.W.subIn K (.ref C22) (.ref C16) = some false)
    (yp_InvalidPlace_InvalidProgram : PySem.W.subIn K (.ref C22) (.ref C5) = some false)
    (yp_InvalidPlace_InvalidTimes : PySem.W.subIn K (.ref C22) (.ref C6) = some false)
    (yp_InvalidPlace_InvalidIndex : PySem.W.subIn K (.ref C22) (.ref C7) = some false)
    (yp_InvalidPlace_NoSteps : PySem.W.subIn K (.ref C22) (.ref C25) = some false)
    (yp_InvalidPlace_NotClosed : PySem.W.subIn K (.ref C22) (.ref C20) = some false)
    (yp_InvalidPlace_Nothing : PySem.W.subIn K (.ref C22) (.ref C27) = some false)
    (yp_InvalidPlace_TooDeep : PySem.W.subIn K (.ref C22) (.ref C3) = some false)
    (yp_InvalidPlace_InvalidMotion : PySem.W.subIn K (.ref C22) (.ref C11) = some false)
    (yp_InvalidPlace_InvalidPose : PySem.W.subIn K (.ref C22) (.ref C12) = some false)
    (yp_InvalidPlace_InvalidPoint : PySem.W.subIn K (.ref C22) (.ref C13) = some false)
    (yp_InvalidPlace_InvalidEdge : PySem.W.subIn K (.ref C22) (.ref C14) = some false)
    (yp_InvalidPlace_InvalidIntervals : PySem.W.subIn K (.ref C22) (.ref C21) = some false)
    (yp_InvalidPlace_NotEven : PySem.W.subIn K (.ref C22) (.ref C19) = some false)
    (yp_InvalidPlace_NotDrifting : PySem.W.subIn K (.ref C22) (.ref C23) = some false)
    (yp_InvalidPlace_TooLarge : PySem.W.subIn K (.ref C22) (.ref C4) = some false)
    (zd : PySem.W.hasDictIn K C0 = true)
    (zb : PySem.W.subIn K (.ref C0) (.type "BaseException") = some true)
    (zt : PySem.W.typeIn K (.ref C0) = some (.type "type"))
    (zp_InvalidIntervals : PySem.W.subIn K (.ref C21) (.ref C0) = some true)
    (zp_InvalidPlace : PySem.W.subIn K (.ref C22) (.ref C0) = some true) :
    ∃ fd : FuncData, (∀ (s : Shared) (v : Value), BindsTo s fd ⟨[v], []⟩ [("script", v)]) ∧ ∀ base : Heap, K.In base → base.Ns mainGlobals mg → ∃ cs : Nat → Addr, CsOk cs ∧ FnG l.prog w K mg base (L2.CX l.prog w) 6 fa fd ["script"] (spD K 1 (m_law cs)) := by
  have e := hfa.symm.trans (PySem.W.mg_of X G a17)
  cases e
  have F1 := fun_mk (st := s__law_tank) l1 c1 k1
  have b1 := F1.binds (ps := ["script", "k"]) fun _ _ _ _ _ _ us hl => match us, hl with | [_, _], _ => rfl
  have F2 := fun_mk (st := s__law_dip) l2 c2 k2
  have b2 := F2.binds (ps := ["tank", "bound"]) fun _ _ _ _ _ _ us hl => match us, hl with | [_, _], _ => rfl
  have F3 := fun_mk (st := s__law_some_spans) l3 c3 k3
  have b3 := F3.binds (ps := ["tank", "most"]) fun _ _ _ _ _ _ us hl => match us, hl with | [_, _], _ => rfl
  have F4 := fun_mk (st := s__law_no_intervals) l4 c4 k4
  have b4 := F4.binds (ps := ["tank", "good"]) fun _ _ _ _ _ _ us hl => match us, hl with | [_, _], _ => rfl
  have F5 := fun_mk (st := s__law_class) l5 c5 k5
  have b5 := F5.binds (ps := ["caught"]) fun _ _ _ _ _ _ us hl => match us, hl with | [_], _ => rfl
  have F6 := fun_mk (st := s_is_int) l6 c6 k6
  have b6 := F6.binds (ps := ["value"]) fun _ _ _ _ _ _ us hl => match us, hl with | [_], _ => rfl
  have F7 := fun_mk (st := s_is_interval) l7 c7 k7
  have b7 := F7.binds (ps := ["value"]) fun _ _ _ _ _ _ us hl => match us, hl with | [_], _ => rfl
  have F8 := fun_mk (st := s_require_intervals) l8 c8 k8
  have b8 := F8.binds (ps := ["value"]) fun _ _ _ _ _ _ us hl => match us, hl with | [_], _ => rfl
  have F9 := fun_mk (st := s_covered_in) l9 c9 k9
  have b9 := F9.binds (ps := ["intervals"]) fun _ _ _ _ _ _ us hl => match us, hl with | [_], _ => rfl
  have F10 := fun_mk (st := s_covered) l10 c10 k10
  have b10 := F10.binds (ps := ["intervals"]) fun _ _ _ _ _ _ us hl => match us, hl with | [_], _ => rfl
  have F11 := fun_mk (st := s_odd_stretches) l11 c11 k11
  have b11 := F11.binds (ps := ["intervals"]) fun _ _ _ _ _ _ us hl => match us, hl with | [_], _ => rfl
  have F12 := fun_mk (st := s_odd_in_spans) l12 c12 k12
  have b12 := F12.binds (ps := ["intervals"]) fun _ _ _ _ _ _ us hl => match us, hl with | [_], _ => rfl
  have F13 := fun_mk (st := s_odd_covered) l13 c13 k13
  have b13 := F13.binds (ps := ["intervals"]) fun _ _ _ _ _ _ us hl => match us, hl with | [_], _ => rfl
  have F14 := fun_mk (st := s_depth_in) l14 c14 k14
  have b14 := F14.binds (ps := ["intervals", "place"]) fun _ _ _ _ _ _ us hl => match us, hl with | [_, _], _ => rfl
  have F15 := fun_mk (st := s_depth_at) l15 c15 k15
  have b15 := F15.binds (ps := ["intervals", "place"]) fun _ _ _ _ _ _ us hl => match us, hl with | [_, _], _ => rfl
  have F16 := fun_mk (st := s__law_told) l16 c16 k16
  have b16 := F16.binds (ps := ["door", "value", "place"]) fun _ _ _ _ _ _ us hl => match us, hl with | [_, _, _], _ => rfl
  have F17 := fun_mk (st := s_law) l17 c17 k17
  have b17 := F17.binds (ps := ["script"]) fun _ _ _ _ _ _ us hl => match us, hl with | [_], _ => rfl
  have T : Tx K mg (fun i => match i with | 0 => f1 | 1 => f2 | 2 => f3 | 3 => f4 | 4 => f5 | 5 => f6 | 6 => f7 | 7 => f8 | 8 => f9 | 9 => f10 | 10 => f11 | 11 => f12 | 12 => f13 | 13 => f14 | 14 => f15 | 15 => f16 | 16 => fa | _ => 0) (fun i => match i with | 0 => PySem.W.fnOf "_law_tank" "_law_tank" (defArgs s__law_tank) (defBody s__law_tank) (defScope s__law_tank) .none kV1 dc1 pm1 an1 cd1 ct1 | 1 => PySem.W.fnOf "_law_dip" "_law_dip" (defArgs s__law_dip) (defBody s__law_dip) (defScope s__law_dip) .none kV2 dc2 pm2 an2 cd2 ct2 | 2 => PySem.W.fnOf "_law_some_spans" "_law_some_spans" (defArgs s__law_some_spans) (defBody s__law_some_spans) (defScope s__law_some_spans) .none kV3 dc3 pm3 an3 cd3 ct3 | 3 => PySem.W.fnOf "_law_no_intervals" "_law_no_intervals" (defArgs s__law_no_intervals) (defBody s__law_no_intervals) (defScope s__law_no_intervals) .none kV4 dc4 pm4 an4 cd4 ct4 | 4 => PySem.W.fnOf "_law_class" "_law_class" (defArgs s__law_class) (defBody s__law_class) (defScope s__law_class) .none kV5 dc5 pm5 an5 cd5 ct5 | 5 => PySem.W.fnOf "is_int" "is_int" (defArgs s_is_int) (defBody s_is_int) (defScope s_is_int) .none kV6 dc6 pm6 an6 cd6 ct6 | 6 => PySem.W.fnOf "is_interval" "is_interval" (defArgs s_is_interval) (defBody s_is_interval) (defScope s_is_interval) .none kV7 dc7 pm7 an7 cd7 ct7 | 7 => PySem.W.fnOf "require_intervals" "require_intervals" (defArgs s_require_intervals) (defBody s_require_intervals) (defScope s_require_intervals) .none kV8 dc8 pm8 an8 cd8 ct8 | 8 => PySem.W.fnOf "covered_in" "covered_in" (defArgs s_covered_in) (defBody s_covered_in) (defScope s_covered_in) .none kV9 dc9 pm9 an9 cd9 ct9 | 9 => PySem.W.fnOf "covered" "covered" (defArgs s_covered) (defBody s_covered) (defScope s_covered) .none kV10 dc10 pm10 an10 cd10 ct10 | 10 => PySem.W.fnOf "odd_stretches" "odd_stretches" (defArgs s_odd_stretches) (defBody s_odd_stretches) (defScope s_odd_stretches) .none kV11 dc11 pm11 an11 cd11 ct11 | 11 => PySem.W.fnOf "odd_in_spans" "odd_in_spans" (defArgs s_odd_in_spans) (defBody s_odd_in_spans) (defScope s_odd_in_spans) .none kV12 dc12 pm12 an12 cd12 ct12 | 12 => PySem.W.fnOf "odd_covered" "odd_covered" (defArgs s_odd_covered) (defBody s_odd_covered) (defScope s_odd_covered) .none kV13 dc13 pm13 an13 cd13 ct13 | 13 => PySem.W.fnOf "depth_in" "depth_in" (defArgs s_depth_in) (defBody s_depth_in) (defScope s_depth_in) .none kV14 dc14 pm14 an14 cd14 ct14 | 14 => PySem.W.fnOf "depth_at" "depth_at" (defArgs s_depth_at) (defBody s_depth_at) (defScope s_depth_at) .none kV15 dc15 pm15 an15 cd15 ct15 | 15 => PySem.W.fnOf "_law_told" "_law_told" (defArgs s__law_told) (defBody s__law_told) (defScope s__law_told) .none kV16 dc16 pm16 an16 cd16 ct16 | 16 => PySem.W.fnOf "law" "law" (defArgs s_law) (defBody s_law) (defScope s_law) .none kV17 dc17 pm17 an17 cd17 ct17 | _ => PySem.W.fnOf "_law_tank" "_law_tank" (defArgs s__law_tank) (defBody s__law_tank) (defScope s__law_tank) .none kV1 dc1 pm1 an1 cd1 ct1) (fun i => match i with | 0 => C0 | 1 => C1 | 2 => C2 | 3 => C3 | 4 => C4 | 5 => C5 | 6 => C6 | 7 => C7 | 8 => C8 | 9 => C9 | 10 => C10 | 11 => C11 | 12 => C12 | 13 => C13 | 14 => C14 | 15 => C15 | 16 => C16 | 17 => C17 | 18 => C18 | 19 => C19 | 20 => C20 | 21 => C21 | 22 => C22 | 23 => C23 | 24 => C24 | 25 => C25 | 26 => C26 | 27 => C27 | 28 => C28 | 29 => C29 | _ => 0) := by
    constructor
    · exact ⟨F1, PySem.W.mg_of X G a1, b1⟩
    · exact ⟨F2, PySem.W.mg_of X G a2, b2⟩
    · exact ⟨F3, PySem.W.mg_of X G a3, b3⟩
    · exact ⟨F4, PySem.W.mg_of X G a4, b4⟩
    · exact ⟨F5, PySem.W.mg_of X G a5, b5⟩
    · exact ⟨F6, PySem.W.mg_of X G a6, b6⟩
    · exact ⟨F7, PySem.W.mg_of X G a7, b7⟩
    · exact ⟨F8, PySem.W.mg_of X G a8, b8⟩
    · exact ⟨F9, PySem.W.mg_of X G a9, b9⟩
    · exact ⟨F10, PySem.W.mg_of X G a10, b10⟩
    · exact ⟨F11, PySem.W.mg_of X G a11, b11⟩
    · exact ⟨F12, PySem.W.mg_of X G a12, b12⟩
    · exact ⟨F13, PySem.W.mg_of X G a13, b13⟩
    · exact ⟨F14, PySem.W.mg_of X G a14, b14⟩
    · exact ⟨F15, PySem.W.mg_of X G a15, b15⟩
    · exact ⟨F16, PySem.W.mg_of X G a16, b16⟩
    · exact ⟨F17, PySem.W.mg_of X G a17, b17⟩
    · exact PySem.W.mg_none_of X G z_ValueError
    · exact PySem.W.mg_none_of X G z_all
    · exact PySem.W.mg_none_of X G z_bool
    · exact PySem.W.mg_none_of X G z_int
    · exact PySem.W.mg_none_of X G z_isinstance
    · exact PySem.W.mg_none_of X G z_len
    · exact PySem.W.mg_none_of X G z_list
    · exact PySem.W.mg_none_of X G z_max
    · exact PySem.W.mg_none_of X G z_min
    · exact PySem.W.mg_none_of X G z_range
    · exact PySem.W.mg_none_of X G z_repr
    · exact PySem.W.mg_none_of X G z_sorted
    · exact PySem.W.mg_none_of X G z_sum
    · exact PySem.W.mg_none_of X G z_tuple
    · exact PySem.W.mg_none_of X G z_zip
    · exact ⟨_, sm, (show (Value.type "dict" == Value.type "list") = false from by decide)⟩
    · exact PySem.W.mg_of X G g_PlotError
    · exact PySem.W.mg_of X G g_InvalidText
    · exact PySem.W.mg_of X G g_InvalidSource
    · exact PySem.W.mg_of X G g_TooDeep
    · exact PySem.W.mg_of X G g_TooLarge
    · exact PySem.W.mg_of X G g_InvalidProgram
    · exact PySem.W.mg_of X G g_InvalidTimes
    · exact PySem.W.mg_of X G g_InvalidIndex
    · exact PySem.W.mg_of X G g_InvalidLetter
    · exact PySem.W.mg_of X G g_InvalidName
    · exact PySem.W.mg_of X G g_HasPen
    · exact PySem.W.mg_of X G g_InvalidMotion
    · exact PySem.W.mg_of X G g_InvalidPose
    · exact PySem.W.mg_of X G g_InvalidPoint
    · exact PySem.W.mg_of X G g_InvalidEdge
    · exact PySem.W.mg_of X G g_InvalidPicture
    · exact PySem.W.mg_of X G g_InvalidTurn
    · exact PySem.W.mg_of X G g_InvalidFace
    · exact PySem.W.mg_of X G g_InvalidFaces
    · exact PySem.W.mg_of X G g_NotEven
    · exact PySem.W.mg_of X G g_NotClosed
    · exact PySem.W.mg_of X G g_InvalidIntervals
    · exact PySem.W.mg_of X G g_InvalidPlace
    · exact PySem.W.mg_of X G g_NotDrifting
    · exact PySem.W.mg_of X G g_InvalidCount
    · exact PySem.W.mg_of X G g_NoSteps
    · exact PySem.W.mg_of X G g_InvalidOperation
    · exact PySem.W.mg_of X G g_Nothing
    · exact PySem.W.mg_of X G g_InvalidArt
    · exact PySem.W.mg_of X G g_InvalidCommand
    · exact ⟨xq_InvalidIntervals, xk_InvalidIntervals, xb_InvalidIntervals, xt_InvalidIntervals⟩
    · exact ⟨xq_InvalidPlace, xk_InvalidPlace, xb_InvalidPlace, xt_InvalidPlace⟩
    · exact relX_ok (fa_cons (⟨xg_InvalidIntervals, xn_InvalidIntervals, xb_InvalidIntervals, xd_InvalidIntervals, xa_InvalidIntervals, xs, xz, xo_InvalidIntervals⟩) (fa_cons (⟨xg_InvalidPlace, xn_InvalidPlace, xb_InvalidPlace, xd_InvalidPlace, xa_InvalidPlace, xs, xz, xo_InvalidPlace⟩) fa_nil)) (fa_cons ((fa_cons (kit_oth yc_HasPen yt_HasPen yp_InvalidIntervals_HasPen ys_HasPen) (fa_cons (kit_oth yc_InvalidArt yt_InvalidArt yp_InvalidIntervals_InvalidArt ys_InvalidArt) (fa_cons (kit_oth yc_InvalidCommand yt_InvalidCommand yp_InvalidIntervals_InvalidCommand ys_InvalidCommand) (fa_cons (kit_oth yc_InvalidCount yt_InvalidCount yp_InvalidIntervals_InvalidCount ys_InvalidCount) (fa_cons (kit_oth yc_InvalidFace yt_InvalidFace yp_InvalidIntervals_InvalidFace ys_InvalidFace) (fa_cons (kit_oth yc_InvalidFaces yt_InvalidFaces yp_InvalidIntervals_InvalidFaces ys_InvalidFaces) (fa_cons (kit_oth yc_InvalidLetter yt_InvalidLetter yp_InvalidIntervals_InvalidLetter ys_InvalidLetter) (fa_cons (kit_oth yc_InvalidName yt_InvalidName yp_InvalidIntervals_InvalidName ys_InvalidName) (fa_cons (kit_oth yc_InvalidOperation yt_InvalidOperation yp_InvalidIntervals_InvalidOperation ys_InvalidOperation) (fa_cons (kit_oth yc_InvalidPicture yt_InvalidPicture yp_InvalidIntervals_InvalidPicture ys_InvalidPicture) (fa_cons (kit_oth yc_InvalidSource yt_InvalidSource yp_InvalidIntervals_InvalidSource ys_InvalidSource) (fa_cons (kit_oth yc_InvalidText yt_InvalidText yp_InvalidIntervals_InvalidText ys_InvalidText) (fa_cons (kit_oth yc_InvalidTurn yt_InvalidTurn yp_InvalidIntervals_InvalidTurn ys_InvalidTurn) (fa_cons (kit_oth yc_InvalidProgram yt_InvalidProgram yp_InvalidIntervals_InvalidProgram ys_InvalidProgram) (fa_cons (kit_oth yc_InvalidTimes yt_InvalidTimes yp_InvalidIntervals_InvalidTimes ys_InvalidTimes) (fa_cons (kit_oth yc_InvalidIndex yt_InvalidIndex yp_InvalidIntervals_InvalidIndex ys_InvalidIndex) (fa_cons (kit_oth yc_NoSteps yt_NoSteps yp_InvalidIntervals_NoSteps ys_NoSteps) (fa_cons (kit_oth yc_NotClosed yt_NotClosed yp_InvalidIntervals_NotClosed ys_NotClosed) (fa_cons (kit_oth yc_Nothing yt_Nothing yp_InvalidIntervals_Nothing ys_Nothing) (fa_cons (kit_oth yc_TooDeep yt_TooDeep yp_InvalidIntervals_TooDeep ys_TooDeep) (fa_cons (kit_oth yc_InvalidMotion yt_InvalidMotion yp_InvalidIntervals_InvalidMotion ys_InvalidMotion) (fa_cons (kit_oth yc_InvalidPose yt_InvalidPose yp_InvalidIntervals_InvalidPose ys_InvalidPose) (fa_cons (kit_oth yc_InvalidPoint yt_InvalidPoint yp_InvalidIntervals_InvalidPoint ys_InvalidPoint) (fa_cons (kit_oth yc_InvalidEdge yt_InvalidEdge yp_InvalidIntervals_InvalidEdge ys_InvalidEdge) (fa_cons (kit_self) (fa_cons (kit_oth yc_NotEven yt_NotEven yp_InvalidIntervals_NotEven ys_NotEven) (fa_cons (kit_oth yc_InvalidPlace yt_InvalidPlace yp_InvalidIntervals_InvalidPlace ys_InvalidPlace) (fa_cons (kit_oth yc_NotDrifting yt_NotDrifting yp_InvalidIntervals_NotDrifting ys_NotDrifting) (fa_cons (kit_oth yc_TooLarge yt_TooLarge yp_InvalidIntervals_TooLarge ys_TooLarge) fa_nil)))))))))))))))))))))))))))))) (fa_cons ((fa_cons (kit_oth yc_HasPen yt_HasPen yp_InvalidPlace_HasPen ys_HasPen) (fa_cons (kit_oth yc_InvalidArt yt_InvalidArt yp_InvalidPlace_InvalidArt ys_InvalidArt) (fa_cons (kit_oth yc_InvalidCommand yt_InvalidCommand yp_InvalidPlace_InvalidCommand ys_InvalidCommand) (fa_cons (kit_oth yc_InvalidCount yt_InvalidCount yp_InvalidPlace_InvalidCount ys_InvalidCount) (fa_cons (kit_oth yc_InvalidFace yt_InvalidFace yp_InvalidPlace_InvalidFace ys_InvalidFace) (fa_cons (kit_oth yc_InvalidFaces yt_InvalidFaces yp_InvalidPlace_InvalidFaces ys_InvalidFaces) (fa_cons (kit_oth yc_InvalidLetter yt_InvalidLetter yp_InvalidPlace_InvalidLetter ys_InvalidLetter) (fa_cons (kit_oth yc_InvalidName yt_InvalidName yp_InvalidPlace_InvalidName ys_InvalidName) (fa_cons (kit_oth yc_InvalidOperation yt_InvalidOperation yp_InvalidPlace_InvalidOperation ys_InvalidOperation) (fa_cons (kit_oth yc_InvalidPicture yt_InvalidPicture yp_InvalidPlace_InvalidPicture ys_InvalidPicture) (fa_cons (kit_oth yc_InvalidSource yt_InvalidSource yp_InvalidPlace_InvalidSource ys_InvalidSource) (fa_cons (kit_oth yc_InvalidText yt_InvalidText yp_InvalidPlace_InvalidText ys_InvalidText) (fa_cons (kit_oth yc_InvalidTurn yt_InvalidTurn yp_InvalidPlace_InvalidTurn ys_InvalidTurn) (fa_cons (kit_oth yc_InvalidProgram yt_InvalidProgram yp_InvalidPlace_InvalidProgram ys_InvalidProgram) (fa_cons (kit_oth yc_InvalidTimes yt_InvalidTimes yp_InvalidPlace_InvalidTimes ys_InvalidTimes) (fa_cons (kit_oth yc_InvalidIndex yt_InvalidIndex yp_InvalidPlace_InvalidIndex ys_InvalidIndex) (fa_cons (kit_oth yc_NoSteps yt_NoSteps yp_InvalidPlace_NoSteps ys_NoSteps) (fa_cons (kit_oth yc_NotClosed yt_NotClosed yp_InvalidPlace_NotClosed ys_NotClosed) (fa_cons (kit_oth yc_Nothing yt_Nothing yp_InvalidPlace_Nothing ys_Nothing) (fa_cons (kit_oth yc_TooDeep yt_TooDeep yp_InvalidPlace_TooDeep ys_TooDeep) (fa_cons (kit_oth yc_InvalidMotion yt_InvalidMotion yp_InvalidPlace_InvalidMotion ys_InvalidMotion) (fa_cons (kit_oth yc_InvalidPose yt_InvalidPose yp_InvalidPlace_InvalidPose ys_InvalidPose) (fa_cons (kit_oth yc_InvalidPoint yt_InvalidPoint yp_InvalidPlace_InvalidPoint ys_InvalidPoint) (fa_cons (kit_oth yc_InvalidEdge yt_InvalidEdge yp_InvalidPlace_InvalidEdge ys_InvalidEdge) (fa_cons (kit_oth yc_InvalidIntervals yt_InvalidIntervals yp_InvalidPlace_InvalidIntervals ys_InvalidIntervals) (fa_cons (kit_oth yc_NotEven yt_NotEven yp_InvalidPlace_NotEven ys_NotEven) (fa_cons (kit_self) (fa_cons (kit_oth yc_NotDrifting yt_NotDrifting yp_InvalidPlace_NotDrifting ys_NotDrifting) (fa_cons (kit_oth yc_TooLarge yt_TooLarge yp_InvalidPlace_TooLarge ys_TooLarge) fa_nil)))))))))))))))))))))))))))))) fa_nil)) (fa_cons (kit_ve xv_InvalidIntervals) (fa_cons (kit_ve xv_InvalidPlace) fa_nil))
    · exact xTest_ok (fa_cons (PySem.W.exm_ref zb zd zt zp_InvalidIntervals) (fa_cons (PySem.W.exm_ref zb zd zt zp_InvalidPlace) fa_nil))
  exact ⟨PySem.W.fnOf "law" "law" (defArgs s_law) (defBody s_law) (defScope s_law) .none kV17 dc17 pm17 an17 cd17 ct17, fun s v => .of_eq rfl, fun base _ _ => ⟨fun i => match i with | 0 => C0 | 1 => C1 | 2 => C2 | 3 => C3 | 4 => C4 | 5 => C5 | 6 => C6 | 7 => C7 | 8 => C8 | 9 => C9 | 10 => C10 | 11 => C11 | 12 => C12 | 13 => C13 | 14 => C14 | 15 => C15 | 16 => C16 | 17 => C17 | 18 => C18 | 19 => C19 | 20 => C20 | 21 => C21 | 22 => C22 | 23 => C23 | 24 => C24 | 25 => C25 | 26 => C26 | 27 => C27 | 28 => C28 | 29 => C29 | _ => 0, (cs_inj (l := [C0, C1, C2, C3, C4, C5, C6, C7, C8, C9, C10, C11, C12, C13, C14, C15, C16, C17, C18, C19, C20, C21, C22, C23, C24, C25, C26, C27, C28, C29]) (fun i hi => by match i, hi with | 0, _ => rfl | 1, _ => rfl | 2, _ => rfl | 3, _ => rfl | 4, _ => rfl | 5, _ => rfl | 6, _ => rfl | 7, _ => rfl | 8, _ => rfl | 9, _ => rfl | 10, _ => rfl | 11, _ => rfl | 12, _ => rfl | 13, _ => rfl | 14, _ => rfl | 15, _ => rfl | 16, _ => rfl | 17, _ => rfl | 18, _ => rfl | 19, _ => rfl | 20, _ => rfl | 21, _ => rfl | 22, _ => rfl | 23, _ => rfl | 24, _ => rfl | 25, _ => rfl | 26, _ => rfl | 27, _ => rfl | 28, _ => rfl | 29, _ => rfl | _ + 30, hi => exact absurd hi (by omega)) nd), k_law_ (P := l.prog) (w := w) (base := base) T⟩⟩
/-! ### sums over the integers of a stretch -/
def totN (f : Int → Int) (a : Int) : Nat → Int
  | 0 => 0
  | n + 1 => totN f a n + f (a + n)
def tot (f : Int → Int) (a b : Int) : Int := totN f a (b - a).toNat
theorem totN_congr {f g : Int → Int} {a : Int} : ∀ {n : Nat}, (∀ x, a ≤ x → x < a + n → f x = g x) → totN f a n = totN g a n
  | 0, _ => rfl
  | n + 1, h => by
    unfold totN
    rw [totN_congr fun x h1 h2 => h x h1 (by omega), h (a + n) (by omega) (by omega)]
theorem totN_add {f g : Int → Int} {a : Int} : ∀ {n : Nat}, totN (fun x => f x + g x) a n = totN f a n + totN g a n
  | 0 => rfl
  | n + 1 => by
    unfold totN
    rw [totN_add]; omega
theorem totN_const {c a : Int} : ∀ {n : Nat}, totN (fun _ => c) a n = n * c
  | 0 => by simp [totN]
  | n + 1 => by
    unfold totN
    rw [totN_const, Int.natCast_add, Int.add_mul]
    simp
theorem totN_split {f : Int → Int} {a : Int} {m : Nat} : ∀ {n : Nat}, totN f a (m + n) = totN f a m + totN f (a + m) n
  | 0 => by simp [totN]
  | n + 1 => by
    rw [← Nat.add_assoc]
    show totN f a (m + n) + f (a + (m + n : Nat)) = _
    rw [totN_split]
    show _ = totN f a m + (totN f (a + m) n + f (a + m + n))
    rw [show a + ((m + n : Nat) : Int) = a + m + n by omega]
    omega
theorem tot_congr {f g : Int → Int} {a b : Int} (h : ∀ x, a ≤ x → x < b → f x = g x) : tot f a b = tot g a b :=
  totN_congr fun x h1 h2 => h x h1 (by omega)
theorem tot_add {f g : Int → Int} {a b : Int} : tot (fun x => f x + g x) a b = tot f a b + tot g a b := totN_add
theorem tot_const {c a b : Int} (h : a ≤ b) : tot (fun _ => c) a b = (b - a) * c := by
  unfold tot
  rw [totN_const, Int.toNat_of_nonneg (by omega)]
theorem tot_split {f : Int → Int} {a b c : Int} (h1 : a ≤ b) (h2 : b ≤ c) : tot f a c = tot f a b + tot f b c := by
  unfold tot
  rw [show (c - a).toNat = (b - a).toNat + (c - b).toNat by omega, totN_split]
  rw [show a + ((b - a).toNat : Int) = b by omega]
theorem tot_zero {f : Int → Int} {a b : Int} (h : ∀ x, a ≤ x → x < b → f x = 0) : tot f a b = 0 := by
  rw [tot_congr (g := fun _ => 0) h]
  unfold tot
  rw [totN_const]; omega
theorem tot_self {f : Int → Int} {a : Int} : tot f a a = 0 := by unfold tot; rw [Int.sub_self]; rfl
/-- one on a stretch -/
def hot (a b x : Int) : Int := if a ≤ x ∧ x < b then 1 else 0
theorem tot_hot {a b lo hi : Int} (h1 : lo ≤ a) (h2 : a ≤ b) (h3 : b ≤ hi) : tot (hot a b) lo hi = b - a := by
  rw [tot_split (b := a) h1 (by omega), tot_split (a := a) (b := b) h2 h3]
  rw [tot_zero (a := lo) fun x _ q => by unfold hot; rw [if_neg (by omega)]]
  rw [tot_zero (a := b) fun x q _ => by unfold hot; rw [if_neg (by omega)]]
  rw [tot_congr (g := fun _ => 1) fun x q q2 => by unfold hot; rw [if_pos ⟨q, q2⟩], tot_const h2]
  omega

/-! ### how many intervals hold a place -/
def dep (ps : List (Int × Int)) (x : Int) : Nat := ps.countP fun p => decide (p.1 ≤ x ∧ x < p.2)
def isPos (n : Nat) : Int := if 0 < n then 1 else 0
def isOdd (n : Nat) : Int := if n % 2 = 1 then 1 else 0
theorem dep_cons (p : Int × Int) (ps : List (Int × Int)) (x : Int) : dep (p :: ps) x = dep ps x + if p.1 ≤ x ∧ x < p.2 then 1 else 0 := by
  unfold dep
  rw [List.countP_cons]
  by_cases h : p.1 ≤ x ∧ x < p.2 <;> simp [h]
theorem dep_app (ps qs : List (Int × Int)) (x : Int) : dep (ps ++ qs) x = dep ps x + dep qs x := by
  unfold dep; rw [List.countP_append]
theorem dep_perm {ps qs : List (Int × Int)} (h : ps.Perm qs) (x : Int) : dep ps x = dep qs x := h.countP_eq _
theorem dep_pos {ps : List (Int × Int)} {x : Int} : 0 < dep ps x ↔ ∃ p ∈ ps, p.1 ≤ x ∧ x < p.2 := by
  unfold dep
  rw [List.countP_pos_iff]
  constructor
  · rintro ⟨p, h1, h2⟩; exact ⟨p, h1, of_decide_eq_true h2⟩
  · rintro ⟨p, h1, h2⟩; exact ⟨p, h1, decide_eq_true h2⟩
theorem isPos_set {ps qs : List (Int × Int)} {x : Int} (h : ∀ p, p ∈ ps ↔ p ∈ qs) : isPos (dep ps x) = isPos (dep qs x) := by
  have : (0 < dep ps x) ↔ (0 < dep qs x) := by
    rw [dep_pos, dep_pos]
    exact ⟨fun ⟨p, a, b⟩ => ⟨p, (h p).mp a, b⟩, fun ⟨p, a, b⟩ => ⟨p, (h p).mpr a, b⟩⟩
  unfold isPos
  by_cases q : 0 < dep ps x
  · rw [if_pos q, if_pos (this.mp q)]
  · rw [if_neg q, if_neg fun z => q (this.mpr z)]
/-- all within a window -/
def Within (lo hi : Int) (ps : List (Int × Int)) : Prop := ∀ p ∈ ps, lo ≤ p.1 ∧ p.1 < p.2 ∧ p.2 ≤ hi
/-! ### what is covered, stretch by stretch -/
def covStep (s : Int × Option Int) (p : Int × Int) : Int × Option Int :=
  let r := match s.2 with
    | none => p.1
    | some r => if p.1 > r then p.1 else r
  (s.1 + max 0 (p.2 - r), some (max r p.2))
def posT (ps : List (Int × Int)) (lo hi : Int) : Int := tot (fun x => isPos (dep ps x)) lo hi
def oddT (ps : List (Int × Int)) (lo hi : Int) : Int := tot (fun x => isOdd (dep ps x)) lo hi
theorem posT_set {ps qs : List (Int × Int)} {lo hi : Int} (h : ∀ p, p ∈ ps ↔ p ∈ qs) : posT ps lo hi = posT qs lo hi :=
  tot_congr fun x _ _ => isPos_set h
theorem pos_step {Q : List (Int × Int)} {q : Int × Int} {R : Int} (hq : q.1 < q.2) (h1 : ∀ p ∈ Q, p.1 ≤ q.1) (h2 : ∀ p ∈ Q, p.2 ≤ R) (h3 : ∃ p ∈ Q, p.2 = R) (x : Int) :
    isPos (dep (q :: Q) x) = isPos (dep Q x) + hot (if q.1 > R then q.1 else R) (max (if q.1 > R then q.1 else R) q.2) x := by
  obtain ⟨m, m1, m2⟩ := h3
  have mid := h1 m m1
  rw [dep_cons]
  by_cases c : 0 < dep Q x
  · obtain ⟨p, p1, p2, p3⟩ := dep_pos.mp c
    have := h2 p p1
    unfold isPos hot
    rw [if_pos (by omega), if_pos c, if_neg (by split <;> omega)]
    rfl
  · have c0 : dep Q x = 0 := by omega
    rw [c0]
    have nc : ¬ (m.1 ≤ x ∧ x < m.2) := fun z => c (dep_pos.mpr ⟨m, m1, z⟩)
    by_cases d : q.1 ≤ x ∧ x < q.2
    · rw [if_pos d]
      unfold isPos hot
      rw [if_pos (by omega), if_neg (by omega), if_pos (by split <;> omega)]
      rfl
    · rw [if_neg d]
      unfold isPos hot
      rw [if_neg (by omega), if_neg (by split <;> omega)]
      rfl
theorem cov_fold {lo hi : Int} : ∀ (qs : List (Int × Int)) (Q : List (Int × Int)) (R : Int) (f : Int) (T : List (Int × Int)), Within lo hi qs → qs.Pairwise (fun p q => p.1 ≤ q.1) → (∀ p ∈ Q, ∀ q ∈ qs, p.1 ≤ q.1) → (∀ p ∈ Q, p.2 ≤ R) → (∃ p ∈ Q, p.2 = R) → lo ≤ R → R ≤ hi →
    f = posT Q lo hi → (∀ p, p ∈ T ↔ p ∈ Q ∨ p ∈ qs) → (qs.foldl covStep (f, some R)).1 = posT T lo hi
  | [], Q, R, f, T, _, _, _, _, _, _, _, hf, hT => by
    show f = _
    rw [hf]
    exact posT_set fun p => by rw [hT p]; simp
  | q :: qs, Q, R, f, T, w, pw, hs, h2, h3, hl, hh, hf, hT => by
    have wq := w q List.mem_cons_self
    rw [List.pairwise_cons] at pw
    show (qs.foldl covStep (covStep (f, some R) q)).1 = _
    have e : covStep (f, some R) q = (posT (q :: Q) lo hi, some (max (if q.1 > R then q.1 else R) q.2)) := by
      have e1 : posT (q :: Q) lo hi = posT Q lo hi + tot (hot (if q.1 > R then q.1 else R) (max (if q.1 > R then q.1 else R) q.2)) lo hi := by
        unfold posT
        rw [← tot_add]
        exact tot_congr fun x _ _ => pos_step wq.2.1 (fun p hp => hs p hp q List.mem_cons_self) h2 h3 x
      rw [e1, tot_hot (by split <;> omega) (by omega) (by split <;> omega), hf]
      unfold covStep
      dsimp only
      congr 1
      omega
    rw [e]
    refine cov_fold qs (q :: Q) _ _ T (fun p hp => w p (List.mem_cons_of_mem _ hp)) pw.2 (fun p hp z hz => ?_) (fun p hp => ?_) ?_ (by split <;> omega) (by split <;> omega) rfl fun p => ?_
    · rcases List.mem_cons.mp hp with rfl | hp
      · exact pw.1 z hz
      · exact hs p hp z (List.mem_cons_of_mem _ hz)
    · rcases List.mem_cons.mp hp with rfl | hp
      · omega
      · have := h2 p hp
        split <;> omega
    · obtain ⟨m, m1, m2⟩ := h3
      have := hs m m1 q List.mem_cons_self
      have := h2 m m1
      by_cases c : R ≤ q.2
      · exact ⟨q, List.mem_cons_self, by split <;> omega⟩
      · exact ⟨m, List.mem_cons_of_mem _ m1, by split <;> omega⟩
    · rw [hT p, List.mem_cons, List.mem_cons]
      constructor
      · rintro (h | h | h) <;> simp [h]
      · rintro ((h | h) | h) <;> simp [h]
theorem cov_all {lo hi : Int} {qs ps : List (Int × Int)} (w : Within lo hi qs) (pw : qs.Pairwise (fun p q => p.1 ≤ q.1)) (h : ∀ p, p ∈ ps ↔ p ∈ qs) : (qs.foldl covStep (0, none)).1 = posT ps lo hi := by
  cases qs with
  | nil =>
    have : ps = [] := by
      cases ps with
      | nil => rfl
      | cons p r => exact absurd ((h p).mp List.mem_cons_self) (by simp)
    subst this
    unfold posT
    rw [tot_zero fun x _ _ => by simp [dep, isPos]]
    rfl
  | cons q qs =>
    have wq := w q List.mem_cons_self
    rw [List.pairwise_cons] at pw
    show (qs.foldl covStep (covStep (0, none) q)).1 = _
    have e1 : posT [q] lo hi = q.2 - q.1 := by
      unfold posT
      rw [tot_congr (g := hot q.1 q.2) fun x _ _ => ?_, tot_hot (by omega) (by omega) (by omega)]
      rw [dep_cons]
      unfold hot isPos dep
      by_cases d : q.1 ≤ x ∧ x < q.2 <;> simp [d]
    have e : covStep (0, none) q = (posT [q] lo hi, some q.2) := by
      rw [e1]
      unfold covStep
      dsimp only
      rw [show 0 + max 0 (q.2 - q.1) = q.2 - q.1 by omega, show max q.1 q.2 = q.2 by omega]
    rw [e]
    refine cov_fold qs [q] _ _ ps (fun p hp => w p (List.mem_cons_of_mem _ hp)) pw.2 (fun p hp z hz => ?_) (fun p hp => ?_) ⟨q, by simp, rfl⟩ (by omega) (by omega) rfl fun p => by rw [h p]; simp
    · simp at hp; subst hp; exact pw.1 z hz
    · simp at hp; subst hp; omega
/-! ### odd ones -/
def alt : List Int → Int
  | a :: b :: r => (b - a) + alt r
  | _ => 0
def le (l : List Int) (x : Int) : Nat := l.countP fun e => decide (e ≤ x)
theorem le_cons (a : Int) (l : List Int) (x : Int) : le (a :: l) x = le l x + if a ≤ x then 1 else 0 := by
  unfold le; rw [List.countP_cons]; by_cases h : a ≤ x <;> simp [h]
theorem le_zero {l : List Int} {x : Int} (h : ∀ e ∈ l, x < e) : le l x = 0 := by
  unfold le
  rw [List.countP_eq_zero]
  intro e he z
  have := of_decide_eq_true z
  have := h e he
  omega
theorem alt_nn : ∀ l : List Int, l.Pairwise (· ≤ ·) → 0 ≤ alt l
  | [], _ => by simp [alt]
  | [a], _ => by simp [alt]
  | a :: b :: r, h => by
    rw [List.pairwise_cons, List.pairwise_cons] at h
    have := alt_nn r h.2.2
    have := h.1 b List.mem_cons_self
    simp only [alt]; omega
/-- the pairs of neighbours, one after another -/
theorem alt_pairs : ∀ l : List Int, l.Pairwise (· ≤ ·) → ((((evens l).zip (odds l)).filter fun p => decide (p.1 < p.2)).map fun p => p.2 - p.1).sum = alt l
  | [], _ => by simp [alt, evens, odds]
  | [a], _ => by simp [alt, evens, odds]
  | a :: b :: r, h => by
    rw [List.pairwise_cons, List.pairwise_cons] at h
    have ih := alt_pairs r h.2.2
    have hab := h.1 b List.mem_cons_self
    simp only [evens, odds, List.zip_cons_cons, List.filter_cons, alt]
    by_cases e : a < b
    · simp only [e, decide_true, if_true, List.map_cons, List.sum_cons, ih]
    · have : b - a = 0 := by omega
      simp only [e, decide_false, Bool.false_eq_true, if_false, ih, this, Int.zero_add]
theorem alt_tot {lo hi : Int} : ∀ (l : List Int), l.length % 2 = 0 → l.Pairwise (· ≤ ·) → (∀ e ∈ l, lo ≤ e ∧ e ≤ hi) → alt l = tot (fun x => isOdd (le l x)) lo hi
  | [], _, _, _ => by
    rw [tot_zero fun x _ _ => by simp [le, isOdd]]; rfl
  | [a], h, _, _ => by simp at h
  | a :: b :: r, h, pw, w => by
    rw [List.pairwise_cons, List.pairwise_cons] at pw
    have ih := alt_tot (lo := lo) (hi := hi) r (by simp only [List.length_cons] at h; omega) pw.2.2 fun e he => w e (by simp [he])
    have ab := pw.1 b (by simp)
    have wa := w a (by simp)
    have wb := w b (by simp)
    rw [alt, ih]
    rw [tot_congr (f := fun x => isOdd (le (a :: b :: r) x)) (g := fun x => hot a b x + isOdd (le r x)) fun x _ _ => ?_, tot_add, tot_hot (by omega) ab (by omega)]
    rw [le_cons, le_cons]
    by_cases c1 : x < b
    · rw [le_zero (l := r) fun e he => by have := pw.2.1 e he; omega]
      by_cases c2 : a ≤ x
      · have : ¬ b ≤ x := by omega
        simp [isOdd, hot, c2, c1, this]
      · have : ¬ b ≤ x := by omega
        simp [isOdd, hot, c2, this]
    · have : a ≤ x := by omega
      have c3 : b ≤ x := by omega
      simp only [isOdd, hot, this, c3, c1, if_true, and_false, if_false]
      split <;> split <;> omega
def ends (ps : List (Int × Int)) : List Int := ps.flatMap fun p => [p.1, p.2]
theorem ends_len : ∀ ps : List (Int × Int), (ends ps).length = 2 * ps.length
  | [] => rfl
  | p :: r => by
    show (p.1 :: p.2 :: ends r).length = _
    rw [List.length_cons, List.length_cons, List.length_cons, ends_len r]; omega
theorem le_ends (x : Int) : ∀ (ps : List (Int × Int)), (∀ p ∈ ps, p.1 < p.2) → le (ends ps) x % 2 = dep ps x % 2
  | [], _ => rfl
  | p :: r, h => by
    have ih := le_ends x r fun q hq => h q (List.mem_cons_of_mem _ hq)
    have hp := h p List.mem_cons_self
    show le (p.1 :: p.2 :: ends r) x % 2 = _
    rw [le_cons, le_cons, dep_cons]
    by_cases c : p.1 ≤ x <;> by_cases d : x < p.2
    · simp [c, d]; rw [if_neg (by omega)]; omega
    · simp [c, d]; rw [if_pos (by omega)]; omega
    · simp [c]; rw [if_neg (by omega)]; omega
    · simp [c]; rw [if_neg (by omega)]; omega
theorem mem_ends {ps : List (Int × Int)} {e : Int} : e ∈ ends ps ↔ ∃ p ∈ ps, e = p.1 ∨ e = p.2 := by
  unfold ends
  rw [List.mem_flatMap]
  simp
theorem odd_all {lo hi : Int} {ps : List (Int × Int)} {l : List Int} (w : Within lo hi ps) (pl : l.Perm (ends ps)) (pw : l.Pairwise (· ≤ ·)) : alt l = oddT ps lo hi := by
  rw [alt_tot (lo := lo) (hi := hi) l (by rw [pl.length_eq, ends_len]; omega) pw fun e he => ?_]
  · refine tot_congr fun x _ _ => ?_
    have e1 : le l x = le (ends ps) x := pl.countP_eq _
    have e2 := le_ends x ps fun p hp => (w p hp).2.1
    rw [e1]
    unfold isOdd
    rw [e2]
  · obtain ⟨p, hp, z⟩ := mem_ends.mp (pl.mem_iff.mp he)
    have := w p hp
    rcases z with rfl | rfl <;> omega
/-! ### pieces -/
theorem dep_piece {ps : List (Int × Int)} {a b x : Int} (h : ∀ e ∈ ends ps, e ≤ a ∨ b ≤ e) (h1 : a ≤ x) (h2 : x < b) : dep ps x = dep ps a := by
  unfold dep
  refine List.countP_congr fun p hp => ?_
  have e1 := h p.1 (mem_ends.mpr ⟨p, hp, .inl rfl⟩)
  have e2 := h p.2 (mem_ends.mpr ⟨p, hp, .inr rfl⟩)
  simp only [decide_eq_true_eq]
  omega
/-- the pieces' sizes, as g says of how many hold them -/
def pcs (g : Nat → Int) (ps : List (Int × Int)) : List Int → Int
  | a :: b :: r => (b - a) * g (dep ps a) + pcs g ps (b :: r)
  | _ => 0
theorem pcs_tot {g : Nat → Int} {ps : List (Int × Int)} : ∀ (r : List Int) (a z : Int) (pre : List Int), (∀ e ∈ ends ps, e ∈ pre ++ a :: r) → (pre ++ a :: r).Pairwise (· < ·) → z = (a :: r).getLast (by simp) → pcs g ps (a :: r) = tot (fun x => g (dep ps x)) a z
  | [], a, z, pre, _, _, hz => by
    simp at hz
    subst hz
    rw [tot_self]; rfl
  | b :: r, a, z, pre, hm, pw, hz => by
    have pw2 := (List.pairwise_append.mp pw)
    have hab := (List.pairwise_cons.mp pw2.2.1).1 b (by simp)
    rw [pcs]
    have ez : z = (b :: r).getLast (by simp) := by rw [hz, List.getLast_cons (by simp)]
    have bz : b ≤ z := by
      rw [ez]
      cases r with
      | nil => simp
      | cons c r =>
        have := (List.pairwise_cons.mp (List.pairwise_cons.mp pw2.2.1).2).1 _ (List.getLast_mem (l := c :: r) (by simp))
        rw [List.getLast_cons (by simp)]; omega
    rw [pcs_tot r b z (pre ++ [a]) (by simpa using hm) (by simpa using pw) ez, tot_split (a := a) (b := b) (c := z) (by omega) bz]
    congr 1
    rw [tot_congr (a := a) (b := b) (g := fun _ => g (dep ps a)) fun x h1 h2 => ?_, tot_const (by omega)]
    rw [dep_piece (a := a) (b := b) ?_ h1 h2]
    intro e he
    have := hm e he
    rcases List.mem_append.mp this with q | q
    · have := pw2.2.2 e q a (by simp); omega
    · rcases List.mem_cons.mp q with q | q
      · omega
      · rcases List.mem_cons.mp q with q | q
        · omega
        · have := (List.pairwise_cons.mp (List.pairwise_cons.mp pw2.2.1).2).1 e q; omega
theorem pcs_all {g : Nat → Int} {ps : List (Int × Int)} {lo hi : Int} {es : List Int} (h0 : g 0 = 0) (w : Within lo hi ps) (hm : ∀ e, e ∈ es ↔ e ∈ ends ps) (pw : es.Pairwise (· < ·)) : pcs g ps es = tot (fun x => g (dep ps x)) lo hi := by
  cases es with
  | nil =>
    have : ps = [] := by
      cases ps with
      | nil => rfl
      | cons p r => exact absurd ((hm p.1).mpr (mem_ends.mpr ⟨p, by simp, .inl rfl⟩)) (by simp)
    subst this
    rw [tot_zero fun x _ _ => by simp [dep, h0]]
    rfl
  | cons a r =>
    obtain ⟨z, hz⟩ : ∃ z, z = (a :: r).getLast (by simp) := ⟨_, rfl⟩
    rw [pcs_tot r a z [] (fun e he => (hm e).mpr he) (by simpa using pw) hz]
    have mz : z ∈ a :: r := by rw [hz]; exact List.getLast_mem _
    have bnd : ∀ e ∈ a :: r, lo ≤ e ∧ e ≤ hi := fun e he => by
      obtain ⟨p, hp, q⟩ := mem_ends.mp ((hm e).mp he)
      have := w p hp
      rcases q with rfl | rfl <;> omega
    have b1 := bnd a (by simp)
    have b2 := bnd z mz
    have az : a ≤ z := by
      rcases List.mem_cons.mp mz with q | q
      · omega
      · have := (List.pairwise_cons.mp pw).1 z q; omega
    have amin : ∀ e ∈ a :: r, a ≤ e := fun e he => by
      rcases List.mem_cons.mp he with q | q
      · omega
      · have := (List.pairwise_cons.mp pw).1 e q; omega
    have zmax : ∀ (l : List Int) (hl : l ≠ []), l.Pairwise (· < ·) → ∀ e ∈ l, e ≤ l.getLast hl := fun l => by
      induction l with
      | nil => intro hl; exact absurd rfl hl
      | cons c l ih =>
        intro hl p e he
        cases l with
        | nil => simp at he; simp [he]
        | cons d l =>
          rw [List.getLast_cons (by simp)]
          rcases List.mem_cons.mp he with q | q
          · have := (List.pairwise_cons.mp p).1 _ (List.getLast_mem (l := d :: l) (by simp)); omega
          · exact ih (by simp) (List.pairwise_cons.mp p).2 e q
    rw [tot_split (a := lo) (b := a) (c := hi) (by omega) (by omega), tot_split (a := a) (b := z) (c := hi) az (by omega)]
    rw [tot_zero (a := lo) fun x _ q => ?_, tot_zero (a := z) fun x q _ => ?_]
    · omega
    · have : dep ps x = 0 := by
        cases e : dep ps x with
        | zero => rfl
        | succ n =>
          obtain ⟨p, p1, p2, p3⟩ := dep_pos.mp (show 0 < dep ps x by omega)
          have := zmax _ (by simp) pw p.2 ((hm p.2).mpr (mem_ends.mpr ⟨p, p1, .inr rfl⟩))
          omega
      rw [this, h0]
    · have : dep ps x = 0 := by
        cases e : dep ps x with
        | zero => rfl
        | succ n =>
          obtain ⟨p, p1, p2, p3⟩ := dep_pos.mp (show 0 < dep ps x by omega)
          have := amin p.1 ((hm p.1).mpr (mem_ends.mpr ⟨p, p1, .inl rfl⟩))
          omega
      rw [this, h0]
/-! ### integer by integer -/
theorem tot_list (f : Int → Int) (a : Int) : ∀ n : Nat, totN f a n = ((List.range n).map fun i : Nat => f (a + i)).sum
  | 0 => rfl
  | n + 1 => by rw [totN, tot_list f a n, List.range_succ, List.map_append, List.sum_append]; simp
/-! ### the tank -/
theorem log2_lt {n k : Nat} (h : n < 2 ^ k) : n.log2 < k + 1 := by
  by_cases e : n = 0
  · subst e; rw [Nat.log2_zero]; omega
  · have := (Nat.log2_lt e).mpr h; omega
theorem mul_ok {i j : Int} {a b : Nat} (hi : i.natAbs < 2 ^ a) (hj : j.natAbs < 2 ^ b) (h : a + b + 1 < 1000000) : dMul (.int i) (.int j) = some (.int (i * j)) := by
  have h1 := log2_lt hi
  have h2 := log2_lt hj
  show (if i.natAbs.log2 + j.natAbs.log2 < 1000000 then some (D.int (i * j)) else none) = _
  rw [if_pos (by omega)]
theorem bits_lt {i : Int} {a : Nat} (hi : i.natAbs < 2 ^ a) : Builtin.Int.intBits i ≤ a + 1 := by
  unfold Builtin.Int.intBits
  have h1 := log2_lt hi
  by_cases e : (i == 0) = true
  · rw [if_pos e]; omega
  · rw [if_neg e]; omega
theorem pow_ok {i : Int} {k a : Nat} (hi : i.natAbs < 2 ^ a) (h : (a + 1) * k ≤ 134217728) : dPow (.int i) (.int k) = some (.int (i ^ k)) := by
  have h1 := bits_lt hi
  have h2 : Builtin.Int.intBits i * k ≤ (a + 1) * k := Nat.mul_le_mul_right k h1
  show (if (0 : Int) ≤ (k : Int) ∧ (Builtin.Int.intBits i : Int) * (k : Int) ≤ 134217728 then some (D.int (i ^ (k : Int).toNat)) else none) = _
  rw [if_pos ⟨Int.natCast_nonneg k, by rw [← Int.natCast_mul]; omega⟩]
  rfl
theorem div_ok {i j : Int} {a : Nat} (hj : j.natAbs < 2 ^ a) (h0 : j ≠ 0) (h : a < 8999) : dDiv (.int i) (.int j) = some (.int (i.fdiv j)) := by
  have h1 := log2_lt hj
  show (if j ≠ 0 ∧ j.natAbs.log2 < 9000 then some (D.int (i.fdiv j)) else none) = _
  rw [if_pos ⟨h0, by omega⟩]
theorem mod_ok {i j : Int} (h0 : j ≠ 0) : dMod (.int i) (.int j) = some (.int (i.fmod j)) := by
  show (if j ≠ 0 then some (D.int (i.fmod j)) else none) = _
  rw [if_pos h0]
/-- a tank after at most n turns of its wheel -/
def Tk (n : Nat) (t : OT) : Prop := ∃ (a b c : Int), t = .ol [.fz (.int a), .fz (.int b), .fz (.int c)] ∧ b.natAbs < 2 ^ 200 ∧ 0 ≤ c ∧ c ≤ n
theorem p10 {k : Nat} {m : Int} (h : (10 : Int) ^ k = m) (hk : 5 * k ≤ 134217728 := by decide) : dPow (.int 10) (.int k) = some (.int m) := by
  rw [pow_ok (a := 4) (by decide) (by omega), h]
theorem tank_ok (cs : Nat → Addr) (ns : List Int) (k : Nat) (hk : k < 1000) : ∃ t, Tk 0 t ∧ m__law_tank cs [.fz (.scr ns), .fz (.int k)] = .ok t ⟨[], [.fz (.scr ns), .fz (.int k)]⟩ := by
  have e18 : dPow (.int 10) (.int 18) = some (.int 1000000000000000000) := p10 (k := 18) (by decide)
  have e39 : dPow (.int 10) (.int 39) = some (.int 1000000000000000000000000000000000000000) := p10 (k := 39) (by decide)
  have em : dMul (.int 70001) (.int k) = some (.int (70001 * k)) := mul_ok (a := 20) (b := 20) (by decide) (by show k < _; omega) (by decide)
  obtain ⟨cell, hc⟩ : ∃ cell : Int, (if (k : Int) < (ns.length : Int) then ns[k]? else some 0) = some cell := by
    by_cases h : k < ns.length
    · exact ⟨ns[k], by rw [if_pos (by omega)]; simp [h]⟩
    · exact ⟨0, by rw [if_neg (by omega)]⟩
  have hmm := Int.emod_nonneg cell (show (1000000000000000000000000000000000000037 : Int) ≠ 0 by decide)
  have hmn := Int.emod_lt_of_pos cell (show (0 : Int) < 1000000000000000000000000000000000000037 by decide)
  refine ⟨.ol [.fz (.int (max 0 (cell - 1000000000000000000))), .fz (.int (cell % 1000000000000000000000000000000000000037 + 70001 * k + 83)), .fz (.int 0)], ⟨_, _, _, rfl, ?_, by omega, by omega⟩, ?_⟩
  · have : (2 : Nat) ^ 200 = 1606938044258990275541962092341162602522202993782792835301376 := by decide
    omega
  · by_cases h : (k : Int) < (ns.length : Int)
    · rw [if_pos h] at hc
      have hk' : k < ns.length := by omega
      have hf : cell.fmod 1000000000000000000000000000000000000037 = cell % 1000000000000000000000000000000000000037 := Int.fmod_eq_emod_of_nonneg _ (by decide)
      have hg : ns[k] = cell := by simpa [hk'] using hc
      simp [m__law_tank_1, m__law_tank_2, m__law_tank_3, m__law_tank_4, m__law_tank, -List.map_map, -List.map_take, -List.map_drop, -List.map_append, -List.map_reverse, asDef, entry, slotsOf, sSeq, sSet, sRet, sIf, sDrop, sNil, sBreak, sCont, sApp, sSetAt, setEnd, sAug, sAsg, sPar, mVar, mSee, mFrz, mTake, mC, mUn, mOp, mNil, mCons, mCall, mCallL, mTup, mLst, mView, mOwn, mFz, mTest, mAnd, mOr, mNot, mIf, mAndV, mOrV, mNotV, mChain, mAt, qSee, qFz, qNew, oNone, oSome, rNil, rSlot, rFz, mCall0, mCall1, oneSlot, noSlot, treesOf, SD.tree, SD.put, SD.putFz, tgN, tgNil, tgCons, tgT, ER.bind, ER.opt, ER.stm, Fl.seq, OT.view, OT.views, OT.items, fzOf, iLst, iTuP, iRange1, iRange2, iZip2, iEnumL, dIx, atI, ixN, dAdd, dSub, dNeg, dLt, dLe, dGt, dGe, dIsN, dNotN, isNonD, dEq, dNe, eqB_int, eqB_str, eqB_bl, eq_2, eq_3, dLen, dIsi, D.isA, tyName, dMod, dMax, dMin, mAtS, mBm, D.isL, D.isS, e18, e39, em, h, hk', hg, hf]
    · rw [if_neg h] at hc
      cases hc
      simp [m__law_tank_1, m__law_tank_2, m__law_tank_3, m__law_tank_4, m__law_tank, -List.map_map, -List.map_take, -List.map_drop, -List.map_append, -List.map_reverse, asDef, entry, slotsOf, sSeq, sSet, sRet, sIf, sDrop, sNil, sBreak, sCont, sApp, sSetAt, setEnd, sAug, sAsg, sPar, mVar, mSee, mFrz, mTake, mC, mUn, mOp, mNil, mCons, mCall, mCallL, mTup, mLst, mView, mOwn, mFz, mTest, mAnd, mOr, mNot, mIf, mAndV, mOrV, mNotV, mChain, mAt, qSee, qFz, qNew, oNone, oSome, rNil, rSlot, rFz, mCall0, mCall1, oneSlot, noSlot, treesOf, SD.tree, SD.put, SD.putFz, tgN, tgNil, tgCons, tgT, ER.bind, ER.opt, ER.stm, Fl.seq, OT.view, OT.views, OT.items, fzOf, iLst, iTuP, iRange1, iRange2, iZip2, iEnumL, dIx, atI, ixN, dAdd, dSub, dNeg, dLt, dLe, dGt, dGe, dIsN, dNotN, isNonD, dEq, dNe, eqB_int, eqB_str, eqB_bl, eq_2, eq_3, dLen, dIsi, D.isA, tyName, dMod, dMax, dMin, mAtS, mBm, D.isL, D.isS, e18, e39, em, h]
theorem dip_ok (cs : Nat → Addr) {n : Nat} {t : OT} {m : Int} (h : Tk n t) (hn : n < 2 ^ 64) (h1 : 0 < m) (h2 : m.natAbs < 2 ^ 8000) : ∃ (v : Int) (t' : OT), 0 ≤ v ∧ v < m ∧ Tk (n + 1) t' ∧ m__law_dip cs [t, .fz (.int m)] = .ok (.fz (.int v)) ⟨[], [t', .fz (.int m)]⟩ := by
  obtain ⟨a, b, c, rfl, hb, hc, hc2⟩ := h
  have hm0 : ¬ m = 0 := by omega
  by_cases ha : 0 < a
  · refine ⟨a.fmod m, .ol [.fz (.int (a.fdiv m)), .fz (.int b), .fz (.int c)], Int.fmod_nonneg_of_pos _ h1, Int.fmod_lt_of_pos _ h1, ⟨_, _, _, rfl, hb, hc, by omega⟩, ?_⟩
    have e1 := div_ok (i := a) h2 hm0 (by decide)
    simp [m__law_dip_1, m__law_dip_2, m__law_dip_3, m__law_dip_4, m__law_dip_5, m__law_dip_6, m__law_dip_7, m__law_dip_8, m__law_dip, -List.map_map, -List.map_take, -List.map_drop, -List.map_append, -List.map_reverse, asDef, entry, slotsOf, sSeq, sSet, sRet, sIf, sDrop, sNil, sBreak, sCont, sApp, sSetAt, setEnd, sAug, sAsg, sPar, mVar, mSee, mFrz, mTake, mC, mUn, mOp, mNil, mCons, mCall, mCallL, mTup, mLst, mView, mOwn, mFz, mTest, mAnd, mOr, mNot, mIf, mAndV, mOrV, mNotV, mChain, mAt, qSee, qFz, qNew, oNone, oSome, rNil, rSlot, rFz, mCall0, mCall1, oneSlot, noSlot, treesOf, SD.tree, SD.put, SD.putFz, tgN, tgNil, tgCons, tgT, ER.bind, ER.opt, ER.stm, Fl.seq, OT.view, OT.views, OT.items, fzOf, iLst, iTuP, iRange1, iRange2, iZip2, iEnumL, dIx, atI, ixN, dAdd, dSub, dNeg, dLt, dLe, dGt, dGe, dIsN, dNotN, isNonD, dEq, dNe, eqB_int, eqB_str, eqB_bl, eq_2, eq_3, dLen, dIsi, D.isA, tyName, dMod, dMax, dMin, mAtS, mBm, D.isL, D.isS, ha, hm0, e1]
  · have e42 : dPow (.int 10) (.int 42) = some (.int 1000000000000000000000000000000000000000000) := p10 (k := 42) (by decide)
    have e41 : dPow (.int 10) (.int 41) = some (.int 100000000000000000000000000000000000000000) := p10 (k := 41) (by decide)
    have b200 : (2 : Nat) ^ 200 = 1606938044258990275541962092341162602522202993782792835301376 := by decide
    have b201 : (2 : Nat) ^ 201 = 3213876088517980551083924184682325205044405987565585670602752 := by decide
    have m1 : dMul (.int 86028157) (.int (c + 1)) = some (.int (86028157 * (c + 1))) := mul_ok (a := 100) (b := 100) (by decide) (by omega) (by decide)
    have m2 : dMul (.int 49979693) (.int (c + 1)) = some (.int (49979693 * (c + 1))) := mul_ok (a := 100) (b := 100) (by decide) (by omega) (by decide)
    have q1 : dPow (.int (b + 86028157 * (c + 1))) (.int 3) = some (.int ((b + 86028157 * (c + 1)) ^ 3)) := pow_ok (a := 201) (k := 3) (by omega) (by decide)
    obtain ⟨x, hx⟩ : ∃ x, x = ((b + 86028157 * (c + 1)) ^ 3).fmod 1000000000000000000000000000000000000000063 := ⟨_, rfl⟩
    have x0 : 0 ≤ x := by rw [hx]; exact Int.fmod_nonneg_of_pos _ (by decide)
    have x1 : x < 1000000000000000000000000000000000000000063 := by rw [hx]; exact Int.fmod_lt_of_pos _ (by decide)
    have q2 : dPow (.int (x + 49979693 * (c + 1))) (.int 3) = some (.int ((x + 49979693 * (c + 1)) ^ 3)) := pow_ok (a := 201) (k := 3) (by omega) (by decide)
    have d1 : ∀ z : Int, dDiv (.int z) (.int 655373) = some (.int (z.fdiv 655373)) := fun z => div_ok (a := 30) (by decide) (by decide) (by decide)
    refine ⟨((((x + 49979693 * (c + 1)) ^ 3).fmod 100000000000000000000000000000000000000037).fdiv 655373).fmod m, .ol [.fz (.int a), .fz (.int b), .fz (.int (c + 1))], Int.fmod_nonneg_of_pos _ h1, Int.fmod_lt_of_pos _ h1, ⟨_, _, _, rfl, hb, by omega, by omega⟩, ?_⟩
    simp [m__law_dip_1, m__law_dip_2, m__law_dip_3, m__law_dip_4, m__law_dip_5, m__law_dip_6, m__law_dip_7, m__law_dip_8, m__law_dip, -List.map_map, -List.map_take, -List.map_drop, -List.map_append, -List.map_reverse, asDef, entry, slotsOf, sSeq, sSet, sRet, sIf, sDrop, sNil, sBreak, sCont, sApp, sSetAt, setEnd, sAug, sAsg, sPar, mVar, mSee, mFrz, mTake, mC, mUn, mOp, mNil, mCons, mCall, mCallL, mTup, mLst, mView, mOwn, mFz, mTest, mAnd, mOr, mNot, mIf, mAndV, mOrV, mNotV, mChain, mAt, qSee, qFz, qNew, oNone, oSome, rNil, rSlot, rFz, mCall0, mCall1, oneSlot, noSlot, treesOf, SD.tree, SD.put, SD.putFz, tgN, tgNil, tgCons, tgT, ER.bind, ER.opt, ER.stm, Fl.seq, OT.view, OT.views, OT.items, fzOf, iLst, iTuP, iRange1, iRange2, iZip2, iEnumL, dIx, atI, ixN, dAdd, dSub, dNeg, dLt, dLe, dGt, dGe, dIsN, dNotN, isNonD, dEq, dNe, eqB_int, eqB_str, eqB_bl, eq_2, eq_3, dLen, dIsi, D.isA, tyName, dMod, dMax, dMin, mAtS, mBm, D.isL, D.isS, ha, hm0, e42, e41, m1, m2, q1, ← hx, q2, d1]
variable (cs : Nat → Addr)
/-! ### spans: what the mirrors come to -/
def P2 (p : Int × Int) : D := .tup [.int p.1, .int p.2]
def WD (ps : List (Int × Int)) : D := .lst (ps.map P2)
def ND (ns : List Int) : D := .lst (ns.map D.int)
theorem is_int_ok (i : Int) : (m_is_int cs) [.fz (.int i)] = .ok (.fz (.bl true)) ⟨[], [.fz (.int i)]⟩ := rfl
theorem is_interval_ok (p : Int × Int) (h : p.1 < p.2) : (m_is_interval cs) [.fz (P2 p)] = .ok (.fz (.bl true)) ⟨[], [.fz (P2 p)]⟩ := by
  simp [m_is_interval, m_is_interval_1, m_is_interval_2, m_is_interval_3, is_int_ok cs, P2, -List.map_map, -List.map_take, -List.map_drop, -List.map_append, -List.map_reverse, asDef, entry, slotsOf, sSeq, sSet, sRet, sIf, sDrop, sNil, sBreak, sCont, sApp, sSetAt, setEnd, sAug, sAsg, sPar, mVar, mSee, mFrz, mTake, mC, mUn, mOp, mNil, mCons, mCall, mCallL, mTup, mLst, mView, mOwn, mFz, mTest, mAnd, mOr, mNot, mIf, mAndV, mOrV, mNotV, mChain, mAt, qSee, qFz, qNew, oNone, oSome, rNil, rSlot, rFz, mCall0, mCall1, oneSlot, noSlot, treesOf, SD.tree, SD.put, SD.putFz, tgN, tgNil, tgCons, tgT, ER.bind, ER.opt, ER.stm, Fl.seq, OT.view, OT.views, OT.items, fzOf, iLst, iTuP, iRange1, iRange2, iZip2, iEnumL, dIx, atI, ixN, dAdd, dSub, dNeg, dLt, dLe, dGt, dGe, dIsN, dNotN, isNonD, dEq, dNe, eqB_int, eqB_str, eqB_bl, eq_2, eq_3, dLen, dIsi, D.isA, tyName, dMod, dMax, dMin, mAtS, mBm, D.isL, D.isS, h]
theorem bools_const {α : Type} : ∀ ps : List α, boolsOf (ps.map fun _ => D.bl true) = some (ps.map fun _ => true)
  | [] => rfl
  | p :: r => by rw [List.map_cons, boolsOf, bools_const r]; rfl
theorem require_ok (ps : List (Int × Int)) (h : ∀ p ∈ ps, p.1 < p.2) (hl : ps.length ≤ 16777216) : (m_require_intervals cs) [.fz (WD ps)] = .ok (.fz .non) ⟨[], [.fz (WD ps)]⟩ := by
  have hc : (m_require_intervals_c1 cs) ⟨[.ow (.fz (WD ps)), .un], [.fz (WD ps)]⟩ = .ok (.ol ((ps.map fun _ => D.bl true).map .fz)) ⟨[.ow (.fz (WD ps)), .un], [.fz (WD ps)]⟩ :=
    mComp_map ps P2 _ (by simp [WD, -List.map_map, -List.map_take, -List.map_drop, -List.map_append, -List.map_reverse, asDef, entry, slotsOf, sSeq, sSet, sRet, sIf, sDrop, sNil, sBreak, sCont, sApp, sSetAt, setEnd, sAug, sAsg, sPar, mVar, mSee, mFrz, mTake, mC, mUn, mOp, mNil, mCons, mCall, mCallL, mTup, mLst, mView, mOwn, mFz, mTest, mAnd, mOr, mNot, mIf, mAndV, mOrV, mNotV, mChain, mAt, qSee, qFz, qNew, oNone, oSome, rNil, rSlot, rFz, mCall0, mCall1, oneSlot, noSlot, treesOf, SD.tree, SD.put, SD.putFz, tgN, tgNil, tgCons, tgT, ER.bind, ER.opt, ER.stm, Fl.seq, OT.view, OT.views, OT.items, fzOf, iLst, iTuP, iRange1, iRange2, iZip2, iEnumL, dIx, atI, ixN, dAdd, dSub, dNeg, dLt, dLe, dGt, dGe, dIsN, dNotN, isNonD, dEq, dNe, eqB_int, eqB_str, eqB_bl, eq_2, eq_3, dLen, dIsi, D.isA, tyName, dMod, dMax, dMin, mAtS, mBm, D.isL, D.isS]) hl fun p hp => ⟨⟨[.ow (.fz (WD ps)), .ow (.fz (P2 p))], [.fz (WD ps)]⟩, rfl, rfl, by simp [-List.map_map, -List.map_take, -List.map_drop, -List.map_append, -List.map_reverse, asDef, entry, slotsOf, sSeq, sSet, sRet, sIf, sDrop, sNil, sBreak, sCont, sApp, sSetAt, setEnd, sAug, sAsg, sPar, mVar, mSee, mFrz, mTake, mC, mUn, mOp, mNil, mCons, mCall, mCallL, mTup, mLst, mView, mOwn, mFz, mTest, mAnd, mOr, mNot, mIf, mAndV, mOrV, mNotV, mChain, mAt, qSee, qFz, qNew, oNone, oSome, rNil, rSlot, rFz, mCall0, mCall1, oneSlot, noSlot, treesOf, SD.tree, SD.put, SD.putFz, tgN, tgNil, tgCons, tgT, ER.bind, ER.opt, ER.stm, Fl.seq, OT.view, OT.views, OT.items, fzOf, iLst, iTuP, iRange1, iRange2, iZip2, iEnumL, dIx, atI, ixN, dAdd, dSub, dNeg, dLt, dLe, dGt, dGe, dIsN, dNotN, isNonD, dEq, dNe, eqB_int, eqB_str, eqB_bl, eq_2, eq_3, dLen, dIsi, D.isA, tyName, dMod, dMax, dMin, mAtS, mBm, D.isL, D.isS, is_interval_ok cs p (h p hp)]⟩
  have hi : dIsi [WD ps, .ty "list"] = some (.bl true) := rfl
  have e : OT.views ((ps.map fun _ => D.bl true).map .fz) = ps.map fun _ => D.bl true := views_fz _
  have ea : dAll [.lst (ps.map fun _ => D.bl true)] = some (.bl true) := by simp [dAll, bools_const]
  simp only [m_require_intervals, m_require_intervals_2, asDef, entry, slotsOf, sIf, mOr, mNot, mTest, mCall, mCons, mVar, mC, mNil, mView, ER.bind, ER.opt, ER.stm, List.append, List.length, List.replicate]
  simp [-List.map_map, hi, hc, OT.view, e, ea, sNil]
theorem ints_ends : ∀ ps : List (Int × Int), (ps.flatMap fun p => ([p.1, p.2] : List Int).map D.int) = (ends ps).map D.int
  | [] => rfl
  | p :: r => by
    rw [List.flatMap_cons, ints_ends r]
    rfl
/-- the pairs that are stretches -/
def strchs (l : List Int) : List (Int × Int) := ((evens l).zip (odds l)).filter fun p => decide (p.1 < p.2)
theorem odd_str_ok (ps : List (Int × Int)) (hl : ps.length ≤ 8000000) : (m_odd_stretches cs) [.fz (WD ps)] = .ok (.ol (((strchs (sortI (ends ps))).map P2).map .fz)) ⟨[], [.fz (WD ps)]⟩ := by
  have h1 : (m_odd_stretches_c1 cs) ⟨[.ow (.fz (WD ps)), .un, .un, .un, .un, .un], [.fz (WD ps)]⟩ = .ok (.ol ((ps.flatMap fun p => ([p.1, p.2] : List Int).map D.int).map .fz)) ⟨[.ow (.fz (WD ps)), .un, .un, .un, .un, .un], [.fz (WD ps)]⟩ :=
    mComp2_map ps P2 (fun p => [p.1, p.2]) D.int (fun _ => D.int) (by simp [WD, -List.map_map, -List.map_take, -List.map_drop, -List.map_append, -List.map_reverse, asDef, entry, slotsOf, sSeq, sSet, sRet, sIf, sDrop, sNil, sBreak, sCont, sApp, sSetAt, setEnd, sAug, sAsg, sPar, mVar, mSee, mFrz, mTake, mC, mUn, mOp, mNil, mCons, mCall, mCallL, mTup, mLst, mView, mOwn, mFz, mTest, mAnd, mOr, mNot, mIf, mAndV, mOrV, mNotV, mChain, mAt, qSee, qFz, qNew, oNone, oSome, rNil, rSlot, rFz, mCall0, mCall1, oneSlot, noSlot, treesOf, SD.tree, SD.put, SD.putFz, tgN, tgNil, tgCons, tgT, ER.bind, ER.opt, ER.stm, Fl.seq, OT.view, OT.views, OT.items, fzOf, iLst, iTuP, iRange1, iRange2, iZip2, iEnumL, dIx, atI, ixN, dAdd, dSub, dNeg, dLt, dLe, dGt, dGe, dIsN, dNotN, isNonD, dEq, dNe, eqB_int, eqB_str, eqB_bl, eq_2, eq_3, dLen, dIsi, D.isA, tyName, dMod, dMax, dMin, mAtS, mBm, D.isL, D.isS]) (by decide) (by rw [ints_ends, List.length_map, ends_len]; omega)
      fun p hp => ⟨⟨[.ow (.fz (WD ps)), .un, .ow (.fz (P2 p)), .un, .un, .un], [.fz (WD ps)]⟩, rfl, rfl, by simp [-List.map_map, -List.map_take, -List.map_drop, -List.map_append, -List.map_reverse, asDef, entry, slotsOf, sSeq, sSet, sRet, sIf, sDrop, sNil, sBreak, sCont, sApp, sSetAt, setEnd, sAug, sAsg, sPar, mVar, mSee, mFrz, mTake, mC, mUn, mOp, mNil, mCons, mCall, mCallL, mTup, mLst, mView, mOwn, mFz, mTest, mAnd, mOr, mNot, mIf, mAndV, mOrV, mNotV, mChain, mAt, qSee, qFz, qNew, oNone, oSome, rNil, rSlot, rFz, mCall0, mCall1, oneSlot, noSlot, treesOf, SD.tree, SD.put, SD.putFz, tgN, tgNil, tgCons, tgT, ER.bind, ER.opt, ER.stm, Fl.seq, OT.view, OT.views, OT.items, fzOf, iLst, iTuP, iRange1, iRange2, iZip2, iEnumL, dIx, atI, ixN, dAdd, dSub, dNeg, dLt, dLe, dGt, dGe, dIsN, dNotN, isNonD, dEq, dNe, eqB_int, eqB_str, eqB_bl, eq_2, eq_3, dLen, dIsi, D.isA, tyName, dMod, dMax, dMin, mAtS, mBm, D.isL, D.isS, P2], fun y hy => ⟨⟨[.ow (.fz (WD ps)), .un, .ow (.fz (P2 p)), .ow (.fz (.int y)), .un, .un], [.fz (WD ps)]⟩, rfl, rfl, by simp [-List.map_map, -List.map_take, -List.map_drop, -List.map_append, -List.map_reverse, asDef, entry, slotsOf, sSeq, sSet, sRet, sIf, sDrop, sNil, sBreak, sCont, sApp, sSetAt, setEnd, sAug, sAsg, sPar, mVar, mSee, mFrz, mTake, mC, mUn, mOp, mNil, mCons, mCall, mCallL, mTup, mLst, mView, mOwn, mFz, mTest, mAnd, mOr, mNot, mIf, mAndV, mOrV, mNotV, mChain, mAt, qSee, qFz, qNew, oNone, oSome, rNil, rSlot, rFz, mCall0, mCall1, oneSlot, noSlot, treesOf, SD.tree, SD.put, SD.putFz, tgN, tgNil, tgCons, tgT, ER.bind, ER.opt, ER.stm, Fl.seq, OT.view, OT.views, OT.items, fzOf, iLst, iTuP, iRange1, iRange2, iZip2, iEnumL, dIx, atI, ixN, dAdd, dSub, dNeg, dLt, dLe, dGt, dGe, dIsN, dNotN, isNonD, dEq, dNe, eqB_int, eqB_str, eqB_bl, eq_2, eq_3, dLen, dIsi, D.isA, tyName, dMod, dMax, dMin, mAtS, mBm, D.isL, D.isS]⟩⟩
  rw [ints_ends] at h1
  have e1 : OT.views (((ends ps).map D.int).map .fz) = (ends ps).map D.int := views_fz _
  have e2 : dSortT [.lst ((ends ps).map D.int)] = some ((sortI (ends ps)).map D.int) := by simp [dSortT, intsOf_map]
  obtain ⟨l, hs⟩ : ∃ l, l = sortI (ends ps) := ⟨_, rfl⟩
  have hll : l.length = 2 * ps.length := by rw [hs, (sortI_perm _).length_eq, ends_len]
  rw [← hs] at e2
  have h2 : (m_odd_stretches_1 cs) ⟨[.ow (.fz (WD ps)), .un, .un, .un, .un, .un], [.fz (WD ps)]⟩ = .nx ⟨[.ow (.fz (WD ps)), .ow (.fz (ND l)), .un, .un, .un, .un], [.fz (WD ps)]⟩ := by
    simp [m_odd_stretches_1, -List.map_map, -List.map_take, -List.map_drop, -List.map_append, -List.map_reverse, asDef, entry, slotsOf, sSeq, sSet, sRet, sIf, sDrop, sNil, sBreak, sCont, sApp, sSetAt, setEnd, sAug, sAsg, sPar, mVar, mSee, mFrz, mTake, mC, mUn, mOp, mNil, mCons, mCall, mCallL, mTup, mLst, mView, mOwn, mFz, mTest, mAnd, mOr, mNot, mIf, mAndV, mOrV, mNotV, mChain, mAt, qSee, qFz, qNew, oNone, oSome, rNil, rSlot, rFz, mCall0, mCall1, oneSlot, noSlot, treesOf, SD.tree, SD.put, SD.putFz, tgN, tgNil, tgCons, tgT, ER.bind, ER.opt, ER.stm, Fl.seq, OT.view, OT.views, OT.items, fzOf, iLst, iTuP, iRange1, iRange2, iZip2, iEnumL, dIx, atI, ixN, dAdd, dSub, dNeg, dLt, dLe, dGt, dGe, dIsN, dNotN, isNonD, dEq, dNe, eqB_int, eqB_str, eqB_bl, eq_2, eq_3, dLen, dIsi, D.isA, tyName, dMod, dMax, dMin, mAtS, mBm, D.isL, D.isS, h1, e1, e2, ND, views_fz]
  have h3 : (m_odd_stretches_c2 cs) ⟨[.ow (.fz (WD ps)), .ow (.fz (ND l)), .un, .un, .un, .un], [.fz (WD ps)]⟩ = .ok (.ol (((strchs l).map P2).map .fz)) ⟨[.ow (.fz (WD ps)), .ow (.fz (ND l)), .un, .un, .un, .un], [.fz (WD ps)]⟩ := by
    refine mComp_of ((evens l).zip (odds l)) P2 (fun p => decide (p.1 < p.2)) P2 ?_ ?_ fun p hp => ⟨⟨[.ow (.fz (WD ps)), .ow (.fz (ND l)), .un, .un, .ow (.fz (.int p.1)), .ow (.fz (.int p.2))], [.fz (WD ps)]⟩, rfl, rfl, by simp [-List.map_map, -List.map_take, -List.map_drop, -List.map_append, -List.map_reverse, asDef, entry, slotsOf, sSeq, sSet, sRet, sIf, sDrop, sNil, sBreak, sCont, sApp, sSetAt, setEnd, sAug, sAsg, sPar, mVar, mSee, mFrz, mTake, mC, mUn, mOp, mNil, mCons, mCall, mCallL, mTup, mLst, mView, mOwn, mFz, mTest, mAnd, mOr, mNot, mIf, mAndV, mOrV, mNotV, mChain, mAt, qSee, qFz, qNew, oNone, oSome, rNil, rSlot, rFz, mCall0, mCall1, oneSlot, noSlot, treesOf, SD.tree, SD.put, SD.putFz, tgN, tgNil, tgCons, tgT, ER.bind, ER.opt, ER.stm, Fl.seq, OT.view, OT.views, OT.items, fzOf, iLst, iTuP, iRange1, iRange2, iZip2, iEnumL, dIx, atI, ixN, dAdd, dSub, dNeg, dLt, dLe, dGt, dGe, dIsN, dNotN, isNonD, dEq, dNe, eqB_int, eqB_str, eqB_bl, eq_2, eq_3, dLen, dIsi, D.isA, tyName, dMod, dMax, dMin, mAtS, mBm, D.isL, D.isS], fun _ => by simp [-List.map_map, -List.map_take, -List.map_drop, -List.map_append, -List.map_reverse, asDef, entry, slotsOf, sSeq, sSet, sRet, sIf, sDrop, sNil, sBreak, sCont, sApp, sSetAt, setEnd, sAug, sAsg, sPar, mVar, mSee, mFrz, mTake, mC, mUn, mOp, mNil, mCons, mCall, mCallL, mTup, mLst, mView, mOwn, mFz, mTest, mAnd, mOr, mNot, mIf, mAndV, mOrV, mNotV, mChain, mAt, qSee, qFz, qNew, oNone, oSome, rNil, rSlot, rFz, mCall0, mCall1, oneSlot, noSlot, treesOf, SD.tree, SD.put, SD.putFz, tgN, tgNil, tgCons, tgT, ER.bind, ER.opt, ER.stm, Fl.seq, OT.view, OT.views, OT.items, fzOf, iLst, iTuP, iRange1, iRange2, iZip2, iEnumL, dIx, atI, ixN, dAdd, dSub, dNeg, dLt, dLe, dGt, dGe, dIsN, dNotN, isNonD, dEq, dNe, eqB_int, eqB_str, eqB_bl, eq_2, eq_3, dLen, dIsi, D.isA, tyName, dMod, dMax, dMin, mAtS, mBm, D.isL, D.isS, P2]⟩
    · have p1 : pickL (l.map D.int) none none (some 2) = (evens l).map D.int := by rw [pick_evens, evens_map]
      have p2 : pickL (l.map D.int) (some 1) none (some 2) = (odds l).map D.int := by rw [pick_odds, odds_map]
      have v1 : OT.views (((evens l).map D.int).map .fz) = (evens l).map D.int := views_fz _
      have v2 : OT.views (((odds l).map D.int).map .fz) = (odds l).map D.int := views_fz _
      have z : (((evens l).map D.int).zip ((odds l).map D.int)).map (fun p => D.tup [p.1, p.2]) = ((evens l).zip (odds l)).map P2 := by
        rw [List.zip_map, List.map_map]; rfl
      simp [-List.map_map, -List.map_take, -List.map_drop, -List.map_append, -List.map_reverse, asDef, entry, slotsOf, sSeq, sSet, sRet, sIf, sDrop, sNil, sBreak, sCont, sApp, sSetAt, setEnd, sAug, sAsg, sPar, mVar, mSee, mFrz, mTake, mC, mUn, mOp, mNil, mCons, mCall, mCallL, mTup, mLst, mView, mOwn, mFz, mTest, mAnd, mOr, mNot, mIf, mAndV, mOrV, mNotV, mChain, mAt, qSee, qFz, qNew, oNone, oSome, rNil, rSlot, rFz, mCall0, mCall1, oneSlot, noSlot, treesOf, SD.tree, SD.put, SD.putFz, tgN, tgNil, tgCons, tgT, ER.bind, ER.opt, ER.stm, Fl.seq, OT.view, OT.views, OT.items, fzOf, iLst, iTuP, iRange1, iRange2, iZip2, iEnumL, dIx, atI, ixN, dAdd, dSub, dNeg, dLt, dLe, dGt, dGe, dIsN, dNotN, isNonD, dEq, dNe, eqB_int, eqB_str, eqB_bl, eq_2, eq_3, dLen, dIsi, D.isA, tyName, dMod, dMax, dMin, mAtS, mBm, D.isL, D.isS, mPick, ND, p1, p2, v1, v2, z]
    · rw [List.length_zip, evens_len, odds_len]; omega
  rw [hs] at h2 h3
  simp [m_odd_stretches, asDef, entry, slotsOf, sSeq, sRet, m_odd_stretches_2, ER.stm, Fl.seq, h2, h3]
def oddS (ps : List (Int × Int)) : Int := alt (sortI (ends ps))
theorem odd_in_ok (ps : List (Int × Int)) (hl : ps.length ≤ 8000000) : (m_odd_in_spans cs) [.fz (WD ps)] = .ok (.fz (.int (oddS ps))) ⟨[], [.fz (WD ps)]⟩ := by
  have hs := odd_str_ok cs ps hl
  obtain ⟨q, hq⟩ : ∃ q, q = strchs (sortI (ends ps)) := ⟨_, rfl⟩
  rw [← hq] at hs
  have hlen : q.length ≤ 8000000 := by
    have h1 : q.length ≤ ((evens (sortI (ends ps))).zip (odds (sortI (ends ps)))).length := by rw [hq]; exact List.length_filter_le _ _
    rw [List.length_zip, evens_len, odds_len, (sortI_perm _).length_eq, ends_len] at h1
    omega
  have v1 : OT.views ((q.map P2).map .fz) = q.map P2 := views_fz _
  have hc : (m_odd_in_spans_c1 cs) ⟨[.ow (.fz (WD ps)), .un, .un], [.fz (WD ps)]⟩ = .ok (.ol ((q.map fun p => D.int (p.2 - p.1)).map .fz)) ⟨[.ow (.fz (WD ps)), .un, .un], [.fz (WD ps)]⟩ :=
    mComp_map q P2 _ (by simp [-List.map_map, -List.map_take, -List.map_drop, -List.map_append, -List.map_reverse, asDef, entry, slotsOf, sSeq, sSet, sRet, sIf, sDrop, sNil, sBreak, sCont, sApp, sSetAt, setEnd, sAug, sAsg, sPar, mVar, mSee, mFrz, mTake, mC, mUn, mOp, mNil, mCons, mCall, mCallL, mTup, mLst, mView, mOwn, mFz, mTest, mAnd, mOr, mNot, mIf, mAndV, mOrV, mNotV, mChain, mAt, qSee, qFz, qNew, oNone, oSome, rNil, rSlot, rFz, mCall0, mCall1, oneSlot, noSlot, treesOf, SD.tree, SD.put, SD.putFz, tgN, tgNil, tgCons, tgT, ER.bind, ER.opt, ER.stm, Fl.seq, OT.view, OT.views, OT.items, fzOf, iLst, iTuP, iRange1, iRange2, iZip2, iEnumL, dIx, atI, ixN, dAdd, dSub, dNeg, dLt, dLe, dGt, dGe, dIsN, dNotN, isNonD, dEq, dNe, eqB_int, eqB_str, eqB_bl, eq_2, eq_3, dLen, dIsi, D.isA, tyName, dMod, dMax, dMin, mAtS, mBm, D.isL, D.isS, hs, v1]) (by omega) fun p hp => ⟨⟨[.ow (.fz (WD ps)), .ow (.fz (.int p.1)), .ow (.fz (.int p.2))], [.fz (WD ps)]⟩, rfl, rfl, by simp [-List.map_map, -List.map_take, -List.map_drop, -List.map_append, -List.map_reverse, asDef, entry, slotsOf, sSeq, sSet, sRet, sIf, sDrop, sNil, sBreak, sCont, sApp, sSetAt, setEnd, sAug, sAsg, sPar, mVar, mSee, mFrz, mTake, mC, mUn, mOp, mNil, mCons, mCall, mCallL, mTup, mLst, mView, mOwn, mFz, mTest, mAnd, mOr, mNot, mIf, mAndV, mOrV, mNotV, mChain, mAt, qSee, qFz, qNew, oNone, oSome, rNil, rSlot, rFz, mCall0, mCall1, oneSlot, noSlot, treesOf, SD.tree, SD.put, SD.putFz, tgN, tgNil, tgCons, tgT, ER.bind, ER.opt, ER.stm, Fl.seq, OT.view, OT.views, OT.items, fzOf, iLst, iTuP, iRange1, iRange2, iZip2, iEnumL, dIx, atI, ixN, dAdd, dSub, dNeg, dLt, dLe, dGt, dGe, dIsN, dNotN, isNonD, dEq, dNe, eqB_int, eqB_str, eqB_bl, eq_2, eq_3, dLen, dIsi, D.isA, tyName, dMod, dMax, dMin, mAtS, mBm, D.isL, D.isS]⟩
  have v2 : OT.views ((q.map fun p => D.int (p.2 - p.1)).map .fz) = (q.map fun p => p.2 - p.1).map D.int := by rw [views_fz, List.map_map]; rfl
  have e : dSum [.lst ((q.map fun p => p.2 - p.1).map D.int)] = some (.int (oddS ps)) := by
    simp only [dSum, intsOf_map, Option.map_some]
    rw [hq, strchs, alt_pairs _ (sortI_pw _)]
    rfl
  simp only [m_odd_in_spans, m_odd_in_spans_1, asDef, entry, slotsOf, sRet, mOwn, mCall, mCons, mView, mNil, ER.bind, ER.opt, ER.stm]
  simp [-List.map_map, hc, OT.view, v2, e]
theorem odd_cov_ok (ps : List (Int × Int)) (h : ∀ p ∈ ps, p.1 < p.2) (hl : ps.length ≤ 8000000) : (m_odd_covered cs) [.fz (WD ps)] = .ok (.fz (.int (oddS ps))) ⟨[], [.fz (WD ps)]⟩ := by
  simp [m_odd_covered, m_odd_covered_1, m_odd_covered_2, -List.map_map, -List.map_take, -List.map_drop, -List.map_append, -List.map_reverse, asDef, entry, slotsOf, sSeq, sSet, sRet, sIf, sDrop, sNil, sBreak, sCont, sApp, sSetAt, setEnd, sAug, sAsg, sPar, mVar, mSee, mFrz, mTake, mC, mUn, mOp, mNil, mCons, mCall, mCallL, mTup, mLst, mView, mOwn, mFz, mTest, mAnd, mOr, mNot, mIf, mAndV, mOrV, mNotV, mChain, mAt, qSee, qFz, qNew, oNone, oSome, rNil, rSlot, rFz, mCall0, mCall1, oneSlot, noSlot, treesOf, SD.tree, SD.put, SD.putFz, tgN, tgNil, tgCons, tgT, ER.bind, ER.opt, ER.stm, Fl.seq, OT.view, OT.views, OT.items, fzOf, iLst, iTuP, iRange1, iRange2, iZip2, iEnumL, dIx, atI, ixN, dAdd, dSub, dNeg, dLt, dLe, dGt, dGe, dIsN, dNotN, isNonD, dEq, dNe, eqB_int, eqB_str, eqB_bl, eq_2, eq_3, dLen, dIsi, D.isA, tyName, dMod, dMax, dMin, mAtS, mBm, D.isL, D.isS, require_ok cs ps h (by omega), odd_in_ok cs ps hl]
theorem tups_of : ∀ ps : List (Int × Int), ps ≠ [] → intsOf (ps.map P2) = none ∧ tupsOf (ps.map P2) = some (ps.map fun p => [p.1, p.2])
  | [], h => absurd rfl h
  | [p], _ => ⟨rfl, rfl⟩
  | p :: q :: r, _ => by
    obtain ⟨h1, h2⟩ := tups_of (q :: r) (by simp)
    refine ⟨rfl, ?_⟩
    rw [List.map_cons, P2, tupsOf, h2]
    rfl
/-! ### sorted pairs -/
def pr2 (l : List Int) : Int × Int := (l.getD 0 0, l.getD 1 0)
def srt (ps : List (Int × Int)) : List (Int × Int) := (sortT (ps.map fun p => [p.1, p.2])).map pr2
theorem srt_eq (ps : List (Int × Int)) : sortT (ps.map fun p => [p.1, p.2]) = (srt ps).map fun p => [p.1, p.2] := by
  unfold srt
  rw [List.map_map]
  refine (List.map_id _).symm.trans (List.map_congr_left fun l hl => ?_)
  obtain ⟨p, _, rfl⟩ := List.mem_map.mp ((sortT_perm _).mem_iff.mp hl)
  rfl
theorem srt_perm (ps : List (Int × Int)) : (srt ps).Perm ps := by
  unfold srt
  have := (sortT_perm (ps.map fun p => [p.1, p.2])).map pr2
  rw [List.map_map] at this
  refine this.trans (List.Perm.of_eq ?_)
  exact (List.map_congr_left fun p _ => rfl).trans (List.map_id _)
theorem srt_pw (ps : List (Int × Int)) : (srt ps).Pairwise (fun p q => p.1 ≤ q.1) := by
  have := sortT_pw (ps.map fun p => [p.1, p.2])
  rw [srt_eq, List.pairwise_map] at this
  refine this.imp fun {p q} h => ?_
  unfold leI lexI at h
  rw [HT.lexLt_cons] at h
  by_cases c : p.1 = q.1
  · omega
  · rw [if_neg (by omega)] at h
    simp at h
    omega
def covSD (ps : List (Int × Int)) (s : Int × Option Int) (x y : S) : SD := ⟨[.ow (.fz (WD ps)), .ow (.fz (.int s.1)), .ow (.fz (match s.2 with | none => .non | some r => .int r)), x, y], [.fz (WD ps)]⟩
theorem cov_body (ps : List (Int × Int)) (s : Int × Option Int) (p : Int × Int) : (m_covered_in_b1 cs) (covSD ps s (.ow (.fz (.int p.1))) (.ow (.fz (.int p.2)))) = .nx (covSD ps (covStep s p) (.ow (.fz (.int p.1))) (.ow (.fz (.int p.2)))) := by
  obtain ⟨f, r⟩ := s
  cases r with
  | none =>
    simp [m_covered_in_b1, m_covered_in_2, m_covered_in_3, m_covered_in_4, m_covered_in_5, covSD, covStep, -List.map_map, -List.map_take, -List.map_drop, -List.map_append, -List.map_reverse, asDef, entry, slotsOf, sSeq, sSet, sRet, sIf, sDrop, sNil, sBreak, sCont, sApp, sSetAt, setEnd, sAug, sAsg, sPar, mVar, mSee, mFrz, mTake, mC, mUn, mOp, mNil, mCons, mCall, mCallL, mTup, mLst, mView, mOwn, mFz, mTest, mAnd, mOr, mNot, mIf, mAndV, mOrV, mNotV, mChain, mAt, qSee, qFz, qNew, oNone, oSome, rNil, rSlot, rFz, mCall0, mCall1, oneSlot, noSlot, treesOf, SD.tree, SD.put, SD.putFz, tgN, tgNil, tgCons, tgT, ER.bind, ER.opt, ER.stm, Fl.seq, OT.view, OT.views, OT.items, fzOf, iLst, iTuP, iRange1, iRange2, iZip2, iEnumL, dIx, atI, ixN, dAdd, dSub, dNeg, dLt, dLe, dGt, dGe, dIsN, dNotN, isNonD, dEq, dNe, eqB_int, eqB_str, eqB_bl, eq_2, eq_3, dLen, dIsi, D.isA, tyName, dMod, dMax, dMin, mAtS, mBm, D.isL, D.isS]
  | some r =>
    by_cases h : r < p.1
    · simp [m_covered_in_b1, m_covered_in_2, m_covered_in_3, m_covered_in_4, m_covered_in_5, covSD, covStep, -List.map_map, -List.map_take, -List.map_drop, -List.map_append, -List.map_reverse, asDef, entry, slotsOf, sSeq, sSet, sRet, sIf, sDrop, sNil, sBreak, sCont, sApp, sSetAt, setEnd, sAug, sAsg, sPar, mVar, mSee, mFrz, mTake, mC, mUn, mOp, mNil, mCons, mCall, mCallL, mTup, mLst, mView, mOwn, mFz, mTest, mAnd, mOr, mNot, mIf, mAndV, mOrV, mNotV, mChain, mAt, qSee, qFz, qNew, oNone, oSome, rNil, rSlot, rFz, mCall0, mCall1, oneSlot, noSlot, treesOf, SD.tree, SD.put, SD.putFz, tgN, tgNil, tgCons, tgT, ER.bind, ER.opt, ER.stm, Fl.seq, OT.view, OT.views, OT.items, fzOf, iLst, iTuP, iRange1, iRange2, iZip2, iEnumL, dIx, atI, ixN, dAdd, dSub, dNeg, dLt, dLe, dGt, dGe, dIsN, dNotN, isNonD, dEq, dNe, eqB_int, eqB_str, eqB_bl, eq_2, eq_3, dLen, dIsi, D.isA, tyName, dMod, dMax, dMin, mAtS, mBm, D.isL, D.isS, h]
    · simp [m_covered_in_b1, m_covered_in_2, m_covered_in_3, m_covered_in_4, m_covered_in_5, covSD, covStep, -List.map_map, -List.map_take, -List.map_drop, -List.map_append, -List.map_reverse, asDef, entry, slotsOf, sSeq, sSet, sRet, sIf, sDrop, sNil, sBreak, sCont, sApp, sSetAt, setEnd, sAug, sAsg, sPar, mVar, mSee, mFrz, mTake, mC, mUn, mOp, mNil, mCons, mCall, mCallL, mTup, mLst, mView, mOwn, mFz, mTest, mAnd, mOr, mNot, mIf, mAndV, mOrV, mNotV, mChain, mAt, qSee, qFz, qNew, oNone, oSome, rNil, rSlot, rFz, mCall0, mCall1, oneSlot, noSlot, treesOf, SD.tree, SD.put, SD.putFz, tgN, tgNil, tgCons, tgT, ER.bind, ER.opt, ER.stm, Fl.seq, OT.view, OT.views, OT.items, fzOf, iLst, iTuP, iRange1, iRange2, iZip2, iEnumL, dIx, atI, ixN, dAdd, dSub, dNeg, dLt, dLe, dGt, dGe, dIsN, dNotN, isNonD, dEq, dNe, eqB_int, eqB_str, eqB_bl, eq_2, eq_3, dLen, dIsi, D.isA, tyName, dMod, dMax, dMin, mAtS, mBm, D.isL, D.isS, h]
def covIn (ps : List (Int × Int)) : Int := ((srt ps).foldl covStep (0, none)).1
theorem cov_in_ok (ps : List (Int × Int)) : (m_covered_in cs) [.fz (WD ps)] = .ok (.fz (.int (covIn ps))) ⟨[], [.fz (WD ps)]⟩ := by
  have es : dSortT [WD ps] = some ((srt ps).map P2) := by
    cases ps with
    | nil => simp [dSortT, WD, srt, sortT, intsOf, sortI]
    | cons p r =>
      obtain ⟨t1, t2⟩ := tups_of (p :: r) (by simp)
      have e1 : ((srt (p :: r)).map fun p => [p.1, p.2]).map tupD = (srt (p :: r)).map P2 := by rw [List.map_map]; rfl
      simp only [dSortT, WD, t1, t2, Option.map_some, srt_eq, e1]
  have v1 : OT.views (((srt ps).map P2).map .fz) = (srt ps).map P2 := views_fz _
  have h1 : (m_covered_in_1 cs) ⟨[.ow (.fz (WD ps)), .un, .un, .un, .un], [.fz (WD ps)]⟩ = .nx (covSD ps (0, none) .un .un) := rfl
  obtain ⟨sd', h2, x, y, h3⟩ := sFor_inv (it := iLst (mView (mCallL dSortT (mCons (mVar 0) (mNil))))) (g := tgT 2 (tgCons (tgN 3) (tgCons (tgN 4) (tgNil)))) (body := (m_covered_in_b1 cs)) (sd := covSD ps (0, none) .un .un) (srt ps) P2
    (fun r sd => ∃ x y s, sd = covSD ps s x y ∧ (r.foldl covStep s).1 = covIn ps) (sd1 := covSD ps (0, none) .un .un) (by simp [-List.map_map, -List.map_take, -List.map_drop, -List.map_append, -List.map_reverse, asDef, entry, slotsOf, sSeq, sSet, sRet, sIf, sDrop, sNil, sBreak, sCont, sApp, sSetAt, setEnd, sAug, sAsg, sPar, mVar, mSee, mFrz, mTake, mC, mUn, mOp, mNil, mCons, mCall, mCallL, mTup, mLst, mView, mOwn, mFz, mTest, mAnd, mOr, mNot, mIf, mAndV, mOrV, mNotV, mChain, mAt, qSee, qFz, qNew, oNone, oSome, rNil, rSlot, rFz, mCall0, mCall1, oneSlot, noSlot, treesOf, SD.tree, SD.put, SD.putFz, tgN, tgNil, tgCons, tgT, ER.bind, ER.opt, ER.stm, Fl.seq, OT.view, OT.views, OT.items, fzOf, iLst, iTuP, iRange1, iRange2, iZip2, iEnumL, dIx, atI, ixN, dAdd, dSub, dNeg, dLt, dLe, dGt, dGe, dIsN, dNotN, isNonD, dEq, dNe, eqB_int, eqB_str, eqB_bl, eq_2, eq_3, dLen, dIsi, D.isA, tyName, dMod, dMax, dMin, mAtS, mBm, D.isL, D.isS, covSD, es, v1]) ⟨_, _, _, rfl, rfl⟩ fun p r sd ⟨x, y, s, e, q⟩ => by
      subst e
      exact ⟨covSD ps s (.ow (.fz (.int p.1))) (.ow (.fz (.int p.2))), _, rfl, .inl (cov_body cs ps s p), _, _, _, rfl, q⟩
  obtain ⟨s, rfl, q⟩ := h3
  have h2 : (m_covered_in_6 cs) (covSD ps (0, none) .un .un) = .nx (covSD ps s x y) := h2
  have q : s.1 = covIn ps := q
  have h4 : (m_covered_in_7 cs) (covSD ps s x y) = .rt (.fz (.int (covIn ps))) (covSD ps s x y) := by rw [← q]; rfl
  simp [m_covered_in, asDef, entry, slotsOf, sSeq, h1, Fl.seq, h2, h4]
  rfl
theorem cov_ok (ps : List (Int × Int)) (h : ∀ p ∈ ps, p.1 < p.2) (hl : ps.length ≤ 8000000) : (m_covered cs) [.fz (WD ps)] = .ok (.fz (.int (covIn ps))) ⟨[], [.fz (WD ps)]⟩ := by
  simp [m_covered, m_covered_1, m_covered_2, -List.map_map, -List.map_take, -List.map_drop, -List.map_append, -List.map_reverse, asDef, entry, slotsOf, sSeq, sSet, sRet, sIf, sDrop, sNil, sBreak, sCont, sApp, sSetAt, setEnd, sAug, sAsg, sPar, mVar, mSee, mFrz, mTake, mC, mUn, mOp, mNil, mCons, mCall, mCallL, mTup, mLst, mView, mOwn, mFz, mTest, mAnd, mOr, mNot, mIf, mAndV, mOrV, mNotV, mChain, mAt, qSee, qFz, qNew, oNone, oSome, rNil, rSlot, rFz, mCall0, mCall1, oneSlot, noSlot, treesOf, SD.tree, SD.put, SD.putFz, tgN, tgNil, tgCons, tgT, ER.bind, ER.opt, ER.stm, Fl.seq, OT.view, OT.views, OT.items, fzOf, iLst, iTuP, iRange1, iRange2, iZip2, iEnumL, dIx, atI, ixN, dAdd, dSub, dNeg, dLt, dLe, dGt, dGe, dIsN, dNotN, isNonD, dEq, dNe, eqB_int, eqB_str, eqB_bl, eq_2, eq_3, dLen, dIsi, D.isA, tyName, dMod, dMax, dMin, mAtS, mBm, D.isL, D.isS, require_ok cs _ h (by omega), cov_in_ok cs ps]
theorem filter_dep (x : Int) : ∀ ps : List (Int × Int), (ps.filter fun p => decide (p.1 ≤ x) && decide (x < p.2)).length = dep ps x
  | ps => by
    unfold dep
    rw [List.countP_eq_length_filter]
    congr 1
    exact List.filter_congr fun p _ => by simp
theorem depth_in_ok (ps : List (Int × Int)) (x : Int) (hl : ps.length ≤ 8000000) : (m_depth_in cs) [.fz (WD ps), .fz (.int x)] = .ok (.fz (.int (dep ps x : Nat))) ⟨[], [.fz (WD ps), .fz (.int x)]⟩ := by
  have hc : (m_depth_in_c1 cs) ⟨[.ow (.fz (WD ps)), .ow (.fz (.int x)), .un, .un], [.fz (WD ps), .fz (.int x)]⟩ = .ok (.ol (((ps.filter fun p => decide (p.1 ≤ x) && decide (x < p.2)).map fun p => D.int p.1).map .fz)) ⟨[.ow (.fz (WD ps)), .ow (.fz (.int x)), .un, .un], [.fz (WD ps), .fz (.int x)]⟩ :=
    mComp_of ps P2 (fun p => decide (p.1 ≤ x) && decide (x < p.2)) (fun p => D.int p.1) rfl (by omega) fun p _ => ⟨⟨[.ow (.fz (WD ps)), .ow (.fz (.int x)), .ow (.fz (.int p.1)), .ow (.fz (.int p.2))], [.fz (WD ps), .fz (.int x)]⟩, rfl, rfl, chain_ok rfl rfl rfl, fun _ => rfl⟩
  have v1 : OT.views (((ps.filter fun p => decide (p.1 ≤ x) && decide (x < p.2)).map fun p => D.int p.1).map .fz) = (ps.filter fun p => decide (p.1 ≤ x) && decide (x < p.2)).map fun p => D.int p.1 := views_fz _
  have e : dLen [.lst ((ps.filter fun p => decide (p.1 ≤ x) && decide (x < p.2)).map fun p => D.int p.1)] = some (.int (dep ps x : Nat)) := by
    simp only [dLen, List.length_map, filter_dep]
  simp only [m_depth_in, m_depth_in_1, asDef, entry, slotsOf, sRet, mOwn, mCall, mCons, mView, mNil, ER.bind, ER.opt, ER.stm, List.length_cons, List.length_nil, List.replicate, List.cons_append, List.nil_append]
  simp [-List.map_map, hc, OT.view, v1, e]
theorem depth_ok (ps : List (Int × Int)) (x : Int) (h : ∀ p ∈ ps, p.1 < p.2) (hl : ps.length ≤ 8000000) : (m_depth_at cs) [.fz (WD ps), .fz (.int x)] = .ok (.fz (.int (dep ps x : Nat))) ⟨[], [.fz (WD ps), .fz (.int x)]⟩ := by
  simp [m_depth_at, m_depth_at_1, m_depth_at_3, m_depth_at_4, -List.map_map, -List.map_take, -List.map_drop, -List.map_append, -List.map_reverse, asDef, entry, slotsOf, sSeq, sSet, sRet, sIf, sDrop, sNil, sBreak, sCont, sApp, sSetAt, setEnd, sAug, sAsg, sPar, mVar, mSee, mFrz, mTake, mC, mUn, mOp, mNil, mCons, mCall, mCallL, mTup, mLst, mView, mOwn, mFz, mTest, mAnd, mOr, mNot, mIf, mAndV, mOrV, mNotV, mChain, mAt, qSee, qFz, qNew, oNone, oSome, rNil, rSlot, rFz, mCall0, mCall1, oneSlot, noSlot, treesOf, SD.tree, SD.put, SD.putFz, tgN, tgNil, tgCons, tgT, ER.bind, ER.opt, ER.stm, Fl.seq, OT.view, OT.views, OT.items, fzOf, iLst, iTuP, iRange1, iRange2, iZip2, iEnumL, dIx, atI, ixN, dAdd, dSub, dNeg, dLt, dLe, dGt, dGe, dIsN, dNotN, isNonD, dEq, dNe, eqB_int, eqB_str, eqB_bl, eq_2, eq_3, dLen, dIsi, D.isA, tyName, dMod, dMax, dMin, mAtS, mBm, D.isL, D.isS, require_ok cs _ h (by omega), depth_in_ok cs ps x hl, is_int_ok cs]
variable (cs : Nat → Addr)
/-! ### the law's intervals -/
def ILs (ps : List (Int × Int)) : OT := .ol ((ps.map P2).map .fz)
def spSD (t : OT) (most : Int) (found : List (Int × Int)) (way last : Int) (x y z : S) : SD := ⟨[.pa 0, .ow (.fz (.int most)), .ow (ILs found), .ow (.fz (.int way)), .ow (.fz (.int last)), x, y, z], [t, .fz (.int most)]⟩
def BB : Int := 2 * 1000000000000000000000000000000000000000000000000000000000000000000000000000000000000000000000000000
theorem six {ds : List Int} {w : Int} (h0 : 0 ≤ w) (h1 : w < 6) (hl : ds.length = 6) : ∃ v ∈ ds, atI (ds.map D.int) w = some (.int v) := by
  obtain ⟨k, rfl⟩ := Int.eq_ofNat_of_zero_le h0
  have hk : k < ds.length := by omega
  refine ⟨ds[k], List.getElem_mem _, ?_⟩
  unfold atI ixN
  rw [if_pos (by omega), if_pos (by rw [List.length_map]; omega)]
  show (ds.map D.int)[((k : Nat) : Int).toNat]? = _
  simp [hk]
theorem sp_body {n : Nat} {t : OT} {most way last : Int} {found : List (Int × Int)} {y z : S} {i : Nat} (h : Tk n t) (hn : n < 2 ^ 63) (hi : i ≤ 1000) (hw0 : 0 ≤ way) (hw : way < 6) (hf : found.length ≤ 1000) (hb : ∀ p ∈ found, p.1.natAbs ≤ BB * i ∧ p.2.natAbs ≤ BB * i) (hl : last.natAbs ≤ BB * i) :
    ∃ p last' t' y' z', Tk (n + 20) t' ∧ p.1 < p.2 ∧ p.1.natAbs ≤ BB * (i + 1) ∧ p.2.natAbs ≤ BB * (i + 1) ∧ last'.natAbs ≤ BB * (i + 1) ∧
      (m__law_some_spans_b1 cs) (spSD t most found way last (.ow (.fz (.int i))) y z) = .nx (spSD t' most (found ++ [p]) way last' (.ow (.fz (.int i))) y' z') := by
  have e60 : dPow (.int 10) (.int 60) = some (.int 1000000000000000000000000000000000000000000000000000000000000) := p10 (k := 60) (by decide)
  have e59 : dPow (.int 10) (.int 59) = some (.int 100000000000000000000000000000000000000000000000000000000000) := p10 (k := 59) (by decide)
  have e38 : dPow (.int 10) (.int 38) = some (.int 100000000000000000000000000000000000000) := p10 (k := 38) (by decide)
  have m98 : dMul (.int 1000000000000000000000000000000000000000000000000000000000000) (.int 100000000000000000000000000000000000000) = some (.int 100000000000000000000000000000000000000000000000000000000000000000000000000000000000000000000000000) := mul_ok (a := 300) (b := 300) (by decide) (by decide) (by decide)
  obtain ⟨v1, t1, a1, b1, k1, q1⟩ := dip_ok cs h (by omega) (m := 12) (by decide) (by decide +kernel)
  obtain ⟨v2, t2, a2, b2, k2, q2⟩ := dip_ok cs k1 (by omega) (m := 1000000000000000000000000000000000000000000000000000000000000) (by decide) (by decide +kernel)
  obtain ⟨v3, t3, a3, b3, k3, q3⟩ := dip_ok cs k2 (by omega) (m := 4) (by decide) (by decide +kernel)
  obtain ⟨v4, t4, a4, b4, k4, q4⟩ := dip_ok cs k3 (by omega) (m := 3) (by decide) (by decide +kernel)
  obtain ⟨v5, t5, a5, b5, k5, q5⟩ := dip_ok cs k4 (by omega) (m := 99) (by decide) (by decide +kernel)
  obtain ⟨v6, t6, a6, b6, k6, q6⟩ := dip_ok cs k5 (by omega) (m := 6) (by decide) (by decide +kernel)
  obtain ⟨v7, t7, a7, b7, k7, q7⟩ := dip_ok cs k6 (by omega) (m := 3) (by decide) (by decide +kernel)
  obtain ⟨v8, t8, a8, b8, k8, q8⟩ := dip_ok cs k7 (by omega) (m := 1000000000000000000000000000000000000000000000000000000000000) (by decide) (by decide +kernel)
  obtain ⟨v9, t9, a9, b9, k9, q9⟩ := dip_ok cs k8 (by omega) (m := 50) (by decide) (by decide +kernel)
  obtain ⟨va, ta, aa, ba, ka, qa⟩ := dip_ok cs k9 (by omega) (m := 2) (by decide) (by decide +kernel)
  have m1 : dMul (.int 100000000000000000000000000000000000000000000000000000000000000000000000000000000000000000000000000) (.int (v4 - 1)) = some (.int (100000000000000000000000000000000000000000000000000000000000000000000000000000000000000000000000000 * (v4 - 1))) := mul_ok (a := 400) (b := 10) (by decide) (by omega) (by decide)
  have m2 : dMul (.int 2) (.int i) = some (.int (2 * i)) := mul_ok (a := 10) (b := 20) (by decide) (by omega) (by decide)
  -- low
  obtain ⟨lows, hlows⟩ : ∃ lows : List Int, lows = [v1, last, v2 - 100000000000000000000000000000000000000000000000000000000000, last + v3, 0 - (i : Int), 100000000000000000000000000000000000000000000000000000000000000000000000000000000000000000000000000 * (v4 - 1) + v5] := ⟨_, rfl⟩
  have s2 : (m__law_some_spans_2 cs) (spSD t most found way last (.ow (.fz (.int i))) y z) = .nx (spSD t3 most found way last (.ow (.fz (.int i))) (.ow (.ol [.fz (.int v1), .fz (.int last), .fz (.int (v2 - 100000000000000000000000000000000000000000000000000000000000)), .fz (.int (last + v3)), .fz (.int (0 - i))])) z) := by
    simp [m__law_some_spans_2, spSD, ILs, -List.map_map, -List.map_take, -List.map_drop, -List.map_append, -List.map_reverse, asDef, entry, slotsOf, sSeq, sSet, sRet, sIf, sDrop, sNil, sBreak, sCont, sApp, sSetAt, setEnd, sAug, sAsg, sPar, mVar, mSee, mFrz, mTake, mC, mUn, mOp, mNil, mCons, mCall, mCallL, mTup, mLst, mView, mOwn, mFz, mTest, mAnd, mOr, mNot, mIf, mAndV, mOrV, mNotV, mChain, mAt, qSee, qFz, qNew, oNone, oSome, rNil, rSlot, rFz, mCall0, mCall1, oneSlot, noSlot, treesOf, SD.tree, SD.put, SD.putFz, tgN, tgNil, tgCons, tgT, ER.bind, ER.opt, ER.stm, Fl.seq, OT.view, OT.views, OT.items, fzOf, iLst, iTuP, iRange1, iRange2, iZip2, iEnumL, dIx, atI, ixN, dAdd, dSub, dNeg, dLt, dLe, dGt, dGe, dIsN, dNotN, isNonD, dEq, dNe, eqB_int, eqB_str, eqB_bl, eq_2, eq_3, dLen, dIsi, D.isA, tyName, dMod, dMax, dMin, mAtS, mBm, D.isL, D.isS, q1, q2, q3, e60, e59]
  have s3 : (m__law_some_spans_3 cs) (spSD t3 most found way last (.ow (.fz (.int i))) (.ow (.ol [.fz (.int v1), .fz (.int last), .fz (.int (v2 - 100000000000000000000000000000000000000000000000000000000000)), .fz (.int (last + v3)), .fz (.int (0 - i))])) z) = .nx (spSD t5 most found way last (.ow (.fz (.int i))) (.ow (.ol ((lows.map D.int).map .fz))) z) := by
    rw [hlows]
    simp [m__law_some_spans_3, spSD, ILs, -List.map_map, -List.map_take, -List.map_drop, -List.map_append, -List.map_reverse, asDef, entry, slotsOf, sSeq, sSet, sRet, sIf, sDrop, sNil, sBreak, sCont, sApp, sSetAt, setEnd, sAug, sAsg, sPar, mVar, mSee, mFrz, mTake, mC, mUn, mOp, mNil, mCons, mCall, mCallL, mTup, mLst, mView, mOwn, mFz, mTest, mAnd, mOr, mNot, mIf, mAndV, mOrV, mNotV, mChain, mAt, qSee, qFz, qNew, oNone, oSome, rNil, rSlot, rFz, mCall0, mCall1, oneSlot, noSlot, treesOf, SD.tree, SD.put, SD.putFz, tgN, tgNil, tgCons, tgT, ER.bind, ER.opt, ER.stm, Fl.seq, OT.view, OT.views, OT.items, fzOf, iLst, iTuP, iRange1, iRange2, iZip2, iEnumL, dIx, atI, ixN, dAdd, dSub, dNeg, dLt, dLe, dGt, dGe, dIsN, dNotN, isNonD, dEq, dNe, eqB_int, eqB_str, eqB_bl, eq_2, eq_3, dLen, dIsi, D.isA, tyName, dMod, dMax, dMin, mAtS, mBm, D.isL, D.isS, q4, q5, e60, e38, m98, m1]
  obtain ⟨x6, hx6, hx0, hx1⟩ : ∃ x6 : Int, dIx (.lst [.int (1 + v9), .int 100000000000000000000000000000000000000000000000000000000000000000000000000000000000000000000000000]) (.int va) = some (.int x6) ∧ 1 ≤ x6 ∧ x6 ≤ 100000000000000000000000000000000000000000000000000000000000000000000000000000000000000000000000000 := by
    have : va = 0 ∨ va = 1 := by omega
    rcases this with rfl | rfl
    · exact ⟨1 + v9, rfl, by omega, by omega⟩
    · exact ⟨_, rfl, by decide, by decide⟩
  obtain ⟨szs, hszs⟩ : ∃ szs : List Int, szs = [1 + v6, 1 + v7, 1 + v8, 2, 1 + 2 * (i : Int), x6] := ⟨_, rfl⟩
  have s4 : (m__law_some_spans_4 cs) (spSD t5 most found way last (.ow (.fz (.int i))) (.ow (.ol ((lows.map D.int).map .fz))) z) = .nx (spSD t8 most found way last (.ow (.fz (.int i))) (.ow (.ol ((lows.map D.int).map .fz))) (.ow (.ol [.fz (.int (1 + v6)), .fz (.int (1 + v7)), .fz (.int (1 + v8)), .fz (.int 2), .fz (.int (1 + 2 * i))]))) := by
    simp [m__law_some_spans_4, spSD, ILs, -List.map_map, -List.map_take, -List.map_drop, -List.map_append, -List.map_reverse, asDef, entry, slotsOf, sSeq, sSet, sRet, sIf, sDrop, sNil, sBreak, sCont, sApp, sSetAt, setEnd, sAug, sAsg, sPar, mVar, mSee, mFrz, mTake, mC, mUn, mOp, mNil, mCons, mCall, mCallL, mTup, mLst, mView, mOwn, mFz, mTest, mAnd, mOr, mNot, mIf, mAndV, mOrV, mNotV, mChain, mAt, qSee, qFz, qNew, oNone, oSome, rNil, rSlot, rFz, mCall0, mCall1, oneSlot, noSlot, treesOf, SD.tree, SD.put, SD.putFz, tgN, tgNil, tgCons, tgT, ER.bind, ER.opt, ER.stm, Fl.seq, OT.view, OT.views, OT.items, fzOf, iLst, iTuP, iRange1, iRange2, iZip2, iEnumL, dIx, atI, ixN, dAdd, dSub, dNeg, dLt, dLe, dGt, dGe, dIsN, dNotN, isNonD, dEq, dNe, eqB_int, eqB_str, eqB_bl, eq_2, eq_3, dLen, dIsi, D.isA, tyName, dMod, dMax, dMin, mAtS, mBm, D.isL, D.isS, q6, q7, q8, e60, m2]
  have s5 : (m__law_some_spans_5 cs) (spSD t8 most found way last (.ow (.fz (.int i))) (.ow (.ol ((lows.map D.int).map .fz))) (.ow (.ol [.fz (.int (1 + v6)), .fz (.int (1 + v7)), .fz (.int (1 + v8)), .fz (.int 2), .fz (.int (1 + 2 * i))]))) = .nx (spSD ta most found way last (.ow (.fz (.int i))) (.ow (.ol ((lows.map D.int).map .fz))) (.ow (.ol ((szs.map D.int).map .fz)))) := by
    rw [hszs]
    simp [m__law_some_spans_5, spSD, ILs, -List.map_map, -List.map_take, -List.map_drop, -List.map_append, -List.map_reverse, asDef, entry, slotsOf, sSeq, sSet, sRet, sIf, sDrop, sNil, sBreak, sCont, sApp, sSetAt, setEnd, sAug, sAsg, sPar, mVar, mSee, mFrz, mTake, mC, mUn, mOp, mNil, mCons, mCall, mCallL, mTup, mLst, mView, mOwn, mFz, mTest, mAnd, mOr, mNot, mIf, mAndV, mOrV, mNotV, mChain, mAt, qSee, qFz, qNew, oNone, oSome, rNil, rSlot, rFz, mCall0, mCall1, oneSlot, noSlot, treesOf, SD.tree, SD.put, SD.putFz, tgN, tgNil, tgCons, tgT, ER.bind, ER.opt, ER.stm, Fl.seq, OT.view, OT.views, OT.items, fzOf, iLst, iTuP, iRange1, iRange2, iZip2, iEnumL, dAdd, dSub, dNeg, dLt, dLe, dGt, dGe, dIsN, dNotN, isNonD, dEq, dNe, eqB_int, eqB_str, eqB_bl, eq_2, eq_3, dLen, dIsi, D.isA, tyName, dMod, dMax, dMin, mAtS, mBm, D.isL, D.isS, q9, qa, e60, e38, m98, hx6]
  obtain ⟨lv, lm, le1⟩ := six (ds := lows) hw0 hw (by rw [hlows]; rfl)
  obtain ⟨sv, sm, se1⟩ := six (ds := szs) hw0 hw (by rw [hszs]; rfl)
  have hBB : BB = 2 * 1000000000000000000000000000000000000000000000000000000000000000000000000000000000000000000000000000 := rfl
  have hBi : 0 ≤ BB * i := by rw [hBB]; omega
  have hBs : BB * ((i : Int) + 1) = BB * i + 2 * 1000000000000000000000000000000000000000000000000000000000000000000000000000000000000000000000000000 := by rw [hBB]; omega
  have lb : lv.natAbs ≤ BB * i + 1000000000000000000000000000000000000000000000000000000000000000000000000000000000000000000000000000 := by
    rw [hlows] at lm
    simp only [List.mem_cons, List.not_mem_nil, or_false] at lm
    rcases lm with q | q | q | q | q | q <;> omega
  have sb : 1 ≤ sv ∧ sv ≤ 100000000000000000000000000000000000000000000000000000000000000000000000000000000000000000000000000 := by
    rw [hszs] at sm
    simp only [List.mem_cons, List.not_mem_nil, or_false] at sm
    rcases sm with q | q | q | q | q | q <;> omega
  have hfl : found.length < 16777216 := by omega
  have s6 : (m__law_some_spans_6 cs) (spSD ta most found way last (.ow (.fz (.int i))) (.ow (.ol ((lows.map D.int).map .fz))) (.ow (.ol ((szs.map D.int).map .fz)))) = .nx (spSD ta most (found ++ [(lv, lv + sv)]) way last (.ow (.fz (.int i))) (.ow (.ol ((lows.map D.int).map .fz))) (.ow (.ol ((szs.map D.int).map .fz)))) := by
    simp [m__law_some_spans_6, spSD, ILs, -List.map_map, -List.map_take, -List.map_drop, -List.map_append, -List.map_reverse, asDef, entry, slotsOf, sSeq, sSet, sRet, sIf, sDrop, sNil, sBreak, sCont, sApp, sSetAt, setEnd, sAug, sAsg, sPar, mVar, mSee, mFrz, mTake, mC, mUn, mOp, mNil, mCons, mCall, mCallL, mTup, mLst, mView, mOwn, mFz, mTest, mAnd, mOr, mNot, mIf, mAndV, mOrV, mNotV, mChain, mAt, qSee, qFz, qNew, oNone, oSome, rNil, rSlot, rFz, mCall0, mCall1, oneSlot, noSlot, treesOf, SD.tree, SD.put, SD.putFz, tgN, tgNil, tgCons, tgT, ER.bind, ER.opt, ER.stm, Fl.seq, OT.view, OT.views, OT.items, fzOf, iLst, iTuP, iRange1, iRange2, iZip2, iEnumL, dAdd, dSub, dNeg, dLt, dLe, dGt, dGe, dIsN, dNotN, isNonD, dEq, dNe, eqB_int, eqB_str, eqB_bl, eq_2, eq_3, dLen, dIsi, D.isA, tyName, dMod, dMax, dMin, mAtS, mBm, D.isL, D.isS, fzOf_map, le1, se1, P2, hfl]
    rw [List.map_append, List.map_append]; rfl
  have hlen : (0 : Int) < (found ++ [(lv, lv + sv)]).length := by rw [List.length_append, List.length_singleton]; omega
  obtain ⟨fo, hfo⟩ : ∃ fo, fo = found ++ [(lv, lv + sv)] := ⟨_, rfl⟩
  rw [← hfo] at hlen s6
  obtain ⟨vb, tb, ab, bb, kb, qb⟩ := dip_ok cs ka (by omega) (m := (fo.length : Int)) hlen (by
    have : ((fo.length : Int)).natAbs < 2 ^ 64 := by rw [hfo]; simp; omega
    exact Nat.lt_trans this (by decide +kernel))
  obtain ⟨vc, tc, ac, bc, kc, qc⟩ := dip_ok cs kb (by omega) (m := 2) (by decide) (by decide +kernel)
  obtain ⟨pp, pm, pe⟩ := at_in fo P2 ab bb
  obtain ⟨last', hl1, hl2⟩ : ∃ last' : Int, dIx (P2 pp) (.int vc) = some (.int last') ∧ (last' = pp.1 ∨ last' = pp.2) := by
    have : vc = 0 ∨ vc = 1 := by omega
    rcases this with rfl | rfl
    · exact ⟨pp.1, rfl, .inl rfl⟩
    · exact ⟨pp.2, rfl, .inr rfl⟩
  have s7 : (m__law_some_spans_7 cs) (spSD ta most fo way last (.ow (.fz (.int i))) (.ow (.ol ((lows.map D.int).map .fz))) (.ow (.ol ((szs.map D.int).map .fz)))) = .nx (spSD tc most fo way last' (.ow (.fz (.int i))) (.ow (.ol ((lows.map D.int).map .fz))) (.ow (.ol ((szs.map D.int).map .fz)))) := by
    simp [m__law_some_spans_7, spSD, ILs, -List.map_map, -List.map_take, -List.map_drop, -List.map_append, -List.map_reverse, asDef, entry, slotsOf, sSeq, sSet, sRet, sIf, sDrop, sNil, sBreak, sCont, sApp, sSetAt, setEnd, sAug, sAsg, sPar, mVar, mSee, mFrz, mTake, mC, mUn, mOp, mNil, mCons, mCall, mCallL, mTup, mLst, mView, mOwn, mFz, mTest, mAnd, mOr, mNot, mIf, mAndV, mOrV, mNotV, mChain, mAt, qSee, qFz, qNew, oNone, oSome, rNil, rSlot, rFz, mCall0, mCall1, oneSlot, noSlot, treesOf, SD.tree, SD.put, SD.putFz, tgN, tgNil, tgCons, tgT, ER.bind, ER.opt, ER.stm, Fl.seq, OT.view, OT.views, OT.items, fzOf, iLst, iTuP, iRange1, iRange2, iZip2, iEnumL, dAdd, dSub, dNeg, dLt, dLe, dGt, dGe, dIsN, dNotN, isNonD, dEq, dNe, eqB_int, eqB_str, eqB_bl, eq_2, eq_3, dLen, dIsi, D.isA, tyName, dMod, dMax, dMin, mAtS, mBm, D.isL, D.isS, fzOf_map, views_fz, pe, qb, qc, hl1]
  have ob : pp.1.natAbs ≤ BB * (i + 1) ∧ pp.2.natAbs ≤ BB * (i + 1) := by
    rw [hfo] at pm
    rcases List.mem_append.mp pm with q | q
    · have := hb pp q; omega
    · simp only [List.mem_cons, List.not_mem_nil, or_false] at q
      rw [q]
      dsimp only
      omega
  obtain ⟨a, b, c, e, f1, f2, f3⟩ := kc
  refine ⟨(lv, lv + sv), last', tc, .ow (.ol ((lows.map D.int).map .fz)), .ow (.ol ((szs.map D.int).map .fz)), ⟨a, b, c, e, f1, f2, by omega⟩, by show lv < lv + sv; omega, by show (lv.natAbs : Int) ≤ _; omega, by show ((lv + sv).natAbs : Int) ≤ _; omega, by rcases hl2 with q | q <;> omega, ?_⟩
  simp only [m__law_some_spans_b1, sSeq, s2, s3, s4, s5, s6, s7, Fl.seq]
  rw [hfo]
/-- good intervals -/
structure PsOk (ps : List (Int × Int)) : Prop where
  len : ps.length ≤ 400
  lt : ∀ p ∈ ps, p.1 < p.2
  big : ∀ p ∈ ps, p.1.natAbs ≤ BB * 1000 ∧ p.2.natAbs ≤ BB * 1000
theorem some_ok {n : Nat} {t : OT} {most : Int} (h : Tk n t) (hn : n < 2 ^ 62) (h0 : 0 ≤ most) (h1 : most ≤ 400) : ∃ ps t', PsOk ps ∧ Tk (n + 10000) t' ∧ (m__law_some_spans cs) [t, .fz (.int most)] = .ok (ILs ps) ⟨[], [t', .fz (.int most)]⟩ := by
  obtain ⟨v1, t1, a1, b1, k1, q1⟩ := dip_ok cs h (by omega) (m := 6) (by decide) (by decide +kernel)
  obtain ⟨v2, t2, a2, b2, k2, q2⟩ := dip_ok cs k1 (by omega) (m := most + 1) (by omega) (by
    have : (most + 1).natAbs < 2 ^ 64 := by omega
    exact Nat.lt_trans this (by decide +kernel))
  have s1 : (m__law_some_spans_1 cs) ⟨[.pa 0, .ow (.fz (.int most)), .un, .un, .un, .un, .un, .un], [t, .fz (.int most)]⟩ = .nx (spSD t1 most [] v1 0 .un .un .un) := by
    simp [m__law_some_spans_1, spSD, ILs, -List.map_map, -List.map_take, -List.map_drop, -List.map_append, -List.map_reverse, asDef, entry, slotsOf, sSeq, sSet, sRet, sIf, sDrop, sNil, sBreak, sCont, sApp, sSetAt, setEnd, sAug, sAsg, sPar, mVar, mSee, mFrz, mTake, mC, mUn, mOp, mNil, mCons, mCall, mCallL, mTup, mLst, mView, mOwn, mFz, mTest, mAnd, mOr, mNot, mIf, mAndV, mOrV, mNotV, mChain, mAt, qSee, qFz, qNew, oNone, oSome, rNil, rSlot, rFz, mCall0, mCall1, oneSlot, noSlot, treesOf, SD.tree, SD.put, SD.putFz, tgN, tgNil, tgCons, tgT, ER.bind, ER.opt, ER.stm, Fl.seq, OT.view, OT.views, OT.items, fzOf, iLst, iTuP, iRange1, iRange2, iZip2, iEnumL, dIx, atI, ixN, dAdd, dSub, dNeg, dLt, dLe, dGt, dGe, dIsN, dNotN, isNonD, dEq, dNe, eqB_int, eqB_str, eqB_bl, eq_2, eq_3, dLen, dIsi, D.isA, tyName, dMod, dMax, dMin, mAtS, mBm, D.isL, D.isS, sPar3, mFz, q1]
  have hit : iRange1 (mCons (mView (mCall1 (m__law_dip cs) (rSlot 0 (rFz (mOp dAdd (mVar 1) (mC (.int 1))) (rNil))))) (mNil)) (spSD t1 most [] v1 0 .un .un .un) = .ok ((List.range v2.toNat).map fun i : Nat => D.int (0 + (i : Int))) (spSD t2 most [] v1 0 .un .un .un) := by
    have hr : -(2 ^ 62) ≤ v2 ∧ v2 < 2 ^ 62 := ⟨by omega, by omega⟩
    simp only [spSD, iRange1, mCons, mNil, mC, mOp, mVar, dAdd, ER.opt, mView, mCall1, rSlot, rFz, rNil, SD.tree, SD.put, ER.bind, oneSlot, noSlot, treesOf, List.getElem?_cons_zero, List.getElem?_cons_succ, Option.map_some, Option.bind_some, if_true, q2, OT.view, List.set_cons_zero]
    rw [if_pos hr]
    rfl
  obtain ⟨sd', l1, found, last, t3, x, y, z, l2, l3, l4, l5, l6, l7⟩ := sFor_inv (it := iRange1 (mCons (mView (mCall1 (m__law_dip cs) (rSlot 0 (rFz (mOp dAdd (mVar 1) (mC (.int 1))) (rNil))))) (mNil))) (g := tgN 5) (body := (m__law_some_spans_b1 cs)) (sd := spSD t1 most [] v1 0 .un .un .un) (List.range v2.toNat) (fun i : Nat => D.int (0 + (i : Int)))
    (fun r sd => ∃ found last t x y z, sd = spSD t most found v1 last x y z ∧ found.length + r.length = v2.toNat ∧ r = (List.range v2.toNat).drop found.length ∧ Tk (n + 2 + 20 * found.length) t ∧ (∀ p ∈ found, p.1 < p.2 ∧ p.1.natAbs ≤ BB * found.length ∧ p.2.natAbs ≤ BB * found.length) ∧ last.natAbs ≤ BB * found.length)
    hit ⟨[], 0, t2, .un, .un, .un, rfl, by simp, by simp, by simpa using k2, fun p hp => (by cases hp), by simp⟩ fun i r sd ⟨found, last, t, x, y, z, e, u1, u2, u3, u4, u5⟩ => by
      subst e
      have hi : i = found.length := by
        have hh : (List.range v2.toNat)[found.length]? = some i := by
          have := congrArg (·[0]?) u2
          simpa using this.symm
        rw [List.getElem?_range (by rw [List.length_cons] at u1; omega)] at hh
        cases hh; rfl
      rw [List.length_cons] at u1
      obtain ⟨p, last', t', y', z', w1, w2, w3, w4, w5, w6⟩ := sp_body cs (most := most) (way := v1) (last := last) (found := found) (y := y) (z := z) (i := i) u3 (by omega) (by omega) a1 b1 (by omega) (fun p hp => by rw [hi]; exact (u4 p hp).2) (by rw [hi]; exact u5)
      refine ⟨spSD t most found v1 last (.ow (.fz (.int (0 + (i : Int))))) y z, _, rfl, .inl (by rw [Int.zero_add]; exact w6), found ++ [p], last', t', _, y', z', rfl, ?_, ?_, ?_, fun q hq => ?_, ?_⟩
      · rw [List.length_append, List.length_singleton]; omega
      · rw [List.length_append, List.length_singleton, ← List.drop_drop, ← u2]; rfl
      · rw [List.length_append, List.length_singleton]
        exact (show n + 2 + 20 * found.length + 20 = n + 2 + 20 * (found.length + 1) by omega) ▸ w1
      · rw [List.length_append, List.length_singleton]
        rw [← hi] at u4 ⊢
        have hB : BB * ((i : Int)) ≤ BB * (((i + 1 : Nat)) : Int) := Int.mul_le_mul_of_nonneg_left (by omega) (by decide)
        have hc : BB * ((i + 1 : Nat) : Int) = BB * ((i : Int) + 1) := rfl
        rcases List.mem_append.mp hq with hq | hq
        · obtain ⟨y1, y2, y3⟩ := u4 q hq
          exact ⟨y1, by omega, by omega⟩
        · simp only [List.mem_cons, List.not_mem_nil, or_false] at hq
          subst hq
          exact ⟨w2, by omega, by omega⟩
      · rw [List.length_append, List.length_singleton, ← hi]
        exact w5
  subst l2
  have hl1 : (m__law_some_spans_8 cs) (spSD t1 most [] v1 0 .un .un .un) = .nx (spSD t3 most found v1 last x y z) := l1
  have hlen : found.length ≤ 400 := by simp at l3; omega
  have hB : BB * ((found.length : Int)) ≤ BB * 1000 := Int.mul_le_mul_of_nonneg_left (by omega) (by decide)
  refine ⟨found, t3, ⟨hlen, fun p hp => (l6 p hp).1, fun p hp => ⟨Int.le_trans (l6 p hp).2.1 hB, Int.le_trans (l6 p hp).2.2 hB⟩⟩, ?_, ?_⟩
  · obtain ⟨a, b, c, e, f1, f2, f3⟩ := l5
    exact ⟨a, b, c, e, f1, f2, by omega⟩
  · obtain ⟨a, b, c, rfl, _⟩ := id h
    have hl2 : (m__law_some_spans_9 cs) (spSD t3 most found v1 last x y z) = .rt (ILs found) ⟨[.pa 0, .ow (.fz (.int most)), .un, .ow (.fz (.int v1)), .ow (.fz (.int last)), x, y, z], [t3, .fz (.int most)]⟩ := rfl
    have ent : entry 8 [.ol [.fz (.int a), .fz (.int b), .fz (.int c)], .fz (.int most)] = ⟨[.pa 0, .ow (.fz (.int most)), .un, .un, .un, .un, .un, .un], [.ol [.fz (.int a), .fz (.int b), .fz (.int c)], .fz (.int most)]⟩ := rfl
    simp only [m__law_some_spans, asDef, ent, sSeq, s1, Fl.seq, hl1, hl2]
variable (cs : Nat → Addr)
/-! ### what is no list of intervals -/
/-- is it an interval? told for the values that the law makes -/
def Iv (d : D) (b : Bool) : Prop := ∀ cs : Nat → Addr, m_is_interval cs [.fz d] = .ok (.fz (.bl b)) ⟨[], [.fz d]⟩
theorem iv_good (p : Int × Int) (h : p.1 < p.2) : Iv (P2 p) true := fun cs => is_interval_ok cs p h
theorem iv_low (a b : Int) (h : b ≤ a) : Iv (.tup [.int a, .int b]) false := fun cs => by
  have hn : ¬ a < b := by omega
  have e := is_int_ok cs
  simp [m_is_interval, m_is_interval_1, m_is_interval_2, m_is_interval_3, e, -List.map_map, -List.map_take, -List.map_drop, -List.map_append, -List.map_reverse, asDef, entry, slotsOf, sSeq, sSet, sRet, sIf, sDrop, sNil, sBreak, sCont, sApp, sSetAt, setEnd, sAug, sAsg, sPar, mVar, mSee, mFrz, mTake, mC, mUn, mOp, mNil, mCons, mCall, mCallL, mTup, mLst, mView, mOwn, mFz, mTest, mAnd, mOr, mNot, mIf, mAndV, mOrV, mNotV, mChain, mAt, qSee, qFz, qNew, oNone, oSome, rNil, rSlot, rFz, mCall0, mCall1, oneSlot, noSlot, treesOf, SD.tree, SD.put, SD.putFz, tgN, tgNil, tgCons, tgT, ER.bind, ER.opt, ER.stm, Fl.seq, OT.view, OT.views, OT.items, fzOf, iLst, iTuP, iRange1, iRange2, iZip2, iEnumL, dIx, atI, ixN, dAdd, dSub, dNeg, dLt, dLe, dGt, dGe, dIsN, dNotN, isNonD, dEq, dNe, eqB_int, eqB_str, eqB_bl, eq_2, eq_3, dLen, dIsi, D.isA, tyName, dMod, dMax, dMin, mAtS, mBm, D.isL, D.isS, hn]
theorem iv_lst (ds : List D) : Iv (.lst ds) false := fun cs => rfl
def oddD : List D := [.non, .int 0, .str "", .tup [], .tup [.int 1], .tup [.int 1, .int 2, .int 3], .lst [.int 1, .int 2], .tup [.int 2, .int 2], .tup [.int 3, .int 2], .dic false [] [],
  .tup [.non, .int 1], .tup [.int 0, .non], .tup [.bl true, .int 2], .tup [.int 0, .bl true], .tup [.bl false, .int 5], .tup [.str "0", .int 1], .tup [.int 0, .str "1"], .tup [.lst [.int 0], .int 1], .tup [.int 0, .tup [.int 1]],
  .tup [.tup [.int 0, .int 1]], .bl true]
theorem iv_odd : ∀ d ∈ oddD, Iv d false := fun d hd cs => by
  simp only [oddD, List.mem_cons, List.not_mem_nil, or_false] at hd
  rcases hd with h | h | h | h | h | h | h | h | h | h | h | h | h | h | h | h | h | h | h | h | h <;> subst h <;> rfl
def odds (v w : Int) : List D := oddD ++ [.tup [.int 1000000000000000000000000000000000000000000000000000000000000, .int 1000000000000000000000000000000000000000000000000000000000000], .tup [.int 0, .int (-1000000000000000000000000000000000000000000000000000000000000)], .tup [.int v, .int (-1 - w)]]
theorem iv_odds {v w : Int} (hv : 0 ≤ v) (hw : 0 ≤ w) : ∀ d ∈ odds v w, Iv d false := fun d hd => by
  rcases List.mem_append.mp hd with h | h
  · exact iv_odd d h
  · simp only [List.mem_cons, List.not_mem_nil, or_false] at h
    rcases h with h | h | h
    · rw [h]; exact iv_low _ _ (Int.le_refl _)
    · rw [h]; exact iv_low _ _ (by decide)
    · rw [h]; exact iv_low _ _ (by omega)
theorem bools_f (f : D → Bool) : ∀ ds : List D, boolsOf (ds.map fun d => D.bl (f d)) = some (ds.map f)
  | [] => rfl
  | d :: r => by rw [List.map_cons, boolsOf, bools_f f r]; rfl
theorem req_list (ds : List D) (f : D → Bool) (hl : ds.length ≤ 16777216) (h : ∀ d ∈ ds, Iv d (f d)) : m_require_intervals cs [.fz (.lst ds)] = if ds.all f = true then .ok (.fz .non) ⟨[], [.fz (.lst ds)]⟩ else .rz ⟨cs 21, none⟩ ⟨[], [.fz (.lst ds)]⟩ := by
  have hc : m_require_intervals_c1 cs ⟨[.ow (.fz (.lst ds)), .un], [.fz (.lst ds)]⟩ = .ok (.ol ((ds.map fun d => D.bl (f d)).map .fz)) ⟨[.ow (.fz (.lst ds)), .un], [.fz (.lst ds)]⟩ :=
    mComp_map ds (fun d => d) _ (by simp [-List.map_map, -List.map_take, -List.map_drop, -List.map_append, -List.map_reverse, asDef, entry, slotsOf, sSeq, sSet, sRet, sIf, sDrop, sNil, sBreak, sCont, sApp, sSetAt, setEnd, sAug, sAsg, sPar, mVar, mSee, mFrz, mTake, mC, mUn, mOp, mNil, mCons, mCall, mCallL, mTup, mLst, mView, mOwn, mFz, mTest, mAnd, mOr, mNot, mIf, mAndV, mOrV, mNotV, mChain, mAt, qSee, qFz, qNew, oNone, oSome, rNil, rSlot, rFz, mCall0, mCall1, oneSlot, noSlot, treesOf, SD.tree, SD.put, SD.putFz, tgN, tgNil, tgCons, tgT, ER.bind, ER.opt, ER.stm, Fl.seq, OT.view, OT.views, OT.items, fzOf, iLst, iTuP, iRange1, iRange2, iZip2, iEnumL, dIx, atI, ixN, dAdd, dSub, dNeg, dLt, dLe, dGt, dGe, dIsN, dNotN, isNonD, dEq, dNe, eqB_int, eqB_str, eqB_bl, eq_2, eq_3, dLen, dIsi, D.isA, tyName, dMod, dMax, dMin, mAtS, mBm, D.isL, D.isS]) hl fun p hp => ⟨⟨[.ow (.fz (.lst ds)), .ow (.fz p)], [.fz (.lst ds)]⟩, rfl, rfl, by simp [-List.map_map, -List.map_take, -List.map_drop, -List.map_append, -List.map_reverse, asDef, entry, slotsOf, sSeq, sSet, sRet, sIf, sDrop, sNil, sBreak, sCont, sApp, sSetAt, setEnd, sAug, sAsg, sPar, mVar, mSee, mFrz, mTake, mC, mUn, mOp, mNil, mCons, mCall, mCallL, mTup, mLst, mView, mOwn, mFz, mTest, mAnd, mOr, mNot, mIf, mAndV, mOrV, mNotV, mChain, mAt, qSee, qFz, qNew, oNone, oSome, rNil, rSlot, rFz, mCall0, mCall1, oneSlot, noSlot, treesOf, SD.tree, SD.put, SD.putFz, tgN, tgNil, tgCons, tgT, ER.bind, ER.opt, ER.stm, Fl.seq, OT.view, OT.views, OT.items, fzOf, iLst, iTuP, iRange1, iRange2, iZip2, iEnumL, dIx, atI, ixN, dAdd, dSub, dNeg, dLt, dLe, dGt, dGe, dIsN, dNotN, isNonD, dEq, dNe, eqB_int, eqB_str, eqB_bl, eq_2, eq_3, dLen, dIsi, D.isA, tyName, dMod, dMax, dMin, mAtS, mBm, D.isL, D.isS, h p hp cs]⟩
  have hi : dIsi [.lst ds, .ty "list"] = some (.bl true) := rfl
  have e : OT.views ((ds.map fun d => D.bl (f d)).map .fz) = ds.map fun d => D.bl (f d) := views_fz _
  have ea : dAll [.lst (ds.map fun d => D.bl (f d))] = some (.bl (ds.all f)) := by
    simp only [dAll, bools_f]
    show some (D.bl ((ds.map f).all id)) = _
    rw [List.all_map]
    rfl
  simp only [m_require_intervals, m_require_intervals_2, asDef, entry, slotsOf, sIf, mOr, mNot, mTest, mCall, mCons, mVar, mC, mNil, mView, ER.bind, ER.opt, ER.stm, List.append, List.length, List.replicate]
  by_cases q : ds.all f = true
  · simp [-List.map_map, hi, hc, OT.view, e, ea, sNil, q]
  · simp [-List.map_map, hi, hc, OT.view, e, ea, sNil, q, m_require_intervals_1, sRaise]
/-- values that are no lists of intervals -/
def BadV (d : D) : Prop := ∀ cs : Nat → Addr, m_require_intervals cs [.fz d] = .rz ⟨cs 21, none⟩ ⟨[], [.fz d]⟩
theorem bad_list {ds : List D} (f : D → Bool) (hl : ds.length ≤ 16777216) (h : ∀ d ∈ ds, Iv d (f d)) (x : D) (hx : x ∈ ds) (hf : f x = false) : BadV (.lst ds) := fun cs => by
  rw [req_list cs ds f hl h, if_neg]
  intro q
  have := List.all_eq_true.mp q x hx
  rw [hf] at this
  cases this
/-- one that is no interval among good ones -/
theorem bad_in {a b : List (Int × Int)} {x : D} (ha : ∀ p ∈ a, p.1 < p.2) (hb : ∀ p ∈ b, p.1 < p.2) (hx : Iv x false) (hl : a.length + b.length ≤ 16000000) : BadV (.lst (a.map P2 ++ x :: b.map P2)) := by
  classical
  refine bad_list (fun d => decide (∃ p : Int × Int, p.1 < p.2 ∧ d = P2 p)) (by simp; omega) (fun d hd => ?_) x (by simp) ?_
  · rcases List.mem_append.mp hd with h | h
    · obtain ⟨p, hp, rfl⟩ := List.mem_map.mp h
      rw [decide_eq_true ⟨p, ha p hp, rfl⟩]
      exact iv_good p (ha p hp)
    · rcases List.mem_cons.mp h with h | h
      · subst h
        rw [decide_eq_false]
        · exact hx
        · rintro ⟨p, hp, rfl⟩
          have h1 := iv_good p hp fun _ => 0
          rw [hx fun _ => 0] at h1
          cases h1
      · obtain ⟨p, hp, rfl⟩ := List.mem_map.mp h
        rw [decide_eq_true ⟨p, hb p hp, rfl⟩]
        exact iv_good p (hb p hp)
  · apply decide_eq_false
    rintro ⟨p, hp, rfl⟩
    have h1 := iv_good p hp fun _ => 0
    rw [hx fun _ => 0] at h1
    cases h1
/-- no list at all -/
theorem bad_no {d : D} (h : d.isA "list" = some false) : BadV d := fun cs => by
  have hi : dIsi [d, .ty "list"] = some (.bl false) := by
    show (d.isA "list").map D.bl = _
    rw [h]; rfl
  simp [m_require_intervals, m_require_intervals_2, m_require_intervals_1, -List.map_map, -List.map_take, -List.map_drop, -List.map_append, -List.map_reverse, asDef, entry, slotsOf, sSeq, sSet, sRet, sIf, sDrop, sNil, sBreak, sCont, sApp, sSetAt, setEnd, sAug, sAsg, sPar, mVar, mSee, mFrz, mTake, mC, mUn, mOp, mNil, mCons, mCall, mCallL, mTup, mLst, mView, mOwn, mFz, mTest, mAnd, mOr, mNot, mIf, mAndV, mOrV, mNotV, mChain, mAt, qSee, qFz, qNew, oNone, oSome, rNil, rSlot, rFz, mCall0, mCall1, oneSlot, noSlot, treesOf, SD.tree, SD.put, SD.putFz, tgN, tgNil, tgCons, tgT, ER.bind, ER.opt, ER.stm, Fl.seq, OT.view, OT.views, OT.items, fzOf, iLst, iTuP, iRange1, iRange2, iZip2, iEnumL, dIx, atI, ixN, dAdd, dSub, dNeg, dLt, dLe, dGt, dGe, dIsN, dNotN, isNonD, dEq, dNe, eqB_int, eqB_str, eqB_bl, eq_2, eq_3, dLen, dIsi, D.isA, tyName, dMod, dMax, dMin, mAtS, mBm, D.isL, D.isS, -dIsi, -D.isA, hi, sRaise]
/-! ### what repr shows -/
def Rp (d : D) (k n : Nat) : Prop := ∃ p, d.pyd = some p ∧ p.showable = true ∧ p.depth ≤ k ∧ szP p ≤ n
theorem rp_mono {d : D} {k n k' n' : Nat} (h : Rp d k n) (hk : k ≤ k') (hn : n ≤ n') : Rp d k' n' := by
  obtain ⟨p, h1, h2, h3, h4⟩ := h
  exact ⟨p, h1, h2, by omega, by omega⟩
theorem rps {k n : Nat} : ∀ ds : List D, (∀ d ∈ ds, Rp d k n) → ∃ ps, D.pyds ds = some ps ∧ PyData.showableAll ps = true ∧ PyData.depthAll ps ≤ k ∧ szA ps ≤ ds.length * (n + 2)
  | [], _ => ⟨[], by rw [D.pyds], rfl, Nat.zero_le _, Nat.zero_le _⟩
  | d :: r, h => by
    obtain ⟨p, h1, h2, h3, h4⟩ := h d List.mem_cons_self
    obtain ⟨ps, g1, g2, g3, g4⟩ := rps r fun e he => h e (List.mem_cons_of_mem _ he)
    refine ⟨p :: ps, by rw [D.pyds, h1, g1]; rfl, by rw [PyData.showableAll, h2, g2]; rfl, ?_, ?_⟩
    · rw [PyData.depthAll]; exact Nat.max_le.mpr ⟨h3, g3⟩
    · rw [szA, List.length_cons, Nat.add_mul]; omega
theorem rp_lst {ds : List D} {k n : Nat} (h : ∀ d ∈ ds, Rp d k n) : Rp (.lst ds) (k + 1) (ds.length * (n + 2) + 4) := by
  obtain ⟨ps, g1, g2, g3, g4⟩ := rps ds h
  refine ⟨.list ps, by rw [D.pyd, g1]; rfl, by rw [PyData.showable]; exact g2, ?_, ?_⟩
  · rw [PyData.depth]; omega
  · rw [szP]; omega
theorem rp_tup {ds : List D} {k n : Nat} (h : ∀ d ∈ ds, Rp d k n) : Rp (.tup ds) (k + 1) (ds.length * (n + 2) + 4) := by
  obtain ⟨ps, g1, g2, g3, g4⟩ := rps ds h
  refine ⟨.tuple ps, by rw [D.pyd, g1]; rfl, by rw [PyData.showable]; exact g2, ?_, ?_⟩
  · rw [PyData.depth]; omega
  · rw [szP]; omega
theorem rp_int {i : Int} (h : i.natAbs < 2 ^ 1000) : Rp (.int i) 1 1921 := by
  have h1 := log2_lt h
  refine ⟨.int i, by rw [D.pyd], ?_, by simp [PyData.depth], by rw [szP]; exact Nat.le_refl _⟩
  simp [PyData.showable]
  omega
theorem rp_repr {d : D} {k n : Nat} (h : Rp d k n) (hk : k ≤ 40) (hn : n ≤ 16777216) : ∃ s, dReprD [d] = some (.str s) := by
  obtain ⟨p, h1, h2, h3, h4⟩ := h
  have := shown_sz h2
  refine ⟨p.shown, ?_⟩
  show d.pyd.bind _ = _
  rw [h1]
  show (if p.showable = true ∧ p.depth ≤ 40 ∧ p.shown.length ≤ 16777216 then some (D.str p.shown) else none) = _
  rw [if_pos ⟨h2, by omega, by omega⟩]
theorem rp_P2 {p : Int × Int} (h1 : p.1.natAbs < 2 ^ 1000) (h2 : p.2.natAbs < 2 ^ 1000) : Rp (P2 p) 2 3850 := by
  refine rp_mono (rp_tup (k := 1) (n := 1921) fun d hd => ?_) (Nat.le_refl _) (Nat.le_refl _)
  simp only [List.mem_cons, List.not_mem_nil, or_false] at hd
  rcases hd with rfl | rfl
  · exact rp_int h1
  · exact rp_int h2
theorem rp_two {a b : D} {k n : Nat} (ha : Rp a k n) (hb : Rp b k n) : Rp (.lst [a, b]) (k + 1) (2 * (n + 2) + 4) := rp_lst fun d hd => by
  simp only [List.mem_cons, List.not_mem_nil, or_false] at hd
  rcases hd with rfl | rfl
  · exact ha
  · exact hb
theorem rp_odd : ∀ d ∈ oddD, Rp d 4 6000 := fun d hd => by
  simp only [oddD, List.mem_cons, List.not_mem_nil, or_false] at hd
  rcases hd with h | h | h | h | h | h | h | h | h | h | h | h | h | h | h | h | h | h | h | h | h <;> subst h <;> exact ⟨_, rfl, by decide +kernel, by decide +kernel, by decide +kernel⟩
theorem rp_odds {v w : Int} (hv : 0 ≤ v) (hw : 0 ≤ w) (hv1 : v < 99) (hw1 : w < 99) : ∀ d ∈ odds v w, Rp d 4 6000 := fun d hd => by
  have k1 : (99 : Nat) < 2 ^ 1000 := by decide +kernel
  have k2 : (1000000000000000000000000000000000000000000000000000000000000 : Nat) < 2 ^ 1000 := by decide +kernel
  rcases List.mem_append.mp hd with h | h
  · exact rp_odd d h
  · simp only [List.mem_cons, List.not_mem_nil, or_false] at h
    rcases h with h | h | h <;> rw [h]
    · exact rp_mono (rp_P2 (p := (1000000000000000000000000000000000000000000000000000000000000, 1000000000000000000000000000000000000000000000000000000000000)) (by decide +kernel) (by decide +kernel)) (by decide) (by decide)
    · exact rp_mono (rp_P2 (p := (0, -1000000000000000000000000000000000000000000000000000000000000)) (by decide +kernel) (by decide +kernel)) (by decide) (by decide)
    · exact rp_mono (rp_P2 (p := (v, -1 - w)) (by dsimp only; omega) (by dsimp only; omega)) (by decide) (by decide)
theorem psok_small {ps : List (Int × Int)} (h : PsOk ps) : ∀ p ∈ ps, p.1.natAbs < 2 ^ 1000 ∧ p.2.natAbs < 2 ^ 1000 := fun p hp => by
  obtain ⟨h1, h2⟩ := h.big p hp
  have e : BB * 1000 = 2 * 1000000000000000000000000000000000000000000000000000000000000000000000000000000000000000000000000000000 := by decide
  have k : (2 * 1000000000000000000000000000000000000000000000000000000000000000000000000000000000000000000000000000000 : Nat) < 2 ^ 360 := by decide +kernel
  have k3 : (2 : Nat) ^ 360 ≤ 2 ^ 1000 := Nat.pow_le_pow_right (by decide) (by decide)
  omega
theorem rp_W {ps : List (Int × Int)} (h : PsOk ps) : Rp (WD ps) 3 1600000 := by
  have hl := h.len
  refine rp_mono (rp_lst (k := 2) (n := 3850) fun d hd => ?_) (Nat.le_refl _) ?_
  · obtain ⟨p, hp, rfl⟩ := List.mem_map.mp hd
    exact rp_P2 (psok_small h p hp).1 (psok_small h p hp).2
  · rw [List.length_map]; omega
theorem rp_in {ps a b : List (Int × Int)} {x : D} (h : PsOk ps) (ha : ∀ p ∈ a, p ∈ ps) (hb : ∀ p ∈ b, p ∈ ps) (hla : a.length ≤ 400) (hlb : b.length ≤ 400) (hx : Rp x 4 6000) : Rp (.lst (a.map P2 ++ x :: b.map P2)) 5 4810000 := by
  refine rp_mono (rp_lst (k := 4) (n := 6000) fun d hd => ?_) (Nat.le_refl _) ?_
  · rcases List.mem_append.mp hd with q | q
    · obtain ⟨p, hp, rfl⟩ := List.mem_map.mp q
      exact rp_mono (rp_P2 (psok_small h p (ha p hp)).1 (psok_small h p (ha p hp)).2) (by decide) (by decide)
    · rcases List.mem_cons.mp q with q | q
      · rw [q]; exact hx
      · obtain ⟨p, hp, rfl⟩ := List.mem_map.mp q
        exact rp_mono (rp_P2 (psok_small h p (hb p hp)).1 (psok_small h p (hb p hp)).2) (by decide) (by decide)
  · rw [List.length_append, List.length_cons, List.length_map, List.length_map]; omega
variable (cs : Nat → Addr)
/-! ### the class of an exception -/
theorem rel_cs (hc : CsOk cs) {i j : Nat} (hi : ([21, 22] : List Nat).contains i = true) (hj : ([10, 28, 29, 24, 17, 18, 8, 9, 26, 15, 2, 1, 16, 5, 6, 7, 25, 20, 27, 3, 11, 12, 13, 14, 21, 19, 22, 23, 4] : List Nat).contains j = true) : relC cs (cs i) (.ref (cs j)) = some (i == j || j == 0) := by
  have h1 : i < 30 := (show ∀ i ∈ ([21, 22] : List Nat), i < 30 by decide) i (List.contains_iff_mem.mp hi)
  have h2 : j < 30 := (show ∀ j ∈ ([10, 28, 29, 24, 17, 18, 8, 9, 26, 15, 2, 1, 16, 5, 6, 7, 25, 20, 27, 3, 11, 12, 13, 14, 21, 19, 22, 23, 4] : List Nat), j < 30 by decide) j (List.contains_iff_mem.mp hj)
  show (ixOf cs 30 (cs i)).bind (fun i => relT cs 30 0 _ _ i (.ref (cs j))) = _
  rw [ixOf_cs hc h1]
  show (ixOf cs 30 (cs j)).bind (fun j => if (([21, 22] : List Nat).contains i && ([10, 28, 29, 24, 17, 18, 8, 9, 26, 15, 2, 1, 16, 5, 6, 7, 25, 20, 27, 3, 11, 12, 13, 14, 21, 19, 22, 23, 4] : List Nat).contains j) = true then some (i == j || j == 0) else none) = _
  rw [ixOf_cs hc h2]
  show (if (([21, 22] : List Nat).contains i && ([10, 28, 29, 24, 17, 18, 8, 9, 26, 15, 2, 1, 16, 5, 6, 7, 25, 20, 27, 3, 11, 12, 13, 14, 21, 19, 22, 23, 4] : List Nat).contains j) = true then some (i == j || j == 0) else none) = _
  rw [hi, hj]
  rfl
theorem isE_cls (hc : CsOk cs) {i j : Nat} (hi : ([21, 22] : List Nat).contains i = true) (hj : ([10, 28, 29, 24, 17, 18, 8, 9, 26, 15, 2, 1, 16, 5, 6, 7, 25, 20, 27, 3, 11, 12, 13, 14, 21, 19, 22, 23, 4] : List Nat).contains j = true) : dIsE (relC cs) [.exc (cs i) [] [], .cls (cs j)] = some (.bl (i == j || j == 0)) := by
  show (relC cs (cs i) (.ref (cs j))).map D.bl = _
  rw [rel_cs cs hc hi hj]
  rfl
theorem relAny_cs (hc : CsOk cs) {i : Nat} (hi : ([21, 22] : List Nat).contains i = true) : ∀ js : List Nat, (∀ j ∈ js, ([10, 28, 29, 24, 17, 18, 8, 9, 26, 15, 2, 1, 16, 5, 6, 7, 25, 20, 27, 3, 11, 12, 13, 14, 21, 19, 22, 23, 4] : List Nat).contains j = true ∧ (i == j || j == 0) = false) → relAny (relC cs) (cs i) (js.map fun j => D.cls (cs j)) = some false
  | [], _ => rfl
  | j :: r, h => by
    obtain ⟨h1, h2⟩ := h j List.mem_cons_self
    rw [List.map_cons]
    show (match relC cs (cs i) (.ref (cs j)) with
      | some true => (relAny (relC cs) (cs i) (r.map fun j => D.cls (cs j))).map fun _ => true
      | some false => relAny (relC cs) (cs i) (r.map fun j => D.cls (cs j))
      | none => none) = _
    rw [rel_cs cs hc hi h1, h2]
    exact relAny_cs hc hi r fun k hk => h k (List.mem_cons_of_mem _ hk)
theorem isE_tup (hc : CsOk cs) {i : Nat} (hi : ([21, 22] : List Nat).contains i = true) (j : Nat) (js : List Nat) (h : ∀ k ∈ j :: js, ([10, 28, 29, 24, 17, 18, 8, 9, 26, 15, 2, 1, 16, 5, 6, 7, 25, 20, 27, 3, 11, 12, 13, 14, 21, 19, 22, 23, 4] : List Nat).contains k = true ∧ (i == k || k == 0) = false) :
    dIsE (relC cs) [.exc (cs i) [] [], .tup (D.cls (cs j) :: js.map fun j => D.cls (cs j))] = some (.bl false) := by
  have e := relAny_cs cs hc hi (j :: js) h
  rw [List.map_cons] at e
  show (if D.cls (cs j) :: js.map (fun j => D.cls (cs j)) = [] then none else (relAny (relC cs) (cs i) (D.cls (cs j) :: js.map fun j => D.cls (cs j))).map D.bl) = _
  rw [if_neg (by simp), e]
  rfl
theorem isE_ve (hc : CsOk cs) {i : Nat} (hi : ([21, 22] : List Nat).contains i = true) : dIsE (relC cs) [.exc (cs i) [] [], .ty "ValueError"] = some (.bl true) := by
  have h1 : i < 30 := (show ∀ i ∈ ([21, 22] : List Nat), i < 30 by decide) i (List.contains_iff_mem.mp hi)
  show (relC cs (cs i) (.type "ValueError")).map D.bl = _
  have e : relC cs (cs i) (.type "ValueError") = some true := by
    show (ixOf cs 30 (cs i)).bind (fun i => relT cs 30 0 _ _ i (.type "ValueError")) = _
    rw [ixOf_cs hc h1]
    show (if (([21, 22] : List Nat).contains i && ("ValueError" : String) == "ValueError") = true then some true else none) = _
    rw [hi]
    rfl
  rw [e]
  rfl
def bls (i : Nat) : List D := [5, 6, 7, 11, 12, 13, 14, 21, 19, 22, 23, 4].map fun j => D.bl (i == j || j == 0)
def names12 : List D := [.str "program", .str "times", .str "index", .str "motion", .str "pose", .str "point", .str "edge", .str "intervals", .str "even", .str "place", .str "drift"]
def names13 : List D := names12 ++ [D.str "large"]
theorem class_ok (hc : CsOk cs) (i : Nat) (hi : ([21, 22] : List Nat).contains i = true) : m__law_class cs [.fz (.exc (cs i) [] [])] = .ok (.fz (.str (if i = 21 then "intervals" else "place"))) ⟨[], [.fz (.exc (cs i) [] [])]⟩ := by
  have hi2 : i = 21 ∨ i = 22 := by
    have := List.contains_iff_mem.mp hi
    simpa using this
  have e := fun j hj => isE_cls cs hc (i := i) (j := j) hi hj
  have t1 : dIsE (relC cs) [.exc (cs i) [] [], .tup [.cls (cs 10), .cls (cs 28), .cls (cs 29), .cls (cs 24), .cls (cs 17), .cls (cs 18), .cls (cs 8)]] = some (.bl false) := isE_tup cs hc hi 10 [28, 29, 24, 17, 18, 8] (by rcases hi2 with rfl | rfl <;> decide)
  have t2 : dIsE (relC cs) [.exc (cs i) [] [], .tup [.cls (cs 9), .cls (cs 26), .cls (cs 15), .cls (cs 2), .cls (cs 1), .cls (cs 16)]] = some (.bl false) := isE_tup cs hc hi 9 [26, 15, 2, 1, 16] (by rcases hi2 with rfl | rfl <;> decide)
  have t3 : dIsE (relC cs) [.exc (cs i) [] [], .tup [.cls (cs 25), .cls (cs 20), .cls (cs 27), .cls (cs 3)]] = some (.bl false) := isE_tup cs hc hi 25 [20, 27, 3] (by rcases hi2 with rfl | rfl <;> decide)
  have tv := isE_ve cs hc hi
  have e5 := e 5 rfl
  have e6 := e 6 rfl
  have e7 := e 7 rfl
  have e11 := e 11 rfl
  have e12 := e 12 rfl
  have e13 := e 13 rfl
  have e14 := e 14 rfl
  have e21 := e 21 rfl
  have e19 := e 19 rfl
  have e22 := e 22 rfl
  have e23 := e 23 rfl
  have e4 := e 4 rfl
  have x := D.exc (cs i) [] []
  have s1 : m__law_class_1 cs ⟨[.ow (.fz (.exc (cs i) [] [])), .un, .un], [.fz (.exc (cs i) [] [])]⟩ = .nx ⟨[.ow (.fz (.exc (cs i) [] [])), .ow (.fz (.lst ((bls i).take 3))), .un], [.fz (.exc (cs i) [] [])]⟩ := by
    simp [m__law_class_1, -List.map_map, -List.map_take, -List.map_drop, -List.map_append, -List.map_reverse, asDef, entry, slotsOf, sSeq, sSet, sRet, sIf, sDrop, sNil, sBreak, sCont, sApp, sSetAt, setEnd, sAug, sAsg, sPar, mVar, mSee, mFrz, mTake, mC, mUn, mOp, mNil, mCons, mCall, mCallL, mTup, mLst, mView, mOwn, mFz, mTest, mAnd, mOr, mNot, mIf, mAndV, mOrV, mNotV, mChain, mAt, qSee, qFz, qNew, oNone, oSome, rNil, rSlot, rFz, mCall0, mCall1, oneSlot, noSlot, treesOf, SD.tree, SD.put, SD.putFz, tgN, tgNil, tgCons, tgT, ER.bind, ER.opt, ER.stm, Fl.seq, OT.view, OT.views, OT.items, fzOf, iLst, iTuP, iRange1, iRange2, iZip2, iEnumL, dIx, atI, ixN, dAdd, dSub, dNeg, dLt, dLe, dGt, dGe, dIsN, dNotN, isNonD, dEq, dNe, eqB_int, eqB_str, eqB_bl, eq_2, eq_3, dLen, dIsi, D.isA, tyName, dMod, dMax, dMin, mAtS, mBm, D.isL, D.isS, -dIsE, e5, e6, e7, bls]
  have s2 : m__law_class_2 cs ⟨[.ow (.fz (.exc (cs i) [] [])), .ow (.fz (.lst ((bls i).take 3))), .un], [.fz (.exc (cs i) [] [])]⟩ = .nx ⟨[.ow (.fz (.exc (cs i) [] [])), .ow (.fz (.lst ((bls i).take 6))), .un], [.fz (.exc (cs i) [] [])]⟩ := by
    simp [m__law_class_2, -List.map_map, -List.map_take, -List.map_drop, -List.map_append, -List.map_reverse, asDef, entry, slotsOf, sSeq, sSet, sRet, sIf, sDrop, sNil, sBreak, sCont, sApp, sSetAt, setEnd, sAug, sAsg, sPar, mVar, mSee, mFrz, mTake, mC, mUn, mOp, mNil, mCons, mCall, mCallL, mTup, mLst, mView, mOwn, mFz, mTest, mAnd, mOr, mNot, mIf, mAndV, mOrV, mNotV, mChain, mAt, qSee, qFz, qNew, oNone, oSome, rNil, rSlot, rFz, mCall0, mCall1, oneSlot, noSlot, treesOf, SD.tree, SD.put, SD.putFz, tgN, tgNil, tgCons, tgT, ER.bind, ER.opt, ER.stm, Fl.seq, OT.view, OT.views, OT.items, fzOf, iLst, iTuP, iRange1, iRange2, iZip2, iEnumL, dIx, atI, ixN, dAdd, dSub, dNeg, dLt, dLe, dGt, dGe, dIsN, dNotN, isNonD, dEq, dNe, eqB_int, eqB_str, eqB_bl, eq_2, eq_3, dLen, dIsi, D.isA, tyName, dMod, dMax, dMin, mAtS, mBm, D.isL, D.isS, mCat, -dIsE, e11, e12, e13, bls]
  have s3 : m__law_class_3 cs ⟨[.ow (.fz (.exc (cs i) [] [])), .ow (.fz (.lst ((bls i).take 6))), .un], [.fz (.exc (cs i) [] [])]⟩ = .nx ⟨[.ow (.fz (.exc (cs i) [] [])), .ow (.fz (.lst ((bls i).take 9))), .un], [.fz (.exc (cs i) [] [])]⟩ := by
    simp [m__law_class_3, -List.map_map, -List.map_take, -List.map_drop, -List.map_append, -List.map_reverse, asDef, entry, slotsOf, sSeq, sSet, sRet, sIf, sDrop, sNil, sBreak, sCont, sApp, sSetAt, setEnd, sAug, sAsg, sPar, mVar, mSee, mFrz, mTake, mC, mUn, mOp, mNil, mCons, mCall, mCallL, mTup, mLst, mView, mOwn, mFz, mTest, mAnd, mOr, mNot, mIf, mAndV, mOrV, mNotV, mChain, mAt, qSee, qFz, qNew, oNone, oSome, rNil, rSlot, rFz, mCall0, mCall1, oneSlot, noSlot, treesOf, SD.tree, SD.put, SD.putFz, tgN, tgNil, tgCons, tgT, ER.bind, ER.opt, ER.stm, Fl.seq, OT.view, OT.views, OT.items, fzOf, iLst, iTuP, iRange1, iRange2, iZip2, iEnumL, dIx, atI, ixN, dAdd, dSub, dNeg, dLt, dLe, dGt, dGe, dIsN, dNotN, isNonD, dEq, dNe, eqB_int, eqB_str, eqB_bl, eq_2, eq_3, dLen, dIsi, D.isA, tyName, dMod, dMax, dMin, mAtS, mBm, D.isL, D.isS, mCat, -dIsE, e14, e21, e19, bls]
  have s4 : m__law_class_4 cs ⟨[.ow (.fz (.exc (cs i) [] [])), .ow (.fz (.lst ((bls i).take 9))), .un], [.fz (.exc (cs i) [] [])]⟩ = .nx ⟨[.ow (.fz (.exc (cs i) [] [])), .ow (.fz (.lst (bls i))), .un], [.fz (.exc (cs i) [] [])]⟩ := by
    simp [m__law_class_4, -List.map_map, -List.map_take, -List.map_drop, -List.map_append, -List.map_reverse, asDef, entry, slotsOf, sSeq, sSet, sRet, sIf, sDrop, sNil, sBreak, sCont, sApp, sSetAt, setEnd, sAug, sAsg, sPar, mVar, mSee, mFrz, mTake, mC, mUn, mOp, mNil, mCons, mCall, mCallL, mTup, mLst, mView, mOwn, mFz, mTest, mAnd, mOr, mNot, mIf, mAndV, mOrV, mNotV, mChain, mAt, qSee, qFz, qNew, oNone, oSome, rNil, rSlot, rFz, mCall0, mCall1, oneSlot, noSlot, treesOf, SD.tree, SD.put, SD.putFz, tgN, tgNil, tgCons, tgT, ER.bind, ER.opt, ER.stm, Fl.seq, OT.view, OT.views, OT.items, fzOf, iLst, iTuP, iRange1, iRange2, iZip2, iEnumL, dIx, atI, ixN, dAdd, dSub, dNeg, dLt, dLe, dGt, dGe, dIsN, dNotN, isNonD, dEq, dNe, eqB_int, eqB_str, eqB_bl, eq_2, eq_3, dLen, dIsi, D.isA, tyName, dMod, dMax, dMin, mAtS, mBm, D.isL, D.isS, mCat, -dIsE, e22, e23, e4, bls]
  have s6 : m__law_class_6 cs ⟨[.ow (.fz (.exc (cs i) [] [])), .ow (.fz (.lst (bls i))), .un], [.fz (.exc (cs i) [] [])]⟩ = .nx ⟨[.ow (.fz (.exc (cs i) [] [])), .ow (.fz (.lst (bls i))), .un], [.fz (.exc (cs i) [] [])]⟩ := by
    simp [m__law_class_6, -List.map_map, -List.map_take, -List.map_drop, -List.map_append, -List.map_reverse, asDef, entry, slotsOf, sSeq, sSet, sRet, sIf, sDrop, sNil, sBreak, sCont, sApp, sSetAt, setEnd, sAug, sAsg, sPar, mVar, mSee, mFrz, mTake, mC, mUn, mOp, mNil, mCons, mCall, mCallL, mTup, mLst, mView, mOwn, mFz, mTest, mAnd, mOr, mNot, mIf, mAndV, mOrV, mNotV, mChain, mAt, qSee, qFz, qNew, oNone, oSome, rNil, rSlot, rFz, mCall0, mCall1, oneSlot, noSlot, treesOf, SD.tree, SD.put, SD.putFz, tgN, tgNil, tgCons, tgT, ER.bind, ER.opt, ER.stm, Fl.seq, OT.view, OT.views, OT.items, fzOf, iLst, iTuP, iRange1, iRange2, iZip2, iEnumL, dIx, atI, ixN, dAdd, dSub, dNeg, dLt, dLe, dGt, dGe, dIsN, dNotN, isNonD, dEq, dNe, eqB_int, eqB_str, eqB_bl, eq_2, eq_3, dLen, dIsi, D.isA, tyName, dMod, dMax, dMin, mAtS, mBm, D.isL, D.isS, -dIsE, t1]
  have s8 : m__law_class_8 cs ⟨[.ow (.fz (.exc (cs i) [] [])), .ow (.fz (.lst (bls i))), .un], [.fz (.exc (cs i) [] [])]⟩ = .nx ⟨[.ow (.fz (.exc (cs i) [] [])), .ow (.fz (.lst (bls i))), .un], [.fz (.exc (cs i) [] [])]⟩ := by
    simp [m__law_class_8, -List.map_map, -List.map_take, -List.map_drop, -List.map_append, -List.map_reverse, asDef, entry, slotsOf, sSeq, sSet, sRet, sIf, sDrop, sNil, sBreak, sCont, sApp, sSetAt, setEnd, sAug, sAsg, sPar, mVar, mSee, mFrz, mTake, mC, mUn, mOp, mNil, mCons, mCall, mCallL, mTup, mLst, mView, mOwn, mFz, mTest, mAnd, mOr, mNot, mIf, mAndV, mOrV, mNotV, mChain, mAt, qSee, qFz, qNew, oNone, oSome, rNil, rSlot, rFz, mCall0, mCall1, oneSlot, noSlot, treesOf, SD.tree, SD.put, SD.putFz, tgN, tgNil, tgCons, tgT, ER.bind, ER.opt, ER.stm, Fl.seq, OT.view, OT.views, OT.items, fzOf, iLst, iTuP, iRange1, iRange2, iZip2, iEnumL, dIx, atI, ixN, dAdd, dSub, dNeg, dLt, dLe, dGt, dGe, dIsN, dNotN, isNonD, dEq, dNe, eqB_int, eqB_str, eqB_bl, eq_2, eq_3, dLen, dIsi, D.isA, tyName, dMod, dMax, dMin, mAtS, mBm, D.isL, D.isS, -dIsE, t2]
  have s10 : m__law_class_10 cs ⟨[.ow (.fz (.exc (cs i) [] [])), .ow (.fz (.lst (bls i))), .un], [.fz (.exc (cs i) [] [])]⟩ = .nx ⟨[.ow (.fz (.exc (cs i) [] [])), .ow (.fz (.lst (bls i))), .un], [.fz (.exc (cs i) [] [])]⟩ := by
    simp [m__law_class_10, -List.map_map, -List.map_take, -List.map_drop, -List.map_append, -List.map_reverse, asDef, entry, slotsOf, sSeq, sSet, sRet, sIf, sDrop, sNil, sBreak, sCont, sApp, sSetAt, setEnd, sAug, sAsg, sPar, mVar, mSee, mFrz, mTake, mC, mUn, mOp, mNil, mCons, mCall, mCallL, mTup, mLst, mView, mOwn, mFz, mTest, mAnd, mOr, mNot, mIf, mAndV, mOrV, mNotV, mChain, mAt, qSee, qFz, qNew, oNone, oSome, rNil, rSlot, rFz, mCall0, mCall1, oneSlot, noSlot, treesOf, SD.tree, SD.put, SD.putFz, tgN, tgNil, tgCons, tgT, ER.bind, ER.opt, ER.stm, Fl.seq, OT.view, OT.views, OT.items, fzOf, iLst, iTuP, iRange1, iRange2, iZip2, iEnumL, dIx, atI, ixN, dAdd, dSub, dNeg, dLt, dLe, dGt, dGe, dIsN, dNotN, isNonD, dEq, dNe, eqB_int, eqB_str, eqB_bl, eq_2, eq_3, dLen, dIsi, D.isA, tyName, dMod, dMax, dMin, mAtS, mBm, D.isL, D.isS, -dIsE, t3, tv]
  have s11 : m__law_class_11 cs ⟨[.ow (.fz (.exc (cs i) [] [])), .ow (.fz (.lst (bls i))), .un], [.fz (.exc (cs i) [] [])]⟩ = .nx ⟨[.ow (.fz (.exc (cs i) [] [])), .ow (.fz (.lst (bls i))), .ow (.ol (names12.map .fz))], [.fz (.exc (cs i) [] [])]⟩ := rfl
  have i11 : dIx (.lst (bls i)) (.int 11) = some (.bl false) := by rcases hi2 with rfl | rfl <;> rfl
  have s12 : m__law_class_12 cs ⟨[.ow (.fz (.exc (cs i) [] [])), .ow (.fz (.lst (bls i))), .ow (.ol (names12.map .fz))], [.fz (.exc (cs i) [] [])]⟩ = .nx ⟨[.ow (.fz (.exc (cs i) [] [])), .ow (.fz (.lst (bls i))), .ow (.ol (names13.map .fz))], [.fz (.exc (cs i) [] [])]⟩ := by
    simp [m__law_class_12, -List.map_map, -List.map_take, -List.map_drop, -List.map_append, -List.map_reverse, asDef, entry, slotsOf, sSeq, sSet, sRet, sIf, sDrop, sNil, sBreak, sCont, sApp, sSetAt, setEnd, sAug, sAsg, sPar, mVar, mSee, mFrz, mTake, mC, mUn, mOp, mNil, mCons, mCall, mCallL, mTup, mLst, mView, mOwn, mFz, mTest, mAnd, mOr, mNot, mIf, mAndV, mOrV, mNotV, mChain, mAt, qSee, qFz, qNew, oNone, oSome, rNil, rSlot, rFz, mCall0, mCall1, oneSlot, noSlot, treesOf, SD.tree, SD.put, SD.putFz, tgN, tgNil, tgCons, tgT, ER.bind, ER.opt, ER.stm, Fl.seq, OT.view, OT.views, OT.items, fzOf, iLst, iTuP, iRange1, iRange2, iZip2, iEnumL, dAdd, dSub, dNeg, dLt, dLe, dGt, dGe, dIsN, dNotN, isNonD, dEq, dNe, eqB_int, eqB_str, eqB_bl, eq_2, eq_3, dLen, dIsi, D.isA, tyName, dMod, dMax, dMin, mAtS, mBm, D.isL, D.isS, i11, names12, names13]
  have c1 : dCountD (.lst (bls i)) [.bl true] = some (.int 1) := by rcases hi2 with rfl | rfl <;> rfl
  have c2 : ∃ n : Nat, dIndexD (.lst (bls i)) [.bl true] = some (.int n) ∧ atI names13 n = some (.str (if i = 21 then "intervals" else "place")) := by
    rcases hi2 with rfl | rfl
    · exact ⟨7, rfl, rfl⟩
    · exact ⟨9, rfl, rfl⟩
  obtain ⟨n, c2, c3⟩ := c2
  have s13 : m__law_class_13 cs ⟨[.ow (.fz (.exc (cs i) [] [])), .ow (.fz (.lst (bls i))), .ow (.ol (names13.map .fz))], [.fz (.exc (cs i) [] [])]⟩ = .rt (.fz (.str (if i = 21 then "intervals" else "place"))) ⟨[.ow (.fz (.exc (cs i) [] [])), .ow (.fz (.lst (bls i))), .ow (.ol (names13.map .fz))], [.fz (.exc (cs i) [] [])]⟩ := by
    simp [m__law_class_13, -List.map_map, -List.map_take, -List.map_drop, -List.map_append, -List.map_reverse, asDef, entry, slotsOf, sSeq, sSet, sRet, sIf, sDrop, sNil, sBreak, sCont, sApp, sSetAt, setEnd, sAug, sAsg, sPar, mVar, mSee, mFrz, mTake, mC, mUn, mOp, mNil, mCons, mCall, mCallL, mTup, mLst, mView, mOwn, mFz, mTest, mAnd, mOr, mNot, mIf, mAndV, mOrV, mNotV, mChain, mAt, qSee, qFz, qNew, oNone, oSome, rNil, rSlot, rFz, mCall0, mCall1, oneSlot, noSlot, treesOf, SD.tree, SD.put, SD.putFz, tgN, tgNil, tgCons, tgT, ER.bind, ER.opt, ER.stm, Fl.seq, OT.view, OT.views, OT.items, fzOf, iLst, iTuP, iRange1, iRange2, iZip2, iEnumL, dAdd, dSub, dNeg, dLt, dLe, dGt, dGe, dIsN, dNotN, isNonD, dEq, dNe, eqB_int, eqB_str, eqB_bl, eq_2, eq_3, dLen, dIsi, D.isA, tyName, dMod, dMax, dMin, mAtS, mBm, D.isL, D.isS, c1, c2, c3, fzOf_map, -List.map_append]
  have ent : entry 3 [.fz (.exc (cs i) [] [])] = ⟨[.ow (.fz (.exc (cs i) [] [])), .un, .un], [.fz (.exc (cs i) [] [])]⟩ := rfl
  simp only [m__law_class, asDef, ent, sSeq, s1, s2, s3, s4, s6, s8, s10, s11, s12, s13, Fl.seq]
variable (cs : Nat → Addr)
/-! ### what a door tells -/
def tS (door : Int) (value place : D) (s : Str) (x y : S) : SD := ⟨[.ow (.fz (.int door)), .ow (.fz value), .ow (.fz place), .ow (.fz (.str s)), x, y], [.fz (.int door), .fz value, .fz place]⟩
theorem told_1 {door : Int} {value place : D} {s : Str} (hr : dReprD [.lst [value, place]] = some (.str s)) : m__law_told_1 cs ⟨[.ow (.fz (.int door)), .ow (.fz value), .ow (.fz place), .un, .un, .un], [.fz (.int door), .fz value, .fz place]⟩ = .nx (tS door value place s (.ow (.fz .non)) .un) := by
  simp [m__law_told_1, -List.map_map, -List.map_take, -List.map_drop, -List.map_append, -List.map_reverse, asDef, entry, slotsOf, sSeq, sSet, sRet, sIf, sDrop, sNil, sBreak, sCont, sApp, sSetAt, setEnd, sAug, sAsg, sPar, mVar, mSee, mFrz, mTake, mC, mUn, mOp, mNil, mCons, mCall, mCallL, mTup, mLst, mView, mOwn, mFz, mTest, mAnd, mOr, mNot, mIf, mAndV, mOrV, mNotV, mChain, mAt, qSee, qFz, qNew, oNone, oSome, rNil, rSlot, rFz, mCall0, mCall1, oneSlot, noSlot, treesOf, SD.tree, SD.put, SD.putFz, tgN, tgNil, tgCons, tgT, ER.bind, ER.opt, ER.stm, Fl.seq, OT.view, OT.views, OT.items, fzOf, iLst, iTuP, iRange1, iRange2, iZip2, iEnumL, dIx, atI, ixN, dAdd, dSub, dNeg, dLt, dLe, dGt, dGe, dIsN, dNotN, isNonD, dEq, dNe, eqB_int, eqB_str, eqB_bl, eq_2, eq_3, dLen, dIsi, D.isA, tyName, dMod, dMax, dMin, mAtS, mBm, D.isL, D.isS, hr, tS]
theorem told_10 {door : Int} {value place : D} {s : Str} {x y : S} (hr : dReprD [.lst [value, place]] = some (.str s)) : m__law_told_10 cs (tS door value place s x y) = .nx (tS door value place s x y) := by
  simp [m__law_told_10, -List.map_map, -List.map_take, -List.map_drop, -List.map_append, -List.map_reverse, asDef, entry, slotsOf, sSeq, sSet, sRet, sIf, sDrop, sNil, sBreak, sCont, sApp, sSetAt, setEnd, sAug, sAsg, sPar, mVar, mSee, mFrz, mTake, mC, mUn, mOp, mNil, mCons, mCall, mCallL, mTup, mLst, mView, mOwn, mFz, mTest, mAnd, mOr, mNot, mIf, mAndV, mOrV, mNotV, mChain, mAt, qSee, qFz, qNew, oNone, oSome, rNil, rSlot, rFz, mCall0, mCall1, oneSlot, noSlot, treesOf, SD.tree, SD.put, SD.putFz, tgN, tgNil, tgCons, tgT, ER.bind, ER.opt, ER.stm, Fl.seq, OT.view, OT.views, OT.items, fzOf, iLst, iTuP, iRange1, iRange2, iZip2, iEnumL, dIx, atI, ixN, dAdd, dSub, dNeg, dLt, dLe, dGt, dGe, dIsN, dNotN, isNonD, dEq, dNe, eqB_int, eqB_str, eqB_bl, eq_2, eq_3, dLen, dIsi, D.isA, tyName, dMod, dMax, dMin, mAtS, mBm, D.isL, D.isS, hr, tS]
theorem xT_cs (hc : CsOk cs) {i : Nat} (hi : ([21, 22] : List Nat).contains i = true) : xT cs (cs i) = true := by
  have h1 : i < 30 := (show ∀ i ∈ ([21, 22] : List Nat), i < 30 by decide) i (List.contains_iff_mem.mp hi)
  show (match ixOf cs 30 (cs i) with
    | some i => ([21, 22] : List Nat).contains i
    | none => false) = true
  rw [ixOf_cs hc h1]
  exact hi
theorem told_rz (hc : CsOk cs) {door : Int} {value place : D} {s : Str} {i : Nat} (hi : ([21, 22] : List Nat).contains i = true) (hr : dReprD [.lst [value, place]] = some (.str s))
    (hb : m__law_told_t1 cs (tS door value place s (.ow (.fz .non)) .un) = .rz ⟨cs i, none⟩ (tS door value place s (.ow (.fz .non)) .un)) :
    m__law_told cs [.fz (.int door), .fz value, .fz place] = .ok (.fz (.str (if i = 21 then "intervals" else "place"))) ⟨[], [.fz (.int door), .fz value, .fz place]⟩ := by
  have s8 : m__law_told_8 cs (tS door value place s (.ow (.fz .non)) .un) = .nx (tS door value place s (.ow (.fz (.exc (cs i) [] []))) .un) := by
    show (match m__law_told_t1 cs (tS door value place s (.ow (.fz .non)) .un) with
      | .rz x sd1 => if xT cs x.C = true ∧ 5 < sd1.sl.length ∧ x.okB = true then (m__law_told_x1 cs { sd1 with sl := sd1.sl.set 5 (.ow (.fz x.toD)) }).unset 5 else .bad
      | r => r) = _
    rw [hb]
    show (if xT cs (cs i) = true ∧ _ then _ else _) = _
    rw [if_pos ⟨xT_cs cs hc hi, (show 5 < 6 from by decide), rfl⟩]
    rfl
  have hk := class_ok cs hc i hi
  have s11 : m__law_told_11 cs (tS door value place s (.ow (.fz (.exc (cs i) [] []))) .un) = .rt (.fz (.str (if i = 21 then "intervals" else "place"))) (tS door value place s (.ow (.fz (.exc (cs i) [] []))) .un) := by
    simp [m__law_told_11, -List.map_map, -List.map_take, -List.map_drop, -List.map_append, -List.map_reverse, asDef, entry, slotsOf, sSeq, sSet, sRet, sIf, sDrop, sNil, sBreak, sCont, sApp, sSetAt, setEnd, sAug, sAsg, sPar, mVar, mSee, mFrz, mTake, mC, mUn, mOp, mNil, mCons, mCall, mCallL, mTup, mLst, mView, mOwn, mFz, mTest, mAnd, mOr, mNot, mIf, mAndV, mOrV, mNotV, mChain, mAt, qSee, qFz, qNew, oNone, oSome, rNil, rSlot, rFz, mCall0, mCall1, oneSlot, noSlot, treesOf, SD.tree, SD.put, SD.putFz, tgN, tgNil, tgCons, tgT, ER.bind, ER.opt, ER.stm, Fl.seq, OT.view, OT.views, OT.items, fzOf, iLst, iTuP, iRange1, iRange2, iZip2, iEnumL, dIx, atI, ixN, dAdd, dSub, dNeg, dLt, dLe, dGt, dGe, dIsN, dNotN, isNonD, dEq, dNe, eqB_int, eqB_str, eqB_bl, eq_2, eq_3, dLen, dIsi, D.isA, tyName, dMod, dMax, dMin, mAtS, mBm, D.isL, D.isS, tS, hk]
  have ent : entry 6 [.fz (.int door), .fz value, .fz place] = ⟨[.ow (.fz (.int door)), .ow (.fz value), .ow (.fz place), .un, .un, .un], [.fz (.int door), .fz value, .fz place]⟩ := rfl
  simp only [m__law_told, asDef, ent, sSeq, told_1 cs hr, s8, told_10 cs hr, s11, Fl.seq]
  rfl
theorem told_nx {door : Int} {value place : D} {s : Str} (hr : dReprD [.lst [value, place]] = some (.str s))
    (hb : m__law_told_t1 cs (tS door value place s (.ow (.fz .non)) .un) = .nx (tS door value place s (.ow (.fz .non)) .un)) :
    m__law_told cs [.fz (.int door), .fz value, .fz place] = .ok (.fz (.str "fine")) ⟨[], [.fz (.int door), .fz value, .fz place]⟩ := by
  have s8 : m__law_told_8 cs (tS door value place s (.ow (.fz .non)) .un) = .nx (tS door value place s (.ow (.fz .non)) .un) := by
    show (match m__law_told_t1 cs (tS door value place s (.ow (.fz .non)) .un) with
      | .rz x sd1 => if xT cs x.C = true ∧ 5 < sd1.sl.length ∧ x.okB = true then (m__law_told_x1 cs { sd1 with sl := sd1.sl.set 5 (.ow (.fz x.toD)) }).unset 5 else .bad
      | r => r) = _
    rw [hb]
  have s11 : m__law_told_11 cs (tS door value place s (.ow (.fz .non)) .un) = .rt (.fz (.str "fine")) (tS door value place s (.ow (.fz .non)) .un) := by
    simp [m__law_told_11, -List.map_map, -List.map_take, -List.map_drop, -List.map_append, -List.map_reverse, asDef, entry, slotsOf, sSeq, sSet, sRet, sIf, sDrop, sNil, sBreak, sCont, sApp, sSetAt, setEnd, sAug, sAsg, sPar, mVar, mSee, mFrz, mTake, mC, mUn, mOp, mNil, mCons, mCall, mCallL, mTup, mLst, mView, mOwn, mFz, mTest, mAnd, mOr, mNot, mIf, mAndV, mOrV, mNotV, mChain, mAt, qSee, qFz, qNew, oNone, oSome, rNil, rSlot, rFz, mCall0, mCall1, oneSlot, noSlot, treesOf, SD.tree, SD.put, SD.putFz, tgN, tgNil, tgCons, tgT, ER.bind, ER.opt, ER.stm, Fl.seq, OT.view, OT.views, OT.items, fzOf, iLst, iTuP, iRange1, iRange2, iZip2, iEnumL, dIx, atI, ixN, dAdd, dSub, dNeg, dLt, dLe, dGt, dGe, dIsN, dNotN, isNonD, dEq, dNe, eqB_int, eqB_str, eqB_bl, eq_2, eq_3, dLen, dIsi, D.isA, tyName, dMod, dMax, dMin, mAtS, mBm, D.isL, D.isS, tS]
  have ent : entry 6 [.fz (.int door), .fz value, .fz place] = ⟨[.ow (.fz (.int door)), .ow (.fz value), .ow (.fz place), .un, .un, .un], [.fz (.int door), .fz value, .fz place]⟩ := rfl
  simp only [m__law_told, asDef, ent, sSeq, told_1 cs hr, s8, told_10 cs hr, s11, Fl.seq]
  rfl
/-! ### the doors at bad values -/
theorem cov_bad {d : D} (h : BadV d) : m_covered cs [.fz d] = .rz ⟨cs 21, none⟩ ⟨[], [.fz d]⟩ := by
  simp [m_covered, m_covered_1, m_covered_2, -List.map_map, -List.map_take, -List.map_drop, -List.map_append, -List.map_reverse, asDef, entry, slotsOf, sSeq, sSet, sRet, sIf, sDrop, sNil, sBreak, sCont, sApp, sSetAt, setEnd, sAug, sAsg, sPar, mVar, mSee, mFrz, mTake, mC, mUn, mOp, mNil, mCons, mCall, mCallL, mTup, mLst, mView, mOwn, mFz, mTest, mAnd, mOr, mNot, mIf, mAndV, mOrV, mNotV, mChain, mAt, qSee, qFz, qNew, oNone, oSome, rNil, rSlot, rFz, mCall0, mCall1, oneSlot, noSlot, treesOf, SD.tree, SD.put, SD.putFz, tgN, tgNil, tgCons, tgT, ER.bind, ER.opt, ER.stm, Fl.seq, OT.view, OT.views, OT.items, fzOf, iLst, iTuP, iRange1, iRange2, iZip2, iEnumL, dIx, atI, ixN, dAdd, dSub, dNeg, dLt, dLe, dGt, dGe, dIsN, dNotN, isNonD, dEq, dNe, eqB_int, eqB_str, eqB_bl, eq_2, eq_3, dLen, dIsi, D.isA, tyName, dMod, dMax, dMin, mAtS, mBm, D.isL, D.isS, h cs]
theorem odd_bad {d : D} (h : BadV d) : m_odd_covered cs [.fz d] = .rz ⟨cs 21, none⟩ ⟨[], [.fz d]⟩ := by
  simp [m_odd_covered, m_odd_covered_1, m_odd_covered_2, -List.map_map, -List.map_take, -List.map_drop, -List.map_append, -List.map_reverse, asDef, entry, slotsOf, sSeq, sSet, sRet, sIf, sDrop, sNil, sBreak, sCont, sApp, sSetAt, setEnd, sAug, sAsg, sPar, mVar, mSee, mFrz, mTake, mC, mUn, mOp, mNil, mCons, mCall, mCallL, mTup, mLst, mView, mOwn, mFz, mTest, mAnd, mOr, mNot, mIf, mAndV, mOrV, mNotV, mChain, mAt, qSee, qFz, qNew, oNone, oSome, rNil, rSlot, rFz, mCall0, mCall1, oneSlot, noSlot, treesOf, SD.tree, SD.put, SD.putFz, tgN, tgNil, tgCons, tgT, ER.bind, ER.opt, ER.stm, Fl.seq, OT.view, OT.views, OT.items, fzOf, iLst, iTuP, iRange1, iRange2, iZip2, iEnumL, dIx, atI, ixN, dAdd, dSub, dNeg, dLt, dLe, dGt, dGe, dIsN, dNotN, isNonD, dEq, dNe, eqB_int, eqB_str, eqB_bl, eq_2, eq_3, dLen, dIsi, D.isA, tyName, dMod, dMax, dMin, mAtS, mBm, D.isL, D.isS, h cs]
theorem depth_bad {d : D} (x : D) (h : BadV d) : m_depth_at cs [.fz d, .fz x] = .rz ⟨cs 21, none⟩ ⟨[], [.fz d, .fz x]⟩ := by
  simp [m_depth_at, m_depth_at_1, m_depth_at_3, m_depth_at_4, -List.map_map, -List.map_take, -List.map_drop, -List.map_append, -List.map_reverse, asDef, entry, slotsOf, sSeq, sSet, sRet, sIf, sDrop, sNil, sBreak, sCont, sApp, sSetAt, setEnd, sAug, sAsg, sPar, mVar, mSee, mFrz, mTake, mC, mUn, mOp, mNil, mCons, mCall, mCallL, mTup, mLst, mView, mOwn, mFz, mTest, mAnd, mOr, mNot, mIf, mAndV, mOrV, mNotV, mChain, mAt, qSee, qFz, qNew, oNone, oSome, rNil, rSlot, rFz, mCall0, mCall1, oneSlot, noSlot, treesOf, SD.tree, SD.put, SD.putFz, tgN, tgNil, tgCons, tgT, ER.bind, ER.opt, ER.stm, Fl.seq, OT.view, OT.views, OT.items, fzOf, iLst, iTuP, iRange1, iRange2, iZip2, iEnumL, dIx, atI, ixN, dAdd, dSub, dNeg, dLt, dLe, dGt, dGe, dIsN, dNotN, isNonD, dEq, dNe, eqB_int, eqB_str, eqB_bl, eq_2, eq_3, dLen, dIsi, D.isA, tyName, dMod, dMax, dMin, mAtS, mBm, D.isL, D.isS, h cs]
def NoInt (x : D) : Prop := ∀ cs : Nat → Addr, m_is_int cs [.fz x] = .ok (.fz (.bl false)) ⟨[], [.fz x]⟩
theorem depth_place {ps : List (Int × Int)} {x : D} (h : ∀ p ∈ ps, p.1 < p.2) (hl : ps.length ≤ 8000000) (hx : NoInt x) : m_depth_at cs [.fz (WD ps), .fz x] = .rz ⟨cs 22, none⟩ ⟨[], [.fz (WD ps), .fz x]⟩ := by
  simp [m_depth_at, m_depth_at_1, m_depth_at_2, m_depth_at_3, m_depth_at_4, -List.map_map, -List.map_take, -List.map_drop, -List.map_append, -List.map_reverse, asDef, entry, slotsOf, sSeq, sSet, sRet, sIf, sDrop, sNil, sBreak, sCont, sApp, sSetAt, setEnd, sAug, sAsg, sPar, mVar, mSee, mFrz, mTake, mC, mUn, mOp, mNil, mCons, mCall, mCallL, mTup, mLst, mView, mOwn, mFz, mTest, mAnd, mOr, mNot, mIf, mAndV, mOrV, mNotV, mChain, mAt, qSee, qFz, qNew, oNone, oSome, rNil, rSlot, rFz, mCall0, mCall1, oneSlot, noSlot, treesOf, SD.tree, SD.put, SD.putFz, tgN, tgNil, tgCons, tgT, ER.bind, ER.opt, ER.stm, Fl.seq, OT.view, OT.views, OT.items, fzOf, iLst, iTuP, iRange1, iRange2, iZip2, iEnumL, dIx, atI, ixN, dAdd, dSub, dNeg, dLt, dLe, dGt, dGe, dIsN, dNotN, isNonD, dEq, dNe, eqB_int, eqB_str, eqB_bl, eq_2, eq_3, dLen, dIsi, D.isA, tyName, dMod, dMax, dMin, mAtS, mBm, D.isL, D.isS, require_ok cs _ h (by omega), hx cs, sRaise]
theorem told_bad (hc : CsOk cs) {value place : D} (hv : BadV value) (hr : ∃ s, dReprD [.lst [value, place]] = some (.str s)) {door : Int} (hd : door = 0 ∨ door = 1 ∨ door = 2) : m__law_told cs [.fz (.int door), .fz value, .fz place] = .ok (.fz (.str "intervals")) ⟨[], [.fz (.int door), .fz value, .fz place]⟩ := by
  obtain ⟨s, hr⟩ := hr
  refine told_rz cs hc (i := 21) rfl hr ?_
  rcases hd with rfl | rfl | rfl
  · simp [m__law_told_t1, m__law_told_6, m__law_told_2, -List.map_map, -List.map_take, -List.map_drop, -List.map_append, -List.map_reverse, asDef, entry, slotsOf, sSeq, sSet, sRet, sIf, sDrop, sNil, sBreak, sCont, sApp, sSetAt, setEnd, sAug, sAsg, sPar, mVar, mSee, mFrz, mTake, mC, mUn, mOp, mNil, mCons, mCall, mCallL, mTup, mLst, mView, mOwn, mFz, mTest, mAnd, mOr, mNot, mIf, mAndV, mOrV, mNotV, mChain, mAt, qSee, qFz, qNew, oNone, oSome, rNil, rSlot, rFz, mCall0, mCall1, oneSlot, noSlot, treesOf, SD.tree, SD.put, SD.putFz, tgN, tgNil, tgCons, tgT, ER.bind, ER.opt, ER.stm, Fl.seq, OT.view, OT.views, OT.items, fzOf, iLst, iTuP, iRange1, iRange2, iZip2, iEnumL, dIx, atI, ixN, dAdd, dSub, dNeg, dLt, dLe, dGt, dGe, dIsN, dNotN, isNonD, dEq, dNe, eqB_int, eqB_str, eqB_bl, eq_2, eq_3, dLen, dIsi, D.isA, tyName, dMod, dMax, dMin, mAtS, mBm, D.isL, D.isS, tS, cov_bad cs hv]
  · simp [m__law_told_t1, m__law_told_6, m__law_told_5, m__law_told_3, -List.map_map, -List.map_take, -List.map_drop, -List.map_append, -List.map_reverse, asDef, entry, slotsOf, sSeq, sSet, sRet, sIf, sDrop, sNil, sBreak, sCont, sApp, sSetAt, setEnd, sAug, sAsg, sPar, mVar, mSee, mFrz, mTake, mC, mUn, mOp, mNil, mCons, mCall, mCallL, mTup, mLst, mView, mOwn, mFz, mTest, mAnd, mOr, mNot, mIf, mAndV, mOrV, mNotV, mChain, mAt, qSee, qFz, qNew, oNone, oSome, rNil, rSlot, rFz, mCall0, mCall1, oneSlot, noSlot, treesOf, SD.tree, SD.put, SD.putFz, tgN, tgNil, tgCons, tgT, ER.bind, ER.opt, ER.stm, Fl.seq, OT.view, OT.views, OT.items, fzOf, iLst, iTuP, iRange1, iRange2, iZip2, iEnumL, dIx, atI, ixN, dAdd, dSub, dNeg, dLt, dLe, dGt, dGe, dIsN, dNotN, isNonD, dEq, dNe, eqB_int, eqB_str, eqB_bl, eq_2, eq_3, dLen, dIsi, D.isA, tyName, dMod, dMax, dMin, mAtS, mBm, D.isL, D.isS, tS, odd_bad cs hv]
  · simp [m__law_told_t1, m__law_told_6, m__law_told_5, m__law_told_4, -List.map_map, -List.map_take, -List.map_drop, -List.map_append, -List.map_reverse, asDef, entry, slotsOf, sSeq, sSet, sRet, sIf, sDrop, sNil, sBreak, sCont, sApp, sSetAt, setEnd, sAug, sAsg, sPar, mVar, mSee, mFrz, mTake, mC, mUn, mOp, mNil, mCons, mCall, mCallL, mTup, mLst, mView, mOwn, mFz, mTest, mAnd, mOr, mNot, mIf, mAndV, mOrV, mNotV, mChain, mAt, qSee, qFz, qNew, oNone, oSome, rNil, rSlot, rFz, mCall0, mCall1, oneSlot, noSlot, treesOf, SD.tree, SD.put, SD.putFz, tgN, tgNil, tgCons, tgT, ER.bind, ER.opt, ER.stm, Fl.seq, OT.view, OT.views, OT.items, fzOf, iLst, iTuP, iRange1, iRange2, iZip2, iEnumL, dIx, atI, ixN, dAdd, dSub, dNeg, dLt, dLe, dGt, dGe, dIsN, dNotN, isNonD, dEq, dNe, eqB_int, eqB_str, eqB_bl, eq_2, eq_3, dLen, dIsi, D.isA, tyName, dMod, dMax, dMin, mAtS, mBm, D.isL, D.isS, tS, depth_bad cs place hv]
theorem told_place (hc : CsOk cs) {ps : List (Int × Int)} {place : D} (h : ∀ p ∈ ps, p.1 < p.2) (hl : ps.length ≤ 8000000) (hx : NoInt place) (hr : ∃ s, dReprD [.lst [WD ps, place]] = some (.str s)) : m__law_told cs [.fz (.int 2), .fz (WD ps), .fz place] = .ok (.fz (.str "place")) ⟨[], [.fz (.int 2), .fz (WD ps), .fz place]⟩ := by
  obtain ⟨s, hr⟩ := hr
  refine told_rz cs hc (i := 22) rfl hr ?_
  simp [m__law_told_t1, m__law_told_6, m__law_told_5, m__law_told_4, -List.map_map, -List.map_take, -List.map_drop, -List.map_append, -List.map_reverse, asDef, entry, slotsOf, sSeq, sSet, sRet, sIf, sDrop, sNil, sBreak, sCont, sApp, sSetAt, setEnd, sAug, sAsg, sPar, mVar, mSee, mFrz, mTake, mC, mUn, mOp, mNil, mCons, mCall, mCallL, mTup, mLst, mView, mOwn, mFz, mTest, mAnd, mOr, mNot, mIf, mAndV, mOrV, mNotV, mChain, mAt, qSee, qFz, qNew, oNone, oSome, rNil, rSlot, rFz, mCall0, mCall1, oneSlot, noSlot, treesOf, SD.tree, SD.put, SD.putFz, tgN, tgNil, tgCons, tgT, ER.bind, ER.opt, ER.stm, Fl.seq, OT.view, OT.views, OT.items, fzOf, iLst, iTuP, iRange1, iRange2, iZip2, iEnumL, dIx, atI, ixN, dAdd, dSub, dNeg, dLt, dLe, dGt, dGe, dIsN, dNotN, isNonD, dEq, dNe, eqB_int, eqB_str, eqB_bl, eq_2, eq_3, dLen, dIsi, D.isA, tyName, dMod, dMax, dMin, mAtS, mBm, D.isL, D.isS, tS, depth_place cs h hl hx]
theorem told_fine {ps : List (Int × Int)} {x : Int} (h : ∀ p ∈ ps, p.1 < p.2) (hl : ps.length ≤ 8000000) (hr : ∃ s, dReprD [.lst [WD ps, .int x]] = some (.str s)) {door : Int} (hd : door = 0 ∨ door = 1 ∨ door = 2) : m__law_told cs [.fz (.int door), .fz (WD ps), .fz (.int x)] = .ok (.fz (.str "fine")) ⟨[], [.fz (.int door), .fz (WD ps), .fz (.int x)]⟩ := by
  obtain ⟨s, hr⟩ := hr
  refine told_nx cs hr ?_
  rcases hd with rfl | rfl | rfl
  · simp [m__law_told_t1, m__law_told_6, m__law_told_2, -List.map_map, -List.map_take, -List.map_drop, -List.map_append, -List.map_reverse, asDef, entry, slotsOf, sSeq, sSet, sRet, sIf, sDrop, sNil, sBreak, sCont, sApp, sSetAt, setEnd, sAug, sAsg, sPar, mVar, mSee, mFrz, mTake, mC, mUn, mOp, mNil, mCons, mCall, mCallL, mTup, mLst, mView, mOwn, mFz, mTest, mAnd, mOr, mNot, mIf, mAndV, mOrV, mNotV, mChain, mAt, qSee, qFz, qNew, oNone, oSome, rNil, rSlot, rFz, mCall0, mCall1, oneSlot, noSlot, treesOf, SD.tree, SD.put, SD.putFz, tgN, tgNil, tgCons, tgT, ER.bind, ER.opt, ER.stm, Fl.seq, OT.view, OT.views, OT.items, fzOf, iLst, iTuP, iRange1, iRange2, iZip2, iEnumL, dIx, atI, ixN, dAdd, dSub, dNeg, dLt, dLe, dGt, dGe, dIsN, dNotN, isNonD, dEq, dNe, eqB_int, eqB_str, eqB_bl, eq_2, eq_3, dLen, dIsi, D.isA, tyName, dMod, dMax, dMin, mAtS, mBm, D.isL, D.isS, tS, cov_ok cs ps h hl]
  · simp [m__law_told_t1, m__law_told_6, m__law_told_5, m__law_told_3, -List.map_map, -List.map_take, -List.map_drop, -List.map_append, -List.map_reverse, asDef, entry, slotsOf, sSeq, sSet, sRet, sIf, sDrop, sNil, sBreak, sCont, sApp, sSetAt, setEnd, sAug, sAsg, sPar, mVar, mSee, mFrz, mTake, mC, mUn, mOp, mNil, mCons, mCall, mCallL, mTup, mLst, mView, mOwn, mFz, mTest, mAnd, mOr, mNot, mIf, mAndV, mOrV, mNotV, mChain, mAt, qSee, qFz, qNew, oNone, oSome, rNil, rSlot, rFz, mCall0, mCall1, oneSlot, noSlot, treesOf, SD.tree, SD.put, SD.putFz, tgN, tgNil, tgCons, tgT, ER.bind, ER.opt, ER.stm, Fl.seq, OT.view, OT.views, OT.items, fzOf, iLst, iTuP, iRange1, iRange2, iZip2, iEnumL, dIx, atI, ixN, dAdd, dSub, dNeg, dLt, dLe, dGt, dGe, dIsN, dNotN, isNonD, dEq, dNe, eqB_int, eqB_str, eqB_bl, eq_2, eq_3, dLen, dIsi, D.isA, tyName, dMod, dMax, dMin, mAtS, mBm, D.isL, D.isS, tS, odd_cov_ok cs ps h hl]
  · simp [m__law_told_t1, m__law_told_6, m__law_told_5, m__law_told_4, -List.map_map, -List.map_take, -List.map_drop, -List.map_append, -List.map_reverse, asDef, entry, slotsOf, sSeq, sSet, sRet, sIf, sDrop, sNil, sBreak, sCont, sApp, sSetAt, setEnd, sAug, sAsg, sPar, mVar, mSee, mFrz, mTake, mC, mUn, mOp, mNil, mCons, mCall, mCallL, mTup, mLst, mView, mOwn, mFz, mTest, mAnd, mOr, mNot, mIf, mAndV, mOrV, mNotV, mChain, mAt, qSee, qFz, qNew, oNone, oSome, rNil, rSlot, rFz, mCall0, mCall1, oneSlot, noSlot, treesOf, SD.tree, SD.put, SD.putFz, tgN, tgNil, tgCons, tgT, ER.bind, ER.opt, ER.stm, Fl.seq, OT.view, OT.views, OT.items, fzOf, iLst, iTuP, iRange1, iRange2, iZip2, iEnumL, dIx, atI, ixN, dAdd, dSub, dNeg, dLt, dLe, dGt, dGe, dIsN, dNotN, isNonD, dEq, dNe, eqB_int, eqB_str, eqB_bl, eq_2, eq_3, dLen, dIsi, D.isA, tyName, dMod, dMax, dMin, mAtS, mBm, D.isL, D.isS, tS, depth_ok cs ps x h hl]
variable (cs : Nat → Addr)
/-! ### the lists that are none -/
theorem cut_map {α β : Type} (f : α → β) (l : List α) (i j : Option Int) : cutL (l.map f) i j = (cutL l i j).map f := by
  unfold cutL
  rw [List.length_map, List.map_take, List.map_drop]
theorem cut_mem {α : Type} {l : List α} {i j : Option Int} {x : α} (h : x ∈ cutL l i j) : x ∈ l := List.mem_of_mem_drop (List.mem_of_mem_take h)
theorem cut_le {α : Type} (l : List α) (i j : Option Int) : (cutL l i j).length ≤ l.length := by
  unfold cutL
  rw [List.length_take, List.length_drop]
  omega
def nS (t : OT) (ps : List (Int × Int)) (v : Int) (os : List D) (f x : S) : SD := ⟨[.pa 0, .ow (.fz (WD ps)), .ow (.fz (.int v)), .ow (.fz (.lst os)), f, x], [t, .fz (WD ps)]⟩
def bad1 (ps : List (Int × Int)) (v : Int) (o : D) : D := .lst ((cutL ps none (some v)).map P2 ++ o :: (cutL (cutL ps (some v) none) none (some 399)).map P2)
def bad2 (ps : List (Int × Int)) (v : Int) (o : D) : D := .lst ((cutL ps none (some v)).map P2 ++ o :: (cutL ps (some (v + 1)) none).map P2)
def bad3 (ps : List (Int × Int)) : List D := [.non, .int 0, .str "", .tup [], .dic false [] [], .bl true, .tup (ps.map P2), .lst [WD ps], .tup [.tup [.int 0, .int 1]], .str "01", .tup [.int 0, .int 1], .dic false [.k (.inl 0)] [.int 1]]
theorem new_do {m : SD → ER OT} {sd : SD} {l : List D} (h : m sd = .ok (.ol (l.map .fz)) sd) : qNew m sd = .ok l sd := by
  unfold qNew
  rw [h]
  show ER.opt (fzOf (l.map .fz)) sd = _
  rw [fzOf_map]
  rfl
theorem cat_do {A B : SD → ER (List D)} {sd : SD} {a b : List D} (hA : A sd = .ok a sd) (hB : B sd = .ok b sd) (h : a.length + b.length ≤ 16777216) : mCat A B sd = .ok (.ol ((a ++ b).map .fz)) sd := by
  unfold mCat
  rw [hA]
  show (B sd).bind _ = _
  rw [hB]
  show (if a.length + b.length ≤ 16777216 then _ else _) = _
  rw [if_pos h]
theorem view_do {m : SD → ER OT} {sd : SD} {l : List D} (h : m sd = .ok (.ol (l.map .fz)) sd) : mView m sd = .ok (.lst l) sd := by
  unfold mView
  rw [h]
  show ER.ok (OT.view (.ol (l.map .fz))) sd = _
  rw [OT.view, views_fz]
theorem cat_1 (a b : List D) (o : D) (h : a.length + b.length ≤ 10000) {A B : SD → ER OT} {sd : SD} (hA : A sd = .ok (.ol (a.map .fz)) sd) (hB : B sd = .ok (.ol (b.map .fz)) sd) (i : Nat) (hi : sd.sl[i]? = some (.ow (.fz o))) :
    mView (mCat (qNew (mCat (qNew A) (qNew (mLst (mCons (mVar i) (mNil)))))) (qNew B)) sd = .ok (.lst (a ++ o :: b)) sd := by
  have h1 : mLst (mCons (mVar i) (mNil)) sd = .ok (.ol (([o] : List D).map .fz)) sd := by simp [-List.map_map, -List.map_take, -List.map_drop, -List.map_append, -List.map_reverse, asDef, entry, slotsOf, sSeq, sSet, sRet, sIf, sDrop, sNil, sBreak, sCont, sApp, sSetAt, setEnd, sAug, sAsg, sPar, mVar, mSee, mFrz, mTake, mC, mUn, mOp, mNil, mCons, mCall, mCallL, mTup, mLst, mView, mOwn, mFz, mTest, mAnd, mOr, mNot, mIf, mAndV, mOrV, mNotV, mChain, mAt, qSee, qFz, qNew, oNone, oSome, rNil, rSlot, rFz, mCall0, mCall1, oneSlot, noSlot, treesOf, SD.tree, SD.put, SD.putFz, tgN, tgNil, tgCons, tgT, ER.bind, ER.opt, ER.stm, Fl.seq, OT.view, OT.views, OT.items, fzOf, iLst, iTuP, iRange1, iRange2, iZip2, iEnumL, dIx, atI, ixN, dAdd, dSub, dNeg, dLt, dLe, dGt, dGe, dIsN, dNotN, isNonD, dEq, dNe, eqB_int, eqB_str, eqB_bl, eq_2, eq_3, dLen, dIsi, D.isA, tyName, dMod, dMax, dMin, mAtS, mBm, D.isL, D.isS, hi]
  have h2 := cat_do (new_do hA) (new_do h1) (by simp only [List.length_singleton]; omega)
  have h3 := view_do (cat_do (new_do h2) (new_do hB) (by rw [List.length_append, List.length_singleton]; omega))
  rw [h3, List.append_assoc]
  rfl
theorem cut_do {q : SD → ER (List D)} {i j : SD → ER (Option Int)} {sd : SD} {l : List D} {x y : Option Int} (h : q sd = .ok l sd) (hi : i sd = .ok x sd) (hj : j sd = .ok y sd) : mCut q i j sd = .ok (.ol ((cutL l x y).map .fz)) sd := by
  unfold mCut
  rw [h]
  show (i sd).bind _ = _
  rw [hi]
  show (j sd).bind _ = _
  rw [hj]
  rfl
theorem no_ok {n : Nat} {t : OT} {ps : List (Int × Int)} (h : Tk n t) (hn : n < 2 ^ 62) (hp : PsOk ps) : ∃ (bads : List D) (t' : OT), (∀ d ∈ bads, BadV d ∧ Rp d 6 4900000) ∧ bads.length ≤ 1000 ∧ Tk (n + 3) t' ∧ m__law_no_intervals cs [t, .fz (WD ps)] = .ok (.ol (bads.map .fz)) ⟨[], [t', .fz (WD ps)]⟩ := by
  have hl := hp.len
  have e60 : dPow (.int 10) (.int 60) = some (.int 1000000000000000000000000000000000000000000000000000000000000) := p10 (k := 60) (by decide)
  obtain ⟨v, t1, a1, b1, k1, q1⟩ := dip_ok cs h (by omega) (m := (ps.length : Int) + 1) (by omega) (by
    have : ((ps.length : Int) + 1).natAbs < 2 ^ 64 := by omega
    exact Nat.lt_trans this (by decide +kernel))
  obtain ⟨v2, t2, a2, b2, k2, q2⟩ := dip_ok cs k1 (by omega) (m := 99) (by decide) (by decide +kernel)
  obtain ⟨v3, t3, a3, b3, k3, q3⟩ := dip_ok cs k2 (by omega) (m := 99) (by decide) (by decide +kernel)
  have s1 : m__law_no_intervals_1 cs ⟨[.pa 0, .ow (.fz (WD ps)), .un, .un, .un, .un], [t, .fz (WD ps)]⟩ = .nx (nS t1 ps v (oddD.take 10) .un .un) := by
    simp [m__law_no_intervals_1, nS, oddD, WD, -List.map_map, -List.map_take, -List.map_drop, -List.map_append, -List.map_reverse, asDef, entry, slotsOf, sSeq, sSet, sRet, sIf, sDrop, sNil, sBreak, sCont, sApp, sSetAt, setEnd, sAug, sAsg, sPar, mVar, mSee, mFrz, mTake, mC, mUn, mOp, mNil, mCons, mCall, mCallL, mTup, mLst, mView, mOwn, mFz, mTest, mAnd, mOr, mNot, mIf, mAndV, mOrV, mNotV, mChain, mAt, qSee, qFz, qNew, oNone, oSome, rNil, rSlot, rFz, mCall0, mCall1, oneSlot, noSlot, treesOf, SD.tree, SD.put, SD.putFz, tgN, tgNil, tgCons, tgT, ER.bind, ER.opt, ER.stm, Fl.seq, OT.view, OT.views, OT.items, fzOf, iLst, iTuP, iRange1, iRange2, iZip2, iEnumL, dIx, atI, ixN, dAdd, dSub, dNeg, dLt, dLe, dGt, dGe, dIsN, dNotN, isNonD, dEq, dNe, eqB_int, eqB_str, eqB_bl, eq_2, eq_3, dLen, dIsi, D.isA, tyName, dMod, dMax, dMin, mAtS, mBm, D.isL, D.isS, mDict0, q1]
  have s2 : m__law_no_intervals_2 cs (nS t1 ps v (oddD.take 10) .un .un) = .nx (nS t1 ps v (oddD.take 19) .un .un) := by
    simp [m__law_no_intervals_2, nS, oddD, -List.map_map, -List.map_take, -List.map_drop, -List.map_append, -List.map_reverse, asDef, entry, slotsOf, sSeq, sSet, sRet, sIf, sDrop, sNil, sBreak, sCont, sApp, sSetAt, setEnd, sAug, sAsg, sPar, mVar, mSee, mFrz, mTake, mC, mUn, mOp, mNil, mCons, mCall, mCallL, mTup, mLst, mView, mOwn, mFz, mTest, mAnd, mOr, mNot, mIf, mAndV, mOrV, mNotV, mChain, mAt, qSee, qFz, qNew, oNone, oSome, rNil, rSlot, rFz, mCall0, mCall1, oneSlot, noSlot, treesOf, SD.tree, SD.put, SD.putFz, tgN, tgNil, tgCons, tgT, ER.bind, ER.opt, ER.stm, Fl.seq, OT.view, OT.views, OT.items, fzOf, iLst, iTuP, iRange1, iRange2, iZip2, iEnumL, dIx, atI, ixN, dAdd, dSub, dNeg, dLt, dLe, dGt, dGe, dIsN, dNotN, isNonD, dEq, dNe, eqB_int, eqB_str, eqB_bl, eq_2, eq_3, dLen, dIsi, D.isA, tyName, dMod, dMax, dMin, mAtS, mBm, D.isL, D.isS, mCat]
  have s3 : m__law_no_intervals_3 cs (nS t1 ps v (oddD.take 19) .un .un) = .nx (nS t1 ps v oddD .un .un) := by
    simp [m__law_no_intervals_3, nS, oddD, -List.map_map, -List.map_take, -List.map_drop, -List.map_append, -List.map_reverse, asDef, entry, slotsOf, sSeq, sSet, sRet, sIf, sDrop, sNil, sBreak, sCont, sApp, sSetAt, setEnd, sAug, sAsg, sPar, mVar, mSee, mFrz, mTake, mC, mUn, mOp, mNil, mCons, mCall, mCallL, mTup, mLst, mView, mOwn, mFz, mTest, mAnd, mOr, mNot, mIf, mAndV, mOrV, mNotV, mChain, mAt, qSee, qFz, qNew, oNone, oSome, rNil, rSlot, rFz, mCall0, mCall1, oneSlot, noSlot, treesOf, SD.tree, SD.put, SD.putFz, tgN, tgNil, tgCons, tgT, ER.bind, ER.opt, ER.stm, Fl.seq, OT.view, OT.views, OT.items, fzOf, iLst, iTuP, iRange1, iRange2, iZip2, iEnumL, dIx, atI, ixN, dAdd, dSub, dNeg, dLt, dLe, dGt, dGe, dIsN, dNotN, isNonD, dEq, dNe, eqB_int, eqB_str, eqB_bl, eq_2, eq_3, dLen, dIsi, D.isA, tyName, dMod, dMax, dMin, mAtS, mBm, D.isL, D.isS, mCat]
  have s4 : m__law_no_intervals_4 cs (nS t1 ps v oddD .un .un) = .nx (nS t3 ps v (odds v2 v3) .un .un) := by
    simp [m__law_no_intervals_4, nS, odds, oddD, -List.map_map, -List.map_take, -List.map_drop, -List.map_append, -List.map_reverse, asDef, entry, slotsOf, sSeq, sSet, sRet, sIf, sDrop, sNil, sBreak, sCont, sApp, sSetAt, setEnd, sAug, sAsg, sPar, mVar, mSee, mFrz, mTake, mC, mUn, mOp, mNil, mCons, mCall, mCallL, mTup, mLst, mView, mOwn, mFz, mTest, mAnd, mOr, mNot, mIf, mAndV, mOrV, mNotV, mChain, mAt, qSee, qFz, qNew, oNone, oSome, rNil, rSlot, rFz, mCall0, mCall1, oneSlot, noSlot, treesOf, SD.tree, SD.put, SD.putFz, tgN, tgNil, tgCons, tgT, ER.bind, ER.opt, ER.stm, Fl.seq, OT.view, OT.views, OT.items, fzOf, iLst, iTuP, iRange1, iRange2, iZip2, iEnumL, dIx, atI, ixN, dAdd, dSub, dNeg, dLt, dLe, dGt, dGe, dIsN, dNotN, isNonD, dEq, dNe, eqB_int, eqB_str, eqB_bl, eq_2, eq_3, dLen, dIsi, D.isA, tyName, dMod, dMax, dMin, mAtS, mBm, D.isL, D.isS, mCat, e60, q2, q3]
  have hq : ∀ f x, qFz (mVar 1) (nS t3 ps v (odds v2 v3) f x) = .ok (ps.map P2) (nS t3 ps v (odds v2 v3) f x) := fun f x => rfl
  have hv : ∀ f x, oSome (mVar 2) (nS t3 ps v (odds v2 v3) f x) = .ok (some v) (nS t3 ps v (odds v2 v3) f x) := fun f x => rfl
  have hv1 : ∀ f x, oSome (mOp dAdd (mVar 2) (mC (.int 1))) (nS t3 ps v (odds v2 v3) f x) = .ok (some (v + 1)) (nS t3 ps v (odds v2 v3) f x) := fun f x => rfl
  have hN : ∀ f x, oNone (nS t3 ps v (odds v2 v3) f x) = .ok none (nS t3 ps v (odds v2 v3) f x) := fun f x => rfl
  have h3 : ∀ f x, oSome (mC (.int 399)) (nS t3 ps v (odds v2 v3) f x) = .ok (some 399) (nS t3 ps v (odds v2 v3) f x) := fun f x => rfl
  have l1 := cut_le ps none (some v)
  have l2 := cut_le ps (some v) none
  have l3 := cut_le (cutL ps (some v) none) none (some 399)
  have l4 := cut_le ps (some (v + 1)) none
  have hol : (odds v2 v3).length ≤ 100 := by simp [odds, oddD]
  have c1 : ∀ f, m__law_no_intervals_c1 cs (nS t3 ps v (odds v2 v3) f .un) = .ok (.ol (((odds v2 v3).map (bad1 ps v)).map .fz)) (nS t3 ps v (odds v2 v3) f .un) := fun f =>
    mComp_map (odds v2 v3) (fun d => d) (bad1 ps v) (by rw [List.map_id']; rfl) (by omega) fun o _ => ⟨nS t3 ps v (odds v2 v3) f (.ow (.fz o)), rfl, rfl, by
      have w := cat_1 (a := cutL (ps.map P2) none (some v)) (b := cutL (cutL (ps.map P2) (some v) none) none (some 399)) o (by rw [cut_map, cut_map, cut_map, List.length_map, List.length_map]; omega)
        (cut_do (hq f (.ow (.fz o))) (hN f _) (hv f _)) (cut_do (new_do (cut_do (hq f (.ow (.fz o))) (hv f _) (hN f _))) (hN f _) (h3 f _)) 5 rfl
      rw [cut_map, cut_map, cut_map] at w
      exact w⟩
  have c2 : ∀ f, m__law_no_intervals_c2 cs (nS t3 ps v (odds v2 v3) f .un) = .ok (.ol (((odds v2 v3).map (bad2 ps v)).map .fz)) (nS t3 ps v (odds v2 v3) f .un) := fun f =>
    mComp_map (odds v2 v3) (fun d => d) (bad2 ps v) (by rw [List.map_id']; rfl) (by omega) fun o _ => ⟨nS t3 ps v (odds v2 v3) f (.ow (.fz o)), rfl, rfl, by
      have w := cat_1 (a := cutL (ps.map P2) none (some v)) (b := cutL (ps.map P2) (some (v + 1)) none) o (by rw [cut_map, cut_map, List.length_map, List.length_map]; omega)
        (cut_do (hq f (.ow (.fz o))) (hN f _) (hv f _)) (cut_do (hq f (.ow (.fz o))) (hv1 f _) (hN f _)) 5 rfl
      rw [cut_map, cut_map] at w
      exact w⟩
  obtain ⟨B1, hB1⟩ : ∃ B1, B1 = (odds v2 v3).map (bad1 ps v) := ⟨_, rfl⟩
  obtain ⟨B2, hB2⟩ : ∃ B2, B2 = (odds v2 v3).map (bad2 ps v) := ⟨_, rfl⟩
  have hb1 : B1.length ≤ 100 := by rw [hB1, List.length_map]; exact hol
  have hb2 : B2.length ≤ 100 := by rw [hB2, List.length_map]; exact hol
  rw [← hB1] at c1
  rw [← hB2] at c2
  have s5 : m__law_no_intervals_5 cs (nS t3 ps v (odds v2 v3) .un .un) = .nx (nS t3 ps v (odds v2 v3) (.ow (.fz (.lst B1))) .un) := by
    simp only [m__law_no_intervals_5, sSet, mFz, mOwn, mView, ER.bind, c1, ER.stm, OT.view, views_fz]
    rfl
  have s6 : m__law_no_intervals_6 cs (nS t3 ps v (odds v2 v3) (.ow (.fz (.lst B1))) .un) = .nx (nS t3 ps v (odds v2 v3) (.ow (.fz (.lst (B1 ++ B2)))) .un) := by
    have z : qFz (mVar 4) (nS t3 ps v (odds v2 v3) (.ow (.fz (.lst B1))) .un) = .ok B1 (nS t3 ps v (odds v2 v3) (.ow (.fz (.lst B1))) .un) := rfl
    simp only [m__law_no_intervals_6, sSet, mFz, mOwn, mView, mCat, z, new_do (c2 _), ER.bind, ER.stm]
    rw [if_pos (by omega)]
    show (if 4 < _ then Fl.nx _ else .bad) = _
    simp only [ER.bind, OT.view, views_fz]
    rfl
  have s7 : m__law_no_intervals_7 cs (nS t3 ps v (odds v2 v3) (.ow (.fz (.lst (B1 ++ B2)))) .un) = .rt (.ol ((B1 ++ B2 ++ bad3 ps).map .fz)) (nS t3 ps v (odds v2 v3) (.ow (.fz (.lst (B1 ++ B2)))) .un) := by
    have z : qFz (mVar 4) (nS t3 ps v (odds v2 v3) (.ow (.fz (.lst (B1 ++ B2)))) .un) = .ok (B1 ++ B2) (nS t3 ps v (odds v2 v3) (.ow (.fz (.lst (B1 ++ B2)))) .un) := rfl
    have y : mLst (mCons (mC .non) (mCons (mC (.int 0)) (mCons (mC (.str "")) (mCons (mTup (mNil)) (mCons (mDict0) (mCons (mC (.bl true)) (mCons (mCallT dTupOf (mCons (mVar 1) (mNil))) (mCons (mView (mLst (mCons (mVar 1) (mNil)))) (mCons (mTup (mCons (mTup (mCons (mC (.int 0)) (mCons (mC (.int 1)) (mNil)))) (mNil))) (mCons (mC (.str "01")) (mCons (mTup (mCons (mC (.int 0)) (mCons (mC (.int 1)) (mNil)))) (mCons (mDict1 0 1) (mNil))))))))))))) (nS t3 ps v (odds v2 v3) (.ow (.fz (.lst (B1 ++ B2)))) .un) = .ok (.ol ((bad3 ps).map .fz)) (nS t3 ps v (odds v2 v3) (.ow (.fz (.lst (B1 ++ B2)))) .un) := by
      simp [nS, bad3, WD, -List.map_map, -List.map_take, -List.map_drop, -List.map_append, -List.map_reverse, asDef, entry, slotsOf, sSeq, sSet, sRet, sIf, sDrop, sNil, sBreak, sCont, sApp, sSetAt, setEnd, sAug, sAsg, sPar, mVar, mSee, mFrz, mTake, mC, mUn, mOp, mNil, mCons, mCall, mCallL, mTup, mLst, mView, mOwn, mFz, mTest, mAnd, mOr, mNot, mIf, mAndV, mOrV, mNotV, mChain, mAt, qSee, qFz, qNew, oNone, oSome, rNil, rSlot, rFz, mCall0, mCall1, oneSlot, noSlot, treesOf, SD.tree, SD.put, SD.putFz, tgN, tgNil, tgCons, tgT, ER.bind, ER.opt, ER.stm, Fl.seq, OT.view, OT.views, OT.items, fzOf, iLst, iTuP, iRange1, iRange2, iZip2, iEnumL, dIx, atI, ixN, dAdd, dSub, dNeg, dLt, dLe, dGt, dGe, dIsN, dNotN, isNonD, dEq, dNe, eqB_int, eqB_str, eqB_bl, eq_2, eq_3, dLen, dIsi, D.isA, tyName, dMod, dMax, dMin, mAtS, mBm, D.isL, D.isS, mDict0, mDict1, mCallT, dTupOf]
    simp only [m__law_no_intervals_7, sRet, mCat, z, new_do y, ER.bind, ER.stm]
    rw [if_pos (by simp only [List.length_append]; simp only [bad3, List.length_cons, List.length_nil]; omega)]
  refine ⟨B1 ++ B2 ++ bad3 ps, t3, fun d hd => ?_, by simp only [List.length_append]; simp only [bad3, List.length_cons, List.length_nil]; omega, k3, ?_⟩
  · have lt := hp.lt
    rcases List.mem_append.mp hd with hd | hd
    · rcases List.mem_append.mp hd with hd | hd
      · rw [hB1] at hd
        obtain ⟨o, ho, rfl⟩ := List.mem_map.mp hd
        exact ⟨bad_in (fun p m => lt p (cut_mem m)) (fun p m => lt p (cut_mem (cut_mem m))) (iv_odds a2 a3 o ho) (by omega), rp_mono (rp_in hp (fun p m => cut_mem m) (fun p m => cut_mem (cut_mem m)) (by omega) (by omega) (rp_odds a2 a3 b2 b3 o ho)) (by decide) (by decide)⟩
      · rw [hB2] at hd
        obtain ⟨o, ho, rfl⟩ := List.mem_map.mp hd
        exact ⟨bad_in (fun p m => lt p (cut_mem m)) (fun p m => lt p (cut_mem m)) (iv_odds a2 a3 o ho) (by omega), rp_mono (rp_in hp (fun p m => cut_mem m) (fun p m => cut_mem m) (by omega) (by omega) (rp_odds a2 a3 b2 b3 o ho)) (by decide) (by decide)⟩
    · have hW := rp_W hp
      simp only [bad3, List.mem_cons, List.not_mem_nil, or_false] at hd
      rcases hd with h | h | h | h | h | h | h | h | h | h | h | h <;> subst h
      · exact ⟨bad_no rfl, rp_mono (k := 2) (n := 4000) ⟨_, rfl, by decide +kernel, by decide +kernel, by decide +kernel⟩ (by decide) (by decide)⟩
      · exact ⟨bad_no rfl, rp_mono (k := 2) (n := 4000) ⟨_, rfl, by decide +kernel, by decide +kernel, by decide +kernel⟩ (by decide) (by decide)⟩
      · exact ⟨bad_no rfl, rp_mono (k := 2) (n := 4000) ⟨_, rfl, by decide +kernel, by decide +kernel, by decide +kernel⟩ (by decide) (by decide)⟩
      · exact ⟨bad_no rfl, rp_mono (k := 2) (n := 4000) ⟨_, rfl, by decide +kernel, by decide +kernel, by decide +kernel⟩ (by decide) (by decide)⟩
      · exact ⟨bad_no rfl, rp_mono (k := 2) (n := 4000) ⟨_, rfl, by decide +kernel, by decide +kernel, by decide +kernel⟩ (by decide) (by decide)⟩
      · exact ⟨bad_no rfl, rp_mono (k := 2) (n := 4000) ⟨_, rfl, by decide +kernel, by decide +kernel, by decide +kernel⟩ (by decide) (by decide)⟩
      · refine ⟨bad_no rfl, rp_mono (rp_tup (k := 2) (n := 3850) fun d hd => ?_) (by decide) ?_⟩
        · obtain ⟨p, hq, rfl⟩ := List.mem_map.mp hd
          exact rp_P2 (psok_small hp p hq).1 (psok_small hp p hq).2
        · rw [List.length_map]; omega
      · refine ⟨bad_list (fun _ => false) (show 1 ≤ 16777216 from by decide) (fun d hd => ?_) (WD ps) (by simp) rfl, rp_mono (rp_lst (k := 3) (n := 1600000) fun d hd => ?_) (by decide) (show 1 * (1600000 + 2) + 4 ≤ 4900000 from by decide)⟩
        · simp only [List.mem_cons, List.not_mem_nil, or_false] at hd
          rw [hd]; exact iv_lst _
        · simp only [List.mem_cons, List.not_mem_nil, or_false] at hd
          rw [hd]; exact hW
      · exact ⟨bad_no rfl, rp_mono (k := 3) (n := 8000) ⟨_, rfl, by decide +kernel, by decide +kernel, by decide +kernel⟩ (by decide) (by decide)⟩
      · exact ⟨bad_no rfl, rp_mono (k := 2) (n := 4000) ⟨_, rfl, by decide +kernel, by decide +kernel, by decide +kernel⟩ (by decide) (by decide)⟩
      · exact ⟨bad_no rfl, rp_mono (k := 2) (n := 4000) ⟨_, rfl, by decide +kernel, by decide +kernel, by decide +kernel⟩ (by decide) (by decide)⟩
      · exact ⟨bad_no rfl, rp_mono (k := 2) (n := 4000) ⟨_, rfl, by decide +kernel, by decide +kernel, by decide +kernel⟩ (by decide) (by decide)⟩
  · obtain ⟨x, y, z, et, _⟩ := id h
    have ent : entry 6 [t, .fz (WD ps)] = ⟨[.pa 0, .ow (.fz (WD ps)), .un, .un, .un, .un], [t, .fz (WD ps)]⟩ := by rw [et]; rfl
    simp only [m__law_no_intervals, asDef, ent, sSeq, s1, s2, s3, s4, s5, s6, s7, Fl.seq]
    rfl
variable (cs : Nat → Addr)
/-! ### the law -/
def bS (ns : List Int) (k : Int) (t g b o x : S) : SD := ⟨[.ow (.fz (.scr ns)), .ow (.fz (.int k)), t, g, b, o, x], [.fz (.scr ns)]⟩
theorem if_ne {a b : SD → ER D} {x y : D} {sd : SD} (ha : a sd = .ok x sd) (hb : b sd = .ok y sd) (h : dNe x y = some (.bl false)) (A : SD → Fl) : sIf (mTest (mOp dNe a b)) A sNil sd = .nx sd := by
  have e : mOp dNe a b sd = .ok (.bl false) sd := by
    unfold mOp
    rw [ha]
    show (b sd).bind _ = _
    rw [hb]
    show ER.opt (dNe x y) sd = _
    rw [h]
    rfl
  unfold sIf mTest
  rw [e]
  rfl
theorem n4 : dNe (.lst [.str "intervals", .str "intervals", .str "intervals", .str "intervals"]) (.lst [.str "intervals", .str "intervals", .str "intervals", .str "intervals"]) = some (.bl false) := by with_unfolding_all rfl
theorem n2 : dNe (.lst [.str "place", .str "place"]) (.lst [.str "place", .str "place"]) = some (.bl false) := by with_unfolding_all rfl
theorem n7 : dNe (.lst [.str "fine", .str "fine", .str "fine", .str "fine", .str "fine", .str "fine", .str "fine"]) (.lst [.str "fine", .str "fine", .str "fine", .str "fine", .str "fine", .str "fine", .str "fine"]) = some (.bl false) := by with_unfolding_all rfl
theorem rp_small {d : D} {k n : Nat} (h : Rp d k n) (hk : k ≤ 39) (hn : n ≤ 8000000) {e : D} (he : Rp e k n) : ∃ s, dReprD [.lst [d, e]] = some (.str s) :=
  rp_repr (rp_two h he) (by omega) (by omega)
theorem rp_non : Rp .non 6 4900000 := rp_mono (k := 2) (n := 4000) ⟨_, rfl, by decide +kernel, by decide +kernel, by decide +kernel⟩ (by decide) (by decide)
theorem rp_0 : Rp (.int 0) 6 4900000 := rp_mono (rp_int (by decide +kernel)) (by decide) (by decide)
theorem bad_body (hc : CsOk cs) {ns : List Int} {k : Int} {t g o x : S} {d : D} (h1 : BadV d) (h2 : Rp d 6 4900000) : ∃ o', m_law_b1 cs (bS ns k t g (.ow (.fz d)) o x) = .nx (bS ns k t g (.ow (.fz d)) o' x) := by
  have r1 := rp_small h2 (by decide) (by decide) rp_non
  have r2 := rp_small h2 (by decide) (by decide) rp_0
  have d0 := told_bad cs hc h1 r1 (door := 0) (by simp)
  have d1 := told_bad cs hc h1 r1 (door := 1) (by simp)
  have d2 := told_bad cs hc h1 r2 (door := 2) (by simp)
  have d3 := told_bad cs hc h1 r1 (door := 2) (by simp)
  have s3 : m_law_3 cs (bS ns k t g (.ow (.fz d)) o x) = .nx (bS ns k t g (.ow (.fz d)) (.ow (.fz (.lst [.str "intervals", .str "intervals", .str "intervals", .str "intervals"]))) x) := by
    simp [m_law_3, bS, -List.map_map, -List.map_take, -List.map_drop, -List.map_append, -List.map_reverse, asDef, entry, slotsOf, sSeq, sSet, sRet, sIf, sDrop, sNil, sBreak, sCont, sApp, sSetAt, setEnd, sAug, sAsg, sPar, mVar, mSee, mFrz, mTake, mC, mUn, mOp, mNil, mCons, mCall, mCallL, mTup, mLst, mView, mOwn, mFz, mTest, mAnd, mOr, mNot, mIf, mAndV, mOrV, mNotV, mChain, mAt, qSee, qFz, qNew, oNone, oSome, rNil, rSlot, rFz, mCall0, mCall1, oneSlot, noSlot, treesOf, SD.tree, SD.put, SD.putFz, tgN, tgNil, tgCons, tgT, ER.bind, ER.opt, ER.stm, Fl.seq, OT.view, OT.views, OT.items, fzOf, iLst, iTuP, iRange1, iRange2, iZip2, iEnumL, dIx, atI, ixN, dAdd, dSub, dNeg, dLt, dLe, dGt, dGe, dIsN, dNotN, isNonD, dEq, dNe, eqB_int, eqB_str, eqB_bl, eq_2, eq_3, dLen, dIsi, D.isA, tyName, dMod, dMax, dMin, mAtS, mBm, D.isL, D.isS, d0, d1, d2, d3]
  have s5 : m_law_5 cs (bS ns k t g (.ow (.fz d)) (.ow (.fz (.lst [.str "intervals", .str "intervals", .str "intervals", .str "intervals"]))) x) = .nx (bS ns k t g (.ow (.fz d)) (.ow (.fz (.lst [.str "intervals", .str "intervals", .str "intervals", .str "intervals"]))) x) := if_ne rfl rfl n4 _
  exact ⟨_, by unfold m_law_b1; exact seq_nx s3 s5⟩
def places : List D := [.non, .bl true, .bl false, .str "0", .str "", .tup [.int 0], .lst [.int 0], .lst [], .dic false [] [], .tup [.int 0, .int 1]]
theorem places_no : ∀ d ∈ places, NoInt d ∧ Rp d 6 4900000 := fun d hd => by
  simp only [places, List.mem_cons, List.not_mem_nil, or_false] at hd
  rcases hd with h | h | h | h | h | h | h | h | h | h <;> subst h <;> exact ⟨fun cs => rfl, rp_mono (k := 4) (n := 8000) ⟨_, rfl, by decide +kernel, by decide +kernel, by decide +kernel⟩ (by decide) (by decide)⟩
theorem psok_nil : PsOk [] := ⟨by decide, (fun p hp => by cases hp), (fun p hp => by cases hp)⟩
theorem place_body (hc : CsOk cs) {ns : List Int} {k : Int} {t o x : S} {ps : List (Int × Int)} (hp : PsOk ps) {d : D} (h1 : NoInt d) (h2 : Rp d 6 4900000) : m_law_b2 cs (bS ns k t (.ow (.fz (WD ps))) (.ow (.fz d)) o x) = .nx (bS ns k t (.ow (.fz (WD ps))) (.ow (.fz d)) o x) := by
  have hl := hp.len
  have r1 := rp_small (rp_mono (rp_W hp) (by decide) (by decide)) (by decide) (by decide) h2
  have r2 := rp_small (rp_mono (rp_W psok_nil) (by decide) (by decide)) (by decide) (by decide) h2
  have d1 := told_place cs hc hp.lt (by omega) h1 r1
  have d2 := told_place cs hc psok_nil.lt (by decide) h1 r2
  have e0 : WD [] = .lst [] := rfl
  rw [e0] at d2
  have hv : mView (mLst (mCons (mView (mCall0 (m__law_told cs) (mCons (mC (.int 2)) (mCons (mVar 3) (mCons (mVar 4) (mNil)))))) (mCons (mView (mCall0 (m__law_told cs) (mCons (mC (.int 2)) (mCons (mView (mLst (mNil))) (mCons (mVar 4) (mNil)))))) (mNil)))) (bS ns k t (.ow (.fz (WD ps))) (.ow (.fz d)) o x) = .ok (.lst [.str "place", .str "place"]) (bS ns k t (.ow (.fz (WD ps))) (.ow (.fz d)) o x) := by
    simp [bS, -List.map_map, -List.map_take, -List.map_drop, -List.map_append, -List.map_reverse, asDef, entry, slotsOf, sSeq, sSet, sRet, sIf, sDrop, sNil, sBreak, sCont, sApp, sSetAt, setEnd, sAug, sAsg, sPar, mVar, mSee, mFrz, mTake, mC, mUn, mOp, mNil, mCons, mCall, mCallL, mTup, mLst, mView, mOwn, mFz, mTest, mAnd, mOr, mNot, mIf, mAndV, mOrV, mNotV, mChain, mAt, qSee, qFz, qNew, oNone, oSome, rNil, rSlot, rFz, mCall0, mCall1, oneSlot, noSlot, treesOf, SD.tree, SD.put, SD.putFz, tgN, tgNil, tgCons, tgT, ER.bind, ER.opt, ER.stm, Fl.seq, OT.view, OT.views, OT.items, fzOf, iLst, iTuP, iRange1, iRange2, iZip2, iEnumL, dIx, atI, ixN, dAdd, dSub, dNeg, dLt, dLe, dGt, dGe, dIsN, dNotN, isNonD, dEq, dNe, eqB_int, eqB_str, eqB_bl, eq_2, eq_3, dLen, dIsi, D.isA, tyName, dMod, dMax, dMin, mAtS, mBm, D.isL, D.isS, d1, d2]
  exact if_ne hv rfl n2 _
theorem fine_body {ns : List Int} {k : Int} {t b o : S} {ps : List (Int × Int)} (hp : PsOk ps) : ∃ o', sSeq (m_law_10 cs) (m_law_12 cs) (bS ns k t (.ow (.fz (WD ps))) b o .un) = .nx (bS ns k t (.ow (.fz (WD ps))) b o' .un) := by
  have hl := hp.len
  have e60 : dPow (.int 10) (.int 60) = some (.int 1000000000000000000000000000000000000000000000000000000000000) := p10 (k := 60) (by decide)
  have q60 : Rp (.int 1000000000000000000000000000000000000000000000000000000000000) 6 4900000 := rp_mono (rp_int (by decide +kernel)) (by decide) (by decide)
  have q61 : Rp (.int (0 - 1000000000000000000000000000000000000000000000000000000000000)) 6 4900000 := rp_mono (rp_int (by decide +kernel)) (by decide) (by decide)
  have r1 := rp_small (rp_mono (rp_W hp) (by decide) (by decide)) (by decide) (by decide) rp_0
  have r2 := rp_small (rp_mono (rp_W psok_nil) (by decide) (by decide)) (by decide) (by decide) q60
  have r3 := rp_small (rp_mono (rp_W hp) (by decide) (by decide)) (by decide) (by decide) q61
  have hd : ∀ i ∈ ([0, 1, 2] : List Int), i = 0 ∨ i = 1 ∨ i = 2 := fun i hi => by simpa using hi
  have f1 := fun i hi => told_fine cs hp.lt (by omega) r1 (hd i hi)
  have f2 := fun i hi => told_fine cs psok_nil.lt (by decide) r2 (hd i hi)
  have f3 := told_fine cs hp.lt (by omega) r3 (door := 2) (by simp)
  have e0 : WD [] = .lst [] := rfl
  rw [e0] at f2
  have c1 : m_law_c1 cs (bS ns k t (.ow (.fz (WD ps))) b o .un) = .ok (.ol ((([0, 1, 2] : List Int).map fun _ => D.str "fine").map .fz)) (bS ns k t (.ow (.fz (WD ps))) b o .un) :=
    mComp_map ([0, 1, 2] : List Int) D.int (fun _ => .str "fine") rfl (by decide) fun i hi => ⟨bS ns k t (.ow (.fz (WD ps))) b o (.ow (.fz (.int i))), rfl, rfl, by
      have := f1 i hi
      simp [bS, -List.map_map, -List.map_take, -List.map_drop, -List.map_append, -List.map_reverse, asDef, entry, slotsOf, sSeq, sSet, sRet, sIf, sDrop, sNil, sBreak, sCont, sApp, sSetAt, setEnd, sAug, sAsg, sPar, mVar, mSee, mFrz, mTake, mC, mUn, mOp, mNil, mCons, mCall, mCallL, mTup, mLst, mView, mOwn, mFz, mTest, mAnd, mOr, mNot, mIf, mAndV, mOrV, mNotV, mChain, mAt, qSee, qFz, qNew, oNone, oSome, rNil, rSlot, rFz, mCall0, mCall1, oneSlot, noSlot, treesOf, SD.tree, SD.put, SD.putFz, tgN, tgNil, tgCons, tgT, ER.bind, ER.opt, ER.stm, Fl.seq, OT.view, OT.views, OT.items, fzOf, iLst, iTuP, iRange1, iRange2, iZip2, iEnumL, dIx, atI, ixN, dAdd, dSub, dNeg, dLt, dLe, dGt, dGe, dIsN, dNotN, isNonD, dEq, dNe, eqB_int, eqB_str, eqB_bl, eq_2, eq_3, dLen, dIsi, D.isA, tyName, dMod, dMax, dMin, mAtS, mBm, D.isL, D.isS, this]⟩
  have c2 : m_law_c2 cs (bS ns k t (.ow (.fz (WD ps))) b o .un) = .ok (.ol ((([0, 1, 2] : List Int).map fun _ => D.str "fine").map .fz)) (bS ns k t (.ow (.fz (WD ps))) b o .un) :=
    mComp_map ([0, 1, 2] : List Int) D.int (fun _ => .str "fine") rfl (by decide) fun i hi => ⟨bS ns k t (.ow (.fz (WD ps))) b o (.ow (.fz (.int i))), rfl, rfl, by
      have := f2 i hi
      simp [bS, -List.map_map, -List.map_take, -List.map_drop, -List.map_append, -List.map_reverse, asDef, entry, slotsOf, sSeq, sSet, sRet, sIf, sDrop, sNil, sBreak, sCont, sApp, sSetAt, setEnd, sAug, sAsg, sPar, mVar, mSee, mFrz, mTake, mC, mUn, mOp, mNil, mCons, mCall, mCallL, mTup, mLst, mView, mOwn, mFz, mTest, mAnd, mOr, mNot, mIf, mAndV, mOrV, mNotV, mChain, mAt, qSee, qFz, qNew, oNone, oSome, rNil, rSlot, rFz, mCall0, mCall1, oneSlot, noSlot, treesOf, SD.tree, SD.put, SD.putFz, tgN, tgNil, tgCons, tgT, ER.bind, ER.opt, ER.stm, Fl.seq, OT.view, OT.views, OT.items, fzOf, iLst, iTuP, iRange1, iRange2, iZip2, iEnumL, dIx, atI, ixN, dAdd, dSub, dNeg, dLt, dLe, dGt, dGe, dIsN, dNotN, isNonD, dEq, dNe, eqB_int, eqB_str, eqB_bl, eq_2, eq_3, dLen, dIsi, D.isA, tyName, dMod, dMax, dMin, mAtS, mBm, D.isL, D.isS, this, e60]⟩
  have s10 : m_law_10 cs (bS ns k t (.ow (.fz (WD ps))) b o .un) = .nx (bS ns k t (.ow (.fz (WD ps))) b (.ow (.fz (.lst [.str "fine", .str "fine", .str "fine", .str "fine", .str "fine", .str "fine"]))) .un) := by
    simp only [m_law_10, sSet, mFz, mOwn, mView, mCat, new_do c1, new_do c2, ER.bind, ER.stm]
    rfl
  have s12 : m_law_12 cs (bS ns k t (.ow (.fz (WD ps))) b (.ow (.fz (.lst [.str "fine", .str "fine", .str "fine", .str "fine", .str "fine", .str "fine"]))) .un) = .nx (bS ns k t (.ow (.fz (WD ps))) b (.ow (.fz (.lst [.str "fine", .str "fine", .str "fine", .str "fine", .str "fine", .str "fine"]))) .un) := by
    have y : mLst (mCons (mView (mCall0 (m__law_told cs) (mCons (mC (.int 2)) (mCons (mVar 3) (mCons (mOp dSub (mC (.int 0)) (mOp dPow (mC (.int 10)) (mC (.int 60)))) (mNil)))))) (mNil)) (bS ns k t (.ow (.fz (WD ps))) b (.ow (.fz (.lst [.str "fine", .str "fine", .str "fine", .str "fine", .str "fine", .str "fine"]))) .un) = .ok (.ol (([.str "fine"] : List D).map .fz)) (bS ns k t (.ow (.fz (WD ps))) b (.ow (.fz (.lst [.str "fine", .str "fine", .str "fine", .str "fine", .str "fine", .str "fine"]))) .un) := by
      have e : mOp dSub (mC (.int 0)) (mOp dPow (mC (.int 10)) (mC (.int 60))) (bS ns k t (.ow (.fz (WD ps))) b (.ow (.fz (.lst [.str "fine", .str "fine", .str "fine", .str "fine", .str "fine", .str "fine"]))) .un) = .ok (.int (0 - 1000000000000000000000000000000000000000000000000000000000000)) (bS ns k t (.ow (.fz (WD ps))) b (.ow (.fz (.lst [.str "fine", .str "fine", .str "fine", .str "fine", .str "fine", .str "fine"]))) .un) := by
        simp only [mOp, mC, ER.bind, e60, ER.opt]
        rfl
      have v3 : mVar 3 (bS ns k t (.ow (.fz (WD ps))) b (.ow (.fz (.lst [.str "fine", .str "fine", .str "fine", .str "fine", .str "fine", .str "fine"]))) .un) = .ok (WD ps) (bS ns k t (.ow (.fz (WD ps))) b (.ow (.fz (.lst [.str "fine", .str "fine", .str "fine", .str "fine", .str "fine", .str "fine"]))) .un) := rfl
      simp only [mLst, mView, mCall0, mCons, e, v3, mC, mNil, ER.bind, List.map_cons, List.map_nil, f3]
      rfl
    have z : qFz (mVar 5) (bS ns k t (.ow (.fz (WD ps))) b (.ow (.fz (.lst [.str "fine", .str "fine", .str "fine", .str "fine", .str "fine", .str "fine"]))) .un) = .ok [.str "fine", .str "fine", .str "fine", .str "fine", .str "fine", .str "fine"] (bS ns k t (.ow (.fz (WD ps))) b (.ow (.fz (.lst [.str "fine", .str "fine", .str "fine", .str "fine", .str "fine", .str "fine"]))) .un) := rfl
    have w : mView (mCat (qFz (mVar 5)) (qNew (mLst (mCons (mView (mCall0 (m__law_told cs) (mCons (mC (.int 2)) (mCons (mVar 3) (mCons (mOp dSub (mC (.int 0)) (mOp dPow (mC (.int 10)) (mC (.int 60)))) (mNil)))))) (mNil))))) (bS ns k t (.ow (.fz (WD ps))) b (.ow (.fz (.lst [.str "fine", .str "fine", .str "fine", .str "fine", .str "fine", .str "fine"]))) .un) = .ok (.lst [.str "fine", .str "fine", .str "fine", .str "fine", .str "fine", .str "fine", .str "fine"]) (bS ns k t (.ow (.fz (WD ps))) b (.ow (.fz (.lst [.str "fine", .str "fine", .str "fine", .str "fine", .str "fine", .str "fine"]))) .un) := by
      simp only [mView, mCat, z, new_do y, ER.bind]
      rfl
    exact if_ne w rfl n7 _
  exact ⟨_, seq_nx s10 s12⟩
theorem round_ok (hc : CsOk cs) (ns : List Int) (k : Nat) (hk : k < 1000) (t g b o : S) : ∃ t' g' b' o', m_law_b3 cs (bS ns k t g b o .un) = .nx (bS ns k t' g' b' o' .un) := by
  obtain ⟨t1, k1, q1⟩ := tank_ok cs ns k hk
  obtain ⟨ps, t2, hp, k2, q2⟩ := some_ok cs (most := 30) k1 (by decide) (by decide) (by decide)
  obtain ⟨bads, t3, hb, hbl, k3, q3⟩ := no_ok cs k2 (by decide) hp
  have s1 : m_law_1 cs (bS ns k t g b o .un) = .nx (bS ns k (.ow t1) g b o .un) := by
    simp [m_law_1, bS, -List.map_map, -List.map_take, -List.map_drop, -List.map_append, -List.map_reverse, asDef, entry, slotsOf, sSeq, sSet, sRet, sIf, sDrop, sNil, sBreak, sCont, sApp, sSetAt, setEnd, sAug, sAsg, sPar, mVar, mSee, mFrz, mTake, mC, mUn, mOp, mNil, mCons, mCall, mCallL, mTup, mLst, mView, mOwn, mFz, mTest, mAnd, mOr, mNot, mIf, mAndV, mOrV, mNotV, mChain, mAt, qSee, qFz, qNew, oNone, oSome, rNil, rSlot, rFz, mCall0, mCall1, oneSlot, noSlot, treesOf, SD.tree, SD.put, SD.putFz, tgN, tgNil, tgCons, tgT, ER.bind, ER.opt, ER.stm, Fl.seq, OT.view, OT.views, OT.items, fzOf, iLst, iTuP, iRange1, iRange2, iZip2, iEnumL, dIx, atI, ixN, dAdd, dSub, dNeg, dLt, dLe, dGt, dGe, dIsN, dNotN, isNonD, dEq, dNe, eqB_int, eqB_str, eqB_bl, eq_2, eq_3, dLen, dIsi, D.isA, tyName, dMod, dMax, dMin, mAtS, mBm, D.isL, D.isS, q1]
  have s2 : m_law_2 cs (bS ns k (.ow t1) g b o .un) = .nx (bS ns k (.ow t2) (.ow (.fz (WD ps))) b o .un) := by
    have e : OT.views ((ps.map P2).map .fz) = ps.map P2 := views_fz _
    obtain ⟨x, y, z, et, _⟩ := id k1
    subst et
    simp [m_law_2, bS, -List.map_map, -List.map_take, -List.map_drop, -List.map_append, -List.map_reverse, asDef, entry, slotsOf, sSeq, sSet, sRet, sIf, sDrop, sNil, sBreak, sCont, sApp, sSetAt, setEnd, sAug, sAsg, sPar, mVar, mSee, mFrz, mTake, mC, mUn, mOp, mNil, mCons, mCall, mCallL, mTup, mLst, mView, mOwn, mFz, mTest, mAnd, mOr, mNot, mIf, mAndV, mOrV, mNotV, mChain, mAt, qSee, qFz, qNew, oNone, oSome, rNil, rSlot, rFz, mCall0, mCall1, oneSlot, noSlot, treesOf, SD.tree, SD.put, SD.putFz, tgN, tgNil, tgCons, tgT, ER.bind, ER.opt, ER.stm, Fl.seq, OT.view, OT.views, OT.items, fzOf, iLst, iTuP, iRange1, iRange2, iZip2, iEnumL, dIx, atI, ixN, dAdd, dSub, dNeg, dLt, dLe, dGt, dGe, dIsN, dNotN, isNonD, dEq, dNe, eqB_int, eqB_str, eqB_bl, eq_2, eq_3, dLen, dIsi, D.isA, tyName, dMod, dMax, dMin, mAtS, mBm, D.isL, D.isS, q2, ILs, e, WD]
  have hit : iLst (mView (mCall1 (m__law_no_intervals cs) (rSlot 2 (rFz (mVar 3) (rNil))))) (bS ns k (.ow t2) (.ow (.fz (WD ps))) b o .un) = .ok (bads.map fun d => d) (bS ns k (.ow t3) (.ow (.fz (WD ps))) b o .un) := by
    have e : OT.views (bads.map .fz) = bads := views_fz _
    obtain ⟨x, y, z, et, _⟩ := id k2
    subst et
    simp [bS, -List.map_map, -List.map_take, -List.map_drop, -List.map_append, -List.map_reverse, asDef, entry, slotsOf, sSeq, sSet, sRet, sIf, sDrop, sNil, sBreak, sCont, sApp, sSetAt, setEnd, sAug, sAsg, sPar, mVar, mSee, mFrz, mTake, mC, mUn, mOp, mNil, mCons, mCall, mCallL, mTup, mLst, mView, mOwn, mFz, mTest, mAnd, mOr, mNot, mIf, mAndV, mOrV, mNotV, mChain, mAt, qSee, qFz, qNew, oNone, oSome, rNil, rSlot, rFz, mCall0, mCall1, oneSlot, noSlot, treesOf, SD.tree, SD.put, SD.putFz, tgN, tgNil, tgCons, tgT, ER.bind, ER.opt, ER.stm, Fl.seq, OT.view, OT.views, OT.items, fzOf, iLst, iTuP, iRange1, iRange2, iZip2, iEnumL, dIx, atI, ixN, dAdd, dSub, dNeg, dLt, dLe, dGt, dGe, dIsN, dNotN, isNonD, dEq, dNe, eqB_int, eqB_str, eqB_bl, eq_2, eq_3, dLen, dIsi, D.isA, tyName, dMod, dMax, dMin, mAtS, mBm, D.isL, D.isS, q3, e]
  obtain ⟨sd6, s6, b6, o6, i6⟩ := sFor_inv (it := iLst (mView (mCall1 (m__law_no_intervals cs) (rSlot 2 (rFz (mVar 3) (rNil)))))) (g := tgN 4) (body := m_law_b1 cs) (sd := bS ns k (.ow t2) (.ow (.fz (WD ps))) b o .un) bads (fun d => d)
    (fun r sd => ∃ b' o', sd = bS ns k (.ow t3) (.ow (.fz (WD ps))) b' o' .un ∧ ∀ d ∈ r, d ∈ bads) hit ⟨b, o, rfl, fun d h => h⟩ fun d r sd ⟨b', o', e, hr⟩ => by
      subst e
      obtain ⟨h1, h2⟩ := hb d (hr d List.mem_cons_self)
      obtain ⟨o2, hbd⟩ := bad_body cs hc (ns := ns) (k := k) (t := .ow t3) (g := .ow (.fz (WD ps))) (o := o') (x := .un) h1 h2
      exact ⟨_, _, rfl, .inl hbd, _, _, rfl, fun e he => hr e (List.mem_cons_of_mem _ he)⟩
  obtain ⟨rfl, _⟩ := i6
  have s6 : m_law_6 cs (bS ns k (.ow t2) (.ow (.fz (WD ps))) b o .un) = .nx (bS ns k (.ow t3) (.ow (.fz (WD ps))) b6 o6 .un) := s6
  have hit9 : iLst (mView (mLst (mCons (mC .non) (mCons (mC (.bl true)) (mCons (mC (.bl false)) (mCons (mC (.str "0")) (mCons (mC (.str "")) (mCons (mTup (mCons (mC (.int 0)) (mNil))) (mCons (mView (mLst (mCons (mC (.int 0)) (mNil)))) (mCons (mView (mLst (mNil))) (mCons (mDict0) (mCons (mTup (mCons (mC (.int 0)) (mCons (mC (.int 1)) (mNil)))) (mNil))))))))))))) (bS ns k (.ow t3) (.ow (.fz (WD ps))) b6 o6 .un) = .ok (places.map fun d => d) (bS ns k (.ow t3) (.ow (.fz (WD ps))) b6 o6 .un) := by
    simp [bS, -List.map_map, -List.map_take, -List.map_drop, -List.map_append, -List.map_reverse, asDef, entry, slotsOf, sSeq, sSet, sRet, sIf, sDrop, sNil, sBreak, sCont, sApp, sSetAt, setEnd, sAug, sAsg, sPar, mVar, mSee, mFrz, mTake, mC, mUn, mOp, mNil, mCons, mCall, mCallL, mTup, mLst, mView, mOwn, mFz, mTest, mAnd, mOr, mNot, mIf, mAndV, mOrV, mNotV, mChain, mAt, qSee, qFz, qNew, oNone, oSome, rNil, rSlot, rFz, mCall0, mCall1, oneSlot, noSlot, treesOf, SD.tree, SD.put, SD.putFz, tgN, tgNil, tgCons, tgT, ER.bind, ER.opt, ER.stm, Fl.seq, OT.view, OT.views, OT.items, fzOf, iLst, iTuP, iRange1, iRange2, iZip2, iEnumL, dIx, atI, ixN, dAdd, dSub, dNeg, dLt, dLe, dGt, dGe, dIsN, dNotN, isNonD, dEq, dNe, eqB_int, eqB_str, eqB_bl, eq_2, eq_3, dLen, dIsi, D.isA, tyName, dMod, dMax, dMin, mAtS, mBm, D.isL, D.isS, mDict0, places]
  obtain ⟨sd9, s9, b9, i9, _⟩ := sFor_inv (g := tgN 4) (body := m_law_b2 cs) (sd := bS ns k (.ow t3) (.ow (.fz (WD ps))) b6 o6 .un) places (fun d => d)
    (fun r sd => ∃ b', sd = bS ns k (.ow t3) (.ow (.fz (WD ps))) b' o6 .un ∧ ∀ d ∈ r, d ∈ places) hit9 ⟨b6, rfl, fun d h => h⟩ fun d r sd ⟨b', e, hr⟩ => by
      subst e
      obtain ⟨h1, h2⟩ := places_no d (hr d List.mem_cons_self)
      exact ⟨_, _, rfl, .inl (place_body cs hc (ns := ns) (k := k) (t := .ow t3) (o := o6) (x := .un) hp h1 h2), _, rfl, fun e he => hr e (List.mem_cons_of_mem _ he)⟩
  subst i9
  have s9 : m_law_9 cs (bS ns k (.ow t3) (.ow (.fz (WD ps))) b6 o6 .un) = .nx (bS ns k (.ow t3) (.ow (.fz (WD ps))) b9 o6 .un) := s9
  obtain ⟨o10, s10⟩ := fine_body cs (ns := ns) (k := k) (t := .ow t3) (b := b9) (o := o6) hp
  refine ⟨.ow t3, .ow (.fz (WD ps)), b9, o10, ?_⟩
  unfold m_law_b3
  exact seq_nx s1 (seq_nx s2 (seq_nx s6 (seq_nx s9 s10)))
theorem law_true (hc : CsOk cs) (ns : List Int) (hl : ns.length ≤ 63) (hb : ∀ z ∈ ns, Builtin.Int.intBits z ≤ 1048576) : ∃ sd, m_law cs [.fz (.scr ns)] = .ok (.fz (.bl true)) sd := by
  obtain ⟨m, hm, hm1, hm2⟩ : ∃ m : Int, m = max 1 (min 6 (ns.length : Int)) ∧ 1 ≤ m ∧ m ≤ 6 := ⟨_, rfl, by omega, by omega⟩
  let s0 : SD := ⟨[.ow (.fz (.scr ns)), .un, .un, .un, .un, .un, .un], [.fz (.scr ns)]⟩
  have hit : iRange1 (mCons (mCall dMax (mCons (mC (.int 1)) (mCons (mCall dMin (mCons (mC (.int 6)) (mCons (mCall dLen (mCons (mVar 0) (mNil))) (mNil)))) (mNil)))) (mNil)) s0 = .ok ((List.range m.toNat).map fun i : Nat => D.int (0 + (i : Int))) s0 := by
    have e : mCons (mCall dMax (mCons (mC (.int 1)) (mCons (mCall dMin (mCons (mC (.int 6)) (mCons (mCall dLen (mCons (mVar 0) (mNil))) (mNil)))) (mNil)))) (mNil) s0 = .ok [.int m] s0 := by
      simp [s0, -List.map_map, -List.map_take, -List.map_drop, -List.map_append, -List.map_reverse, asDef, entry, slotsOf, sSeq, sSet, sRet, sIf, sDrop, sNil, sBreak, sCont, sApp, sSetAt, setEnd, sAug, sAsg, sPar, mVar, mSee, mFrz, mTake, mC, mUn, mOp, mNil, mCons, mCall, mCallL, mTup, mLst, mView, mOwn, mFz, mTest, mAnd, mOr, mNot, mIf, mAndV, mOrV, mNotV, mChain, mAt, qSee, qFz, qNew, oNone, oSome, rNil, rSlot, rFz, mCall0, mCall1, oneSlot, noSlot, treesOf, SD.tree, SD.put, SD.putFz, tgN, tgNil, tgCons, tgT, ER.bind, ER.opt, ER.stm, Fl.seq, OT.view, OT.views, OT.items, fzOf, iLst, iTuP, iRange1, iRange2, iZip2, iEnumL, dIx, atI, ixN, dAdd, dSub, dNeg, dLt, dLe, dGt, dGe, dIsN, dNotN, isNonD, dEq, dNe, eqB_int, eqB_str, eqB_bl, eq_2, eq_3, dLen, dIsi, D.isA, tyName, dMod, dMax, dMin, mAtS, mBm, D.isL, D.isS, hm]
    have hr : -(2 ^ 62) ≤ m ∧ m < 2 ^ 62 := ⟨by omega, by omega⟩
    unfold iRange1
    rw [e]
    show (if -(2 ^ 62) ≤ m ∧ m < 2 ^ 62 then ER.ok (rangeD 0 m.toNat) s0 else .bad) = _
    rw [if_pos hr]
    rfl
  obtain ⟨sd', w, x⟩ := sFor_inv (g := tgN 1) (body := m_law_b3 cs) (sd := s0) (List.range m.toNat) (fun i : Nat => D.int (0 + (i : Int)))
    (fun r sd => (∃ k t g b o, sd = ⟨[.ow (.fz (.scr ns)), k, t, g, b, o, .un], [.fz (.scr ns)]⟩) ∧ ∀ i ∈ r, i < m.toNat) hit ⟨⟨_, _, _, _, _, rfl⟩, fun i h => List.mem_range.mp h⟩ fun i r sd ⟨⟨k, t, g, b, o, e⟩, hr⟩ => by
      subst e
      have hi := hr i List.mem_cons_self
      obtain ⟨t', g', b', o', h⟩ := round_ok cs hc ns i (by omega) t g b o
      refine ⟨bS ns i t g b o .un, _, ?_, .inl h, ⟨_, _, _, _, _, rfl⟩, fun j hj => hr j (List.mem_cons_of_mem _ hj)⟩
      rw [Int.zero_add]
      rfl
  obtain ⟨⟨k, t, g, b, o, e⟩, _⟩ := x
  subst e
  have s13 : m_law_13 cs s0 = .nx ⟨[.ow (.fz (.scr ns)), k, t, g, b, o, .un], [.fz (.scr ns)]⟩ := w
  have ent : entry 7 [.fz (.scr ns)] = s0 := rfl
  refine ⟨⟨[], [.fz (.scr ns)]⟩, ?_⟩
  simp only [m_law, asDef, ent, sSeq, s13, Fl.seq]
  rfl
theorem walk {l : PySem.W.OpenLaw} {q : Program} {loose : List Str} {XP : (Str → Option Value) → Heap → Prop} {YP : World → Heap → Prop} {d : DefRec} {K : Params → PySem.W.Frag} (hn : l.most = some 63) (hdf : d.params.defaults = [])
    (hY : ∀ (w : World) (h : Heap), YP w h → (K w.params).In h)
    (F : ∀ (w : World) (mg : Str → Option Value) (fa : Addr) (h : Heap), (K w.params).In h → h.Ns mainGlobals mg → mg d.name = some (.ref fa) →
      ∃ fd : FuncData, (∀ (s : Shared) (u : Value), BindsTo s fd ⟨[u], []⟩ [("script", u)]) ∧ ∀ base : Heap, (K w.params).In base → base.Ns mainGlobals mg → ∃ cs : Nat → Addr, CsOk cs ∧ FnG l.prog w (K w.params) mg base (L2.CX l.prog w) 6 fa fd ["script"] (spD (K w.params) 1 (m_law cs))) :
    PySem.W.WalkO q loose XP YP l.row.toRowW d [] (fun f vs => PySem.call f vs) :=
  walk_G (n := 63) (k := 6) (x := "script") (sp := fun w vs H Q E => (∀ cs, CsOk cs → spD (K w.params) 1 (m_law cs) vs H Q E)) hn (by decide) hdf ⟨⟨rfl, by decide, by decide⟩, rfl⟩ hY (fun w mg fa h a b c => by
    obtain ⟨fd, h1, h2⟩ := F w mg fa h a b c
    refine ⟨fd, h1, fun base hb hg => ?_⟩
    obtain ⟨cs, hc, h3⟩ := h2 base hb hg
    exact ⟨fun vs H Q E hs => h3.len vs H Q E (hs cs hc), fun A out s H args us vs Q E r e0 bd rel hs => h3.run A out s H args us vs Q E r e0 bd rel (hs cs hc)⟩) fun w H a ns hl hb hS cs hc => law_sp hS (law_true cs hc ns hl hb)
end Lw
open PySem PySem.W PyProof.Rows
set_option maxRecDepth 100000 in
set_option maxHeartbeats 0 in
theorem PySem.Challenge.cw_plotpens_k22_interval_errors_holds : PySem.Challenge.rw_plotpens_k22_interval_errors.Holds := by
  w_on; o_law; x_head; (case hw => w_witness2)
  k_fill
  refine Lw.walk (l := PySem.Challenge.rw_plotpens_k22_interval_errors) rfl rfl (fun w h Y => PySem.W.kIn_of Y) ?F
  case F =>
    intro w mg fa h KX G hmg
    refine' Lw.all_mk KX G hmg ?g_PlotError ?g_InvalidText ?g_InvalidSource ?g_TooDeep ?g_TooLarge ?g_InvalidProgram ?g_InvalidTimes ?g_InvalidIndex ?g_InvalidLetter ?g_InvalidName ?g_HasPen ?g_InvalidMotion ?g_InvalidPose ?g_InvalidPoint ?g_InvalidEdge ?g_InvalidPicture ?g_InvalidTurn ?g_InvalidFace ?g_InvalidFaces ?g_NotEven ?g_NotClosed ?g_InvalidIntervals ?g_InvalidPlace ?g_NotDrifting ?g_InvalidCount ?g_NoSteps ?g_InvalidOperation ?g_Nothing ?g_InvalidArt ?g_InvalidCommand ?a1 ?l1 ?c1 ?k1 ?a2 ?l2 ?c2 ?k2 ?a3 ?l3 ?c3 ?k3 ?a4 ?l4 ?c4 ?k4 ?a5 ?l5 ?c5 ?k5 ?a6 ?l6 ?c6 ?k6 ?a7 ?l7 ?c7 ?k7 ?a8 ?l8 ?c8 ?k8 ?a9 ?l9 ?c9 ?k9 ?a10 ?l10 ?c10 ?k10 ?a11 ?l11 ?c11 ?k11 ?a12 ?l12 ?c12 ?k12 ?a13 ?l13 ?c13 ?k13 ?a14 ?l14 ?c14 ?k14 ?a15 ?l15 ?c15 ?k15 ?a16 ?l16 ?c16 ?k16 ?a17 ?l17 ?c17 ?k17 ?nd ?z_ValueError ?z_all ?z_bool ?z_int ?z_isinstance ?z_len ?z_list ?z_max ?z_min ?z_range ?z_repr ?z_sorted ?z_sum ?z_tuple ?z_zip ?sm ?xq_InvalidIntervals ?xk_InvalidIntervals ?xb_InvalidIntervals ?xt_InvalidIntervals ?xq_InvalidPlace ?xk_InvalidPlace ?xb_InvalidPlace ?xt_InvalidPlace ?xs ?xz ?xg_InvalidIntervals ?xn_InvalidIntervals ?xd_InvalidIntervals ?xa_InvalidIntervals ?xo_InvalidIntervals ?xv_InvalidIntervals ?xg_InvalidPlace ?xn_InvalidPlace ?xd_InvalidPlace ?xa_InvalidPlace ?xo_InvalidPlace ?xv_InvalidPlace ?yc_HasPen ?yt_HasPen ?ys_HasPen ?yc_InvalidArt ?yt_InvalidArt ?ys_InvalidArt ?yc_InvalidCommand ?yt_InvalidCommand ?ys_InvalidCommand ?yc_InvalidCount ?yt_InvalidCount ?ys_InvalidCount ?yc_InvalidFace ?yt_InvalidFace ?ys_InvalidFace ?yc_InvalidFaces ?yt_InvalidFaces ?ys_InvalidFaces ?yc_InvalidLetter ?yt_InvalidLetter ?ys_InvalidLetter ?yc_InvalidName ?yt_InvalidName ?ys_InvalidName ?yc_InvalidOperation ?yt_InvalidOperation ?ys_InvalidOperation ?yc_InvalidPicture ?yt_InvalidPicture ?ys_InvalidPicture ?yc_InvalidSource ?yt_InvalidSource ?ys_InvalidSource ?yc_InvalidText ?yt_InvalidText ?ys_InvalidText ?yc_InvalidTurn ?yt_InvalidTurn ?ys_InvalidTurn ?yc_InvalidProgram ?yt_InvalidProgram ?ys_InvalidProgram ?yc_InvalidTimes ?yt_InvalidTimes ?ys_InvalidTimes ?yc_InvalidIndex ?yt_InvalidIndex ?ys_InvalidIndex ?yc_NoSteps ?yt_NoSteps ?ys_NoSteps ?yc_NotClosed ?yt_NotClosed ?ys_NotClosed ?yc_Nothing ?yt_Nothing ?ys_Nothing ?yc_TooDeep ?yt_TooDeep ?ys_TooDeep ?yc_InvalidMotion ?yt_InvalidMotion ?ys_InvalidMotion ?yc_InvalidPose ?yt_InvalidPose ?ys_InvalidPose ?yc_InvalidPoint ?yt_InvalidPoint ?ys_InvalidPoint ?yc_InvalidEdge ?yt_InvalidEdge ?ys_InvalidEdge ?yc_InvalidIntervals ?yt_InvalidIntervals ?ys_InvalidIntervals ?yc_NotEven ?yt_NotEven ?ys_NotEven ?yc_InvalidPlace ?yt_InvalidPlace ?ys_InvalidPlace ?yc_NotDrifting ?yt_NotDrifting ?ys_NotDrifting ?yc_TooLarge ?yt_TooLarge ?ys_TooLarge ?yp_InvalidIntervals_HasPen ?yp_InvalidIntervals_InvalidArt ?yp_InvalidIntervals_InvalidCommand ?yp_InvalidIntervals_InvalidCount ?yp_InvalidIntervals_InvalidFace ?yp_InvalidIntervals_InvalidFaces ?yp_InvalidIntervals_InvalidLetter ?yp_InvalidIntervals_InvalidName ?yp_InvalidIntervals_InvalidOperation ?yp_InvalidIntervals_InvalidPicture ?yp_InvalidIntervals_InvalidSource ?yp_InvalidIntervals_InvalidText ?yp_InvalidIntervals_InvalidTurn ?yp_InvalidIntervals_InvalidProgram ?yp_InvalidIntervals_InvalidTimes ?yp_InvalidIntervals_InvalidIndex ?yp_InvalidIntervals_NoSteps ?yp_InvalidIntervals_NotClosed ?yp_InvalidIntervals_Nothing ?yp_InvalidIntervals_TooDeep ?yp_InvalidIntervals_InvalidMotion ?yp_InvalidIntervals_InvalidPose ?yp_InvalidIntervals_InvalidPoint ?yp_InvalidIntervals_InvalidEdge ?yp_InvalidIntervals_NotEven ?yp_InvalidIntervals_InvalidPlace ?yp_InvalidIntervals_NotDrifting ?yp_InvalidIntervals_TooLarge ?yp_InvalidPlace_HasPen ?yp_InvalidPlace_InvalidArt ?yp_InvalidPlace_InvalidCommand ?yp_InvalidPlace_InvalidCount ?yp_InvalidPlace_InvalidFace ?yp_InvalidPlace_InvalidFaces ?yp_InvalidPlace_InvalidLetter ?yp_InvalidPlace_InvalidName ?yp_InvalidPlace_InvalidOperation ?yp_InvalidPlace_InvalidPicture ?yp_InvalidPlace_InvalidSource ?yp_InvalidPlace_InvalidText ?yp_InvalidPlace_InvalidTurn ?yp_InvalidPlace_InvalidProgram ?yp_InvalidPlace_InvalidTimes ?yp_InvalidPlace_InvalidIndex ?yp_InvalidPlace_NoSteps ?yp_InvalidPlace_NotClosed ?yp_InvalidPlace_Nothing ?yp_InvalidPlace_TooDeep ?yp_InvalidPlace_InvalidMotion ?yp_InvalidPlace_InvalidPose ?yp_InvalidPlace_InvalidPoint ?yp_InvalidPlace_InvalidEdge ?yp_InvalidPlace_InvalidIntervals ?yp_InvalidPlace_NotEven ?yp_InvalidPlace_NotDrifting ?yp_InvalidPlace_TooLarge ?zd ?zb ?zt ?zp_InvalidIntervals ?zp_InvalidPlace
    (case g_PlotError => k_is); (case g_InvalidText => k_is); (case g_InvalidSource => k_is); (case g_TooDeep => k_is); (case g_TooLarge => k_is); (case g_InvalidProgram => k_is); (case g_InvalidTimes => k_is); (case g_InvalidIndex => k_is)
    (case g_InvalidLetter => k_is); (case g_InvalidName => k_is); (case g_HasPen => k_is); (case g_InvalidMotion => k_is); (case g_InvalidPose => k_is); (case g_InvalidPoint => k_is); (case g_InvalidEdge => k_is); (case g_InvalidPicture => k_is)
    (case g_InvalidTurn => k_is); (case g_InvalidFace => k_is); (case g_InvalidFaces => k_is); (case g_NotEven => k_is); (case g_NotClosed => k_is); (case g_InvalidIntervals => k_is); (case g_InvalidPlace => k_is); (case g_NotDrifting => k_is)
    (case g_InvalidCount => k_is); (case g_NoSteps => k_is); (case g_InvalidOperation => k_is); (case g_Nothing => k_is); (case g_InvalidArt => k_is); (case g_InvalidCommand => k_is); (case a1 => k_is); (case l1 => k_is)
    (case c1 => k_is); (case k1 => k_is); (case a2 => k_is); (case l2 => k_is); (case c2 => k_is); (case k2 => k_is); (case a3 => k_is); (case l3 => k_is)
    (case c3 => k_is); (case k3 => k_is); (case a4 => k_is); (case l4 => k_is); (case c4 => k_is); (case k4 => k_is); (case a5 => k_is); (case l5 => k_is)
    (case c5 => k_is); (case k5 => k_is); (case a6 => k_is); (case l6 => k_is); (case c6 => k_is); (case k6 => k_is); (case a7 => k_is); (case l7 => k_is)
    (case c7 => k_is); (case k7 => k_is); (case a8 => k_is); (case l8 => k_is); (case c8 => k_is); (case k8 => k_is); (case a9 => k_is); (case l9 => k_is)
    (case c9 => k_is); (case k9 => k_is); (case a10 => k_is); (case l10 => k_is); (case c10 => k_is); (case k10 => k_is); (case a11 => k_is); (case l11 => k_is)
    (case c11 => k_is); (case k11 => k_is); (case a12 => k_is); (case l12 => k_is); (case c12 => k_is); (case k12 => k_is); (case a13 => k_is); (case l13 => k_is)
    (case c13 => k_is); (case k13 => k_is); (case a14 => k_is); (case l14 => k_is); (case c14 => k_is); (case k14 => k_is); (case a15 => k_is); (case l15 => k_is)
    (case c15 => k_is); (case k15 => k_is); (case a16 => k_is); (case l16 => k_is); (case c16 => k_is); (case k16 => k_is); (case a17 => k_is); (case l17 => k_is)
    (case c17 => k_is); (case k17 => k_is); (case z_ValueError => k_is); (case z_all => k_is); (case z_bool => k_is); (case z_int => k_is); (case z_isinstance => k_is); (case z_len => k_is)
    (case z_list => k_is); (case z_max => k_is); (case z_min => k_is); (case z_range => k_is); (case z_repr => k_is); (case z_sorted => k_is); (case z_sum => k_is); (case z_tuple => k_is)
    (case z_zip => k_is); (case sm => k_is); (case xk_InvalidIntervals => k_is); (case xb_InvalidIntervals => k_is); (case xt_InvalidIntervals => k_is); (case xk_InvalidPlace => k_is); (case xb_InvalidPlace => k_is); (case xt_InvalidPlace => k_is)
    (case xs => k_is); (case xz => k_is); (case xg_InvalidIntervals => k_is); (case xn_InvalidIntervals => k_is); (case xd_InvalidIntervals => k_is); (case xa_InvalidIntervals => k_is); (case xo_InvalidIntervals => k_is); (case xv_InvalidIntervals => k_is)
    (case xg_InvalidPlace => k_is); (case xn_InvalidPlace => k_is); (case xd_InvalidPlace => k_is); (case xa_InvalidPlace => k_is); (case xo_InvalidPlace => k_is); (case xv_InvalidPlace => k_is); (case yc_HasPen => k_is); (case yt_HasPen => k_is)
    (case ys_HasPen => k_is); (case yc_InvalidArt => k_is); (case yt_InvalidArt => k_is); (case ys_InvalidArt => k_is); (case yc_InvalidCommand => k_is); (case yt_InvalidCommand => k_is); (case ys_InvalidCommand => k_is); (case yc_InvalidCount => k_is)
    (case yt_InvalidCount => k_is); (case ys_InvalidCount => k_is); (case yc_InvalidFace => k_is); (case yt_InvalidFace => k_is); (case ys_InvalidFace => k_is); (case yc_InvalidFaces => k_is); (case yt_InvalidFaces => k_is); (case ys_InvalidFaces => k_is)
    (case yc_InvalidLetter => k_is); (case yt_InvalidLetter => k_is); (case ys_InvalidLetter => k_is); (case yc_InvalidName => k_is); (case yt_InvalidName => k_is); (case ys_InvalidName => k_is); (case yc_InvalidOperation => k_is); (case yt_InvalidOperation => k_is)
    (case ys_InvalidOperation => k_is); (case yc_InvalidPicture => k_is); (case yt_InvalidPicture => k_is); (case ys_InvalidPicture => k_is); (case yc_InvalidSource => k_is); (case yt_InvalidSource => k_is); (case ys_InvalidSource => k_is); (case yc_InvalidText => k_is)
    (case yt_InvalidText => k_is); (case ys_InvalidText => k_is); (case yc_InvalidTurn => k_is); (case yt_InvalidTurn => k_is); (case ys_InvalidTurn => k_is); (case yc_InvalidProgram => k_is); (case yt_InvalidProgram => k_is); (case ys_InvalidProgram => k_is)
    (case yc_InvalidTimes => k_is); (case yt_InvalidTimes => k_is); (case ys_InvalidTimes => k_is); (case yc_InvalidIndex => k_is); (case yt_InvalidIndex => k_is); (case ys_InvalidIndex => k_is); (case yc_NoSteps => k_is); (case yt_NoSteps => k_is)
    (case ys_NoSteps => k_is); (case yc_NotClosed => k_is); (case yt_NotClosed => k_is); (case ys_NotClosed => k_is); (case yc_Nothing => k_is); (case yt_Nothing => k_is); (case ys_Nothing => k_is); (case yc_TooDeep => k_is)
    (case yt_TooDeep => k_is); (case ys_TooDeep => k_is); (case yc_InvalidMotion => k_is); (case yt_InvalidMotion => k_is); (case ys_InvalidMotion => k_is); (case yc_InvalidPose => k_is); (case yt_InvalidPose => k_is); (case ys_InvalidPose => k_is)
    (case yc_InvalidPoint => k_is); (case yt_InvalidPoint => k_is); (case ys_InvalidPoint => k_is); (case yc_InvalidEdge => k_is); (case yt_InvalidEdge => k_is); (case ys_InvalidEdge => k_is); (case yc_InvalidIntervals => k_is); (case yt_InvalidIntervals => k_is)
    (case ys_InvalidIntervals => k_is); (case yc_NotEven => k_is); (case yt_NotEven => k_is); (case ys_NotEven => k_is); (case yc_InvalidPlace => k_is); (case yt_InvalidPlace => k_is); (case ys_InvalidPlace => k_is); (case yc_NotDrifting => k_is)
    (case yt_NotDrifting => k_is); (case ys_NotDrifting => k_is); (case yc_TooLarge => k_is); (case yt_TooLarge => k_is); (case ys_TooLarge => k_is); (case yp_InvalidIntervals_HasPen => k_is); (case yp_InvalidIntervals_InvalidArt => k_is); (case yp_InvalidIntervals_InvalidCommand => k_is)
    (case yp_InvalidIntervals_InvalidCount => k_is); (case yp_InvalidIntervals_InvalidFace => k_is); (case yp_InvalidIntervals_InvalidFaces => k_is); (case yp_InvalidIntervals_InvalidLetter => k_is); (case yp_InvalidIntervals_InvalidName => k_is); (case yp_InvalidIntervals_InvalidOperation => k_is); (case yp_InvalidIntervals_InvalidPicture => k_is); (case yp_InvalidIntervals_InvalidSource => k_is)
    (case yp_InvalidIntervals_InvalidText => k_is); (case yp_InvalidIntervals_InvalidTurn => k_is); (case yp_InvalidIntervals_InvalidProgram => k_is); (case yp_InvalidIntervals_InvalidTimes => k_is); (case yp_InvalidIntervals_InvalidIndex => k_is); (case yp_InvalidIntervals_NoSteps => k_is); (case yp_InvalidIntervals_NotClosed => k_is); (case yp_InvalidIntervals_Nothing => k_is)
    (case yp_InvalidIntervals_TooDeep => k_is); (case yp_InvalidIntervals_InvalidMotion => k_is); (case yp_InvalidIntervals_InvalidPose => k_is); (case yp_InvalidIntervals_InvalidPoint => k_is); (case yp_InvalidIntervals_InvalidEdge => k_is); (case yp_InvalidIntervals_NotEven => k_is); (case yp_InvalidIntervals_InvalidPlace => k_is); (case yp_InvalidIntervals_NotDrifting => k_is)
    (case yp_InvalidIntervals_TooLarge => k_is); (case yp_InvalidPlace_HasPen => k_is); (case yp_InvalidPlace_InvalidArt => k_is); (case yp_InvalidPlace_InvalidCommand => k_is); (case yp_InvalidPlace_InvalidCount => k_is); (case yp_InvalidPlace_InvalidFace => k_is); (case yp_InvalidPlace_InvalidFaces => k_is); (case yp_InvalidPlace_InvalidLetter => k_is)
    (case yp_InvalidPlace_InvalidName => k_is); (case yp_InvalidPlace_InvalidOperation => k_is); (case yp_InvalidPlace_InvalidPicture => k_is); (case yp_InvalidPlace_InvalidSource => k_is); (case yp_InvalidPlace_InvalidText => k_is); (case yp_InvalidPlace_InvalidTurn => k_is); (case yp_InvalidPlace_InvalidProgram => k_is); (case yp_InvalidPlace_InvalidTimes => k_is)
    (case yp_InvalidPlace_InvalidIndex => k_is); (case yp_InvalidPlace_NoSteps => k_is); (case yp_InvalidPlace_NotClosed => k_is); (case yp_InvalidPlace_Nothing => k_is); (case yp_InvalidPlace_TooDeep => k_is); (case yp_InvalidPlace_InvalidMotion => k_is); (case yp_InvalidPlace_InvalidPose => k_is); (case yp_InvalidPlace_InvalidPoint => k_is)
    (case yp_InvalidPlace_InvalidEdge => k_is); (case yp_InvalidPlace_InvalidIntervals => k_is); (case yp_InvalidPlace_NotEven => k_is); (case yp_InvalidPlace_NotDrifting => k_is); (case yp_InvalidPlace_TooLarge => k_is); (case zd => k_is); (case zb => k_is); (case zt => k_is)
    (case zp_InvalidIntervals => k_is); (case zp_InvalidPlace => k_is)
    (case nd => decide)
    (case xq_InvalidIntervals => k_exc)
    (case xq_InvalidPlace => k_exc)
