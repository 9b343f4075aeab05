import PyProof.Rows.All
import Wide.All
import OpenK.AllK
import Wide.FinOn
import HandS.ForMost
import HandS.Exc
import HandS.TryOnly
import HandS.ExcOwn
import HandS.WordsExc
import HandS.CallSlots
import HandS.Wide
import HandS.IsInst
import HandS.SortRule
import HandS.SortInts
import HandS.EndBits
import HandS.TupAny
import HandS.Style
import HandS.Property
import HandS.SlotsOwn
import HandS.Star
import KE.KOpsOwn
import PyProof.InstNe
import PyProof.ReprRoads
import HandS.SetFor
import HandS.Strs
import HandS.Conv
import HandS.Text
import HandS.Rev
import HandS.WideBits
import HandS.RaiseMore
import HandS.TupLe
import PyProof.StrOps2
import HandS.MakeKwOnly
import HandS.ExcIs
import HandS.Deep
import HandS.GenList
import PyProof.ListStr
import HandS.ExcInit
import HandS.ExcField
import KE.KExcIs
import HandS.DictComp
import HandS.TupLen
import HandS.WordsDict
import HandS.StrMore
import HandS.More
import HandS.Small
import HandS.HeadHook3
import HandS.TupSets
import HandS.DictTup
import KE.KDictList
import HandS.Iter
import KE.DataMinMax
import PySem.Challenge.RW_plotpens_k45_pictures_made
set_option Elab.async false
set_option linter.all false
set_option maxRecDepth 100000
namespace DL
open PySem PySem.Spec L2
/-- a dict's key by its value -/
inductive DKey where
  | k (k : Key)
  | t (ks : List Key)
  deriving DecidableEq
/-- a value that nobody changes any more -/
inductive D where
  | non
  | bl (b : Bool)
  | int (i : Int)
  | str (x : Str)
  | ty (n : String)
  | cls (C : Addr)
  | tup (xs : List D)
  | ktu (xs : List D)
  | lst (xs : List D)
  | scr (ns : List Int)
  | dic (tk : Bool) (ks : List DKey) (vs : List D)
  | ins (C : Addr) (ns : List Str) (vs : List D)
  | exc (C : Addr) (ns : List Str) (vs : List D)
/-- an exception object of the class cls with the dict d, at a -/
noncomputable def ExT (cls : Value) (d : Option Addr) (a : Addr) : HO := .ext fun h => ∃ oe : Obj, h.get? a = some oe ∧ Zc cls d oe ∧ ∃ vs, oe.data = .fields vs
/-- a value that one name alone reaches (fz: a D) -/
inductive OT where
  | fz (d : D)
  | ol (ts : List OT)
  | od (tk : Bool) (ks : List DKey) (ts : List OT)
  | oi (C : Addr) (ns : List Str) (ts : List OT)
mutual
inductive Rep (K : PySem.W.Frag) (F : Hp) : V → D → Prop
  | non : Rep K F .non .non
  | bl (b : Bool) : Rep K F (.bl b) (.bl b)
  | int (i : Int) : Rep K F (.int i) (.int i)
  | str (x : Str) : Rep K F (.str x) (.str x)
  | ty (n : String) : Rep K F (.ty n) (.ty n)
  | cls (C : Addr) : Rep K F (.ref C) (.cls C)
  | tup {a : Addr} {vs : List V} {ds : List D} : F a = some (.tup vs) → Reps K F vs ds → Rep K F (.ref a) (.tup ds)
  | ktu {a : Addr} {vs : List V} {ds : List D} : SqT K F a vs → Reps K F vs ds → Rep K F (.ref a) (.ktu ds)
  | lst {a : Addr} {vs : List V} {ds : List D} : Rd F a (.lst vs) → Reps K F vs ds → Rep K F (.ref a) (.lst ds)
  | scr {a : Addr} {ns : List Int} : SqL K F a (ns.map V.int) → Rep K F (.ref a) (.scr ns)
  | dicK {a : Addr} {kvs : List (Key × V)} {ds : List D} : Rd F a (.dK kvs) → Reps K F (kvs.map (·.2)) ds → Rep K F (.ref a) (.dic false (kvs.map fun p => .k p.1) ds)
  | dicT {a : Addr} {kvs : List (List Key × V)} {ds : List D} : Rd F a (.dT kvs) → Reps K F (kvs.map (·.2)) ds → Rep K F (.ref a) (.dic true (kvs.map fun p => .t p.1) ds)
  | ins {a C dx : Addr} {fvs : List (Str × V)} {ds : List D} : F a = some (.ins C dx fvs) → Reps K F (fvs.map (·.2)) ds → Rep K F (.ref a) (.ins C (fvs.map (·.1)) ds)
  | exc {a C : Addr} {d : Option Addr} {fvs : List (Str × V)} {ds : List D} : F a = some (ExT (.ref C) d a) → (∀ dx, d = some dx → F dx = some (.xd fvs)) → (d = none ↔ fvs = []) → Reps K F (fvs.map (·.2)) ds → Rep K F (.ref a) (.exc C (fvs.map (·.1)) ds)
inductive Reps (K : PySem.W.Frag) (F : Hp) : List V → List D → Prop
  | nil : Reps K F [] []
  | cons {v : V} {vs : List V} {d : D} {ds : List D} : Rep K F v d → Reps K F vs ds → Reps K F (v :: vs) (d :: ds)
end
theorem Same.rd {H H' : Hp} {a : Addr} {u : HO} (e : Same H H') (h : Rd H a u) : Rd H' a u := by
  rcases h with h | ⟨o, h⟩
  · exact .inl (e _ _ h)
  · exact .inr ⟨o, e _ _ h⟩
theorem Same.sqt {K : PySem.W.Frag} {H H' : Hp} {a : Addr} {xs : List V} (e : Same H H') (h : SqT K H a xs) : SqT K H' a xs := by
  rcases h with h | h
  · exact .inl (Same.rd e h)
  · exact .inr h
theorem Same.upd {H : Hp} {p : Addr} {o : HO} (h : H p = none) : Same H (upd H p o) := fun a u e => by
  rw [upd_ne (ne_of_none e h)]; exact e
section
variable {K : PySem.W.Frag} {F F' H H' : Hp}
mutual
theorem Rep.mono (e : Same F F') : ∀ {v : V} {d : D}, Rep K F v d → Rep K F' v d
  | _, _, .non => .non
  | _, _, .bl b => .bl b
  | _, _, .int i => .int i
  | _, _, .str x => .str x
  | _, _, .ty n => .ty n
  | _, _, .cls C => .cls C
  | _, _, .tup h r => .tup (e _ _ h) (Reps.mono e r)
  | _, _, .ktu h r => .ktu (Same.sqt e h) (Reps.mono e r)
  | _, _, .lst h r => .lst (Same.rd e h) (Reps.mono e r)
  | _, _, .scr h => .scr (e.seq h)
  | _, _, .dicK h r => .dicK (Same.rd e h) (Reps.mono e r)
  | _, _, .dicT h r => .dicT (Same.rd e h) (Reps.mono e r)
  | _, _, .ins h r => .ins (e _ _ h) (Reps.mono e r)
  | _, _, .exc h k n r => .exc (e _ _ h) (fun dx z => e _ _ (k dx z)) n (Reps.mono e r)
theorem Reps.mono (e : Same F F') : ∀ {vs : List V} {ds : List D}, Reps K F vs ds → Reps K F' vs ds
  | _, _, .nil => .nil
  | _, _, .cons h r => .cons (Rep.mono e h) (Reps.mono e r)
end
theorem Reps.length : ∀ {vs : List V} {ds : List D}, Reps K F vs ds → vs.length = ds.length
  | _, _, .nil => rfl
  | _, _, .cons _ r => by rw [List.length_cons, List.length_cons, Reps.length r]
theorem Reps.get : ∀ {vs : List V} {ds : List D} {i : Nat} {d : D}, Reps K F vs ds → ds[i]? = some d → ∃ v, vs[i]? = some v ∧ Rep K F v d
  | _, _, _, _, .nil, e => by simp at e
  | _, _, 0, _, .cons h _, e => by simp at e; subst e; exact ⟨_, rfl, h⟩
  | _, _, i + 1, _, .cons _ r, e => by
    obtain ⟨v, h1, h2⟩ := Reps.get (i := i) r (by simpa using e)
    exact ⟨v, by simpa using h1, h2⟩
theorem Reps.get' : ∀ {vs : List V} {ds : List D} {i : Nat} {v : V}, Reps K F vs ds → vs[i]? = some v → ∃ d, ds[i]? = some d ∧ Rep K F v d
  | _, _, _, _, .nil, e => by simp at e
  | _, _, 0, _, .cons h _, e => by simp at e; subst e; exact ⟨_, rfl, h⟩
  | _, _, i + 1, _, .cons _ r, e => by
    obtain ⟨d, h1, h2⟩ := Reps.get' (i := i) r (by simpa using e)
    exact ⟨d, by simpa using h1, h2⟩
theorem Reps.append : ∀ {vs ws : List V} {ds es : List D}, Reps K F vs ds → Reps K F ws es → Reps K F (vs ++ ws) (ds ++ es)
  | _, _, _, _, .nil, s => s
  | _, _, _, _, .cons h r, s => .cons h (Reps.append r s)
theorem Reps.one {v : V} {d : D} (h : Rep K F v d) : Reps K F [v] [d] := .cons h .nil
theorem Reps.take : ∀ {vs : List V} {ds : List D} (n : Nat), Reps K F vs ds → Reps K F (vs.take n) (ds.take n)
  | _, _, 0, _ => .nil
  | _, _, _ + 1, .nil => .nil
  | _, _, n + 1, .cons h r => .cons h (Reps.take n r)
theorem Reps.drop : ∀ {vs : List V} {ds : List D} (n : Nat), Reps K F vs ds → Reps K F (vs.drop n) (ds.drop n)
  | _, _, 0, r => r
  | _, _, _ + 1, .nil => .nil
  | _, _, n + 1, .cons _ r => Reps.drop n r
theorem Reps.reverse : ∀ {vs : List V} {ds : List D}, Reps K F vs ds → Reps K F vs.reverse ds.reverse
  | _, _, .nil => .nil
  | _, _, .cons h r => by rw [List.reverse_cons, List.reverse_cons]; exact (Reps.reverse r).append (.one h)
theorem Reps.set : ∀ {vs : List V} {ds : List D} {v : V} {d : D} (i : Nat), Rep K F v d → Reps K F vs ds → Reps K F (vs.set i v) (ds.set i d)
  | _, _, _, _, _, _, .nil => .nil
  | _, _, _, _, 0, h, .cons _ r => .cons h r
  | _, _, _, _, i + 1, h, .cons k r => .cons k (Reps.set i h r)
/-- ints -/
theorem Reps.ints : ∀ (ns : List Int), Reps K F (ns.map V.int) (ns.map D.int)
  | [] => .nil
  | n :: r => .cons (.int n) (Reps.ints r)
end
mutual
noncomputable def OT.view : OT → D
  | .fz d => d
  | .ol ts => .lst (OT.views ts)
  | .od tk ks ts => .dic tk ks (OT.views ts)
  | .oi C ns ts => .ins C ns (OT.views ts)
noncomputable def OT.views : List OT → List D
  | [] => []
  | t :: ts => t.view :: OT.views ts
end
theorem views_eq : ∀ ts : List OT, OT.views ts = ts.map OT.view
  | [] => by rw [OT.views]; rfl
  | t :: ts => by rw [OT.views, views_eq ts]; rfl
theorem views_fz : ∀ ds : List D, OT.views (ds.map OT.fz) = ds
  | [] => by rw [List.map_nil, OT.views]
  | d :: ds => by rw [List.map_cons, OT.views, OT.view, views_fz ds]
mutual
noncomputable def RepO (K : PySem.W.Frag) (F H : Hp) : OT → V → (Addr → Prop) → Prop
  | .fz d, v, _ => Rep K F v d
  | .ol ts, v, P => ∃ (a : Addr) (vs : List V), v = .ref a ∧ P a ∧ H a = some (.lst vs) ∧ RepOs K F H ts vs (fun x => P x ∧ x ≠ a)
  | .od tk ks ts, v, P => ∃ (a : Addr), v = .ref a ∧ P a ∧
      ((tk = false ∧ ∃ kvs : List (Key × V), H a = some (.dK kvs) ∧ ks = kvs.map (fun p => DKey.k p.1) ∧ RepOs K F H ts (kvs.map (·.2)) (fun x => P x ∧ x ≠ a)) ∨
       (tk = true ∧ ∃ kvs : List (List Key × V), H a = some (.dT kvs) ∧ ks = kvs.map (fun p => DKey.t p.1) ∧ RepOs K F H ts (kvs.map (·.2)) (fun x => P x ∧ x ≠ a)))
  | .oi C ns ts, v, P => ∃ (a dx : Addr) (fvs : List (Str × V)), v = .ref a ∧ P a ∧ H a = some (.ins C dx fvs) ∧ ns = fvs.map (·.1) ∧ RepOs K F H ts (fvs.map (·.2)) (fun x => P x ∧ x ≠ a)
noncomputable def RepOs (K : PySem.W.Frag) (F H : Hp) : List OT → List V → (Addr → Prop) → Prop
  | [], vs, _ => vs = []
  | t :: ts, vs, P => ∃ (v : V) (ws : List V) (P1 P2 : Addr → Prop), vs = v :: ws ∧ (∀ x, P1 x → P x) ∧ (∀ x, P2 x → P x ∧ ¬ P1 x) ∧ RepO K F H t v P1 ∧ RepOs K F H ts ws P2
end
section
variable {K : PySem.W.Frag} {F F' H H' : Hp}
mutual
theorem RepO.mono (e : Same F F') : ∀ {t : OT} {v : V} {P P' : Addr → Prop}, (∀ x, P x → P' x ∧ H' x = H x) → RepO K F H t v P → RepO K F' H' t v P'
  | .fz d, v, P, P', _, h => by
    unfold RepO at h ⊢
    exact h.mono e
  | .ol ts, v, P, P', k, h => by
    unfold RepO at h ⊢
    obtain ⟨a, vs, rfl, pa, ha, r⟩ := h
    exact ⟨a, vs, rfl, (k a pa).1, by rw [(k a pa).2]; exact ha, RepOs.mono e (fun x hx => ⟨⟨(k x hx.1).1, hx.2⟩, (k x hx.1).2⟩) r⟩
  | .od tk ks ts, v, P, P', k, h => by
    unfold RepO at h ⊢
    obtain ⟨a, rfl, pa, h⟩ := h
    refine ⟨a, rfl, (k a pa).1, ?_⟩
    rcases h with ⟨e0, kvs, ha, hk, r⟩ | ⟨e0, kvs, ha, hk, r⟩
    · exact .inl ⟨e0, kvs, by rw [(k a pa).2]; exact ha, hk, RepOs.mono e (fun x hx => ⟨⟨(k x hx.1).1, hx.2⟩, (k x hx.1).2⟩) r⟩
    · exact .inr ⟨e0, kvs, by rw [(k a pa).2]; exact ha, hk, RepOs.mono e (fun x hx => ⟨⟨(k x hx.1).1, hx.2⟩, (k x hx.1).2⟩) r⟩
  | .oi C ns ts, v, P, P', k, h => by
    unfold RepO at h ⊢
    obtain ⟨a, dx, fvs, rfl, pa, ha, hn, r⟩ := h
    exact ⟨a, dx, fvs, rfl, (k a pa).1, by rw [(k a pa).2]; exact ha, hn, RepOs.mono e (fun x hx => ⟨⟨(k x hx.1).1, hx.2⟩, (k x hx.1).2⟩) r⟩
theorem RepOs.mono (e : Same F F') : ∀ {ts : List OT} {vs : List V} {P P' : Addr → Prop}, (∀ x, P x → P' x ∧ H' x = H x) → RepOs K F H ts vs P → RepOs K F' H' ts vs P'
  | [], vs, P, P', _, h => by
    unfold RepOs at h ⊢
    exact h
  | t :: ts, vs, P, P', k, h => by
    unfold RepOs at h ⊢
    obtain ⟨v, ws, P1, P2, rfl, h1, h2, r1, r2⟩ := h
    exact ⟨v, ws, P1, P2, rfl, fun x hx => (k x (h1 x hx)).1, fun x hx => ⟨(k x (h2 x hx).1).1, (h2 x hx).2⟩, RepO.mono e (fun x hx => ⟨hx, (k x (h1 x hx)).2⟩) r1, RepOs.mono e (fun x hx => ⟨hx, (k x (h2 x hx).1).2⟩) r2⟩
end
mutual
/-- frozen: the tree's own cells stand in F' as they stand in H -/
theorem RepO.frz (e : Same F F') : ∀ {t : OT} {v : V} {P : Addr → Prop}, (∀ x, P x → ∀ o, H x = some o → F' x = some o) → RepO K F H t v P → Rep K F' v t.view
  | .fz d, v, P, _, h => by
    unfold RepO at h
    rw [OT.view]
    exact h.mono e
  | .ol ts, v, P, k, h => by
    unfold RepO at h
    obtain ⟨a, vs, rfl, pa, ha, r⟩ := h
    rw [OT.view]
    exact .lst (.inl (k a pa _ ha)) (RepOs.frz e (fun x hx => k x hx.1) r)
  | .od tk ks ts, v, P, k, h => by
    unfold RepO at h
    obtain ⟨a, rfl, pa, h⟩ := h
    rw [OT.view]
    rcases h with ⟨e0, kvs, ha, hk, r⟩ | ⟨e0, kvs, ha, hk, r⟩
    · subst hk e0; exact .dicK (.inl (k a pa _ ha)) (RepOs.frz e (fun x hx => k x hx.1) r)
    · subst hk e0; exact .dicT (.inl (k a pa _ ha)) (RepOs.frz e (fun x hx => k x hx.1) r)
  | .oi C ns ts, v, P, k, h => by
    unfold RepO at h
    obtain ⟨a, dx, fvs, rfl, pa, ha, hn, r⟩ := h
    rw [OT.view]
    subst hn
    exact .ins (k a pa _ ha) (RepOs.frz e (fun x hx => k x hx.1) r)
theorem RepOs.frz (e : Same F F') : ∀ {ts : List OT} {vs : List V} {P : Addr → Prop}, (∀ x, P x → ∀ o, H x = some o → F' x = some o) → RepOs K F H ts vs P → Reps K F' vs (OT.views ts)
  | [], vs, P, _, h => by
    unfold RepOs at h
    subst h
    rw [OT.views]
    exact .nil
  | t :: ts, vs, P, k, h => by
    unfold RepOs at h
    obtain ⟨v, ws, P1, P2, rfl, h1, h2, r1, r2⟩ := h
    rw [OT.views]
    exact .cons (RepO.frz e (fun x hx => k x (h1 x hx)) r1) (RepOs.frz e (fun x hx => k x (h2 x hx).1) r2)
end
/-- a list of frozen items -/
theorem repOs_fz : ∀ {ds : List D} {vs : List V} {P : Addr → Prop}, RepOs K F H (ds.map OT.fz) vs P → Reps K F vs ds
  | [], vs, P, h => by
    rw [List.map_nil] at h
    unfold RepOs at h
    subst h
    exact .nil
  | d :: ds, vs, P, h => by
    rw [List.map_cons] at h
    unfold RepOs at h
    obtain ⟨v, ws, P1, P2, rfl, h1, h2, r1, r2⟩ := h
    unfold RepO at r1
    exact .cons r1 (repOs_fz r2)
theorem repOs_of : ∀ {ds : List D} {vs : List V} (P : Addr → Prop), Reps K F vs ds → RepOs K F H (ds.map OT.fz) vs P
  | [], vs, P, h => by
    cases h
    rw [List.map_nil]
    unfold RepOs
    rfl
  | d :: ds, vs, P, h => by
    cases h with
    | cons h r =>
      rw [List.map_cons]
      unfold RepOs
      refine ⟨_, _, fun _ => False, P, rfl, fun x z => z.elim, fun x z => ⟨z, id⟩, ?_, repOs_of P r⟩
      unfold RepO
      exact h
theorem RepOs.length : ∀ {ts : List OT} {vs : List V} {P : Addr → Prop}, RepOs K F H ts vs P → vs.length = ts.length
  | [], vs, P, h => by
    unfold RepOs at h
    subst h; rfl
  | t :: ts, vs, P, h => by
    unfold RepOs at h
    obtain ⟨v, ws, P1, P2, rfl, h1, h2, r1, r2⟩ := h
    rw [List.length_cons, List.length_cons, RepOs.length r2]
end
/-- a slot: nothing known; a tree; the tree of the j-th parameter that the caller goes on with -/
inductive S where
  | un
  | ow (t : OT)
  | pa (j : Nat)
structure SD where
  sl : List S
  pa : List OT
/-- no tuple is new -/
theorem nt_upd {H : Hp} {p : Addr} {u : HO} (h : ∀ xs, u ≠ .tup xs) : ∀ a xs, upd H p u a = some (.tup xs) → H a = some (.tup xs) := fun a xs e => by
  unfold upd at e
  split at e
  · exact absurd (Option.some.inj e) (h xs)
  · exact e
theorem nt_upd2 {H : Hp} {p q : Addr} {u w : HO} (h : ∀ xs, u ≠ .tup xs) (h2 : ∀ xs, w ≠ .tup xs) : ∀ a xs, upd (upd H p u) q w a = some (.tup xs) → H a = some (.tup xs) := fun a xs e => nt_upd h a xs (nt_upd h2 a xs e)
structure Own (K : PySem.W.Frag) (pv : List V) (G F : Hp) (sd : SD) (σ : St) (H : Hp) (o : Nat ⊕ Nat → Addr → Prop) : Prop where
  fh : Same F H
  gh : Same G H
  fg : ∀ a, F a ≠ none → G a = none
  oh : ∀ i a, o i a → H a ≠ none ∧ F a = none ∧ G a = none
  oo : ∀ i j a, o i a → o j a → i = j
  len : σ.length = sd.sl.length
  sl : ∀ (i : Nat) (t : OT), sd.sl[i]? = some (S.ow t) → ∃ v : V, σ[i]? = some (some v) ∧ RepO K F H t v (o (.inl i))
  sp : ∀ (i j : Nat), sd.sl[i]? = some (S.pa j) → ∃ v : V, pv[j]? = some v ∧ σ[i]? = some (some v)
  pr : ∀ (j : Nat) (t : OT), sd.pa[j]? = some t → ∃ v : V, pv[j]? = some v ∧ RepO K F H t v (o (.inr j))
  /-- each tuple that is known is a frozen one -/
  tf : ∀ a xs, H a = some (.tup xs) → F a = some (.tup xs)
noncomputable def StR (K : PySem.W.Frag) (pv : List V) (G F : Hp) (sd : SD) (σ : St) (H : Hp) : Prop := ∃ o, Own K pv G F sd σ H o
/-- .. and one tree more, that no name reaches yet -/
noncomputable def StR1 (K : PySem.W.Frag) (pv : List V) (G F : Hp) (sd : SD) (σ : St) (H : Hp) (v : V) (t : OT) : Prop :=
  ∃ o P, Own K pv G F sd σ H o ∧ RepO K F H t v P ∧ ∀ a, P a → H a ≠ none ∧ F a = none ∧ G a = none ∧ ∀ i, ¬ o i a
section
variable {K : PySem.W.Frag} {pv : List V} {G F F' H H' : Hp} {sd : SD} {σ : St} {o : Nat ⊕ Nat → Addr → Prop}
theorem Own.fresh (W : Own K pv G F sd σ H o) {p : Addr} (hp : H p = none) : F p = none ∧ G p = none ∧ ∀ i, ¬ o i p :=
  ⟨W.fh.free hp, W.gh.free hp, fun i q => (W.oh i p q).1 hp⟩
/-- the heap grows, F grows by what is new -/
theorem Own.grow (W : Own K pv G F sd σ H o) (h : Same H H') (f : Same F F') (fh : Same F' H') (fn : ∀ a, F' a ≠ none → F a ≠ none ∨ H a = none) (nt : ∀ a xs, H' a = some (.tup xs) → H a = some (.tup xs) ∨ F' a = some (.tup xs) := by first | exact fun a xs e => .inl (nt_upd (by intro _ z; cases z) a xs e) | exact fun a xs e => .inl (nt_upd2 (by intro _ z; cases z) (by intro _ z; cases z) a xs e)) : Own K pv G F' sd σ H' o where
  fh := fh
  gh := W.gh.trans h
  fg := fun a ha => by
    rcases fn a ha with z | z
    · exact W.fg a z
    · exact W.gh.free z
  oh := fun i a q => by
    obtain ⟨h1, h2, h3⟩ := W.oh i a q
    refine ⟨?_, ?_, h3⟩
    · cases e : H a with
      | none => exact absurd e h1
      | some u => rw [h _ _ e]; simp
    · cases e : F' a with
      | none => rfl
      | some u =>
        rcases fn a (by rw [e]; simp) with z | z
        · exact absurd h2 z
        · exact absurd z h1
  oo := W.oo
  len := W.len
  sl := fun i t e => by
    obtain ⟨v, h1, h2⟩ := W.sl i t e
    refine ⟨v, h1, h2.mono f fun x hx => ⟨hx, ?_⟩⟩
    have n := (W.oh _ x hx).1
    cases e : H x with
    | none => exact absurd e n
    | some u => exact h _ _ e
  sp := W.sp
  pr := fun j t e => by
    obtain ⟨v, h1, h2⟩ := W.pr j t e
    refine ⟨v, h1, h2.mono f fun x hx => ⟨hx, ?_⟩⟩
    have n := (W.oh _ x hx).1
    cases e : H x with
    | none => exact absurd e n
    | some u => exact h _ _ e
  tf := fun a xs e => (nt a xs e).elim (fun z => f _ _ (W.tf a xs z)) id
theorem StR.fh (s : StR K pv G F sd σ H) : Same F H := let ⟨_, W⟩ := s; W.fh
/-- a new object, frozen at once -/
theorem StR.new {p : Addr} {u : HO} (s : StR K pv G F sd σ H) (hp : H p = none) : StR K pv G (upd F p u) sd σ (upd H p u) := by
  obtain ⟨o, W⟩ := s
  have n := W.fresh hp
  refine ⟨o, W.grow (Same.upd hp) (Same.upd n.1) (fun a x e => ?_) (fun a ha => ?_) ?_⟩
  · by_cases h : a = p
    · subst h; rw [upd_same] at e ⊢; exact e
    · rw [upd_ne h] at e ⊢; exact W.fh a x e
  · by_cases h : a = p
    · subst h; exact .inr hp
    · rw [upd_ne h] at ha; exact .inl ha
  · intro a xs e
    by_cases h : a = p
    · subst h; rw [upd_same] at e ⊢; exact .inr e
    · rw [upd_ne h] at e; exact .inl e
theorem StR.sameNew {p : Addr} {u : HO} (s : StR K pv G F sd σ H) (hp : H p = none) : Same F (upd F p u) := by
  obtain ⟨o, W⟩ := s
  exact Same.upd (W.fresh hp).1
/-- a new list, not frozen -/
theorem StR.newL {p : Addr} {vs : List V} {ds : List D} (s : StR K pv G F sd σ H) (hp : H p = none) (r : Reps K F vs ds) : StR1 K pv G F sd σ (upd H p (.lst vs)) (.ref p) (.ol (ds.map .fz)) := by
  obtain ⟨o, W⟩ := s
  have n := W.fresh hp
  refine ⟨o, fun x => x = p, W.grow (Same.upd hp) (Same.refl _) (fun a x e => ?_) (fun a ha => .inl ha), ?_, fun a ha => ?_⟩
  · rw [upd_ne (fun z => by rw [z, n.1] at e; cases e)]; exact W.fh a x e
  · unfold RepO
    exact ⟨p, vs, rfl, rfl, upd_same, repOs_of _ r⟩
  · subst ha
    exact ⟨by rw [upd_same]; simp, n.1, n.2.1, n.2.2⟩
/-- the tree is frozen -/
theorem StR1.frz {v : V} {t : OT} (s : StR1 K pv G F sd σ H v t) : ∃ F', Same F F' ∧ StR K pv G F' sd σ H ∧ Rep K F' v t.view := by
  classical
  obtain ⟨o, P, W, r, k⟩ := s
  let F' : Hp := fun a => if P a then H a else F a
  have f1 : Same F F' := fun a u e => by
    have : ¬ P a := fun z => by rw [(k a z).2.1] at e; cases e
    show (if P a then H a else F a) = some u
    rw [if_neg this]; exact e
  have f2 : Same F' H := fun a u e => by
    by_cases z : P a
    · have e : (if P a then H a else F a) = some u := e
      rw [if_pos z] at e; exact e
    · have e : (if P a then H a else F a) = some u := e
      rw [if_neg z] at e; exact W.fh a u e
  refine ⟨F', f1, ⟨o, ⟨f2, W.gh, fun a ha => ?_, fun i a q => ?_, W.oo, W.len, fun i t e => ?_, W.sp, fun j t e => ?_, fun a xs e => f1 _ _ (W.tf a xs e)⟩⟩, r.frz f1 fun x hx u e => ?_⟩
  · by_cases z : P a
    · exact (k a z).2.2.1
    · have ha : (if P a then H a else F a) ≠ none := ha
      rw [if_neg z] at ha; exact W.fg a ha
  · have z : ¬ P a := fun z => (k a z).2.2.2 i q
    obtain ⟨h1, h2, h3⟩ := W.oh i a q
    refine ⟨h1, ?_, h3⟩
    show (if P a then H a else F a) = none
    rw [if_neg z]; exact h2
  · obtain ⟨v, h1, h2⟩ := W.sl i t e
    exact ⟨v, h1, h2.mono f1 fun x hx => ⟨hx, rfl⟩⟩
  · obtain ⟨v, h1, h2⟩ := W.pr j t e
    exact ⟨v, h1, h2.mono f1 fun x hx => ⟨hx, rfl⟩⟩
  · show (if P x then H x else F x) = some u
    rw [if_pos hx]; exact e
theorem StR1.drop {v : V} {t : OT} (s : StR1 K pv G F sd σ H v t) : StR K pv G F sd σ H := let ⟨o, _, W, _⟩ := s; ⟨o, W⟩
theorem StR1.fz {v : V} {d : D} (s : StR K pv G F sd σ H) (r : Rep K F v d) : StR1 K pv G F sd σ H v (.fz d) := by
  obtain ⟨o, W⟩ := s
  refine ⟨o, fun _ => False, W, ?_, fun a z => z.elim⟩
  unfold RepO; exact r
/-- the tree becomes slot i's -/
theorem StR1.store {v : V} {t : OT} {i : Nat} (s : StR1 K pv G F sd σ H v t) (hi : i < sd.sl.length) : StR K pv G F { sd with sl := sd.sl.set i (.ow t) } (σ.set i (some v)) H := by
  classical
  obtain ⟨o, P, W, r, k⟩ := s
  refine ⟨fun j a => if j = .inl i then P a else o j a, ⟨W.fh, W.gh, W.fg, fun j a q => ?_, fun j l a q q' => ?_, by simpa using W.len, fun j t' e => ?_, fun j l e => ?_, fun j t' e => ?_, W.tf⟩⟩
  · by_cases z : j = .inl i
    · rw [if_pos z] at q; exact ⟨(k a q).1, (k a q).2.1, (k a q).2.2.1⟩
    · rw [if_neg z] at q; exact W.oh j a q
  · by_cases z : j = .inl i
    · rw [if_pos z] at q
      by_cases y : l = .inl i
      · rw [z, y]
      · rw [if_neg y] at q'; exact absurd q' ((k a q).2.2.2 l)
    · rw [if_neg z] at q
      by_cases y : l = .inl i
      · rw [if_pos y] at q'; exact absurd q ((k a q').2.2.2 j)
      · rw [if_neg y] at q'; exact W.oo j l a q q'
  · have hs : i < σ.length := by rw [W.len]; exact hi
    by_cases z : i = j
    · subst z
      have e : (sd.sl.set i (S.ow t))[i]? = some (S.ow t') := e
      rw [List.getElem?_set_self hi] at e
      cases e
      refine ⟨v, List.getElem?_set_self hs, ?_⟩
      exact r.mono (Same.refl _) fun x hx => ⟨by show (if Sum.inl i = Sum.inl i then P x else o (Sum.inl i) x); rw [if_pos rfl]; exact hx, rfl⟩
    · have e : (sd.sl.set i (S.ow t))[j]? = some (S.ow t') := e
      rw [List.getElem?_set_ne z] at e
      obtain ⟨w, h1, h2⟩ := W.sl j t' e
      refine ⟨w, by rw [List.getElem?_set_ne z]; exact h1, ?_⟩
      exact h2.mono (Same.refl _) fun x hx => ⟨by show (if Sum.inl j = Sum.inl i then P x else o (Sum.inl j) x); rw [if_neg (fun y => z (Sum.inl.inj y).symm)]; exact hx, rfl⟩
  · by_cases z : i = j
    · subst z
      have e : (sd.sl.set i (S.ow t))[i]? = some (S.pa l) := e
      rw [List.getElem?_set_self hi] at e
      cases e
    · have e : (sd.sl.set i (S.ow t))[j]? = some (S.pa l) := e
      rw [List.getElem?_set_ne z] at e
      obtain ⟨w, h1, h2⟩ := W.sp j l e
      exact ⟨w, h1, by rw [List.getElem?_set_ne z]; exact h2⟩
  · obtain ⟨w, h1, h2⟩ := W.pr j t' e
    exact ⟨w, h1, h2.mono (Same.refl _) fun x hx => ⟨by show (if Sum.inr j = Sum.inl i then P x else o (Sum.inr j) x); rw [if_neg (by intro y; cases y)]; exact hx, rfl⟩⟩
end
end DL
namespace DL
open PySem PySem.Spec L2
structure Exn where
  C : Addr
  fs : Option (List (Str × D))
/-- what an expression gives: a value and the state behind; an exception; nothing told -/
inductive ER (α : Type) where
  | ok (a : α) (sd : SD)
  | rz (x : Exn) (sd : SD)
  | bad
noncomputable def ER.bind {α γ : Type} (r : ER α) (f : α → SD → ER γ) : ER γ :=
  match r with
  | .ok a sd => f a sd
  | .rz x sd => .rz x sd
  | .bad => .bad
noncomputable def ER.opt {α : Type} (o : Option α) (sd : SD) : ER α :=
  match o with
  | some a => .ok a sd
  | none => .bad
theorem ER.bind_ok {α γ : Type} {a : α} {sd : SD} {f : α → SD → ER γ} : (ER.ok a sd).bind f = f a sd := rfl
noncomputable def RepX (K : PySem.W.Frag) (F : Hp) (cls : Value) (dd : Option Addr) (x : Exn) : Prop :=
  cls = .ref x.C ∧ match x.fs with
  | none => dd = none
  | some l => ∃ (d : Addr) (fvs : List (Str × V)), dd = some d ∧ F d = some (.xd fvs) ∧ fvs.map (·.1) = l.map (·.1) ∧ Reps K F (fvs.map (·.2)) (l.map (·.2))
theorem RepX.mono {K : PySem.W.Frag} {F F' : Hp} {cls : Value} {dd : Option Addr} {x : Exn} (e : Same F F') (h : RepX K F cls dd x) : RepX K F' cls dd x := by
  obtain ⟨h1, h2⟩ := h
  refine ⟨h1, ?_⟩
  revert h2
  cases x.fs with
  | none => exact id
  | some l => exact fun ⟨d, fvs, a, b, c, r⟩ => ⟨d, fvs, a, e _ _ b, c, r.mono e⟩
/-- a result's relation: G, F, the state, the heap, the slots, what lies there, what is meant -/
noncomputable abbrev RSt (β α : Type) := Hp → Hp → SD → Hp → L2.St → β → α → Prop
noncomputable def Meets {α β : Type} (K : PySem.W.Frag) (pv : List V) (W : WX) (G : Hp) (σ : L2.St) (RS : RSt β α) (p : Bool) (sd : SD) (F H : Hp) (r : ER α) (Q : β → Hp → Prop) (P : Prop) : Prop :=
  match r with
  | .ok a sd' => (∀ v F' H', Same F F' → StR K pv G F' sd' σ H' → RS G F' sd' H' σ v a → (p = true → Same H H' ∧ sd' = sd) → Q v H') → P
  | .rz x sd' => (∀ cls dd F' H', Same F F' → StR K pv G F' sd' σ H' → RepX K F' cls dd x → W cls dd σ H') → P
  | .bad => True
section
variable {α β γ δ : Type} {K : PySem.W.Frag} {pv : List V} {W : WX} {G F H : Hp} {σ : L2.St} {sd : SD} {p q : Bool}
theorem Meets.bind {RS : RSt β α} {RS' : RSt δ γ} {r : ER α} {f : α → SD → ER γ} {Q : δ → Hp → Prop} {k : β → Hp → Prop} {P : Prop} (h : Meets K pv W G σ RS p sd F H r k P)
    (g : ∀ v F1 H1 a sd1, Same F F1 → StR K pv G F1 sd1 σ H1 → RS G F1 sd1 H1 σ v a → (p = true → Same H H1 ∧ sd1 = sd) → Meets K pv W G σ RS' q sd1 F1 H1 (f a sd1) Q (k v H1)) :
    Meets K pv W G σ RS' (p && q) sd F H (r.bind f) Q P := by
  cases r with
  | bad => exact True.intro
  | rz x sd' => exact h
  | ok a sd1 =>
    show Meets K pv W G σ RS' (p && q) sd F H (f a sd1) Q P
    have h' : (∀ v F' H', Same F F' → StR K pv G F' sd1 σ H' → RS G F' sd1 H' σ v a → (p = true → Same H H' ∧ sd1 = sd) → k v H') → P := h
    have g' := fun v F1 H1 s1 s2 s3 s4 => g v F1 H1 a sd1 s1 s2 s3 s4
    revert g'
    cases f a sd1 with
    | bad => exact fun _ => True.intro
    | rz x sd2 =>
      intro g' hW
      refine h' fun v F1 H1 s1 s2 s3 s4 => ?_
      exact g' v F1 H1 s1 s2 s3 s4 fun cls dd F2 H2 t1 t2 t3 => hW cls dd F2 H2 (s1.trans t1) t2 t3
    | ok c sd2 =>
      intro g' hQ
      refine h' fun v F1 H1 s1 s2 s3 s4 => ?_
      refine g' v F1 H1 s1 s2 s3 s4 fun w F2 H2 t1 t2 t3 t4 => hQ w F2 H2 (s1.trans t1) t2 t3 fun z => ?_
      rw [Bool.and_eq_true] at z
      obtain ⟨a1, a2⟩ := s4 z.1
      obtain ⟨b1, b2⟩ := t4 z.2
      exact ⟨a1.trans b1, b2.trans a2⟩
/-- the same value another way -/
theorem Meets.imp {f : α → γ} {RS : RSt β α} {RS' : RSt δ γ} {r : ER α} {r' : ER γ} {Q : δ → Hp → Prop} {k : β → Hp → Prop} {P P' : Prop} (h : Meets K pv W G σ RS p sd F H r k P) (hP : P → P')
    (hr : r' = r.bind (fun a sd1 => .ok (f a) sd1)) (g : ∀ v F1 H1 a sd1, r = .ok a sd1 → Same F F1 → StR K pv G F1 sd1 σ H1 → RS G F1 sd1 H1 σ v a → (p = true → Same H H1 ∧ sd1 = sd) → (∀ w F2 H2, Same F1 F2 → StR K pv G F2 sd1 σ H2 → RS' G F2 sd1 H2 σ w (f a) → Same H1 H2 → Q w H2) → k v H1) :
    Meets K pv W G σ RS' p sd F H r' Q P' := by
  subst hr
  cases r with
  | bad => exact True.intro
  | rz x sd' => exact fun hW => hP (h hW)
  | ok a sd1 =>
    intro hQ
    refine hP (h fun v F1 H1 s1 s2 s3 s4 => g v F1 H1 a sd1 rfl s1 s2 s3 s4 fun w F2 H2 t1 t2 t3 t4 => hQ w F2 H2 (s1.trans t1) t2 t3 fun z => ?_)
    obtain ⟨a1, a2⟩ := s4 z
    exact ⟨a1.trans t4, a2⟩
/-- an answer at once -/
theorem Meets.here {RS : RSt β α} {a : α} {v : β} {Q : β → Hp → Prop} {P : Prop} (s : StR K pv G F sd σ H) (r : RS G F sd H σ v a) (hP : Q v H → P) : Meets K pv W G σ RS p sd F H (.ok a sd) Q P :=
  fun hQ => hP (hQ v F H (Same.refl _) s r fun _ => ⟨Same.refl _, rfl⟩)
end
/-- k: frozen; else to be read in the heap as it stands -/
noncomputable def RSx (K : PySem.W.Frag) (k : Bool) : RSt V D := fun _ F _ H _ v d => Rep K (if k = true then F else H) v d
noncomputable def RSo (K : PySem.W.Frag) (pv : List V) : RSt V OT := fun G F sd H σ v t => StR1 K pv G F sd σ H v t
noncomputable def RSl (K : PySem.W.Frag) (k : Bool) : RSt (List V) (List D) := fun _ F _ H _ vs ds => Reps K (if k = true then F else H) vs ds
noncomputable def RSb : RSt Bool Bool := fun _ _ _ _ _ b c => b = c
noncomputable def TrX (K : PySem.W.Frag) (pv : List V) (W : WX) (p k : Bool) (te : TE) (m : SD → ER D) : Prop := ∀ G F sd σ H Q, StR K pv G F sd σ H → Meets K pv W G σ (RSx K k) p sd F H (m sd) Q (te σ H Q)
noncomputable def TrO (K : PySem.W.Frag) (pv : List V) (W : WX) (p : Bool) (te : TE) (m : SD → ER OT) : Prop := ∀ G F sd σ H Q, StR K pv G F sd σ H → Meets K pv W G σ (RSo K pv) p sd F H (m sd) Q (te σ H Q)
noncomputable def TrA (K : PySem.W.Frag) (pv : List V) (W : WX) (p k : Bool) (ta : TA) (m : SD → ER (List D)) : Prop := ∀ G F sd σ H Q, StR K pv G F sd σ H → Meets K pv W G σ (RSl K k) p sd F H (m sd) Q (ta σ H Q)
noncomputable def TrT (K : PySem.W.Frag) (pv : List V) (W : WX) (p : Bool) (tt : TT) (m : SD → ER Bool) : Prop := ∀ G F sd σ H Q, StR K pv G F sd σ H → Meets K pv W G σ RSb p sd F H (m sd) Q (tt σ H Q)
/-- an expression: p: it changes nothing; k: its value is frozen -/
structure DX (X : Cx) (pv : List V) (W : WX) (p k : Bool) (e : Expr) (m : SD → ER D) : Prop where
  ex : ∃ te, PE X e te ∧ TrX X.K pv W p k te m
/-- an expression whose value is new -/
structure DO (X : Cx) (pv : List V) (W : WX) (p : Bool) (e : Expr) (m : SD → ER OT) : Prop where
  ex : ∃ te, PE X e te ∧ TrO X.K pv W p te m
structure DA (X : Cx) (pv : List V) (W : WX) (p k : Bool) (es : List Expr) (m : SD → ER (List D)) : Prop where
  ex : ∃ ta, PA X es ta ∧ TrA X.K pv W p k ta m
structure DT (X : Cx) (pv : List V) (W : WX) (p : Bool) (e : Expr) (m : SD → ER Bool) : Prop where
  ex : ∃ tt, PT X e tt ∧ TrT X.K pv W p tt m
/-- and, or -/
structure DW (X : Cx) (pv : List V) (W : WX) (p : Bool) (e : Expr) (m : SD → ER Bool) : Prop where
  ex : ∃ tt, PW X e tt ∧ TrT X.K pv W p tt m
noncomputable def mVar (i : Nat) : SD → ER D := fun sd => match sd.sl[i]? with
  | some (.ow (.fz d)) => .ok d sd
  | _ => .bad
/-- what stands there, to be read at once -/
noncomputable def mSee (i : Nat) : SD → ER D := fun sd => match sd.sl[i]? with
  | some (.ow t) => .ok t.view sd
  | some (.pa j) => ER.opt ((sd.pa[j]?).map OT.view) sd
  | _ => .bad
/-- what stands there, never changed from now on -/
noncomputable def mFrz (i : Nat) : SD → ER D := fun sd => match sd.sl[i]? with
  | some (.ow t) => .ok t.view { sd with sl := sd.sl.set i (.ow (.fz t.view)) }
  | _ => .bad
/-- what stands there, taken away -/
noncomputable def mTake (i : Nat) : SD → ER OT := fun sd => match sd.sl[i]? with
  | some (.ow t) => .ok t { sd with sl := sd.sl.set i .un }
  | _ => .bad
noncomputable def mC (d : D) : SD → ER D := fun sd => .ok d sd
noncomputable def mUn (f : D → Option D) (a : SD → ER D) : SD → ER D := fun sd => (a sd).bind fun x sd1 => ER.opt (f x) sd1
noncomputable def mOp (f : D → D → Option D) (a b : SD → ER D) : SD → ER D := fun sd => (a sd).bind fun x sd1 => (b sd1).bind fun y sd2 => ER.opt (f x y) sd2
noncomputable def mNil : SD → ER (List D) := fun sd => .ok [] sd
noncomputable def mCons (a : SD → ER D) (r : SD → ER (List D)) : SD → ER (List D) := fun sd => (a sd).bind fun x sd1 => (r sd1).bind fun xs sd2 => .ok (x :: xs) sd2
noncomputable def mCall (f : List D → Option D) (a : SD → ER (List D)) : SD → ER D := fun sd => (a sd).bind fun xs sd1 => ER.opt (f xs) sd1
noncomputable def mTup (a : SD → ER (List D)) : SD → ER D := fun sd => (a sd).bind fun xs sd1 => if xs.length ≤ 16777216 then .ok (.tup xs) sd1 else .bad
noncomputable def mLst (a : SD → ER (List D)) : SD → ER OT := fun sd => (a sd).bind fun xs sd1 => if xs.length ≤ 16777216 then .ok (.ol (xs.map .fz)) sd1 else .bad
noncomputable def mView (a : SD → ER OT) : SD → ER D := fun sd => (a sd).bind fun t sd1 => .ok t.view sd1
noncomputable def mOwn (a : SD → ER D) : SD → ER OT := fun sd => (a sd).bind fun d sd1 => .ok (.fz d) sd1
noncomputable def mTest (a : SD → ER D) : SD → ER Bool := fun sd => (a sd).bind fun x sd1 => match x with
  | .bl b => .ok b sd1
  | _ => .bad
noncomputable def mAnd (a b : SD → ER Bool) : SD → ER Bool := fun sd => (a sd).bind fun x sd1 => if x = true then b sd1 else .ok false sd1
noncomputable def mOr (a b : SD → ER Bool) : SD → ER Bool := fun sd => (a sd).bind fun x sd1 => if x = true then .ok true sd1 else b sd1
noncomputable def mNot (a : SD → ER Bool) : SD → ER Bool := fun sd => (a sd).bind fun x sd1 => .ok (!x) sd1
noncomputable def mIf (c : SD → ER Bool) (a b : SD → ER D) : SD → ER D := fun sd => (c sd).bind fun x sd1 => if x = true then a sd1 else b sd1
section
variable {X : Cx} {pv : List V} {W : WX} {p q k l : Bool} {e a b : Expr} {es : List Expr}
theorem RSx.see {K : PySem.W.Frag} {k : Bool} {G F H : Hp} {sd : SD} {σ : L2.St} {v : V} {d : D} (r : RSx K k G F sd H σ v d) (s : StR K pv G F sd σ H) : Rep K H v d := by
  unfold RSx at r
  cases k with
  | true => exact Rep.mono s.fh r
  | false => exact r
theorem RSl.see {K : PySem.W.Frag} {k : Bool} {G F H : Hp} {sd : SD} {σ : L2.St} {v : List V} {d : List D} (r : RSl K k G F sd H σ v d) (s : StR K pv G F sd σ H) : Reps K H v d := by
  unfold RSl at r
  cases k with
  | true => exact Reps.mono s.fh r
  | false => exact r
/-- a frozen value may be seen -/
theorem DX.see {m : SD → ER D} (h : DX X pv W p true e m) : DX X pv W p false e m := by
  obtain ⟨te, h1, h2⟩ := h
  refine ⟨te, h1, fun G F sd σ H Q s => ?_⟩
  have z := h2 G F sd σ H Q s
  revert z
  cases m sd with
  | bad => exact id
  | rz x sd1 => exact id
  | ok d sd1 => exact fun z hQ => z fun v F1 H1 s1 s2 s3 s4 => hQ v F1 H1 s1 s2 (RSx.see s3 s2) s4
theorem DO.frz {m : SD → ER OT} (h : DO X pv W p e m) : DX X pv W p true e (mView m) := by
  obtain ⟨te, h1, h2⟩ := h
  refine ⟨te, h1, fun G F sd σ H Q s => ?_⟩
  refine Meets.imp (f := OT.view) (h2 G F sd σ H Q s) id rfl fun v F1 H1 t sd1 _ s1 s2 s3 s4 hQ => ?_
  obtain ⟨F2, t1, t2, t3⟩ := StR1.frz s3
  exact hQ v F2 H1 t1 t2 t3 (Same.refl _)
theorem DO.see {m : SD → ER OT} (h : DO X pv W p e m) : DX X pv W p false e (mView m) := h.frz.see
theorem DX.own {m : SD → ER D} (h : DX X pv W p true e m) : DO X pv W p e (mOwn m) := by
  obtain ⟨te, h1, h2⟩ := h
  refine ⟨te, h1, fun G F sd σ H Q s => ?_⟩
  refine Meets.imp (f := OT.fz) (h2 G F sd σ H Q s) id rfl fun v F1 H1 t sd1 _ s1 s2 s3 s4 hQ => ?_
  exact hQ v F1 H1 (Same.refl _) s2 (StR1.fz s2 s3) (Same.refl _)
theorem dx_var {i : Nat} {x : Str} {pos : Pos} (h : PE X (.Name x pos) (tVar i)) : DX X pv W true true (.Name x pos) (mVar i) := by
  refine ⟨_, h, fun G F sd σ H Q s => ?_⟩
  unfold mVar
  split
  · rename_i d e
    obtain ⟨o, w⟩ := id s
    obtain ⟨v, h1, h2⟩ := w.sl i _ e
    unfold RepO at h2
    exact Meets.here s (show RSx X.K true G F sd H σ v d from h2) fun q => ⟨v, h1, q⟩
  · exact True.intro
theorem dx_see {i : Nat} {x : Str} {pos : Pos} (h : PE X (.Name x pos) (tVar i)) : DX X pv W true false (.Name x pos) (mSee i) := by
  refine ⟨_, h, fun G F sd σ H Q s => ?_⟩
  unfold mSee
  split
  · rename_i t e
    obtain ⟨o, w⟩ := id s
    obtain ⟨v, h1, h2⟩ := w.sl i _ e
    exact Meets.here s (show RSx X.K false G F sd H σ v t.view from h2.frz w.fh fun _ _ _ z => z) fun q => ⟨v, h1, q⟩
  · rename_i j e
    obtain ⟨o, w⟩ := id s
    obtain ⟨v, h1, h2⟩ := w.sp i j e
    cases e2 : sd.pa[j]? with
    | none => exact True.intro
    | some t =>
      obtain ⟨v', h3, h4⟩ := w.pr j t e2
      rw [h1] at h3; cases h3
      exact Meets.here s (show RSx X.K false G F sd H σ v t.view from h4.frz w.fh fun _ _ _ z => z) fun q => ⟨v, h2, q⟩
  · exact True.intro
theorem dx_c {v : V} {d : D} (h : PE X e (tC v)) (r : ∀ F, Rep X.K F v d) : DX X pv W true true e (mC d) :=
  ⟨_, h, fun G F sd σ H Q s => Meets.here s (r F) id⟩
theorem dx_int {i : Int} {j : Nat} {pos : Pos} : DX X pv W true true (.Constant (.int i) j pos) (mC (.int i)) := dx_c pe_int fun _ => .int i
theorem dx_bl {b : Bool} {j : Nat} {pos : Pos} : DX X pv W true true (.Constant (.bool b) j pos) (mC (.bl b)) := dx_c pe_bl fun _ => .bl b
theorem dx_non {j : Nat} {pos : Pos} : DX X pv W true true (.Constant .none j pos) (mC .non) := dx_c pe_non fun _ => .non
theorem dx_str {x : Str} {j : Nat} {pos : Pos} : DX X pv W true true (.Constant (.str x) j pos) (mC (.str x)) := dx_c pe_str fun _ => .str x
/-- a flat value has its own V -/
noncomputable def D.sc : D → Option V
  | .non => some .non
  | .bl b => some (.bl b)
  | .int i => some (.int i)
  | .str x => some (.str x)
  | .ty n => some (.ty n)
  | .cls C => some (.ref C)
  | _ => none
theorem Rep.sc {K : PySem.W.Frag} {F : Hp} {d : D} {v : V} (h : d.sc = some v) : Rep K F v d := by
  cases d <;> simp only [D.sc, Option.some.injEq, reduceCtorEq] at h <;> subst h <;> constructor
/-- an operator that gives a flat value -/
noncomputable def Op2S (K : PySem.W.Frag) (r : R2) (f : D → D → Option D) : Prop := ∀ H x y a b c, Rep K H x a → Rep K H y b → f a b = some c → ∃ v, c.sc = some v ∧ ∀ Q : VK, Q v H → r x y H Q
theorem tr_op2 {r : R2} {f : D → D → Option D} {ta tb : TE} {ma mb : SD → ER D} (hf : Op2S X.K r f) (ha : TrX X.K pv W p k ta ma) (hb : TrX X.K pv W q l tb mb) (hk : (k || q) = true) : TrX X.K pv W (p && q) true (tOp r ta tb) (mOp f ma mb) := by
  intro G F sd σ H Q s
  refine Meets.bind (ha G F sd σ H _ s) fun x F1 H1 dx sd1 s1 s2 s3 s4 => ?_
  have hq : q = (q && true) := by cases q <;> rfl
  rw [hq]
  refine Meets.bind (hb G F1 sd1 σ H1 _ s2) fun y F2 H2 dy sd2 t1 t2 t3 t4 => ?_
  have rx : Rep X.K H2 x dx := by
    cases k with
    | true => exact Rep.mono t2.fh (Rep.mono t1 s3)
    | false => exact Rep.mono (t4 (by simpa using hk)).1 s3
  cases e : f dx dy with
  | none => exact True.intro
  | some c =>
    obtain ⟨v, h1, h2⟩ := hf H2 x y dx dy c rx (RSx.see t3 t2) e
    exact Meets.here t2 (show RSx X.K true G F2 sd2 H2 σ v c from Rep.sc h1) (h2 Q)
theorem dx_op2 {op : Operator} {r : R2} {f : D → D → Option D} {pos : Pos} {ma mb : SD → ER D} (ho : OpR X (binaryOp op) r) (hf : Op2S X.K r f) (ha : DX X pv W p k a ma) (hb : DX X pv W q l b mb) (hk : (k || q) = true := by rfl) :
    DX X pv W (p && q) true (.BinOp a op b pos) (mOp f ma mb) := by
  obtain ⟨ta, a1, a2⟩ := ha
  obtain ⟨tb, b1, b2⟩ := hb
  exact ⟨_, pe_op ho a1 b1, tr_op2 hf a2 b2 hk⟩
theorem dx_cmp {op : CmpOp} {r : R2} {f : D → D → Option D} {pos : Pos} {ma mb : SD → ER D} (ho : OpR X (compareOp op) r) (hf : Op2S X.K r f) (ha : DX X pv W p k a ma) (hb : DX X pv W q l b mb) (hm : behindInMarks op b = false) (hk : (k || q) = true := by rfl) :
    DX X pv W (p && q) true (.Compare a [op] [b] pos) (mOp f ma mb) := by
  obtain ⟨ta, a1, a2⟩ := ha
  obtain ⟨tb, b1, b2⟩ := hb
  exact ⟨_, pe_cmpR ho a1 b1 hm, tr_op2 hf a2 b2 hk⟩
theorem tr_test {te : TE} {m : SD → ER D} (h : TrX X.K pv W p k te m) : TrT X.K pv W p (tTest te) (mTest m) := by
  intro G F sd σ H Q s
  have hp : p = (p && true) := by cases p <;> rfl
  rw [hp]
  refine Meets.bind (h G F sd σ H _ s) fun x F1 H1 dx sd1 s1 s2 s3 s4 => ?_
  have r := RSx.see s3 s2
  cases dx with
  | bl b =>
    cases r
    exact Meets.here s2 (show RSb G F1 sd1 H1 σ b b from rfl) fun q => ⟨b, rfl, q⟩
  | _ => exact True.intro
theorem dt_cmp {op : CmpOp} {r : R2} {f : D → D → Option D} {pos : Pos} {ma mb : SD → ER D} (ho : OpR X (compareOp op) r) (hf : Op2S X.K r f) (ha : DX X pv W p k a ma) (hb : DX X pv W q l b mb) (hm : behindInMarks op b = false) (hk : (k || q) = true := by rfl) :
    DT X pv W (p && q) (.Compare a [op] [b] pos) (mTest (mOp f ma mb)) := by
  obtain ⟨ta, a1, a2⟩ := ha
  obtain ⟨tb, b1, b2⟩ := hb
  exact ⟨_, pt_cmpR ho a1 b1 hm, tr_test (tr_op2 hf a2 b2 hk)⟩
/-- an expression that gives True or False, as a test -/
theorem dt_val {m : SD → ER D} (h : DX X pv W p k e m) (he : ∀ whole, isTrue e X.env whole = (do let v ← whole; standAt e.pos; holding [v] (truthy v)) := by intro _; rfl) : DT X pv W p e (mTest m) := by
  obtain ⟨te, a1, a2⟩ := h
  exact ⟨_, pt_val a1 he, tr_test a2⟩
theorem DW.dt {m : SD → ER Bool} (h : DW X pv W p e m) : DT X pv W p e m := by
  obtain ⟨tt, a1, a2⟩ := h
  exact ⟨tt, a1.pt, a2⟩
theorem tr_not {tt : TT} {m : SD → ER Bool} (h : TrT X.K pv W p tt m) : TrT X.K pv W p (tNot tt) (mNot m) := by
  intro G F sd σ H Q s
  have hp : p = (p && true) := by cases p <;> rfl
  rw [hp]
  refine Meets.bind (h G F sd σ H _ s) fun x F1 H1 dx sd1 s1 s2 s3 s4 => ?_
  exact Meets.here s2 (show RSb G F1 sd1 H1 σ (!x) (!dx) from congrArg _ s3) id
theorem dt_not {pos : Pos} {m : SD → ER Bool} (h : DT X pv W p e m) : DT X pv W p (.UnaryOp .Not e pos) (mNot m) := by
  obtain ⟨tt, a1, a2⟩ := h
  exact ⟨_, pt_not a1, tr_not a2⟩
theorem tr_and {t u : TT} {ma mb : SD → ER Bool} (h : TrT X.K pv W p t ma) (h2 : TrT X.K pv W q u mb) : TrT X.K pv W (p && q) (tAnd t u) (mAnd ma mb) := by
  intro G F sd σ H Q s
  refine Meets.bind (h G F sd σ H _ s) fun x F1 H1 dx sd1 s1 s2 s3 s4 => ?_
  have s3 : x = dx := s3
  subst s3
  cases x with
  | true => exact h2 G F1 sd1 σ H1 Q s2
  | false => exact Meets.here s2 (show RSb G F1 sd1 H1 σ false false from rfl) id
theorem tr_or {t u : TT} {ma mb : SD → ER Bool} (h : TrT X.K pv W p t ma) (h2 : TrT X.K pv W q u mb) : TrT X.K pv W (p && q) (tOr t u) (mOr ma mb) := by
  intro G F sd σ H Q s
  refine Meets.bind (h G F sd σ H _ s) fun x F1 H1 dx sd1 s1 s2 s3 s4 => ?_
  have s3 : x = dx := s3
  subst s3
  cases x with
  | false => exact h2 G F1 sd1 σ H1 Q s2
  | true => exact Meets.here s2 (show RSb G F1 sd1 H1 σ true true from rfl) id
theorem dw_and1 {pos : Pos} {m : SD → ER Bool} (h : DT X pv W p a m) : DW X pv W p (.BoolOp .And [a] pos) m := by
  obtain ⟨tt, a1, a2⟩ := h
  exact ⟨tt, pw_and1 a1, a2⟩
theorem dw_or1 {pos : Pos} {m : SD → ER Bool} (h : DT X pv W p a m) : DW X pv W p (.BoolOp .Or [a] pos) m := by
  obtain ⟨tt, a1, a2⟩ := h
  exact ⟨tt, pw_or1 a1, a2⟩
theorem dw_and {pos : Pos} {ma mb : SD → ER Bool} (h : DT X pv W p a ma) (h2 : DW X pv W q (.BoolOp .And (b :: es) pos) mb) : DW X pv W (p && q) (.BoolOp .And (a :: b :: es) pos) (mAnd ma mb) := by
  obtain ⟨t, a1, a2⟩ := h
  obtain ⟨u, b1, b2⟩ := h2
  exact ⟨_, pw_and a1 b1, tr_and a2 b2⟩
theorem dw_or {pos : Pos} {ma mb : SD → ER Bool} (h : DT X pv W p a ma) (h2 : DW X pv W q (.BoolOp .Or (b :: es) pos) mb) : DW X pv W (p && q) (.BoolOp .Or (a :: b :: es) pos) (mOr ma mb) := by
  obtain ⟨t, a1, a2⟩ := h
  obtain ⟨u, b1, b2⟩ := h2
  exact ⟨_, pw_or a1 b1, tr_or a2 b2⟩
theorem da_nil : DA X pv W true true [] mNil := ⟨_, pa_nil, fun G F sd σ H Q s => Meets.here s (show RSl X.K true G F sd H σ [] [] from .nil) id⟩
theorem da_cons {ma : SD → ER D} {mr : SD → ER (List D)} (ha : DX X pv W p k e ma) (hr : DA X pv W q l es mr) (hk : (k || q) = true := by rfl) (hs : starEach (e :: es) X.env = (false, eval e X.env) :: starEach es X.env := by rfl) : DA X pv W (p && q) (k && l) (e :: es) (mCons ma mr) := by
  obtain ⟨te, a1, a2⟩ := ha
  obtain ⟨tr, b1, b2⟩ := hr
  refine ⟨_, pa_cons a1 b1 hs, fun G F sd σ H Q s => ?_⟩
  refine Meets.bind (a2 G F sd σ H _ s) fun x F1 H1 dx sd1 s1 s2 s3 s4 => ?_
  have hq : q = (q && true) := by cases q <;> rfl
  rw [hq]
  refine Meets.bind (b2 G F1 sd1 σ H1 _ s2) fun xs F2 H2 ds sd2 t1 t2 t3 t4 => ?_
  refine Meets.here t2 (show RSl X.K (k && l) G F2 sd2 H2 σ (x :: xs) (dx :: ds) from ?_) id
  show Reps X.K (if (k && l) = true then F2 else H2) (x :: xs) (dx :: ds)
  cases k with
  | true =>
    have r : Rep X.K F2 x dx := Rep.mono t1 s3
    cases l with
    | true => exact .cons r t3
    | false => exact .cons (Rep.mono t2.fh r) t3
  | false => exact .cons (Rep.mono (t4 (by simpa using hk)).1 s3) (RSl.see t3 t2)
theorem dx_tup {x1 : Nat} {pos : Pos} {m : SD → ER (List D)} (h : DA X pv W p true es m) : DX X pv W p true (.Tuple es x1 pos) (mTup m) := by
  obtain ⟨ta, a1, a2⟩ := h
  refine ⟨_, pe_tup a1, fun G F sd σ H Q s => ?_⟩
  have hp : p = (p && true) := by cases p <;> rfl
  rw [hp]
  refine Meets.bind (a2 G F sd σ H _ s) fun vs F1 H1 ds sd1 s1 s2 s3 s4 => ?_
  split
  · rename_i hl
    intro hQ
    refine ⟨by rw [Reps.length s3, sizeLine_eq]; exact hl, fun p hp => ?_⟩
    exact hQ _ _ _ (s2.sameNew hp) (s2.new hp) (.tup upd_same (Reps.mono (s2.sameNew hp) s3)) fun _ => ⟨Same.upd hp, rfl⟩
  · exact True.intro
theorem do_lst {pos : Pos} {m : SD → ER (List D)} (h : DA X pv W p true es m) : DO X pv W p (.List es pos) (mLst m) := by
  obtain ⟨ta, a1, a2⟩ := h
  refine ⟨_, pe_lst a1, fun G F sd σ H Q s => ?_⟩
  have hp : p = (p && true) := by cases p <;> rfl
  rw [hp]
  refine Meets.bind (a2 G F sd σ H _ s) fun vs F1 H1 ds sd1 s1 s2 s3 s4 => ?_
  split
  · rename_i hl
    intro hQ
    refine ⟨by rw [Reps.length s3, sizeLine_eq]; exact hl, fun p hp => ?_⟩
    have z := s2.newL hp s3
    exact hQ _ _ _ (Same.refl _) z.drop z fun _ => ⟨Same.upd hp, rfl⟩
  · exact True.intro
theorem dx_if {c : Expr} {pos : Pos} {mc : SD → ER Bool} {ma mb : SD → ER D} {q' : Bool} (hc : DT X pv W p c mc) (ha : DX X pv W q k a ma) (hb : DX X pv W q' k b mb) : DX X pv W (p && (q && q')) k (.IfExp c a b pos) (mIf mc ma mb) := by
  obtain ⟨tc, c1, c2⟩ := hc
  obtain ⟨ta, a1, a2⟩ := ha
  obtain ⟨tb, b1, b2⟩ := hb
  refine ⟨_, pe_ifExp c1 a1 b1, fun G F sd σ H Q s => ?_⟩
  refine Meets.bind (c2 G F sd σ H _ s) fun x F1 H1 dx sd1 s1 s2 s3 s4 => ?_
  have s3 : x = dx := s3
  subst s3
  have wk : ∀ {p' : Bool} {r : ER D} {P : Prop}, ((q && q') = true → p' = true) → Meets X.K pv W G σ (RSx X.K k) p' sd1 F1 H1 r Q P → Meets X.K pv W G σ (RSx X.K k) (q && q') sd1 F1 H1 r Q P := fun {p' r P} hpp z => by
    revert z
    cases r with
    | bad => exact id
    | rz y sd2 => exact id
    | ok d sd2 => exact fun z hQ => z fun v F2 H2 t1 t2 t3 t4 => hQ v F2 H2 t1 t2 t3 fun w => t4 (hpp w)
  cases x with
  | true => exact wk (fun z => (Bool.and_eq_true _ _ ▸ z : q = true ∧ q' = true).1) (a2 G F1 sd1 σ H1 Q s2)
  | false => exact wk (fun z => (Bool.and_eq_true _ _ ▸ z : q = true ∧ q' = true).2) (b2 G F1 sd1 σ H1 Q s2)
end
open PyProof.Rows (envOfC IntsAre AllBare)
/-- room for calls, and no guard on the stack -/
structure RoomG (k : Nat) (A : Around) : Prop where
  r : Room k A
  g : A.guards = some []
section
variable {j k : Nat} {A : Around}
theorem RoomG.mono (x : RoomG k A) (h : j ≤ k) : RoomG j A := ⟨x.r.mono h, x.g⟩
theorem RoomG.in1 (x : RoomG (k + 1) A) : RoomG k A.in1 := ⟨x.r.in1, x.g⟩
theorem RoomG.deeper (x : RoomG (k + 1) A) (env : Env) : RoomG k (A.deeper env) := ⟨x.r.deeper env, x.g⟩
theorem RoomG.make (x : RoomG (k + 1) A) (C : Addr) (us : List Value) (kw : List (Str × Value)) : RoomG k (A.under (.builtin "type.__call__" ⟨.ref C :: us, kw⟩)) := ⟨x.r.make C us kw, by
  have e := x.g
  first | exact e | (simp [Around.under, Code.isGuard, guardIds, e])⟩
theorem RoomG.units (x : RoomG k A) : A.units + 64 < cLine := x.r.units
theorem RoomG.units0 (x : RoomG k A) : A.units < cLine := x.r.units0
theorem RoomG.un (x : RoomG k A) : A.units + 16 * k + 200 < cLine := x.r.un
theorem RoomG.hd (x : RoomG k A) : A.handled = none := x.r.hd
theorem RoomG.depth (x : RoomG k A) : A.depth < recursionLimit := x.r.depth
end
structure FnG (P : Program) (w : World) (K : PySem.W.Frag) (mg : Str → Option Value) (base : Heap) (C : CXT) (k : Nat) (f : Addr) (fd : FuncData) (ps : List Str) (sp : Sp) : Prop where
  len : ∀ vs H Q E, sp vs H Q E → vs.length = ps.length
  run : ∀ (A : Around) (out : List Env) (s : Shared) (H : Hp) (args : Args) (us : List Value) (vs : List V) (Q : VK) (E : XK), RoomG k A → Env0 P w K mg base A out s H → BindsTo s fd args (ps.zip us) → Vals vs us → sp vs H Q E →
    codeAny (model P w) A (.call (.ref f) args) (CR C out P w H s Q E) s
theorem FnG.mono {P : Program} {w : World} {K : PySem.W.Frag} {mg : Str → Option Value} {base : Heap} {C : CXT} {j k : Nat} {f : Addr} {fd : FuncData} {ps : List Str} {sp : Sp} (F : FnG P w K mg base C j f fd ps sp) (h : j ≤ k) : FnG P w K mg base C k f fd ps sp :=
  ⟨F.len, fun A out s H args us vs Q E x => F.run A out s H args us vs Q E (x.mono h)⟩
/-- a def by its body, there -/
theorem fun_okG {P : Program} {w : World} {K : PySem.W.Frag} {mg : Str → Option Value} {base : Heap} {x qual : Str} {st : Stmt} {f : Addr} {fd : FuncData} {N ps : List Str} {k : Nat} {sp : Sp} (F : Fun K x qual st f fd) (S : FnScope N ps (defScope st)) (len : ∀ vs H Q E, sp vs H Q E → vs.length = ps.length)
    (body : ∀ (cdv : Value) (A : Around) (out : List Env) (s : Shared) (H : Hp) (vs : List V) (Q : VK) (E : XK), RoomG k (A.deeper (envOfC qual (defScope st) s.heap.objs.size f cdv)) → sp vs H Q E →
      ∃ t, PSs (cxOf (L2.CX P w) P w K mg base N qual (defScope st) f cdv A out s H E) (defBody st) t ∧ t { nx := fun _ H' => Q .non H', rt := Q } (L2.start N vs) H) : FnG P w K mg base (L2.CX P w) (k + 1) f fd ps sp := by
  obtain ⟨oc, od, kV, doc, pm, an, cdv, ct, osl, rfl, lk, hcd⟩ := F.ex
  refine ⟨len, fun A out s H args us vs Q E room e0 bnd rel hsp => ?_⟩
  have grows := fun (b : Addr) (o : Obj) (e : base.get? b = some o) => (e0.bs b o e).1
  have inK : K.In s.heap := e0.mod.kin.keeps grows
  refine codeAny_call_function room.depth (inK _ _ lk) rfl S.co S.gen rfl (PySem.W.codeRec_of inK hcd) (bnd _ _ _ _ (wpAny_newFunctionEnv_cells S.kind (fun y hy => ?_) fun env he s1 z => ?_))
  · rcases S.par y.1 (List.of_mem_zip (a := y.1) (b := y.2) hy).1 with q | q
    · exact .inl q
    · exact .inr ⟨q, PySem.W.cellsFrom_some _ _ _ (.inl q)⟩
  · subst he
    obtain ⟨t, ht, hq⟩ := body cdv A out s H vs Q E (room.deeper _) hsp
    have I := inv_start (CX := L2.CX P w) (E := E) S room.hd e0 (len _ _ _ _ hsp) rel z
    refine ⟨(e0.mod.nolimit.keeps grows).keeps z.toInCall.keep, codeAny_func (wpAny_mono (ht.run [] s1 (L2.start N vs) H _ I hq) (fun fl s2 hs => ?_) fun e s2 hs => hs)⟩
    cases fl with
    | ret u =>
      obtain ⟨v, _, H2, J, rv, q⟩ := hs
      exact ⟨v, H2, J.os, J.bare, J.base, J.hok, rv, q⟩
    | next =>
      obtain ⟨_, H2, J, q⟩ := hs
      exact ⟨V.non, H2, J.os, J.bare, J.base, J.hok, rfl, q⟩
    | brk => exact (let ⟨_, _, _, q⟩ := hs; False.elim q)
    | cont => exact (let ⟨_, _, _, q⟩ := hs; False.elim q)
section
variable {X : Cx} {W : WX} {f : Addr} {fd : FuncData} {ps : List Str} {sp : Sp} {k : Nat} {pins : List (Addr × Obj)} {σ : L2.St} {H : Hp} {s : Shared} {Q : VK} {us : List Value} {vs : List V} {x : Str} {p pos : Pos} {e : Expr} {es : List Expr} {t : TA} {E : L2.St → XK}
theorem code_G (F : FnG X.prog X.w X.K X.mg X.base (L2.CX X.prog X.w) k f fd ps sp) (hr : RoomG k X.A) (hb : Binds X.K fd ps []) (hx : PassesAt (L2.CX X.prog X.w) X σ (E σ)) (I : Inv X pins σ H s) (r : Vals vs us) (h : sp vs H Q (E σ)) :
    codeAny (model X.prog X.w) X.A (.call (.ref f) ⟨us, []⟩) (wants (EP X pins σ Q) X.xe) s := by
  have hl : (us ++ []).length = ps.length := by rw [List.append_nil, ← r.length, F.len _ _ _ _ h]
  have b := hb s us I.kIn hl
  rw [List.append_nil] at b
  refine codeAny_mono (F.run X.A X.stack s H ⟨us, []⟩ us vs Q (E σ) hr I.env0 b r h) fun res s2 hq => ?_
  cases res with
  | error e => exact hx pins H s e s2 I hq
  | ok fl =>
    cases fl with
    | ret u => exact I.after hq
    | next => exact hq.elim
    | brk => exact hq.elim
    | cont => exact hq.elim
theorem run_G (F : FnG X.prog X.w X.K X.mg X.base (L2.CX X.prog X.w) k f fd ps sp) (hr : RoomG k X.A) (hb : Binds X.K fd ps []) (hx : PassesAt (L2.CX X.prog X.w) X σ (E σ)) (I : Inv X pins σ H s) (r : Vals vs us) (h : sp vs H Q (E σ)) :
    wpAny (model X.prog X.w) X.A (call (.ref f) us) (EP X pins σ Q) X.xe s := wpAny_call (code_G F hr hb hx I r h)
/-- f(e, ..) -/
theorem pe_callG (F : FnG X.prog X.w X.K X.mg X.base (L2.CX X.prog X.w) k f fd ps sp) (hr : RoomG k X.A) (hg : Gl X x) (hm : X.mg x = some (.ref f)) (hk : PySem.W.keepIn X.K (.ref f) = true) (hb : Binds X.K fd ps []) (tk : Takes X W) (ha : PA X (e :: es) t)
    (hdb : (x == ("__debug__" : Str)) = false := by decide) (he : starEach (e :: es) X.env = (false, eval e X.env) :: starEach es X.env := by rfl) (hpl : (backTo pos (starEach es X.env)).any (·.1) = false := by rfl) :
    PE X (.Call (.Name x p) (e :: es) [] pos) (fun σ H Q => t σ H fun vs H1 => sp vs H1 Q (WE W σ)) :=
  ⟨fun pins s σ H Q I h => wpAny_Call_Name_kw (ld_glob I hg hm (PySem.W.callWith_K (h₀ := X.base) I.ok.mod.kin hk (thn (ha.run pos pins s σ H _ I h) fun us s1 ⟨vs, H1, I1, r, q⟩ => ⟨I1.kIn, run_G F hr hb (passAt tk σ) I1 r q⟩) he hpl) hdb)⟩
end
theorem law_G {P : Program} {w : World} {K : PySem.W.Frag} {mg mb : Str → Option Value} {k : Nat} {fa a : Addr} {fd : FuncData} {x : Str} {sp : Sp} {sc : Shared} {vs : List Value} {ns : List Int} (kx : K.In sc.heap) (g1 : sc.heap.Ns mainGlobals mg) (g2 : sc.heap.Ns builtinsNs mb)
    (g3 : ∀ x : Str, x ≠ "__name__" → mb x = bootBuiltins x) (g4 : sc.heap.NoLimit) (g5 : sc.gens = #[]) (ha : sc.heap.get? a = some { cls := .type "list", data := .seq vs.toArray }) (hi : IntsAre vs ns) (hl : ns.length ≤ sizeLine) (hr : RoomG k callerA)
    (F : ∀ base : Heap, K.In base → base.Ns mainGlobals mg → FnG P w K mg base (L2.CX P w) k fa fd [x] sp) (hbind : ∀ (s : Shared) (u : Value), BindsTo s fd ⟨[u], []⟩ [(x, u)]) (hsp : ∀ T : Hp, Only T → SqL K T a (ns.map V.int) → sp [.ref a] T (fun v _ => v = .bl true) fun _ _ _ => False)
    (no : ∀ T e s', L2.CX P w [] T sc (fun _ _ _ => False) e s' → False) : codeAny (model P w) callerA (.call (.ref fa) ⟨[.ref a], []⟩) (fun r s' => r = .ok (.ret (.bool true)) ∧ OldK sc.heap s'.heap ∧ s'.os = sc.os ∧ AllBare s'.gens) sc := by
  have go : ∀ T : Hp, Only T → SqL K T a (ns.map V.int) → HOk P w T sc.heap → (∀ b, T b ≠ none → b = a) → (T a ≠ none → K.lookup a = none) → codeAny (model P w) callerA (.call (.ref fa) ⟨[.ref a], []⟩) (fun r s' => r = .ok (.ret (.bool true)) ∧ OldK sc.heap s'.heap ∧ s'.os = sc.os ∧ AllBare s'.gens) sc := fun T only seq hok one own => by
    have isA : ∀ {b : Addr}, (∃ u, T b = some u) → b = a := fun {b} ⟨u, q⟩ => one b (by rw [q]; simp)
    have free : ∀ {b : Addr} {P : Prop}, (b = a → False) → T b = none := fun {b _} n => by
      cases q : T b with
      | none => rfl
      | some u => exact (n (isA ⟨u, q⟩)).elim
    have ns2 : ∀ {b : Addr} {m : Str → Option Value}, sc.heap.Ns b m → (hidT sc.heap T).Ns b m := fun {b m} ⟨o, es, ep, e, d, r⟩ => ⟨o, es, ep, hidT_get e (free (P := True) fun z => by
      subst z
      rw [ha] at e; cases e
      exact (nomatch (show Data.seq vs.toArray _ = Data.dict es ep from d))), d, r⟩
    have kin : K.In (hidT sc.heap T) := fun b o e => hidT_get (kx b o e) (by
      cases q : T b with
      | none => rfl
      | some u =>
        have z := isA ⟨u, q⟩
        subst z
        rw [own (by rw [q]; simp)] at e; cases e)
    obtain ⟨mc, c1, c2⟩ := g4
    have e0 : Env0 P w K mg (hidT sc.heap T) callerA [] sc T := ⟨rfl, ⟨kin, ns2 g1, ⟨mb, ns2 g2, g3⟩, ⟨mc, ns2 c1, c2⟩⟩, fun b o e => of_hidT e, Nat.le_of_eq (hidT_size _ _), trivial, fun b hb => (nomatch (show b ∈ ([] : List Addr) from hb)), hok, .of_eq g5⟩
    refine codeAny_mono ((F _ kin (ns2 g1)).run callerA [] sc T ⟨[.ref a], []⟩ [.ref a] [.ref a] _ _ hr e0 (hbind sc (.ref a)) (.cons rfl .nil) (hsp T only seq)) fun r s2 h => ?_
    cases r with
    | error e => exact (no T e s2 h).elim
    | ok fl =>
      cases fl with
      | next => exact h.elim
      | brk => exact h.elim
      | cont => exact h.elim
      | ret u =>
        obtain ⟨v, T2, os, bare, un, hok2, ru, q⟩ := h
        have q : v = .bl true := q
        subst q
        cases (show u = Value.bool true from ru)
        refine ⟨rfl, OldK.of_keep fun b o e => ?_, os, bare⟩
        cases q : T b with
        | none => exact un.keep b o e q (fun z => nomatch (show b ∈ ([] : List Addr) from z)) (by simp)
        | some u =>
          rcases only b with z | ⟨ob, xs, z⟩
          · rw [q] at z; cases z
          · obtain ⟨m1, _⟩ := hok b _ z
            obtain ⟨m2, _⟩ := hok2 b _ (un.frzs b ob _ z)
            rw [e] at m1; cases m1
            exact m2
  cases hk : K.lookup a with
  | some o =>
    have e := kx a o hk
    rw [ha] at e
    cases e
    exact go (fun _ => none) (fun _ => .inl rfl) (.inr ⟨_, vs.toArray, _, hk, rfl, rfl, rfl, by rw [List.size_toArray, hi.length]; exact hl, by simpa using vals_ints hi⟩) (fun b u z => nomatch (show (none : Option HO) = some u from z)) (fun b z => absurd rfl z) fun z => absurd rfl z
  | none =>
    let T : Hp := fun b => if b = a then some (.frz { cls := .type "list", data := .seq vs.toArray } (.lst (ns.map V.int))) else none
    have t1 : T a = some (.frz { cls := .type "list", data := .seq vs.toArray } (.lst (ns.map V.int))) := if_pos rfl
    have t2 : ∀ b, b ≠ a → T b = none := fun b n => if_neg n
    refine go T (fun b => ?_) (.inl (.inr ⟨_, t1⟩)) (fun b u z => ?_) (fun b z => Classical.byContradiction fun n => z (t2 b n)) fun _ => hk
    · by_cases e : b = a
      · subst e; exact .inr ⟨_, _, t1⟩
      · exact .inl (t2 b e)
    · by_cases e : b = a
      · subst e
        rw [t1] at z; cases z
        exact ⟨ha, by rw [List.length_map]; exact hl, vs, _, vals_ints hi, ha⟩
      · rw [t2 b e] at z; cases z
open PyProof.Rows in
theorem walk_G {l : PySem.W.OpenLaw} {n k : Nat} {q : Program} {loose : List Str} {XP : (Str → Option Value) → Heap → Prop} {YP : World → Heap → Prop} {d : DefRec} {K : Params → PySem.W.Frag} {sp : World → Sp} {x : Str} (hn : l.most = some n) (hn2 : n ≤ sizeLine) (hdf : d.params.defaults = []) (hr : RoomG k callerA)
    (hY : ∀ (w : World) (h : Heap), YP w h → (K w.params).In h) (F : ∀ (w : World) (mg : Str → Option Value) (fa : Addr) (h : Heap), (K w.params).In h → h.Ns mainGlobals mg → mg d.name = some (.ref fa) → ∃ fd : FuncData, (∀ (s : Shared) (u : Value), BindsTo s fd ⟨[u], []⟩ [(x, u)]) ∧
        ∀ base : Heap, (K w.params).In base → base.Ns mainGlobals mg → FnG l.prog w (K w.params) mg base (L2.CX l.prog w) k fa fd [x] (sp w))
    (hsp : ∀ (w : World) (H : Hp) (a : Addr) (ns : List Int), ns.length ≤ n → (∀ z ∈ ns, Builtin.Int.intBits z ≤ 1048576) → SqL (K w.params) H a (ns.map V.int) → sp w [.ref a] H (fun v _ => v = .bl true) fun _ _ _ => False) : PySem.W.WalkO q loose XP YP l.row.toRowW d [] (fun f vs => PySem.call f vs) := by
  refine Att.attach_callB hn hdf fun w s0 sc mg mb fa o pm cd doc a vs ns G Y ho hd hcd hmg hobj hints hlen hbits hg => ?_
  obtain ⟨fd, hb, hF⟩ := F w mg fa _ (hY w _ Y) G.T.g hmg
  refine law_G (hY w _ Y) G.T.g G.T.b G.T.builtins G.T.nolimit hg hobj hints (Nat.le_trans hlen hn2) hr hF hb (fun T _ hS => hsp w T a ns hlen hbits hS) fun T e s' z => ?_
  obtain ⟨_, _, _, _, _, _, _, _, _, _, _, _, q⟩ := z
  exact q
end DL
namespace DL
open PySem PySem.Spec L2
section
variable {K : PySem.W.Frag} {pv : List V} {G F H : Hp} {sd : SD} {σ : L2.St}
theorem StR1.hide {v : V} {t : OT} (s : StR1 K pv G F sd σ H v t) : ∃ G', Same G G' ∧ StR K pv G' F sd σ H ∧
    ∀ (F' : Hp) (sd' : SD) (σ' : L2.St) (H' : Hp), Same F F' → StR K pv G' F' sd' σ' H' → StR1 K pv G F' sd' σ' H' v t := by
  classical
  obtain ⟨o, P, W, r, k⟩ := s
  refine ⟨fun a => if P a then H a else G a, fun a u e => ?_, ⟨o, W.fh, fun a u e => ?_, fun a ha => ?_, fun i a q => ?_, W.oo, W.len, W.sl, W.sp, W.pr, W.tf⟩, fun F' sd' σ' H' f ⟨o', W'⟩ => ?_⟩
  · have : ¬ P a := fun z => by rw [(k a z).2.2.1] at e; cases e
    show (if P a then H a else G a) = some u
    rw [if_neg this]; exact e
  · have e : (if P a then H a else G a) = some u := e
    by_cases z : P a
    · rw [if_pos z] at e; exact e
    · rw [if_neg z] at e; exact W.gh a u e
  · show (if P a then H a else G a) = none
    by_cases z : P a
    · exact absurd (k a z).2.1 ha
    · rw [if_neg z]; exact W.fg a ha
  · obtain ⟨h1, h2, h3⟩ := W.oh i a q
    refine ⟨h1, h2, ?_⟩
    show (if P a then H a else G a) = none
    rw [if_neg fun z => (k a z).2.2.2 i q]; exact h3
  · have up : ∀ a, P a → (if P a then H a else G a) = H a := fun a z => if_pos z
    have hH : ∀ a, P a → H' a = H a := fun a z => by
      cases e : H a with
      | none => exact absurd e (k a z).1
      | some u => exact W'.gh a u (by rw [up a z]; exact e)
    have ne : ∀ a, P a → (if P a then H a else G a) ≠ none := fun a z => by rw [up a z]; exact (k a z).1
    refine ⟨o', P, ⟨W'.fh, fun a u e => ?_, fun a ha => ?_, fun i a q => ?_, W'.oo, W'.len, W'.sl, W'.sp, W'.pr, W'.tf⟩, r.mono f fun x hx => ⟨hx, hH x hx⟩, fun a z => ⟨?_, ?_, (k a z).2.2.1, fun i q => ?_⟩⟩
    · by_cases z : P a
      · rw [(k a z).2.2.1] at e; cases e
      · exact W'.gh a u (by show (if P a then H a else G a) = some u; rw [if_neg z]; exact e)
    · by_cases z : P a
      · exact (k a z).2.2.1
      · have q := W'.fg a ha
        have q : (if P a then H a else G a) = none := q
        rw [if_neg z] at q; exact q
    · obtain ⟨h1, h2, h3⟩ := W'.oh i a q
      refine ⟨h1, h2, ?_⟩
      by_cases z : P a
      · exact (k a z).2.2.1
      · have h3 : (if P a then H a else G a) = none := h3
        rw [if_neg z] at h3; exact h3
    · rw [hH a z]; exact (k a z).1
    · cases e : F' a with
      | none => rfl
      | some u => exact absurd (W'.fg a (by rw [e]; simp)) (ne a z)
    · exact absurd (W'.oh i a q).2.2 (ne a z)
/-- what a callee is given: all of the frame is put aside but the trees handed over. idx: where the callee's parameters come from -/
theorem StR.give {ts : List OT} {vs : List V} (s : StR K pv G F sd σ H) (hr : Reps K F vs (ts.map OT.view) ∧ ts.all (fun t => match t with | .fz _ => true | _ => false) = true) :
    ∃ G', StR K vs G' F ⟨[], ts⟩ [] H ∧ (∀ (F' H' : Hp) (v : V) (t : OT) (sd1 : SD), Same F F' → StR1 K vs G' F' sd1 [] H' v t → StR1 K pv G F' sd σ H' v t ∧ Same H H') ∧
      (∀ (F' H' : Hp) (sd1 : SD), Same F F' → StR K vs G' F' sd1 [] H' → StR K pv G F' sd σ H' ∧ Same H H') := by
  classical
  obtain ⟨hr, hfz⟩ := hr
  obtain ⟨o, W⟩ := s
  have back : ∀ (F' H' : Hp) (o' : Nat ⊕ Nat → Addr → Prop) (sd1 : SD), Same F F' → Own K vs (fun a => if F a = none then H a else none) F' sd1 [] H' o' → Same H H' ∧ Own K pv G F' sd σ H' o := fun F' H' o' sd1 f W' => by
    have hh : Same H H' := fun a u e => by
      by_cases z : F a = none
      · exact W'.gh a u (by show (if F a = none then H a else none) = some u; rw [if_pos z]; exact e)
      · cases e2 : F a with
        | none => exact absurd e2 z
        | some u' =>
          have := W.fh a u' e2
          rw [e] at this; cases this
          exact W'.fh a u (f a u e2)
    refine ⟨hh, W.grow hh f W'.fh (fun a ha => ?_) fun a xs e => .inr (W'.tf a xs e)⟩
    by_cases z : F a = none
    · have q := W'.fg a ha
      have q : (if F a = none then H a else none) = none := q
      rw [if_pos z] at q; exact .inr q
    · exact .inl z
  refine ⟨fun a => if F a = none then H a else none, ⟨fun _ _ => False, W.fh, fun a u e => ?_, fun a ha => if_neg ha, fun i a q => q.elim, fun i j a q => q.elim, rfl, fun i t e => by simp at e, fun i j e => by simp at e, fun j t e => ?_, W.tf⟩, fun F' H' v t sd1 f ⟨o', P, W', r, k⟩ => ?_, fun F' H' sd1 f ⟨o', W'⟩ => ?_⟩
  · have e : (if F a = none then H a else none) = some u := e
    by_cases z : F a = none
    · rw [if_pos z] at e; exact e
    · rw [if_neg z] at e; cases e
  · have e : ts[j]? = some t := e
    have ef := List.all_eq_true.mp hfz t (List.mem_of_getElem? e)
    cases t with
    | fz d =>
      obtain ⟨v, h1, h2⟩ := hr.get (i := j) (d := d) (by rw [List.getElem?_map, e]; rfl)
      refine ⟨v, h1, ?_⟩
      unfold RepO; exact h2
    | ol _ => cases ef
    | od _ _ _ => cases ef
    | oi _ _ _ => cases ef
  · obtain ⟨hh, W2⟩ := back F' H' o' sd1 f W'
    refine ⟨⟨o, P, W2, r, fun a z => ?_⟩, hh⟩
    obtain ⟨h1, h2, h3, h4⟩ := k a z
    have fa : F a = none := f.free h2
    have h3 : (if F a = none then H a else none) = none := h3
    rw [if_pos fa] at h3
    exact ⟨h1, h2, W.gh.free h3, fun i q => (W.oh i a q).1 h3⟩
  · obtain ⟨hh, W2⟩ := back F' H' o' sd1 f W'
    exact ⟨⟨o, W2⟩, hh⟩
end
noncomputable def spD (K : PySem.W.Frag) (n : Nat) (m : List OT → ER OT) : Sp := fun vs H Q E => vs.length = n ∧ ∃ (G F : Hp) (ts : List OT), ts.length = n ∧ StR K vs G F ⟨[], ts⟩ [] H ∧
  match m ts with
  | .ok t sd' => ∀ v F' H', Same F F' → StR1 K vs G F' sd' [] H' v t → Q v H'
  | .rz x sd' => ∀ cls dd F' H', Same F F' → StR K vs G F' sd' [] H' → RepX K F' cls dd x → E cls dd H'
  | .bad => False
noncomputable def mCall0 (f : List OT → ER OT) (a : SD → ER (List D)) : SD → ER OT := fun sd => (a sd).bind fun ds sd1 =>
  match f (ds.map .fz) with
  | .ok t _ => .ok t sd1
  | .rz x _ => .rz x sd1
  | .bad => .bad
theorem map_view_fz : ∀ ds : List D, (ds.map OT.fz).map OT.view = ds
  | [] => rfl
  | d :: ds => by rw [List.map_cons, List.map_cons, OT.view, map_view_fz ds]
theorem all_fz : ∀ ds : List D, (ds.map OT.fz).all (fun t => match t with | .fz _ => true | _ => false) = true
  | [] => rfl
  | d :: ds => by rw [List.map_cons, List.all_cons, all_fz ds]; rfl
section
variable {X : Cx} {pv : List V} {W : WX} {p q k l : Bool} {e a b : Expr} {es : List Expr}
theorem tr_call0 {sp : Sp} {n : Nat} {f : List OT → ER OT} {ta : TA} {m : SD → ER (List D)} (hsp : sp = spD X.K n f) (hn : ∀ sd ds sd1, m sd = .ok ds sd1 → ds.length = n) (h : TrA X.K pv W p true ta m) :
    TrO X.K pv W p (fun σ H Q => ta σ H fun vs H1 => sp vs H1 Q (WE W σ)) (mCall0 f m) := by
  intro G F sd σ H Q s
  subst hsp
  have z := h G F sd σ H (fun vs H1 => spD X.K n f vs H1 Q (WE W σ)) s
  unfold mCall0
  have hn := hn sd
  revert z hn
  cases m sd with
  | bad => exact fun _ _ => True.intro
  | rz x sd1 => exact fun z _ => z
  | ok ds sd1 =>
    intro z hn
    have hn := hn ds sd1 rfl
    show Meets X.K pv W G σ (RSo X.K pv) p sd F H (match f (ds.map .fz) with
      | .ok t _ => .ok t sd1
      | .rz x _ => .rz x sd1
      | .bad => .bad) Q _
    cases e : f (ds.map .fz) with
    | bad => exact True.intro
    | rz x s' =>
      intro hW
      refine z fun vs F1 H1 s1 s2 s3 s4 => ?_
      have s3 : Reps X.K F1 vs ds := s3
      obtain ⟨G', g1, g2, g3⟩ := s2.give (ts := ds.map .fz) (vs := vs) ⟨by rw [map_view_fz]; exact s3, all_fz ds⟩
      refine ⟨by rw [s3.length, hn], G', F1, ds.map .fz, by rw [List.length_map, hn], g1, ?_⟩
      rw [e]
      intro cls dd F2 H2 t1 t2 t3
      obtain ⟨u1, u2⟩ := g3 F2 H2 s' t1 t2
      exact hW cls dd F2 H2 (s1.trans t1) u1 t3
    | ok t s' =>
      intro hQ
      refine z fun vs F1 H1 s1 s2 s3 s4 => ?_
      have s3 : Reps X.K F1 vs ds := s3
      obtain ⟨G', g1, g2, g3⟩ := s2.give (ts := ds.map .fz) (vs := vs) ⟨by rw [map_view_fz]; exact s3, all_fz ds⟩
      refine ⟨by rw [s3.length, hn], G', F1, ds.map .fz, by rw [List.length_map, hn], g1, ?_⟩
      rw [e]
      intro v F2 H2 t1 t2
      obtain ⟨u1, u2⟩ := g2 F2 H2 v t s' t1 t2
      refine hQ v F2 H2 (s1.trans t1) u1.drop u1 fun hp => ?_
      obtain ⟨a1, a2⟩ := s4 hp
      exact ⟨a1.trans u2, a2⟩
/-- how many arguments there are -/
theorem len_nil : ∀ sd ds sd1, mNil sd = .ok ds sd1 → ds.length = 0 := fun sd ds sd1 h => by cases h; rfl
theorem len_cons {ma : SD → ER D} {mr : SD → ER (List D)} {n : Nat} (h : ∀ sd ds sd1, mr sd = .ok ds sd1 → ds.length = n) : ∀ sd ds sd1, mCons ma mr sd = .ok ds sd1 → ds.length = n + 1 := fun sd ds sd1 e => by
  unfold mCons at e
  cases e1 : ma sd with
  | bad => rw [e1] at e; cases e
  | rz x s => rw [e1] at e; cases e
  | ok d s =>
    rw [e1] at e
    have e : (mr s).bind (fun xs sd2 => ER.ok (d :: xs) sd2) = .ok ds sd1 := e
    cases e2 : mr s with
    | bad => rw [e2] at e; cases e
    | rz x s2 => rw [e2] at e; cases e
    | ok ys s2 =>
      rw [e2] at e
      cases e
      rw [List.length_cons, h s ys _ e2]
theorem do_call0 {n j : Nat} {f : Addr} {fd : FuncData} {ps : List Str} {x : Str} {pp pos : Pos} {g : List OT → ER OT} {m : SD → ER (List D)} (F : FnG X.prog X.w X.K X.mg X.base (L2.CX X.prog X.w) j f fd ps (spD X.K n g)) (hr : RoomG j X.A) (hg : Gl X x)
    (hm : X.mg x = some (.ref f)) (hk : PySem.W.keepIn X.K (.ref f) = true) (hb : Binds X.K fd ps []) (tk : Takes X W) (ha : DA X pv W p true (e :: es) m) (hn : ∀ sd ds sd1, m sd = .ok ds sd1 → ds.length = n)
    (hdb : (x == ("__debug__" : Str)) = false := by decide) (he : starEach (e :: es) X.env = (false, eval e X.env) :: starEach es X.env := by rfl) (hpl : (backTo pos (starEach es X.env)).any (·.1) = false := by rfl) :
    DO X pv W p (.Call (.Name x pp) (e :: es) [] pos) (mCall0 g m) := by
  obtain ⟨ta, a1, a2⟩ := ha
  exact ⟨_, pe_callG F hr hg hm hk hb tk a1 hdb he hpl, tr_call0 rfl hn a2⟩
end
inductive Fl where
  | nx (sd : SD)
  | rt (t : OT) (sd : SD)
  | bk (sd : SD)
  | ct (sd : SD)
  | rz (x : Exn) (sd : SD)
  | bad
noncomputable def ER.stm {α : Type} (r : ER α) (f : α → SD → Fl) : Fl :=
  match r with
  | .ok a sd => f a sd
  | .rz x sd => .rz x sd
  | .bad => .bad
noncomputable def Fl.seq (r : Fl) (f : SD → Fl) : Fl :=
  match r with
  | .nx sd => f sd
  | r => r
noncomputable def MeetsS (K : PySem.W.Frag) (pv : List V) (W : WX) (G : Hp) (F : Hp) (r : Fl) (D : Ends) (P : Prop) : Prop :=
  match r with
  | .nx sd' => (∀ F' σ' H', Same F F' → StR K pv G F' sd' σ' H' → D.nx σ' H') → P
  | .rt t sd' => (∀ v F' σ' H', Same F F' → StR1 K pv G F' sd' σ' H' v t → D.rt v H') → P
  | .bk sd' => (∀ F' σ' H', Same F F' → StR K pv G F' sd' σ' H' → D.bk σ' H') → P
  | .ct sd' => (∀ F' σ' H', Same F F' → StR K pv G F' sd' σ' H' → D.ct σ' H') → P
  | .rz x sd' => (∀ cls dd F' σ' H', Same F F' → StR K pv G F' sd' σ' H' → RepX K F' cls dd x → W cls dd σ' H') → P
  | .bad => True
noncomputable def TrS (K : PySem.W.Frag) (pv : List V) (W : WX) (ts : TS) (m : SD → Fl) : Prop := ∀ G F sd σ H D, StR K pv G F sd σ H → MeetsS K pv W G F (m sd) D (ts D σ H)
structure DS (X : Cx) (pv : List V) (W : WX) (st : Stmt) (m : SD → Fl) : Prop where
  ex : ∃ ts, PS X st ts ∧ TrS X.K pv W ts m
structure DSs (X : Cx) (pv : List V) (W : WX) (st : List Stmt) (m : SD → Fl) : Prop where
  ex : ∃ ts, PSs X st ts ∧ TrS X.K pv W ts m
section
variable {α β : Type} {K : PySem.W.Frag} {pv : List V} {W : WX} {G F H : Hp} {σ : L2.St} {sd : SD} {p q : Bool}
theorem Meets.stm {RS : RSt β α} {r : ER α} {f : α → SD → Fl} {D : Ends} {k : β → Hp → Prop} {P : Prop} (h : Meets K pv W G σ RS p sd F H r k P)
    (g : ∀ v F1 H1 a sd1, Same F F1 → StR K pv G F1 sd1 σ H1 → RS G F1 sd1 H1 σ v a → MeetsS K pv W G F1 (f a sd1) D (k v H1)) : MeetsS K pv W G F (r.stm f) D P := by
  cases r with
  | bad => exact True.intro
  | rz x sd' => exact fun hW => h fun cls dd F1 H1 s1 s2 s3 => hW cls dd F1 σ H1 s1 s2 s3
  | ok a sd1 =>
    show MeetsS K pv W G F (f a sd1) D P
    have h' : (∀ v F' H', Same F F' → StR K pv G F' sd1 σ H' → RS G F' sd1 H' σ v a → (p = true → Same H H' ∧ sd1 = sd) → k v H') → P := h
    have g' := fun v F1 H1 s1 s2 s3 => g v F1 H1 a sd1 s1 s2 s3
    revert g'
    cases f a sd1 with
    | bad => exact fun _ => True.intro
    | rz x sd2 => exact fun g' hW => h' fun v F1 H1 s1 s2 s3 s4 => g' v F1 H1 s1 s2 s3 fun cls dd F2 σ2 H2 t1 t2 t3 => hW cls dd F2 σ2 H2 (s1.trans t1) t2 t3
    | nx sd2 => exact fun g' hQ => h' fun v F1 H1 s1 s2 s3 s4 => g' v F1 H1 s1 s2 s3 fun F2 σ2 H2 t1 t2 => hQ F2 σ2 H2 (s1.trans t1) t2
    | bk sd2 => exact fun g' hQ => h' fun v F1 H1 s1 s2 s3 s4 => g' v F1 H1 s1 s2 s3 fun F2 σ2 H2 t1 t2 => hQ F2 σ2 H2 (s1.trans t1) t2
    | ct sd2 => exact fun g' hQ => h' fun v F1 H1 s1 s2 s3 s4 => g' v F1 H1 s1 s2 s3 fun F2 σ2 H2 t1 t2 => hQ F2 σ2 H2 (s1.trans t1) t2
    | rt t sd2 => exact fun g' hQ => h' fun v F1 H1 s1 s2 s3 s4 => g' v F1 H1 s1 s2 s3 fun v2 F2 σ2 H2 t1 t2 => hQ v2 F2 σ2 H2 (s1.trans t1) t2
theorem MeetsS.seq {r : Fl} {f : SD → Fl} {D : Ends} {N : L2.St → Hp → Prop} {P : Prop} (h : MeetsS K pv W G F r { D with nx := N } P)
    (g : ∀ F1 σ1 H1 sd1, Same F F1 → StR K pv G F1 sd1 σ1 H1 → MeetsS K pv W G F1 (f sd1) D (N σ1 H1)) : MeetsS K pv W G F (r.seq f) D P := by
  cases r with
  | bad => exact True.intro
  | rz x sd' => exact h
  | bk sd' => exact h
  | ct sd' => exact h
  | rt t sd' => exact h
  | nx sd1 =>
    show MeetsS K pv W G F (f sd1) D P
    have h' : (∀ F' σ' H', Same F F' → StR K pv G F' sd1 σ' H' → N σ' H') → P := h
    have g' := fun F1 σ1 H1 s1 s2 => g F1 σ1 H1 sd1 s1 s2
    revert g'
    cases f sd1 with
    | bad => exact fun _ => True.intro
    | rz x sd2 => exact fun g' hW => h' fun F1 σ1 H1 s1 s2 => g' F1 σ1 H1 s1 s2 fun cls dd F2 σ2 H2 t1 t2 t3 => hW cls dd F2 σ2 H2 (s1.trans t1) t2 t3
    | nx sd2 => exact fun g' hQ => h' fun F1 σ1 H1 s1 s2 => g' F1 σ1 H1 s1 s2 fun F2 σ2 H2 t1 t2 => hQ F2 σ2 H2 (s1.trans t1) t2
    | bk sd2 => exact fun g' hQ => h' fun F1 σ1 H1 s1 s2 => g' F1 σ1 H1 s1 s2 fun F2 σ2 H2 t1 t2 => hQ F2 σ2 H2 (s1.trans t1) t2
    | ct sd2 => exact fun g' hQ => h' fun F1 σ1 H1 s1 s2 => g' F1 σ1 H1 s1 s2 fun F2 σ2 H2 t1 t2 => hQ F2 σ2 H2 (s1.trans t1) t2
    | rt t sd2 => exact fun g' hQ => h' fun F1 σ1 H1 s1 s2 => g' F1 σ1 H1 s1 s2 fun v2 F2 σ2 H2 t1 t2 => hQ v2 F2 σ2 H2 (s1.trans t1) t2
theorem MeetsS.imp {r : Fl} {D : Ends} {P P' : Prop} (h : MeetsS K pv W G F r D P) (hP : P → P') : MeetsS K pv W G F r D P' := by
  cases r with
  | bad => exact True.intro
  | rz x sd' => exact fun z => hP (h z)
  | bk sd' => exact fun z => hP (h z)
  | ct sd' => exact fun z => hP (h z)
  | rt t sd' => exact fun z => hP (h z)
  | nx sd' => exact fun z => hP (h z)
end
noncomputable def sNil : SD → Fl := .nx
noncomputable def sSeq (a b : SD → Fl) : SD → Fl := fun sd => (a sd).seq b
noncomputable def sSet (i : Nat) (m : SD → ER OT) : SD → Fl := fun sd => (m sd).stm fun t sd1 => if i < sd1.sl.length then .nx { sd1 with sl := sd1.sl.set i (.ow t) } else .bad
noncomputable def sRet (m : SD → ER OT) : SD → Fl := fun sd => (m sd).stm fun t sd1 => .rt t sd1
noncomputable def sIf (c : SD → ER Bool) (a b : SD → Fl) : SD → Fl := fun sd => (c sd).stm fun x sd1 => if x = true then a sd1 else b sd1
noncomputable def sDrop (m : SD → ER D) : SD → Fl := fun sd => (m sd).stm fun _ sd1 => .nx sd1
noncomputable def sNever : SD → Fl := fun _ => .bad
noncomputable def sBreak : SD → Fl := .bk
noncomputable def sCont : SD → Fl := .ct
section
variable {X : Cx} {pv : List V} {W : WX} {p q k l : Bool} {e a b : Expr} {es : List Expr} {pos : Pos}
theorem dss_nil : DSs X pv W [] sNil := ⟨_, pss_nil, fun G F sd σ H D s hQ => hQ F σ H (Same.refl _) s⟩
theorem tr_seq {t u : TS} {ma mb : SD → Fl} (h1 : TrS X.K pv W t ma) (h2 : TrS X.K pv W u mb) : TrS X.K pv W (tSeq t u) (sSeq ma mb) := fun G F sd σ H D s =>
  MeetsS.seq (N := u D) (h1 G F sd σ H { D with nx := u D } s) fun F1 σ1 H1 sd1 s1 s2 => h2 G F1 sd1 σ1 H1 D s2
theorem dss_cons {st : Stmt} {rest : List Stmt} {ma mb : SD → Fl} (h1 : DS X pv W st ma) (h2 : DSs X pv W rest mb) : DSs X pv W (st :: rest) (sSeq ma mb) := by
  obtain ⟨t, a1, a2⟩ := h1
  obtain ⟨u, b1, b2⟩ := h2
  exact ⟨_, pss_cons a1 b1, tr_seq a2 b2⟩
theorem dss_one {st : Stmt} {ma : SD → Fl} (h1 : DS X pv W st ma) : DSs X pv W [st] ma := by
  obtain ⟨t, a1, a2⟩ := h1
  exact ⟨_, pss_one a1, a2⟩
theorem ds_never {st : Stmt} : DS X pv W st sNever := ⟨_, ps_never, fun G F sd σ H D s => True.intro⟩
theorem tr_set {te : TE} {i : Nat} {m : SD → ER OT} (h : TrO X.K pv W p te m) : TrS X.K pv W (tAsg te (gName i)) (sSet i m) := by
  intro G F sd σ H D s
  refine Meets.stm (h G F sd σ H _ s) fun v F1 H1 t sd1 s1 s2 s3 => ?_
  split
  · rename_i hi
    exact fun hQ => hQ F1 _ H1 (Same.refl _) (StR1.store s3 hi)
  · exact True.intro
theorem ds_set {i : Nat} {x : Str} {pos' : Pos} {m : SD → ER OT} (hN : X.N.Nodup) (hi : X.N[i]? = some x) (hx : Loc X.env.scope x) (he : DO X pv W p e m) (hs : swapsWith e (some (.Name x pos')) pos.line X.env = pure false := by rfl)
    (hf : X.fn x = true ∨ X.env.scope.names.lookup x = some .local := by first | exact .inl rfl | exact .inr rfl | assumption) : DS X pv W (.Assign [.Name x pos'] e pos) (sSet i m) := by
  obtain ⟨te, a1, a2⟩ := he
  exact ⟨_, ps_set hN hi hx a1 hs hf, tr_set a2⟩
theorem ds_ret {m : SD → ER OT} (he : DO X pv W p e m) : DS X pv W (.Return (some e) pos) (sRet m) := by
  obtain ⟨te, a1, a2⟩ := he
  refine ⟨_, ps_ret a1, fun G F sd σ H D s => ?_⟩
  exact Meets.stm (a2 G F sd σ H D.rt s) fun v F1 H1 t sd1 s1 s2 s3 hQ => hQ v F1 σ H1 (Same.refl _) s3
theorem ds_if {c : Expr} {sa sb : List Stmt} {mc : SD → ER Bool} {ma mb : SD → Fl} (hc : DT X pv W p c mc) (ha : DSs X pv W sa ma) (hb : DSs X pv W sb mb) : DS X pv W (.If c sa sb pos) (sIf mc ma mb) := by
  obtain ⟨tc, c1, c2⟩ := hc
  obtain ⟨t, a1, a2⟩ := ha
  obtain ⟨u, b1, b2⟩ := hb
  refine ⟨_, ps_if c1 a1 b1, fun G F sd σ H D s => ?_⟩
  refine Meets.stm (c2 G F sd σ H _ s) fun x F1 H1 dx sd1 s1 s2 s3 => ?_
  have s3 : x = dx := s3
  subst s3
  cases x with
  | true => exact a2 G F1 sd1 σ H1 D s2
  | false => exact b2 G F1 sd1 σ H1 D s2
theorem ds_expr {m : SD → ER D} (he : DX X pv W p k e m) (hs : swapsWith e none pos.line X.env = pure false := by rfl) : DS X pv W (.Expr e pos) (sDrop m) := by
  obtain ⟨te, a1, a2⟩ := he
  refine ⟨_, ps_expr a1 hs, fun G F sd σ H D s => ?_⟩
  exact Meets.stm (a2 G F sd σ H _ s) fun v F1 H1 d sd1 s1 s2 s3 hQ => hQ F1 σ H1 (Same.refl _) s2
end
/-- the slots at the entry: a parameter that is handed over as a tree is the caller's -/
noncomputable def slotsOf : Nat → List OT → List S
  | _, [] => []
  | j, .fz d :: ts => .ow (.fz d) :: slotsOf (j + 1) ts
  | j, _ :: ts => .pa j :: slotsOf (j + 1) ts
theorem slotsOf_length : ∀ (j : Nat) (ts : List OT), (slotsOf j ts).length = ts.length
  | _, [] => rfl
  | j, .fz d :: ts => by rw [slotsOf, List.length_cons, List.length_cons, slotsOf_length]
  | j, .ol _ :: ts => by rw [slotsOf, List.length_cons, List.length_cons, slotsOf_length] <;> exact fun _ h => nomatch h
  | j, .od _ _ _ :: ts => by rw [slotsOf, List.length_cons, List.length_cons, slotsOf_length] <;> exact fun _ h => nomatch h
  | j, .oi _ _ _ :: ts => by rw [slotsOf, List.length_cons, List.length_cons, slotsOf_length] <;> exact fun _ h => nomatch h
theorem slotsOf_get : ∀ (j : Nat) (ts : List OT) (i : Nat) (t : OT), ts[i]? = some t → (slotsOf j ts)[i]? = some (match t with | .fz d => .ow (.fz d) | _ => .pa (j + i))
  | j, [], i, t, h => by simp at h
  | j, .fz d :: ts, 0, t, h => by simp at h; subst h; rw [slotsOf]; rfl
  | j, .ol _ :: ts, 0, t, h => by simp at h; subst h; rw [slotsOf]; rfl; exact fun _ h => nomatch h
  | j, .od _ _ _ :: ts, 0, t, h => by simp at h; subst h; rw [slotsOf]; rfl; exact fun _ h => nomatch h
  | j, .oi _ _ _ :: ts, 0, t, h => by simp at h; subst h; rw [slotsOf]; rfl; exact fun _ h => nomatch h
  | j, .fz d :: ts, i + 1, t, h => by
    rw [slotsOf]
    have z := slotsOf_get (j + 1) ts i t (by simpa using h)
    rw [List.getElem?_cons_succ, z, Nat.add_right_comm, Nat.add_assoc]
  | j, .ol _ :: ts, i + 1, t, h => by
    rw [slotsOf]
    · have z := slotsOf_get (j + 1) ts i t (by simpa using h)
      rw [List.getElem?_cons_succ, z, Nat.add_right_comm, Nat.add_assoc]
    · exact fun _ h => nomatch h
  | j, .od _ _ _ :: ts, i + 1, t, h => by
    rw [slotsOf]
    · have z := slotsOf_get (j + 1) ts i t (by simpa using h)
      rw [List.getElem?_cons_succ, z, Nat.add_right_comm, Nat.add_assoc]
    · exact fun _ h => nomatch h
  | j, .oi _ _ _ :: ts, i + 1, t, h => by
    rw [slotsOf]
    · have z := slotsOf_get (j + 1) ts i t (by simpa using h)
      rw [List.getElem?_cons_succ, z, Nat.add_right_comm, Nat.add_assoc]
    · exact fun _ h => nomatch h
/-- the state at a def's entry; n: the names of the def -/
noncomputable def entry (n : Nat) (ts : List OT) : SD := ⟨slotsOf 0 ts ++ List.replicate (n - ts.length) .un, ts⟩
/-- a body as a def's mirror -/
noncomputable def asDef (n : Nat) (body : SD → Fl) : List OT → ER OT := fun ts => match body (entry n ts) with
  | .rt t sd => .ok t ⟨[], sd.pa⟩
  | .nx sd => .ok (.fz .non) ⟨[], sd.pa⟩
  | .rz x sd => .rz x ⟨[], sd.pa⟩
  | _ => .bad
section
variable {K : PySem.W.Frag} {pv : List V} {G F H : Hp} {sd : SD} {σ : L2.St}
theorem StR.bare (s : StR K pv G F sd σ H) : StR K pv G F ⟨[], sd.pa⟩ [] H := by
  obtain ⟨o, W⟩ := s
  exact ⟨o, W.fh, W.gh, W.fg, W.oh, W.oo, rfl, fun i t e => by simp at e, fun i j e => by simp at e, W.pr, W.tf⟩
theorem StR1.bare {v : V} {t : OT} (s : StR1 K pv G F sd σ H v t) : StR1 K pv G F ⟨[], sd.pa⟩ [] H v t := by
  obtain ⟨o, P, W, r⟩ := s
  exact ⟨o, P, ⟨W.fh, W.gh, W.fg, W.oh, W.oo, rfl, fun i t e => by simp at e, fun i j e => by simp at e, W.pr, W.tf⟩, r⟩
theorem StR.enter {ts : List OT} {vs : List V} {N : List Str} (s : StR K vs G F ⟨[], ts⟩ [] H) (hl : vs.length = ts.length) (hN : ts.length ≤ N.length) : StR K vs G F (entry N.length ts) (L2.start N vs) H := by
  obtain ⟨o, W⟩ := s
  have at1 : ∀ (i : Nat) (S1 : S), (entry N.length ts).sl[i]? = some S1 → S1 ≠ .un → ∃ t v, ts[i]? = some t ∧ vs[i]? = some v ∧ (L2.start N vs)[i]? = some (some v) ∧ S1 = (match t with | .fz d => .ow (.fz d) | _ => .pa i) := fun i S1 e hu => by
    have e : (slotsOf 0 ts ++ List.replicate (N.length - ts.length) .un)[i]? = some S1 := e
    by_cases hi : i < ts.length
    · have h1 : ts[i]? = some ts[i] := by simp [hi]
      have z := slotsOf_get 0 ts i _ h1
      rw [List.getElem?_append_left (by rw [slotsOf_length]; exact hi), z] at e
      have hv : i < vs.length := by omega
      refine ⟨ts[i], vs[i], h1, by simp [hv], ?_, ?_⟩
      · unfold L2.start
        rw [List.getElem?_append_left (by simpa using hv), List.getElem?_map]
        simp [hv]
      · have e := Option.some.inj e
        rw [← e]
        cases ts[i] <;> simp
    · rw [List.getElem?_append_right (by rw [slotsOf_length]; omega), List.getElem?_replicate] at e
      split at e
      · exact absurd (Option.some.inj e).symm hu
      · cases e
  refine ⟨fun i a => match i with | .inl _ => False | .inr j => o (.inr j) a, W.fh, W.gh, W.fg, fun i a q => ?_, fun i j a q q' => ?_, ?_, fun i t e => ?_, fun i j e => ?_, fun j t e => ?_, W.tf⟩
  · cases i with
    | inl _ => exact q.elim
    | inr j => exact W.oh (.inr j) a q
  · cases i with
    | inl _ => exact q.elim
    | inr i =>
      cases j with
      | inl _ => exact q'.elim
      | inr j => exact W.oo _ _ a q q'
  · unfold L2.start entry
    rw [List.length_append, List.length_append, List.length_map, List.length_replicate, List.length_replicate, slotsOf_length, hl]
  · obtain ⟨t', v, h1, h2, h3, h4⟩ := at1 i _ e (by intro z; cases z)
    cases t' with
    | fz d =>
      have h4 : S.ow t = .ow (.fz d) := h4
      cases h4
      obtain ⟨v', q1, q2⟩ := W.pr i _ h1
      rw [h2] at q1; cases q1
      refine ⟨v, h3, ?_⟩
      unfold RepO at q2 ⊢
      exact q2
    | ol _ => cases h4
    | od _ _ _ => cases h4
    | oi _ _ _ => cases h4
  · obtain ⟨t', v, h1, h2, h3, h4⟩ := at1 i _ e (by intro z; cases z)
    cases t' with
    | fz d => cases h4
    | ol _ =>
      cases h4; exact ⟨v, h2, h3⟩
    | od _ _ _ =>
      cases h4; exact ⟨v, h2, h3⟩
    | oi _ _ _ =>
      cases h4; exact ⟨v, h2, h3⟩
  · exact W.pr j t e
end
/-- THE RULE for a def -/
theorem fn_mirror {P : Program} {w : World} {K : PySem.W.Frag} {mg : Str → Option Value} {base : Heap} {x qual : Str} {st : Stmt} {f : Addr} {fd : FuncData} {N ps : List Str} {k : Nat} {body : SD → Fl} (F : Fun K x qual st f fd) (S : FnScope N ps (defScope st))
    (h : ∀ (X : Cx) (pv : List V) (W : WX) (cdv : Value) (A : Around) (outer : List Env) (s : Shared) (H : Hp) (E : XK), X = cxOf (L2.CX P w) P w K mg base N qual (defScope st) f cdv A outer s H E → Takes X W → RoomG k X.A → DSs X pv W (defBody st) body) :
    FnG P w K mg base (L2.CX P w) (k + 1) f fd ps (spD K ps.length (asDef N.length body)) := by
  refine fun_okG F S (fun vs H Q E hs => hs.1) fun cdv A outer s H vs Q E hr hs => ?_
  obtain ⟨hl, G, Fz, ts, htl, hst, hm⟩ := hs
  obtain ⟨t, h1, h2⟩ := h _ vs (fun cls d _ H => E cls d H) cdv A outer s H E rfl (takes_of rfl rfl rfl rfl) hr
  refine ⟨t, h1, ?_⟩
  have hpl : ps.length ≤ N.length := by have := congrArg List.length S.pre; rw [List.length_take] at this; omega
  have z := h2 G Fz (entry N.length ts) (L2.start N vs) H { nx := fun _ H' => Q .non H', rt := Q } (hst.enter (by omega) (by omega))
  unfold asDef at hm
  revert z hm
  cases body (entry N.length ts) with
  | bad => exact fun hm _ => hm.elim
  | bk sd' => exact fun hm _ => hm.elim
  | ct sd' => exact fun hm _ => hm.elim
  | nx sd' => exact fun hm z => z fun F' σ' H' s1 s2 => hm .non F' H' s1 (StR1.fz s2.bare .non)
  | rt t sd' => exact fun hm z => z fun v F' σ' H' s1 s2 => hm v F' H' s1 s2.bare
  | rz e sd' => exact fun hm z => z fun cls dd F' σ' H' s1 s2 s3 => hm cls dd F' H' s1 s2.bare s3
end DL
namespace DL
open PySem PySem.Spec L2
open PyProof.Rows (floordiv_int mod_int' pow_int)
noncomputable def dAdd : D → D → Option D
  | .int i, .int j => some (.int (i + j))
  | .str x, .str y => if x.length + y.length ≤ 16777216 then some (.str (x ++ y)) else none
  | _, _ => none
noncomputable def dSub : D → D → Option D
  | .int i, .int j => some (.int (i - j))
  | _, _ => none
noncomputable def dMul : D → D → Option D
  | .int i, .int j => if i.natAbs.log2 + j.natAbs.log2 < 1000000 then some (.int (i * j)) else none
  | _, _ => none
noncomputable def dDiv : D → D → Option D
  | .int i, .int j => if j ≠ 0 ∧ j.natAbs.log2 < 9000 then some (.int (i.fdiv j)) else none
  | _, _ => none
noncomputable def dMod : D → D → Option D
  | .int i, .int j => if j ≠ 0 then some (.int (i.fmod j)) else none
  | _, _ => none
noncomputable def dPow : D → D → Option D
  | .int i, .int j => if 0 ≤ j ∧ (Builtin.Int.intBits i : Int) * j ≤ 134217728 then some (.int (i ^ j.toNat)) else none
  | _, _ => none
noncomputable def dNeg : D → Option D
  | .int i => some (.int (-i))
  | _ => none
noncomputable def dLt : D → D → Option D
  | .int i, .int j => some (.bl (decide (i < j)))
  | .str x, .str y => some (.bl (decide (x.cps.toList < y.cps.toList)))
  | _, _ => none
noncomputable def dLe : D → D → Option D
  | .int i, .int j => some (.bl (decide (i ≤ j)))
  | _, _ => none
noncomputable def dGt : D → D → Option D
  | .int i, .int j => some (.bl (decide (j < i)))
  | _, _ => none
noncomputable def dGe : D → D → Option D
  | .int i, .int j => some (.bl (decide (j ≤ i)))
  | _, _ => none
noncomputable def isNonD : D → Bool
  | .non => true
  | _ => false
noncomputable def dIsN : D → D → Option D
  | a, .non => some (.bl (isNonD a))
  | _, _ => none
noncomputable def dNotN : D → D → Option D
  | a, .non => some (.bl (!isNonD a))
  | _, _ => none
section
variable {X : Cx}
noncomputable def rDiv : R2 := rI (fun _ j => j ≠ 0 ∧ j.natAbs.log2 < 9000) fun i j => .int (i.fdiv j)
theorem op_divX : OpR X (binaryOp .FloorDiv) rDiv := opI fun _ _ _ _ _ _ _ hc q => floordiv_int hc.1 q (.inl (PyProof.noPylong_of_log2 hc.2))
noncomputable def rPow : R2 := rI (fun i j => 0 ≤ j ∧ (Builtin.Int.intBits i : Int) * j ≤ 134217728) fun i j => .int (i ^ j.toNat)
theorem op_powX : OpR X (binaryOp .Pow) rPow := opI fun _ _ _ _ _ _ _ hc q => pow_int hc.1 (by have := hc.2; simpa using this) q
noncomputable def rAddX : R2 := fun x y H Q => (rI0 fun i j => .int (i + j)) x y H Q ∨ ∃ i j, x = .str i ∧ y = .str j ∧ i.length + j.length ≤ sizeLine ∧ Q (.str (i ++ j)) H
theorem op_addX : OpR X (binaryOp .Add) rAddX := op_add.or op_add_str
end
section
variable {K : PySem.W.Frag}
theorem rep_int {H : Hp} {v : V} {i : Int} (r : Rep K H v (.int i)) : v = .int i := by cases r; rfl
theorem rep_str {H : Hp} {v : V} {x : Str} (r : Rep K H v (.str x)) : v = .str x := by cases r; rfl
theorem f_add : Op2S K rAddX dAdd := by
  intro H x y a b c ra rb h
  unfold dAdd at h
  split at h
  · cases h
    exact ⟨_, rfl, fun Q q => .inl ⟨_, _, rep_int ra, rep_int rb, q⟩⟩
  · split at h
    · rename_i hl
      cases h
      exact ⟨_, rfl, fun Q q => .inr ⟨_, _, rep_str ra, rep_str rb, by rw [sizeLine_eq]; exact hl, q⟩⟩
    · cases h
  · cases h
theorem f_sub : Op2S K (rI0 fun i j => .int (i - j)) dSub := by
  intro H x y a b c ra rb h
  unfold dSub at h
  split at h
  · cases h
    exact ⟨_, rfl, fun Q q => ⟨_, _, rep_int ra, rep_int rb, q⟩⟩
  · cases h
theorem f_mul : Op2S K (rI CMulW fun i j => .int (i * j)) dMul := by
  intro H x y a b c ra rb h
  unfold dMul at h
  split at h
  · split at h
    · rename_i hl
      cases h
      exact ⟨_, rfl, fun Q q => ⟨_, _, rep_int ra, rep_int rb, hl, q⟩⟩
    · cases h
  · cases h
theorem f_div : Op2S K rDiv dDiv := by
  intro H x y a b c ra rb h
  unfold dDiv at h
  split at h
  · split at h
    · rename_i hl
      cases h
      exact ⟨_, rfl, fun Q q => ⟨_, _, rep_int ra, rep_int rb, hl, q⟩⟩
    · cases h
  · cases h
theorem f_mod : Op2S K (rI (fun _ j => j ≠ 0) fun i j => .int (i.fmod j)) dMod := by
  intro H x y a b c ra rb h
  unfold dMod at h
  split at h
  · split at h
    · rename_i hl
      cases h
      exact ⟨_, rfl, fun Q q => ⟨_, _, rep_int ra, rep_int rb, hl, q⟩⟩
    · cases h
  · cases h
theorem f_pow : Op2S K rPow dPow := by
  intro H x y a b c ra rb h
  unfold dPow at h
  split at h
  · split at h
    · rename_i hl
      cases h
      exact ⟨_, rfl, fun Q q => ⟨_, _, rep_int ra, rep_int rb, hl, q⟩⟩
    · cases h
  · cases h
noncomputable def rLtX : R2 := fun x y H Q => (rI0 fun i j => .bl (decide (i < j))) x y H Q ∨ ∃ i j, x = .str i ∧ y = .str j ∧ Q (.bl (decide (i.cps.toList < j.cps.toList))) H
theorem op_ltX {X : Cx} : OpR X (compareOp .Lt) rLtX := op_lt.or op_lt_str
theorem f_lt : Op2S K rLtX dLt := by
  intro H x y a b c ra rb h
  unfold dLt at h
  split at h
  · cases h
    exact ⟨_, rfl, fun Q q => .inl ⟨_, _, rep_int ra, rep_int rb, q⟩⟩
  · cases h
    exact ⟨_, rfl, fun Q q => .inr ⟨_, _, rep_str ra, rep_str rb, q⟩⟩
  · cases h
theorem f_le : Op2S K (rI0 fun i j => .bl (decide (i ≤ j))) dLe := by
  intro H x y a b c ra rb h
  unfold dLe at h
  split at h
  · cases h
    exact ⟨_, rfl, fun Q q => ⟨_, _, rep_int ra, rep_int rb, q⟩⟩
  · cases h
theorem f_gt : Op2S K (rI0 fun i j => .bl (decide (j < i))) dGt := by
  intro H x y a b c ra rb h
  unfold dGt at h
  split at h
  · cases h
    exact ⟨_, rfl, fun Q q => ⟨_, _, rep_int ra, rep_int rb, q⟩⟩
  · cases h
end
mutual
noncomputable def D.py : D → Option PyData
  | .non => some .none
  | .bl b => some (.bool b)
  | .int i => some (.int i)
  | .str x => some (.str x)
  | .tup xs => (D.pys xs).map .tuple
  | .ktu xs => (D.pys xs).map .tuple
  | .lst xs => (D.pys xs).map .list
  | _ => none
noncomputable def D.pys : List D → Option (List PyData)
  | [] => some []
  | d :: ds => d.py.bind fun p => (D.pys ds).map (p :: ·)
end
section
variable {K : PySem.W.Frag} {F : Hp}
mutual
theorem Rep.dp : ∀ {v : V} {d : D} {p : PyData}, Rep K F v d → d.py = some p → Dp K F v p
  | _, _, _, .non, h => by rw [D.py] at h; cases h; exact .non
  | _, _, _, .bl b, h => by rw [D.py] at h; cases h; exact .bl b
  | _, _, _, .int i, h => by rw [D.py] at h; cases h; exact .int i
  | _, _, _, .str x, h => by rw [D.py] at h; cases h; exact .str x
  | _, _, _, .ty n, h => by simp [D.py] at h
  | _, _, _, .cls C, h => by simp [D.py] at h
  | _, _, p, .tup (ds := ds) s r, h => by
    rw [D.py] at h
    cases e : D.pys ds with
    | none => rw [e] at h; cases h
    | some ps => rw [e] at h; cases h; exact .tup (.inl (.inl s)) (Reps.dp r e)
  | _, _, p, .ktu (ds := ds) s r, h => by
    rw [D.py] at h
    cases e : D.pys ds with
    | none => rw [e] at h; cases h
    | some ps => rw [e] at h; cases h; exact .tup s (Reps.dp r e)
  | _, _, p, .lst (ds := ds) s r, h => by
    rw [D.py] at h
    cases e : D.pys ds with
    | none => rw [e] at h; cases h
    | some ps => rw [e] at h; cases h; exact .lst (.inl s) (Reps.dp r e)
  | _, _, _, .scr _, h => by simp [D.py] at h
  | _, _, _, .dicK _ _, h => by simp [D.py] at h
  | _, _, _, .dicT _ _, h => by simp [D.py] at h
  | _, _, _, .ins _ _, h => by simp [D.py] at h
  | _, _, _, .exc _ _ _ _, h => by simp [D.py] at h
theorem Reps.dp : ∀ {vs : List V} {ds : List D} {ps : List PyData}, Reps K F vs ds → D.pys ds = some ps → DpAll K F vs ps
  | _, _, _, .nil, h => by rw [D.pys] at h; cases h; exact .nil
  | _, _, ps, .cons (d := d) (ds := ds) r1 r2, h => by
    rw [D.pys] at h
    cases e : d.py with
    | none => rw [e] at h; cases h
    | some p =>
      rw [e] at h
      cases e2 : D.pys ds with
      | none => rw [e2] at h; cases h
      | some qs => rw [e2] at h; cases h; exact .cons (Rep.dp r1 e) (Reps.dp r2 e2)
end
end
noncomputable def dEqB (a b : D) : Option Bool := match a, b with
  | .int i, .int j => some (decide (i = j))
  | .str x, .str y => some (decide (x = y))
  | .bl x, .bl y => some (decide (x = y))
  | a, b => match a.py, b.py with
    | some p, some q => if (SeqAt.shaped p && SeqAt.shaped q) = true then some (PyData.eqv p q) else none
    | _, _ => none
noncomputable def dEq (a b : D) : Option D := (dEqB a b).map .bl
noncomputable def dNe (a b : D) : Option D := (dEqB a b).map fun c => .bl (!c)
noncomputable def rEqX (K : PySem.W.Frag) : R2 := fun x y H Q => rEq x y H Q ∨ rEqD K x y H Q
noncomputable def rNeX (K : PySem.W.Frag) : R2 := fun x y H Q => rNe x y H Q ∨ rNeD K x y H Q
theorem op_eqX {X : Cx} (hu : X.A.units + 64 < cLine) : OpR X (compareOp .Eq) (rEqX X.K) := op_eq.or (op_eqD hu)
theorem op_neX {X : Cx} (hu : X.A.units + 64 < cLine) : OpR X (compareOp .NotEq) (rNeX X.K) := op_ne.or (op_neD hu)
section
variable {K : PySem.W.Frag}
theorem eqB_of {H : Hp} {x y : V} {a b : D} {c : Bool} (ra : Rep K H x a) (rb : Rep K H y b) (h : dEqB a b = some c) :
    (scal x y = true ∧ decide (x = y) = c) ∨ ∃ d e, Dp K H x d ∧ Dp K H y e ∧ SeqAt.shaped d = true ∧ SeqAt.shaped e = true ∧ PyData.eqv d e = c := by
  have gen : (match a.py, b.py with
    | some p, some q => if (SeqAt.shaped p && SeqAt.shaped q) = true then some (PyData.eqv p q) else none
    | _, _ => none) = some c → (scal x y = true ∧ decide (x = y) = c) ∨ ∃ d e, Dp K H x d ∧ Dp K H y e ∧ SeqAt.shaped d = true ∧ SeqAt.shaped e = true ∧ PyData.eqv d e = c := fun h => by
    cases e1 : a.py with
    | none => rw [e1] at h; cases h
    | some p =>
      cases e2 : b.py with
      | none => rw [e1, e2] at h; cases h
      | some q =>
        rw [e1, e2] at h
        have h : (if (SeqAt.shaped p && SeqAt.shaped q) = true then some (PyData.eqv p q) else none) = some c := h
        split at h
        · rename_i hs
          rw [Bool.and_eq_true] at hs
          cases h
          exact .inr ⟨p, q, ra.dp e1, rb.dp e2, hs.1, hs.2, rfl⟩
        · cases h
  unfold dEqB at h
  split at h
  · cases ra; cases rb
    cases h
    exact .inl ⟨rfl, by simp⟩
  · cases ra; cases rb
    cases h
    exact .inl ⟨rfl, by simp⟩
  · cases ra; cases rb
    cases h
    exact .inl ⟨rfl, by simp⟩
  · exact gen h
theorem f_eq : Op2S K (rEqX K) dEq := by
  intro H x y a b c ra rb h
  unfold dEq at h
  cases e : dEqB a b with
  | none => rw [e] at h; cases h
  | some k =>
    rw [e] at h; cases h
    refine ⟨_, rfl, fun Q q => ?_⟩
    rcases eqB_of ra rb e with ⟨h1, h2⟩ | ⟨d, d2, h1, h2, h3, h4, h5⟩
    · subst h2; exact .inl ⟨h1, q⟩
    · subst h5; exact .inr ⟨d, d2, h1, h2, h3, h4, q⟩
theorem f_ne : Op2S K (rNeX K) dNe := by
  intro H x y a b c ra rb h
  unfold dNe at h
  cases e : dEqB a b with
  | none => rw [e] at h; cases h
  | some k =>
    rw [e] at h; cases h
    refine ⟨_, rfl, fun Q q => ?_⟩
    rcases eqB_of ra rb e with ⟨h1, h2⟩ | ⟨d, d2, h1, h2, h3, h4, h5⟩
    · subst h2; exact .inl ⟨h1, q⟩
    · subst h5; exact .inr ⟨d, d2, h1, h2, h3, h4, q⟩
end
section
variable {X : Cx} {pv : List V} {W : WX} {p q k l : Bool} {e a b c : Expr} {es : List Expr} {pos : Pos}
theorem dx_neg {m : SD → ER D} (h : DX X pv W p k a m) : DX X pv W p true (.UnaryOp .USub a pos) (mUn dNeg m) := by
  obtain ⟨te, a1, a2⟩ := h
  refine ⟨_, pe_un un_neg a1, fun G F sd σ H Q s => ?_⟩
  have hp : p = (p && true) := by cases p <;> rfl
  rw [hp]
  refine Meets.bind (a2 G F sd σ H _ s) fun x F1 H1 dx sd1 s1 s2 s3 s4 => ?_
  have r := RSx.see s3 s2
  cases dx with
  | int i =>
    cases r
    exact Meets.here s2 (show RSx X.K true G F1 sd1 H1 σ (.int (-i)) (.int (-i)) from .int _) fun q => ⟨i, rfl, q⟩
  | _ => exact True.intro
noncomputable def mAndV (a b : SD → ER D) : SD → ER D := fun sd => (a sd).bind fun x sd1 => match x with
  | .bl true => b sd1
  | .bl false => .ok (.bl false) sd1
  | _ => .bad
noncomputable def mOrV (a b : SD → ER D) : SD → ER D := fun sd => (a sd).bind fun x sd1 => match x with
  | .bl true => .ok (.bl true) sd1
  | .bl false => b sd1
  | _ => .bad
noncomputable def mNotV (a : SD → ER D) : SD → ER D := fun sd => (a sd).bind fun x sd1 => match x with
  | .bl b => .ok (.bl (!b)) sd1
  | _ => .bad
theorem dx_one {op : BoolOp} {m : SD → ER D} (h : DX X pv W p k a m) (hop : ∀ {te : TE}, PE X a te → PE X (.BoolOp op [a] pos) te) : DX X pv W p k (.BoolOp op [a] pos) m := by
  obtain ⟨te, a1, a2⟩ := h
  exact ⟨te, hop a1, a2⟩
theorem dx_and {ma mb : SD → ER D} (h : DX X pv W p k a ma) (h2 : DX X pv W q true (.BoolOp .And (b :: es) pos) mb) : DX X pv W (p && q) true (.BoolOp .And (a :: b :: es) pos) (mAndV ma mb) := by
  obtain ⟨te, a1, a2⟩ := h
  obtain ⟨tf, b1, b2⟩ := h2
  refine ⟨_, pe_and a1 b1, fun G F sd σ H Q s => ?_⟩
  refine Meets.bind (a2 G F sd σ H _ s) fun x F1 H1 dx sd1 s1 s2 s3 s4 => ?_
  have r := RSx.see s3 s2
  cases dx with
  | bl b =>
    cases r
    cases b with
    | true =>
      refine Meets.imp (f := id) (b2 G F1 sd1 σ H1 Q s2) (fun z => ⟨true, rfl, by rw [if_pos rfl]; exact z⟩) ?_ fun v F2 H2 a2 sd2 _ t1 t2 t3 t4 hQ => hQ v F2 H2 (Same.refl _) t2 t3 (Same.refl _)
      show mb sd1 = (mb sd1).bind fun a sd1 => .ok a sd1
      cases mb sd1 <;> rfl
    | false => exact Meets.here s2 (show RSx X.K true G F1 sd1 H1 σ (.bl false) (.bl false) from .bl _) fun q => ⟨false, rfl, by rw [if_neg (by decide)]; exact q⟩
  | _ => exact True.intro
theorem dx_and1 {m : SD → ER D} (h : DX X pv W p k a m) : DX X pv W p k (.BoolOp .And [a] pos) m := dx_one h fun z => pe_one z
theorem dx_not {m : SD → ER D} (h : DX X pv W p k a m) : DX X pv W p true (.UnaryOp .Not a pos) (mNotV m) := by
  obtain ⟨te, a1, a2⟩ := h
  refine ⟨_, pe_not a1, fun G F sd σ H Q s => ?_⟩
  have hp : p = (p && true) := by cases p <;> rfl
  rw [hp]
  refine Meets.bind (a2 G F sd σ H _ s) fun x F1 H1 dx sd1 s1 s2 s3 s4 => ?_
  have r := RSx.see s3 s2
  cases dx with
  | bl b =>
    cases r
    exact Meets.here s2 (show RSx X.K true G F1 sd1 H1 σ (.bl (!b)) (.bl (!b)) from .bl _) fun q => ⟨b, rfl, q⟩
  | _ => exact True.intro
/-- a < b < c -/
noncomputable def mChain (f g : D → D → Option D) (a b c : SD → ER D) : SD → ER D := fun sd => (a sd).bind fun x sd1 => (b sd1).bind fun y sd2 => match f x y with
  | some (.bl true) => (c sd2).bind fun z sd3 => ER.opt (g y z) sd3
  | some (.bl false) => .ok (.bl false) sd2
  | _ => .bad
end
end DL
namespace DL
open PySem PySem.Spec L2
section
variable {α β : Type} {K : PySem.W.Frag} {pv : List V} {W : WX} {G F H : Hp} {σ : L2.St} {sd : SD} {p q : Bool}
theorem Meets.to {RS : RSt β α} {r : ER α} {Q : β → Hp → Prop} {P P' : Prop} (h : Meets K pv W G σ RS p sd F H r Q P) (hP : P → P') : Meets K pv W G σ RS p sd F H r Q P' := by
  cases r with
  | bad => exact True.intro
  | rz x sd' => exact fun z => hP (h z)
  | ok a sd' => exact fun z => hP (h z)
theorem Meets.bindL {γ δ : Type} {RS : RSt β α} {RS' : RSt δ γ} {r : ER α} {f : α → SD → ER γ} {Q : δ → Hp → Prop} {k : β → Hp → Prop} {P : Prop} (h : Meets K pv W G σ RS p sd F H r k P)
    (g : ∀ v F1 H1 a sd1, Same F F1 → StR K pv G F1 sd1 σ H1 → RS G F1 sd1 H1 σ v a → (p = true → Same H H1 ∧ sd1 = sd) → Meets K pv W G σ RS' true sd1 F1 H1 (f a sd1) Q (k v H1)) :
    Meets K pv W G σ RS' p sd F H (r.bind f) Q P := by
  have z := Meets.bind h g
  have hp : (p && true) = p := by cases p <;> rfl
  rw [hp] at z
  exact z
end
section
variable {X : Cx} {pv : List V} {W : WX} {p q k l : Bool} {e a b c : Expr} {es : List Expr} {pos : Pos}
theorem tr_chain {r r' : R2} {f g : D → D → Option D} {ta tb tc : TE} {ma mb mc : SD → ER D} {q' l' : Bool} (hf : Op2S X.K r f) (hg : Op2S X.K r' g) (ha : TrX X.K pv W p k ta ma) (hb : TrX X.K pv W q l tb mb) (hc : TrX X.K pv W q' l' tc mc)
    (hk : (k || q) = true) (hk2 : (l || q') = true) : TrX X.K pv W (p && (q && q')) true (tChain r r' ta tb tc) (mChain f g ma mb mc) := by
  intro G F sd σ H Q s
  refine Meets.bind (ha G F sd σ H _ s) fun x F1 H1 dx sd1 s1 s2 s3 s4 => ?_
  refine Meets.bind (hb G F1 sd1 σ H1 _ s2) fun y F2 H2 dy sd2 t1 t2 t3 t4 => ?_
  have rx : Rep X.K H2 x dx := by
    cases k with
    | true => exact Rep.mono t2.fh (Rep.mono t1 s3)
    | false => exact Rep.mono (t4 (by simpa using hk)).1 s3
  split
  · rename_i e
    obtain ⟨v, h1, h2⟩ := hf H2 x y dx dy _ rx (RSx.see t3 t2) e
    cases h1
    refine Meets.to (Meets.bindL (hc G F2 sd2 σ H2 (fun w' H4 => r' y w' H4 Q) t2) fun z F3 H3 dz sd3 u1 u2 u3 u4 => ?_) fun z => h2 _ ⟨true, rfl, by rw [if_pos rfl]; exact z⟩
    have ry : Rep X.K H3 y dy := by
      cases l with
      | true => exact Rep.mono u2.fh (Rep.mono u1 t3)
      | false => exact Rep.mono (u4 (by simpa using hk2)).1 t3
    cases e2 : g dy dz with
    | none => exact True.intro
    | some c =>
      obtain ⟨v, h1, h2⟩ := hg H3 y z dy dz c ry (RSx.see u3 u2) e2
      exact Meets.here u2 (show RSx X.K true G F3 sd3 H3 σ v c from Rep.sc h1) (h2 Q)
  · rename_i e
    obtain ⟨v, h1, h2⟩ := hf H2 x y dx dy _ rx (RSx.see t3 t2) e
    cases h1
    exact Meets.here t2 (show RSx X.K true G F2 sd2 H2 σ (.bl false) (.bl false) from .bl _) fun q => h2 _ ⟨false, rfl, by rw [if_neg (by decide)]; exact q⟩
  · exact True.intro
theorem dx_chain {op op' : CmpOp} {r r' : R2} {f g : D → D → Option D} {ma mb mc : SD → ER D} {q' l' : Bool} (ho : OpR X (compareOp op) r) (ho' : OpR X (compareOp op') r') (hf : Op2S X.K r f) (hg : Op2S X.K r' g) (ha : DX X pv W p k a ma) (hb : DX X pv W q l b mb)
    (hc : DX X pv W q' l' c mc) (hk : (k || q) = true := by rfl) (hk2 : (l || q') = true := by rfl) (hm : lastMarks [op, op'] [b, c] = false := by with_unfolding_all rfl) : DX X pv W (p && (q && q')) true (.Compare a [op, op'] [b, c] pos) (mChain f g ma mb mc) := by
  obtain ⟨ta, a1, a2⟩ := ha
  obtain ⟨tb, b1, b2⟩ := hb
  obtain ⟨tc, c1, c2⟩ := hc
  exact ⟨_, pe_chain ho ho' a1 b1 c1 hm, tr_chain hf hg a2 b2 c2 hk hk2⟩
/-- a call that gives a flat value -/
noncomputable def CallS (K : PySem.W.Frag) (r : List V → Hp → VK → Prop) (f : List D → Option D) : Prop := ∀ H xs ds c, Reps K H xs ds → f ds = some c → ∃ v, c.sc = some v ∧ ∀ Q : VK, Q v H → r xs H Q
/-- a call that gives a new list -/
noncomputable def CallL (K : PySem.W.Frag) (r : List V → Hp → VK → Prop) (f : List D → Option (List D)) : Prop := ∀ F H xs ds cs, Same F H → Reps K F xs ds → f ds = some cs → ∀ Q : VK, (∀ p vs, H p = none → Reps K F vs cs → Q (.ref p) (upd H p (.lst vs))) → r xs H Q
noncomputable def mCallL (f : List D → Option (List D)) (a : SD → ER (List D)) : SD → ER OT := fun sd => (a sd).bind fun xs sd1 => ER.opt ((f xs).map fun cs => .ol (cs.map .fz)) sd1
theorem tr_callS {r : List V → Hp → VK → Prop} {f : List D → Option D} {ta : TA} {m : SD → ER (List D)} (hf : CallS X.K r f) (h : TrA X.K pv W p k ta m) : TrX X.K pv W p true (tCB r ta) (mCall f m) := by
  intro G F sd σ H Q s
  refine Meets.bindL (h G F sd σ H _ s) fun xs F1 H1 ds sd1 s1 s2 s3 s4 => ?_
  cases e : f ds with
  | none => exact True.intro
  | some c =>
    obtain ⟨v, h1, h2⟩ := hf H1 xs ds c (RSl.see s3 s2) e
    exact Meets.here s2 (show RSx X.K true G F1 sd1 H1 σ v c from Rep.sc h1) (h2 Q)
theorem tr_callL {r : List V → Hp → VK → Prop} {f : List D → Option (List D)} {ta : TA} {m : SD → ER (List D)} (hf : CallL X.K r f) (h : TrA X.K pv W p true ta m) : TrO X.K pv W p (tCB r ta) (mCallL f m) := by
  intro G F sd σ H Q s
  refine Meets.bindL (h G F sd σ H _ s) fun xs F1 H1 ds sd1 s1 s2 s3 s4 => ?_
  cases e : f ds with
  | none => exact True.intro
  | some cs =>
    intro hQ
    refine hf F1 H1 xs ds cs s2.fh s3 e Q fun p vs hp hr => ?_
    have z := s2.newL hp hr
    exact hQ _ _ _ (Same.refl _) z.drop z fun _ => ⟨Same.upd hp, rfl⟩
theorem dx_callB {x : Str} {id : String} {pp : Pos} {r : List V → Hp → VK → Prop} {f : List D → Option D} {m : SD → ER (List D)} (hc : CallR X (.builtin id) r) (hf : CallS X.K r f) (hg : Gl X x) (hm : X.mg x = none) (hv : bootBuiltins x = some (.builtin id)) (ha : DA X pv W p k (e :: es) m)
    (hn : x ≠ "__name__" := by decide) (hdb : (x == ("__debug__" : Str)) = false := by decide) (he : starEach (e :: es) X.env = (false, eval e X.env) :: starEach es X.env := by rfl) (hpl : (backTo pos (starEach es X.env)).any (·.1) = false := by rfl) :
    DX X pv W p true (.Call (.Name x pp) (e :: es) [] pos) (mCall f m) := by
  obtain ⟨ta, a1, a2⟩ := ha
  exact ⟨_, pe_callB hc hg hm hv a1 hn hdb he hpl, tr_callS hf a2⟩
theorem do_callB {x : Str} {id : String} {pp : Pos} {r : List V → Hp → VK → Prop} {f : List D → Option (List D)} {m : SD → ER (List D)} (hc : CallR X (.builtin id) r) (hf : CallL X.K r f) (hg : Gl X x) (hm : X.mg x = none) (hv : bootBuiltins x = some (.builtin id)) (ha : DA X pv W p true (e :: es) m)
    (hn : x ≠ "__name__" := by decide) (hdb : (x == ("__debug__" : Str)) = false := by decide) (he : starEach (e :: es) X.env = (false, eval e X.env) :: starEach es X.env := by rfl) (hpl : (backTo pos (starEach es X.env)).any (·.1) = false := by rfl) :
    DO X pv W p (.Call (.Name x pp) (e :: es) [] pos) (mCallL f m) := by
  obtain ⟨ta, a1, a2⟩ := ha
  exact ⟨_, pe_callB hc hg hm hv a1 hn hdb he hpl, tr_callL hf a2⟩
theorem dx_callTy {x : Str} {T : String} {pp : Pos} {r : List V → Hp → VK → Prop} {f : List D → Option D} {m : SD → ER (List D)} (hc : CallR X (.type T) r) (hf : CallS X.K r f) (hg : Gl X x) (hm : X.mg x = none) (hv : bootBuiltins x = some (.type T)) (ha : DA X pv W p k (e :: es) m)
    (hn : x ≠ "__name__" := by decide) (hdb : (x == ("__debug__" : Str)) = false := by decide) (he : starEach (e :: es) X.env = (false, eval e X.env) :: starEach es X.env := by rfl) (hpl : (backTo pos (starEach es X.env)).any (·.1) = false := by rfl) :
    DX X pv W p true (.Call (.Name x pp) (e :: es) [] pos) (mCall f m) := by
  obtain ⟨ta, a1, a2⟩ := ha
  exact ⟨_, pe_callTy hc hg hm hv a1 hn hdb he hpl, tr_callS hf a2⟩
theorem reps1 {K : PySem.W.Frag} {F : Hp} {vs : List V} {d : D} (r : Reps K F vs [d]) : ∃ v, vs = [v] ∧ Rep K F v d := by
  cases r with
  | cons h t => cases t; exact ⟨_, rfl, h⟩
theorem reps2 {K : PySem.W.Frag} {F : Hp} {vs : List V} {d d' : D} (r : Reps K F vs [d, d']) : ∃ v v', vs = [v, v'] ∧ Rep K F v d ∧ Rep K F v' d' := by
  cases r with
  | cons h t =>
    obtain ⟨v', rfl, h'⟩ := reps1 t
    exact ⟨_, _, rfl, h, h'⟩
noncomputable def dLen : List D → Option D
  | [.lst xs] => some (.int xs.length)
  | [.tup xs] => some (.int xs.length)
  | [.ktu xs] => some (.int xs.length)
  | [.str x] => if x.length ≤ 16777216 then some (.int x.length) else none
  | [.scr ns] => some (.int ns.length)
  | _ => none
theorem f_len {K : PySem.W.Frag} : CallS K (fun xs H Q => ∃ x n, xs = [x] ∧ LenV K x H n ∧ Q (.int n) H) dLen := by
  intro H xs ds c r h
  unfold dLen at h
  split at h
  · obtain ⟨v, rfl, r1⟩ := reps1 r
    cases r1 with
    | lst s t =>
      cases h
      exact ⟨_, rfl, fun Q q => ⟨_, _, rfl, .inl ⟨_, .inl s, rfl⟩, by rw [t.length]; exact q⟩⟩
  · obtain ⟨v, rfl, r1⟩ := reps1 r
    cases r1 with
    | tup s t =>
      cases h
      exact ⟨_, rfl, fun Q q => ⟨_, _, rfl, .inr ⟨_, .inl (.inl s), rfl⟩, by rw [t.length]; exact q⟩⟩
  · obtain ⟨v, rfl, r1⟩ := reps1 r
    cases r1 with
    | ktu s t =>
      cases h
      exact ⟨_, rfl, fun Q q => ⟨_, _, rfl, .inr ⟨_, s, rfl⟩, by rw [t.length]; exact q⟩⟩
  · obtain ⟨v, rfl, r1⟩ := reps1 r
    cases r1
    split at h
    · rename_i hl
      cases h
      exact ⟨_, rfl, fun Q q => ⟨_, _, rfl, (show LenV K (.str _) H _ from ⟨by rw [sizeLine_eq]; exact hl, rfl⟩), q⟩⟩
    · cases h
  · obtain ⟨v, rfl, r1⟩ := reps1 r
    cases r1 with
    | scr s =>
      cases h
      exact ⟨_, rfl, fun Q q => ⟨_, _, rfl, .inl ⟨_, s, rfl⟩, by rw [List.length_map]; exact q⟩⟩
  · cases h
/-- the ints of a list -/
noncomputable def intsOf : List D → Option (List Int)
  | [] => some []
  | .int i :: r => (intsOf r).map (i :: ·)
  | _ => none
theorem intsOf_map : ∀ ns : List Int, intsOf (ns.map D.int) = some ns
  | [] => rfl
  | n :: r => by rw [List.map_cons, intsOf, intsOf_map r]; rfl
theorem reps_ints {K : PySem.W.Frag} {F : Hp} : ∀ {ds : List D} {vs : List V} {ns : List Int}, Reps K F vs ds → intsOf ds = some ns → vs = ns.map V.int ∧ ds = ns.map D.int
  | [], _, _, .nil, h => by cases h; exact ⟨rfl, rfl⟩
  | d :: ds, _, ns, .cons r t, h => by
    cases d with
    | int i =>
      rw [intsOf] at h
      cases e : intsOf ds with
      | none => rw [e] at h; cases h
      | some ms =>
        rw [e] at h; cases h
        cases r
        obtain ⟨h1, h2⟩ := reps_ints t e
        exact ⟨by rw [h1]; rfl, by rw [h2]; rfl⟩
    | _ => simp [intsOf] at h
noncomputable def maxI : List Int → Int
  | [] => 0
  | n :: r => r.foldl max n
noncomputable def minI : List Int → Int
  | [] => 0
  | n :: r => r.foldl min n
theorem foldl_max : ∀ (r : List Int) (n : Int), (r.foldl max n = n ∨ r.foldl max n ∈ r) ∧ n ≤ r.foldl max n ∧ ∀ y ∈ r, y ≤ r.foldl max n
  | [], n => ⟨.inl rfl, Int.le_refl _, fun y h => by cases h⟩
  | m :: r, n => by
    obtain ⟨h1, h2, h3⟩ := foldl_max r (max n m)
    rw [List.foldl_cons]
    have e1 : n ≤ max n m := Int.le_max_left ..
    have e2 : m ≤ max n m := Int.le_max_right ..
    refine ⟨?_, Int.le_trans e1 h2, fun y hy => ?_⟩
    · rcases h1 with h1 | h1
      · by_cases z : n ≤ m
        · rw [h1]; rw [show max n m = m by omega]; exact .inr List.mem_cons_self
        · rw [h1]; exact .inl (by omega)
      · exact .inr (List.mem_cons_of_mem _ h1)
    · rcases List.mem_cons.mp hy with rfl | hy
      · exact Int.le_trans e2 h2
      · exact h3 y hy
theorem foldl_min : ∀ (r : List Int) (n : Int), (r.foldl min n = n ∨ r.foldl min n ∈ r) ∧ r.foldl min n ≤ n ∧ ∀ y ∈ r, r.foldl min n ≤ y
  | [], n => ⟨.inl rfl, Int.le_refl _, fun y h => by cases h⟩
  | m :: r, n => by
    obtain ⟨h1, h2, h3⟩ := foldl_min r (min n m)
    rw [List.foldl_cons]
    have e1 : min n m ≤ n := Int.min_le_left ..
    have e2 : min n m ≤ m := Int.min_le_right ..
    refine ⟨?_, Int.le_trans h2 e1, fun y hy => ?_⟩
    · rcases h1 with h1 | h1
      · by_cases z : m ≤ n
        · rw [h1]; rw [show min n m = m by omega]; exact .inr List.mem_cons_self
        · rw [h1]; exact .inl (by omega)
      · exact .inr (List.mem_cons_of_mem _ h1)
    · rcases List.mem_cons.mp hy with rfl | hy
      · exact Int.le_trans h2 e2
      · exact h3 y hy
theorem maxI_mem {n : Int} {r : List Int} : maxI (n :: r) ∈ n :: r := by
  obtain ⟨h1, _, _⟩ := foldl_max r n
  show r.foldl max n ∈ _
  rcases h1 with h1 | h1
  · rw [h1]; exact List.mem_cons_self
  · exact List.mem_cons_of_mem _ h1
theorem maxI_ge {n : Int} {r : List Int} : ∀ y ∈ n :: r, y ≤ maxI (n :: r) := fun y hy => by
  obtain ⟨_, h2, h3⟩ := foldl_max r n
  rcases List.mem_cons.mp hy with rfl | hy
  · exact h2
  · exact h3 y hy
theorem minI_mem {n : Int} {r : List Int} : minI (n :: r) ∈ n :: r := by
  obtain ⟨h1, _, _⟩ := foldl_min r n
  show r.foldl min n ∈ _
  rcases h1 with h1 | h1
  · rw [h1]; exact List.mem_cons_self
  · exact List.mem_cons_of_mem _ h1
theorem minI_le {n : Int} {r : List Int} : ∀ y ∈ n :: r, minI (n :: r) ≤ y := fun y hy => by
  obtain ⟨_, h2, h3⟩ := foldl_min r n
  rcases List.mem_cons.mp hy with rfl | hy
  · exact h2
  · exact h3 y hy
noncomputable def dMax : List D → Option D
  | [.int i, .int j] => some (.int (max i j))
  | [.lst ds] => match intsOf ds with
    | some (n :: r) => some (.int (maxI (n :: r)))
    | _ => none
  | _ => none
noncomputable def dMin : List D → Option D
  | [.int i, .int j] => some (.int (min i j))
  | [.lst ds] => match intsOf ds with
    | some (n :: r) => some (.int (minI (n :: r)))
    | _ => none
  | _ => none
noncomputable def rMaxX (K : PySem.W.Frag) : List V → Hp → VK → Prop := fun xs H Q => (∃ i j, xs = [.int i, .int j] ∧ Q (.int (if j > i then j else i)) H) ∨ rMax K xs H Q
noncomputable def rMinX (K : PySem.W.Frag) : List V → Hp → VK → Prop := fun xs H Q => (∃ i j, xs = [.int i, .int j] ∧ Q (.int (if j < i then j else i)) H) ∨ rMin K xs H Q
theorem call_maxX (hc : X.calm = true) : CallR X (.builtin "max") (rMaxX X.K) := (call_max2 hc).or (cr_max hc)
theorem call_minX (hc : X.calm = true) : CallR X (.builtin "min") (rMinX X.K) := (call_min2 hc).or (cr_min hc)
theorem f_max {K : PySem.W.Frag} : CallS K (rMaxX K) dMax := by
  intro H xs ds c r h
  unfold dMax at h
  split at h
  · rename_i i j
    obtain ⟨v, v', rfl, r1, r2⟩ := reps2 r
    cases r1; cases r2; cases h
    refine ⟨_, rfl, fun Q q => .inl ⟨_, _, rfl, ?_⟩⟩
    have e : (if j > i then j else i) = max i j := by split <;> omega
    rw [e]; exact q
  · obtain ⟨v, rfl, r1⟩ := reps1 r
    cases r1 with
    | @lst a vs ds s t =>
      split at h
      · rename_i n rr e
        cases h
        obtain ⟨h1, h2⟩ := reps_ints t e
        subst h1
        refine ⟨_, rfl, fun Q q => .inr ⟨a, n :: rr, rfl, .inl s, by simp, fun m hm hge => ?_⟩⟩
        have e : m = maxI (n :: rr) := Int.le_antisymm (maxI_ge m hm) (hge _ maxI_mem)
        rw [e]; exact q
      · cases h
  · cases h
theorem f_min {K : PySem.W.Frag} : CallS K (rMinX K) dMin := by
  intro H xs ds c r h
  unfold dMin at h
  split at h
  · rename_i i j
    obtain ⟨v, v', rfl, r1, r2⟩ := reps2 r
    cases r1; cases r2; cases h
    refine ⟨_, rfl, fun Q q => .inl ⟨_, _, rfl, ?_⟩⟩
    have e : (if j < i then j else i) = min i j := by split <;> omega
    rw [e]; exact q
  · obtain ⟨v, rfl, r1⟩ := reps1 r
    cases r1 with
    | @lst a vs ds s t =>
      split at h
      · rename_i n rr e
        cases h
        obtain ⟨h1, h2⟩ := reps_ints t e
        subst h1
        refine ⟨_, rfl, fun Q q => .inr ⟨a, n :: rr, rfl, .inl s, by simp, fun m hm hge => ?_⟩⟩
        have e : m = minI (n :: rr) := Int.le_antisymm (hge _ minI_mem) (minI_le m hm)
        rw [e]; exact q
      · cases h
  · cases h
/-- the bools of a list -/
noncomputable def boolsOf : List D → Option (List Bool)
  | [] => some []
  | .bl b :: r => (boolsOf r).map (b :: ·)
  | _ => none
theorem boolsOf_map : ∀ ns : List Bool, boolsOf (ns.map D.bl) = some ns
  | [] => rfl
  | n :: r => by rw [List.map_cons, boolsOf, boolsOf_map r]; rfl
theorem reps_bools {K : PySem.W.Frag} {F : Hp} : ∀ {ds : List D} {vs : List V} {ns : List Bool}, Reps K F vs ds → boolsOf ds = some ns → vs = ns.map V.bl
  | [], _, _, .nil, h => by cases h; rfl
  | d :: ds, _, ns, .cons r t, h => by
    cases d with
    | bl i =>
      rw [boolsOf] at h
      cases e : boolsOf ds with
      | none => rw [e] at h; cases h
      | some ms =>
        rw [e] at h; cases h
        cases r
        rw [reps_bools t e]; rfl
    | _ => simp [boolsOf] at h
noncomputable def dAll : List D → Option D
  | [.lst ds] => (boolsOf ds).map fun bs => .bl (bs.all id)
  | _ => none
theorem f_all {K : PySem.W.Frag} : CallS K (rAll K) dAll := by
  intro H xs ds c r h
  unfold dAll at h
  split at h
  · obtain ⟨v, rfl, r1⟩ := reps1 r
    cases r1 with
    | @lst a vs ds s t =>
      obtain ⟨ns, e, h⟩ := Option.map_eq_some_iff.mp h
      cases h
      have h1 := reps_bools t e
      subst h1
      exact ⟨_, rfl, fun Q q => ⟨a, ns, rfl, .inl s, q⟩⟩
  · cases h
end
end DL
namespace DL
open PySem PySem.Spec L2
open PyProof.Rows (IntsAre seqObj)
noncomputable abbrev lexI : List Int → List Int → Bool := HT.lexLt
theorem lexI_asym : ∀ a b : List Int, lexI a b = true → lexI b a = false
  | [], [], h => by cases h
  | [], _ :: _, _ => rfl
  | _ :: _, [], h => by cases h
  | x :: a, y :: b, h => by
    unfold lexI at h ⊢
    rw [HT.lexLt_cons] at h ⊢
    by_cases e : x = y
    · rw [if_pos e] at h
      rw [if_pos e.symm]
      exact lexI_asym a b h
    · rw [if_neg e] at h
      rw [if_neg (Ne.symm e)]
      have h := of_decide_eq_true h
      exact decide_eq_false (by omega)
theorem lexI_tr : ∀ a b c : List Int, lexI b a = false → lexI c b = false → lexI c a = false
  | _, _, [], _, h2 => by
    rename_i a b h1
    cases b with
    | nil => cases a with
      | nil => rfl
      | cons x a => exact h1
    | cons y b => cases h2
  | [], _, _ :: _, _, _ => rfl
  | x :: a, [], z :: c, h1, _ => by cases h1
  | x :: a, y :: b, z :: c, h1, h2 => by
    unfold lexI at h1 h2 ⊢
    rw [HT.lexLt_cons] at h1 h2 ⊢
    by_cases e1 : y = x
    · rw [if_pos e1] at h1
      by_cases e2 : z = y
      · rw [if_pos e2] at h2
        rw [if_pos (e2.trans e1)]
        exact lexI_tr a b c h1 h2
      · rw [if_neg e2] at h2
        have h2 := of_decide_eq_false h2
        rw [if_neg (by omega)]
        exact decide_eq_false (by omega)
    · rw [if_neg e1] at h1
      have h1 := of_decide_eq_false h1
      by_cases e2 : z = y
      · rw [if_neg (by omega)]
        exact decide_eq_false (by omega)
      · rw [if_neg e2] at h2
        have h2 := of_decide_eq_false h2
        rw [if_neg (by omega)]
        exact decide_eq_false (by omega)
theorem lexI_eq : ∀ a b : List Int, lexI a b = false → lexI b a = false → a = b
  | [], [], _, _ => rfl
  | [], _ :: _, h, _ => by cases h
  | _ :: _, [], _, h => by cases h
  | x :: a, y :: b, h1, h2 => by
    unfold lexI at h1 h2
    rw [HT.lexLt_cons] at h1 h2
    by_cases e : x = y
    · rw [if_pos e] at h1
      rw [if_pos e.symm] at h2
      rw [e, lexI_eq a b h1 h2]
    · rw [if_neg e] at h1
      rw [if_neg (Ne.symm e)] at h2
      have h1 := of_decide_eq_false h1
      have h2 := of_decide_eq_false h2
      exact absurd (show x = y by omega) e
noncomputable def leI (a b : List Int) : Bool := !lexI b a
noncomputable def sortT (l : List (List Int)) : List (List Int) := l.mergeSort leI
noncomputable def sortI (l : List Int) : List Int := l.mergeSort (fun a b => decide (a ≤ b))
theorem leI_total (a b : List Int) : (leI a b || leI b a) = true := by
  unfold leI
  cases h : lexI b a with
  | false => rfl
  | true => rw [lexI_asym _ _ h]; rfl
theorem leI_trans (a b c : List Int) (h1 : leI a b = true) (h2 : leI b c = true) : leI a c = true := by
  unfold leI at *
  simp only [Bool.not_eq_true'] at *
  exact lexI_tr a b c h1 h2
theorem sortT_pw (l : List (List Int)) : (sortT l).Pairwise (fun a b => leI a b = true) := List.pairwise_mergeSort leI_trans leI_total l
theorem sortT_perm (l : List (List Int)) : (sortT l).Perm l := List.mergeSort_perm l leI
theorem sortI_perm (l : List Int) : (sortI l).Perm l := List.mergeSort_perm l _
theorem sortI_pw (l : List Int) : (sortI l).Pairwise (· ≤ ·) := by
  have h := List.pairwise_mergeSort (le := fun a b : Int => decide (a ≤ b)) (fun a b c h1 h2 => by simp at *; omega) (fun a b => by simp; omega) l
  exact h.imp fun z => by simpa using z
/-- two sorted arrangements are one -/
theorem pw_uniq {α : Type} {r : α → α → Prop} (anti : ∀ a b, r a b → r b a → a = b) : ∀ {l m : List α}, l.Perm m → l.Pairwise r → m.Pairwise r → l = m
  | [], m, p, _, _ => (List.nil_perm.mp p).symm
  | a :: l, [], p, _, _ => by have := p.length_eq; simp at this
  | a :: l, b :: m, p, h1, h2 => by
    have e : a = b := by
      rcases List.mem_cons.mp (p.mem_iff.mp (List.mem_cons_self : a ∈ a :: l)) with e | ha
      · exact e
      · rcases List.mem_cons.mp (p.mem_iff.mpr (List.mem_cons_self : b ∈ b :: m)) with e | hb
        · exact e.symm
        · exact anti a b ((List.pairwise_cons.mp h1).1 b hb) ((List.pairwise_cons.mp h2).1 a ha)
    subst e
    rw [pw_uniq anti (List.perm_cons a |>.mp p) (List.pairwise_cons.mp h1).2 (List.pairwise_cons.mp h2).2]
theorem sortI_uniq {l m : List Int} (p : m.Perm l) (h : m.Pairwise (· ≤ ·)) : m = sortI l := pw_uniq (fun a b h1 h2 => Int.le_antisymm h1 h2) (p.trans (sortI_perm l).symm) h (sortI_pw l)
theorem sortT_uniq {l m : List (List Int)} (p : m.Perm l) (h : m.Pairwise (fun a b => leI a b = true)) : m = sortT l := by
  refine pw_uniq (fun a b h1 h2 => ?_) (p.trans (sortT_perm l).symm) h (sortT_pw l)
  unfold leI at h1 h2
  simp only [Bool.not_eq_true'] at h1 h2
  exact lexI_eq a b h2 h1
noncomputable def IsIT (h : Heap) (v : Value) (ns : List Int) : Prop := ∃ a o its n, v = .ref a ∧ h.get? a = some o ∧ o.cls = .type "tuple" ∧ o.data = .seq its n ∧ IntsAre its.toList ns
theorem IsIT.keeps {h h' : Heap} {v : Value} {ns : List Int} (p : IsIT h v ns) (k : ∀ b o, h.get? b = some o → o.cls = .type "tuple" → h'.get? b = some o) : IsIT h' v ns := by
  obtain ⟨a, o, its, n, e, ho, hc, hd⟩ := p
  exact ⟨a, o, its, n, e, k _ _ ho hc, hc, hd⟩
section
variable {prog : Program} {w : World} {A : Around} {E : Value → Shared → Prop} {s : Shared}
theorem oneLt_any (c : Bool) {p q : Int} {t u : Tok} {Q : Bool → Shared → Prop} (h : Q (decide (p < q)) s) : wpAny (model prog w) A (PyProof.Rows.oneLt' c (.int p t) (.int q u)) Q E s := by
  cases c with
  | true => exact PyProof.Rows.oneLt_int h
  | false => exact PySem.W.kat_one _ _ (PyProof.Rows.lt_int (Q := PySem.W.BoolBack Q) h)
theorem lex_go {b fin : Bool} {Q : Bool → Shared → Prop} : ∀ (ns ms : List Int) (xs ys : List Value) (i : Nat), IntsAre xs ns → IntsAre ys ms → fin = decide (ns.length < ms.length) → Q (lexI ns ms) s → PySem.W.KatLex prog w A b fin Q (xs.zip ys) i s
  | [], [], _, _, _, .nil, .nil, hf, h => by subst hf; exact PySem.W.kat_nil h
  | [], m :: ms, _, _, _, .nil, .cons _ _ _, hf, h => by
    have e : decide (([] : List Int).length < (m :: ms).length) = true := by simp
    rw [e] at hf
    subst hf; exact PySem.W.kat_nil h
  | n :: ns, [], _, _, _, .cons _ _ _, .nil, hf, h => by
    have e : decide ((n :: ns).length < ([] : List Int).length) = false := by simp
    rw [e] at hf
    subst hf; exact PySem.W.kat_nil h
  | n :: ns, m :: ms, _, _, i, .cons _ t hx, .cons _ u hy, hf, h => by
    refine PySem.W.kat_cons (SeqAt.EqAt.int_int n t m u prog w _ _ ?_)
    unfold lexI at h
    rw [HT.lexLt_cons] at h
    refine PySem.W.kat_go (fun e1 => ?_) fun e1 => ?_
    · have ex : n = m := by simpa using e1
      rw [if_pos ex] at h
      exact PySem.W.kat_yes (lex_go ns ms _ _ (i + 1) hx hy (by rw [hf]; simp) h)
    · have ex : ¬ n = m := by simpa using e1
      rw [if_neg ex] at h
      exact PySem.W.kat_no (oneLt_any _ h)
theorem it_cmp {vs : List Value} {k : Value → List Int} (hp : ∀ v ∈ vs, IsIT s.heap v (k v)) : SrtO.Cmp prog w A s (PyProof.Rows.tuples' true) (fun p => p.1 ∈ vs) (SrtO.lt2 fun v u => lexI (k v) (k u)) := by
  intro p q hm hm'
  show wpAny (model prog w) A (PyProof.Rows.keyLt' (PyProof.Rows.tuples' true) p.1 q.1) (fun r s' => s' = s ∧ r = lexI (k p.1) (k q.1)) (fun _ _ => False) s
  obtain ⟨a, o, its, n, e, ho, hc, hd, hi⟩ := hp _ hm
  obtain ⟨a', o', its', n', e', ho', hc', hd', hi'⟩ := hp _ hm'
  generalize k p.1 = x at hi ⊢
  generalize k q.1 = y at hi' ⊢
  rw [e, e']
  refine PySem.W.kat_lt ho hd ho' hd' ?_
  exact lex_go _ _ _ _ 0 hi hi' (by rw [← hi.length, ← hi'.length, Array.length_toList, Array.length_toList]) ⟨rfl, rfl⟩
theorem it_firsts {h : Heap} {k : Value → List Int} : ∀ {vs : List Value}, (∀ v ∈ vs, IsIT h v (k v) ∧ k v ≠ []) → ∃ fs : List Value, PySem.W.KatTups h vs fs ∧ fs.length = vs.length ∧ ∀ f ∈ fs, ∃ x t, f = Value.int x t
  | [], _ => ⟨[], PySem.W.KatTups.nil, rfl, fun _ hm => by simp at hm⟩
  | v :: vs, hp => by
    obtain ⟨fs, h1, h2, h3⟩ := it_firsts (vs := vs) fun v' hm => hp v' (List.mem_cons_of_mem _ hm)
    obtain ⟨⟨a, o, its, n, e, ho, hc, hd, hi⟩, hne⟩ := hp v (List.mem_cons_self ..)
    subst e
    obtain ⟨y, ys, eq⟩ : ∃ y ys, its.toList = y :: ys := by
      cases q : its.toList with
      | nil =>
        rw [q] at hi
        generalize k (Value.ref a) = z at hi hne
        cases hi
        exact absurd rfl hne
      | cons y ys => exact ⟨y, ys, rfl⟩
    rw [eq] at hi
    obtain ⟨x, t, rfl⟩ : ∃ x t, y = Value.int x t := by
      generalize k (Value.ref a) = z at hi
      cases hi
      exact ⟨_, _, rfl⟩
    have e2 : its[0]? = some (.int x t) := by
      rw [← Array.getElem?_toList, eq]; rfl
    refine ⟨.int x t :: fs, PySem.W.KatTups.cons ho hc hd e2 h1, by rw [List.length_cons, List.length_cons, h2], fun f hm => ?_⟩
    rcases List.mem_cons.mp hm with rfl | hm
    · exact ⟨x, t, rfl⟩
    · exact h3 f hm
theorem it_sortable {a : Addr} {vs : List Value} {k : Value → List Int} (h0 : 0 < vs.length) (hp : ∀ v ∈ vs, IsIT s.heap v (k v) ∧ k v ≠ []) (ha : ∀ o, s.heap.get? a = some o → o.cls ≠ .type "tuple") : SrtO.SortableO prog w A s a vs fun v u => lexI (k v) (k u) := by
  intro h' keep
  have hp' : ∀ v ∈ vs, IsIT h' v (k v) ∧ k v ≠ [] := fun v hm => ⟨(hp v hm).1.keeps fun b o e c => keep b o (fun z => by subst z; exact ha o e c) e, (hp v hm).2⟩
  obtain ⟨fs, h1, h2, h3⟩ := it_firsts hp'
  refine ⟨PyProof.Rows.tuples' true, fun Q E hq => ?_, it_cmp fun v hm => (hp' v hm).1⟩
  refine PySem.W.kat_kind (T := .type "int") h1 (by omega) (fun f hm => ?_) (by rfl) ?_
  · obtain ⟨x, t, rfl⟩ := h3 f hm
    exact PySem.W.Looks.now
  · have e : (Value.type "int" != Value.type "tuple") = true := by first | decide +kernel | rfl | decide
    rw [e]
    exact hq
theorem swo_lexI (k : Value → List Int) : SrtO.Swo fun v u => lexI (k v) (k u) := ⟨fun x y h => lexI_asym _ _ h, fun x y z h1 h2 => lexI_tr _ _ _ h1 h2⟩
theorem sorted_it {l : Addr} {vs : List Value} {k : Value → List Int} {Q : Value → Shared → Prop} (hl : s.heap.IsList l vs.toArray) (hz : vs.length ≤ sizeLine) (hp : ∀ v ∈ vs, IsIT s.heap v (k v) ∧ k v ≠ [])
    (h : ∀ (h' : Heap) (d : Addr) (out : List Value), SrtO.Srtd (fun v u => lexI (k v) (k u)) out → SrtO.Stb (fun v u => lexI (k v) (k u)) out vs → (∀ b o, s.heap.get? b = some o → h'.get? b = some o) → s.heap.objs.size ≤ d → (∃ n, h'.get? d = some (seqObj "list" out.toArray n)) → Q (.ref d) { s with heap := h' }) :
    wpAny (model prog w) A (call (.builtin "sorted") [.ref l]) Q E s := by
  refine SrtO.sorted_ord (swo_lexI k) hl hz (fun h2 h₁ a ha kk => ?_) fun out hs hb => ?_
  · refine it_sortable (s := { s with heap := h₁ }) (by omega) (fun v hm => ⟨(hp v hm).1.keeps fun b o e _ => (kk b o e).2, (hp v hm).2⟩) fun o e => ?_
    have e' : some o = some (seqObj "list" vs.toArray 0) := e.symm.trans ha
    cases e'
    intro c
    exact absurd (Value.type.inj c) (by decide)
  · exact h _ _ out hs hb (fun b o e => PyProof.Rows.sortedAll_old e) (Nat.le_succ _) (PyProof.Rows.sortedAll_at s.heap vs out.toArray)
end
/-- the tuples of ints in a list -/
noncomputable def tupsOf : List D → Option (List (List Int))
  | [] => some []
  | .tup xs :: r => (intsOf xs).bind fun ns => if ns = [] then none else (tupsOf r).map (ns :: ·)
  | _ => none
noncomputable def tupD (ns : List Int) : D := .tup (ns.map .int)
noncomputable def rSortT (K : PySem.W.Frag) : List V → Hp → VK → Prop := fun vs H Q => ∃ (a : Addr) (xs : List V) (ps : List (List Int)), vs = [V.ref a] ∧ SqL K H a xs ∧ Paired (fun x ns => ns ≠ [] ∧ ∃ t, x = V.ref t ∧ SqT K H t (ns.map V.int)) xs ps ∧
  ∀ ys p, ys.Perm xs → (∀ (R : V → List Int → Prop), Paired R xs ps → Paired R ys (sortT ps)) → H p = none → Q (.ref p) (upd H p (.lst ys))
theorem paired_mem {α β : Type} {R : α → β → Prop} : ∀ {xs : List α} {ps : List β}, Paired R xs ps → ∀ x ∈ xs, ∃ p ∈ ps, R x p
  | _, _, .nil, x, h => by cases h
  | _, _, .cons r t, x, h => by
    rcases List.mem_cons.mp h with rfl | h
    · exact ⟨_, List.mem_cons_self, r⟩
    · obtain ⟨p, h1, h2⟩ := paired_mem t x h
      exact ⟨p, List.mem_cons_of_mem _ h1, h2⟩
theorem paired_map {α β : Type} {R : α → β → Prop} {f : α → β} : ∀ {xs : List α} {ps : List β}, Paired R xs ps → (∀ x ∈ xs, ∀ p, R x p → f x = p) → xs.map f = ps
  | _, _, .nil, _ => rfl
  | _, _, .cons r t, h => by
    rw [List.map_cons, h _ List.mem_cons_self _ r, paired_map t fun x hx => h x (List.mem_cons_of_mem _ hx)]
theorem paired_of {α β : Type} {R : α → β → Prop} {f : α → β} : ∀ (xs : List α), (∀ x ∈ xs, R x (f x)) → Paired R xs (xs.map f)
  | [], _ => .nil
  | x :: xs, h => .cons (h x List.mem_cons_self) (paired_of xs fun y hy => h y (List.mem_cons_of_mem _ hy))
theorem ints_inj : ∀ {l : List Value} {x y : List Int}, IntsAre l x → IntsAre l y → x = y
  | _, _, _, .nil, .nil => rfl
  | _, _, _, .cons _ _ h, .cons _ _ h' => by rw [ints_inj h h']
section
variable {X : Cx}
theorem cr_sortTup : CallR X (.builtin "sorted") (rSortT X.K) := by
  classical
  intro pins s σ H vs us Q I r h
  obtain ⟨a, xs, ps, rfl, hs, hx, q⟩ := h
  obtain ⟨its, rv, hl, hz⟩ := I.list hs
  obtain ⟨u, rfl, ru⟩ := vals1 r
  obtain rfl : u = Value.ref a := ru
  obtain ⟨e1, e2⟩ := refs_back rv fun x m => by
    obtain ⟨p, _, _, t, e, _⟩ := paired_mem hx x m
    exact ⟨t, e⟩
  let k : Value → List Int := fun u => if z : ∃ ns, IsIT s.heap u ns then z.choose else []
  have uniq : ∀ u ns, IsIT s.heap u ns → k u = ns := fun u ns hu => by
    have z : ∃ ns, IsIT s.heap u ns := ⟨ns, hu⟩
    have ek : k u = z.choose := dif_pos z
    obtain ⟨a1, o1, i1, n1, e1, h1, c1, d1, j1⟩ := z.choose_spec
    obtain ⟨a2, o2, i2, n2, e2, h2, c2, d2, j2⟩ := hu
    rw [e1] at e2; cases e2
    rw [h1] at h2; cases h2
    rw [d1] at d2; cases d2
    rw [ek]
    exact ints_inj j1 j2
  have raw : ∀ t ns, SqT X.K H t (ns.map V.int) → IsIT s.heap (.ref t) ns := fun t ns ht => by
    obtain ⟨its2, r2, ⟨o, ho, hc, n, hd⟩, _⟩ := I.tuple ht
    exact ⟨t, o, _, n, rfl, ho, hc, hd, by simpa using r2.ints⟩
  have hk : ∀ x ∈ xs, ∀ ns, (ns ≠ [] ∧ ∃ t, x = V.ref t ∧ SqT X.K H t (ns.map V.int)) → ∃ t, x = .ref t ∧ k (.ref t) = ns ∧ IsIT s.heap (.ref t) ns ∧ ns ≠ [] := fun x hm ns ⟨hne, t, et, ht⟩ => ⟨t, et, uniq _ _ (raw t ns ht), raw t ns ht, hne⟩
  let kV : V → List Int := fun x => match x with
    | .ref t => k (.ref t)
    | _ => []
  have hkV : xs.map kV = ps := paired_map hx fun x hm ns hr => by
    obtain ⟨t, rfl, h1, _⟩ := hk x hm ns hr
    exact h1
  refine sorted_it (k := k) hl.isList (by rw [← rv.length]; exact hz) (fun v hv => ?_) fun h' d out h1 h2 kp hd hn => ?_
  · obtain ⟨t, rfl⟩ := e2 v hv
    have hm : V.ref t ∈ xs := by rw [e1]; exact List.mem_map.mpr ⟨_, hv, rfl⟩
    obtain ⟨ns, _, hr⟩ := paired_mem hx _ hm
    obtain ⟨t', e, h3, h4, h5⟩ := hk _ hm ns hr
    cases e
    rw [h3]
    exact ⟨h4, h5⟩
  · have h3 : ∀ u ∈ out, ∃ a, u = Value.ref a := fun u hu => e2 u (h2.perm.mem_iff.mp hu)
    obtain ⟨n, hn⟩ := hn
    have hb : (out.map backV).Perm xs := by
      rw [e1]
      exact h2.perm.map _
    have hkb : ∀ u ∈ out, kV (backV u) = k u := fun u hu => by
      obtain ⟨t, rfl⟩ := h3 u hu
      rfl
    have hso : (out.map backV).map kV = sortT ps := by
      refine sortT_uniq ?_ ?_
      · rw [← hkV]
        exact hb.map _
      · rw [List.map_map, show out.map (kV ∘ backV) = out.map k from List.map_congr_left hkb, List.pairwise_map]
        exact h1.imp fun z => by unfold leI; simpa using z
    refine ⟨.ref d, upd H d (.lst (out.map backV)), I.laid (t' := s.toks) kp hd ⟨?_, out, n, vals_back h3, hn⟩, rfl, q _ d hb (fun R hR => ?_) (I.hok.fresh hd)⟩
    · rw [hb.length_eq]
      exact hz
    · rw [← hso]
      refine paired_of _ fun y hy => ?_
      have hy' : y ∈ xs := hb.mem_iff.mp hy
      obtain ⟨ns, _, hr⟩ := paired_mem hR y hy'
      obtain ⟨i, hi⟩ := List.getElem?_of_mem hy'
      have both : ∀ {ys : List V} {qs : List (List Int)} {R1 R2 : V → List Int → Prop}, Paired R1 ys qs → Paired R2 ys qs → ∀ y ∈ ys, ∃ q, R1 y q ∧ R2 y q := by
        intro ys qs R1 R2 p1
        induction p1 with
        | nil => intro _ y h; cases h
        | cons r1 t1 ih =>
          intro p2 y h
          cases p2 with
          | cons r2 t2 =>
            rcases List.mem_cons.mp h with rfl | h
            · exact ⟨_, r1, r2⟩
            · exact ih t2 y h
      obtain ⟨q, q1, q2⟩ := both hR hx y hy'
      obtain ⟨t, rfl, h4, _⟩ := hk y hy' q q2
      show R (V.ref t) (k (.ref t))
      rw [h4]
      exact q1
end
noncomputable def dSortT : List D → Option (List D)
  | [.lst ds] => match intsOf ds with
    | some ns => some ((sortI ns).map .int)
    | none => (tupsOf ds).map fun ps => (sortT ps).map tupD
  | _ => none
noncomputable def rSortX (K : PySem.W.Frag) : List V → Hp → VK → Prop := fun xs H Q => rSortedI K xs H Q ∨ rSortT K xs H Q
theorem call_sortX {X : Cx} : CallR X (.builtin "sorted") (rSortX X.K) := cr_sortedI.or cr_sortTup
theorem tups_rep {K : PySem.W.Frag} {F : Hp} : ∀ {ds : List D} {vs : List V} {ps : List (List Int)}, Reps K F vs ds → tupsOf ds = some ps → Paired (fun x ns => ns ≠ [] ∧ ∃ t, x = V.ref t ∧ SqT K F t (ns.map V.int)) vs ps ∧ ds = ps.map tupD
  | [], _, _, .nil, h => by cases h; exact ⟨.nil, rfl⟩
  | d :: ds, _, ps, .cons r t, h => by
    cases d with
    | tup xs =>
      rw [tupsOf] at h
      obtain ⟨ns, hn, h⟩ := Option.bind_eq_some_iff.mp h
      split at h
      · cases h
      · rename_i hne
        obtain ⟨qs, e, h⟩ := Option.map_eq_some_iff.mp h
        subst h
        cases r with
        | tup s rr =>
          obtain ⟨h1, h2⟩ := reps_ints rr hn
          obtain ⟨k1, k2⟩ := tups_rep t e
          subst h1
          refine ⟨.cons ⟨hne, _, rfl, .inl (.inl s)⟩ k1, ?_⟩
          rw [List.map_cons, ← k2]
          unfold tupD
          rw [← h2]
    | _ => simp [tupsOf] at h
theorem paired_reps {K : PySem.W.Frag} {F : Hp} : ∀ {vs : List V} {ps : List (List Int)}, Paired (fun x ns => Rep K F x (tupD ns)) vs ps → Reps K F vs (ps.map tupD)
  | _, _, .nil => .nil
  | _, _, .cons r t => .cons r (paired_reps t)
theorem reps_paired {K : PySem.W.Frag} {F : Hp} : ∀ {vs : List V} {ps : List (List Int)}, Reps K F vs (ps.map tupD) → Paired (fun x ns => Rep K F x (tupD ns)) vs ps
  | _, [], .nil => .nil
  | _, p :: ps, .cons r t => .cons r (reps_paired t)
theorem f_sortX {K : PySem.W.Frag} : CallL K (rSortX K) dSortT := by
  intro F H xs ds cs hle r h Q hQ
  unfold dSortT at h
  split at h
  · obtain ⟨v, rfl, r1⟩ := reps1 r
    cases r1 with
    | @lst a vs _ s t =>
      split at h
      · rename_i ns e
        cases h
        obtain ⟨h1, h2⟩ := reps_ints t e
        subst h1
        refine .inl ⟨a, ns, rfl, hle.seq (.inl s), fun ns' p hp hpw hf => ?_⟩
        refine hQ p _ hf ?_
        rw [sortI_uniq hp hpw]
        exact Reps.ints _
      · obtain ⟨ps, e, h⟩ := Option.map_eq_some_iff.mp h
        subst h
        obtain ⟨h1, h2⟩ := tups_rep t e
        refine .inr ⟨a, vs, ps, rfl, hle.seq (.inl s), ?_, fun ys p hperm hR hf => ?_⟩
        · exact Paired.mapP h1 fun x ns ⟨n1, t, e, q⟩ => ⟨n1, t, e, Same.sqt hle q⟩
        · subst h2
          exact hQ p _ hf (paired_reps (hR _ (reps_paired t)))
  · cases h
end DL
namespace DL
open PySem PySem.Spec L2
noncomputable def D.isA (d : D) (n : String) : Option Bool :=
  match d with
  | .non => some false
  | .bl _ => some (n == "bool" || n == "int")
  | .int _ => some (n == "int")
  | .str _ => some (n == "str")
  | .tup _ => some (n == "tuple")
  | .ktu _ => some (n == "tuple")
  | .lst _ => some (n == "list")
  | .scr _ => some (n == "list")
  | .dic false _ _ => some (n == "dict")
  | _ => none
noncomputable def tyName (n : String) : Bool := n == "bool" || n == "int" || n == "str" || n == "tuple" || n == "list" || n == "dict"
noncomputable def dIsi : List D → Option D
  | [d, .ty n] => if tyName n = true then (d.isA n).map .bl else none
  | _ => none
theorem kitB_all : ∀ n ∈ ["bool", "int", "str", "tuple", "list", "dict"], kitB "NoneType" n = some false ∧ kitB "bool" n = some (n == "bool" || n == "int") ∧ kitB "int" n = some (n == "int") ∧ kitB "str" n = some (n == "str") ∧
    kitB "tuple" n = some (n == "tuple") ∧ kitB "list" n = some (n == "list") ∧ kitB "dict" n = some (n == "dict") := by decide +kernel
theorem kitB_is {n : String} (h : tyName n = true) : kitB "NoneType" n = some false ∧ kitB "bool" n = some (n == "bool" || n == "int") ∧ kitB "int" n = some (n == "int") ∧ kitB "str" n = some (n == "str") ∧
    kitB "tuple" n = some (n == "tuple") ∧ kitB "list" n = some (n == "list") ∧ kitB "dict" n = some (n == "dict") := by
  refine kitB_all n ?_
  unfold tyName at h
  simp only [Bool.or_eq_true, beq_iff_eq] at h
  simp only [List.mem_cons, List.not_mem_nil, or_false]
  rcases h with ((((h | h) | h) | h) | h) | h <;> simp [h]
theorem tyx_tup {K : PySem.W.Frag} {H : Hp} {a : Addr} {xs : List V} (h : SqT K H a xs) : TyX K H (.ref a) (.type "tuple") := by
  rcases h with (h | ⟨o, h⟩) | ⟨o, its, n, h1, h2, _⟩
  · exact .base (.tup h)
  · exact .fTuple h
  · exact .kTuple h1 h2
theorem tyx_lst {K : PySem.W.Frag} {H : Hp} {a : Addr} {xs : List V} (h : SqL K H a xs) : TyX K H (.ref a) (.type "list") := by
  rcases h with (h | ⟨o, h⟩) | ⟨o, its, n, h1, h2, _⟩
  · exact .base (.lst h)
  · exact .base (.frz h)
  · exact .kList h1 h2
theorem f_isi {K : PySem.W.Frag} : CallS K (rIsi K) dIsi := by
  intro H xs ds c r h
  unfold dIsi at h
  split at h
  · rename_i d n
    obtain ⟨v, v', rfl, r1, r2⟩ := reps2 r
    cases r2
    split at h
    · rename_i hn
      obtain ⟨b, e, h⟩ := Option.map_eq_some_iff.mp h
      subst h
      obtain ⟨k0, k1, k2, k3, k4, k5, k6⟩ := kitB_is hn
      refine ⟨.bl b, rfl, fun Q q => ?_⟩
      have go : ∀ {t : String}, TyX K H v (.type t) → kitB t n = some b → rIsi K [v, .ty n] H Q := fun ht hk => ⟨v, .ty n, _, _, b, rfl, .ty n, ht, kit_ty hk, q⟩
      cases r1 with
      | non => exact go (.base .non) (by rw [k0]; exact e)
      | bl x => exact go (.base (.bl x)) (by rw [k1]; exact e)
      | int x => exact go (.base (.int x)) (by rw [k2]; exact e)
      | str x => exact go (.base (.str x)) (by rw [k3]; exact e)
      | ty x => cases e
      | cls x => cases e
      | tup s t => exact go (tyx_tup (.inl (.inl s))) (by rw [k4]; exact e)
      | ktu s t => exact go (tyx_tup s) (by rw [k4]; exact e)
      | lst s t => exact go (tyx_lst (.inl s)) (by rw [k5]; exact e)
      | scr s => exact go (tyx_lst s) (by rw [k5]; exact e)
      | dicK s t =>
        rcases s with s | ⟨o, s⟩
        · exact go (.base (.dK s)) (by rw [k6]; exact e)
        · exact go (.fDict s) (by rw [k6]; exact e)
      | dicT s t => cases e
      | ins s t => cases e
      | exc _ _ _ _ => cases e
    · cases h
  · cases h
section
variable {X : Cx} {pv : List V} {W : WX} {p q k l : Bool} {e a b c : Expr} {es : List Expr} {pos : Pos}
/-- a built-in class's name -/
theorem dx_ty {x : Str} {T : String} {pp : Pos} (hg : Gl X x) (hm : X.mg x = none) (hv : bootBuiltins x = some (.type T)) (hn : x ≠ "__name__" := by decide) (hd : (x == ("__debug__" : Str)) = false := by decide) : DX X pv W true true (.Name x pp) (mC (.ty T)) :=
  dx_c (pe_bltn (v := .ty T) hg hm hv rfl hn hd) fun _ => .ty T
/-- a constant of the module -/
theorem dx_glob {x : Str} {v : V} {d : D} {u : Value} {pp : Pos} (hg : Gl X x) (hm : X.mg x = some u) (r : RelV v u) (hr : ∀ F, Rep X.K F v d) (hd : (x == ("__debug__" : Str)) = false := by decide) : DX X pv W true true (.Name x pp) (mC d) :=
  dx_c (pe_glob hg hm r hd) hr
noncomputable def dIx : D → D → Option D
  | .lst xs, .int i => atI xs i
  | .tup xs, .int i => atI xs i
  | .ktu xs, .int i => atI xs i
  | .scr ns, .int i => (atI ns i).map .int
  | .str z, .int i => if z.length ≤ 16777216 then (atI z.cps.toList i).map fun c => .str ⟨#[c]⟩ else none
  | _, _ => none
theorem reps_at {K : PySem.W.Frag} {F : Hp} {vs : List V} {ds : List D} {i : Int} {d : D} (r : Reps K F vs ds) (h : atI ds i = some d) : ∃ v, atI vs i = some v ∧ Rep K F v d := by
  unfold atI at h ⊢
  rw [r.length]
  cases e : ixN ds.length i with
  | none => rw [e] at h; cases h
  | some j =>
    rw [e] at h
    exact r.get h
theorem ix_go {K : PySem.W.Frag} {F H : Hp} {x y : V} {a b c : D} (hF : Same F H) (ra : Rep K F x a) (rb : Rep K H y b) (h : dIx a b = some c) : ∃ v, Rep K F v c ∧ ∀ Q : VK, Q v H → rIx K x y H Q := by
  unfold dIx at h
  split at h
  · cases rb
    cases ra with
    | lst s t =>
      obtain ⟨v, h1, h2⟩ := reps_at t h
      exact ⟨v, h2, fun Q q => .inl ⟨_, _, _, v, rfl, rfl, hF.seq (.inl s), h1, q⟩⟩
  · cases rb
    cases ra with
    | tup s t =>
      obtain ⟨v, h1, h2⟩ := reps_at t h
      exact ⟨v, h2, fun Q q => .inr (.inl ⟨_, _, _, v, rfl, rfl, .inl (.inl (hF _ _ s)), h1, q⟩)⟩
  · cases rb
    cases ra with
    | ktu s t =>
      obtain ⟨v, h1, h2⟩ := reps_at t h
      exact ⟨v, h2, fun Q q => .inr (.inl ⟨_, _, _, v, rfl, rfl, Same.sqt hF s, h1, q⟩)⟩
  · cases rb
    cases ra with
    | scr s =>
      obtain ⟨n, e, h⟩ := Option.map_eq_some_iff.mp h
      subst h
      exact ⟨_, .int n, fun Q q => .inl ⟨_, _, _, .int n, rfl, rfl, hF.seq s, by unfold atI at e ⊢; rw [List.length_map]; cases e2 : ixN _ _ with
        | none => rw [e2] at e; cases e
        | some j => rw [e2] at e; show (List.map V.int _)[j]? = _; rw [List.getElem?_map]; have e : _[j]? = some n := e; rw [e]; rfl, q⟩⟩
  · cases rb
    cases ra
    split at h
    · rename_i hl
      obtain ⟨c', e, h⟩ := Option.map_eq_some_iff.mp h
      subst h
      exact ⟨_, .str _, fun Q q => .inr (.inr ⟨_, _, c', rfl, rfl, by rw [sizeLine_eq]; exact hl, e, q⟩)⟩
    · cases h
  · cases h
theorem dx_ix {ma mb : SD → ER D} (ha : DX X pv W p k a ma) (hb : DX X pv W q l b mb) (hk : (k || q) = true := by rfl) (hs : PlainIx b := by exact fun _ _ => rfl) : DX X pv W (p && q) k (.Subscript a b pos) (mOp dIx ma mb) := by
  obtain ⟨ta, a1, a2⟩ := ha
  obtain ⟨tb, b1, b2⟩ := hb
  refine ⟨_, pe_ix ix_seq a1 b1 hs, fun G F sd σ H Q s => ?_⟩
  refine Meets.bind (a2 G F sd σ H _ s) fun x F1 H1 dx sd1 s1 s2 s3 s4 => ?_
  refine Meets.bindL (b2 G F1 sd1 σ H1 _ s2) fun y F2 H2 dy sd2 t1 t2 t3 t4 => ?_
  cases e : dIx dx dy with
  | none => exact True.intro
  | some c =>
    cases k with
    | true =>
      obtain ⟨v, h1, h2⟩ := ix_go t2.fh (Rep.mono t1 (show Rep X.K F1 x dx from s3)) (RSx.see t3 t2) e
      exact Meets.here t2 (show RSx X.K true G F2 sd2 H2 σ v c from h1) (h2 Q)
    | false =>
      obtain ⟨v, h1, h2⟩ := ix_go (Same.refl H2) (Rep.mono (t4 (by simpa using hk)).1 (show Rep X.K H1 x dx from s3)) (RSx.see t3 t2) e
      exact Meets.here t2 (show RSx X.K false G F2 sd2 H2 σ v c from h1) (h2 Q)
noncomputable def RSq (K : PySem.W.Frag) (k : Bool) : RSt V (List D) := fun _ F _ H _ v ds => ∃ a vs, v = .ref a ∧ Rd (if k = true then F else H) a (.lst vs) ∧ Reps K F vs ds
noncomputable def TrQ (K : PySem.W.Frag) (pv : List V) (W : WX) (p k : Bool) (te : TE) (m : SD → ER (List D)) : Prop := ∀ G F sd σ H Q, StR K pv G F sd σ H → Meets K pv W G σ (RSq K k) p sd F H (m sd) Q (te σ H Q)
structure DQ (X : Cx) (pv : List V) (W : WX) (p k : Bool) (e : Expr) (m : SD → ER (List D)) : Prop where
  ex : ∃ te, PE X e te ∧ TrQ X.K pv W p k te m
noncomputable def qFz (a : SD → ER D) : SD → ER (List D) := fun sd => (a sd).bind fun x sd1 => match x with
  | .lst ds => .ok ds sd1
  | _ => .bad
/-- the items, if they are all frozen -/
noncomputable def fzOf : List OT → Option (List D)
  | [] => some []
  | .fz d :: r => (fzOf r).map (d :: ·)
  | _ => none
theorem fzOf_eq : ∀ {ts : List OT} {ds : List D}, fzOf ts = some ds → ts = ds.map OT.fz
  | [], ds, h => by cases h; rfl
  | .fz d :: r, ds, h => by
    rw [fzOf] at h
    obtain ⟨es, e, h⟩ := Option.map_eq_some_iff.mp h
    subst h
    rw [fzOf_eq e]; rfl
  | .ol _ :: _, _, h => by simp [fzOf] at h
  | .od _ _ _ :: _, _, h => by simp [fzOf] at h
  | .oi _ _ _ :: _, _, h => by simp [fzOf] at h
noncomputable def SD.tree (sd : SD) (i : Nat) : Option OT := match sd.sl[i]? with
  | some (.ow t) => some t
  | some (.pa j) => sd.pa[j]?
  | _ => none
noncomputable def OT.items : OT → Option (List D)
  | .ol ts => fzOf ts
  | .fz (.lst ds) => some ds
  | _ => none
noncomputable def qSee (i : Nat) : SD → ER (List D) := fun sd => ER.opt ((sd.tree i).bind OT.items) sd
noncomputable def qNew (a : SD → ER OT) : SD → ER (List D) := fun sd => (a sd).bind fun t sd1 => ER.opt t.items sd1
theorem items_rep {K : PySem.W.Frag} {F H : Hp} {t : OT} {v : V} {P : Addr → Prop} {ds : List D} (hF : Same F H) (r : RepO K F H t v P) (h : t.items = some ds) : ∃ a vs, v = .ref a ∧ Rd H a (.lst vs) ∧ Reps K F vs ds := by
  cases t with
  | ol ts =>
    have h : fzOf ts = some ds := h
    have e := fzOf_eq h
    subst e
    unfold RepO at r
    obtain ⟨a, vs, rfl, _, h1, h2⟩ := r
    exact ⟨a, vs, rfl, .inl h1, repOs_fz h2⟩
  | fz d =>
    unfold RepO at r
    cases d with
    | lst es =>
      have h : some es = some ds := h
      cases h
      cases r with
      | lst s t => exact ⟨_, _, rfl, Same.rd hF s, t⟩
    | _ => cases h
  | od _ _ _ => cases h
  | oi _ _ _ => cases h
theorem StR.tree {K : PySem.W.Frag} {G F H : Hp} {sd : SD} {σ : L2.St} {i : Nat} {t : OT} (s : StR K pv G F sd σ H) (h : sd.tree i = some t) : ∃ v P, σ[i]? = some (some v) ∧ RepO K F H t v P := by
  obtain ⟨o, w⟩ := s
  unfold SD.tree at h
  split at h
  · rename_i t' e
    cases h
    obtain ⟨v, h1, h2⟩ := w.sl i _ e
    exact ⟨v, _, h1, h2⟩
  · rename_i j e
    obtain ⟨v, h1, h2⟩ := w.sp i j e
    obtain ⟨v', h3, h4⟩ := w.pr j t h
    rw [h1] at h3; cases h3
    exact ⟨v, _, h2, h4⟩
  · cases h
theorem DX.dq {m : SD → ER D} (h : DX X pv W p true e m) : DQ X pv W p true e (qFz m) := by
  obtain ⟨te, h1, h2⟩ := h
  refine ⟨te, h1, fun G F sd σ H Q s => ?_⟩
  have z := h2 G F sd σ H Q s
  unfold qFz
  revert z
  cases m sd with
  | bad => exact id
  | rz x sd1 => exact id
  | ok d sd1 =>
    intro z
    cases d with
    | lst ds =>
      intro hQ
      refine z fun v F1 H1 s1 s2 s3 s4 => hQ v F1 H1 s1 s2 ?_ s4
      have s3 : Rep X.K F1 v (.lst ds) := s3
      cases s3 with
      | lst s t => exact ⟨_, _, rfl, s, t⟩
    | _ => exact True.intro
theorem dq_see {i : Nat} {x : Str} {pp : Pos} (h : PE X (.Name x pp) (tVar i)) : DQ X pv W true false (.Name x pp) (qSee i) := by
  refine ⟨_, h, fun G F sd σ H Q s => ?_⟩
  unfold qSee
  cases e : sd.tree i with
  | none => exact True.intro
  | some t =>
    cases e2 : t.items with
    | none =>
      show Meets X.K pv W G σ (RSq X.K false) true sd F H (ER.opt (t.items) sd) Q _
      rw [e2]; exact True.intro
    | some ds =>
      show Meets X.K pv W G σ (RSq X.K false) true sd F H (ER.opt (t.items) sd) Q _
      rw [e2]
      obtain ⟨v, P, h1, h2⟩ := s.tree e
      exact Meets.here s (show RSq X.K false G F sd H σ v ds from items_rep s.fh h2 e2) fun q => ⟨v, h1, q⟩
theorem DO.dq {m : SD → ER OT} (h : DO X pv W p e m) : DQ X pv W p false e (qNew m) := by
  obtain ⟨te, h1, h2⟩ := h
  refine ⟨te, h1, fun G F sd σ H Q s => ?_⟩
  have z := h2 G F sd σ H Q s
  unfold qNew
  revert z
  cases m sd with
  | bad => exact id
  | rz x sd1 => exact id
  | ok t sd1 =>
    intro z
    show Meets X.K pv W G σ (RSq X.K false) p sd F H (ER.opt t.items sd1) Q _
    cases e2 : t.items with
    | none => exact True.intro
    | some ds =>
      intro hQ
      refine z fun v F1 H1 s1 s2 s3 s4 => hQ v F1 H1 s1 s2 ?_ s4
      obtain ⟨o, P, w, r, _⟩ := s3
      exact items_rep w.fh r e2
theorem RSq.see {K : PySem.W.Frag} {k : Bool} {G F H : Hp} {sd : SD} {σ : L2.St} {v : V} {ds : List D} (r : RSq K k G F sd H σ v ds) (s : StR K pv G F sd σ H) : ∃ a vs, v = .ref a ∧ Rd H a (.lst vs) ∧ Reps K F vs ds := by
  obtain ⟨a, vs, e, h1, h2⟩ := r
  refine ⟨a, vs, e, ?_, h2⟩
  cases k with
  | true => exact Same.rd s.fh h1
  | false => exact h1
/-- carried on to a later heap -/
theorem RSq.on {K : PySem.W.Frag} {k q : Bool} {G F H F2 H2 : Hp} {sd sd2 sd3 : SD} {σ : L2.St} {v : V} {ds : List D} (r : RSq K k G F sd H σ v ds) (hk : (k || q) = true) (t1 : Same F F2) (t2 : StR K pv G F2 sd2 σ H2) (t4 : q = true → Same H H2 ∧ sd2 = sd3) : ∃ a vs, v = .ref a ∧ Rd H2 a (.lst vs) ∧ Reps K F2 vs ds := by
  obtain ⟨a, vs, e, h1, h2⟩ := r
  refine ⟨a, vs, e, ?_, h2.mono t1⟩
  cases k with
  | true => exact Same.rd t2.fh (Same.rd t1 h1)
  | false => exact Same.rd (t4 (by simpa using hk)).1 h1
/-- l[i] -/
noncomputable def mAt (a : SD → ER (List D)) (b : SD → ER D) : SD → ER D := fun sd => (a sd).bind fun ds sd1 => (b sd1).bind fun y sd2 => match y with
  | .int i => ER.opt (atI ds i) sd2
  | _ => .bad
theorem dx_at {ma : SD → ER (List D)} {mb : SD → ER D} (ha : DQ X pv W p k a ma) (hb : DX X pv W q l b mb) (hk : (k || q) = true := by rfl) (hs : PlainIx b := by exact fun _ _ => rfl) : DX X pv W (p && q) true (.Subscript a b pos) (mAt ma mb) := by
  obtain ⟨ta, a1, a2⟩ := ha
  obtain ⟨tb, b1, b2⟩ := hb
  refine ⟨_, pe_ix ix_list a1 b1 hs, fun G F sd σ H Q s => ?_⟩
  refine Meets.bind (a2 G F sd σ H _ s) fun x F1 H1 ds sd1 s1 s2 s3 s4 => ?_
  refine Meets.bindL (b2 G F1 sd1 σ H1 _ s2) fun y F2 H2 dy sd2 t1 t2 t3 t4 => ?_
  have r := RSx.see t3 t2
  cases dy with
  | int i =>
    cases r
    show Meets X.K pv W G σ (RSx X.K true) true sd2 F2 H2 (ER.opt (atI ds i) sd2) Q _
    cases e : atI ds i with
    | none => exact True.intro
    | some c =>
      obtain ⟨aa, vs, rfl, h1, h2⟩ := s3.on hk t1 t2 t4
      obtain ⟨v, h3, h4⟩ := reps_at h2 e
      exact Meets.here t2 (show RSx X.K true G F2 sd2 H2 σ v c from h4) fun q => ⟨aa, vs, i, v, rfl, rfl, .inl h1, h3, q⟩
  | _ => exact True.intro
/-- l + m, a new list -/
noncomputable def mCat (a b : SD → ER (List D)) : SD → ER OT := fun sd => (a sd).bind fun xs sd1 => (b sd1).bind fun ys sd2 => if xs.length + ys.length ≤ 16777216 then .ok (.ol ((xs ++ ys).map .fz)) sd2 else .bad
end
end DL
namespace DL
open PySem PySem.Spec L2
open PyProof.Rows (Subscript_ tail_any)
section
variable {X : Cx} {pv : List V} {W : WX} {p q k l : Bool} {e a b c : Expr} {es : List Expr} {pos : Pos}
/-- a list's object by what may be read -/
theorem rd_list {pins : List (Addr × Obj)} {σ : L2.St} {H : Hp} {s : Shared} {a : Addr} {xs : List V} (I : Inv X pins σ H s) (h : Rd H a (.lst xs)) :
    xs.length ≤ sizeLine ∧ ∃ (its : List Value) (n : Nat), Vals xs its ∧ xs.length = its.length ∧ s.heap.get? a = some { cls := .type "list", data := .seq its.toArray n } := by
  obtain ⟨z, its, n, r, e⟩ := (show ObjOk X.prog X.w H s.heap a (.lst xs) from h.ok I.hok)
  exact ⟨z, its, n, r, r.length, e⟩
noncomputable def rCatR : R2 := fun x y H Q => ∃ l b xs zs, x = .ref l ∧ y = .ref b ∧ Rd H l (.lst xs) ∧ Rd H b (.lst zs) ∧ xs.length + zs.length ≤ sizeLine ∧ ∀ p, H p = none → Q (.ref p) (upd H p (.lst (xs ++ zs)))
theorem op_catR : OpR X (binaryOp .Add) rCatR := by
  intro pins s σ H x y v u Q I rx ry h
  obtain ⟨l, b, xs, zs, rfl, rfl, hH, hB, hz, q⟩ := h
  cases rx
  cases ry
  obtain ⟨z, its, n, r, hl, e⟩ := rd_list I hH
  obtain ⟨z2, its2, n2, r2, hl2, e2⟩ := rd_list I hB
  refine PySem.P.add_list e e2 ?_ (by rw [List.size_toArray, List.size_toArray]; omega)
  have ea : its.toArray ++ its2.toArray = (its ++ its2).toArray := by simp
  rw [ea]
  exact ⟨.ref _, _, I.lnew (t' := s.toks) (r.append r2) (by rw [List.length_append]; omega), rfl, q _ I.fresh⟩
theorem tr_cat {ta tb : TE} {ma mb : SD → ER (List D)} (ha : TrQ X.K pv W p k ta ma) (hb : TrQ X.K pv W q l tb mb) (hk : (k || q) = true) : TrO X.K pv W (p && q) (tOp rCatR ta tb) (mCat ma mb) := by
  intro G F sd σ H Q s
  refine Meets.bind (ha G F sd σ H _ s) fun x F1 H1 xs sd1 s1 s2 s3 s4 => ?_
  refine Meets.bindL (hb G F1 sd1 σ H1 _ s2) fun y F2 H2 ys sd2 t1 t2 t3 t4 => ?_
  split
  · rename_i hz
    intro hQ
    obtain ⟨aa, vs, rfl, h1, h2⟩ := s3.on hk t1 t2 t4
    obtain ⟨bb, ws, rfl, h3, h4⟩ := t3.see t2
    refine ⟨aa, bb, vs, ws, rfl, rfl, h1, h3, by rw [h2.length, h4.length, sizeLine_eq]; exact hz, fun p hp => ?_⟩
    have z := t2.newL hp (h2.append h4)
    exact hQ _ _ _ (Same.refl _) z.drop z fun _ => ⟨Same.upd hp, rfl⟩
  · exact True.intro
theorem do_cat {ma mb : SD → ER (List D)} (ha : DQ X pv W p k a ma) (hb : DQ X pv W q l b mb) (hk : (k || q) = true := by rfl) : DO X pv W (p && q) (.BinOp a .Add b pos) (mCat ma mb) := by
  obtain ⟨ta, a1, a2⟩ := ha
  obtain ⟨tb, b1, b2⟩ := hb
  exact ⟨_, pe_op op_catR a1 b1, tr_cat a2 b2 hk⟩
noncomputable def TrP (K : PySem.W.Frag) (pv : List V) (W : WX) (p : Bool) (to : TO) (m : SD → ER (Option Int)) : Prop := ∀ G F sd σ H Q, StR K pv G F sd σ H → Meets K pv W G σ (fun _ _ _ _ _ (v d : Option Int) => v = d) p sd F H (m sd) Q (to σ H Q)
structure DP (X : Cx) (pv : List V) (W : WX) (p : Bool) (e : Option Expr) (m : SD → ER (Option Int)) : Prop where
  ex : ∃ to, PO X e to ∧ TrP X.K pv W p to m
noncomputable def oNone : SD → ER (Option Int) := fun sd => .ok none sd
noncomputable def oSome (a : SD → ER D) : SD → ER (Option Int) := fun sd => (a sd).bind fun x sd1 => match x with
  | .int i => .ok (some i) sd1
  | _ => .bad
theorem dp_none : DP X pv W true none oNone := ⟨_, po_none, fun G F sd σ H Q s => Meets.here s rfl id⟩
theorem dp_some {m : SD → ER D} (h : DX X pv W p k e m) : DP X pv W p (some e) (oSome m) := by
  obtain ⟨te, a1, a2⟩ := h
  refine ⟨_, po_some a1, fun G F sd σ H Q s => ?_⟩
  refine Meets.bindL (a2 G F sd σ H _ s) fun x F1 H1 dx sd1 s1 s2 s3 s4 => ?_
  have r := RSx.see s3 s2
  cases dx with
  | int i =>
    cases r
    exact Meets.here s2 rfl fun q => ⟨i, rfl, q⟩
  | _ => exact True.intro
noncomputable def cutL {α : Type} (xs : List α) (lo hi : Option Int) : List α := (xs.drop (HT.sIx xs.length 0 lo)).take (HT.sIx xs.length xs.length hi - HT.sIx xs.length 0 lo)
theorem reps_cut {K : PySem.W.Frag} {F : Hp} {vs : List V} {ds : List D} (lo hi : Option Int) (r : Reps K F vs ds) : Reps K F (cutV vs lo hi) (cutL ds lo hi) := by
  unfold cutV cutL
  rw [r.length]
  exact (r.drop _).take _
/-- l[lo:hi], a new list -/
noncomputable def mCut (a : SD → ER (List D)) (lo hi : SD → ER (Option Int)) : SD → ER OT := fun sd => (a sd).bind fun xs sd1 => (lo sd1).bind fun i sd2 => (hi sd2).bind fun j sd3 => .ok (.ol ((cutL xs i j).map .fz)) sd3
theorem do_cut {lo hi : Option Expr} {p2 : Pos} {ma : SD → ER (List D)} {ml mh : SD → ER (Option Int)} {q1 q2 : Bool} (ha : DQ X pv W p k a ma) (hl : DP X pv W q1 lo ml) (hh : DP X pv W q2 hi mh) (hk : (k || (q1 && q2)) = true := by rfl) :
    DO X pv W (p && (q1 && q2)) (.Subscript a (.Slice lo hi none p2) pos) (mCut ma ml mh) := by
  obtain ⟨ta, a1, a2⟩ := ha
  obtain ⟨tl, b1, b2⟩ := hl
  obtain ⟨th, c1, c2⟩ := hh
  refine ⟨_, pe_slice sl_list a1 b1 c1, fun G F sd σ H Q s => ?_⟩
  refine Meets.bind (a2 G F sd σ H _ s) fun x F1 H1 xs sd1 s1 s2 s3 s4 => ?_
  refine Meets.bind (b2 G F1 sd1 σ H1 _ s2) fun i F2 H2 i' sd2 t1 t2 t3 t4 => ?_
  refine Meets.bindL (c2 G F2 sd2 σ H2 _ t2) fun j F3 H3 j' sd3 u1 u2 u3 u4 => ?_
  have t3 : i = i' := t3
  have u3 : j = j' := u3
  subst t3 u3
  intro hQ
  have s34 : (q1 && q2) = true → Same H1 H3 ∧ sd3 = sd1 := fun z => by
    rw [Bool.and_eq_true] at z
    obtain ⟨x1, x2⟩ := t4 z.1
    obtain ⟨y1, y2⟩ := u4 z.2
    exact ⟨x1.trans y1, y2.trans x2⟩
  obtain ⟨aa, vs, rfl, h1, h2⟩ := s3.on hk (t1.trans u1) u2 s34
  refine ⟨aa, vs, rfl, .inl h1, fun p hp => ?_⟩
  have z := u2.newL hp (reps_cut i j h2)
  exact hQ _ _ _ (Same.refl _) z.drop z fun _ => ⟨Same.upd hp, rfl⟩
/-- t[lo:hi] of a frozen list, a tuple, a text -/
noncomputable def mCutX (a : SD → ER D) (lo hi : SD → ER (Option Int)) : SD → ER D := fun sd => (a sd).bind fun x sd1 => (lo sd1).bind fun i sd2 => (hi sd2).bind fun j sd3 => match x with
  | .lst xs => .ok (.lst (cutL xs i j)) sd3
  | .tup xs => .ok (.tup (cutL xs i j)) sd3
  | .ktu xs => if HT.sIx xs.length 0 i = 0 ∧ HT.sIx xs.length xs.length j = xs.length then .bad else .ok (.tup (cutL xs i j)) sd3
  | .str z => if z.length ≤ 16777216 then .ok (.str (cutS z i j)) sd3 else .bad
  | _ => .bad
theorem cut_whole {α : Type} {xs : List α} {lo hi : Option Int} (h : HT.sIx xs.length 0 lo = 0 ∧ HT.sIx xs.length xs.length hi = xs.length) : cutL xs lo hi = xs := by
  unfold cutL
  rw [h.1, h.2]
  simp
theorem sl_any : SlR X (fun x lo hi H Q => rSlL X.K x lo hi H Q ∨ (rSlA X.K x lo hi H Q ∨ rSlS x lo hi H Q)) := sl_list.or (sl_tupA.or sl_str)
theorem dx_cut {lo hi : Option Expr} {p2 : Pos} {ma : SD → ER D} {ml mh : SD → ER (Option Int)} {q1 q2 : Bool} (ha : DX X pv W p true a ma) (hl : DP X pv W q1 lo ml) (hh : DP X pv W q2 hi mh) :
    DX X pv W (p && (q1 && q2)) true (.Subscript a (.Slice lo hi none p2) pos) (mCutX ma ml mh) := by
  obtain ⟨ta, a1, a2⟩ := ha
  obtain ⟨tl, b1, b2⟩ := hl
  obtain ⟨th, c1, c2⟩ := hh
  refine ⟨_, pe_slice sl_any a1 b1 c1, fun G F sd σ H Q s => ?_⟩
  refine Meets.bind (a2 G F sd σ H _ s) fun x F1 H1 dx sd1 s1 s2 s3 s4 => ?_
  refine Meets.bind (b2 G F1 sd1 σ H1 _ s2) fun i F2 H2 i' sd2 t1 t2 t3 t4 => ?_
  refine Meets.bindL (c2 G F2 sd2 σ H2 _ t2) fun j F3 H3 j' sd3 u1 u2 u3 u4 => ?_
  have t3 : i = i' := t3
  have u3 : j = j' := u3
  subst t3 u3
  have rx : Rep X.K F3 x dx := Rep.mono (t1.trans u1) (show Rep X.K F1 x dx from s3)
  cases dx with
  | lst xs =>
    intro hQ
    cases rx with
    | @lst aa vs _ h1 h2 =>
      refine .inl ⟨aa, vs, rfl, .inl (Same.rd u2.fh h1), fun p hp => ?_⟩
      exact hQ _ _ _ (u2.sameNew hp) (u2.new hp) (.lst (.inl upd_same) ((reps_cut i j h2).mono (u2.sameNew hp))) fun _ => ⟨Same.upd hp, rfl⟩
  | tup xs =>
    intro hQ
    cases rx with
    | @tup aa vs _ h1 h2 =>
      refine .inr (.inl ⟨aa, vs, rfl, .inl (.inl (u2.fh _ _ h1)), fun hw => ?_, fun hw p hp => ?_⟩)
      · refine hQ _ _ _ (Same.refl _) u2 ?_ fun _ => ⟨Same.refl _, rfl⟩
        rw [h2.length] at hw
        rw [cut_whole hw]
        exact .tup h1 h2
      · exact hQ _ _ _ (u2.sameNew hp) (u2.new hp) (.tup upd_same ((reps_cut i j h2).mono (u2.sameNew hp))) fun _ => ⟨Same.upd hp, rfl⟩
  | ktu xs =>
    show Meets X.K pv W G σ (RSx X.K true) true sd3 F3 H3 (if HT.sIx xs.length 0 i = 0 ∧ HT.sIx xs.length xs.length j = xs.length then .bad else .ok (.tup (cutL xs i j)) sd3) Q _
    split
    · exact True.intro
    · rename_i hnw
      intro hQ
      cases rx with
      | @ktu aa vs _ h1 h2 =>
        refine .inr (.inl ⟨aa, vs, rfl, Same.sqt u2.fh h1, fun hw => absurd (by rw [h2.length] at hw; exact hw) hnw, fun hw p hp => ?_⟩)
        exact hQ _ _ _ (u2.sameNew hp) (u2.new hp) (.tup upd_same ((reps_cut i j h2).mono (u2.sameNew hp))) fun _ => ⟨Same.upd hp, rfl⟩
  | str z =>
    cases rx
    show Meets X.K pv W G σ (RSx X.K true) true sd3 F3 H3 (if z.length ≤ 16777216 then .ok (.str (cutS z i j)) sd3 else .bad) Q _
    split
    · rename_i hz
      exact Meets.here u2 (show RSx X.K true G F3 sd3 H3 σ _ _ from .str _) fun q => .inr (.inr ⟨z, rfl, by rw [sizeLine_eq]; exact hz, q⟩)
    · exact True.intro
  | _ => exact True.intro
/-- l[lo:hi:st] -/
noncomputable def pickL {α : Type} (xs : List α) (lo hi st : Option Int) : List α := (sliceRange (sliceBounds lo hi st xs.length).1 (sliceBounds lo hi st xs.length).2.1 (sliceBounds lo hi st xs.length).2.2).filterMap (xs[·]?)
noncomputable def tSl3 (K : PySem.W.Frag) (te : TE) (tl th ts : TO) : TE := fun σ H Q => te σ H fun x H1 => tl σ H1 fun l H2 => th σ H2 fun u H3 => ts σ H3 fun o H4 => ∃ a xs, x = .ref a ∧ Rd H4 a (.lst xs) ∧ o ≠ some 0 ∧ ∀ p, H4 p = none → Q (.ref p) (upd H4 p (.lst (pickL xs l u o)))
theorem vals_pick {xs : List V} {us : List Value} (r : Vals xs us) : ∀ ks : List Nat, Vals (ks.filterMap (xs[·]?)) (ks.filterMap (us[·]?))
  | [] => .nil
  | k :: ks => by
    rw [List.filterMap_cons, List.filterMap_cons]
    cases e : xs[k]? with
    | none =>
      rw [r.none_of e]
      exact vals_pick r ks
    | some x =>
      obtain ⟨u, h1, h2⟩ := r.get e
      rw [h1]
      exact .cons h2 (vals_pick r ks)
theorem reps_pick {K : PySem.W.Frag} {F : Hp} {vs : List V} {ds : List D} (r : Reps K F vs ds) : ∀ ks : List Nat, Reps K F (ks.filterMap (vs[·]?)) (ks.filterMap (ds[·]?))
  | [] => .nil
  | k :: ks => by
    rw [List.filterMap_cons, List.filterMap_cons]
    cases e : vs[k]? with
    | none =>
      have e2 : ds[k]? = none := by
        rw [List.getElem?_eq_none_iff] at e ⊢
        rw [← r.length]; exact e
      rw [e2]
      exact reps_pick r ks
    | some x =>
      obtain ⟨u, h1, h2⟩ := r.get' e
      rw [h1]
      exact .cons h2 (reps_pick r ks)
theorem pe_slice3 {e : Expr} {te : TE} {lo hi : Option Expr} {st : Expr} {tl th ts : TO} {p3 pos : Pos} (he : PE X e te) (hl : PO X lo tl) (hh : PO X hi th) (hst : PO X (some st) ts) : PE X (.Subscript e (.Slice lo hi (some st) p3) pos) (tSl3 X.K te tl th ts) := by
  refine ⟨fun pins s σ H Q I h => ?_⟩
  refine Subscript_ (thn (he.run pins s σ H _ I h) fun v s1 ⟨x, H1, I1, r1, q1⟩ => ?_)
  refine wpAny_Slice (thn (hl.run pins s1 σ H1 _ I1 q1) fun vl s2 ⟨l, H2, I2, pl, q2⟩ => ?_)
  refine thn (hh.run pins s2 σ H2 _ I2 q2) fun vu s3 ⟨u, H3, I3, pu, q3⟩ => ?_
  refine thn (hst.run pins s3 σ H3 _ I3 q3) fun vs s4 ⟨o, H4, I4, ps, q4⟩ => ?_
  obtain ⟨a, xs, ex, hx, ho, q⟩ := q4
  subst ex
  cases r1
  have I5 : Inv X pins σ H4 { s4 with heap := s4.heap.push { cls := .type "slice", data := .fields #[vl, vu, vs] } } := I4.kept (t' := s4.toks) fun b ob q => Heap.get?_push_of_some _ q
  obtain ⟨its, r, ht, hz⟩ := I5.list (.inl hx)
  have hlen := r.length
  show wpAny (model X.prog X.w) X.A (PyProof.Rows.subscriptTail e (.Slice lo hi (some st) p3) (.ref a) (.ref s4.heap.objs.size)) (EP X pins σ Q) X.xe { s4 with heap := s4.heap.push { cls := .type "slice", data := .fields #[vl, vu, vs] } }
  refine tail_any (ops := [.ref a, .ref s4.heap.objs.size]) ht.isList.typeIs (PySem.slot_list_getitem.lookup) ?_ (by with_unfolding_all rfl)
  refine wpAny_getItem_list_slice ht.isList (Heap.IsSliceOf.new _ vl vu vs) pl pu ps ho ?_ (by rw [List.size_toArray]; omega)
  have ep : slicePick its.toArray l u o = ((sliceRange (sliceBounds l u o xs.length).1 (sliceBounds l u o xs.length).2.1 (sliceBounds l u o xs.length).2.2).filterMap (its[·]?)).toArray := by
    unfold slicePick
    rw [List.size_toArray, hlen]
    congr 1
    congr 1
    funext i
    simp
  rw [ep]
  have hr : Vals (pickL xs l u o) _ := vals_pick r _
  refine ⟨.ref _, _, I5.laid (t' := s4.toks) (o := .lst (pickL xs l u o)) (fun b ob q => Heap.get?_push_of_some _ q) (Nat.le_refl _) ?_, rfl, q _ (I5.hok.fresh (Nat.le_refl _))⟩
  refine ⟨?_, _, 0, hr, Heap.get?_push_size _ rfl⟩
  have hs := slicePick_size_le its.toArray l u o
  rw [ep, List.size_toArray, List.size_toArray] at hs
  rw [hr.length]
  omega
noncomputable def mPick (a : SD → ER (List D)) (lo hi st : SD → ER (Option Int)) : SD → ER OT := fun sd => (a sd).bind fun xs sd1 => (lo sd1).bind fun i sd2 => (hi sd2).bind fun j sd3 => (st sd3).bind fun o sd4 => if o = some 0 then .bad else .ok (.ol ((pickL xs i j o).map .fz)) sd4
theorem do_pick {lo hi : Option Expr} {st : Expr} {p3 : Pos} {ma : SD → ER (List D)} {ml mh ms : SD → ER (Option Int)} {q1 q2 q3 : Bool} (ha : DQ X pv W p k a ma) (hl : DP X pv W q1 lo ml) (hh : DP X pv W q2 hi mh) (hs : DP X pv W q3 (some st) ms) (hk : (k || (q1 && (q2 && q3))) = true := by rfl) :
    DO X pv W (p && (q1 && (q2 && q3))) (.Subscript a (.Slice lo hi (some st) p3) pos) (mPick ma ml mh ms) := by
  obtain ⟨ta, a1, a2⟩ := ha
  obtain ⟨tl, b1, b2⟩ := hl
  obtain ⟨th, c1, c2⟩ := hh
  obtain ⟨ts, d1, d2⟩ := hs
  refine ⟨_, pe_slice3 a1 b1 c1 d1, fun G F sd σ H Q s => ?_⟩
  refine Meets.bind (a2 G F sd σ H _ s) fun x F1 H1 xs sd1 s1 s2 s3 s4 => ?_
  refine Meets.bind (b2 G F1 sd1 σ H1 _ s2) fun i F2 H2 i' sd2 t1 t2 t3 t4 => ?_
  refine Meets.bind (c2 G F2 sd2 σ H2 _ t2) fun j F3 H3 j' sd3 u1 u2 u3 u4 => ?_
  refine Meets.bindL (d2 G F3 sd3 σ H3 _ u2) fun o F4 H4 o' sd4 v1 v2 v3 v4 => ?_
  have t3 : i = i' := t3
  have u3 : j = j' := u3
  have v3 : o = o' := v3
  subst t3 u3 v3
  split
  · exact True.intro
  · rename_i ho
    intro hQ
    have s34 : (q1 && (q2 && q3)) = true → Same H1 H4 ∧ sd4 = sd1 := fun z => by
      rw [Bool.and_eq_true, Bool.and_eq_true] at z
      obtain ⟨x1, x2⟩ := t4 z.1
      obtain ⟨y1, y2⟩ := u4 z.2.1
      obtain ⟨w1, w2⟩ := v4 z.2.2
      exact ⟨(x1.trans y1).trans w1, (w2.trans y2).trans x2⟩
    obtain ⟨aa, vs, rfl, h1, h2⟩ := s3.on hk ((t1.trans u1).trans v1) v2 s34
    refine ⟨aa, vs, rfl, h1, ho, fun p hp => ?_⟩
    have hr : Reps X.K F4 (pickL vs i j o) (pickL xs i j o) := by
      unfold pickL
      rw [h2.length]
      exact reps_pick h2 _
    have z := v2.newL hp hr
    exact hQ _ _ _ (Same.refl _) z.drop z fun _ => ⟨Same.upd hp, rfl⟩
end
end DL
namespace DL
open PySem PySem.Spec L2
noncomputable def Wants (K : PySem.W.Frag) (pv : List V) (W : WX) (G F : Hp) (r : Fl) (D : Ends) : Prop :=
  match r with
  | .nx sd' => ∀ F' σ' H', Same F F' → StR K pv G F' sd' σ' H' → D.nx σ' H'
  | .rt t sd' => ∀ v F' σ' H', Same F F' → StR1 K pv G F' sd' σ' H' v t → D.rt v H'
  | .bk sd' => ∀ F' σ' H', Same F F' → StR K pv G F' sd' σ' H' → D.bk σ' H'
  | .ct sd' => ∀ F' σ' H', Same F F' → StR K pv G F' sd' σ' H' → D.ct σ' H'
  | .rz x sd' => ∀ cls dd F' σ' H', Same F F' → StR K pv G F' sd' σ' H' → RepX K F' cls dd x → W cls dd σ' H'
  | .bad => False
section
variable {K : PySem.W.Frag} {pv : List V} {W : WX} {G F F1 : Hp} {r : Fl} {D : Ends} {P : Prop}
theorem meetsS_of (h : Wants K pv W G F r D → P) : MeetsS K pv W G F r D P := by
  cases r with
  | bad => exact True.intro
  | _ => exact h
theorem MeetsS.get (h : MeetsS K pv W G F r D P) (w : Wants K pv W G F r D) : P := by
  cases r with
  | bad => exact w.elim
  | _ => exact h w
theorem Wants.mono (e : Same F F1) (w : Wants K pv W G F r D) : Wants K pv W G F1 r D := by
  cases r with
  | bad => exact w
  | nx sd => exact fun F' σ' H' s => w F' σ' H' (e.trans s)
  | bk sd => exact fun F' σ' H' s => w F' σ' H' (e.trans s)
  | ct sd => exact fun F' σ' H' s => w F' σ' H' (e.trans s)
  | rt t sd => exact fun v F' σ' H' s => w v F' σ' H' (e.trans s)
  | rz x sd => exact fun c d F' σ' H' s => w c d F' σ' H' (e.trans s)
end
noncomputable def wipeS (l : List S) : List Nat → List S
  | [] => l
  | v :: vs => (wipeS l vs).set v .un
noncomputable def SD.wipe (sd : SD) (vs : List Nat) : SD := { sd with sl := wipeS sd.sl vs }
noncomputable def backS (l orig : List S) : List Nat → List S
  | [] => l
  | v :: vs => (backS l orig vs).set v ((orig[v]?).getD .un)
noncomputable def SD.back (sd orig : SD) (vs : List Nat) : SD := { sd with sl := backS sd.sl orig.sl vs }
theorem wipeS_length (l : List S) : ∀ vs : List Nat, (wipeS l vs).length = l.length
  | [] => rfl
  | v :: vs => by unfold wipeS; rw [List.length_set, wipeS_length l vs]
theorem backS_length (l o : List S) : ∀ vs : List Nat, (backS l o vs).length = l.length
  | [] => rfl
  | v :: vs => by unfold backS; rw [List.length_set, backS_length l o vs]
theorem wipeS_in {l : List S} {i : Nat} : ∀ {vs : List Nat}, i ∈ vs → i < l.length → (wipeS l vs)[i]? = some .un
  | v :: vs, h, hl => by
    unfold wipeS
    by_cases e : v = i
    · subst e
      rw [List.getElem?_set_self (by rw [wipeS_length]; exact hl)]
    · rw [List.getElem?_set_ne e]
      exact wipeS_in ((List.mem_cons.mp h).resolve_left (fun z => e z.symm)) hl
theorem wipeS_out {l : List S} {i : Nat} : ∀ {vs : List Nat}, i ∉ vs → (wipeS l vs)[i]? = l[i]?
  | [], _ => rfl
  | v :: vs, h => by
    unfold wipeS
    rw [List.getElem?_set_ne (fun z => h (by rw [z]; exact List.mem_cons_self))]
    exact wipeS_out fun z => h (List.mem_cons_of_mem _ z)
theorem backS_in {l o : List S} {i : Nat} : ∀ {vs : List Nat}, i ∈ vs → i < l.length → (backS l o vs)[i]? = some ((o[i]?).getD .un)
  | v :: vs, h, hl => by
    unfold backS
    by_cases e : v = i
    · subst e
      rw [List.getElem?_set_self (by rw [backS_length]; exact hl)]
    · rw [List.getElem?_set_ne e]
      exact backS_in ((List.mem_cons.mp h).resolve_left (fun z => e z.symm)) hl
theorem backS_out {l o : List S} {i : Nat} : ∀ {vs : List Nat}, i ∉ vs → (backS l o vs)[i]? = l[i]?
  | [], _ => rfl
  | v :: vs, h => by
    unfold backS
    rw [List.getElem?_set_ne (fun z => h (by rw [z]; exact List.mem_cons_self))]
    exact backS_out fun z => h (List.mem_cons_of_mem _ z)
theorem wipeS_set {l : List S} {i : Nat} {x : S} {vs : List Nat} (h : i ∈ vs) : wipeS (l.set i x) vs = wipeS l vs := by
  refine List.ext_getElem? fun j => ?_
  by_cases hj : j ∈ vs
  · by_cases hl : j < l.length
    · rw [wipeS_in hj (by rw [List.length_set]; exact hl), wipeS_in hj hl]
    · rw [List.getElem?_eq_none (by rw [wipeS_length, List.length_set]; omega), List.getElem?_eq_none (by rw [wipeS_length]; omega)]
  · rw [wipeS_out hj, wipeS_out hj, List.getElem?_set_ne (fun z => hj (by rw [← z]; exact h))]
theorem wipe_set {σ : L2.St} {i : Nat} {v : Option V} : ∀ {vs : List Nat}, i ∈ vs → wipe (σ.set i v) vs = wipe σ vs
  | [], h => by cases h
  | j :: vs, h => by
    unfold wipe
    by_cases hj : i ∈ vs
    · rw [wipe_set hj]
    · have e : i = j := by
        rcases List.mem_cons.mp h with e | h
        · exact e
        · exact absurd h hj
      subst e
      have go : ∀ (us : List Nat), i ∉ us → wipe (σ.set i v) us = (wipe σ us).set i v := fun us => by
        induction us with
        | nil => intro _; rfl
        | cons u us ih =>
          intro hn
          unfold wipe
          rw [ih fun z => hn (List.mem_cons_of_mem _ z), List.set_comm _ _ (fun z => hn (by rw [z]; exact List.mem_cons_self))]
      rw [go vs hj, List.set_set]
structure DG (X : Cx) (is : List Nat) (tg : Expr) (g : D → SD → Option SD) : Prop where
  ex : ∃ t, PG X tg t ∧ ∀ (pv : List V) (G F : Hp) (sd : SD) (σ : L2.St) (H : Hp) (x : V) (d : D) (sd' : SD), StR X.K pv G F sd σ H → Rep X.K F x d → g d sd = some sd' →
    ∃ σ', StR X.K pv G F sd' σ' H ∧ (∀ vs : List Nat, (∀ i ∈ is, i ∈ vs) → wipe σ' vs = wipe σ vs) ∧ ∀ Q : L2.St → Hp → Prop, Q σ' H → t x σ H Q
  wip : ∀ (vs : List Nat), (∀ i ∈ is, i ∈ vs) → ∀ d sd sd', g d sd = some sd' → SD.wipe sd' vs = SD.wipe sd vs
structure DGs (X : Cx) (is : List Nat) (tgs : List Expr) (g : List D → SD → Option SD) : Prop where
  ex : ∃ t, PGs X tgs t ∧ ∀ (pv : List V) (G F : Hp) (sd : SD) (σ : L2.St) (H : Hp) (xs : List V) (ds : List D) (sd' : SD), StR X.K pv G F sd σ H → Reps X.K F xs ds → g ds sd = some sd' →
    ∃ σ', StR X.K pv G F sd' σ' H ∧ (∀ vs : List Nat, (∀ i ∈ is, i ∈ vs) → wipe σ' vs = wipe σ vs) ∧ ∀ Q : L2.St → Hp → Prop, Q σ' H → t xs σ H Q
  wip : ∀ (vs : List Nat), (∀ i ∈ is, i ∈ vs) → ∀ d sd sd', g d sd = some sd' → SD.wipe sd' vs = SD.wipe sd vs
noncomputable def SD.putFz (sd : SD) (i : Nat) (d : D) : Option SD := if i < sd.sl.length then some { sd with sl := sd.sl.set i (.ow (.fz d)) } else none
noncomputable def tgN (i : Nat) : D → SD → Option SD := fun d sd => sd.putFz i d
noncomputable def tgNil : List D → SD → Option SD := fun ds sd => match ds with
  | [] => some sd
  | _ => none
noncomputable def tgCons (g : D → SD → Option SD) (h : List D → SD → Option SD) : List D → SD → Option SD := fun ds sd => match ds with
  | d :: r => (g d sd).bind fun sd1 => h r sd1
  | [] => none
noncomputable def tgT (n : Nat) (h : List D → SD → Option SD) : D → SD → Option SD := fun d sd => match d with
  | .tup ds => if ds.length = n then h ds sd else none
  | .ktu ds => if ds.length = n then h ds sd else none
  | _ => none
section
variable {X : Cx} {pos : Pos}
theorem dg_name {i : Nat} {x : Str} (hN : X.N.Nodup) (hi : X.N[i]? = some x) (hx : Loc X.env.scope x) (hf : X.fn x = true ∨ X.env.scope.names.lookup x = some .local := by first | exact .inl rfl | exact .inr rfl | assumption) : DG X [i] (.Name x pos) (tgN i) := by
  refine ⟨⟨_, pg_name hN hi hx hf, fun pv G F sd σ H x d sd' s r e => ?_⟩, fun vs h d sd sd' e => ?_⟩
  · unfold tgN SD.putFz at e
    split at e
    · rename_i hl
      cases e
      exact ⟨_, (StR1.fz s r).store hl, fun vs h => wipe_set (h i List.mem_cons_self), fun Q q => q⟩
    · cases e
  · unfold tgN SD.putFz at e
    split at e
    · cases e
      show SD.mk (wipeS (sd.sl.set i _) vs) sd.pa = SD.mk (wipeS sd.sl vs) sd.pa
      rw [wipeS_set (h i List.mem_cons_self)]
    · cases e
theorem dgs_nil : DGs X [] [] tgNil := by
  refine ⟨⟨_, pgs_nil, fun pv G F sd σ H xs ds sd' s r e => ?_⟩, fun vs h d sd sd' e => ?_⟩
  · unfold tgNil at e
    cases r with
    | nil => cases e; exact ⟨σ, s, fun _ _ => rfl, fun Q q => ⟨rfl, q⟩⟩
    | cons _ _ => cases e
  · unfold tgNil at e
    cases d with
    | nil => cases e; rfl
    | cons _ _ => cases e
theorem dgs_cons {is js : List Nat} {e : Expr} {es : List Expr} {g : D → SD → Option SD} {h : List D → SD → Option SD} (h1 : DG X is e g) (h2 : DGs X js es h)
    (hs : (assignEach (e :: es) X.env).map (·.2) = assign e X.env :: (assignEach es X.env).map (·.2) := by rfl) : DGs X (is ++ js) (e :: es) (tgCons g h) := by
  obtain ⟨⟨t, a1, a2⟩, a3⟩ := h1
  obtain ⟨⟨u, b1, b2⟩, b3⟩ := h2
  refine ⟨⟨_, pgs_cons a1 b1 hs, fun pv G F sd σ H xs ds sd' s r e => ?_⟩, fun vs hv d sd sd' e => ?_⟩
  · cases r with
    | nil => cases e
    | cons r rr =>
      obtain ⟨sd1, e1, e2⟩ := Option.bind_eq_some_iff.mp e
      obtain ⟨σ1, s1, w1, k1⟩ := a2 pv G F sd σ H _ _ sd1 s r e1
      obtain ⟨σ2, s2, w2, k2⟩ := b2 pv G F sd1 σ1 H _ _ sd' s1 rr e2
      exact ⟨σ2, s2, fun vs hv => (w2 vs fun i hi => hv i (List.mem_append_right _ hi)).trans (w1 vs fun i hi => hv i (List.mem_append_left _ hi)), fun Q q => ⟨_, _, rfl, k1 _ (k2 Q q)⟩⟩
  · cases d with
    | nil => cases e
    | cons d ds =>
      obtain ⟨sd1, e1, e2⟩ := Option.bind_eq_some_iff.mp e
      rw [b3 vs (fun i hi => hv i (List.mem_append_right _ hi)) _ _ _ e2, a3 vs (fun i hi => hv i (List.mem_append_left _ hi)) _ _ _ e1]
theorem dg_tup {is : List Nat} {es : List Expr} {kk n : Nat} {h : List D → SD → Option SD} (hc : X.calm = true) (h1 : DGs X is es h)
    (hn : (assignEach es X.env).length = n := by rfl) (hst : (assignEach es X.env).findIdx? (·.1) = none := by rfl) : DG X is (.Tuple es kk pos) (tgT n h) := by
  obtain ⟨⟨t, a1, a2⟩, a3⟩ := h1
  refine ⟨⟨_, pg_tup hc a1 hn hst, fun pv G F sd σ H x d sd' s r e => ?_⟩, fun vs hv d sd sd' e => ?_⟩
  · unfold tgT at e
    cases d with
    | tup ds =>
      have e : (if ds.length = n then h ds sd else none) = some sd' := e
      split at e
      · rename_i hl
        cases r with
        | @tup a vs _ q rr =>
          obtain ⟨σ1, s1, w1, k1⟩ := a2 pv G F sd σ H _ _ sd' s rr e
          exact ⟨σ1, s1, w1, fun Q q' => ⟨a, vs, rfl, .inl (.inl (s.fh _ _ q)), by rw [rr.length]; exact hl, k1 Q q'⟩⟩
      · cases e
    | ktu ds =>
      have e : (if ds.length = n then h ds sd else none) = some sd' := e
      split at e
      · rename_i hl
        cases r with
        | @ktu a vs _ q rr =>
          obtain ⟨σ1, s1, w1, k1⟩ := a2 pv G F sd σ H _ _ sd' s rr e
          exact ⟨σ1, s1, w1, fun Q q' => ⟨a, vs, rfl, Same.sqt s.fh q, by rw [rr.length]; exact hl, k1 Q q'⟩⟩
      · cases e
    | _ => cases e
  · unfold tgT at e
    cases d with
    | tup ds =>
      have e : (if ds.length = n then h ds sd else none) = some sd' := e
      split at e
      · exact a3 vs hv _ _ _ e
      · cases e
    | ktu ds =>
      have e : (if ds.length = n then h ds sd else none) = some sd' := e
      split at e
      · exact a3 vs hv _ _ _ e
      · cases e
    | _ => cases e
end
structure Walk (K : PySem.W.Frag) (J : It) (F : Hp) (ds : List D) : Prop where
  stop : ∀ F' H', Same F F' → Same F' H' → J.stop ds.length H'
  go : ∀ F' H' i d, Same F F' → Same F' H' → ds[i]? = some d → J.go i H'
  yld : ∀ F' H' i d x H'', Same F F' → Same F' H' → ds[i]? = some d → J.yld i H' x H'' → (H'' = H' ∧ Rep K F' x d) ∨ ∃ T vs es, x = .ref T ∧ d = .tup es ∧ H' T = none ∧ H'' = upd H' T (.tup vs) ∧ Reps K F' vs es
noncomputable def RSw (K : PySem.W.Frag) : RSt It (List D) := fun _ F _ _ _ J ds => Walk K J F ds
noncomputable def TrI (K : PySem.W.Frag) (pv : List V) (W : WX) (p : Bool) (wi : TI) (m : SD → ER (List D)) : Prop := ∀ G F sd σ H R, StR K pv G F sd σ H → Meets K pv W G σ (RSw K) p sd F H (m sd) R (wi σ H R)
structure DI (X : Cx) (pv : List V) (W : WX) (p : Bool) (tg iter : Expr) (m : SD → ER (List D)) : Prop where
  ex : ∃ wi, PI X tg iter wi ∧ TrI X.K pv W p wi m
noncomputable def iLst (a : SD → ER D) : SD → ER (List D) := fun sd => (a sd).bind fun x sd1 => match x with
  | .lst ds => .ok ds sd1
  | .scr ns => .ok (ns.map .int) sd1
  | _ => .bad
noncomputable def iTuP (a : SD → ER D) : SD → ER (List D) := fun sd => (a sd).bind fun x sd1 => match x with
  | .tup ds => .ok ds sd1
  | _ => .bad
noncomputable def rangeD (lo : Int) (n : Nat) : List D := (List.range n).map fun (i : Nat) => D.int (lo + (i : Int))
noncomputable def iRange1 (a : SD → ER (List D)) : SD → ER (List D) := fun sd => (a sd).bind fun xs sd1 => match xs with
  | [.int j] => if -(2 ^ 62) ≤ j ∧ j < 2 ^ 62 then .ok (rangeD 0 j.toNat) sd1 else .bad
  | _ => .bad
noncomputable def iRange2 (a : SD → ER (List D)) : SD → ER (List D) := fun sd => (a sd).bind fun xs sd1 => match xs with
  | [.int i, .int j] => if -(2 ^ 62) ≤ i ∧ i < 2 ^ 62 ∧ -(2 ^ 62) ≤ j ∧ j < 2 ^ 62 then .ok (rangeD i (j - i).toNat) sd1 else .bad
  | _ => .bad
noncomputable def iZip2 (a : SD → ER (List D)) : SD → ER (List D) := fun sd => (a sd).bind fun xs sd1 => match xs with
  | [.lst xs, .lst ys] => .ok ((xs.zip ys).map fun p => .tup [p.1, p.2]) sd1
  | _ => .bad
noncomputable def iEnumL (a : SD → ER (List D)) : SD → ER (List D) := fun sd => (a sd).bind fun xs sd1 => match xs with
  | [.lst xs] => .ok (xs.zipIdx.map fun p => .tup [.int (p.2 : Int), p.1]) sd1
  | _ => .bad
section
variable {K : PySem.W.Frag} {F H : Hp}
theorem walk_list {a : Addr} {vs : List V} {ds : List D} (h : SqL K F a vs) (r : Reps K F vs ds) : Walk K (Itl K a) F ds where
  stop := fun F' H' e1 e2 => ⟨vs, (e1.trans e2).seq h, by rw [r.length]; exact Nat.le_refl _⟩
  go := fun F' H' i d e1 e2 hd => by
    obtain ⟨v, h1, _⟩ := r.get hd
    exact ⟨vs, v, (e1.trans e2).seq h, h1⟩
  yld := fun F' H' i d x H'' e1 e2 hd ⟨hH, hx⟩ => by
    obtain ⟨v, h1, h2⟩ := r.get hd
    have := hx vs ((e1.trans e2).seq h)
    rw [h1] at this; cases this
    exact .inl ⟨hH, h2.mono e1⟩
theorem walk_tup {a : Addr} {vs : List V} {ds : List D} (h : SqT K F a vs) (r : Reps K F vs ds) : Walk K (Itt K a) F ds where
  stop := fun F' H' e1 e2 => ⟨vs, Same.sqt (e1.trans e2) h, by rw [r.length]; exact Nat.le_refl _⟩
  go := fun F' H' i d e1 e2 hd => by
    obtain ⟨v, h1, _⟩ := r.get hd
    exact ⟨vs, v, Same.sqt (e1.trans e2) h, h1⟩
  yld := fun F' H' i d x H'' e1 e2 hd ⟨hH, hx⟩ => by
    obtain ⟨v, h1, h2⟩ := r.get hd
    have := hx vs (Same.sqt (e1.trans e2) h)
    rw [h1] at this; cases this
    exact .inl ⟨hH, h2.mono e1⟩
theorem rangeD_get {lo : Int} {n i : Nat} {d : D} (h : (rangeD lo n)[i]? = some d) : i < n ∧ d = .int (lo + i) := by
  unfold rangeD at h
  rw [List.getElem?_map] at h
  obtain ⟨j, h1, h2⟩ := Option.map_eq_some_iff.mp h
  obtain ⟨hi, e⟩ := List.getElem?_eq_some_iff.mp h1
  rw [List.getElem_range] at e
  rw [List.length_range] at hi
  subst e
  exact ⟨hi, h2.symm⟩
theorem rangeD_length (lo : Int) (n : Nat) : (rangeD lo n).length = n := by unfold rangeD; rw [List.length_map, List.length_range]
theorem walk_range (lo : Int) (n : Nat) : Walk K (Itr lo n) F (rangeD lo n) where
  stop := fun F' H' _ _ => by rw [rangeD_length]; exact Nat.le_refl n
  go := fun F' H' i d _ _ hd => (rangeD_get hd).1
  yld := fun F' H' i d x H'' _ _ hd ⟨hH, hx⟩ => by
    rw [hx, (rangeD_get hd).2]
    exact .inl ⟨hH, .int _⟩
end
section
variable {X : Cx} {pv : List V} {W : WX} {p q k l : Bool} {tg e a b c : Expr} {es : List Expr} {pos pp : Pos}
theorem di_list {m : SD → ER D} (h : DX X pv W p true e m) : DI X pv W p tg e (iLst m) := by
  obtain ⟨te, a1, a2⟩ := h
  refine ⟨_, pi_list a1, fun G F sd σ H R s => ?_⟩
  refine Meets.bindL (a2 G F sd σ H _ s) fun x F1 H1 dx sd1 s1 s2 s3 s4 => ?_
  have s3 : Rep X.K F1 x dx := s3
  cases dx with
  | lst ds =>
    cases s3 with
    | @lst aa vs _ h1 h2 =>
      exact Meets.here s2 (show RSw X.K G F1 sd1 H1 σ (Itl X.K aa) ds from walk_list (.inl h1) h2) fun q => ⟨aa, rfl, ⟨vs, .inl (Same.rd s2.fh h1)⟩, q⟩
  | scr ns =>
    cases s3 with
    | @scr aa _ h1 =>
      exact Meets.here s2 (show RSw X.K G F1 sd1 H1 σ (Itl X.K aa) (ns.map .int) from walk_list h1 (Reps.ints ns)) fun q => ⟨aa, rfl, ⟨_, s2.fh.seq h1⟩, q⟩
  | _ => exact True.intro
theorem di_tup {m : SD → ER D} (h : DX X pv W p true e m) : DI X pv W p tg e (iTuP m) := by
  obtain ⟨te, a1, a2⟩ := h
  refine ⟨_, pi_tup a1, fun G F sd σ H R s => ?_⟩
  refine Meets.bindL (a2 G F sd σ H _ s) fun x F1 H1 dx sd1 s1 s2 s3 s4 => ?_
  have s3 : Rep X.K F1 x dx := s3
  cases dx with
  | tup ds =>
    cases s3 with
    | @tup aa vs _ h1 h2 =>
      exact Meets.here s2 (show RSw X.K G F1 sd1 H1 σ (Itt X.K aa) ds from walk_tup (.inl (.inl h1)) h2) fun q => ⟨aa, rfl, ⟨vs, .inl (.inl (s2.fh _ _ h1))⟩, q⟩
  | _ => exact True.intro
theorem di_range1 {m : SD → ER (List D)} (hg : Gl X "range") (hm : X.mg "range" = none) (ha : DA X pv W p k [a] m) (hs : starEach [a] X.env = [(false, eval a X.env)] := by rfl) : DI X pv W p tg (.Call (.Name "range" pp) [a] [] pos) (iRange1 m) := by
  obtain ⟨ta, a1, a2⟩ := ha
  refine ⟨_, pi_range1 hg hm a1 hs, fun G F sd σ H R s => ?_⟩
  refine Meets.bindL (a2 G F sd σ H _ s) fun xs F1 H1 ds sd1 s1 s2 s3 s4 => ?_
  have r := RSl.see s3 s2
  split
  · rename_i j
    obtain ⟨v, rfl, r1⟩ := reps1 r
    cases r1
    split
    · rename_i hj
      exact Meets.here s2 (show RSw X.K G F1 sd1 H1 σ _ _ from walk_range 0 j.toNat) fun q => ⟨j, rfl, hj.1, hj.2, q⟩
    · exact True.intro
  · exact True.intro
end
noncomputable def goFor (g : D → SD → Option SD) (body : SD → Fl) : List D → SD → Fl
  | [], sd => .nx sd
  | d :: ds, sd => match g d sd with
    | none => .bad
    | some sd1 => match body sd1 with
      | .nx sd2 => goFor g body ds sd2
      | .ct sd2 => goFor g body ds sd2
      | .bk sd2 => .nx sd2
      | r => r
noncomputable def sFor (it : SD → ER (List D)) (g : D → SD → Option SD) (body : SD → Fl) : SD → Fl := fun sd => (it sd).stm fun ds sd1 => goFor g body ds sd1
section
variable {X : Cx} {pv : List V} {W : WX} {p q k l : Bool} {pos : Pos}
theorem drop_at {α : Type} {l : List α} {i : Nat} {x : α} (h : l[i]? = some x) : l.drop i = x :: l.drop (i + 1) := by
  obtain ⟨hi, e⟩ := List.getElem?_eq_some_iff.mp h
  rw [← e]
  exact List.drop_eq_getElem_cons hi
theorem ds_for {is : List Nat} {tg iter : Expr} {body : List Stmt} {mi : SD → ER (List D)} {g : D → SD → Option SD} {mb : SD → Fl} (hp : PassesOwn (model X.prog X.w) X.A X.env X.xe) (hc : X.calm = true) (hi : DI X pv W p tg iter mi) (hg : DG X is tg g) (hb : DSs X pv W body mb)
    (hs : ∀ x, foldedSetIterable iter X.env x = pure x := by intro _; rfl) : DS X pv W (.For tg iter body [] pos) (sFor mi g mb) := by
  obtain ⟨wi, a1, a2⟩ := hi
  obtain ⟨⟨t, b1, b2⟩, _⟩ := hg
  obtain ⟨tb, c1, c2⟩ := hb
  refine ⟨_, ps_for hp hc a1 b1 c1 hs, fun G F sd σ H D s => ?_⟩
  refine Meets.stm (a2 G F sd σ H _ s) fun J F1 H1 ds sd1 s1 s2 s3 => ?_
  refine meetsS_of fun w => ?_
  have wk : Walk X.K J F1 ds := s3
  refine ⟨fun i m σ H => m = ds.length - i ∧ i ≤ ds.length ∧ ∃ F' sd', Same F1 F' ∧ StR X.K pv G F' sd' σ H ∧ Wants X.K pv W G F' (goFor g mb (ds.drop i) sd') D, ⟨ds.length, by simp, Nat.zero_le _, F1, sd1, Same.refl _, s2, w⟩, ?_⟩
  rintro i m σ H ⟨rfl, hi, F', sd', f1, st, wt⟩
  by_cases hlt : i < ds.length
  · have hd : ds[i]? = some ds[i] := by simp [hlt]
    refine .inr ⟨wk.go F' H i _ f1 st.fh hd, fun σ' H' => ∃ F'' sd'', Same F1 F'' ∧ StR X.K pv G F'' sd'' σ' H' ∧ Wants X.K pv W G F'' (goFor g mb (ds.drop (i + 1)) sd'') D, fun σ' H' q => ⟨ds.length - (i + 1), by omega, rfl, hlt, q⟩, fun x H' y => ?_⟩
    rw [drop_at hd] at wt
    have main : ∀ F2 H2, Same F' F2 → StR X.K pv G F2 sd' σ H2 → Rep X.K F2 x ds[i] → t x σ H2 fun σ2 H2 => tb { D with nx := fun σ' H' => ∃ F'' sd'', Same F1 F'' ∧ StR X.K pv G F'' sd'' σ' H' ∧ Wants X.K pv W G F'' (goFor g mb (ds.drop (i + 1)) sd'') D, ct := fun σ' H' => ∃ F'' sd'', Same F1 F'' ∧ StR X.K pv G F'' sd'' σ' H' ∧ Wants X.K pv W G F'' (goFor g mb (ds.drop (i + 1)) sd'') D, bk := D.nx } σ2 H2 := fun F2 H2 f2 st2 rx => by
      rw [goFor] at wt
      cases eg : g ds[i] sd' with
      | none => rw [eg] at wt; exact wt.elim
      | some sd2 =>
        rw [eg] at wt
        dsimp only at wt
        obtain ⟨σ2, k1, _, k2⟩ := b2 pv G F2 sd' σ H2 x _ sd2 st2 rx eg
        refine k2 _ (MeetsS.get (c2 G F2 sd2 σ2 H2 _ k1) ?_)
        have wt := wt.mono f2
        revert wt
        cases mb sd2 with
        | bad => exact id
        | nx sd3 => exact fun wt F3 σ3 H3 e3 st3 => ⟨F3, sd3, (f1.trans f2).trans e3, st3, wt.mono e3⟩
        | ct sd3 => exact fun wt F3 σ3 H3 e3 st3 => ⟨F3, sd3, (f1.trans f2).trans e3, st3, wt.mono e3⟩
        | bk sd3 => exact id
        | rt tt sd3 => exact id
        | rz y sd3 => exact id
    rcases wk.yld F' H i _ x H' f1 st.fh hd y with ⟨rfl, rx⟩ | ⟨T, vs, es, rfl, ed, hT, rfl, rr⟩
    · exact main F' H' (Same.refl _) st rx
    · refine main _ _ (st.sameNew hT) (st.new (u := .tup vs) hT) ?_
      rw [ed]
      exact .tup upd_same (rr.mono (st.sameNew hT))
  · have e : i = ds.length := by omega
    subst e
    refine .inl ⟨wk.stop F' H f1 st.fh, ?_⟩
    rw [List.drop_length, goFor] at wt
    exact wt F' σ H (Same.refl _) st
end
end DL
namespace DL
open PySem PySem.Spec L2
theorem wipe_in {σ : L2.St} {i : Nat} : ∀ {vs : List Nat}, i ∉ vs → (wipe σ vs)[i]? = σ[i]?
  | [], _ => rfl
  | v :: vs, h => by
    unfold wipe
    rw [List.getElem?_set_ne (fun z => h (by rw [z]; exact List.mem_cons_self))]
    exact wipe_in fun z => h (List.mem_cons_of_mem _ z)
theorem back_self {sd sd1 : SD} {vs : List Nat} (h : sd.wipe vs = sd1.wipe vs) : sd.back sd1 vs = sd1 := by
  obtain ⟨l, pa⟩ := sd
  obtain ⟨l1, pa1⟩ := sd1
  have h1 : wipeS l vs = wipeS l1 vs := congrArg SD.sl h
  have h2 : pa = pa1 := congrArg SD.pa h
  subst h2
  have hl : l.length = l1.length := by rw [← wipeS_length l vs, h1, wipeS_length]
  show SD.mk (backS l l1 vs) pa = SD.mk l1 pa
  congr 1
  refine List.ext_getElem? fun i => ?_
  by_cases hi : i ∈ vs
  · by_cases hl2 : i < l.length
    · rw [backS_in hi hl2]
      have : l1[i]? = some l1[i] := by simp [hl ▸ hl2]
      rw [this]; rfl
    · rw [List.getElem?_eq_none (by rw [backS_length]; omega), List.getElem?_eq_none (by omega)]
  · rw [backS_out hi, ← wipeS_out (l := l) hi, h1, wipeS_out hi]
section
variable {K : PySem.W.Frag} {pv : List V} {G F H : Hp} {sd : SD} {σ : L2.St}
theorem wiped_at {vs : List Nat} {i : Nat} {x : S} (h : (wipeS sd.sl vs)[i]? = some x) (hx : x ≠ .un) : i ∉ vs ∧ sd.sl[i]? = some x := by
  by_cases hi : i ∈ vs
  · by_cases hl : i < sd.sl.length
    · rw [wipeS_in hi hl] at h
      exact absurd (Option.some.inj h).symm hx
    · rw [List.getElem?_eq_none (by rw [wipeS_length]; omega)] at h
      cases h
  · exact ⟨hi, by rw [← wipeS_out hi]; exact h⟩
theorem StR.wipe (vs : List Nat) (s : StR K pv G F sd σ H) : StR K pv G F (sd.wipe vs) (L2.wipe σ vs) H := by
  obtain ⟨o, W⟩ := s
  refine ⟨o, W.fh, W.gh, W.fg, W.oh, W.oo, by show _ = (wipeS sd.sl vs).length; rw [L2.wipe_length, wipeS_length]; exact W.len, fun i t e => ?_, fun i j e => ?_, W.pr, W.tf⟩
  · obtain ⟨h1, h2⟩ := wiped_at e (by intro z; cases z)
    rw [wipe_in h1]
    exact W.sl i t h2
  · obtain ⟨h1, h2⟩ := wiped_at e (by intro z; cases z)
    rw [wipe_in h1]
    exact W.sp i j h2
/-- a block is entered: its own names' trees are put aside -/
theorem StR.block (vs : List Nat) (s : StR K pv G F sd σ H) : ∃ G', (∀ a, H a = none → G' a = none) ∧ StR K pv G' F (sd.wipe vs) (L2.wipe σ vs) H ∧
    ∀ (F' : Hp) (sd' : SD) (H' : Hp) (v : V) (t : OT), Same F F' → StR1 K pv G' F' (sd'.wipe vs) (L2.wipe σ vs) H' v t → StR1 K pv G F' (sd'.back sd vs) σ H' v t := by
  classical
  obtain ⟨o, W⟩ := s
  let P : Addr → Prop := fun a => ∃ i ∈ vs, o (.inl i) a
  have gp : ∀ a, P a → G a = none := fun a ⟨i, _, h⟩ => (W.oh _ a h).2.2
  refine ⟨fun a => if P a then H a else G a, fun a ha => ?_, ⟨fun x a => o x a ∧ ∀ i ∈ vs, x ≠ .inl i, W.fh, fun a u e => ?_, fun a ha => ?_, fun x a ⟨q1, q2⟩ => ?_, fun x y a q q' => W.oo x y a q.1 q'.1, by show _ = (wipeS sd.sl vs).length; rw [L2.wipe_length, wipeS_length]; exact W.len, fun i t e => ?_, fun i j e => ?_, fun j t e => ?_, W.tf⟩, fun F' sd' H' v t f ⟨o1, P1, W1, r1, k1⟩ => ?_⟩
  · show (if P a then H a else G a) = none
    by_cases z : P a
    · rw [if_pos z]; exact ha
    · rw [if_neg z]; exact W.gh.free ha
  · have e : (if P a then H a else G a) = some u := e
    by_cases z : P a
    · rw [if_pos z] at e; exact e
    · rw [if_neg z] at e; exact W.gh a u e
  · show (if P a then H a else G a) = none
    by_cases z : P a
    · obtain ⟨i, _, h⟩ := z
      exact absurd (W.oh _ a h).2.1 ha
    · rw [if_neg z]; exact W.fg a ha
  · obtain ⟨h1, h2, h3⟩ := W.oh x a q1
    refine ⟨h1, h2, ?_⟩
    show (if P a then H a else G a) = none
    rw [if_neg fun ⟨i, hi, h⟩ => q2 i hi (W.oo _ _ a q1 h)]
    exact h3
  · obtain ⟨h1, h2⟩ := wiped_at e (by intro z; cases z)
    rw [wipe_in h1]
    obtain ⟨v, a1, a2⟩ := W.sl i t h2
    exact ⟨v, a1, a2.mono (Same.refl _) fun x hx => ⟨⟨hx, fun j hj z => h1 (by rw [Sum.inl.inj z]; exact hj)⟩, rfl⟩⟩
  · obtain ⟨h1, h2⟩ := wiped_at e (by intro z; cases z)
    rw [wipe_in h1]
    exact W.sp i j h2
  · obtain ⟨v, a1, a2⟩ := W.pr j t e
    exact ⟨v, a1, a2.mono (Same.refl _) fun x hx => ⟨⟨hx, fun j hj z => by cases z⟩, rfl⟩⟩
  · have hP : ∀ a, P a → H' a = H a := fun a z => by
      have hn : H a ≠ none := by
        obtain ⟨i, _, h⟩ := z
        exact (W.oh _ a h).1
      cases e : H a with
      | none => exact absurd e hn
      | some u => exact W1.gh a u (by show (if P a then H a else G a) = some u; rw [if_pos z]; exact e)
    have hG : ∀ a, (if P a then H a else G a) = none → ¬ P a ∧ G a = none := fun a z => by
      by_cases y : P a
      · rw [if_pos y] at z
        obtain ⟨i, _, h⟩ := y
        exact absurd z (W.oh _ a h).1
      · rw [if_neg y] at z
        exact ⟨y, z⟩
    have hF : ∀ a, P a → F' a = none := fun a z => by
      cases e : F' a with
      | none => rfl
      | some u => exact absurd z (hG a (W1.fg a (by rw [e]; simp))).1
    have len1 : sd'.sl.length = sd.sl.length := by
      have := W1.len
      have e2 : (wipeS sd'.sl vs).length = sd'.sl.length := wipeS_length _ _
      have : (L2.wipe σ vs).length = (wipeS sd'.sl vs).length := this
      rw [L2.wipe_length, e2, W.len] at this
      exact this.symm
    refine ⟨fun x a => match x with
      | .inl i => if i ∈ vs then o (.inl i) a else o1 (.inl i) a
      | .inr j => o1 (.inr j) a, P1, ⟨W1.fh, fun a u e => ?_, fun a ha => (hG a (W1.fg a ha)).2, fun x a q => ?_, fun x y a q q' => ?_, ?_, fun i t e => ?_, fun i j e => ?_, fun j t e => ?_, W1.tf⟩, r1, fun a z => ?_⟩
    · by_cases z : P a
      · rw [gp a z] at e; cases e
      · exact W1.gh a u (by show (if P a then H a else G a) = some u; rw [if_neg z]; exact e)
    · cases x with
      | inl i =>
        by_cases hi : i ∈ vs
        · have q : o (.inl i) a := by simpa [hi] using q
          have z : P a := ⟨i, hi, q⟩
          exact ⟨by rw [hP a z]; exact (W.oh _ a q).1, hF a z, gp a z⟩
        · have q : o1 (.inl i) a := by simpa [hi] using q
          obtain ⟨h1, h2, h3⟩ := W1.oh _ a q
          exact ⟨h1, h2, (hG a h3).2⟩
      | inr j =>
        obtain ⟨h1, h2, h3⟩ := W1.oh _ a q
        exact ⟨h1, h2, (hG a h3).2⟩
    · have old : ∀ (x : Nat ⊕ Nat), (match x with
        | .inl i => if i ∈ vs then o (.inl i) a else o1 (.inl i) a
        | .inr j => o1 (.inr j) a) → (∃ i, x = .inl i ∧ i ∈ vs ∧ o (.inl i) a ∧ P a) ∨ (o1 x a ∧ ¬ P a) := fun x q => by
        cases x with
        | inl i =>
          by_cases hi : i ∈ vs
          · have q : o (.inl i) a := by simpa [hi] using q
            exact .inl ⟨i, rfl, hi, q, i, hi, q⟩
          · have q : o1 (.inl i) a := by simpa [hi] using q
            exact .inr ⟨q, (hG a (W1.oh _ a q).2.2).1⟩
        | inr j => exact .inr ⟨q, (hG a (W1.oh _ a q).2.2).1⟩
      rcases old x q with ⟨i, rfl, _, q1, q2⟩ | ⟨q1, q2⟩
      · rcases old y q' with ⟨j, rfl, _, q3, _⟩ | ⟨_, q4⟩
        · exact W.oo _ _ a q1 q3
        · exact absurd q2 q4
      · rcases old y q' with ⟨j, rfl, _, _, q4⟩ | ⟨q3, _⟩
        · exact absurd q4 q2
        · exact W1.oo _ _ a q1 q3
    · show σ.length = (backS sd'.sl sd.sl vs).length
      rw [backS_length, len1]
      exact W.len
    · have e : (backS sd'.sl sd.sl vs)[i]? = some (S.ow t) := e
      by_cases hi : i ∈ vs
      · by_cases hl : i < sd'.sl.length
        · rw [backS_in hi hl] at e
          have hl2 : i < sd.sl.length := by omega
          have e2 : sd.sl[i]? = some sd.sl[i] := by simp [hl2]
          rw [e2] at e
          have e : some sd.sl[i] = some (S.ow t) := e
          rw [e] at e2
          obtain ⟨v, a1, a2⟩ := W.sl i t e2
          refine ⟨v, a1, a2.mono f fun x hx => ⟨by simpa [hi] using hx, hP x ⟨i, hi, hx⟩⟩⟩
        · rw [List.getElem?_eq_none (by rw [backS_length]; omega)] at e
          cases e
      · rw [backS_out hi, ← wipeS_out (l := sd'.sl) hi] at e
        obtain ⟨v, a1, a2⟩ := W1.sl i t e
        rw [wipe_in hi] at a1
        exact ⟨v, a1, a2.mono (Same.refl _) fun x hx => ⟨by simpa [hi] using hx, rfl⟩⟩
    · have e : (backS sd'.sl sd.sl vs)[i]? = some (S.pa j) := e
      by_cases hi : i ∈ vs
      · by_cases hl : i < sd'.sl.length
        · rw [backS_in hi hl] at e
          have hl2 : i < sd.sl.length := by omega
          have e2 : sd.sl[i]? = some sd.sl[i] := by simp [hl2]
          rw [e2] at e
          have e : some sd.sl[i] = some (S.pa j) := e
          rw [e] at e2
          exact W.sp i j e2
        · rw [List.getElem?_eq_none (by rw [backS_length]; omega)] at e
          cases e
      · rw [backS_out hi, ← wipeS_out (l := sd'.sl) hi] at e
        obtain ⟨v, a1, a2⟩ := W1.sp i j e
        rw [wipe_in hi] at a2
        exact ⟨v, a1, a2⟩
    · obtain ⟨v, a1, a2⟩ := W1.pr j t e
      exact ⟨v, a1, a2⟩
    · obtain ⟨h1, h2, h3, h4⟩ := k1 a z
      refine ⟨h1, h2, (hG a h3).2, fun x q => ?_⟩
      cases x with
      | inl i =>
        by_cases hi : i ∈ vs
        · have q : o (.inl i) a := by simpa [hi] using q
          exact (hG a h3).1 ⟨i, hi, q⟩
        · have q : o1 (.inl i) a := by simpa [hi] using q
          exact h4 _ q
      | inr j => exact h4 _ q
/-- a list that nobody but we know -/
theorem StR.lay {L : Addr} {xs : List V} (s : StR K pv G F sd σ H) (hD : H L = none) : StR K pv (upd G L (.lst xs)) F sd σ (upd H L (.lst xs)) := by
  obtain ⟨o, W⟩ := s
  obtain ⟨f0, g0, n0⟩ := W.fresh hD
  have W' := W.grow (Same.upd (o := .lst xs) hD) (Same.refl F) (fun a u e => by rw [upd_ne (ne_of_none e f0)]; exact W.fh a u e) fun a ha => .inl ha
  refine ⟨o, W'.fh, fun a u e => ?_, fun a ha => ?_, fun i a q => ?_, W'.oo, W'.len, W'.sl, W'.sp, W'.pr, W'.tf⟩
  · by_cases h : a = L
    · subst h; rw [upd_same] at e ⊢; exact e
    · rw [upd_ne h] at e; exact W'.gh a u e
  · have h : a ≠ L := fun z => ha (by rw [z]; exact f0)
    rw [upd_ne h]; exact W'.fg a ha
  · obtain ⟨h1, h2, h3⟩ := W'.oh i a q
    have h : a ≠ L := fun z => n0 i (by rw [← z]; exact q)
    exact ⟨h1, h2, by rw [upd_ne h]; exact h3⟩
theorem StR.relay {L : Addr} {xs ys : List V} (s : StR K pv (upd G L (.lst xs)) F sd σ H) : StR K pv (upd G L (.lst ys)) F sd σ (upd H L (.lst ys)) := by
  obtain ⟨o, W⟩ := s
  have gL : (upd G L (HO.lst xs)) L = some (.lst xs) := upd_same
  have f0 : F L = none := by
    cases e : F L with
    | none => rfl
    | some u =>
      have := W.fg L (by rw [e]; simp)
      rw [gL] at this; cases this
  have n0 : ∀ i, ¬ o i L := fun i q => by
    have := (W.oh i L q).2.2
    rw [gL] at this; cases this
  have cell : ∀ i x, o i x → upd H L (.lst ys) x = H x := fun i x q => upd_ne fun z => n0 i (by rw [← z]; exact q)
  refine ⟨o, fun a u e => ?_, fun a u e => ?_, fun a ha => ?_, fun i a q => ?_, W.oo, W.len, fun i t e => ?_, W.sp, fun j t e => ?_, fun a xs e => W.tf a xs (nt_upd (by intro _ z; cases z) a xs e)⟩
  · rw [upd_ne (ne_of_none e f0)]; exact W.fh a u e
  · by_cases h : a = L
    · subst h; rw [upd_same] at e ⊢; exact e
    · rw [upd_ne h] at e ⊢; exact W.gh a u (by rw [upd_ne h]; exact e)
  · have h : a ≠ L := fun z => ha (by rw [z]; exact f0)
    have := W.fg a ha
    rw [upd_ne h] at this ⊢; exact this
  · obtain ⟨h1, h2, h3⟩ := W.oh i a q
    have h : a ≠ L := fun z => n0 i (by rw [← z]; exact q)
    rw [upd_ne h] at h3
    exact ⟨by rw [upd_ne h]; exact h1, h2, by rw [upd_ne h]; exact h3⟩
  · obtain ⟨v, h1, h2⟩ := W.sl i t e
    exact ⟨v, h1, h2.mono (Same.refl _) fun x hx => ⟨hx, cell _ x hx⟩⟩
  · obtain ⟨v, h1, h2⟩ := W.pr j t e
    exact ⟨v, h1, h2.mono (Same.refl _) fun x hx => ⟨hx, cell _ x hx⟩⟩
theorem StR.unlay {L : Addr} {xs : List V} {ds : List D} (s : StR K pv (upd G L (.lst xs)) F sd σ H) (gL : G L = none) (r : Reps K F xs ds) : StR1 K pv G F sd σ H (.ref L) (.ol (ds.map .fz)) := by
  obtain ⟨o, W⟩ := s
  have gU : (upd G L (HO.lst xs)) L = some (.lst xs) := upd_same
  have f0 : F L = none := by
    cases e : F L with
    | none => rfl
    | some u =>
      have := W.fg L (by rw [e]; simp)
      rw [gU] at this; cases this
  have n0 : ∀ i, ¬ o i L := fun i q => by
    have := (W.oh i L q).2.2
    rw [gU] at this; cases this
  refine ⟨o, fun a => a = L, ⟨W.fh, fun a u e => W.gh a u (by rw [upd_ne (ne_of_none e gL)]; exact e), fun a ha => ?_, fun i a q => ?_, W.oo, W.len, W.sl, W.sp, W.pr, W.tf⟩, ?_, fun a ha => ?_⟩
  · have h : a ≠ L := fun z => ha (by rw [z]; exact f0)
    have := W.fg a ha
    rw [upd_ne h] at this; exact this
  · obtain ⟨h1, h2, h3⟩ := W.oh i a q
    have h : a ≠ L := fun z => n0 i (by rw [← z]; exact q)
    rw [upd_ne h] at h3
    exact ⟨h1, h2, h3⟩
  · unfold RepO
    exact ⟨L, xs, rfl, rfl, W.gh L _ gU, repOs_of _ r⟩
  · subst ha
    exact ⟨by rw [W.gh a _ gU]; simp, f0, gL, n0⟩
theorem StR.at_lay {L : Addr} {xs : List V} (s : StR K pv (upd G L (.lst xs)) F sd σ H) : H L = some (.lst xs) := by
  obtain ⟨o, W⟩ := s
  exact W.gh L _ upd_same
end
/-- raising is not told here -/
noncomputable def ER.calm {α : Type} (r : ER α) : ER α :=
  match r with
  | .rz _ _ => .bad
  | r => r
noncomputable def goComp (g : D → SD → Option SD) (c : SD → ER Bool) (elt : SD → ER D) (vs : List Nat) : List D → List D → SD → ER (List D)
  | [], acc, sd => .ok acc sd
  | d :: ds, acc, sd => match g d (sd.wipe vs) with
    | none => .bad
    | some sd1 => (c sd1).calm.bind fun b sd2 => if b = true then ((elt sd2).calm.bind fun y sd3 => if acc.length < 16777216 then goComp g c elt vs ds (acc ++ [y]) sd3 else .bad) else goComp g c elt vs ds acc sd2
noncomputable def mComp (it : SD → ER (List D)) (g : D → SD → Option SD) (c : SD → ER Bool) (elt : SD → ER D) (vs : List Nat) : SD → ER OT := fun sd => (it sd).bind fun ds sd1 => (goComp g c elt vs ds [] sd1).bind fun res sd2 => .ok (.ol (res.map .fz)) (sd2.back sd1 vs)
noncomputable def mYes : SD → ER Bool := fun sd => .ok true sd
/-- no wish -/
noncomputable abbrev W0 : WX := fun _ _ _ _ => False
theorem goComp_calm {g : D → SD → Option SD} {c : SD → ER Bool} {elt : SD → ER D} {vs : List Nat} : ∀ (ds acc : List D) (sd : SD) (x : Exn) (s : SD), goComp g c elt vs ds acc sd ≠ .rz x s
  | [], acc, sd, x, s => by rw [goComp]; intro h; cases h
  | d :: ds, acc, sd, x, s => by
    rw [goComp]
    cases g d (sd.wipe vs) with
    | none => intro h; cases h
    | some sd1 =>
      show (c sd1).calm.bind _ ≠ _
      cases c sd1 with
      | bad => intro h; cases h
      | rz _ _ => intro h; cases h
      | ok b sd2 =>
        show (if b = true then _ else _) ≠ _
        split
        · cases elt sd2 with
          | bad => intro h; cases h
          | rz _ _ => intro h; cases h
          | ok y sd3 =>
            show (if acc.length < 16777216 then _ else _) ≠ _
            split
            · exact goComp_calm ds _ sd3 x s
            · intro h; cases h
        · exact goComp_calm ds acc sd2 x s
section
variable {K : PySem.W.Frag} {pv : List V} {W : WX} {p q pc pe : Bool}
theorem wipe_wipe {vs vs1 : List Nat} (h : ∀ i ∈ vs1, i ∈ vs) (sd : SD) : (sd.wipe vs1).wipe vs = sd.wipe vs := by
  show SD.mk (wipeS (wipeS sd.sl vs1) vs) sd.pa = SD.mk (wipeS sd.sl vs) sd.pa
  congr 1
  refine List.ext_getElem? fun i => ?_
  by_cases hi : i ∈ vs
  · by_cases hl : i < sd.sl.length
    · rw [wipeS_in hi (by rw [wipeS_length]; exact hl), wipeS_in hi hl]
    · rw [List.getElem?_eq_none (by rw [wipeS_length, wipeS_length]; omega), List.getElem?_eq_none (by rw [wipeS_length]; omega)]
  · rw [wipeS_out hi, wipeS_out hi, wipeS_out fun z => hi (h i z)]
theorem wipe_one {σ : L2.St} {i : Nat} : ∀ {us : List Nat}, i ∈ us → (wipe σ us)[i]? = if i < σ.length then some none else none
  | u :: us, h => by
    unfold wipe
    by_cases e : u = i
    · subst e
      by_cases hl : u < σ.length
      · rw [List.getElem?_set_self (by rw [wipe_length]; exact hl), if_pos hl]
      · rw [List.getElem?_eq_none (by rw [List.length_set, wipe_length]; omega), if_neg hl]
    · rw [List.getElem?_set_ne e]
      exact wipe_one ((List.mem_cons.mp h).resolve_left fun z => e z.symm)
theorem wipe_wipeV {vs vs1 : List Nat} (h : ∀ i ∈ vs1, i ∈ vs) (σ : L2.St) : wipe (wipe σ vs1) vs = wipe σ vs := by
  refine List.ext_getElem? fun i => ?_
  by_cases hi : i ∈ vs
  · rw [wipe_one hi, wipe_one hi, wipe_length]
  · rw [wipe_in hi, wipe_in hi, wipe_in fun z => hi (h i z)]
/-- the loop of a comprehension, by values: acc0 is there already -/
theorem comp_go {J : It} {t : TG} {tt : TT} {te : TE} {g : D → SD → Option SD} {c : SD → ER Bool} {elt : SD → ER D} {vs is : List Nat} {G F1 H1 : Hp} {sd1 : SD} {σ : L2.St} {ds acc0 : List D} {xs0 : List V} {L : Addr} {Q : Hp → Prop} {res : List D} {sdr : SD}
    (his : ∀ i ∈ is, i ∈ vs)
    (hg : ∀ (pv : List V) (G F : Hp) (sd : SD) (σ : L2.St) (H : Hp) (x : V) (d : D) (sd' : SD), StR K pv G F sd σ H → Rep K F x d → g d sd = some sd' → ∀ Q : L2.St → Hp → Prop, (∀ σ', StR K pv G F sd' σ' H → (∀ vs : List Nat, (∀ i ∈ is, i ∈ vs) → wipe σ' vs = wipe σ vs) → Q σ' H) → t x σ H Q)
    (hgw : ∀ d sd sd', g d sd = some sd' → sd'.wipe vs = sd.wipe vs)
    (hc : TrT K pv W0 pc tt c) (he : TrX K pv W0 pe true te elt) (wk : Walk K J F1 ds) (s1 : StR K pv (upd G L (.lst xs0)) F1 (sd1.wipe vs) (wipe σ vs) H1) (ra0 : Reps K F1 xs0 acc0) (e : goComp g c elt vs ds acc0 sd1 = .ok res sdr)
    (hQ : ∀ F' H' xs, Same F1 F' → StR K pv (upd G L (.lst xs)) F' (sdr.wipe vs) (wipe σ vs) H' → Reps K F' xs res → ((pc && pe) = true → (∀ a u, a ≠ L → H1 a = some u → H' a = some u) ∧ sdr.wipe vs = sd1.wipe vs) → Q H') :
    ∃ W : Nat → Nat → Hp → Prop, (∃ m, W 0 m H1) ∧ ∀ i m H, W i m H → (J.stop i H ∧ Q H) ∨ (J.go i H ∧ ∃ Nx : Hp → Prop, (∀ H', Nx H' → ∃ m', m' < m ∧ W (i + 1) m' H') ∧ ∀ x H', J.yld i H x H' → t x (wipe σ vs) H' fun σ2 H2 => wipe σ2 vs = wipe σ vs ∧ tt σ2 H2 fun b H3 =>
      if b = true then te σ2 H3 fun y H4 => ∃ acc, H4 L = some (.lst acc) ∧ acc.length < sizeLine ∧ Nx (upd H4 L (.lst (acc ++ [y]))) else Nx H3) := by
  have ww : ∀ (sd : SD) , (sd.wipe vs).wipe vs = sd.wipe vs := fun sd => wipe_wipe (fun i h => h) sd
  have sw : wipe (wipe σ vs) vs = wipe σ vs := wipe_wipeV (fun i h => h) σ
  let Inv : Nat → Hp → Prop := fun i H => ∃ F' sd' acc xs, Same F1 F' ∧ StR K pv (upd G L (.lst xs)) F' (sd'.wipe vs) (wipe σ vs) H ∧ Reps K F' xs acc ∧ goComp g c elt vs (ds.drop i) acc sd' = .ok res sdr ∧ ((pc && pe) = true → (∀ a u, a ≠ L → H1 a = some u → H a = some u) ∧ sd'.wipe vs = sd1.wipe vs)
  refine ⟨fun i m H => m = ds.length - i ∧ i ≤ ds.length ∧ Inv i H, ⟨ds.length, by simp, Nat.zero_le _, F1, sd1, acc0, xs0, Same.refl _, s1, ra0, e, fun _ => ⟨fun a u _ h => h, rfl⟩⟩, ?_⟩
  rintro i m H ⟨rfl, hi, F', sd', acc, xs, f1, st, ra, eg, pu⟩
  by_cases hlt : i < ds.length
  · have hd : ds[i]? = some ds[i] := by simp [hlt]
    refine .inr ⟨wk.go F' H i _ f1 st.fh hd, Inv (i + 1), fun H' q => ⟨ds.length - (i + 1), by omega, rfl, hlt, q⟩, fun x H' y => ?_⟩
    rw [drop_at hd, goComp] at eg
    cases e1 : g ds[i] (sd'.wipe vs) with
    | none => rw [e1] at eg; cases eg
    | some sda =>
      rw [e1] at eg
      dsimp only at eg
      have main : ∀ F2 H2, Same F' F2 → StR K pv (upd G L (.lst xs)) F2 (sd'.wipe vs) (wipe σ vs) H2 → Rep K F2 x ds[i] → ((pc && pe) = true → ∀ a u, a ≠ L → H1 a = some u → H2 a = some u) → t x (wipe σ vs) H2 fun σ2 H2 => wipe σ2 vs = wipe σ vs ∧ tt σ2 H2 fun b H3 =>
          if b = true then te σ2 H3 fun y H4 => ∃ acc, H4 L = some (.lst acc) ∧ acc.length < sizeLine ∧ Inv (i + 1) (upd H4 L (.lst (acc ++ [y]))) else Inv (i + 1) H3 := fun F2 H2 f2 st2 rx pu2 => by
        refine hg pv _ F2 _ _ H2 x _ sda st2 rx e1 _ fun σ2 k1 k2 => ?_
        have w2 : wipe σ2 vs = wipe σ vs := (k2 vs his).trans sw
        have pw : (pc && pe) = true → sda.wipe vs = sd1.wipe vs := fun z => by rw [hgw _ _ _ e1, ww, (pu z).2]
        refine ⟨w2, ?_⟩
        have z := hc (upd G L (.lst xs)) F2 sda σ2 H2 (fun b H3 => if b = true then te σ2 H3 fun y H4 => ∃ acc, H4 L = some (.lst acc) ∧ acc.length < sizeLine ∧ Inv (i + 1) (upd H4 L (.lst (acc ++ [y]))) else Inv (i + 1) H3) k1
        revert eg z
        cases c sda with
        | bad => intro eg; cases eg
        | rz _ _ => intro eg; cases eg
        | ok b sdb =>
          intro eg z
          refine z fun b' F3 H3 u1 u2 u3 u4 => ?_
          have u3 : b' = b := u3
          subst u3
          have eg : (if b' = true then ((elt sdb).calm.bind fun y sd3 => if acc.length < 16777216 then goComp g c elt vs (ds.drop (i + 1)) (acc ++ [y]) sd3 else .bad) else goComp g c elt vs (ds.drop (i + 1)) acc sdb) = .ok res sdr := eg
          cases b' with
          | false =>
            rw [if_neg (by decide)] at eg
            refine iteF ?_
            refine ⟨F3, sdb, acc, xs, (f1.trans f2).trans u1, ?_, ra.mono (f2.trans u1), eg, fun zz => ?_⟩
            · have q := u2.wipe vs
              rw [w2] at q; exact q
            · have zc : pc = true := (Bool.and_eq_true _ _ ▸ zz : pc = true ∧ pe = true).1
              obtain ⟨v1, v2⟩ := u4 zc
              exact ⟨fun a u n h => v1 a u (pu2 zz a u n h), by rw [v2]; exact pw zz⟩
          | true =>
            rw [if_pos rfl] at eg
            refine iteT ?_
            have z2 := he (upd G L (.lst xs)) F3 sdb σ2 H3 (fun y H4 => ∃ acc, H4 L = some (.lst acc) ∧ acc.length < sizeLine ∧ Inv (i + 1) (upd H4 L (.lst (acc ++ [y])))) u2
            revert eg z2
            cases elt sdb with
            | bad => intro eg; cases eg
            | rz _ _ => intro eg; cases eg
            | ok d sdc =>
              intro eg z2
              have eg : (if acc.length < 16777216 then goComp g c elt vs (ds.drop (i + 1)) (acc ++ [d]) sdc else .bad) = .ok res sdr := eg
              split at eg
              · rename_i hz
                refine z2 fun y F4 H4 v1 v2 v3 v4 => ?_
                have r4 : Reps K F4 xs acc := ra.mono ((f2.trans u1).trans v1)
                refine ⟨xs, v2.at_lay, by rw [r4.length, sizeLine_eq]; exact hz, F4, sdc, acc ++ [d], xs ++ [y], ((f1.trans f2).trans u1).trans v1, ?_, r4.append (.one v3), eg, fun zz => ?_⟩
                · have q := (v2.relay (ys := xs ++ [y])).wipe vs
                  rw [w2] at q; exact q
                · have zce : pc = true ∧ pe = true := (Bool.and_eq_true _ _ ▸ zz : pc = true ∧ pe = true)
                  obtain ⟨a1, a2⟩ := u4 zce.1
                  obtain ⟨b1, b2⟩ := v4 zce.2
                  exact ⟨fun a u n h => by
                    rw [upd_ne n]
                    exact b1 a u (a1 a u (pu2 zz a u n h)), by rw [b2, a2]; exact pw zz⟩
              · cases eg
      rcases wk.yld F' H i _ x H' f1 st.fh hd y with ⟨rfl, rx⟩ | ⟨T, us, es, rfl, ed, hT, rfl, rr⟩
      · exact main F' H' (Same.refl _) st rx fun z => (pu z).1
      · refine main _ _ (st.sameNew hT) (st.new (u := .tup us) hT) ?_ fun z a u n h => ?_
        · rw [ed]
          exact .tup upd_same (rr.mono (st.sameNew hT))
        · have := (pu z).1 a u n h
          rw [upd_ne (ne_of_none this hT)]; exact this
  · have e2 : i = ds.length := by omega
    subst e2
    rw [List.drop_length, goComp] at eg
    cases eg
    exact .inl ⟨wk.stop F' H f1 st.fh, hQ F' H xs f1 st ra pu⟩
/-- .. from the start -/
theorem comp_run {J : It} {t : TG} {tt : TT} {te : TE} {g : D → SD → Option SD} {c : SD → ER Bool} {elt : SD → ER D} {vs is : List Nat} {G F1 H1 : Hp} {sd1 : SD} {σ : L2.St} {ds : List D} {L : Addr} {Q : Hp → Prop} {res : List D} {sdr : SD}
    (his : ∀ i ∈ is, i ∈ vs)
    (hg : ∀ (pv : List V) (G F : Hp) (sd : SD) (σ : L2.St) (H : Hp) (x : V) (d : D) (sd' : SD), StR K pv G F sd σ H → Rep K F x d → g d sd = some sd' → ∀ Q : L2.St → Hp → Prop, (∀ σ', StR K pv G F sd' σ' H → (∀ vs : List Nat, (∀ i ∈ is, i ∈ vs) → wipe σ' vs = wipe σ vs) → Q σ' H) → t x σ H Q)
    (hgw : ∀ d sd sd', g d sd = some sd' → sd'.wipe vs = sd.wipe vs)
    (hc : TrT K pv W0 pc tt c) (he : TrX K pv W0 pe true te elt) (wk : Walk K J F1 ds) (s1 : StR K pv G F1 (sd1.wipe vs) (wipe σ vs) H1) (hL : H1 L = none) (e : goComp g c elt vs ds [] sd1 = .ok res sdr)
    (hQ : ∀ F' H' xs, Same F1 F' → StR K pv (upd G L (.lst xs)) F' (sdr.wipe vs) (wipe σ vs) H' → Reps K F' xs res → ((pc && pe) = true → Same H1 H' ∧ sdr.wipe vs = sd1.wipe vs) → Q H') :
    ∃ W : Nat → Nat → Hp → Prop, (∃ m, W 0 m (upd H1 L (.lst []))) ∧ ∀ i m H, W i m H → (J.stop i H ∧ Q H) ∨ (J.go i H ∧ ∃ Nx : Hp → Prop, (∀ H', Nx H' → ∃ m', m' < m ∧ W (i + 1) m' H') ∧ ∀ x H', J.yld i H x H' → t x (wipe σ vs) H' fun σ2 H2 => wipe σ2 vs = wipe σ vs ∧ tt σ2 H2 fun b H3 =>
      if b = true then te σ2 H3 fun y H4 => ∃ acc, H4 L = some (.lst acc) ∧ acc.length < sizeLine ∧ Nx (upd H4 L (.lst (acc ++ [y]))) else Nx H3) :=
  comp_go his hg hgw hc he wk (s1.lay hL) .nil e fun F' H' xs f1 st r pu => hQ F' H' xs f1 st r fun z => ⟨fun a u h => (pu z).1 a u (ne_of_none h hL) (by rw [upd_ne (ne_of_none h hL)]; exact h), (pu z).2⟩
end
section
variable {X : Cx} {pv : List V} {W : WX} {p q k l pc pe : Bool} {tg iter elt : Expr} {ifs : List Expr} {scope : Scope} {pos : Pos}
theorem comp_tr {own : List (Str × Nat)} {is : List Nat} {wi : TI} {t : TG} {tt : TT} {te : TE} {mi : SD → ER (List D)} {g : D → SD → Option SD} {mc : SD → ER Bool} {me : SD → ER D} (hi : TrI X.K pv W p wi mi)
    (hg : ∀ (pv : List V) (G F : Hp) (sd : SD) (σ : L2.St) (H : Hp) (x : V) (d : D) (sd' : SD), StR X.K pv G F sd σ H → Rep X.K F x d → g d sd = some sd' → ∀ Q : L2.St → Hp → Prop, (∀ σ', StR X.K pv G F sd' σ' H → (∀ vs : List Nat, (∀ i ∈ is, i ∈ vs) → wipe σ' vs = wipe σ vs) → Q σ' H) → t x σ H Q)
    (hgw : ∀ (vs : List Nat), (∀ i ∈ is, i ∈ vs) → ∀ d sd sd', g d sd = some sd' → SD.wipe sd' vs = SD.wipe sd vs) (hc : TrT X.K pv W0 pc tt mc) (he : TrX X.K pv W0 pe true te me) (his : ∀ i ∈ is, i ∈ own.map (·.2)) :
    TrO X.K pv W (p && (pc && pe)) (tLc wi t tt te (own.map (·.2))) (mComp mi g mc me (own.map (·.2))) := by
  intro G F sd σ H Q s
  refine Meets.bind (hi G F sd σ H _ s) fun J F1 H1 ds sd1 s1 s2 s3 s4 => ?_
  cases e : goComp g mc me (own.map (·.2)) ds [] sd1 with
  | bad => exact True.intro
  | rz x sr => exact absurd e (goComp_calm ds [] sd1 x sr)
  | ok res sdr =>
    intro hQ L hL
    obtain ⟨G', g1, g2, g3⟩ := s2.block (own.map (·.2))
    refine comp_run his hg (hgw _ his) hc he s3 g2 hL e fun F' H' xs f1 st r pu => ?_
    have z := st.unlay (g1 L hL) r
    have z2 := g3 F' sdr H' _ _ f1 z
    exact hQ _ F' H' f1 z2.drop z2 fun zz => ⟨(pu zz).1, back_self (pu zz).2⟩
end
noncomputable def Cond {α β : Type} (K : PySem.W.Frag) (pv : List V) (W : WX) (G : Hp) (σ : L2.St) (RS : RSt β α) (p : Bool) (sd : SD) (F H : Hp) (r : ER α) (Q : β → Hp → Prop) : Prop :=
  match r with
  | .ok a sd' => ∀ v F' H', Same F F' → StR K pv G F' sd' σ H' → RS G F' sd' H' σ v a → (p = true → Same H H' ∧ sd' = sd) → Q v H'
  | .rz x sd' => ∀ cls dd F' H', Same F F' → StR K pv G F' sd' σ H' → RepX K F' cls dd x → W cls dd σ H'
  | .bad => False
theorem meets_of {α β : Type} {K : PySem.W.Frag} {pv : List V} {W : WX} {G F H : Hp} {σ : L2.St} {RS : RSt β α} {p : Bool} {sd : SD} {r : ER α} {Q : β → Hp → Prop} {P : Prop} (h : Cond K pv W G σ RS p sd F H r Q → P) : Meets K pv W G σ RS p sd F H r Q P := by
  cases r with
  | bad => exact True.intro
  | _ => exact h
theorem Meets.get {α β : Type} {K : PySem.W.Frag} {pv : List V} {W : WX} {G F H : Hp} {σ : L2.St} {RS : RSt β α} {p : Bool} {sd : SD} {r : ER α} {Q : β → Hp → Prop} {P : Prop} (h : Meets K pv W G σ RS p sd F H r Q P) (c : Cond K pv W G σ RS p sd F H r Q) : P := by
  cases r with
  | bad => exact c.elim
  | _ => exact h c
noncomputable def canX (K : PySem.W.Frag) (pv : List V) (W : WX) (p k : Bool) (m : SD → ER D) : TE := fun σ H Q => ∃ G F sd, StR K pv G F sd σ H ∧ Cond K pv W G σ (RSx K k) p sd F H (m sd) Q
noncomputable def canT (K : PySem.W.Frag) (pv : List V) (W : WX) (p : Bool) (m : SD → ER Bool) : TT := fun σ H Q => ∃ G F sd, StR K pv G F sd σ H ∧ Cond K pv W G σ RSb p sd F H (m sd) Q
noncomputable def canG (K : PySem.W.Frag) (is : List Nat) (g : D → SD → Option SD) : TG := fun x σ H Q => ∃ (pv : List V) (G F : Hp) (sd : SD) (d : D) (sd' : SD), StR K pv G F sd σ H ∧ Rep K F x d ∧ g d sd = some sd' ∧
  ∀ σ', StR K pv G F sd' σ' H → (∀ vs : List Nat, (∀ i ∈ is, i ∈ vs) → wipe σ' vs = wipe σ vs) → Q σ' H
noncomputable def canI (K : PySem.W.Frag) (pv : List V) (W : WX) (p : Bool) (m : SD → ER (List D)) : TI := fun σ H R => ∃ G F sd, StR K pv G F sd σ H ∧ Cond K pv W G σ (RSw K) p sd F H (m sd) R
section
variable {X : Cx} {pv : List V} {W : WX} {p q k l pc pe : Bool} {e tg iter elt : Expr} {ifs : List Expr} {scope : Scope} {pos : Pos}
theorem DX.can {m : SD → ER D} (h : DX X pv W p k e m) : PE X e (canX X.K pv W p k m) := by
  obtain ⟨te, h1, h2⟩ := h
  exact ⟨fun pins s σ H Q I ⟨G, F, sd, st, c⟩ => h1.run pins s σ H Q I ((h2 G F sd σ H Q st).get c)⟩
theorem canX_tr {K : PySem.W.Frag} {m : SD → ER D} : TrX K pv W p k (canX K pv W p k m) m := fun G F sd σ H Q s => meets_of fun c => ⟨G, F, sd, s, c⟩
theorem DT.can {m : SD → ER Bool} (h : DT X pv W p e m) : PT X e (canT X.K pv W p m) := by
  obtain ⟨te, h1, h2⟩ := h
  exact ⟨fun pins s σ H Q I ⟨G, F, sd, st, c⟩ => h1.run pins s σ H Q I ((h2 G F sd σ H Q st).get c)⟩
theorem canT_tr {K : PySem.W.Frag} {m : SD → ER Bool} : TrT K pv W p (canT K pv W p m) m := fun G F sd σ H Q s => meets_of fun c => ⟨G, F, sd, s, c⟩
theorem DI.can {m : SD → ER (List D)} (h : DI X pv W p tg iter m) : PI X tg iter (canI X.K pv W p m) := by
  obtain ⟨te, h1, h2⟩ := h
  exact ⟨fun pins s σ H Q I ⟨G, F, sd, st, c⟩ => h1.run pins s σ H Q I ((h2 G F sd σ H Q st).get c)⟩
theorem DG.can {is : List Nat} {g : D → SD → Option SD} (h : DG X is tg g) : PG X tg (canG X.K is g) := by
  obtain ⟨⟨t, h1, h2⟩, _⟩ := h
  refine ⟨fun pins s σ H v u Q I r ⟨pv, G, F, sd, d, sd', st, rd, e, hq⟩ => ?_⟩
  obtain ⟨σ', k1, k2, k3⟩ := h2 pv G F sd σ H v d sd' st rd e
  exact h1.run pins s σ H v u Q I r (k3 Q (hq σ' k1 k2))
/-- the tests of a clause -/
structure DTs (X : Cx) (pv : List V) (W : WX) (p : Bool) (ifs : List Expr) (m : SD → ER Bool) : Prop where
  run : PTs X ifs (canT X.K pv W p m)
theorem dts_nil : DTs X pv W true [] mYes := ⟨⟨fun pins s σ H Q I ⟨G, F, sd, st, c⟩ => (pts_nil (X := X)).run pins s σ H Q I (c true F H (Same.refl _) st rfl fun _ => ⟨Same.refl _, rfl⟩)⟩⟩
theorem dts_one {c : Expr} {m : SD → ER Bool} (h : DT X pv W p c m) : DTs X pv W p [c] m := ⟨pts_one h.can⟩
theorem canG_run {K : PySem.W.Frag} {is : List Nat} {g : D → SD → Option SD} (pv : List V) (G F : Hp) (sd : SD) (σ : L2.St) (H : Hp) (x : V) (d : D) (sd' : SD) (s : StR K pv G F sd σ H) (r : Rep K F x d) (e : g d sd = some sd') (Q : L2.St → Hp → Prop)
    (hQ : ∀ σ', StR K pv G F sd' σ' H → (∀ vs : List Nat, (∀ i ∈ is, i ∈ vs) → wipe σ' vs = wipe σ vs) → Q σ' H) : canG K is g x σ H Q := ⟨pv, G, F, sd, d, sd', s, r, e, hQ⟩
/-- [elt for tg in iter if ..] as a value -/
theorem do_comp {own : List (Str × Nat)} {is : List Nat} {mi : SD → ER (List D)} {g : D → SD → Option SD} {mc : SD → ER Bool} {me : SD → ER D} (hc : X.calm = true) (hN : X.N.Nodup) (hi : DI X pv W p tg iter mi) (ok : BlkOk X.N X.env.scope scope own)
    (hg : ∀ (s : Shared) (H : Hp) (C : Addr) (cl : List (Str × Addr)) (fp : List Addr), DG (X.blk s H scope (compEnvC scope cl C X.env) fp) is tg g)
    (ht : ∀ (s : Shared) (H : Hp) (C : Addr) (cl : List (Str × Addr)) (fp : List Addr), DTs (X.blk s H scope (compEnvC scope cl C X.env) fp) pv W0 pc ifs mc)
    (he : ∀ (s : Shared) (H : Hp) (C : Addr) (cl : List (Str × Addr)) (fp : List Addr), DX (X.blk s H scope (compEnvC scope cl C X.env) fp) pv W0 pe true elt me) (his : ∀ i ∈ is, i ∈ own.map (·.2))
    (wip : ∀ (vs : List Nat), (∀ i ∈ is, i ∈ vs) → ∀ d sd sd', g d sd = some sd' → SD.wipe sd' vs = SD.wipe sd vs)
    (hs : ∀ x, foldedSetIterable iter X.env x = pure x := by intro _; rfl) :
    DO X pv W (p && (pc && pe)) (.ListComp elt [⟨tg, iter, ifs, 0⟩] scope pos) (mComp mi g mc me (own.map (·.2))) := by
  obtain ⟨wi, a1, a2⟩ := hi
  exact ⟨_, pe_lc hc hN a1 ok (fun s H C cl fp => (hg s H C cl fp).can) (fun s H C cl fp => (ht s H C cl fp).run) (fun s H C cl fp => (he s H C cl fp).can) hs, comp_tr a2 canG_run wip canT_tr canX_tr his⟩
end
end DL
namespace DL
open PySem PySem.Spec L2
section
variable {K : PySem.W.Frag} {pv : List V} {W : WX} {p q pc pe pi1 pc1 : Bool}
/-- by values -/
noncomputable abbrev TgRun (K : PySem.W.Frag) (is : List Nat) (t : TG) (g : D → SD → Option SD) : Prop := ∀ (pv : List V) (G F : Hp) (sd : SD) (σ : L2.St) (H : Hp) (x : V) (d : D) (sd' : SD), StR K pv G F sd σ H → Rep K F x d → g d sd = some sd' → ∀ Q : L2.St → Hp → Prop, (∀ σ', StR K pv G F sd' σ' H → (∀ vs : List Nat, (∀ i ∈ is, i ∈ vs) → wipe σ' vs = wipe σ vs) → Q σ' H) → t x σ H Q
end
end DL
namespace DL
open PySem PySem.Spec L2
noncomputable def SD.put (sd : SD) (i : Nat) (t : OT) : SD := match sd.sl[i]? with
  | some (.ow _) => { sd with sl := sd.sl.set i (.ow t) }
  | some (.pa j) => { sd with pa := sd.pa.set j t }
  | _ => sd
section
variable {K : PySem.W.Frag} {pv : List V} {G F F' H H' : Hp} {sd : SD} {σ : L2.St} {o : Nat ⊕ Nat → Addr → Prop}
theorem Own.put {i : Nat} {t : OT} (W : Own K pv G F sd σ H o) (h : sd.tree i = some t) : ∃ (src : Nat ⊕ Nat) (v : V), σ[i]? = some (some v) ∧ RepO K F H t v (o src) ∧
    ∀ (F' H' : Hp) (o2 : Nat ⊕ Nat → Addr → Prop) (t' : OT), Same F F' → Same F' H' → Same G H' → (∀ a, F' a ≠ none → G a = none) → (∀ x a, o2 x a → H' a ≠ none ∧ F' a = none ∧ G a = none) → (∀ x y a, o2 x a → o2 y a → x = y) →
      (∀ x, x ≠ src → ∀ a, o x a → o2 x a ∧ H' a = H a) → RepO K F' H' t' v (o2 src) → (nt : ∀ a xs, H' a = some (.tup xs) → F' a = some (.tup xs)) → Own K pv G F' (sd.put i t') σ H' o2 := by
  unfold SD.tree at h
  split at h
  · rename_i t0 e
    cases h
    obtain ⟨v, h1, h2⟩ := W.sl i _ e
    refine ⟨.inl i, v, h1, h2, fun F' H' o2 t' f fh gh fg oh oo ho r nt => ?_⟩
    have ep : sd.put i t' = { sd with sl := sd.sl.set i (.ow t') } := by unfold SD.put; rw [e]
    have hi : i < sd.sl.length := (List.getElem?_eq_some_iff.mp e).1
    rw [ep]
    refine ⟨fh, gh, fg, oh, oo, by simpa using W.len, fun j t1 e1 => ?_, fun j l e1 => ?_, fun j t1 e1 => ?_, nt⟩
    · have e1 : (sd.sl.set i (S.ow t'))[j]? = some (S.ow t1) := e1
      by_cases z : i = j
      · subst z
        rw [List.getElem?_set_self hi] at e1
        cases e1
        exact ⟨v, h1, r⟩
      · rw [List.getElem?_set_ne z] at e1
        obtain ⟨w, k1, k2⟩ := W.sl j t1 e1
        refine ⟨w, k1, k2.mono f fun x hx => ho (.inl j) (fun y => z (Sum.inl.inj y).symm) x hx⟩
    · have e1 : (sd.sl.set i (S.ow t'))[j]? = some (S.pa l) := e1
      by_cases z : i = j
      · subst z
        rw [List.getElem?_set_self hi] at e1
        cases e1
      · rw [List.getElem?_set_ne z] at e1
        exact W.sp j l e1
    · obtain ⟨w, k1, k2⟩ := W.pr j t1 e1
      exact ⟨w, k1, k2.mono f fun x hx => ho (.inr j) (fun y => by cases y) x hx⟩
  · rename_i j e
    obtain ⟨v, h1, h2⟩ := W.sp i j e
    obtain ⟨v', h3, h4⟩ := W.pr j t h
    rw [h1] at h3; cases h3
    refine ⟨.inr j, v, h2, h4, fun F' H' o2 t' f fh gh fg oh oo ho r nt => ?_⟩
    have ep : sd.put i t' = { sd with pa := sd.pa.set j t' } := by unfold SD.put; rw [e]
    have hj : j < sd.pa.length := (List.getElem?_eq_some_iff.mp h).1
    rw [ep]
    refine ⟨fh, gh, fg, oh, oo, W.len, fun l t1 e1 => ?_, W.sp, fun l t1 e1 => ?_, nt⟩
    · obtain ⟨w, k1, k2⟩ := W.sl l t1 e1
      exact ⟨w, k1, k2.mono f fun x hx => ho (.inl l) (fun y => by cases y) x hx⟩
    · have e1 : (sd.pa.set j t')[l]? = some t1 := e1
      by_cases z : j = l
      · subst z
        rw [List.getElem?_set_self hj] at e1
        cases e1
        exact ⟨v, h1, r⟩
      · rw [List.getElem?_set_ne z] at e1
        obtain ⟨w, k1, k2⟩ := W.pr l t1 e1
        exact ⟨w, k1, k2.mono f fun x hx => ho (.inr l) (fun y => z (Sum.inr.inj y).symm) x hx⟩
  · cases h
/-- the tree of a name is changed, another tree may become a part of it -/
theorem StR1.mut {i : Nat} {t t2 : OT} {v2 : V} (s : StR1 K pv G F sd σ H v2 t2) (h : sd.tree i = some t) : ∃ (v : V) (P P2 : Addr → Prop), σ[i]? = some (some v) ∧ RepO K F H t v P ∧ RepO K F H t2 v2 P2 ∧ (∀ a, P a → ¬ P2 a) ∧
    (∀ a, P a → H a ≠ none) ∧ (∀ a, P2 a → H a ≠ none) ∧
    ∀ (H' : Hp) (t' : OT), (∀ a, ¬ P a → ∀ u, H a = some u → H' a = some u) → (∀ a, P a → H' a ≠ none) → RepO K F H' t' v (fun a => P a ∨ P2 a) → (nt : ∀ a xs, H' a = some (.tup xs) → H a = some (.tup xs) := by first | exact nt_upd (by intro _ z; cases z) | exact nt_upd2 (by intro _ z; cases z) (by intro _ z; cases z)) → StR K pv G F (sd.put i t') σ H' := by
  classical
  obtain ⟨o, P2, W, r2, k2⟩ := s
  obtain ⟨src, v, h1, h2, h3⟩ := W.put h
  refine ⟨v, o src, P2, h1, h2, r2, fun a q q2 => (k2 a q2).2.2.2 src q, fun a q => (W.oh _ a q).1, fun a q => (k2 a q).1, fun H' t' hH hP r nt => ?_⟩
  have keep : ∀ a, ¬ o src a → H a ≠ none → H' a = H a := fun a n hn => by
    cases e : H a with
    | none => exact absurd e hn
    | some u => exact hH a n u e
  refine ⟨fun x a => if x = src then o src a ∨ P2 a else o x a, h3 F H' _ t' (Same.refl _) (fun a u e => ?_) (fun a u e => ?_) W.fg (fun x a q => ?_) (fun x y a q q' => ?_) (fun x n a q => ?_) ?_ fun a xs e => W.tf a xs (nt a xs e)⟩
  · exact hH a (fun z => by rw [(W.oh _ a z).2.1] at e; cases e) u (W.fh a u e)
  · exact hH a (fun z => by rw [(W.oh _ a z).2.2] at e; cases e) u (W.gh a u e)
  · by_cases z : x = src
    · rw [if_pos z] at q
      rcases q with q | q
      · exact ⟨hP a q, (W.oh _ a q).2⟩
      · obtain ⟨k1, k3, k4, k5⟩ := k2 a q
        exact ⟨by rw [keep a (k5 _) k1]; exact k1, k3, k4⟩
    · rw [if_neg z] at q
      obtain ⟨k1, k3, k4⟩ := W.oh x a q
      exact ⟨by rw [keep a (fun q' => z (W.oo _ _ a q q')) k1]; exact k1, k3, k4⟩
  · by_cases z : x = src
    · rw [if_pos z] at q
      by_cases y' : y = src
      · rw [z, y']
      · rw [if_neg y'] at q'
        rcases q with q | q
        · exact absurd (W.oo _ _ a q q').symm y'
        · exact absurd q' ((k2 a q).2.2.2 y)
    · rw [if_neg z] at q
      by_cases y' : y = src
      · rw [if_pos y'] at q'
        rcases q' with q' | q'
        · exact absurd (W.oo _ _ a q q') z
        · exact absurd q ((k2 a q').2.2.2 x)
      · rw [if_neg y'] at q'
        exact W.oo _ _ a q q'
  · have k1 := (W.oh x a q).1
    exact ⟨by rw [if_neg n]; exact q, keep a (fun q' => n (W.oo _ _ a q q')) k1⟩
  · show RepO K F H' t' v (fun a => if src = src then o src a ∨ P2 a else o src a)
    exact r.mono (Same.refl _) fun x hx => ⟨by rw [if_pos rfl]; exact hx, rfl⟩
/-- .. alone -/
theorem StR.mut {i : Nat} {t : OT} (s : StR K pv G F sd σ H) (h : sd.tree i = some t) : ∃ (v : V) (P : Addr → Prop), σ[i]? = some (some v) ∧ RepO K F H t v P ∧ (∀ a, P a → H a ≠ none) ∧
    ∀ (H' : Hp) (t' : OT), (∀ a, ¬ P a → ∀ u, H a = some u → H' a = some u) → (∀ a, P a → H' a ≠ none) → RepO K F H' t' v P → (nt : ∀ a xs, H' a = some (.tup xs) → H a = some (.tup xs) := by first | exact nt_upd (by intro _ z; cases z) | exact nt_upd2 (by intro _ z; cases z) (by intro _ z; cases z)) → StR K pv G F (sd.put i t') σ H' := by
  obtain ⟨v, P, P2, h1, h2, _, _, h5, _, h6⟩ := (StR1.fz s (.non)).mut h
  exact ⟨v, P, h1, h2, h5, fun H' t' a b r nt => h6 H' t' a b (r.mono (Same.refl _) fun x hx => ⟨.inl hx, rfl⟩) nt⟩
theorem repOs_app : ∀ {ts : List OT} {vs : List V} {P P2 : Addr → Prop} {t2 : OT} {v2 : V}, RepOs K F H ts vs P → RepO K F H t2 v2 P2 → (∀ a, P a → ¬ P2 a) → RepOs K F H (ts ++ [t2]) (vs ++ [v2]) (fun a => P a ∨ P2 a)
  | [], vs, P, P2, t2, v2, r, r2, d => by
    unfold RepOs at r
    subst r
    rw [List.nil_append, List.nil_append]
    unfold RepOs
    refine ⟨v2, [], P2, fun _ => False, rfl, fun x h => .inr h, fun x h => h.elim, r2, ?_⟩
    unfold RepOs; rfl
  | t :: ts, vs, P, P2, t2, v2, r, r2, d => by
    unfold RepOs at r
    obtain ⟨v, ws, Q1, Q2, rfl, h1, h2, r1, rr⟩ := r
    rw [List.cons_append, List.cons_append]
    unfold RepOs
    refine ⟨v, ws ++ [v2], Q1, fun a => Q2 a ∨ P2 a, rfl, fun x h => .inl (h1 x h), fun x h => ?_, r1, repOs_app rr r2 fun a q => d a (h2 a q).1⟩
    rcases h with h | h
    · exact ⟨.inl (h2 x h).1, (h2 x h).2⟩
    · exact ⟨.inr h, fun q => d x (h1 x q) h⟩
theorem repOs_set : ∀ {ts : List OT} {vs : List V} {P P2 : Addr → Prop} {t2 : OT} {v2 : V} (k : Nat), RepOs K F H ts vs P → RepO K F H t2 v2 P2 → (∀ a, P a → ¬ P2 a) → RepOs K F H (ts.set k t2) (vs.set k v2) (fun a => P a ∨ P2 a)
  | [], vs, P, P2, t2, v2, k, r, r2, d => by
    unfold RepOs at r
    subst r
    rw [List.set_nil, List.set_nil]
    unfold RepOs; rfl
  | t :: ts, vs, P, P2, t2, v2, 0, r, r2, d => by
    unfold RepOs at r
    obtain ⟨v, ws, Q1, Q2, rfl, h1, h2, r1, rr⟩ := r
    rw [List.set_cons_zero, List.set_cons_zero]
    unfold RepOs
    exact ⟨v2, ws, P2, Q2, rfl, fun x h => .inr h, fun x h => ⟨.inl (h2 x h).1, d x (h2 x h).1⟩, r2, rr⟩
  | t :: ts, vs, P, P2, t2, v2, k + 1, r, r2, d => by
    unfold RepOs at r
    obtain ⟨v, ws, Q1, Q2, rfl, h1, h2, r1, rr⟩ := r
    rw [List.set_cons_succ, List.set_cons_succ]
    unfold RepOs
    refine ⟨v, ws.set k v2, Q1, fun a => Q2 a ∨ P2 a, rfl, fun x h => .inl (h1 x h), fun x h => ?_, r1, repOs_set k rr r2 fun a q => d a (h2 a q).1⟩
    rcases h with h | h
    · exact ⟨.inl (h2 x h).1, (h2 x h).2⟩
    · exact ⟨.inr h, fun q => d x (h1 x q) h⟩
/-- a list of a name: its items anew -/
theorem StR1.lset {i : Nat} {ts : List OT} {t2 : OT} {v2 : V} (s : StR1 K pv G F sd σ H v2 t2) (h : sd.tree i = some (.ol ts)) : ∃ (a : Addr) (vs : List V), σ[i]? = some (some (.ref a)) ∧ H a = some (.lst vs) ∧ vs.length = ts.length ∧
    StR K pv G F (sd.put i (.ol (ts ++ [t2]))) σ (upd H a (.lst (vs ++ [v2]))) ∧ ∀ k, StR K pv G F (sd.put i (.ol (ts.set k t2))) σ (upd H a (.lst (vs.set k v2))) := by
  obtain ⟨v, P, P2, h1, h2, r2, d, hn, hn2, go⟩ := s.mut h
  unfold RepO at h2
  obtain ⟨a, vs, rfl, pa, ha, r⟩ := h2
  have main : ∀ (us : List V) (ts' : List OT), RepOs K F H ts' us (fun x => (P x ∧ x ≠ a) ∨ P2 x) → StR K pv G F (sd.put i (.ol ts')) σ (upd H a (.lst us)) := fun us ts' rr => by
    refine go _ _ (fun x hx u e => by rw [upd_ne (fun z => hx (by rw [z]; exact pa))]; exact e) (fun x hx => ?_) ?_
    · by_cases z : x = a
      · rw [z, upd_same]; simp
      · rw [upd_ne z]; exact hn x hx
    · unfold RepO
      refine ⟨a, us, rfl, .inl pa, upd_same, rr.mono (Same.refl _) fun x hx => ?_⟩
      have ne : x ≠ a := by
        rcases hx with hx | hx
        · exact hx.2
        · exact fun z => d a pa (by rw [← z]; exact hx)
      exact ⟨⟨hx.imp And.left id, ne⟩, upd_ne ne⟩
  exact ⟨a, vs, h1, ha, r.length, main _ _ (repOs_app r r2 fun x q => d x q.1), fun k => main _ _ (repOs_set k r r2 fun x q => d x q.1)⟩
end
/-- what happens while a tree is put aside -/
theorem Meets.unhide {α β : Type} {K : PySem.W.Frag} {pv : List V} {W : WX} {G G' F H : Hp} {σ : L2.St} {RS : RSt β α} {p : Bool} {sd : SD} {r : ER α} {Q : β → Hp → Prop} {P : Prop} {v : V} {t : OT} (h : Meets K pv W G' σ RS p sd F H r Q P)
    (g : ∀ (F' : Hp) (sd' : SD) (σ' : L2.St) (H' : Hp), Same F F' → StR K pv G' F' sd' σ' H' → StR1 K pv G F' sd' σ' H' v t) :
    Meets K pv W G σ (fun _ F' sd' H' σ w a => StR1 K pv G F' sd' σ H' v t ∧ RS G' F' sd' H' σ w a) p sd F H r Q P := by
  cases r with
  | bad => exact True.intro
  | rz x sd' => exact fun z => h fun cls dd F' H' s1 s2 s3 => z cls dd F' H' s1 (g F' sd' σ H' s1 s2).drop s3
  | ok a sd' => exact fun z => h fun w F' H' s1 s2 s3 s4 => z w F' H' s1 (g F' sd' σ H' s1 s2).drop ⟨g F' sd' σ H' s1 s2, s3⟩ s4
noncomputable def sApp (i : Nat) (m : SD → ER OT) : SD → Fl := fun sd => match sd.tree i with
  | some (.ol _) => (m sd).stm fun t sd1 => match sd1.tree i with
    | some (.ol ts) => if ts.length < 16777216 then .nx (sd1.put i (.ol (ts ++ [t]))) else .bad
    | _ => .bad
  | _ => .bad
noncomputable def setEnd (i : Nat) (t : OT) (d : D) (sd : SD) : Fl := match d, sd.tree i with
  | .int k, some (.ol ts) => match ixN ts.length k with
    | some j => .nx (sd.put i (.ol (ts.set j t)))
    | none => .bad
  | _, _ => .bad
noncomputable def sSetAt (i : Nat) (mk : SD → ER D) (m : SD → ER OT) : SD → Fl := fun sd => (m sd).stm fun t sd1 => match sd1.tree i with
  | some (.ol _) => (mk sd1).stm (setEnd i t)
  | _ => .bad
noncomputable def sAug (i : Nat) (f : D → D → Option D) (m : SD → ER D) : SD → Fl := fun sd => match sd.sl[i]? with
  | some (.ow (.fz d)) => (m sd).stm fun y sd1 => match f d y with
    | some c => if i < sd1.sl.length then .nx { sd1 with sl := sd1.sl.set i (.ow (.fz c)) } else .bad
    | none => .bad
  | _ => .bad
noncomputable def sAsg (m : SD → ER D) (g : D → SD → Option SD) : SD → Fl := fun sd => (m sd).stm fun d sd1 => match g d sd1 with
  | some sd2 => .nx sd2
  | none => .bad
noncomputable def sPar (i j : Nat) (ma mb : SD → ER OT) : SD → Fl := fun sd => (ma sd).stm fun t sd1 => (mb sd1).stm fun u sd2 => if i < sd2.sl.length ∧ j < sd2.sl.length then .nx { sd2 with sl := (sd2.sl.set i (.ow t)).set j (.ow u) } else .bad
section
variable {X : Cx} {pv : List V} {W : WX} {p q k l : Bool} {e a b c : Expr} {es : List Expr} {pos : Pos}
theorem ol_at {K : PySem.W.Frag} {G F H : Hp} {sd : SD} {σ : L2.St} {i : Nat} {ts : List OT} (s : StR K pv G F sd σ H) (h : sd.tree i = some (.ol ts)) : ∃ a vs, σ[i]? = some (some (.ref a)) ∧ H a = some (.lst vs) := by
  obtain ⟨v, P, h1, h2⟩ := s.tree h
  unfold RepO at h2
  obtain ⟨a, vs, rfl, _, ha, _⟩ := h2
  exact ⟨a, vs, h1, ha⟩
theorem ds_app {i : Nat} {x : Str} {pp apos cpos : Pos} {m : SD → ER OT} (hx : PE X (.Name x pp) (tVar i)) (he : DO X pv W p e m)
    (hline : (apos.endLine == cpos.line) = true := by rfl) (hs : swapsWith (.Call (.Attribute (.Name x pp) "append" apos) [e] [] cpos) none pos.line X.env = pure false := by rfl)
    (hbase : attributeBase (.Name x pp) "append" X.env (eval (.Name x pp) X.env) = eval (.Name x pp) X.env := by rfl)
    (hfew : ((backTo cpos (starEach [e] X.env)).all (fun x => !x.1) && (backToKw cpos (keywordEach [] X.env)).all (fun x => x.1.isSome)
      && decide ([e].length + ([] : List Keyword).length + (if ([] : List Keyword).isEmpty then 0 else 1) < 30)) = true := by rfl)
    (hse : starEach [e] X.env = (false, eval e X.env) :: starEach [] X.env := by rfl) (hplain : (backTo cpos (starEach [] X.env)).any (·.1) = false := by rfl) :
    DS X pv W (.Expr (.Call (.Attribute (.Name x pp) "append" apos) [e] [] cpos) pos) (sApp i m) := by
  obtain ⟨te, a1, a2⟩ := he
  refine ⟨_, ps_expr (pe_bm PySem.F.plainAttrs_list PySem.F.slot_list_append PySem.F.type_list_append mt_append hx (pa_cons a1 pa_nil hse) hbase hfew hline hse hplain) hs, fun G F sd σ H D s => ?_⟩
  unfold sApp
  split
  · rename_i ts0 e0
    obtain ⟨a, vs0, h0, hH0⟩ := ol_at s e0
    refine MeetsS.imp (Meets.stm (a2 G F sd σ H (fun v H1 => rAppend (.ref a) [v] H1 fun _ H2 => D.nx σ H2) s) (f := fun t sd1 => match sd1.tree i with
      | some (.ol ts) => if ts.length < 16777216 then .nx (sd1.put i (.ol (ts ++ [t]))) else .bad
      | _ => .bad) (D := D) fun v F1 H1 t sd1 s1 s2 s3 => ?_) fun z => ⟨_, h0, .inl ⟨rfl, vs0, .inl (.inl hH0)⟩, z⟩
    split
    · rename_i ts e1
      split
      · rename_i hl
        intro hQ
        obtain ⟨l, vs, h1, h2, h3, h4, _⟩ := s3.lset e1
        rw [h0] at h1; cases h1
        exact ⟨_, vs, v, rfl, rfl, h2, by rw [h3, sizeLine_eq]; exact hl, hQ F1 σ _ (Same.refl _) h4⟩
      · exact True.intro
    · exact True.intro
  · exact True.intro
theorem ds_setAt {i : Nat} {x : Str} {pp sp : Pos} {mk : SD → ER D} {m : SD → ER OT} (hx : PE X (.Name x pp) (tVar i)) (hk : DX X pv W true l b mk) (he : DO X pv W p e m)
    (ha : ∀ v, assign (.Subscript (.Name x pp) b sp) X.env v = (do
      let ov ← holding [v] (eval (.Name x pp) X.env)
      let iv ← holding [v, ov] (eval b X.env)
      standAt sp
      holding [v, ov, iv] (setItem ov iv v)
      release [v, ov, iv] []) := by intro _; rfl)
    (hs : swapsWithSole [.Subscript (.Name x pp) b sp] e pos.line X.env = pure false := by rfl) (hw : swappedStores [.Subscript (.Name x pp) b sp] e X.env = pure none := by rfl)
    (h1 : (assignEach [.Subscript (.Name x pp) b sp] X.env).map (·.2) = [assign (.Subscript (.Name x pp) b sp) X.env] := by rfl) :
    DS X pv W (.Assign [.Subscript (.Name x pp) b sp] e pos) (sSetAt i mk m) := by
  obtain ⟨te, a1, a2⟩ := he
  obtain ⟨tk, b1, b2⟩ := hk
  refine ⟨_, ps_asg a1 (pg_sub hx b1 set_list ha) hs hw h1, fun G F sd σ H D s => ?_⟩
  refine Meets.stm (a2 G F sd σ H _ s) fun v F1 H1 t sd1 s1 s2 s3 => ?_
  split
  · rename_i ts0 e0
    obtain ⟨a, vs0, h0, hH0⟩ := ol_at s2 e0
    obtain ⟨G', g1, g2, g3⟩ := s3.hide
    have z := (b2 G' F1 sd1 σ H1 (fun y H2 => rSetL (.ref a) y v H2 fun H3 => D.nx σ H3) g2).unhide g3
    refine MeetsS.imp (Meets.stm z (f := setEnd i t) (D := D) fun y F2 H2 dk sd2 t1 t2 t3 => ?_) fun z => ⟨_, h0, z⟩
    obtain ⟨t3, t4⟩ := t3
    unfold setEnd
    split
    · rename_i k ts e2
      have r : Rep X.K H2 y (.int k) := (show RSx X.K l G F2 sd2 H2 σ y (.int k) from t4).see t2
      cases r
      split
      · rename_i j hj
        intro hQ
        obtain ⟨l, vs, h1, h2, h3, _, h4⟩ := t3.lset e2
        rw [h0] at h1; cases h1
        exact ⟨_, vs, k, j, rfl, rfl, h2, by rw [h3]; exact hj, hQ F2 σ _ (Same.refl _) (h4 j)⟩
      · exact True.intro
    · exact True.intro
  · exact True.intro
theorem ds_asg {tg : Expr} {is : List Nat} {m : SD → ER D} {g : D → SD → Option SD} (he : DX X pv W p true e m) (hg : DG X is tg g) (hs : swapsWithSole [tg] e pos.line X.env = pure false := by rfl) (hw : swappedStores [tg] e X.env = pure none := by rfl)
    (h1 : (assignEach [tg] X.env).map (·.2) = [assign tg X.env] := by rfl) : DS X pv W (.Assign [tg] e pos) (sAsg m g) := by
  obtain ⟨te, a1, a2⟩ := he
  obtain ⟨⟨t, b1, b2⟩, _⟩ := hg
  refine ⟨_, ps_asg a1 b1 hs hw h1, fun G F sd σ H D s => ?_⟩
  refine Meets.stm (a2 G F sd σ H _ s) fun v F1 H1 d sd1 s1 s2 s3 => ?_
  split
  · rename_i sd2 e2
    intro hQ
    obtain ⟨σ', k1, _, k3⟩ := b2 pv G F1 sd1 σ H1 v d sd2 s2 s3 e2
    exact k3 D.nx (hQ F1 σ' H1 (Same.refl _) k1)
  · exact True.intro
theorem ds_par {i j : Nat} {x y : Str} {px py pt pt2 : Pos} {kt k2 : Nat} {ma mb : SD → ER OT} (hc : X.calm = true) (hN : X.N.Nodup) (hi : X.N[i]? = some x) (hj : X.N[j]? = some y) (hij : i ≠ j)
    (hx : X.env.scope.names.lookup x = some .local) (hy : X.env.scope.names.lookup y = some .local) (ha : DO X pv W p a ma) (hb : DO X pv W q b mb)
    (hw : swappedStores [.Tuple [.Name x px, .Name y py] kt pt] (.Tuple [a, b] k2 pt2) X.env = pure (some [x, y]))
    (hs : swapsWithSole [.Tuple [.Name x px, .Name y py] kt pt] (.Tuple [a, b] k2 pt2) pos.line X.env = pure false := by rfl)
    (hs1 : starEach [a, b] X.env = (false, eval a X.env) :: starEach [b] X.env := by rfl) (hs2 : starEach [b] X.env = (false, eval b X.env) :: starEach [] X.env := by rfl) :
    DS X pv W (.Assign [.Tuple [.Name x px, .Name y py] kt pt] (.Tuple [a, b] k2 pt2) pos) (sPar i j ma mb) := by
  obtain ⟨ta, a1, a2⟩ := ha
  obtain ⟨tb, b1, b2⟩ := hb
  refine ⟨_, ps_par hc hN hi hj hij hx hy (pa_cons a1 (pa_cons b1 pa_nil hs2) hs1) hw hs, fun G F sd σ H D s => ?_⟩
  refine Meets.stm (a2 G F sd σ H _ s) fun v F1 H1 t sd1 s1 s2 s3 => ?_
  obtain ⟨G', g1, g2, g3⟩ := StR1.hide s3
  have z := (b2 G' F1 sd1 σ H1 (fun w H2 => ∃ a b, [v, w] = [a, b] ∧ D.nx ((σ.set i (some a)).set j (some b)) H2) g2).unhide g3
  refine MeetsS.imp (Meets.stm z (f := fun u sd2 => if i < sd2.sl.length ∧ j < sd2.sl.length then .nx { sd2 with sl := (sd2.sl.set i (.ow t)).set j (.ow u) } else .bad) (D := D) fun w F2 H2 u sd2 t1 t2 t3 => ?_) ?_
  · obtain ⟨t3, t4⟩ := t3
    split
    · rename_i hl
      intro hQ
      have t4 : StR1 X.K pv G' F2 sd2 σ H2 w u := t4
      have q1 := t4.store hl.2
      have q2 := g3 F2 _ _ H2 t1 q1
      have q3 := q2.store (i := i) (by show i < (sd2.sl.set j (S.ow u)).length; rw [List.length_set]; exact hl.1)
      rw [List.set_comm _ _ (Ne.symm hij), List.set_comm _ _ (Ne.symm hij)] at q3
      exact ⟨v, w, rfl, hQ F2 _ H2 (Same.refl _) q3⟩
    · exact True.intro
  · exact id
end
end DL
namespace DL
open PySem PySem.Spec L2
section
variable {K : PySem.W.Frag} {pv : List V} {G F H : Hp} {sd : SD} {σ : L2.St}
/-- a name's tree is taken away from it -/
theorem StR.take {i : Nat} {t : OT} (s : StR K pv G F sd σ H) (h : sd.sl[i]? = some (.ow t)) : ∃ v, σ[i]? = some (some v) ∧ StR1 K pv G F { sd with sl := sd.sl.set i .un } σ H v t := by
  obtain ⟨o, W⟩ := s
  obtain ⟨v, h1, h2⟩ := W.sl i t h
  have hi : i < sd.sl.length := (List.getElem?_eq_some_iff.mp h).1
  refine ⟨v, h1, fun x a => o x a ∧ x ≠ .inl i, o (.inl i), ⟨W.fh, W.gh, W.fg, fun x a q => W.oh x a q.1, fun x y a q q' => W.oo x y a q.1 q'.1, by simpa using W.len, fun j t' e => ?_, fun j l e => ?_, fun j t' e => ?_, W.tf⟩, h2, fun a z => ⟨(W.oh _ a z).1, (W.oh _ a z).2.1, (W.oh _ a z).2.2, fun x q => q.2 (W.oo _ _ a q.1 z)⟩⟩
  · have e : (sd.sl.set i S.un)[j]? = some (S.ow t') := e
    by_cases z : i = j
    · subst z; rw [List.getElem?_set_self hi] at e; cases e
    · rw [List.getElem?_set_ne z] at e
      obtain ⟨w, k1, k2⟩ := W.sl j t' e
      exact ⟨w, k1, k2.mono (Same.refl _) fun x hx => ⟨⟨hx, fun y => z (Sum.inl.inj y).symm⟩, rfl⟩⟩
  · have e : (sd.sl.set i S.un)[j]? = some (S.pa l) := e
    by_cases z : i = j
    · subst z; rw [List.getElem?_set_self hi] at e; cases e
    · rw [List.getElem?_set_ne z] at e
      exact W.sp j l e
  · obtain ⟨w, k1, k2⟩ := W.pr j t' e
    exact ⟨w, k1, k2.mono (Same.refl _) fun x hx => ⟨⟨hx, fun y => by cases y⟩, rfl⟩⟩
end
section
variable {X : Cx} {pv : List V} {W : WX} {p q k l : Bool} {e a b c : Expr} {es : List Expr} {pos : Pos}
inductive Arg where
  | fz (d : D)
  | sl (i : Nat)
inductive RepsR (K : PySem.W.Frag) (F : Hp) (σ : L2.St) : List V → List Arg → Prop
  | nil : RepsR K F σ [] []
  | fz {v : V} {vs : List V} {d : D} {r : List Arg} : Rep K F v d → RepsR K F σ vs r → RepsR K F σ (v :: vs) (.fz d :: r)
  | sl {v : V} {vs : List V} {i : Nat} {r : List Arg} : σ[i]? = some (some v) → RepsR K F σ vs r → RepsR K F σ (v :: vs) (.sl i :: r)
theorem RepsR.mono {K : PySem.W.Frag} {F F' : Hp} {σ : L2.St} (e : Same F F') : ∀ {vs : List V} {r : List Arg}, RepsR K F σ vs r → RepsR K F' σ vs r
  | _, _, .nil => .nil
  | _, _, .fz h r => .fz (h.mono e) (r.mono e)
  | _, _, .sl h r => .sl h (r.mono e)
theorem RepsR.length {K : PySem.W.Frag} {F : Hp} {σ : L2.St} : ∀ {vs : List V} {r : List Arg}, RepsR K F σ vs r → vs.length = r.length
  | _, _, .nil => rfl
  | _, _, .fz h r => by rw [List.length_cons, List.length_cons, r.length]
  | _, _, .sl h r => by rw [List.length_cons, List.length_cons, r.length]
noncomputable def TrR (K : PySem.W.Frag) (pv : List V) (W : WX) (ta : TA) (m : SD → ER (List Arg)) : Prop := ∀ G F sd σ H Q, StR K pv G F sd σ H → Meets K pv W G σ (fun _ F _ _ σ vs r => RepsR K F σ vs r) false sd F H (m sd) Q (ta σ H Q)
structure DR (X : Cx) (pv : List V) (W : WX) (es : List Expr) (m : SD → ER (List Arg)) : Prop where
  ex : ∃ ta, PA X es ta ∧ TrR X.K pv W ta m
noncomputable def rNil : SD → ER (List Arg) := fun sd => .ok [] sd
noncomputable def rSlot (i : Nat) (r : SD → ER (List Arg)) : SD → ER (List Arg) := fun sd => match sd.tree i with
  | some _ => (r sd).bind fun xs sd2 => .ok (.sl i :: xs) sd2
  | none => .bad
noncomputable def rFz (a : SD → ER D) (r : SD → ER (List Arg)) : SD → ER (List Arg) := fun sd => (a sd).bind fun d sd1 => (r sd1).bind fun xs sd2 => .ok (.fz d :: xs) sd2
theorem Meets.weak {α β : Type} {K : PySem.W.Frag} {G F H : Hp} {σ : L2.St} {RS : RSt β α} {sd : SD} {r : ER α} {Q : β → Hp → Prop} {P : Prop} (h : Meets K pv W G σ RS p sd F H r Q P) : Meets K pv W G σ RS false sd F H r Q P := by
  cases r with
  | bad => exact True.intro
  | rz x sd' => exact h
  | ok a sd' => exact fun z => h fun v F' H' s1 s2 s3 _ => z v F' H' s1 s2 s3 fun w => by cases w
theorem dr_nil : DR X pv W [] rNil := ⟨_, pa_nil, fun G F sd σ H Q s => (Meets.here (p := true) s .nil id).weak⟩
theorem dr_slot {i : Nat} {x : Str} {pp : Pos} {mr : SD → ER (List Arg)} (hx : PE X (.Name x pp) (tVar i)) (hr : DR X pv W es mr) (hs : starEach (.Name x pp :: es) X.env = (false, eval (.Name x pp) X.env) :: starEach es X.env := by rfl) : DR X pv W (.Name x pp :: es) (rSlot i mr) := by
  obtain ⟨tr, b1, b2⟩ := hr
  refine ⟨_, pa_cons hx b1 hs, fun G F sd σ H Q s => ?_⟩
  unfold rSlot
  split
  · rename_i t e
    obtain ⟨v, P, h1, h2⟩ := s.tree e
    refine Meets.to (P := tr σ H fun xs H2 => Q (v :: xs) H2) ?_ fun z => ⟨v, h1, z⟩
    refine (Meets.bindL (b2 G F sd σ H (fun xs H2 => Q (v :: xs) H2) s) fun xs F1 H1 rs sd1 s1 s2 s3 s4 => ?_)
    exact Meets.here s2 (.sl h1 s3) id
  · exact True.intro
theorem dr_fz {ma : SD → ER D} {mr : SD → ER (List Arg)} (ha : DX X pv W p true e ma) (hr : DR X pv W es mr) (hs : starEach (e :: es) X.env = (false, eval e X.env) :: starEach es X.env := by rfl) : DR X pv W (e :: es) (rFz ma mr) := by
  obtain ⟨te, a1, a2⟩ := ha
  obtain ⟨tr, b1, b2⟩ := hr
  refine ⟨_, pa_cons a1 b1 hs, fun G F sd σ H Q s => ?_⟩
  refine Meets.weak (p := p && false) (Meets.bind (a2 G F sd σ H _ s) fun x F1 H1 dx sd1 s1 s2 s3 s4 => ?_)
  refine (Meets.bindL (b2 G F1 sd1 σ H1 _ s2) fun xs F2 H2 rs sd2 t1 t2 t3 t4 => ?_)
  exact Meets.here t2 (.fz (Rep.mono t1 (show Rep X.K F1 x dx from s3)) t3) id
end
noncomputable def treesOf (sd : SD) : List Arg → Option (List OT)
  | [] => some []
  | .fz d :: r => (treesOf sd r).map (.fz d :: ·)
  | .sl i :: r => (sd.tree i).bind fun t => (treesOf sd r).map (t :: ·)
noncomputable def noSlot : List Arg → Bool
  | [] => true
  | .fz _ :: r => noSlot r
  | .sl _ :: _ => false
noncomputable def oneSlot : List Arg → Option (Nat × Nat)
  | [] => none
  | .fz _ :: r => (oneSlot r).map fun p => (p.1 + 1, p.2)
  | .sl i :: r => if noSlot r = true then some (0, i) else none
section
variable {K : PySem.W.Frag} {pv : List V} {G F H : Hp} {sd : SD} {σ : L2.St}
theorem args_no {F : Hp} : ∀ {vs : List V} {r : List Arg} {ts : List OT}, RepsR K F σ vs r → treesOf sd r = some ts → noSlot r = true → vs.length = ts.length ∧ ∀ (k : Nat) (t : OT), ts[k]? = some t → ∃ v d, vs[k]? = some v ∧ t = .fz d ∧ Rep K F v d
  | _, _, ts, .nil, h, _ => by
    unfold treesOf at h
    cases h
    exact ⟨rfl, fun k t e => by simp at e⟩
  | _, _, ts, .fz (r := r) h1 h2, h, hn => by
    unfold treesOf at h
    cases e : treesOf sd r with
    | none => rw [e] at h; cases h
    | some us =>
      rw [e] at h; cases h
      obtain ⟨l1, l2⟩ := args_no h2 e hn
      refine ⟨by rw [List.length_cons, List.length_cons, l1], fun k t et => ?_⟩
      cases k with
      | zero => simp at et; subst et; exact ⟨_, _, rfl, rfl, h1⟩
      | succ k =>
        obtain ⟨v, d, q1, q2, q3⟩ := l2 k t (by simpa using et)
        exact ⟨v, d, by simpa using q1, q2, q3⟩
  | _, _, ts, .sl h1 h2, h, hn => by cases hn
theorem args_one {F : Hp} : ∀ {vs : List V} {r : List Arg} {ts : List OT} {m i : Nat}, RepsR K F σ vs r → treesOf sd r = some ts → oneSlot r = some (m, i) → vs.length = ts.length ∧ (∃ t, ts[m]? = some t ∧ sd.tree i = some t) ∧ (∃ v, vs[m]? = some v ∧ σ[i]? = some (some v)) ∧
    ∀ (k : Nat) (t : OT), ts[k]? = some t → k ≠ m → ∃ v d, vs[k]? = some v ∧ t = .fz d ∧ Rep K F v d
  | _, _, ts, m, i, .nil, h, ho => by cases ho
  | _, _, ts, m, i, .fz (r := r) h1 h2, h, ho => by
    unfold treesOf at h
    unfold oneSlot at ho
    cases e : treesOf sd r with
    | none => rw [e] at h; cases h
    | some us =>
      rw [e] at h; cases h
      cases e2 : oneSlot r with
      | none => rw [e2] at ho; cases ho
      | some p =>
        rw [e2] at ho; cases ho
        obtain ⟨m', i'⟩ := p
        obtain ⟨l1, ⟨t, l2, l3⟩, ⟨v, l4, l5⟩, l6⟩ := args_one h2 e e2
        refine ⟨by rw [List.length_cons, List.length_cons, l1], ⟨t, by simpa using l2, l3⟩, ⟨v, by simpa using l4, l5⟩, fun k t et hk => ?_⟩
        cases k with
        | zero => simp at et; subst et; exact ⟨_, _, rfl, rfl, h1⟩
        | succ k =>
          obtain ⟨v, d, q1, q2, q3⟩ := l6 k t (by simpa using et) (fun z => hk (by show k + 1 = m' + 1; rw [z]))
          exact ⟨v, d, by simpa using q1, q2, q3⟩
  | _, _, ts, m, i, .sl (r := r) h1 h2, h, ho => by
    unfold treesOf at h
    unfold oneSlot at ho
    split at ho
    · rename_i hn
      cases ho
      cases e0 : sd.tree i with
      | none => rw [e0] at h; cases h
      | some t =>
        rw [e0] at h
        have h : (treesOf sd r).map (t :: ·) = some ts := h
        cases e : treesOf sd r with
        | none => rw [e] at h; cases h
        | some us =>
          rw [e] at h; cases h
          obtain ⟨l1, l2⟩ := args_no h2 e hn
          refine ⟨by rw [List.length_cons, List.length_cons, l1], ⟨t, rfl, rfl⟩, ⟨_, rfl, h1⟩, fun k t et hk => ?_⟩
          cases k with
          | zero => exact absurd rfl hk
          | succ k =>
            obtain ⟨v, d, q1, q2, q3⟩ := l2 k t (by simpa using et)
            exact ⟨v, d, by simpa using q1, q2, q3⟩
    · cases ho
/-- one tree is handed over -/
theorem StR.give1 {ts : List OT} {vs : List V} {m i : Nat} {t : OT} {v : V} (s : StR K pv G F sd σ H) (hl : vs.length = ts.length) (hm : ts[m]? = some t) (ht : sd.tree i = some t) (hv : vs[m]? = some v) (hs : σ[i]? = some (some v))
    (hr : ∀ (k : Nat) (t : OT), ts[k]? = some t → k ≠ m → ∃ v d, vs[k]? = some v ∧ t = .fz d ∧ Rep K F v d) :
    ∃ G', StR K vs G' F ⟨[], ts⟩ [] H ∧ (∀ (F' H' : Hp) (w : V) (u t' : OT) (sd1 : SD), Same F F' → StR1 K vs G' F' sd1 [] H' w u → sd1.pa[m]? = some t' → StR1 K pv G F' (sd.put i t') σ H' w u) ∧
      (∀ (F' H' : Hp) (t' : OT) (sd1 : SD), Same F F' → StR K vs G' F' sd1 [] H' → sd1.pa[m]? = some t' → StR K pv G F' (sd.put i t') σ H') := by
  classical
  obtain ⟨o, W⟩ := s
  obtain ⟨src, v0, h1, h2, h3⟩ := W.put ht
  rw [hs] at h1; cases h1
  let G' : Hp := fun a => if F a = none ∧ ¬ o src a then H a else none
  have g0 : ∀ a, F a = none → ¬ o src a → G' a = H a := fun a x y => if_pos ⟨x, y⟩
  have gn : ∀ a, G' a = none → F a ≠ none ∨ o src a ∨ H a = none := fun a z => by
    by_cases f : F a = none
    · by_cases q : o src a
      · exact .inr (.inl q)
      · rw [g0 a f q] at z; exact .inr (.inr z)
    · exact .inl f
  have back : ∀ (F' H' : Hp) (o' : Nat ⊕ Nat → Addr → Prop) (sd1 : SD) (t' : OT), Same F F' → Own K vs G' F' sd1 [] H' o' → sd1.pa[m]? = some t' → Own K pv G F' (sd.put i t') σ H' (fun x a => if x = src then o' (.inr m) a else o x a) ∧ ∀ x a, x ≠ src → o x a → G' a ≠ none := fun F' H' o' sd1 t' f W' et => by
    have ne : ∀ x a, x ≠ src → o x a → G' a = H a ∧ H a ≠ none := fun x a n q => by
      obtain ⟨k1, k2, k3⟩ := W.oh x a q
      exact ⟨g0 a k2 fun z => n (W.oo _ _ a q z), k1⟩
    have keep : ∀ x a, x ≠ src → o x a → H' a = H a := fun x a n q => by
      obtain ⟨k1, k2⟩ := ne x a n q
      cases e : H a with
      | none => exact absurd e k2
      | some u => exact W'.gh a u (by rw [k1]; exact e)
    have gG : ∀ a, G' a = none → F' a = none → G a = none := fun a z fa => by
      rcases gn a z with q | q | q
      · exact absurd (f.free fa) q
      · exact (W.oh _ a q).2.2
      · exact W.gh.free q
    refine ⟨?_, fun x a n q => by obtain ⟨k1, k2⟩ := ne x a n q; rw [k1]; exact k2⟩
    obtain ⟨v1, q1, q2⟩ := W'.pr m t' et
    rw [hv] at q1; cases q1
    refine h3 F' H' _ t' f W'.fh (fun a u e => ?_) (fun a ha => ?_) (fun x a q => ?_) (fun x y a q q' => ?_) (fun x n a q => ⟨by rw [if_neg n]; exact q, keep x a n q⟩) ?_ W'.tf
    · have hu := W.gh a u e
      have fa : F a = none := by
        cases e2 : F a with
        | none => rfl
        | some u2 => have := W.fg a (by rw [e2]; simp); rw [e] at this; cases this
      exact W'.gh a u (by rw [g0 a fa fun z => by rw [(W.oh _ a z).2.2] at e; cases e]; exact hu)
    · cases e : G a with
      | none => rfl
      | some u =>
        have hu := W.gh a u e
        have fa : F a = none := by
          cases e2 : F a with
          | none => rfl
          | some u2 => have := W.fg a (by rw [e2]; simp); rw [e] at this; cases this
        have := W'.fg a ha
        rw [g0 a fa (fun z => by rw [(W.oh _ a z).2.2] at e; cases e), hu] at this
        cases this
    · by_cases z : x = src
      · rw [if_pos z] at q
        obtain ⟨k1, k2, k3⟩ := W'.oh _ a q
        exact ⟨k1, k2, gG a k3 k2⟩
      · rw [if_neg z] at q
        obtain ⟨k1, k2⟩ := ne x a z q
        refine ⟨by rw [keep x a z q]; exact k2, ?_, (W.oh x a q).2.2⟩
        cases e : F' a with
        | none => rfl
        | some u =>
          have := W'.fg a (by rw [e]; simp)
          rw [k1] at this
          exact absurd this k2
    · by_cases z : x = src
      · rw [if_pos z] at q
        by_cases y' : y = src
        · rw [z, y']
        · rw [if_neg y'] at q'
          obtain ⟨k1, k2⟩ := ne y a y' q'
          exact absurd (W'.oh _ a q).2.2 (by rw [k1]; exact k2)
      · rw [if_neg z] at q
        by_cases y' : y = src
        · rw [if_pos y'] at q'
          obtain ⟨k1, k2⟩ := ne x a z q
          exact absurd (W'.oh _ a q').2.2 (by rw [k1]; exact k2)
        · rw [if_neg y'] at q'
          exact W.oo _ _ a q q'
    · exact q2.mono (Same.refl _) fun x hx => ⟨by show (if src = src then o' (.inr m) x else o src x); rw [if_pos rfl]; exact hx, rfl⟩
  refine ⟨G', ⟨fun x a => x = .inr m ∧ o src a, W.fh, fun a u e => ?_, fun a ha => ?_, fun x a q => ?_, fun x y a q q' => q.1.trans q'.1.symm, rfl, fun i t e => by simp at e, fun i j e => by simp at e, fun j t1 e => ?_, W.tf⟩, fun F' H' w u t' sd1 f ⟨o', P, W', r, k⟩ et => ?_, fun F' H' t' sd1 f ⟨o', W'⟩ et => ?_⟩
  · have e : (if F a = none ∧ ¬ o src a then H a else none) = some u := e
    split at e
    · exact e
    · cases e
  · exact if_neg fun z => ha z.1
  · obtain ⟨k1, k2, k3⟩ := W.oh _ a q.2
    exact ⟨k1, k2, if_neg fun z => z.2 q.2⟩
  · have e : ts[j]? = some t1 := e
    by_cases z : j = m
    · subst z
      rw [hm] at e; cases e
      exact ⟨_, hv, h2.mono (Same.refl _) fun x hx => ⟨⟨rfl, hx⟩, rfl⟩⟩
    · obtain ⟨v1, d, q1, q2, q3⟩ := hr j t1 e z
      subst q2
      refine ⟨v1, q1, ?_⟩
      unfold RepO
      exact q3
  · obtain ⟨W2, nn⟩ := back F' H' o' sd1 t' f W' et
    refine ⟨_, P, W2, r, fun a z => ?_⟩
    obtain ⟨k1, k2, k3, k4⟩ := k a z
    refine ⟨k1, k2, ?_, fun x q => ?_⟩
    · rcases gn a k3 with q | q | q
      · exact absurd (f.free k2) q
      · exact (W.oh _ a q).2.2
      · exact W.gh.free q
    · by_cases y : x = src
      · rw [if_pos y] at q; exact k4 _ q
      · rw [if_neg y] at q; exact nn x a y q k3
  · obtain ⟨W2, nn⟩ := back F' H' o' sd1 t' f W' et
    exact ⟨_, W2⟩
end
noncomputable def mCall1 (f : List OT → ER OT) (a : SD → ER (List Arg)) : SD → ER OT := fun sd => (a sd).bind fun args sd1 => match oneSlot args, treesOf sd1 args with
  | some (m, i), some ts => match f ts with
    | .ok t sd' => match sd'.pa[m]? with
      | some t' => .ok t (sd1.put i t')
      | none => .bad
    | .rz x sd' => match sd'.pa[m]? with
      | some t' => .rz x (sd1.put i t')
      | none => .bad
    | .bad => .bad
  | _, _ => .bad
section
variable {X : Cx} {pv : List V} {W : WX} {p q k l : Bool} {e a b : Expr} {es : List Expr}
theorem tr_call1 {n : Nat} {f : List OT → ER OT} {ta : TA} {mm : SD → ER (List Arg)} (hn : ∀ sd ds sd1, mm sd = .ok ds sd1 → ds.length = n) (h : TrR X.K pv W ta mm) :
    TrO X.K pv W false (fun σ H Q => ta σ H fun vs H1 => spD X.K n f vs H1 Q (WE W σ)) (mCall1 f mm) := by
  intro G F sd σ H Q s
  have z := h G F sd σ H (fun vs H1 => spD X.K n f vs H1 Q (WE W σ)) s
  unfold mCall1
  have hn := hn sd
  revert z hn
  cases mm sd with
  | bad => exact fun _ _ => True.intro
  | rz x sd1 => exact fun z _ => z
  | ok args sd1 =>
    intro z hn
    have hn := hn args sd1 rfl
    show Meets X.K pv W G σ (RSo X.K pv) false sd F H (match oneSlot args, treesOf sd1 args with
      | some (m, i), some ts => match f ts with
        | .ok t sd' => match sd'.pa[m]? with
          | some t' => .ok t (sd1.put i t')
          | none => .bad
        | .rz x sd' => match sd'.pa[m]? with
          | some t' => .rz x (sd1.put i t')
          | none => .bad
        | .bad => .bad
      | _, _ => .bad) Q _
    cases e1 : oneSlot args with
    | none => exact True.intro
    | some p =>
      obtain ⟨m, i⟩ := p
      cases e2 : treesOf sd1 args with
      | none => exact True.intro
      | some ts =>
        have main : ∀ vs F1 H1, Same F F1 → StR X.K pv G F1 sd1 σ H1 → RepsR X.K F1 σ vs args → vs.length = n ∧ ts.length = n ∧ ∃ G', StR X.K vs G' F1 ⟨[], ts⟩ [] H1 ∧ (∀ (F' H' : Hp) (w : V) (u t' : OT) (sd' : SD), Same F1 F' → StR1 X.K vs G' F' sd' [] H' w u → sd'.pa[m]? = some t' → StR1 X.K pv G F' (sd1.put i t') σ H' w u) ∧
            (∀ (F' H' : Hp) (t' : OT) (sd' : SD), Same F1 F' → StR X.K vs G' F' sd' [] H' → sd'.pa[m]? = some t' → StR X.K pv G F' (sd1.put i t') σ H') := fun vs F1 H1 s1 s2 s3 => by
          obtain ⟨l1, ⟨t, l2, l3⟩, ⟨v, l4, l5⟩, l6⟩ := args_one s3 e2 e1
          have la : vs.length = args.length := s3.length
          exact ⟨by omega, by omega, s2.give1 l1 l2 l3 l4 l5 l6⟩
        show Meets X.K pv W G σ (RSo X.K pv) false sd F H (match f ts with
          | .ok t sd' => match sd'.pa[m]? with
            | some t' => .ok t (sd1.put i t')
            | none => .bad
          | .rz x sd' => match sd'.pa[m]? with
            | some t' => .rz x (sd1.put i t')
            | none => .bad
          | .bad => .bad) Q _
        cases e : f ts with
        | bad => exact True.intro
        | rz x s' =>
          show Meets X.K pv W G σ (RSo X.K pv) false sd F H (match s'.pa[m]? with
            | some t' => .rz x (sd1.put i t')
            | none => .bad) Q _
          cases e3 : s'.pa[m]? with
          | none => exact True.intro
          | some t' =>
            intro hW
            refine z fun vs F1 H1 s1 s2 s3 s4 => ?_
            obtain ⟨a1, a2, G', g1, g2, g3⟩ := main vs F1 H1 s1 s2 s3
            refine ⟨a1, G', F1, ts, a2, g1, ?_⟩
            rw [e]
            exact fun cls dd F2 H2 t1 t2 t3 => hW cls dd F2 H2 (s1.trans t1) (g3 F2 H2 t' s' t1 t2 e3) t3
        | ok t s' =>
          show Meets X.K pv W G σ (RSo X.K pv) false sd F H (match s'.pa[m]? with
            | some t' => .ok t (sd1.put i t')
            | none => .bad) Q _
          cases e3 : s'.pa[m]? with
          | none => exact True.intro
          | some t' =>
            intro hQ
            refine z fun vs F1 H1 s1 s2 s3 s4 => ?_
            obtain ⟨a1, a2, G', g1, g2, g3⟩ := main vs F1 H1 s1 s2 s3
            refine ⟨a1, G', F1, ts, a2, g1, ?_⟩
            rw [e]
            exact fun v F2 H2 t1 t2 => hQ v F2 H2 (s1.trans t1) (g2 F2 H2 v t t' s' t1 t2 e3).drop (g2 F2 H2 v t t' s' t1 t2 e3) fun w => by cases w
theorem lenr_nil : ∀ sd ds sd1, rNil sd = .ok ds sd1 → ds.length = 0 := fun sd ds sd1 h => by cases h; rfl
theorem lenr_fz {ma : SD → ER D} {mr : SD → ER (List Arg)} {n : Nat} (h : ∀ sd ds sd1, mr sd = .ok ds sd1 → ds.length = n) : ∀ sd ds sd1, rFz ma mr sd = .ok ds sd1 → ds.length = n + 1 := fun sd ds sd1 e => by
  unfold rFz at e
  cases e1 : ma sd with
  | bad => rw [e1] at e; cases e
  | rz x s => rw [e1] at e; cases e
  | ok d s =>
    rw [e1] at e
    have e : (mr s).bind (fun xs sd2 => ER.ok (.fz d :: xs) sd2) = .ok ds sd1 := e
    cases e2 : mr s with
    | bad => rw [e2] at e; cases e
    | rz x s2 => rw [e2] at e; cases e
    | ok ys s2 =>
      rw [e2] at e
      cases e
      rw [List.length_cons, h s ys _ e2]
theorem lenr_slot {i : Nat} {mr : SD → ER (List Arg)} {n : Nat} (h : ∀ sd ds sd1, mr sd = .ok ds sd1 → ds.length = n) : ∀ sd ds sd1, rSlot i mr sd = .ok ds sd1 → ds.length = n + 1 := fun sd ds sd1 e => by
  unfold rSlot at e
  split at e
  · cases e2 : mr sd with
    | bad => rw [e2] at e; cases e
    | rz x s2 => rw [e2] at e; cases e
    | ok ys s2 =>
      rw [e2] at e
      cases e
      rw [List.length_cons, h sd ys _ e2]
  · cases e
theorem do_call1 {n j : Nat} {f : Addr} {fd : FuncData} {ps : List Str} {x : Str} {pp pos : Pos} {g : List OT → ER OT} {m : SD → ER (List Arg)} (F : FnG X.prog X.w X.K X.mg X.base (L2.CX X.prog X.w) j f fd ps (spD X.K n g)) (hr : RoomG j X.A) (hg : Gl X x)
    (hm : X.mg x = some (.ref f)) (hk : PySem.W.keepIn X.K (.ref f) = true) (hb : Binds X.K fd ps []) (tk : Takes X W) (ha : DR X pv W (e :: es) m) (hn : ∀ sd ds sd1, m sd = .ok ds sd1 → ds.length = n)
    (hdb : (x == ("__debug__" : Str)) = false := by decide) (he : starEach (e :: es) X.env = (false, eval e X.env) :: starEach es X.env := by rfl) (hpl : (backTo pos (starEach es X.env)).any (·.1) = false := by rfl) :
    DO X pv W false (.Call (.Name x pp) (e :: es) [] pos) (mCall1 g m) := by
  obtain ⟨ta, a1, a2⟩ := ha
  exact ⟨_, pe_callG F hr hg hm hk hb tk a1 hdb he hpl, tr_call1 hn a2⟩
end
end DL
namespace DL
open PySem PySem.Spec L2
noncomputable def mFz (m : SD → ER OT) : SD → ER OT := mOwn (mView m)
theorem tr_fz {K : PySem.W.Frag} {pv : List V} {W : WX} {p : Bool} {te : TE} {m : SD → ER OT} (h : TrO K pv W p te m) : TrO K pv W p te (mFz m) := by
  intro G F sd σ H Q s
  refine Meets.imp (f := fun t => OT.fz t.view) (h G F sd σ H Q s) id ?_ fun v F1 H1 t sd1 _ s1 s2 s3 s4 hQ => ?_
  · unfold mFz mOwn mView
    cases m sd <;> rfl
  · obtain ⟨F2, t1, t2, t3⟩ := StR1.frz s3
    exact hQ v F2 H1 t1 t2 (StR1.fz t2 t3) (Same.refl _)
section
variable {X : Cx} {pv : List V} {W : WX} {p q k l pc pe pi1 pc1 : Bool} {e tg iter tg1 iter1 elt : Expr} {ifs ifs1 : List Expr} {scope : Scope} {pos : Pos}
theorem DO.fz {m : SD → ER OT} (h : DO X pv W p e m) : DO X pv W p e (mFz m) := by
  obtain ⟨te, h1, h2⟩ := h
  exact ⟨te, h1, tr_fz h2⟩
/-- what holds of targets in any context -/
theorem tgN_wip {i : Nat} : ∀ (vs : List Nat), (∀ j ∈ [i], j ∈ vs) → ∀ d sd sd', tgN i d sd = some sd' → SD.wipe sd' vs = SD.wipe sd vs := fun vs h d sd sd' e => by
  unfold tgN SD.putFz at e
  split at e
  · cases e
    show SD.mk (wipeS (sd.sl.set i _) vs) sd.pa = SD.mk (wipeS sd.sl vs) sd.pa
    rw [wipeS_set (h i List.mem_cons_self)]
  · cases e
noncomputable abbrev Wip (is : List Nat) (g : D → SD → Option SD) : Prop := ∀ (vs : List Nat), (∀ j ∈ is, j ∈ vs) → ∀ d sd sd', g d sd = some sd' → SD.wipe sd' vs = SD.wipe sd vs
noncomputable abbrev Wips (is : List Nat) (g : List D → SD → Option SD) : Prop := ∀ (vs : List Nat), (∀ j ∈ is, j ∈ vs) → ∀ d sd sd', g d sd = some sd' → SD.wipe sd' vs = SD.wipe sd vs
theorem wip_name {i : Nat} : Wip [i] (tgN i) := tgN_wip
theorem wip_nil : Wips [] tgNil := fun vs h d sd sd' e => by
  unfold tgNil at e
  cases d with
  | nil => cases e; rfl
  | cons _ _ => cases e
theorem wip_cons {is js : List Nat} {g : D → SD → Option SD} {h : List D → SD → Option SD} (a : Wip is g) (b : Wips js h) : Wips (is ++ js) (tgCons g h) := fun vs hv d sd sd' e => by
  cases d with
  | nil => cases e
  | cons d ds =>
    obtain ⟨sd1, e1, e2⟩ := Option.bind_eq_some_iff.mp e
    rw [b vs (fun i hi => hv i (List.mem_append_right _ hi)) _ _ _ e2, a vs (fun i hi => hv i (List.mem_append_left _ hi)) _ _ _ e1]
theorem wip_tup {is : List Nat} {n : Nat} {h : List D → SD → Option SD} (a : Wips is h) : Wip is (tgT n h) := fun vs hv d sd sd' e => by
  unfold tgT at e
  cases d with
  | tup ds =>
    have e : (if ds.length = n then h ds sd else none) = some sd' := e
    split at e
    · exact a vs hv _ _ _ e
    · cases e
  | ktu ds =>
    have e : (if ds.length = n then h ds sd else none) = some sd' := e
    split at e
    · exact a vs hv _ _ _ e
    · cases e
  | _ => cases e
end
/-- a def at its name -/
structure Fd (K : PySem.W.Frag) (mg : Str → Option Value) (x : Str) (st : Stmt) (f : Addr) (fd : FuncData) (ps : List Str) : Prop where
  F : Fun K x x st f fd
  g : mg x = some (.ref f)
  b : Binds K fd ps []
theorem bo_abs : bootBuiltins "abs" = some (.builtin "abs") := by decide +kernel
theorem bo_all : bootBuiltins "all" = some (.builtin "all") := by decide +kernel
theorem bo_isinstance : bootBuiltins "isinstance" = some (.builtin "isinstance") := by decide +kernel
theorem bo_len : bootBuiltins "len" = some (.builtin "len") := by decide +kernel
theorem bo_max : bootBuiltins "max" = some (.builtin "max") := by decide +kernel
theorem bo_min : bootBuiltins "min" = some (.builtin "min") := by decide +kernel
theorem bo_repr : bootBuiltins "repr" = some (.builtin "repr") := by decide +kernel
theorem bo_sorted : bootBuiltins "sorted" = some (.builtin "sorted") := by decide +kernel
theorem bo_bool : bootBuiltins "bool" = some (.type "bool") := by decide +kernel
theorem bo_int : bootBuiltins "int" = some (.type "int") := by decide +kernel
theorem bo_list : bootBuiltins "list" = some (.type "list") := by decide +kernel
theorem bo_set : bootBuiltins "set" = some (.type "set") := by decide +kernel
theorem bo_tuple : bootBuiltins "tuple" = some (.type "tuple") := by decide +kernel
end DL
namespace DL
open PySem PySem.Spec L2
theorem law_sp {K : PySem.W.Frag} {H : Hp} {a : Addr} {ns : List Int} {m : List OT → ER OT} (hS : SqL K H a (ns.map V.int)) (h : ∃ sd, m [.fz (.scr ns)] = .ok (.fz (.bl true)) sd) : spD K 1 m [.ref a] H (fun v _ => v = .bl true) fun _ _ _ => False := by
  obtain ⟨sd, h⟩ := h
  have st : StR K [.ref a] (fun _ => none) H ⟨[], [.fz (.scr ns)]⟩ [] H := by
    refine ⟨fun _ _ => False, Same.refl _, fun b u e => ?_, fun _ _ => rfl, fun i b q => False.elim q, fun i j b q => False.elim q, rfl, fun i t e => ?_, fun i j e => ?_, fun j t e => ?_, fun _ _ e => e⟩
    · exact nomatch (show (none : Option HO) = some u from e)
    · have e : ([] : List S)[i]? = some (.ow t) := e
      simp at e
    · have e : ([] : List S)[i]? = some (.pa j) := e
      simp at e
    · have e : [OT.fz (.scr ns)][j]? = some t := e
      cases j with
      | zero =>
        have e : some (OT.fz (.scr ns)) = some t := e
        cases e
        refine ⟨_, rfl, ?_⟩
        unfold RepO
        exact .scr hS
      | succ j => simp at e
  refine ⟨rfl, fun _ => none, H, [.fz (.scr ns)], rfl, st, ?_⟩
  rw [h]
  intro v F' H' _ s
  obtain ⟨o, P, W, r, _⟩ := s
  unfold RepO at r
  cases r
  rfl
end DL
namespace DL
open PySem PySem.Spec L2
theorem goComp_of {α : Type} {g : D → SD → Option SD} {c : SD → ER Bool} {elt : SD → ER D} {vs : List Nat} {w : SD} (e : α → D) (b : α → Bool) (f : α → D) : ∀ (xs : List α) (acc : List D) (sd : SD), sd.wipe vs = w → acc.length + xs.length ≤ 16777216 →
    (∀ x ∈ xs, ∃ sda, g (e x) w = some sda ∧ sda.wipe vs = w ∧ c sda = .ok (b x) sda ∧ (b x = true → elt sda = .ok (f x) sda)) →
    ∃ sd', goComp g c elt vs (xs.map e) acc sd = .ok (acc ++ (xs.filter b).map f) sd' ∧ sd'.wipe vs = w
  | [], acc, sd, hw, _, _ => ⟨sd, by rw [List.map_nil, goComp]; simp, hw⟩
  | x :: xs, acc, sd, hw, hl, h => by
    obtain ⟨sda, h1, h2, h3, h4⟩ := h x List.mem_cons_self
    rw [List.map_cons, goComp, hw, h1]
    dsimp only
    rw [h3]
    have hl' : acc.length + (xs.length + 1) ≤ 16777216 := hl
    cases hb : b x with
    | false =>
      obtain ⟨sd', q1, q2⟩ := goComp_of e b f xs acc sda h2 (by omega) fun y hy => h y (List.mem_cons_of_mem _ hy)
      refine ⟨sd', ?_, q2⟩
      simp only [ER.calm, ER.bind, Bool.false_eq_true, if_false]
      rw [q1, List.filter_cons, hb]
      rfl
    | true =>
      obtain ⟨sd', q1, q2⟩ := goComp_of e b f xs (acc ++ [f x]) sda h2 (by rw [List.length_append]; show acc.length + 1 + xs.length ≤ _; omega) fun y hy => h y (List.mem_cons_of_mem _ hy)
      refine ⟨sd', ?_, q2⟩
      simp only [ER.calm, ER.bind, if_true, h4 hb]
      rw [if_pos (by omega), q1, List.filter_cons, hb, if_pos rfl, List.map_cons, List.append_assoc]
      rfl
theorem mComp_of {α : Type} {mi : SD → ER (List D)} {g : D → SD → Option SD} {c : SD → ER Bool} {elt : SD → ER D} {vs : List Nat} {sd sd1 : SD} (xs : List α) (e : α → D) (b : α → Bool) (f : α → D) (hi : mi sd = .ok (xs.map e) sd1) (hl : xs.length ≤ 16777216)
    (h : ∀ x ∈ xs, ∃ sda, g (e x) (sd1.wipe vs) = some sda ∧ sda.wipe vs = sd1.wipe vs ∧ c sda = .ok (b x) sda ∧ (b x = true → elt sda = .ok (f x) sda)) :
    mComp mi g c elt vs sd = .ok (.ol (((xs.filter b).map f).map .fz)) sd1 := by
  obtain ⟨sd', q1, q2⟩ := goComp_of e b f xs [] sd1 rfl (by simpa using hl) h
  unfold mComp
  rw [hi]
  show (goComp g c elt vs (xs.map e) [] sd1).bind _ = _
  rw [q1]
  show ER.ok (OT.ol (([] ++ (xs.filter b).map f).map .fz)) (sd'.back sd1 vs) = _
  rw [back_self q2, List.nil_append]
/-- no test -/
theorem mComp_map {α : Type} {mi : SD → ER (List D)} {g : D → SD → Option SD} {elt : SD → ER D} {vs : List Nat} {sd sd1 : SD} (xs : List α) (e : α → D) (f : α → D) (hi : mi sd = .ok (xs.map e) sd1) (hl : xs.length ≤ 16777216)
    (h : ∀ x ∈ xs, ∃ sda, g (e x) (sd1.wipe vs) = some sda ∧ sda.wipe vs = sd1.wipe vs ∧ elt sda = .ok (f x) sda) :
    mComp mi g mYes elt vs sd = .ok (.ol ((xs.map f).map .fz)) sd1 := by
  have z := mComp_of (mi := mi) (c := mYes) xs e (fun _ => true) f hi hl fun x hx => by
    obtain ⟨sda, h1, h2, h3⟩ := h x hx
    exact ⟨sda, h1, h2, rfl, fun _ => h3⟩
  rw [List.filter_eq_self.mpr fun _ _ => rfl] at z
  exact z
/-- a loop by an invariant over what is still to come -/
theorem goFor_inv {α : Type} {g : D → SD → Option SD} {body : SD → Fl} (e : α → D) (I : List α → SD → Prop) (h : ∀ x r sd, I (x :: r) sd → ∃ sda sdb, g (e x) sd = some sda ∧ (body sda = .nx sdb ∨ body sda = .ct sdb) ∧ I r sdb) : ∀ (xs : List α) (sd : SD), I xs sd → ∃ sd', goFor g body (xs.map e) sd = .nx sd' ∧ I [] sd'
  | [], sd, hi => ⟨sd, by rw [List.map_nil, goFor], hi⟩
  | x :: xs, sd, hi => by
    obtain ⟨sda, sdb, h1, h2, h3⟩ := h x xs sd hi
    obtain ⟨sd', q1, q2⟩ := goFor_inv e I h xs sdb h3
    refine ⟨sd', ?_, q2⟩
    rw [List.map_cons, goFor, h1]
    dsimp only
    rcases h2 with h2 | h2 <;> rw [h2] <;> exact q1
theorem sFor_inv {α : Type} {it : SD → ER (List D)} {g : D → SD → Option SD} {body : SD → Fl} {sd sd1 : SD} (xs : List α) (e : α → D) (I : List α → SD → Prop) (hi : it sd = .ok (xs.map e) sd1) (h0 : I xs sd1) (h : ∀ x r sd, I (x :: r) sd → ∃ sda sdb, g (e x) sd = some sda ∧ (body sda = .nx sdb ∨ body sda = .ct sdb) ∧ I r sdb) :
    ∃ sd', sFor it g body sd = .nx sd' ∧ I [] sd' := by
  unfold sFor
  rw [hi]
  exact goFor_inv e I h xs sd1 h0
theorem seq_nx {a b : SD → Fl} {sd sd1 : SD} {r : Fl} (h : a sd = .nx sd1) (h2 : b sd1 = r) : sSeq a b sd = r := by
  unfold sSeq
  rw [h]
  exact h2
theorem pick_eq {α : Type} (xs ys : List α) (n : Nat) (s : Nat → Nat) (hn : ys.length = n) (h : ∀ k, k < n → ys[k]? = xs[s k]?) : ((List.range n).map s).filterMap (xs[·]?) = ys := by
  induction n generalizing ys s with
  | zero => cases ys with
    | nil => rfl
    | cons _ _ => simp at hn
  | succ n ih =>
    cases ys with
    | nil => simp at hn
    | cons y ys =>
      rw [List.range_succ_eq_map, List.map_cons, List.filterMap_cons]
      have h0 := h 0 (by omega)
      rw [List.getElem?_cons_zero] at h0
      rw [← h0]
      show y :: _ = _
      rw [List.map_map]
      rw [ih ys (s ∘ Nat.succ) (by simpa using hn) fun k hk => by
        have := h (k + 1) (by omega)
        rw [List.getElem?_cons_succ] at this
        exact this]
/-- slices -/
theorem cut_from1 {α : Type} (xs : List α) : cutL xs (some 1) none = xs.drop 1 := by
  unfold cutL
  rw [show HT.sIx xs.length 0 (some 1) = min 1 xs.length from HT.sIx_nat _ _ 1, show HT.sIx xs.length xs.length none = xs.length from rfl]
  cases xs with
  | nil => rfl
  | cons a r => simp
end DL
namespace DL
open PySem PySem.Spec L2
noncomputable def callFz (f : List OT → ER OT) (ds : List D) (sd : SD) : ER OT := match f (ds.map .fz) with
  | .ok t _ => .ok t sd
  | .rz x _ => .rz x sd
  | .bad => .bad
section
variable {K : PySem.W.Frag} {pv : List V} {W : WX} {G F H : Hp} {σ : L2.St} {sd : SD}
theorem meets_call {n : Nat} {f : List OT → ER OT} {vs : List V} {ds : List D} {Q : VK} (s : StR K pv G F sd σ H) (r : Reps K F vs ds) (hn : ds.length = n) : Meets K pv W G σ (RSo K pv) true sd F H (callFz f ds sd) Q (spD K n f vs H Q (WE W σ)) := by
  obtain ⟨G', g1, g2, g3⟩ := s.give (ts := ds.map .fz) (vs := vs) ⟨by rw [map_view_fz]; exact r, all_fz ds⟩
  unfold callFz
  cases e : f (ds.map .fz) with
  | bad => exact True.intro
  | rz x s' =>
    intro hW
    refine ⟨by rw [r.length, hn], G', F, ds.map .fz, by rw [List.length_map, hn], g1, ?_⟩
    rw [e]
    intro cls dd F2 H2 t1 t2 t3
    obtain ⟨u1, u2⟩ := g3 F2 H2 s' t1 t2
    exact hW cls dd F2 H2 t1 u1 t3
  | ok t s' =>
    intro hQ
    refine ⟨by rw [r.length, hn], G', F, ds.map .fz, by rw [List.length_map, hn], g1, ?_⟩
    rw [e]
    intro v F2 H2 t1 t2
    obtain ⟨u1, u2⟩ := g2 F2 H2 v t s' t1 t2
    exact hQ v F2 H2 t1 u1.drop u1 fun _ => ⟨u2, rfl⟩
end
noncomputable def mMake (C : Addr) (f : List OT → ER OT) (a : SD → ER (List D)) : SD → ER OT := fun sd => (a sd).bind fun ds sd1 => match f (.oi C [] [] :: ds.map .fz) with
  | .ok (.fz .non) sd' => match sd'.pa[0]? with
    | some t => .ok t sd1
    | none => .bad
  | .rz x sd' => match sd'.pa[0]? with
    | some _ => .rz x sd1
    | none => .bad
  | _ => .bad
section
variable {X : Cx} {pv : List V} {W : WX} {p q k l : Bool} {e a b : Expr} {es : List Expr} {pos : Pos}
theorem run_makeS {C f : Addr} {fd : FuncData} {ps : List Str} {sp : Sp} {E : L2.St → XK} {k : Nat} {pins : List (Addr × Obj)} {σ : L2.St} {H : Hp} {s : Shared} {Q : VK} {us : List Value} {vs : List V} (M : Mk X.K C f) (F : FnG X.prog X.w X.K X.mg X.base (L2.CX X.prog X.w) k f fd ps sp) (hr : RoomG (k + 1) X.A) (hb : Binds X.K fd ps [])
    (hx : PassesAt (L2.CX X.prog X.w) X σ (E σ)) (I : Inv X pins σ H s) (r : Vals vs us)
    (h : ∀ x dx, H x = none → H dx = none → dx ≠ x → sp (.ref x :: vs) (upd (upd H dx (.own x)) x (.ins C dx [])) (fun v H2 => v = .non ∧ Q (.ref x) H2) (E σ)) :
    wpAny (model X.prog X.w) X.A (call (.ref C) us) (EP X pins σ Q) X.xe s := by
  have hq := h (s.heap.objs.size + 1) s.heap.objs.size (I.hok.fresh (Nat.le_succ _)) (I.hok.fresh (Nat.le_refl _)) (Nat.ne_of_lt (Nat.lt_succ_self _))
  have I2 := Inv.made (C := C) I
  have r2 : Vals (V.ref (s.heap.objs.size + 1) :: vs) (Value.ref (s.heap.objs.size + 1) :: us) := .cons rfl r
  have hl : (Value.ref (s.heap.objs.size + 1) :: us).length = ps.length := by
    have e := r2.length
    rw [F.len _ _ _ _ hq] at e
    exact e.symm
  have hb1 := hb _ (Value.ref (s.heap.objs.size + 1) :: us) I2.kIn (by rw [List.append_nil]; exact hl)
  rw [List.append_nil] at hb1
  refine wpAny_call (make_map (f := f) I.kIn M.makes M.init (beq_iff_eq.mp M.fn) (codeAny_mono (F.run _ X.stack _ _ ⟨Value.ref (s.heap.objs.size + 1) :: us, []⟩ (Value.ref (s.heap.objs.size + 1) :: us) _ _ (E σ) (hr.make C us [])
    (I2.env0.make C us []) hb1 r2 hq) fun r s' hq' => ?_))
  cases r with
  | error e => exact hx pins _ _ e s' I2 hq'
  | ok fl =>
    cases fl with
    | ret u =>
      obtain ⟨v, H', I3, rv, ev, q3⟩ := I2.after hq'
      subst ev
      exact ⟨rv, ⟨V.ref (s.heap.objs.size + 1), H', I3, rfl, q3⟩⟩
    | next => exact False.elim hq'
    | brk => exact False.elim hq'
    | cont => exact False.elim hq'
end
theorem cx_none {P : Program} {w : World} {outer : List Env} {H : Hp} {s s' : Shared} {e : Value} (z : L2.CX P w outer H s (fun _ _ _ => False) e s') : False := by
  obtain ⟨_, _, _, _, _, _, _, _, _, _, _, _, q⟩ := z
  exact q
section
variable {X : Cx} {f : Addr} {fd : FuncData} {ps : List Str} {sp : Sp} {j : Nat} {pins : List (Addr × Obj)} {σ : L2.St} {H : Hp} {s : Shared} {Q : VK} {E : Value → Shared → Prop} {us : List Value} {vs : List V}
theorem code_at {A : Around} (F : FnG X.prog X.w X.K X.mg X.base (L2.CX X.prog X.w) j f fd ps sp) (hr : RoomG j A) (he : Env0 X.prog X.w X.K X.mg X.base A X.stack s H) (hb : Binds X.K fd ps []) (I : Inv X pins σ H s) (r : Vals vs us) (h : sp vs H Q fun _ _ _ => False) :
    codeAny (model X.prog X.w) A (.call (.ref f) ⟨us, []⟩) (wants (EP X pins σ Q) E) s := by
  have hl : (us ++ []).length = ps.length := by rw [List.append_nil, ← r.length, F.len _ _ _ _ h]
  have b := hb s us I.kIn hl
  rw [List.append_nil] at b
  refine codeAny_mono (F.run A X.stack s H ⟨us, []⟩ us vs Q _ hr he b r h) fun res s2 hq => ?_
  cases res with
  | error e => exact (cx_none hq).elim
  | ok fl =>
    cases fl with
    | ret u => exact I.after hq
    | next => exact hq.elim
    | brk => exact hq.elim
    | cont => exact hq.elim
theorem run_0 (F : FnG X.prog X.w X.K X.mg X.base (L2.CX X.prog X.w) j f fd ps sp) (hr : RoomG j X.A) (hb : Binds X.K fd ps []) (I : Inv X pins σ H s) (r : Vals vs us) (h : sp vs H Q fun _ _ _ => False) : wpAny (model X.prog X.w) X.A (call (.ref f) us) (EP X pins σ Q) E s := wpAny_call (code_at F hr I.env0 hb I r h)
theorem run_1 (F : FnG X.prog X.w X.K X.mg X.base (L2.CX X.prog X.w) j f fd ps sp) (hr : RoomG (j + 1) X.A) (hb : Binds X.K fd ps []) (I : Inv X pins σ H s) (r : Vals vs us) (h : sp vs H Q fun _ _ _ => False) : wpAny (model X.prog X.w) X.A.in1 (call (.ref f) us) (EP X pins σ Q) E s := wpAny_call (code_at F hr.in1 I.env0.in1 hb I r h)
end
end DL
namespace DL
open PySem PySem.Spec L2
noncomputable def fldD {α : Type} (f : Str) : List Str → List α → Option α
  | n :: ns, v :: vs => if n = f then some v else fldD f ns vs
  | _, _ => none
theorem lookup_head {α : Type} {f g : Str} {v : α} {r : List (Str × α)} : List.lookup f ((g, v) :: r) = if g = f then some v else List.lookup f r := by
  by_cases h : g = f
  · subst h
    rw [if_pos rfl]
    simp [List.lookup]
  · rw [if_neg h]
    have : (f == g) = false := by simpa using fun z : f = g => h z.symm
    simp [List.lookup, this]
theorem fldD_rep {K : PySem.W.Frag} {F : Hp} {f : Str} {d : D} : ∀ {fs : List (Str × V)} {vs : List D}, Reps K F (fs.map (·.2)) vs → fldD f (fs.map (·.1)) vs = some d → ∃ v, fs.lookup f = some v ∧ Rep K F v d
  | [], vs, r, h => by
    cases r
    cases h
  | (n, v) :: fs, vs, r, h => by
    cases r with
    | cons r1 r2 =>
      rw [List.map_cons, fldD] at h
      rw [lookup_head]
      by_cases e : n = f
      · rw [if_pos e] at h ⊢
        cases h
        exact ⟨v, rfl, r1⟩
      · rw [if_neg e] at h ⊢
        exact fldD_rep r2 h
noncomputable def mFld (ok : Addr → Bool) (f : Str) (a : SD → ER D) : SD → ER D := fun sd => (a sd).bind fun x sd1 => match x with
  | .ins C ns vs => if ok C = true then ER.opt (fldD f ns vs) sd1 else .bad
  | _ => .bad
/-- the place of a name -/
noncomputable def idxN (f : Str) : List Str → Option Nat
  | [] => none
  | n :: ns => if n = f then some 0 else (idxN f ns).map (· + 1)
noncomputable def putO (C : Addr) (f : Str) (t : OT) (ns : List Str) (ts : List OT) : OT := match idxN f ns with
  | some k => .oi C ns (ts.set k t)
  | none => .oi C (ns ++ [f]) (ts ++ [t])
theorem putF_some {f : Str} {y : V} : ∀ {fs : List (Str × V)} {k : Nat}, idxN f (fs.map (·.1)) = some k → (putF f y fs).map (·.1) = fs.map (·.1) ∧ (putF f y fs).map (·.2) = (fs.map (·.2)).set k y
  | [], k, h => by cases h
  | (n, v) :: fs, k, h => by
    rw [List.map_cons, idxN] at h
    unfold putF
    by_cases e : n = f
    · rw [if_pos e] at h ⊢
      cases h
      subst e
      exact ⟨rfl, rfl⟩
    · rw [if_neg e] at h ⊢
      obtain ⟨j, e1, e2⟩ := Option.map_eq_some_iff.mp h
      subst e2
      obtain ⟨h1, h2⟩ := putF_some (y := y) e1
      exact ⟨by rw [List.map_cons, h1]; rfl, by rw [List.map_cons, h2]; rfl⟩
theorem putF_none {f : Str} {y : V} : ∀ {fs : List (Str × V)}, idxN f (fs.map (·.1)) = none → (putF f y fs).map (·.1) = fs.map (·.1) ++ [f] ∧ (putF f y fs).map (·.2) = fs.map (·.2) ++ [y]
  | [], h => ⟨rfl, rfl⟩
  | (n, v) :: fs, h => by
    rw [List.map_cons, idxN] at h
    unfold putF
    by_cases e : n = f
    · rw [if_pos e] at h; cases h
    · rw [if_neg e] at h ⊢
      have e1 : idxN f (fs.map (·.1)) = none := by
        cases e2 : idxN f (fs.map (·.1)) with
        | none => rfl
        | some j => rw [e2] at h; cases h
      obtain ⟨h1, h2⟩ := putF_none (y := y) e1
      exact ⟨by rw [List.map_cons, h1]; rfl, by rw [List.map_cons, h2]; rfl⟩
section
variable {K : PySem.W.Frag} {pv : List V} {G F H : Hp} {sd : SD} {σ : L2.St}
theorem StR1.fset {i : Nat} {C : Addr} {ns : List Str} {ts : List OT} {t2 : OT} {v2 : V} (s : StR1 K pv G F sd σ H v2 t2) (h : sd.tree i = some (.oi C ns ts)) : ∃ (a dx : Addr) (fs : List (Str × V)), σ[i]? = some (some (.ref a)) ∧ H a = some (.ins C dx fs) ∧ fs.map (·.1) = ns ∧ fs.length = ns.length ∧
    ∀ f, StR K pv G F (sd.put i (putO C f t2 ns ts)) σ (upd H a (.ins C dx (putF f v2 fs))) := by
  obtain ⟨v, P, P2, h1, h2, r2, d, hn, hn2, go⟩ := s.mut h
  unfold RepO at h2
  obtain ⟨a, dx, fs, rfl, pa, ha, hns, r⟩ := h2
  have main : ∀ (gs : List (Str × V)) (ns' : List Str) (ts' : List OT), gs.map (·.1) = ns' → RepOs K F H ts' (gs.map (·.2)) (fun x => (P x ∧ x ≠ a) ∨ P2 x) → StR K pv G F (sd.put i (.oi C ns' ts')) σ (upd H a (.ins C dx gs)) := fun gs ns' ts' hg rr => by
    refine go _ _ (fun x hx u e => by rw [upd_ne (fun z => hx (by rw [z]; exact pa))]; exact e) (fun x hx => ?_) ?_
    · by_cases z : x = a
      · rw [z, upd_same]; simp
      · rw [upd_ne z]; exact hn x hx
    · unfold RepO
      refine ⟨a, dx, gs, rfl, .inl pa, upd_same, hg.symm, rr.mono (Same.refl _) fun x hx => ?_⟩
      have ne : x ≠ a := by
        rcases hx with hx | hx
        · exact hx.2
        · exact fun z => d a pa (by rw [← z]; exact hx)
      exact ⟨⟨hx.imp And.left id, ne⟩, upd_ne ne⟩
  refine ⟨a, dx, fs, h1, ha, hns.symm, by rw [hns, List.length_map], fun f => ?_⟩
  unfold putO
  subst hns
  cases e : idxN f (fs.map (·.1)) with
  | some k =>
    obtain ⟨q1, q2⟩ := putF_some (y := v2) e
    exact main _ _ _ q1 (by rw [q2]; exact repOs_set k r r2 fun x q => d x q.1)
  | none =>
    obtain ⟨q1, q2⟩ := putF_none (y := v2) e
    exact main _ _ _ q1 (by rw [q2]; exact repOs_app r r2 fun x q => d x q.1)
end
noncomputable def sFldSet (ok : Addr → Bool) (i : Nat) (f : Str) (m : SD → ER OT) : SD → Fl := fun sd => (m sd).stm fun t sd1 => match sd1.tree i with
  | some (.oi C ns ts) => if ok C = true ∧ ns.length < 1000 then .nx (sd1.put i (putO C f t ns ts)) else .bad
  | _ => .bad
section
variable {X : Cx} {pv : List V} {W : WX} {p q k l : Bool} {e a b : Expr} {es : List Expr} {pos : Pos}
theorem dx_fld {ok : Addr → Bool} {f : Str} {m : SD → ER D} (h : DX X pv W p k e m) (hf : ∀ C, ok C = true → Cls X.K C ∧ NoAttr X.K C f) (hb : attributeBase e f X.env (eval e X.env) = eval e X.env := by rfl) : DX X pv W p k (.Attribute e f pos) (mFld ok f m) := by
  obtain ⟨te, a1, a2⟩ := h
  refine ⟨_, pe_fld a1 hb, fun G F sd σ H Q s => ?_⟩
  refine Meets.bindL (a2 G F sd σ H _ s) fun x F1 H1 dx sd1 s1 s2 s3 s4 => ?_
  split
  · rename_i C ns vs
    split
    · rename_i hok
      obtain ⟨c1, c2⟩ := hf C hok
      cases e1 : fldD f ns vs with
      | none => exact True.intro
      | some d =>
        have main : ∀ Fz : Hp, Same Fz H1 → Rep X.K Fz x (.ins C ns vs) → ∃ a dx fs v, x = .ref a ∧ H1 a = some (.ins C dx fs) ∧ fs.lookup f = some v ∧ Rep X.K Fz v d := fun Fz hs r => by
          cases r with
          | @ins a C dx fs _ ha rr =>
            obtain ⟨v, k1, k2⟩ := fldD_rep rr e1
            exact ⟨a, dx, fs, v, rfl, hs _ _ ha, k1, k2⟩
        cases k with
        | true =>
          obtain ⟨a, dx, fs, v, k1, k2, k3, k4⟩ := main F1 s2.fh s3
          exact Meets.here s2 (show RSx X.K true G F1 sd1 H1 σ v d from k4) fun q => ⟨a, C, dx, fs, v, k1, k2, c1, c2, k3, q⟩
        | false =>
          obtain ⟨a, dx, fs, v, k1, k2, k3, k4⟩ := main H1 (Same.refl _) s3
          exact Meets.here s2 (show RSx X.K false G F1 sd1 H1 σ v d from k4) fun q => ⟨a, C, dx, fs, v, k1, k2, c1, c2, k3, q⟩
    · exact True.intro
  · exact True.intro
theorem ds_fld {ok : Addr → Bool} {f : Str} {i : Nat} {x : Str} {pp ap : Pos} {m : SD → ER OT} (hx : PE X (.Name x pp) (tVar i)) (he : DO X pv W p e m) (hf : ∀ C, ok C = true → Cls X.K C ∧ NoAttr X.K C f)
    (hs : swapsWith e (some (.Attribute (.Name x pp) f ap)) pos.line X.env = pure false := by rfl) : DS X pv W (.Assign [.Attribute (.Name x pp) f ap] e pos) (sFldSet ok i f m) := by
  obtain ⟨te, a1, a2⟩ := he
  refine ⟨_, ps_fld hx a1 hs, fun G F sd σ H D s => ?_⟩
  refine Meets.stm (a2 G F sd σ H _ s) fun v F1 H1 t sd1 s1 s2 s3 => ?_
  split
  · rename_i C ns ts e1
    split
    · rename_i hok
      obtain ⟨c1, c2⟩ := hf C hok.1
      obtain ⟨a, dx, fs, k1, k2, k3, k4, k5⟩ := s3.fset e1
      intro hQ
      exact ⟨_, k1, a, C, dx, fs, rfl, k2, c1, c2, by rw [k4]; exact hok.2, hQ F1 σ _ (Same.refl _) (k5 f)⟩
    · exact True.intro
  · exact True.intro
noncomputable def callFzQ (f : List OT → ER OT) (ds : List D) (sd : SD) : ER OT := match f (ds.map .fz) with
  | .ok t _ => .ok t sd
  | _ => .bad
theorem meets_callQ {K : PySem.W.Frag} {G F H : Hp} {σ : L2.St} {sd : SD} {n : Nat} {f : List OT → ER OT} {vs : List V} {ds : List D} {Q : VK} (s : StR K pv G F sd σ H) (r : Reps K F vs ds) (hn : ds.length = n) : Meets K pv W G σ (RSo K pv) true sd F H (callFzQ f ds sd) Q (spD K n f vs H Q fun _ _ _ => False) := by
  have z := meets_call (W := fun _ _ _ _ => False) (f := f) (Q := Q) s r hn
  unfold callFz at z
  unfold callFzQ
  revert z
  cases f (ds.map .fz) with
  | bad => exact fun _ => True.intro
  | rz x s' => exact fun _ => True.intro
  | ok t s' => exact id
noncomputable def mProp (C0 : Addr) (g : List OT → ER OT) (a : SD → ER D) : SD → ER OT := fun sd => (a sd).bind fun x sd1 => match x with
  | .ins C ns vs => if C = C0 then callFzQ g [.ins C ns vs] sd1 else .bad
  | _ => .bad
theorem pe_propG {C pa g : Addr} {f : Str} {fd : FuncData} {ps : List Str} {sp : Sp} {j : Nat} {te : TE} (he : PE X e te) (c : Cls X.K C) (hp : PropOf X.K C f pa g) (F : FnG X.prog X.w X.K X.mg X.base (L2.CX X.prog X.w) j g fd ps sp) (hr : RoomG (j + 1) X.A) (hb : Binds X.K fd ps [])
    (hbase : attributeBase e f X.env (eval e X.env) = eval e X.env) : PE X (.Attribute e f pos) (fun σ H Q => te σ H fun x H1 => ∃ a dx fs, x = .ref a ∧ H1 a = some (.ins C dx fs) ∧ sp [.ref a] H1 Q fun _ _ _ => False) := by
  refine ⟨fun pins s σ H Q I h => attr_of hbase (thn (he.run pins s σ H _ I h) fun u s1 ⟨x, H1, I1, rx, a, dx, fs, ex, ea, q⟩ => ?_)⟩
  subst ex
  cases (show u = Value.ref a from rx)
  obtain ⟨mA, O, _⟩ := ins_get I1.hok ea
  obtain ⟨od, J, _⟩ := O.look
  obtain ⟨rest, hrec⟩ := hp.rec_
  have isC : (PySem.W.clsIn X.K C).isSome = true := by
    obtain ⟨cd, hcd, _⟩ := PySem.W.any_some c.hd
    rw [hcd]; rfl
  have I2 := I1.tok (s1.toks + 1)
  refine PySem.W.get_bind I1.kIn J (PySem.W.plainGet_of (c.get f)).1 (PySem.W.findObj_data isC hp.at_ hp.get hp.tak) (PySem.W.plainGet_of (c.get f)).2 (wpAny_call (PySem.W.prop_get (s := { s1 with toks := s1.toks + 1 }) I1.kIn hrec ?_))
  refine codeAny_mono (code_at (E := fun _ _ => False) (us := [.ref a]) (vs := [.ref a]) F hr.in1 I2.env0.in1 hb I2 (.cons rfl .nil) q) fun r s2 z => ?_
  cases r with
  | error er => exact False.elim z
  | ok fl =>
    cases fl with
    | ret u =>
      obtain ⟨v, H2, I3, rv, q3⟩ := z
      show wpAny _ _ (handedOut u) _ _ _
      rw [PySem.W.handedOut_of (handed_of rv)]
      exact wpAny_pure ⟨v, H2, I3, rv, q3⟩
    | next => exact z
    | brk => exact z
    | cont => exact z
theorem do_prop {C pa g : Addr} {f : Str} {fd : FuncData} {ps : List Str} {j : Nat} {gm : List OT → ER OT} {m : SD → ER D} (h : DX X pv W p true e m) (c : Cls X.K C) (hp : PropOf X.K C f pa g) (F : FnG X.prog X.w X.K X.mg X.base (L2.CX X.prog X.w) j g fd ps (spD X.K 1 gm)) (hr : RoomG (j + 1) X.A) (hb : Binds X.K fd ps [])
    (hbase : attributeBase e f X.env (eval e X.env) = eval e X.env := by rfl) : DO X pv W p (.Attribute e f pos) (mProp C gm m) := by
  obtain ⟨te, a1, a2⟩ := h
  refine ⟨_, pe_propG a1 c hp F hr hb hbase, fun G Fz sd σ H Q s => ?_⟩
  refine Meets.bindL (a2 G Fz sd σ H _ s) fun x F1 H1 dx sd1 s1 s2 s3 s4 => ?_
  have s3 : Rep X.K F1 x dx := s3
  split
  · rename_i C' ns vs
    split
    · rename_i hC
      subst hC
      refine Meets.to (meets_callQ s2 (.one s3) rfl) fun z => ?_
      cases s3 with
      | @ins a _ dx fs _ ha rr => exact ⟨a, dx, fs, rfl, s2.fh _ _ ha, z⟩
    · exact True.intro
  · exact True.intro
end
end DL
namespace DL
open PySem PySem.Spec L2
/-- an instance of C -/
noncomputable def InsR (C : Addr) (x : V) (H : Hp) : Prop := ∃ a dx fs, x = .ref a ∧ H a = some (.ins C dx fs)
noncomputable def D.isIns (C : Addr) : D → Bool
  | .ins C' _ _ => C' == C
  | _ => false
theorem isIns_rep {K : PySem.W.Frag} {F H : Hp} {C : Addr} {x : V} {d : D} (e : Same F H) (r : Rep K F x d) (h : d.isIns C = true) : InsR C x H := by
  cases r with
  | @ins a C' dx fs _ ha rr =>
    have h : (C' == C) = true := h
    have h := beq_iff_eq.mp h
    subst h
    exact ⟨a, dx, fs, rfl, e _ _ ha⟩
  | _ => cases h
section
variable {X : Cx} {pv : List V} {W : WX} {p q k l : Bool} {e a b : Expr} {es : List Expr} {pos : Pos}
theorem ins_at {pins : List (Addr × Obj)} {σ : L2.St} {H : Hp} {s : Shared} {a C dx : Addr} {fs : List (Str × V)} (I : Inv X pins σ H s) (h : H a = some (.ins C dx fs)) : ∃ ox od, PySem.W.InstAt s.heap a ox C od := by
  obtain ⟨mA, O, _⟩ := ins_get I.hok h
  obtain ⟨od, J, _⟩ := O.look
  exact ⟨_, _, J⟩
end
end DL
namespace PySem.W
open PySem PySem.Calls PyProof.Rows
section
variable {prog : Program} {w : World} {A : Around} {E : Value → Shared → Prop} {s : Shared} {K : Frag} {x C L f : Addr} {h₀ : Heap} {m : Str → Option Value} {ox : Obj} {od : Option Obj} {b tb : Value}
/-- the library's != by an own == -/
theorem dl_objNe {Q : Fin → Shared → Prop} (hu : A.units < cLine) (X : K.In s.heap) (I : InstAt s.heap x ox C od) (hs : findIn K (.ref C) "__eq__" = some (some (.ref f))) (hf : isFn K (.ref f) = true)
    (h : wpAny (model prog w) A (call (.ref f) [.ref x, b]) (fun v s' => ∃ r, v = .bool r ∧ Q (.done (.ret (.bool (!r)))) s') E s) : wpAny (model prog w) A (Builtin.«object.__ne__» ⟨[.ref x, b], []⟩) Q E s := by
  unfold Builtin.«object.__ne__»
  repeat (first
    | with_reducible refine wpAny_cRoomFor hu ?_
    | (refine wpAny_bind (m := callSpecialIfBound? (.ref x) (Str.ofString "__eq__") [b])
        (ifBound_K X I hs hf (wpAny_mono h (fun r s' hr => by
          obtain ⟨b, rfl, hq⟩ := hr
          repeat (first | exact hq | exact wpAny_pure hq | exact wpAny_truthy_bool hq | (refine wpAny_bind (m := truthy (.bool _)) (wpAny_truthy_bool ?_)) | wp_step)) fun _ _ e => e)))
    | wp_step)
theorem dl_checkNe {rest : List Value} {Q : Unit → Shared → Prop} (ha : argsOk "object.__ne__" ⟨.ref x :: rest, []⟩) (X : K.In s.heap) (I : InstAt s.heap x ox C od) (hob : subIn K (.ref C) (.type "object") = some true) (hq : Q () s) :
    wpAny (model prog w) A (checkBuiltinCall "object.__ne__" ⟨.ref x :: rest, []⟩) Q E s := by
  simp only [checkBuiltinCall, F.cmpKind_ne, F.cmpSplit_ne]
  have L : Looks (model prog w) s.heap (isInstance (.ref x) (.type "object")) true := I.type.andThen (looks_subIn X hob)
  refine wpAny_bind (L.here ?_)
  cases hsig : Manifest.signature? "object.__ne__" with
  | none => exact wpAny_pure hq
  | some sig =>
    simp only [argsOk, hsig] at ha
    have h2 : Bind.checkArgs "object.__ne__" sig ⟨.ref x :: rest, []⟩ = pure () := ha
    show wpAny (model prog w) A (Bind.checkArgs "object.__ne__" sig ⟨.ref x :: rest, []⟩) Q E _
    rw [h2]; exact wpAny_pure hq
theorem dl_ifBoundB {name : Str} {id : String} {args : List Value} {Q : Option Value → Shared → Prop} (X : K.In s.heap) (I : InstAt s.heap x ox C od) (hs : findIn K (.ref C) name = some (some (.builtin id))) (S : Slot "object" name id)
    (hcall : wpAny (model prog w) A (call (.builtin id) (.ref x :: args)) (fun v => Q (some v)) E s) : wpAny (model prog w) A (callSpecialIfBound? (.ref x) name args) Q E s := by
  simp only [callSpecialIfBound?, bindSpecialIfBound?]
  refine wpAny_holding (wpAny_bind (wpAny_bind (wpAny_bind (I.type.here ((looks_findIn X hs).here ?_)))))
  simp only [S.bind]
  refine wpAny_bind (wpAny_askSetting (wpAny_ite ?_))
  have fin : wpAny (model prog w) A (call (.builtin id) ([.ref x] ++ args) >>= fun v => pure (some v)) Q E s :=
    wpAny_bind (wpAny_mono hcall (fun v s' h' => wpAny_pure h') fun _ _ h' => h')
  split
  · exact wpAny_bind (wpAny_pure (wpAny_pure fin))
  · exact wpAny_tryCatch (wpAny_bind (wpAny_pure (wpAny_pure fin)))
theorem dl_ne {Q : Value → Shared → Prop} (hu : A.units + 1 < cLine) (F0 : Fr h₀ L s.heap m) (X₀ : K.In h₀) (I : InstAt s.heap x ox C od) (hb : Looks (model prog w) s.heap (typeOf b) tb) (hn : notFirst K C tb = true)
    (hs : findIn K (.ref C) "__eq__" = some (some (.ref f))) (hf : isFn K (.ref f) = true) (hne : findIn K (.ref C) "__ne__" = some (some (.builtin "object.__ne__"))) (hob : subIn K (.ref C) (.type "object") = some true)
    (h : wpAny (model prog w) A.in1 (call (.ref f) [.ref x, b]) (fun v s' => ∃ r, v = .bool r ∧ Q (.bool (!r)) s') E s) : wpAny (model prog w) A (richCompare .NotEq (.ref x) b) Q E s := by
  have X := X₀.keeps F0.keep
  have one : wpAny (model prog w) A (tryCompare (.ref x) "__ne__" b) (fun r s' => ∃ v, r = some v ∧ Q v s') E s := by
    unfold tryCompare
    refine wpAny_bind (dl_ifBoundB X I hne F.cmp_object.ne (wpAny_call (codeAny_call_builtin F.cmp_object.ne.plain F.cmpEntry_ne (dl_checkNe (F.cmpArgs_ne _ _) X I hob
      (dl_objNe (A := A.in1) hu X I hs hf (wpAny_mono h (fun v s' hv => ?_) fun _ _ e => e))))))
    obtain ⟨r, rfl, hq⟩ := hv
    first | exact ⟨r, rfl, wpAny_pure ⟨_, rfl, hq⟩⟩ | exact ⟨r, rfl, wpAny_pure (wpAny_pure ⟨_, rfl, hq⟩)⟩
  unfold richCompare
  simp only [oneThing_ref]
  refine wpAny_holding (wpAny_bind (wpAny_cRoomFor (Nat.lt_of_succ_lt hu) ?_))
  rw [cmpInfo_NotEq]
  dsimp only
  refine wpAny_bind (I.type.here (wpAny_bind (hb.here ?_)))
  split
  · rename_i q
    have e : subIn K tb (.ref C) = some false := by
      rcases Bool.or_eq_true_iff.mp hn with e | e
      · rw [beq_iff_eq.mp e] at q; simp at q
      · exact beq_iff_eq.mp e
    refine wpAny_bind ((looks_subIn X e).here ?_)
    simp only [Bool.false_eq_true, if_false]
    refine wpAny_bind (wpAny_mono one (fun r s' z => ?_) fun _ _ e => e)
    obtain ⟨v, rfl, hq⟩ := z
    exact wpAny_pure hq
  · refine wpAny_bind (wpAny_pure ?_)
    simp only [Bool.false_eq_true, if_false]
    refine wpAny_bind (wpAny_mono one (fun r s' z => ?_) fun _ _ e => e)
    obtain ⟨v, rfl, hq⟩ := z
    exact wpAny_pure hq
end
end PySem.W
namespace DL
open PySem PySem.Spec L2
/-- what of an own class is asked for isinstance, == -/
structure CF (K : PySem.W.Frag) (C : Addr) : Prop where
  cl : Cls K C
  ha : PySem.W.findIn K (.ref C) "__class__" = some (some (.builtin "object.__class__"))
  hn : PySem.W.specialIn K (.builtin "object.__class__") "__get__" = some (some (.builtin "getset_descriptor.__get__"))
  ht : PySem.W.takesIn K (.builtin "object.__class__") = some true
  hm : PySem.W.mroIn K C (.type "object") = some true
noncomputable def D.tyv (ok : Addr → Bool) : D → Option Value
  | .non => some (.type "NoneType")
  | .bl _ => some (.type "bool")
  | .int _ => some (.type "int")
  | .str _ => some (.type "str")
  | .tup _ => some (.type "tuple")
  | .ktu _ => some (.type "tuple")
  | .lst _ => some (.type "list")
  | .scr _ => some (.type "list")
  | .dic false _ _ => some (.type "dict")
  | .ins C _ _ => if ok C = true then some (.ref C) else none
  | _ => none
noncomputable def bltTys : List String := ["NoneType", "bool", "int", "str", "tuple", "list", "dict"]
theorem tyv_rep {K : PySem.W.Frag} {H : Hp} {ok : Addr → Bool} {v : V} {d : D} {t : Value} (hC : ∀ C, ok C = true → CF K C) (r : Rep K H v d) (h : d.tyv ok = some t) : TyX K H v t := by
  cases r with
  | non => cases h; exact .base .non
  | bl x => cases h; exact .base (.bl x)
  | int x => cases h; exact .base (.int x)
  | str x => cases h; exact .base (.str x)
  | ty x => cases h
  | cls x => cases h
  | tup s r => cases h; exact tyx_tup (.inl (.inl s))
  | ktu s r => cases h; exact tyx_tup s
  | lst s r => cases h; exact tyx_lst (.inl s)
  | scr s => cases h; exact tyx_lst s
  | dicK s r =>
    cases h
    rcases s with s | ⟨o, s⟩
    · exact .base (.dK s)
    · exact .fDict s
  | dicT s r => cases h
  | @ins a C dx fs _ s r =>
    have h : (if ok C = true then some (Value.ref C) else none) = some t := h
    split at h
    · rename_i hok
      cases h
      have c := hC C hok
      exact .base (.ins s c.cl c.ha c.hn c.ht c.hm)
    · cases h
  | exc _ _ _ _ => cases h
theorem tyv_of {ok : Addr → Bool} {d : D} {t : Value} (h : d.tyv ok = some t) : (∃ n ∈ bltTys, t = .type n) ∨ ∃ C, ok C = true ∧ t = .ref C ∧ d.isIns C = true := by
  cases d with
  | ins C ns vs =>
    have h : (if ok C = true then some (Value.ref C) else none) = some t := h
    split at h
    · rename_i hok
      cases h
      exact .inr ⟨C, hok, rfl, by show (C == C) = true; simp⟩
    · cases h
  | ty _ => cases h
  | cls _ => cases h
  | exc _ _ _ => cases h
  | dic tk ks vs =>
    cases tk with
    | false => cases h; exact .inl ⟨_, by decide, rfl⟩
    | true => cases h
  | _ => cases h; exact .inl ⟨_, by decide, rfl⟩
structure IsF (K : PySem.W.Frag) (ok : Addr → Bool) (C : Addr) : Prop where
  b : ∀ n ∈ bltTys, PySem.W.kitOne K (.type n) (.ref C) = some false
  o : ∀ C', ok C' = true → PySem.W.kitOne K (.ref C') (.ref C) = some (C' == C)
noncomputable def dIsO (ok : Addr → Bool) (C : Addr) : List D → Option D
  | [d, .cls C'] => if C' = C then (d.tyv ok).map fun _ => .bl (d.isIns C) else none
  | _ => none
theorem f_isO {K : PySem.W.Frag} {ok : Addr → Bool} {C : Addr} (hC : ∀ C, ok C = true → CF K C) (f : IsF K ok C) : CallS K (rIsi K) (dIsO ok C) := by
  intro H xs ds c r h
  unfold dIsO at h
  split at h
  · rename_i d C'
    obtain ⟨v, v', rfl, r1, r2⟩ := reps2 r
    cases r2
    split at h
    · rename_i hC'
      subst hC'
      obtain ⟨t, e, h⟩ := Option.map_eq_some_iff.mp h
      subst h
      refine ⟨_, rfl, fun Q q => ⟨v, _, t, _, _, rfl, .own _, tyv_rep hC r1 e, ?_, q⟩⟩
      rcases tyv_of e with ⟨n, hn, rfl⟩ | ⟨C2, hok, rfl, hi⟩
      · have : d.isIns C' = false := by
          cases d with
          | ins C3 _ _ =>
            have e : (if ok C3 = true then some (Value.ref C3) else none) = some (.type n) := e
            split at e <;> cases e
          | _ => rfl
        rw [this]
        exact f.b n hn
      · cases d with
        | ins C3 _ _ =>
          have hi : (C3 == C2) = true := hi
          have hi := beq_iff_eq.mp hi
          subst hi
          exact f.o _ hok
        | _ => cases hi
    · cases h
  · cases h
structure EqF (K : PySem.W.Frag) (ok : Addr → Bool) (C g : Addr) : Prop where
  at_ : PySem.W.findIn K (.ref C) "__eq__" = some (some (.ref g))
  fn : PySem.W.isFn K (.ref g) = true
  ne : PySem.W.findIn K (.ref C) "__ne__" = some (some (.builtin "object.__ne__"))
  ob : PySem.W.subIn K (.ref C) (.type "object") = some true
  b : ∀ n ∈ bltTys, PySem.W.notFirst K C (.type n) = true
  o : ∀ C', ok C' = true → PySem.W.notFirst K C (.ref C') = true
/-- a def that gives True or False for two values -/
noncomputable def rB2 (K : PySem.W.Frag) (C : Addr) (g : List OT → ER OT) (neg : Bool) : R2 := fun x y H Q => InsR C x H ∧ (∃ t, TyX K H y t ∧ PySem.W.notFirst K C t = true) ∧ spD K 2 g [x, y] H (fun v H' => ∃ r, v = .bl r ∧ Q (.bl (r != neg)) H') fun _ _ _ => False
noncomputable def mB2 (ok : Addr → Bool) (C : Addr) (g : List OT → ER OT) (neg : Bool) (a b : SD → ER D) : SD → ER D := fun sd => (a sd).bind fun x sd1 => (b sd1).bind fun y sd2 => if x.isIns C = true ∧ (y.tyv ok).isSome = true then (match g [.fz x, .fz y] with
  | .ok (.fz (.bl r)) _ => .ok (.bl (r != neg)) sd2
  | _ => .bad) else .bad
section
variable {X : Cx} {pv : List V} {W : WX} {p q k l : Bool} {e a b : Expr} {es : List Expr} {pos : Pos}
theorem op_eqO {ok : Addr → Bool} {C g : Addr} {fd : FuncData} {ps : List Str} {j : Nat} {gm : List OT → ER OT} (h : EqF X.K ok C g) (F : FnG X.prog X.w X.K X.mg X.base (L2.CX X.prog X.w) j g fd ps (spD X.K 2 gm)) (hr : RoomG j X.A) (hb : Binds X.K fd ps []) : OpR X (compareOp .Eq) (rB2 X.K C gm false) := by
  intro pins s σ H x y v u Q I rx ry ⟨⟨xa, dx, fs, ex, eh⟩, ⟨t, ty, hn⟩, q⟩
  subst ex
  cases (show v = Value.ref xa from rx)
  obtain ⟨ox, od, J⟩ := ins_at I eh
  obtain ⟨m, hF⟩ := I.fr
  obtain ⟨P, Z, hp, _⟩ := kit_of I ry ty
  refine PySem.W.cmp_ofEq (PySem.W.cmp_K (op := .Eq) (tb := t) hr.units0 hF I.ok.mod.kin J (Z.ty _ _ I.kIn hp) hn h.at_ h.fn ?_)
  refine wpAny_mono (run_0 (us := [.ref xa, u]) (vs := [.ref xa, y]) F hr hb I (.cons rfl (.cons ry .nil)) q) (fun w s' z => ?_) fun _ _ x => x
  obtain ⟨z', H', I', rz, r, ez, qz⟩ := z
  subst ez
  refine SlX.cmpback rz ⟨.bl r, H', I', rz, ?_⟩
  have e : (r != false) = r := by cases r <;> rfl
  rw [e] at qz
  exact qz
theorem op_neO {ok : Addr → Bool} {C g : Addr} {fd : FuncData} {ps : List Str} {j : Nat} {gm : List OT → ER OT} (h : EqF X.K ok C g) (F : FnG X.prog X.w X.K X.mg X.base (L2.CX X.prog X.w) j g fd ps (spD X.K 2 gm)) (hr : RoomG (j + 1) X.A) (hb : Binds X.K fd ps []) : OpR X (compareOp .NotEq) (rB2 X.K C gm true) := by
  intro pins s σ H x y v u Q I rx ry ⟨⟨xa, dx, fs, ex, eh⟩, ⟨t, ty, hn⟩, q⟩
  subst ex
  cases (show v = Value.ref xa from rx)
  obtain ⟨ox, od, J⟩ := ins_at I eh
  obtain ⟨m, hF⟩ := I.fr
  obtain ⟨P, Z, hp, _⟩ := kit_of I ry ty
  refine PySem.W.cmp_ofNotEq (PySem.W.dl_ne (tb := t) (by have := hr.un; omega) hF I.ok.mod.kin J (Z.ty _ _ I.kIn hp) hn h.at_ h.fn h.ne h.ob ?_)
  refine wpAny_mono (run_1 (us := [.ref xa, u]) (vs := [.ref xa, y]) F hr hb I (.cons rfl (.cons ry .nil)) q) (fun w s' z => ?_) fun _ _ x => x
  obtain ⟨z', H', I', rz, r, ez, qz⟩ := z
  subst ez
  cases (show w = Value.bool r from rz)
  refine ⟨r, rfl, .bl (!r), H', I', rfl, ?_⟩
  have e : (r != true) = !r := by cases r <;> rfl
  rw [e] at qz
  exact qz
theorem tr_b2 {ok : Addr → Bool} {C g : Addr} {gm : List OT → ER OT} {neg : Bool} {ta tb : TE} {ma mb : SD → ER D} (hC : ∀ C, ok C = true → CF X.K C) (h : EqF X.K ok C g) (ha : TrX X.K pv W p true ta ma) (hb : TrX X.K pv W q true tb mb) : TrX X.K pv W (p && q) true (tOp (rB2 X.K C gm neg) ta tb) (mB2 ok C gm neg ma mb) := by
  intro G F sd σ H Q s
  refine Meets.bind (ha G F sd σ H _ s) fun x F1 H1 dx sd1 s1 s2 s3 s4 => ?_
  refine Meets.bindL (hb G F1 sd1 σ H1 _ s2) fun y F2 H2 dy sd2 t1 t2 t3 t4 => ?_
  have s3 : Rep X.K F2 x dx := (show Rep X.K F1 x dx from s3).mono t1
  have t3 : Rep X.K F2 y dy := t3
  split
  · rename_i hc
    have z := meets_callQ (pv := pv) (W := W) (K := X.K) (f := gm) (Q := fun v H' => ∃ r, v = .bl r ∧ Q (.bl (r != neg)) H') t2 (.cons s3 (.one t3)) rfl
    unfold callFzQ at z
    have e0 : ([dx, dy] : List D).map OT.fz = [.fz dx, .fz dy] := rfl
    rw [e0] at z
    revert z
    cases e : gm [.fz dx, .fz dy] with
    | bad => exact fun _ => True.intro
    | rz _ _ => exact fun _ => True.intro
    | ok t s' =>
      cases t with
      | fz d =>
        cases d with
        | bl r =>
          intro z hQ
          obtain ⟨tt, et⟩ := Option.isSome_iff_exists.mp hc.2
          refine ⟨isIns_rep t2.fh s3 hc.1, ⟨tt, tyv_rep hC (t3.mono t2.fh) et, ?_⟩, z fun v F' H' s1 s2 s3 s4 => ?_⟩
          · rcases tyv_of et with ⟨n, hn, rfl⟩ | ⟨C2, hok, rfl, _⟩
            · exact h.b n hn
            · exact h.o _ hok
          · obtain ⟨o, P, w, rr, _⟩ := (show StR1 X.K pv G F' sd2 σ H' v (.fz (.bl r)) from s3)
            unfold RepO at rr
            cases rr
            exact ⟨r, rfl, hQ (.bl (r != neg)) F' H' s1 s2 (.bl _) s4⟩
        | _ => exact fun _ => True.intro
      | _ => exact fun _ => True.intro
  · exact True.intro
theorem dx_eqO {ok : Addr → Bool} {C g : Addr} {fd : FuncData} {ps : List Str} {j : Nat} {gm : List OT → ER OT} {ma mb : SD → ER D} (hC : ∀ C, ok C = true → CF X.K C) (h : EqF X.K ok C g) (F : FnG X.prog X.w X.K X.mg X.base (L2.CX X.prog X.w) j g fd ps (spD X.K 2 gm)) (hr : RoomG j X.A) (hb : Binds X.K fd ps [])
    (h1 : DX X pv W p true a ma) (h2 : DX X pv W q true b mb) : DX X pv W (p && q) true (.Compare a [.Eq] [b] pos) (mB2 ok C gm false ma mb) := by
  obtain ⟨ta, a1, a2⟩ := h1
  obtain ⟨tb, b1, b2⟩ := h2
  exact ⟨_, pe_cmpR (op_eqO h F hr hb) a1 b1 (nomark _), tr_b2 hC h a2 b2⟩
theorem dt_eqO {ok : Addr → Bool} {C g : Addr} {fd : FuncData} {ps : List Str} {j : Nat} {gm : List OT → ER OT} {ma mb : SD → ER D} (hC : ∀ C, ok C = true → CF X.K C) (h : EqF X.K ok C g) (F : FnG X.prog X.w X.K X.mg X.base (L2.CX X.prog X.w) j g fd ps (spD X.K 2 gm)) (hr : RoomG j X.A) (hb : Binds X.K fd ps [])
    (h1 : DX X pv W p true a ma) (h2 : DX X pv W q true b mb) : DT X pv W (p && q) (.Compare a [.Eq] [b] pos) (mTest (mB2 ok C gm false ma mb)) := by
  obtain ⟨ta, a1, a2⟩ := h1
  obtain ⟨tb, b1, b2⟩ := h2
  exact ⟨_, pt_cmpR (op_eqO h F hr hb) a1 b1 (nomark _), tr_test (tr_b2 hC h a2 b2)⟩
theorem dx_neO {ok : Addr → Bool} {C g : Addr} {fd : FuncData} {ps : List Str} {j : Nat} {gm : List OT → ER OT} {ma mb : SD → ER D} (hC : ∀ C, ok C = true → CF X.K C) (h : EqF X.K ok C g) (F : FnG X.prog X.w X.K X.mg X.base (L2.CX X.prog X.w) j g fd ps (spD X.K 2 gm)) (hr : RoomG (j + 1) X.A) (hb : Binds X.K fd ps [])
    (h1 : DX X pv W p true a ma) (h2 : DX X pv W q true b mb) : DX X pv W (p && q) true (.Compare a [.NotEq] [b] pos) (mB2 ok C gm true ma mb) := by
  obtain ⟨ta, a1, a2⟩ := h1
  obtain ⟨tb, b1, b2⟩ := h2
  exact ⟨_, pe_cmpR (op_neO h F hr hb) a1 b1 (nomark _), tr_b2 hC h a2 b2⟩
theorem dt_neO {ok : Addr → Bool} {C g : Addr} {fd : FuncData} {ps : List Str} {j : Nat} {gm : List OT → ER OT} {ma mb : SD → ER D} (hC : ∀ C, ok C = true → CF X.K C) (h : EqF X.K ok C g) (F : FnG X.prog X.w X.K X.mg X.base (L2.CX X.prog X.w) j g fd ps (spD X.K 2 gm)) (hr : RoomG (j + 1) X.A) (hb : Binds X.K fd ps [])
    (h1 : DX X pv W p true a ma) (h2 : DX X pv W q true b mb) : DT X pv W (p && q) (.Compare a [.NotEq] [b] pos) (mTest (mB2 ok C gm true ma mb)) := by
  obtain ⟨ta, a1, a2⟩ := h1
  obtain ⟨tb, b1, b2⟩ := h2
  exact ⟨_, pt_cmpR (op_neO h F hr hb) a1 b1 (nomark _), tr_test (tr_b2 hC h a2 b2)⟩
end
end DL
namespace DL
open PySem PySem.Spec L2
/-- x in o, o an instance of C -/
noncomputable def rIn2 (K : PySem.W.Frag) (C : Addr) (g : List OT → ER OT) (neg : Bool) : R2 := fun x y H Q => InsR C y H ∧ spD K 2 g [y, x] H (fun v H' => ∃ r, v = .bl r ∧ Q (.bl (r != neg)) H') fun _ _ _ => False
noncomputable def mIn2 (C : Addr) (g : List OT → ER OT) (neg : Bool) (a b : SD → ER D) : SD → ER D := fun sd => (a sd).bind fun x sd1 => (b sd1).bind fun y sd2 => if y.isIns C = true then (match g [.fz y, .fz x] with
  | .ok (.fz (.bl r)) _ => .ok (.bl (r != neg)) sd2
  | _ => .bad) else .bad
section
variable {X : Cx} {pv : List V} {W : WX} {p q k l : Bool} {e a b : Expr} {es : List Expr} {pos : Pos}
/-- a def that gives True or False -/
theorem meets_bool {K : PySem.W.Frag} {G F H : Hp} {σ : L2.St} {sd : SD} {gm : List OT → ER OT} {x y : V} {dx dy : D} {neg : Bool} {Q : VK} (s : StR K pv G F sd σ H) (r1 : Rep K F x dx) (r2 : Rep K F y dy) : Meets K pv W G σ (RSx K true) true sd F H (match gm [.fz dx, .fz dy] with
    | .ok (.fz (.bl r)) _ => .ok (.bl (r != neg)) sd
    | _ => .bad) Q (spD K 2 gm [x, y] H (fun v H' => ∃ r, v = .bl r ∧ Q (.bl (r != neg)) H') fun _ _ _ => False) := by
  have z := meets_callQ (pv := pv) (W := W) (K := K) (f := gm) (Q := fun v H' => ∃ r, v = .bl r ∧ Q (.bl (r != neg)) H') s (.cons r1 (.one r2)) rfl
  unfold callFzQ at z
  have e0 : ([dx, dy] : List D).map OT.fz = [.fz dx, .fz dy] := rfl
  rw [e0] at z
  revert z
  cases e : gm [.fz dx, .fz dy] with
  | bad => exact fun _ => True.intro
  | rz _ _ => exact fun _ => True.intro
  | ok t s' =>
    cases t with
    | fz d =>
      cases d with
      | bl r =>
        intro z hQ
        refine z fun v F' H' s1 s2 s3 s4 => ?_
        obtain ⟨o, P, w, rr, _⟩ := (show StR1 K pv G F' sd σ H' v (.fz (.bl r)) from s3)
        unfold RepO at rr
        cases rr
        exact ⟨r, rfl, hQ (.bl (r != neg)) F' H' s1 s2 (.bl _) s4⟩
      | _ => exact fun _ => True.intro
    | _ => exact fun _ => True.intro
theorem op_inO {C g : Addr} {fd : FuncData} {ps : List Str} {j : Nat} {gm : List OT → ER OT} (at_ : PySem.W.findIn X.K (.ref C) "__contains__" = some (some (.ref g))) (fn : PySem.W.isFn X.K (.ref g) = true) (F : FnG X.prog X.w X.K X.mg X.base (L2.CX X.prog X.w) j g fd ps (spD X.K 2 gm)) (hr : RoomG j X.A) (hb : Binds X.K fd ps []) :
    OpR X (compareOp .In) (rIn2 X.K C gm false) := by
  intro pins s σ H x y v u Q I rx ry ⟨⟨ya, dy, fs, ey, eh⟩, q⟩
  subst ey
  cases (show u = Value.ref ya from ry)
  obtain ⟨ox, od, J⟩ := ins_at I eh
  obtain ⟨m, hF⟩ := I.fr
  refine PySem.W.in_K hF I.ok.mod.kin J at_ fn ?_
  refine wpAny_mono (run_0 (us := [.ref ya, v]) (vs := [.ref ya, x]) F hr hb I (.cons rfl (.cons rx .nil)) q) (fun w s' z => ?_) fun _ _ x => x
  obtain ⟨z', H', I', rz, r, ez, qz⟩ := z
  subst ez
  cases (show w = Value.bool r from rz)
  refine wpAny_truthy_bool ⟨.bl r, H', I', rfl, ?_⟩
  have e : (r != false) = r := by cases r <;> rfl
  rw [e] at qz
  exact qz
theorem tr_in2 {C : Addr} {gm : List OT → ER OT} {neg : Bool} {ta tb : TE} {ma mb : SD → ER D} (ha : TrX X.K pv W p true ta ma) (hb : TrX X.K pv W q true tb mb) : TrX X.K pv W (p && q) true (tOp (rIn2 X.K C gm neg) ta tb) (mIn2 C gm neg ma mb) := by
  intro G F sd σ H Q s
  refine Meets.bind (ha G F sd σ H _ s) fun x F1 H1 dx sd1 s1 s2 s3 s4 => ?_
  refine Meets.bindL (hb G F1 sd1 σ H1 _ s2) fun y F2 H2 dy sd2 t1 t2 t3 t4 => ?_
  have s3 : Rep X.K F2 x dx := (show Rep X.K F1 x dx from s3).mono t1
  have t3 : Rep X.K F2 y dy := t3
  split
  · rename_i hc
    exact Meets.to (meets_bool t2 t3 s3) fun z => ⟨isIns_rep t2.fh t3 hc, z⟩
  · exact True.intro
theorem dx_inO {C g : Addr} {fd : FuncData} {ps : List Str} {j : Nat} {gm : List OT → ER OT} {ma mb : SD → ER D} (at_ : PySem.W.findIn X.K (.ref C) "__contains__" = some (some (.ref g))) (fn : PySem.W.isFn X.K (.ref g) = true) (F : FnG X.prog X.w X.K X.mg X.base (L2.CX X.prog X.w) j g fd ps (spD X.K 2 gm)) (hr : RoomG j X.A) (hb : Binds X.K fd ps [])
    (h1 : DX X pv W p true a ma) (h2 : DX X pv W q true b mb) (hm : behindInMarks .In b = false := by rfl) : DX X pv W (p && q) true (.Compare a [.In] [b] pos) (mIn2 C gm false ma mb) := by
  obtain ⟨ta, a1, a2⟩ := h1
  obtain ⟨tb, b1, b2⟩ := h2
  exact ⟨_, pe_cmpR (op_inO at_ fn F hr hb) a1 b1 hm, tr_in2 a2 b2⟩
noncomputable def rLenO (K : PySem.W.Frag) (C : Addr) (g : List OT → ER OT) : List V → Hp → VK → Prop := fun xs H Q => ∃ x, xs = [x] ∧ InsR C x H ∧ spD K 1 g [x] H (fun v H' => ∃ n : Int, v = .int n ∧ 0 ≤ n ∧ n < 2 ^ 63 ∧ Q (.int n) H') fun _ _ _ => False
theorem call_lenO {C g : Addr} {fd : FuncData} {ps : List Str} {j : Nat} {gm : List OT → ER OT} (at_ : PySem.W.findIn X.K (.ref C) "__len__" = some (some (.ref g))) (fn : PySem.W.isFn X.K (.ref g) = true) (F : FnG X.prog X.w X.K X.mg X.base (L2.CX X.prog X.w) j g fd ps (spD X.K 1 gm)) (hr : RoomG (j + 1) X.A) (hb : Binds X.K fd ps []) :
    CallR X (.builtin "len") (rLenO X.K C gm) := by
  intro pins s σ H xs us Q I rv ⟨x, exs, ⟨xa, dx, fs, ex, eh⟩, q⟩
  subst exs
  subst ex
  obtain ⟨u, rfl, ru⟩ := rv.one
  cases (show u = Value.ref xa from ru)
  obtain ⟨ox, od, J⟩ := ins_at I eh
  obtain ⟨m, hF⟩ := I.fr
  refine PySem.W.len_K hF I.ok.mod.kin J at_ fn ?_
  refine wpAny_mono (run_1 (us := [.ref xa]) (vs := [.ref xa]) F hr hb I (.cons rfl .nil) q) (fun w s' z => ?_) fun _ _ x => x
  obtain ⟨z', H', I', rz, n, ez, h0, h1, qz⟩ := z
  subst ez
  obtain ⟨t, rfl⟩ := (show ∃ t, w = Value.int n t from rz)
  exact ⟨⟨h0, h1⟩, .int n, H', I'.tok _, ⟨_, rfl⟩, qz⟩
noncomputable def mLenO (C : Addr) (g : List OT → ER OT) (a : SD → ER (List D)) : SD → ER D := fun sd => (a sd).bind fun xs sd1 => match xs with
  | [x] => if x.isIns C = true then (match g [.fz x] with
    | .ok (.fz (.int n)) _ => if 0 ≤ n ∧ n < 2 ^ 63 then .ok (.int n) sd1 else .bad
    | _ => .bad) else .bad
  | _ => .bad
theorem dx_lenO {C g : Addr} {fd : FuncData} {ps : List Str} {j : Nat} {gm : List OT → ER OT} {pp : Pos} {m : SD → ER (List D)} (at_ : PySem.W.findIn X.K (.ref C) "__len__" = some (some (.ref g))) (fn : PySem.W.isFn X.K (.ref g) = true) (F : FnG X.prog X.w X.K X.mg X.base (L2.CX X.prog X.w) j g fd ps (spD X.K 1 gm)) (hr : RoomG (j + 1) X.A) (hb : Binds X.K fd ps [])
    (hg : Gl X "len") (hm : X.mg "len" = none) (ha : DA X pv W p true (e :: es) m)
    (he : starEach (e :: es) X.env = (false, eval e X.env) :: starEach es X.env := by rfl) (hpl : (backTo pos (starEach es X.env)).any (·.1) = false := by rfl) : DX X pv W p true (.Call (.Name "len" pp) (e :: es) [] pos) (mLenO C gm m) := by
  obtain ⟨ta, a1, a2⟩ := ha
  refine ⟨_, pe_callB (call_lenO at_ fn F hr hb) hg hm bo_len a1 (by decide) (by decide) he hpl, fun G Fz sd σ H Q s => ?_⟩
  refine Meets.bindL (a2 G Fz sd σ H _ s) fun xs F1 H1 ds sd1 s1 s2 s3 s4 => ?_
  have s3 : Reps X.K F1 xs ds := s3
  split
  · rename_i x _
    obtain ⟨v, rfl, r1⟩ := reps1 s3
    split
    · rename_i hc
      have z := meets_callQ (pv := pv) (W := W) (K := X.K) (f := gm) (Q := fun v H' => ∃ n : Int, v = .int n ∧ 0 ≤ n ∧ n < 2 ^ 63 ∧ Q (.int n) H') s2 (.one r1) rfl
      unfold callFzQ at z
      have e0 : ([x] : List D).map OT.fz = [.fz x] := rfl
      rw [e0] at z
      revert z
      cases e : gm [.fz x] with
      | bad => exact fun _ => True.intro
      | rz _ _ => exact fun _ => True.intro
      | ok t s' =>
        cases t with
        | fz d =>
          cases d with
          | int n =>
            intro z
            show Meets X.K pv W G σ (RSx X.K true) true sd1 F1 H1 (if 0 ≤ n ∧ n < 2 ^ 63 then .ok (.int n) sd1 else .bad) Q _
            split
            · rename_i hn
              intro hQ
              refine ⟨v, rfl, isIns_rep s2.fh r1 hc, z fun w F' H' s1 s2 s3 s4 => ?_⟩
              obtain ⟨o, P, ww, rr, _⟩ := (show StR1 X.K pv G F' sd1 σ H' w (.fz (.int n)) from s3)
              unfold RepO at rr
              cases rr
              exact ⟨n, rfl, hn.1, hn.2, hQ (.int n) F' H' s1 s2 (.int _) s4⟩
            · exact True.intro
          | _ => exact fun _ => True.intro
        | _ => exact fun _ => True.intro
    · exact True.intro
  · exact True.intro
end
end DL
namespace DL
open PySem PySem.Spec L2
section
variable {X : Cx} {pins : List (Addr × Obj)} {σ : L2.St} {F H : Hp} {s : Shared}
mutual
theorem rep_reads (I : Inv X pins σ H s) (e : Same F H) : ∀ {v : V} {d : D} {p : PyData} {u : Value}, Rep X.K F v d → d.py = some p → RelV v u → ∃ as, Reads s.heap u p as
  | _, _, p, u, .non, h, r => by
    rw [D.py] at h; cases h
    cases (show u = Value.none from r)
    exact ⟨_, .none⟩
  | _, _, p, u, .bl b, h, r => by
    rw [D.py] at h; cases h
    cases (show u = Value.bool b from r)
    exact ⟨_, .bool b⟩
  | _, _, p, u, .int i, h, r => by
    rw [D.py] at h; cases h
    obtain ⟨t, rfl⟩ := (show ∃ t, u = Value.int i t from r)
    exact ⟨_, .int i t⟩
  | _, _, p, u, .str x, h, r => by
    rw [D.py] at h; cases h
    obtain ⟨t, rfl⟩ := (show ∃ t, u = Value.str x t from r)
    exact ⟨_, .str x t⟩
  | _, _, p, u, .ty n, h, r => by simp [D.py] at h
  | _, _, p, u, .cls C, h, r => by simp [D.py] at h
  | _, _, p, u, .tup (a := a) (ds := ds) q rr, h, r => by
    rw [D.py] at h
    cases (show u = Value.ref a from r)
    cases e1 : D.pys ds with
    | none => rw [e1] at h; cases h
    | some ps =>
      rw [e1] at h; cases h
      obtain ⟨its, rv, ⟨o, ho, hc, n, hd⟩, hz⟩ := I.tuple (.inl (.inl (e _ _ q)))
      obtain ⟨as, ra⟩ := reps_reads I e rr e1 rv
      exact ⟨_, .tuple ho hc hd ra⟩
  | _, _, p, u, .ktu (a := a) (ds := ds) q rr, h, r => by
    rw [D.py] at h
    cases (show u = Value.ref a from r)
    cases e1 : D.pys ds with
    | none => rw [e1] at h; cases h
    | some ps =>
      rw [e1] at h; cases h
      obtain ⟨its, rv, ⟨o, ho, hc, n, hd⟩, hz⟩ := I.tuple (Same.sqt e q)
      obtain ⟨as, ra⟩ := reps_reads I e rr e1 rv
      exact ⟨_, .tuple ho hc hd ra⟩
  | _, _, p, u, .lst (a := a) (ds := ds) q rr, h, r => by
    rw [D.py] at h
    cases (show u = Value.ref a from r)
    cases e1 : D.pys ds with
    | none => rw [e1] at h; cases h
    | some ps =>
      rw [e1] at h; cases h
      obtain ⟨z, its, n, rv, hl, ho⟩ := rd_list I (Same.rd e q)
      obtain ⟨as, ra⟩ := reps_reads I e rr e1 rv
      exact ⟨_, .list ho rfl rfl ra⟩
  | _, _, p, u, .scr q, h, r => by simp [D.py] at h
  | _, _, p, u, .dicK q rr, h, r => by simp [D.py] at h
  | _, _, p, u, .dicT q rr, h, r => by simp [D.py] at h
  | _, _, p, u, .ins q rr, h, r => by simp [D.py] at h
  | _, _, p, u, .exc _ _ _ _, h, r => by simp [D.py] at h
theorem reps_reads (I : Inv X pins σ H s) (e : Same F H) : ∀ {vs : List V} {ds : List D} {ps : List PyData} {us : List Value}, Reps X.K F vs ds → D.pys ds = some ps → Vals vs us → ∃ as, ReadsAll s.heap us ps as
  | _, _, ps, us, .nil, h, r => by
    rw [D.pys] at h; cases h
    cases r
    exact ⟨_, .nil⟩
  | _, _, ps, us, .cons (d := d) (ds := ds) r1 r2, h, r => by
    rw [D.pys] at h
    cases r with
    | cons q1 q2 =>
      cases e1 : d.py with
      | none => rw [e1] at h; cases h
      | some p =>
        rw [e1] at h
        cases e2 : D.pys ds with
        | none => rw [e2] at h; cases h
        | some qs =>
          rw [e2] at h; cases h
          obtain ⟨as, k1⟩ := rep_reads I e r1 e1 q1
          obtain ⟨bs, k2⟩ := reps_reads I e r2 e2 q2
          exact ⟨_, .cons k1 k2⟩
end
end
mutual
theorem py_plain : ∀ {d : D} {p : PyData}, d.py = some p → p.hasDict = false
  | .non, p, h => by rw [D.py] at h; cases h; rfl
  | .bl _, p, h => by rw [D.py] at h; cases h; rfl
  | .int _, p, h => by rw [D.py] at h; cases h; rfl
  | .str _, p, h => by rw [D.py] at h; cases h; rfl
  | .tup ds, p, h => by
    rw [D.py] at h
    obtain ⟨ps, e, h⟩ := Option.map_eq_some_iff.mp h
    subst h
    rw [PyData.hasDict]
    exact pys_plain e
  | .ktu ds, p, h => by
    rw [D.py] at h
    obtain ⟨ps, e, h⟩ := Option.map_eq_some_iff.mp h
    subst h
    rw [PyData.hasDict]
    exact pys_plain e
  | .lst ds, p, h => by
    rw [D.py] at h
    obtain ⟨ps, e, h⟩ := Option.map_eq_some_iff.mp h
    subst h
    rw [PyData.hasDict]
    exact pys_plain e
  | .ty _, p, h => by simp [D.py] at h
  | .cls _, p, h => by simp [D.py] at h
  | .scr _, p, h => by simp [D.py] at h
  | .dic _ _ _, p, h => by simp [D.py] at h
  | .ins _ _ _, p, h => by simp [D.py] at h
  | .exc _ _ _, p, h => by simp [D.py] at h
theorem pys_plain : ∀ {ds : List D} {ps : List PyData}, D.pys ds = some ps → PyData.hasDictAll ps = false
  | [], ps, h => by rw [D.pys] at h; cases h; rfl
  | d :: ds, ps, h => by
    rw [D.pys] at h
    obtain ⟨p, e1, h⟩ := Option.bind_eq_some_iff.mp h
    obtain ⟨qs, e2, h⟩ := Option.map_eq_some_iff.mp h
    subst h
    rw [PyData.hasDictAll, py_plain e1, pys_plain e2]
    rfl
end
noncomputable def dRepr : List D → Option D
  | [d] => d.py.bind fun p => if p.showable = true ∧ p.depth ≤ 40 ∧ p.shown.length ≤ 16777216 then some (.str p.shown) else none
  | _ => none
noncomputable def rRepr (K : PySem.W.Frag) : List V → Hp → VK → Prop := fun xs H Q => ∃ (v : V) (F : Hp) (d : D) (p : PyData), xs = [v] ∧ Same F H ∧ Rep K F v d ∧ d.py = some p ∧ p.showable = true ∧ p.depth ≤ 40 ∧ p.shown.length ≤ 16777216 ∧ Q (.str p.shown) H
theorem call_reprX {X : Cx} (g : X.A.guards = some []) (hu : X.A.units + 64 < cLine) : CallR X (.builtin "repr") (rRepr X.K) := by
  intro pins s σ H xs us Q I rv ⟨v, F, d, p, exs, e, r, hp, h1, h2, h3, q⟩
  subst exs
  obtain ⟨u, rfl, ru⟩ := rv.one
  have h3 : p.shown.length ≤ sizeLine := by rw [sizeLine_eq]; exact h3
  have fin : ∀ (h' : Heap) (t : Tok) (tk : Nat), (∀ b o, s.heap.get? b = some o → h'.get? b = some o) → EP X pins σ Q (.str p.shown t) { s with heap := h', toks := tk } := fun h' t tk k => ⟨.str p.shown, H, I.kept k, ⟨t, rfl⟩, q⟩
  obtain ⟨as, rd⟩ := rep_reads I e r hp ru
  cases u with
  | ref a => exact repr_of_reads' rd h1 (fun z => by rw [py_plain hp] at z; cases z) g (by omega) (fun _ _ x => x) (fun h' t tk k => fin h' t tk k) h3
  | none => cases rd; exact P.repr_of_none (fin s.heap _ _ fun _ _ x => x)
  | bool b => cases rd; exact P.repr_of_bool (fin s.heap _ _ fun _ _ x => x)
  | int i t =>
    cases rd
    have : i.natAbs.log2 < 1920 := by simpa [PyData.showable] using h1
    exact P.repr_of_int this (fin s.heap _ _ fun _ _ x => x)
  | str x t => cases rd; exact P.repr_of_str (fin s.heap _ _ fun _ _ x => x) h3
  | _ => cases rd
theorem f_repr {K : PySem.W.Frag} : CallS K (rRepr K) dRepr := by
  intro H xs ds c r h
  unfold dRepr at h
  split at h
  · rename_i d
    obtain ⟨v, rfl, r1⟩ := reps1 r
    obtain ⟨p, hp, h⟩ := Option.bind_eq_some_iff.mp h
    split at h
    · rename_i hc
      cases h
      exact ⟨_, rfl, fun Q q => ⟨v, H, d, p, rfl, Same.refl _, r1, hp, hc.1, hc.2.1, hc.2.2, q⟩⟩
    · cases h
  · cases h
end DL
namespace DL
open PySem PySem.Spec L2
/-- a method as it stands in its class -/
structure Fm (K : PySem.W.Frag) (x q : Str) (st : Stmt) (f : Addr) (fd : FuncData) (ps : List Str) : Prop where
  F : Fun K x q st f fd
  b : Binds K fd ps []
noncomputable def rInt1 : List V → Hp → VK → Prop := fun xs H Q => (∃ i, xs = [.int i] ∧ Q (.int i) H) ∨ ∃ k, xs = [.bl k] ∧ Q (.int (if k then 1 else 0)) H
theorem call_int1X {X : Cx} : CallR X (.type "int") rInt1 := call_int1
section
variable {X : Cx} {pv : List V} {W : WX} {p q r k l : Bool} {e a b c : Expr} {es : List Expr} {pos : Pos}
/-- an own class by its name -/
theorem dx_cls {x : Str} {C : Addr} {pp : Pos} (hg : Gl X x) (hm : X.mg x = some (.ref C)) (hd : (x == ("__debug__" : Str)) = false := by decide) : DX X pv W true true (.Name x pp) (mC (.cls C)) := dx_glob hg hm (v := .ref C) rfl (fun _ => .cls C) hd
end
theorem kit_sub {K : PySem.W.Frag} {C : Addr} {n : String} (h1 : PySem.W.isClsIn K C = true) (h2 : PySem.W.typeIn K (.ref C) = some (.type "type")) (h3 : PySem.W.subIn K (.type n) (.ref C) = some false) : PySem.W.kitOne K (.type n) (.ref C) = some false := by
  have e : (Value.type n == Value.ref C) = false := Bool.eq_false_iff.mpr fun q => by cases beq_iff_eq.mp q
  have h1 : (PySem.W.clsIn K C).isSome = true := h1
  unfold PySem.W.kitOne PySem.W.kitCls
  rw [e]
  simp [h1, h2, h3]
theorem kit_self {K : PySem.W.Frag} {C : Addr} : PySem.W.kitOne K (.ref C) (.ref C) = some true := by
  unfold PySem.W.kitOne
  rw [if_pos (by simp)]
end DL
namespace DL
open PySem PySem.Spec L2
mutual
noncomputable def szP : PyData → Nat
  | .none => 5
  | .bool _ => 5
  | .int _ => 1921
  | .str x => (reprText x).length
  | .list xs => szA xs + 4
  | .tuple xs => szA xs + 4
  | .dict kvs => (PyData.shown (.dict kvs)).length
noncomputable def szA : List PyData → Nat
  | [] => 0
  | x :: xs => szP x + 2 + szA xs
end
noncomputable def szT : List Str → Nat
  | [] => 0
  | t :: r => t.length + 2 + szT r
theorem textFrom_sz : ∀ (ts : List Str) (k : Nat) (acc : Str), (textFrom k acc ts).length ≤ acc.length + szT ts
  | [], k, acc => Nat.le_refl _
  | t :: r, k, acc => by
    have h := textFrom_sz r (k + 1) (acc ++ (if k > 0 then ", " else "" : String) ++ t)
    have e : (acc ++ (if k > 0 then ", " else "" : String) ++ t).length = acc.length + (if k > 0 then 2 else 0) + t.length := by
      rw [strLen_append, strLen_append]
      by_cases hk : k > 0
      · rw [if_pos hk, if_pos hk]; rfl
      · rw [if_neg hk, if_neg hk]; rfl
    rw [e] at h
    show (textFrom (k + 1) (acc ++ (if k > 0 then ", " else "" : String) ++ t) r).length ≤ _
    rw [szT]
    have : (if k > 0 then 2 else 0) ≤ 2 := by split <;> omega
    omega
theorem listText_sz (ts : List Str) : (listText ts).length ≤ szT ts + 2 := by
  unfold listText
  rw [strLen_append]
  have h := textFrom_sz ts 0 "["
  have e1 : (("[" : String) : Str).length = 1 := rfl
  have e2 : (("]" : String) : Str).length = 1 := rfl
  rw [e1] at h
  rw [e2]
  omega
theorem piled_sz : ∀ ts : List Str, piled ts ≤ szT ts
  | [] => by simp [piled]
  | t :: r => by
    have := piled_sz r
    rw [szT]
    simp [piled] at this ⊢
    omega
theorem tupleText_sz (ts : List Str) : (tupleText ts).length ≤ szT ts + 4 := by
  unfold tupleText
  rw [strLen_append, strLen_append]
  have e1 : (("(" : String) : Str).length = 1 := rfl
  have e2 : (((if ts.length == 1 then ",)" else ")" : String)) : Str).length ≤ 2 := by
    split
    · exact Nat.le_refl 2
    · exact Nat.le_succ 1
  rw [e1]
  cases ts with
  | nil =>
    have e3 : (Str.join ", " []).length = 0 := rfl
    omega
  | cons t r =>
    have h := join_length_add (t :: r) (by simp)
    have := piled_sz (t :: r)
    omega
mutual
theorem shown_sz : ∀ {d : PyData}, d.showable = true → d.shown.length ≤ szP d
  | .none, _ => by rw [PyData.shown, szP]; exact Nat.le_succ 4
  | .bool b, _ => by
    rw [PyData.shown, szP]
    cases b
    · exact Nat.le_refl 5
    · exact Nat.le_succ 4
  | .int i, h => by
    rw [PyData.showable] at h
    rw [PyData.shown, szP]
    exact PyProof.Rows.int_text_len_1921 (of_decide_eq_true h)
  | .str x, _ => by rw [PyData.shown, szP]; exact Nat.le_refl _
  | .list xs, h => by
    rw [PyData.showable] at h
    rw [PyData.shown, szP]
    have := listText_sz (PyData.shownAll xs)
    have := shownAll_sz h
    omega
  | .tuple xs, h => by
    rw [PyData.showable] at h
    rw [PyData.shown, szP]
    have := tupleText_sz (PyData.shownAll xs)
    have := shownAll_sz h
    omega
  | .dict kvs, _ => by rw [szP]; exact Nat.le_refl _
theorem shownAll_sz : ∀ {ds : List PyData}, PyData.showableAll ds = true → szT (PyData.shownAll ds) ≤ szA ds
  | [], _ => by rw [PyData.shownAll, szT, szA]; exact Nat.le_refl 0
  | d :: ds, h => by
    rw [PyData.showableAll] at h
    have h := (Bool.and_eq_true _ _).mp h
    have h1 := shown_sz h.1
    have h2 := shownAll_sz h.2
    rw [PyData.shownAll, szT, szA]
    omega
end
theorem dRepr_of {d : D} {p : PyData} (h : d.py = some p) (h1 : p.showable = true) (h2 : p.depth ≤ 40) (h3 : szP p ≤ 16777216) : dRepr [d] = some (.str p.shown) := by
  have := shown_sz h1
  show d.py.bind _ = _
  rw [h]
  show (if p.showable = true ∧ p.depth ≤ 40 ∧ p.shown.length ≤ 16777216 then some (D.str p.shown) else none) = _
  rw [if_pos ⟨h1, h2, by omega⟩]
noncomputable def tI (ns : List Int) : D := .tup (ns.map .int)
theorem pys_int : ∀ ns : List Int, D.pys (ns.map D.int) = some (ns.map PyData.int)
  | [] => rfl
  | n :: r => by rw [List.map_cons, D.pys, pys_int r]; rfl
theorem lay_int : ∀ ns : List Int, PyData.canLayAll0 (ns.map PyData.int) = true
  | [] => rfl
  | n :: r => by rw [List.map_cons, PyData.canLayAll0, lay_int r]; rfl
theorem dep_int : ∀ ns : List Int, PyData.depthAll (ns.map PyData.int) = 0
  | [] => rfl
  | n :: r => by rw [List.map_cons, PyData.depthAll, dep_int r]; rfl
theorem eqv_int : ∀ ns ms : List Int, PyData.eqvAll (ns.map PyData.int) (ms.map PyData.int) = decide (ns = ms)
  | [], [] => by simp [PyData.eqvAll]
  | [], _ :: _ => by simp [PyData.eqvAll]
  | _ :: _, [] => by simp [PyData.eqvAll]
  | n :: ns, m :: ms => by
    rw [List.map_cons, List.map_cons, PyData.eqvAll, eqv_int ns ms, PyData.eqv]
    by_cases h : n = m <;> simp [h]
theorem tI_py (ns : List Int) : (tI ns).py = some (.tuple (ns.map PyData.int)) := by
  unfold tI
  rw [D.py, pys_int]
  rfl
theorem tI_shaped (ns : List Int) : SeqAt.shaped (.tuple (ns.map PyData.int)) = true := by
  have h1 : PyData.canLay0 (.tuple (ns.map PyData.int)) = true := lay_int ns
  have h2 : PyData.depth (.tuple (ns.map PyData.int)) = 1 := by rw [PyData.depth, dep_int]
  unfold SeqAt.shaped
  rw [h1, h2]
  rfl
theorem eq_tI (ns ms : List Int) : dEqB (tI ns) (tI ms) = some (decide (ns = ms)) := by
  have z : dEqB (tI ns) (tI ms) = match (tI ns).py, (tI ms).py with
    | some p, some q => if (SeqAt.shaped p && SeqAt.shaped q) = true then some (PyData.eqv p q) else none
    | _, _ => none := rfl
  rw [z, tI_py, tI_py]
  dsimp only
  rw [tI_shaped, tI_shaped]
  show some (PyData.eqvAll _ _) = _
  rw [eqv_int]
theorem eqB_int (i j : Int) : dEqB (.int i) (.int j) = some (decide (i = j)) := rfl
theorem eqB_str (i j : Str) : dEqB (.str i) (.str j) = some (decide (i = j)) := rfl
theorem eqB_bl (i j : Bool) : dEqB (.bl i) (.bl j) = some (decide (i = j)) := rfl
theorem eq_2 (a b c d : Int) : dEqB (.tup [.int a, .int b]) (.tup [.int c, .int d]) = some (decide (a = c) && decide (b = d)) := by
  have := eq_tI [a, b] [c, d]
  simpa [tI] using this
theorem eq_3 (a b c d e f : Int) : dEqB (.tup [.int a, .int b, .int c]) (.tup [.int d, .int e, .int f]) = some (decide (a = d) && (decide (b = e) && decide (c = f))) := by
  have := eq_tI [a, b, c] [d, e, f]
  simpa [tI] using this
end DL
namespace DL
open PySem PySem.Spec L2 PyProof.Rows
noncomputable abbrev bareSet (w : World) : Obj := { cls := .type "set", dict := none, data := .set #[] 0 (.fresh 0 0 (!w.params.followText "set-order")) }
end DL
namespace DL
open PySem PySem.Spec L2 PyProof.Rows
set_option maxHeartbeats 3200000
section
variable {P : Program} {w : World} {A : Around} {E : Value → Shared → Prop} {s : Shared}
set_option maxHeartbeats 3200000 in
/-- set(x), from what its __init__ does with the bare set -/
theorem set_call {x : Value} {Q : Value → Shared → Prop}
    (init : wpAny (model P w) A.in1.in1 (Builtin.«set.__init__» ⟨[.ref s.heap.objs.size, x], []⟩) (fun fin s' => fin = .done (.ret .none) ∧ Q (.ref s.heap.objs.size) s') E { s with heap := s.heap.push (bareSet w) }) :
    wpAny (model P w) A (call (.type "set") [x]) Q E s := by
  have C := F.called_set
  obtain ⟨b0, b1, mro⟩ := C.mro
  obtain ⟨k1, k2, k3, k4, k5⟩ : _ ∧ _ ∧ _ ∧ _ ∧ _ := ⟨C.made, C.sub, C.notType, C.canCreate, F.typeCall_set_1 x⟩
  refine codeAny_of_tree (wpAny_pure ⟨Code.quiet_builtin _ (by decide +kernel), codeAny_builtin F.entry_type_call ?_⟩) |> wpAny_call
  rw [Around.under_plain (weight_type_call_type "set" [x] []) rfl]
  have make := code_set_led1 (P := P) (w := w) (A := A.in1) (s := s) (E := E) (Q₁ := fun v s₁ => v = .ref s.heap.objs.size ∧ s₁ = { s with heap := s.heap.push (bareSet w) }) x ⟨rfl, rfl⟩
  repeat (any_goals (first | assumption | wp_step))
  refine codeAny_mono make fun r s₁ hr => ?_
  match r, hr with
  | .ok (.ret v), hr =>
    obtain ⟨ev, es⟩ := hr
    subst ev es
    have ty : Shared.TypeIs { s with heap := s.heap.push (bareSet w) } (.ref s.heap.objs.size) "set" := ⟨_, Heap.get?_push_size _ rfl, rfl⟩
    obtain ⟨i1, i2⟩ : _ ∧ _ := ⟨C.init.lookup, C.init.bind (.ref s.heap.objs.size)⟩
    repeat (any_goals (first | assumption | wp_step))
    refine codeAny_mono (codeAny_call_builtin (R := wants (fun z s₂ => z = .none ∧ Q (.ref s.heap.objs.size) s₂) E) C.init.plain F.entry_set_init (check_set_init_1 ty (wpAny_mono init (fun fin s' hf => ?_) fun _ _ e => e))) fun z s₂ hz => ?_
    · obtain ⟨rfl, hq⟩ := hf
      exact ⟨rfl, hq⟩
    · match z, hz with
      | .ok (.ret z), hz =>
        obtain ⟨rfl, hq⟩ := hz
        repeat (any_goals (first | assumption | wp_step))
      | .error e, hz => exact hz
  | .error e, hr => exact hr
end
end DL
set_option maxHeartbeats 3200000
namespace DL
open PySem PySem.Spec L2 PyProof.Rows
end DL
namespace DL
open PySem PySem.Spec L2 PyProof.Rows
/-- the different ones, in order -/
noncomputable def dd : List Int → List Int
  | [] => []
  | x :: r => if x ∈ dd r then dd r else x :: dd r
section
variable {K : PySem.W.Frag} {pv : List V} {G F H : Hp} {σ : L2.St} {sd : SD}
theorem StR.junk {p : Addr} {o : HO} (s : StR K pv G F sd σ H) (hp : H p = none) (nt : ∀ xs, o ≠ .tup xs := by intro _ z; cases z) : StR K pv G F sd σ (upd H p o) := by
  obtain ⟨ow, W⟩ := s
  exact ⟨ow, W.grow (Same.upd hp) (Same.refl _) (W.fh.trans (Same.upd hp)) (fun a ha => .inl ha) fun a xs e => .inl (nt_upd nt a xs e)⟩
end
end DL
namespace DL
open PySem PySem.Spec L2 PyProof.Rows
noncomputable def mBm (t : D → Bool) (f : D → List D → Option D) (a : SD → ER D) (b : SD → ER (List D)) : SD → ER D := fun sd => (a sd).bind fun d sd1 => if t d = true then (b sd1).bind fun ds sd2 => ER.opt (f d ds) sd2 else .bad
noncomputable def D.isL : D → Bool
  | .lst _ => true
  | _ => false
noncomputable def D.isS : D → Bool
  | .str _ => true
  | _ => false
end DL
namespace DL
open PySem PySem.Spec L2
noncomputable def mAtS (i : Nat) (b : SD → ER D) : SD → ER D := fun sd => match sd.tree i with
  | some _ => (b sd).bind fun y sd1 => match y with
    | .int k => ER.opt (((sd1.tree i).bind OT.items).bind fun ds => atI ds k) sd1
    | _ => .bad
  | none => .bad
end DL
namespace DL
open PySem PySem.Spec L2
theorem pick_rev {α : Type} (xs : List α) : pickL xs none none (some (-1)) = xs.reverse := by
  have e : sliceRange (sliceBounds none none (some (-1)) xs.length).1 (sliceBounds none none (some (-1)) xs.length).2.1 (sliceBounds none none (some (-1)) xs.length).2.2 = (List.range xs.length).map fun k => xs.length - 1 - k := by
    show (List.range (if (-1 : Int) > 0 then _ else (if ((xs.length : Int) - 1) > (-1 : Int) then ((xs.length : Int) - 1 - (-1) - (-1) - 1) / (-(-1)) else 0)).toNat).map (fun (k : Nat) => ((xs.length : Int) - 1 + (-1) * (k : Int)).toNat) = _
    rw [if_neg (by decide)]
    congr 1
    · funext k; omega
    · congr 1
      rw [show -(-1 : Int) = 1 from rfl, Int.ediv_one]
      split <;> omega
  unfold pickL
  rw [e]
  refine pick_eq xs _ _ _ (List.length_reverse) fun k hk => ?_
  rw [List.getElem?_reverse hk]
theorem cut_toN {α : Type} (xs : List α) (n : Nat) : cutL xs none (some (n : Int)) = xs.take n := by
  unfold cutL
  rw [show HT.sIx xs.length xs.length (some (n : Int)) = min n xs.length from HT.sIx_nat _ _ n, show HT.sIx xs.length 0 none = 0 from rfl]
  rw [List.drop_zero, Nat.sub_zero]
  by_cases h : n ≤ xs.length
  · rw [Nat.min_eq_left h]
  · rw [Nat.min_eq_right (by omega), List.take_of_length_le (Nat.le_refl _), List.take_of_length_le (by omega)]
theorem atI_of {α : Type} {xs : List α} {k : Nat} {v : α} (h : xs[k]? = some v) : atI xs (k : Int) = some v := by
  have hk := (List.getElem?_eq_some_iff.mp h).1
  unfold atI ixN
  rw [if_pos (by omega), if_pos (by omega)]
  exact h
theorem atI_in {α : Type} (xs : List α) {w : Int} (h0 : 0 ≤ w) (h1 : w < xs.length) : ∃ v ∈ xs, atI xs w = some v := by
  obtain ⟨k, rfl⟩ := Int.eq_ofNat_of_zero_le h0
  have hk : k < xs.length := by omega
  exact ⟨xs[k], List.getElem_mem _, atI_of (by simp [hk])⟩
theorem at_in {α : Type} (ds : List α) (f : α → D) {w : Int} (h0 : 0 ≤ w) (h1 : w < ds.length) : ∃ v ∈ ds, atI (ds.map f) w = some (f v) := by
  obtain ⟨v, hv, e⟩ := atI_in (ds.map f) h0 (by simpa using h1)
  obtain ⟨k, rfl⟩ := Int.eq_ofNat_of_zero_le h0
  have hk : k < ds.length := by omega
  exact ⟨ds[k], List.getElem_mem _, atI_of (by simp [hk])⟩
theorem log2_lt {n k : Nat} (h : n < 2 ^ k) : n.log2 < k + 1 := by
  by_cases e : n = 0
  · subst e; rw [Nat.log2_zero]; omega
  · have := (Nat.log2_lt e).mpr h; omega
end DL
namespace DL
open PySem PySem.Spec L2
noncomputable def ins {α : Type} (le : α → α → Bool) (a : α) : List α → List α
  | [] => [a]
  | b :: r => if le a b = true then a :: b :: r else b :: ins le a r
end DL
namespace DL
open PySem PySem.Spec L2
noncomputable def dInt2 : List D → Option D
  | [.int i] => some (.int i)
  | [.bl b] => some (.int (if b then 1 else 0))
  | [.str a] => if a.length ≤ 640 then (PySem.intText? a).map .int else none
  | _ => none
noncomputable def rInt2 : List V → Hp → VK → Prop := fun xs H Q => rInt1 xs H Q ∨ ∃ a n, xs = [.str a] ∧ PySem.intText? a = some n ∧ a.length ≤ 640 ∧ Q (.int n) H
theorem call_int2 {X : Cx} : CallR X (.type "int") rInt2 := call_int1X.or call_int_str
theorem f_int2 {K : PySem.W.Frag} : CallS K rInt2 dInt2 := by
  intro H xs ds c rs h
  unfold dInt2 at h
  split at h
  · cases h
    obtain ⟨v, rfl, r1⟩ := reps1 rs
    cases r1
    exact ⟨_, rfl, fun Q q => .inl (.inl ⟨_, rfl, q⟩)⟩
  · cases h
    obtain ⟨v, rfl, r1⟩ := reps1 rs
    cases r1
    exact ⟨_, rfl, fun Q q => .inl (.inr ⟨_, rfl, q⟩)⟩
  · split at h
    · rename_i a hl
      obtain ⟨n, e, h⟩ := Option.map_eq_some_iff.mp h
      subst h
      obtain ⟨v, rfl, r1⟩ := reps1 rs
      cases r1
      exact ⟨_, rfl, fun Q q => .inr ⟨a, n, rfl, e, hl, q⟩⟩
    · cases h
  · cases h
noncomputable def CallT (K : PySem.W.Frag) (r : List V → Hp → VK → Prop) (f : List D → Option (List D)) : Prop := ∀ F H xs ds cs, Same F H → Reps K F xs ds → f ds = some cs → ∀ Q : VK, (∀ p vs, H p = none → Reps K F vs cs → Q (.ref p) (upd H p (.tup vs))) → r xs H Q
noncomputable def mCallT (f : List D → Option (List D)) (a : SD → ER (List D)) : SD → ER D := fun sd => (a sd).bind fun xs sd1 => ER.opt ((f xs).map .tup) sd1
noncomputable def dTupOf : List D → Option (List D)
  | [.lst ds] => some ds
  | _ => none
noncomputable def rTupOf (K : PySem.W.Frag) : List V → Hp → VK → Prop := fun xs H Q => ∃ p ys, xs = [.ref p] ∧ ((SqL K H p ys ∧ ∀ l, H l = none → Q (.ref l) (upd H l (.tup ys))) ∨ (SqT K H p ys ∧ Q (.ref p) H))
theorem f_tupOf {K : PySem.W.Frag} : CallT K (rTupOf K) dTupOf := by
  intro F H xs ds cs hF rs h Q hQ
  unfold dTupOf at h
  split at h
  · cases h
    obtain ⟨v, rfl, r1⟩ := reps1 rs
    cases r1 with
    | lst s t => exact ⟨_, _, rfl, .inl ⟨.inl (Same.rd hF s), fun l hl => hQ l _ hl t⟩⟩
  · cases h
section
variable {X : Cx} {pv : List V} {W : WX} {p q k l : Bool} {tg o e a b : Expr} {es : List Expr} {apos cpos pos pp : Pos} {name : Str} {T id : String}
theorem tr_callT {r : List V → Hp → VK → Prop} {f : List D → Option (List D)} {ta : TA} {m : SD → ER (List D)} (hf : CallT X.K r f) (h : TrA X.K pv W p true ta m) : TrX X.K pv W p true (tCB r ta) (mCallT f m) := by
  intro G F sd σ H Q s
  refine Meets.bindL (h G F sd σ H _ s) fun xs F1 H1 ds sd1 s1 s2 s3 s4 => ?_
  cases e : f ds with
  | none => exact True.intro
  | some cs =>
    intro hQ
    refine hf F1 H1 xs ds cs s2.fh s3 e Q fun p vs hp hr => ?_
    exact hQ _ _ _ (s2.sameNew hp) (s2.new hp) (.tup upd_same (hr.mono (s2.sameNew hp))) fun _ => ⟨Same.upd hp, rfl⟩
theorem dx_callTyT {x : Str} {T : String} {pp : Pos} {r : List V → Hp → VK → Prop} {f : List D → Option (List D)} {m : SD → ER (List D)} (hc : CallR X (.type T) r) (hf : CallT X.K r f) (hg : Gl X x) (hm : X.mg x = none) (hv : bootBuiltins x = some (.type T)) (ha : DA X pv W p true (e :: es) m)
    (hn : x ≠ "__name__" := by decide) (hdb : (x == ("__debug__" : Str)) = false := by decide) (he : starEach (e :: es) X.env = (false, eval e X.env) :: starEach es X.env := by rfl) (hpl : (backTo pos (starEach es X.env)).any (·.1) = false := by rfl) :
    DX X pv W p true (.Call (.Name x pp) (e :: es) [] pos) (mCallT f m) := by
  obtain ⟨ta, a1, a2⟩ := ha
  exact ⟨_, pe_callTy hc hg hm hv a1 hn hdb he hpl, tr_callT hf a2⟩
end
theorem fn_bad {P : Program} {w : World} {K : PySem.W.Frag} {mg : Str → Option Value} {base : Heap} {k n : Nat} {f : Addr} {fd : FuncData} {ps : List Str} : FnG P w K mg base (L2.CX P w) k f fd ps (spD K n fun _ => .bad) where
  len := fun vs H Q E h => by
    obtain ⟨_, _, _, _, _, _, h⟩ := h
    exact h.elim
  run := fun A out s H args us vs Q E x e0 bd rel h => by
    obtain ⟨_, _, _, _, _, _, h⟩ := h
    exact h.elim
end DL
namespace DL
open PySem PySem.Spec L2
end DL
namespace DL
open PySem PySem.Spec L2
end DL
namespace DL
open PySem PySem.Spec L2
section
variable {K : PySem.W.Frag} {pv : List V} {G F H : Hp} {sd : SD} {σ : L2.St}
/-- a tree without a name is handed over, and lost -/
theorem StR1.giveN {v : V} {t : OT} (s : StR1 K pv G F sd σ H v t) : ∃ G', StR K [v] G' F ⟨[], [t]⟩ [] H ∧ (∀ (F' H' : Hp) (w : V) (u : OT) (sd' : SD), Same F F' → StR1 K [v] G' F' sd' [] H' w u → StR1 K pv G F' sd σ H' w u) ∧
    (∀ (F' H' : Hp) (sd' : SD), Same F F' → StR K [v] G' F' sd' [] H' → StR K pv G F' sd σ H') := by
  classical
  obtain ⟨o, P, W, r, k⟩ := s
  let G' : Hp := fun a => if F a = none ∧ ¬ P a then H a else none
  have g0 : ∀ a, F a = none → ¬ P a → G' a = H a := fun a x y => if_pos ⟨x, y⟩
  have gn : ∀ a, G' a = none → F a ≠ none ∨ P a ∨ H a = none := fun a z => by
    by_cases f : F a = none
    · by_cases q : P a
      · exact .inr (.inl q)
      · rw [g0 a f q] at z; exact .inr (.inr z)
    · exact .inl f
  have own : ∀ x a, o x a → G' a = H a ∧ H a ≠ none := fun x a q => by
    obtain ⟨k1, k2, k3⟩ := W.oh x a q
    exact ⟨g0 a k2 fun z => (k a z).2.2.2 x q, k1⟩
  have old : ∀ a u, G a = some u → G' a = some u := fun a u e => by
    have fa : F a = none := by
      cases e2 : F a with
      | none => rfl
      | some u2 => have := W.fg a (by rw [e2]; simp); rw [e] at this; cases this
    rw [g0 a fa fun z => by rw [(k a z).2.2.1] at e; cases e]
    exact W.gh a u e
  have back : ∀ (F' H' : Hp) (o' : Nat ⊕ Nat → Addr → Prop) (sd' : SD), Same F F' → Own K [v] G' F' sd' [] H' o' → Own K pv G F' sd σ H' o := fun F' H' o' sd' f W' => by
    have keep : ∀ x a, o x a → H' a = H a := fun x a q => by
      obtain ⟨k1, k2⟩ := own x a q
      cases e : H a with
      | none => exact absurd e k2
      | some u => exact W'.gh a u (by rw [k1]; exact e)
    refine ⟨W'.fh, fun a u e => W'.gh a u (old a u e), fun a ha => ?_, fun x a q => ?_, W.oo, W.len, fun i t' e => ?_, W.sp, fun j t' e => ?_, W'.tf⟩
    · cases e : G a with
      | none => rfl
      | some u =>
        have := W'.fg a ha
        rw [old a u e] at this
        cases this
    · obtain ⟨k1, k2⟩ := own x a q
      refine ⟨by rw [keep x a q]; exact k2, ?_, (W.oh x a q).2.2⟩
      cases e : F' a with
      | none => rfl
      | some u =>
        have := W'.fg a (by rw [e]; simp)
        rw [k1] at this
        exact absurd this k2
    · obtain ⟨w, k1, k2⟩ := W.sl i t' e
      exact ⟨w, k1, k2.mono f fun x hx => ⟨hx, keep _ x hx⟩⟩
    · obtain ⟨w, k1, k2⟩ := W.pr j t' e
      exact ⟨w, k1, k2.mono f fun x hx => ⟨hx, keep _ x hx⟩⟩
  refine ⟨G', ⟨fun x a => x = .inr 0 ∧ P a, W.fh, fun a u e => ?_, fun a ha => if_neg fun z => ha z.1, fun x a q => ⟨(k a q.2).1, (k a q.2).2.1, if_neg fun z => z.2 q.2⟩, fun x y a q q' => q.1.trans q'.1.symm, rfl, fun i t e => by simp at e, fun i j e => by simp at e, fun j t1 e => ?_, W.tf⟩, fun F' H' w u sd' f ⟨o', P', W', r', k'⟩ => ⟨o, P', back F' H' o' sd' f W', r', fun a z => ?_⟩, fun F' H' sd' f ⟨o', W'⟩ => ⟨o, back F' H' o' sd' f W'⟩⟩
  · have e : (if F a = none ∧ ¬ P a then H a else none) = some u := e
    split at e
    · exact e
    · cases e
  · cases j with
    | zero =>
      have e : t1 = t := by simpa using e.symm
      subst e
      exact ⟨v, rfl, r.mono (Same.refl _) fun x hx => ⟨⟨rfl, hx⟩, rfl⟩⟩
    | succ j => simp at e
  · obtain ⟨q1, q2, q3, q4⟩ := k' a z
    rcases gn a q3 with q | q | q
    · exact absurd (f.free q2) q
    · exact ⟨q1, q2, (k a q).2.2⟩
    · exact ⟨q1, q2, W.gh.free q, fun i y => (W.oh i a y).1 q⟩
end
end DL
namespace DL
open PySem PySem.Spec L2 PyProof.Rows
section
variable {X : Cx} {pins : List (Addr × Obj)} {σ : L2.St} {H : Hp} {s : Shared}
theorem inv_track {a : Addr} {o : HO} (I : Inv X pins σ H s) (hn : H a = none) (n0 : X.s_0.heap.get? a = none) (nL : a ≠ X.env.locals) (nC : ∀ x c, X.env.cells.lookup x = some c → c ≠ a)
    (nP : ∀ p ∈ X.pn ++ pins, p.1 ≠ a) (new : ObjOk X.prog X.w (upd H a o) s.heap a o) : Inv X pins σ (upd H a o) s := by
  have n1 : ∀ b ob, X.s_0.heap.get? b = some ob → b ≠ a := fun b ob e z => by rw [z, n0] at e; cases e
  refine ⟨I.ok, I.os, I.bare, ⟨I.base.keep, I.base.slot, fun b ob e n hx => ?_, I.base.there, fun b xs q => ?_, fun b ob y q => ?_, fun b qs q => ?_⟩, I.loc, I.cell, ?_, fun x c e => ?_, fun p hp => ?_, fun b u e => ?_, I.len⟩
  · rw [upd_ne (n1 b ob e)]; exact I.base.free b ob e n hx
  · have q2 := I.base.tups b xs q
    rw [upd_ne (ne_of_none q2 hn)]; exact q2
  · have q2 := I.base.frzs b ob y q
    rw [upd_ne (ne_of_none q2 hn)]; exact q2
  · obtain ⟨more, q2⟩ := I.base.tbls b qs q
    exact ⟨more, by rw [upd_ne (ne_of_none q2 hn)]; exact q2⟩
  · rw [upd_ne (Ne.symm nL)]; exact I.free
  · rw [upd_ne (nC x c e)]; exact I.freeC x c e
  · obtain ⟨h1, h2, h3⟩ := I.pin p hp
    exact ⟨h1, by rw [upd_ne (nP p hp)]; exact h2, h3⟩
  · by_cases hb : b = a
    · subst hb
      rw [upd_same] at e
      cases e
      exact new
    · rw [upd_ne hb] at e
      exact (I.hok b u e).stay (fun c v _ q => q) (fun c q => by rw [upd_ne (ne_of_none q hn)]; exact q) fun c xs q => by rw [upd_ne (ne_of_none q hn)]; exact q
theorem exT_ok {P : Program} {w : World} {H : Hp} {h : Heap} {a : Addr} {cls : Value} {d : Option Addr} {oe : Obj} {vs : Array Value} (e : h.get? a = some oe) (z : Zc cls d oe) (hd : oe.data = .fields vs) : ObjOk P w H h a (ExT cls d a) :=
  ⟨⟨oe, e, z, vs, hd⟩, ⟨oe, e⟩, fun _ _ ⟨o, q, r⟩ k => ⟨o, k o q, r⟩⟩
end
/-- an exception of the body, in the hands of the frame: sI, the state without it, is one of ours -/
structure Caught (X : Cx) (pins : List (Addr × Obj)) (B : Heap) (a : Addr) (cls : Value) (d : Option Addr) (σ : L2.St) (H : Hp) (z : Shared) : Prop where
  fly : HandSPX.FlyingZ B (X.env :: X.outer) a (Zc cls d) z.heap
  was : ∃ y : Shared, Inv X pins σ H y ∧ (∀ b o, y.heap.get? b = some o → b ∉ frs X.stack → B.get? b = some o) ∧ y.heap.UpToSlots z.heap ∧ z.os = y.os
  bare : AllBare z.gens
  new : H a = none
section
variable {X : Cx} {pins : List (Addr × Obj)} {B : Heap} {a : Addr} {cls : Value} {d : Option Addr} {σ : L2.St} {H : Hp} {z : Shared}
theorem Caught.inv (c : Caught X pins B a cls d σ H z) : Inv X pins σ H z :=
  let ⟨_, i, n, v, o⟩ := c.was
  i.landed n c.fly.1 v o c.bare
/-- no frame is an exception -/
theorem Caught.noframe (c : Caught X pins B a cls d σ H z) : a ∉ frs (X.env :: X.outer) := fun m => by
  obtain ⟨oe, vs, e1, _, e2⟩ := c.fly.there
  obtain ⟨_, o2, e3, n⟩ := c.fly.2.2.1.mem m
  exact n vs (by rw [e1] at e3; cases e3; exact e2)
/-- and from here on it is tracked -/
theorem Caught.kept (hs : X.stack = X.env :: X.outer) (hf : X.env.frame = some X.env.locals) (hex : X.ex = []) (c : Caught X pins B a cls d σ H z) : Inv X pins σ (upd H a (ExT cls d a)) z := by
  obtain ⟨y, i, n, v, o⟩ := c.was
  have nf := c.noframe
  have ny : y.heap.get? a = none := by
    cases e : y.heap.get? a with
    | none => rfl
    | some u => exact nomatch c.fly.2.1.symm.trans (n a u e (by rw [hs]; exact nf))
  have n0 : X.s_0.heap.get? a = none := by
    cases e : X.s_0.heap.get? a with
    | none => rfl
    | some u =>
      obtain ⟨w, ew⟩ := i.base.there a u e (by rw [hex]; exact fun q => nomatch q)
      exact nomatch ny.symm.trans ew
  obtain ⟨oe, vs, e1, e2, e3⟩ := c.fly.there
  refine inv_track c.inv c.new n0 (fun q => nf (List.mem_filterMap.mpr ⟨X.env, List.mem_cons_self, hf.trans (congrArg some q.symm)⟩)) (fun x k e q => ?_) (fun p m q => ?_) (exT_ok e1 e2 e3)
  · obtain ⟨_, u, eu, _⟩ := i.cell x k e
    rw [q] at eu
    exact nomatch ny.symm.trans eu
  · have eu := (i.pin p m).1
    rw [q] at eu
    exact nomatch ny.symm.trans eu
end
end DL
namespace DL
open PySem PySem.Spec L2 PyProof.Rows
section
variable {X : Cx} {pv : List V} {W : WX} {pos : Pos}
noncomputable def mDict0 : SD → ER D := fun sd => .ok (.dic false [] []) sd
theorem dx_dict0 : DX X pv W true true (.Dict [] [] pos) mDict0 := by
  refine ⟨_, pe_dnewK, fun G F sd σ H Q s => ?_⟩
  intro hQ
  intro p hp
  exact hQ _ _ _ (s.sameNew hp) (s.new hp) (Rep.dicK (kvs := []) (.inl upd_same) .nil) fun _ => ⟨Same.upd hp, rfl⟩
end
end DL
namespace DL
open PySem PySem.Spec L2 PyProof.Rows
end DL
namespace DL
open PySem PySem.Spec L2 PyProof.Rows
noncomputable def fzs : List OT → Option (List D)
  | [] => some []
  | .fz d :: ts => (fzs ts).map (d :: ·)
  | _ :: _ => none
theorem fzs_eq : ∀ {ts : List OT} {ds : List D}, fzs ts = some ds → ts = ds.map .fz
  | [], ds, h => by cases h; rfl
  | .fz d :: ts, ds, h => by
    obtain ⟨es, e, h⟩ := Option.map_eq_some_iff.mp (show (fzs ts).map (d :: ·) = some ds from h)
    subst h
    rw [List.map_cons, fzs_eq e]
  | .ol _ :: _, ds, h => by cases h
  | .od _ _ _ :: _, ds, h => by cases h
  | .oi _ _ _ :: _, ds, h => by cases h
theorem reps_some {K : PySem.W.Frag} {F : Hp} {vs : List V} {ds : List D} (r : Reps K F vs ds) : ∀ n : Nat, Reps K F (List.replicate n vs).flatten (List.replicate n ds).flatten
  | 0 => .nil
  | n + 1 => by
    rw [List.replicate_succ, List.replicate_succ, List.flatten_cons, List.flatten_cons]
    exact r.append (reps_some r n)
noncomputable def mRepC (a : SD → ER OT) (k : Int) : SD → ER OT := fun sd => (a sd).bind fun t sd1 => match t with
  | .ol ts => match fzs ts with
    | some ds => if 0 ≤ k ∧ k < 2 ^ 63 ∧ ds.length * k.toNat ≤ 16777216 then .ok (.ol ((List.replicate k.toNat ds).flatten.map .fz)) sd1 else .bad
    | none => .bad
  | _ => .bad
section
variable {X : Cx} {pv : List V} {W : WX} {p : Bool} {a : Expr} {pos : Pos}
theorem do_repC {ma : SD → ER OT} {k : Int} {x1 : Nat} {p2 : Pos} (ha : DO X pv W p a ma) : DO X pv W false (.BinOp a .Mult (.Constant (.int k) x1 p2) pos) (mRepC ma k) := by
  obtain ⟨ta, a1, a2⟩ := ha
  refine ⟨_, pe_op op_rep a1 pe_int, fun G F sd σ H Q s => ?_⟩
  have hp : false = (p && false) := by cases p <;> rfl
  rw [hp]
  refine Meets.bind (a2 G F sd σ H _ s) fun v F1 H1 t sd1 s1 s2 s3 s4 => ?_
  cases t with
  | ol ts =>
    show Meets X.K pv W G σ (RSo X.K pv) false sd1 F1 H1 (match fzs ts with
      | some ds => if 0 ≤ k ∧ k < 2 ^ 63 ∧ ds.length * k.toNat ≤ 16777216 then .ok (.ol ((List.replicate k.toNat ds).flatten.map .fz)) sd1 else .bad
      | none => .bad) Q _
    cases e : fzs ts with
    | none => exact True.intro
    | some ds =>
      have et := fzs_eq e
      subst et
      show Meets X.K pv W G σ (RSo X.K pv) false sd1 F1 H1 (if 0 ≤ k ∧ k < 2 ^ 63 ∧ ds.length * k.toNat ≤ 16777216 then .ok (.ol ((List.replicate k.toNat ds).flatten.map .fz)) sd1 else .bad) Q _
      split
      · rename_i hk
        obtain ⟨o, P, w, r, _⟩ := (show StR1 X.K pv G F1 sd1 σ H1 v (.ol (ds.map .fz)) from s3)
        unfold RepO at r
        obtain ⟨l, vs, rfl, _, hl, rr⟩ := r
        have rr := repOs_fz rr
        intro hQ
        refine ⟨l, k, vs, rfl, rfl, hl, by omega, hk.2.1, by rw [rr.length, sizeLine_eq]; exact hk.2.2, fun q hq => ?_⟩
        have z := s2.newL hq (reps_some rr k.toNat)
        exact hQ _ _ _ (Same.refl _) z.drop z fun y => nomatch y
      · exact True.intro
  | _ => exact True.intro
end
end DL
namespace PySem.W
open PySem PySem.Spec PySem.Calls PyProof.Rows
end PySem.W
namespace DL
open PySem PySem.Spec L2
end DL
namespace DL
open PySem PySem.Spec L2 GenW
section
variable {X : Cx}
/-- the iterator's own objects: what does not change in the loop -/
noncomputable def Free (X : Cx) (S : Addr) (ip : List (Addr × Obj)) (b : Addr) : Prop :=
  b ≠ X.env.locals ∧ b ∉ X.fs ∧ (b ∈ X.ex ∨ X.s_0.heap.objs.size ≤ b) ∧ (∀ x c, X.env.cells.lookup x = some c → c ≠ b) ∧ (∀ p ∈ X.pn, p.1 ≠ b) ∧ S ≠ b ∧ ∀ p ∈ ip, p.1 ≠ b
theorem Free.ok {X : Cx} {S : Addr} {o : Obj} {ip : List (Addr × Obj)} {H : Hp} {b : Addr} (h : Free X S ip b) (hn : H b = none) : FpOk X ((S, o) :: ip) H b := by
  obtain ⟨a, b', c, d, e, f, g⟩ := h
  refine ⟨hn, a, b', c, d, fun p hp => ?_⟩
  rcases List.mem_append.mp hp with k | k
  · exact e p k
  · rcases List.mem_cons.mp k with k | k
    · rw [k]; exact f
    · exact g p k
end
end DL
namespace DL
open PySem PySem.Spec L2 PyProof.Rows
end DL
namespace DL
open PySem PySem.Spec L2 PyProof.Rows
end DL
namespace DL
open PySem PySem.Spec L2 PyProof.Rows
end DL
namespace DL
open PySem PySem.Spec L2 PyProof.Rows
end DL
namespace DL
open PySem PySem.Spec L2 PyProof.Rows
end DL
namespace DL
open PySem PySem.Spec L2 PyProof.Rows
noncomputable def rLenA (K : PySem.W.Frag) : List V → Hp → VK → Prop := fun xs H Q => (∃ x n, xs = [x] ∧ LenV K x H n ∧ Q (.int n) H) ∨ (∃ (a : Addr) (kvs : List (Key × V)), xs = [.ref a] ∧ Rd H a (.dK kvs) ∧ Q (.int ((kvs.length : Nat) : Int)) H) ∨ ∃ (a : Addr) (kvs : List (List Key × V)), xs = [.ref a] ∧ Rd H a (.dT kvs) ∧ Q (.int ((kvs.length : Nat) : Int)) H
theorem call_lenA {X : Cx} : CallR X (.builtin "len") (rLenA X.K) := by
  intro pins s σ H xs us Q I r h
  rcases h with h | ⟨a, kvs, rfl, ha, q⟩ | ⟨a, kvs, rfl, ha, q⟩
  · exact call_len pins s σ H xs us Q I r h
  · obtain ⟨u, rfl, ru⟩ := vals1 r
    cases ru
    exact d_len I ha fun t s' I' => ⟨.int kvs.length, H, I', ⟨t, rfl⟩, q⟩
  · obtain ⟨u, rfl, ru⟩ := vals1 r
    obtain rfl : u = .ref a := ru
    obtain ⟨z, hd, ys, rel, dd⟩ := dt_rd I.hok ha
    have hl : ys.length = kvs.length := (Paired.length rel).symm
    refine call_len_dictH hd dd (by rw [sizeLine_eq] at z; omega) ?_
    rw [hl]
    exact ⟨.int ((kvs.length : Nat) : Int), H, I.tok _, ⟨_, rfl⟩, q⟩
noncomputable def dLenX : List D → Option D
  | [.dic _ ks _] => some (.int ks.length)
  | ds => dLen ds
theorem f_lenX {K : PySem.W.Frag} : CallS K (rLenA K) dLenX := by
  intro H xs ds c r h
  unfold dLenX at h
  split at h
  · obtain ⟨v, rfl, r1⟩ := reps1 r
    cases h
    cases r1 with
    | @dicK a kvs ds rd rr => exact ⟨_, rfl, fun Q q => .inr (.inl ⟨a, kvs, rfl, rd, by rw [List.length_map] at q; exact q⟩)⟩
    | @dicT a kvs ds rd rr => exact ⟨_, rfl, fun Q q => .inr (.inr ⟨a, kvs, rfl, rd, by rw [List.length_map] at q; exact q⟩)⟩
  · obtain ⟨cv, h1, h2⟩ := f_len H xs ds c r h
    exact ⟨cv, h1, fun Q q => .inl (h2 Q q)⟩
end DL
namespace DL
open PySem PySem.Spec L2 PyProof.Rows
noncomputable def mRepO (a : SD → ER OT) (b : SD → ER D) : SD → ER OT := fun sd => (a sd).bind fun t sd1 => (b sd1).bind fun y sd2 => match t, y with
  | .ol ts, .int k => match fzs ts with
    | some ds => if 0 ≤ k ∧ k < 2 ^ 63 ∧ ds.length * k.toNat ≤ 16777216 then .ok (.ol ((List.replicate k.toNat ds).flatten.map .fz)) sd2 else .bad
    | none => .bad
  | _, _ => .bad
section
variable {X : Cx} {pv : List V} {W : WX} {p q k l : Bool} {e a b e1 e2 o : Expr} {pos : Pos}
theorem do_repO {ma : SD → ER OT} {mb : SD → ER D} (ha : DO X pv W p a ma) (hb : DX X pv W q true b mb) : DO X pv W (p && q) (.BinOp a .Mult b pos) (mRepO ma mb) := by
  obtain ⟨ta, a1, a2⟩ := ha
  obtain ⟨tb, b1, b2⟩ := hb
  refine ⟨_, pe_op op_rep a1 b1, fun G F sd σ H Q s => ?_⟩
  refine Meets.bind (a2 G F sd σ H _ s) fun v F1 H1 t sd1 s1 s2 s3 s4 => ?_
  obtain ⟨G', g1, g2, g3⟩ := StR1.hide s3
  have z := fun Q => (b2 G' F1 sd1 σ H1 Q g2).unhide g3
  have hq : q = (q && true) := by cases q <;> rfl
  rw [hq]
  refine Meets.bind (z _) fun y F2 H2 d sd2 t1 t2 t3 t4 => ?_
  have t5 : Rep X.K F2 y d := t3.2
  have t6 := t3.1
  clear t3 t4
  split
  · rename_i ts k
    cases t5
    split
    · rename_i ds e
      have et := fzs_eq e
      subst et
      split
      · rename_i hk
        obtain ⟨o, P, w, r, _⟩ := (show StR1 X.K pv G F2 sd2 σ H2 v (.ol (ds.map .fz)) from t6)
        unfold RepO at r
        obtain ⟨l, vs, rfl, _, hl, rr⟩ := r
        have rr := repOs_fz rr
        intro hQ
        refine ⟨l, k, vs, rfl, rfl, hl, by omega, hk.2.1, by rw [rr.length, sizeLine_eq]; exact hk.2.2, fun q hq => ?_⟩
        have z := t2.newL hq (reps_some rr k.toNat)
        exact hQ _ _ _ (Same.refl _) z.drop z fun y => ⟨Same.upd hq, rfl⟩
      · exact True.intro
    · exact True.intro
  · exact True.intro
end
end DL
namespace DL
open PySem PySem.Spec L2
end DL
namespace DL
open PySem PySem.Spec L2
@[elab_as_elim] theorem ul0 {α : Type} {us : List α} {P : List α → Prop} (h : us.length = 0) (hp : P []) : P us := by
  cases us with
  | nil => exact hp
  | cons _ _ => cases h
theorem ulS {α : Type} {us : List α} {n : Nat} {P : List α → Prop} (h : us.length = n + 1) (hp : ∀ a r, r.length = n → P (a :: r)) : P us := by
  cases us with
  | nil => cases h
  | cons a r => exact hp a r (Nat.succ.inj h)
@[elab_as_elim] theorem ul1 {α : Type} {us : List α} {P : List α → Prop} (h : us.length = 1) (hp : ∀ a, P [a]) : P us := ulS h fun a r h => ul0 (P := fun r => P (a :: r)) h (hp a)
@[elab_as_elim] theorem ul2 {α : Type} {us : List α} {P : List α → Prop} (h : us.length = 2) (hp : ∀ a b, P [a, b]) : P us := ulS h fun a r h => ul1 (P := fun r => P (a :: r)) h (hp a)
@[elab_as_elim] theorem ul3 {α : Type} {us : List α} {P : List α → Prop} (h : us.length = 3) (hp : ∀ a b c, P [a, b, c]) : P us := ulS h fun a r h => ul2 (P := fun r => P (a :: r)) h (hp a)
end DL
namespace DL
open PySem PySem.Spec L2 PyProof.Rows
end DL
namespace DL
open PySem PySem.Spec L2 PyProof.Rows
end DL
namespace DL
open PySem PySem.Spec L2 PyProof.Rows
end DL
namespace DL
namespace BigSet
open PySem PySem.Spec L2 PyProof.Rows
noncomputable def wk : Nat → Nat
  | 0 => 0
  | n + 1 => wk n * 5 + 1
theorem wk_add (n : Nat) : ∀ k, wk (n + k) = wk n * (4 * wk k + 1) + wk k
  | 0 => by show wk n = _; simp [wk]
  | k + 1 => by
    show wk (n + k) * 5 + 1 = wk n * (4 * (wk k * 5 + 1) + 1) + (wk k * 5 + 1)
    rw [wk_add n k]
    have e1 : wk n * (4 * (wk k * 5 + 1) + 1) = wk n * (4 * wk k + 1) * 5 := by
      rw [Nat.mul_assoc]; congr 1; omega
    rw [e1, Nat.add_mul]; omega
theorem wk_pow : ∀ K, ∃ o, wk (2 ^ K) = 2 ^ K * (2 * o + 1)
  | 0 => ⟨0, rfl⟩
  | K + 1 => by
    obtain ⟨o, e⟩ := wk_pow K
    have e2 : 2 ^ (K + 1) = 2 ^ K + 2 ^ K := by rw [Nat.pow_succ]; omega
    refine ⟨o * (2 * wk (2 ^ K) + 1) + wk (2 ^ K), ?_⟩
    rw [e2, wk_add]
    generalize hw : wk (2 ^ K) = W at e ⊢
    have e3 : W * (4 * W + 1) + W = 2 * (W * (2 * W + 1)) := by grind
    rw [e3]
    have e5 : W * (2 * W + 1) = 2 ^ K * ((2 * o + 1) * (2 * W + 1)) := by
      conv => lhs; lhs; rw [e]
      rw [Nat.mul_assoc]
    rw [e5]
    generalize 2 ^ K = P
    grind
theorem mod_step {P x j o : Nat} (hP : 0 < P) (h : x % P = j % P) : x % (P * 2) = j % (P * 2) ∨ (x + P * (2 * o + 1)) % (P * 2) = j % (P * 2) := by
  have h1 : (x + P * (2 * o + 1)) % P = x % P := Nat.add_mul_mod_self_left _ _ _
  have h2 : (x + P * (2 * o + 1)) / P = x / P + (2 * o + 1) := Nat.add_mul_div_left _ _ hP
  rw [Nat.mod_mul, Nat.mod_mul, Nat.mod_mul, h1, h2, h]
  rcases Nat.mod_two_eq_zero_or_one (x / P) with a | a <;> rcases Nat.mod_two_eq_zero_or_one (j / P) with b | b
  · left; rw [a, b]
  · right
    have c : (x / P + (2 * o + 1)) % 2 = 1 := by omega
    rw [c, b]
  · right
    have c : (x / P + (2 * o + 1)) % 2 = 0 := by omega
    rw [c, b]
  · left; rw [a, b]
theorem wk_all : ∀ (K j : Nat), ∃ n, n < 2 ^ K ∧ wk n % 2 ^ K = j % 2 ^ K
  | 0, j => ⟨0, by decide, by rw [Nat.pow_zero, Nat.mod_one, Nat.mod_one]⟩
  | K + 1, j => by
    obtain ⟨n, h1, h2⟩ := wk_all K j
    obtain ⟨o, e⟩ := wk_pow K
    have hP : 0 < 2 ^ K := Nat.pow_pos (by decide)
    have e2 : wk (n + 2 ^ K) = wk n + 2 ^ K * (2 * (4 * o * wk n + 2 * wk n + o) + 1) := by
      rw [wk_add, e]
      generalize 2 ^ K = P
      generalize wk n = W
      have q : W * (4 * (P * (2 * o + 1)) + 1) = W + P * ((2 * o + 1) * (4 * W)) := by
        rw [Nat.mul_add, Nat.mul_one, Nat.add_comm]
        congr 1
        rw [← Nat.mul_assoc 4 P, Nat.mul_comm 4 P, Nat.mul_assoc P 4, ← Nat.mul_assoc W P, Nat.mul_comm W P, Nat.mul_assoc P W]
        congr 1
        rw [Nat.mul_comm W, Nat.mul_comm 4 (2 * o + 1), Nat.mul_assoc]
      rw [q, Nat.add_assoc, ← Nat.mul_add]
      congr 2
      rw [Nat.add_mul, Nat.one_mul]
      have z : 2 * o * (4 * W) = 2 * (4 * o * W) := by
        rw [Nat.mul_assoc, ← Nat.mul_assoc o 4, Nat.mul_comm o 4]
      rw [z]; omega
    rw [Nat.pow_succ]
    rcases mod_step (o := 4 * o * wk n + 2 * wk n + o) hP h2 with c | c
    · exact ⟨n, by omega, c⟩
    · exact ⟨n + 2 ^ K, by omega, by rw [e2]; exact c⟩
/-- a mask: one less than a power of two -/
noncomputable def Msk (m : Nat) : Prop := ∃ K, m + 1 = 2 ^ K
theorem lcgN_wk (m : Nat) : ∀ n, lcgN m n = wk n % (m + 1)
  | 0 => (Nat.zero_mod _).symm
  | n + 1 => by
    show (lcgN m n * 5 + 1) % (m + 1) = (wk n * 5 + 1) % (m + 1)
    rw [lcgN_wk m n, Nat.add_mod, Nat.mul_mod, Nat.mod_mod, ← Nat.mul_mod, ← Nat.add_mod]
theorem around {m : Nat} (hm : Msk m) (b : Nat) : lcgN m (m + 1 + b) = lcgN m b := by
  obtain ⟨K, e⟩ := hm
  rw [lcgN_wk, lcgN_wk, e, Nat.add_comm, wk_add]
  obtain ⟨o, e2⟩ := wk_pow K
  rw [e2]
  have q : wk b * (4 * (2 ^ K * (2 * o + 1)) + 1) + 2 ^ K * (2 * o + 1) = wk b + 2 ^ K * (wk b * (4 * (2 * o + 1)) + (2 * o + 1)) := by
    generalize 2 ^ K = P
    generalize wk b = W
    generalize 2 * o + 1 = O
    rw [Nat.mul_add, Nat.mul_one, Nat.mul_add P, ← Nat.add_assoc]
    congr 1
    rw [Nat.add_comm]
    congr 1
    rw [← Nat.mul_assoc 4 P, Nat.mul_comm 4 P, Nat.mul_assoc P 4, ← Nat.mul_assoc W P, Nat.mul_comm W P, Nat.mul_assoc P W]
  rw [q, Nat.add_mul_mod_self_left]
/-- from each slot to each slot in less than a round -/
theorem full {m : Nat} (hm : Msk m) {i j : Nat} (hi : i ≤ m) (hj : j ≤ m) : ∃ k, k ≤ m ∧ lcgI m i k = j := by
  have at_ : ∀ x, x ≤ m → ∃ a, a ≤ m ∧ lcgN m a = x := fun x hx => by
    have ⟨K, e⟩ := hm
    obtain ⟨n, h1, h2⟩ := wk_all K x
    refine ⟨n, by omega, ?_⟩
    rw [lcgN_wk, e, h2]
    exact Nat.mod_eq_of_lt (by omega)
  obtain ⟨a, ha, ea⟩ := at_ i hi
  obtain ⟨b, hb, eb⟩ := at_ j hj
  by_cases c : a ≤ b
  · exact ⟨b - a, by omega, by rw [← ea, lcgN_add, show a + (b - a) = b by omega, eb]⟩
  · exact ⟨m + 1 + b - a, by omega, by rw [← ea, lcgN_add, show a + (m + 1 + b - a) = m + 1 + b by omega, around hm, eb]⟩
theorem met {m : Nat} (hm : Msk m) (h : Int) {j : Nat} (hj : j ≤ m) : ∃ n, n ≤ 12 + m ∧ runI m (SetTable.bits h) n = j := by
  obtain ⟨k, hk, e⟩ := full hm (runI_le m (SetTable.bits h) 12) hj
  refine ⟨12 + k, Nat.add_le_add_left hk _, ?_⟩
  rw [runI_tail (bits_lt h), e]
theorem met' {m : Nat} (hm : Msk m) (h : Int) {j : Nat} (hj : j ≤ m) : ∃ k, k < 10 * SetTable.turns m ∧ way m h k = j := by
  obtain ⟨n, hn, e⟩ := met hm h hj
  obtain ⟨k, hk, e2⟩ := run_nth m (SetTable.bits h) n
  have t : SetTable.turns m = m + 15 := rfl
  exact ⟨k, by omega, (congrArg SetTable.Probe.j e2).trans e⟩
theorem way_in (m : Nat) (h : Int) (k : Nat) : way m h k ≤ m := by
  have hi : SetTable.bits h % (m + 1) < m + 1 := Nat.mod_lt _ (Nat.succ_pos _)
  have r := runEnd_bd (Nat.le_of_lt_succ hi)
  have z : (runAt m (SetTable.bits h % (m + 1)) (SetTable.bits h)).j + (runAt m (SetTable.bits h % (m + 1)) (SetTable.bits h)).more ≤ m := by
    simp only [runAt]; omega
  have q := nth_in k _ z
  exact Nat.le_trans (Nat.le_add_right _ _) q
end BigSet
end DL
namespace DL
namespace BigSet
open PySem PySem.Spec L2 PyProof.Rows
/-- the slot j is the one at which the way of the hash h ends, all earlier ones being taken -/
noncomputable def Rch (m : Nat) (S : List Nat) (x : Int × Nat) : Prop := ∃ k, way m x.1 k = x.2 ∧ ∀ c, c < k → way m x.1 c ∈ S
theorem Rch.mono {m : Nat} {S S' : List Nat} {x : Int × Nat} (r : Rch m S x) (h : ∀ j ∈ S, j ∈ S') : Rch m S' x := by
  obtain ⟨k, e, q⟩ := r
  exact ⟨k, e, fun c hc => h _ (q c hc)⟩
structure Tb (t : SetTable) (hs : List Int) : Prop where
  ris : Ris t.place.toList
  dm : t.dummies = #[]
  len : t.place.toList.length = hs.length
  msk : Msk t.mask
  big : 7 ≤ t.mask ∧ t.mask ≤ 8191
  rch : ∀ x ∈ hs.zip t.place.toList, Rch t.mask t.place.toList x
theorem hole {m : Nat} (hm : Msk m) (S : List Nat) (hl : S.length ≤ m) (h : Int) : ∃ n K, n < SetTable.turns m ∧ K ≤ off m (SetTable.bits h % (m + 1)) (SetTable.bits h) n ∧ K < 10 * SetTable.turns m ∧ way m h K ∉ S ∧ ∀ c, c < K → way m h c ∈ S := by
  obtain ⟨j, hj, hn⟩ := st_missing S (m + 1) (Nat.lt_succ_of_le hl)
  obtain ⟨n, h1, h2⟩ := met hm h (Nat.le_of_lt_succ hj)
  have ew : way m h (off m (SetTable.bits h % (m + 1)) (SetTable.bits h) n) = j := by
    show (nth m (runAt m _ _) _).j = j
    rw [nth_off, itL_run]; exact h2
  obtain ⟨k2, g1, g2⟩ := met' hm h (Nat.le_of_lt_succ hj)
  obtain ⟨K, a1, a2, a3⟩ := st_least (p := fun k => way m h k ∉ S) (off m (SetTable.bits h % (m + 1)) (SetTable.bits h) n) (by show way m h _ ∉ S; rw [ew]; exact hn)
  have a4 : K ≤ k2 := Nat.le_of_not_lt fun c => a3 k2 c (by show way m h k2 ∉ S; rw [g2]; exact hn)
  have t : SetTable.turns m = m + 15 := rfl
  exact ⟨n, K, by omega, a1, by omega, a2, fun c hc => Classical.not_not.mp (a3 c hc)⟩
theorem Tb.put {t : SetTable} {hs : List Int} (T : Tb t hs) {h : Int} {K : Nat} (hK : way t.mask h K ∉ t.place.toList) (hb : ∀ k, k < K → way t.mask h k ∈ t.place.toList) :
    SetTable.below t.place (way t.mask h K) ≤ hs.length ∧ Tb (t.put (way t.mask h K)).1 (hs.take (SetTable.below t.place (way t.mask h K)) ++ h :: hs.drop (SetTable.below t.place (way t.mask h K))) ∧ (t.put (way t.mask h K)).1.fill = hs.length + 1 := by
  generalize ej : way t.mask h K = j at hK ⊢
  have c1 : SetTable.below t.place j ≤ t.place.toList.length := by rw [Array.length_toList]; exact (below_cut T.ris j).1
  have c2 : SetTable.below t.place j ≤ hs.length := T.len ▸ c1
  have np : t.place[SetTable.below t.place j]? ≠ some j := fun e => hK (List.mem_of_getElem? ((Array.getElem?_toList).trans e))
  have pp := put_place t j
  have up : ∀ x ∈ t.place.toList, x ∈ (t.put j).1.place.toList := fun x hx => by rw [pp]; exact mem_ins.2 (.inr hx)
  have dm' := put_dm T.dm j
  have ln : (t.put j).1.place.toList.length = hs.length + 1 := by rw [pp, len_ins _ c1, T.len]
  refine ⟨c2, ⟨ris_insert T.ris np, dm', ?_, T.msk, T.big, ?_⟩, ?_⟩
  · rw [ln, len_ins _ c2]
  · intro x hx
    have lt : (hs.take (SetTable.below t.place j)).length = (t.place.toList.take (SetTable.below t.place j)).length := by
      rw [List.length_take, List.length_take, T.len]
    rw [pp, List.zip_append lt, List.mem_append, List.zip_cons_cons, List.mem_cons] at hx
    have old : x ∈ hs.zip t.place.toList → Rch t.mask (t.put j).1.place.toList x := fun z => (T.rch x z).mono up
    show Rch t.mask (t.put j).1.place.toList x
    rcases hx with z | z | z
    · refine old ?_
      rw [List.zip, ← List.take_zipWith] at z
      exact List.mem_of_mem_take z
    · rw [z]
      exact ⟨K, ej, fun c hc => up _ (hb c hc)⟩
    · refine old ?_
      rw [List.zip, ← List.drop_zipWith] at z
      exact List.mem_of_mem_drop z
  · unfold SetTable.fill
    rw [dm', ← Array.length_toList, ln]; rfl
structure Lay (m : Nat) (hs : List Int) (ow : Array (Option Nat)) (js : List Nat) : Prop where
  sz : ow.size = m + 1
  len : js.length = hs.length
  nd : js.Nodup
  le : ∀ j ∈ js, j ≤ m
  own : ∀ j k, j ≤ m → (oAt ow j = some k ↔ js[k]? = some j)
  rch : ∀ x ∈ hs.zip js, Rch m js x
theorem Lay.none {m : Nat} {hs : List Int} {ow : Array (Option Nat)} {js : List Nat} (W : Lay m hs ow js) {j : Nat} (hj : j ≤ m) : oAt ow j = Option.none ↔ j ∉ js := by
  constructor
  · intro e hm
    obtain ⟨k, hk⟩ := List.getElem?_of_mem hm
    rw [(W.own j k hj).2 hk] at e
    cases e
  · intro hn
    cases e : oAt ow j with
    | none => rfl
    | some k => exact absurd (List.mem_of_getElem? ((W.own j k hj).1 e)) hn
theorem Lay.step {m : Nat} (hm : Msk m) {hs : List Int} {ow : Array (Option Nat)} {js : List Nat} (W : Lay m hs ow js) (hl : hs.length ≤ m) (h : Int) :
    ∃ j, SetTable.layClean.free m ow (SetTable.turns m) (SetTable.bits h % (m + 1)) (SetTable.bits h) = some j ∧ Lay m (hs ++ [h]) (ow.setIfInBounds j (some hs.length)) (js ++ [j]) := by
  obtain ⟨n, K, n1, n2, _, n4, n5⟩ := hole hm js (W.len ▸ hl) h
  have wl : ∀ c, way m h c ≤ m := fun c => way_in m h c
  refine ⟨way m h K, free_spec m ow _ n _ _ K n1 n2 (fun c hc => ?_) ?_, ?_⟩
  · have z := mt (W.none (wl c)).1 (fun q => q (n5 c hc))
    cases e : oAt ow (nth m (runAt m (SetTable.bits h % (m + 1)) (SetTable.bits h)) c).j with
    | none => exact absurd e z
    | some _ => rfl
  · have z : oAt ow (nth m (runAt m (SetTable.bits h % (m + 1)) (SetTable.bits h)) K).j = Option.none := (W.none (wl K)).2 n4
    rw [z]; rfl
  · generalize ej : way m h K = j at n4 ⊢
    have jm : j ≤ m := ej ▸ wl K
    have js1 : j < ow.size := by rw [W.sz]; omega
    have sub : ∀ x ∈ js, x ∈ js ++ [j] := fun x hx => List.mem_append_left _ hx
    refine ⟨by rw [Array.size_setIfInBounds]; exact W.sz, by simp [W.len], ?_, ?_, ?_, ?_⟩
    · rw [List.nodup_append]
      exact ⟨W.nd, by simp, fun a ha b hb e => n4 (by rw [← List.mem_singleton.mp hb, ← e]; exact ha)⟩
    · intro x hx
      rcases List.mem_append.mp hx with z | z
      · exact W.le x z
      · rw [List.mem_singleton.mp z]; exact jm
    · intro x k hx
      by_cases c : x = j
      · subst c
        rw [oAt_set_self _ js1]
        constructor
        · intro e; cases e
          rw [← W.len, List.getElem?_append_right (Nat.le_refl _), Nat.sub_self]; rfl
        · intro e
          rcases Nat.lt_or_ge k js.length with q | q
          · rw [List.getElem?_append_left q] at e
            exact absurd (List.mem_of_getElem? e) n4
          · have hk : k < (js ++ [x]).length := (List.getElem?_eq_some_iff.mp e).1
            rw [List.length_append, List.length_singleton] at hk
            rw [← W.len, show k = js.length by omega]
      · rw [oAt_set_ne _ c, W.own x k hx]
        rcases Nat.lt_or_ge k js.length with q | q
        · rw [List.getElem?_append_left q]
        · constructor
          · intro e; exact absurd (List.getElem?_eq_some_iff.mp e).1 (by omega)
          · intro e
            have e2 := e
            rw [List.getElem?_append_right q] at e2
            exact absurd (List.mem_singleton.mp (List.mem_of_getElem? e2)) c
    · intro x hx
      rw [List.zip_append W.len.symm, List.mem_append] at hx
      rcases hx with z | z
      · exact (W.rch x z).mono sub
      · rw [List.mem_singleton.mp z]
        exact ⟨K, ej, fun c hc => sub _ (n5 c hc)⟩
theorem Lay.fold {m : Nat} (hm : Msk m) : ∀ (r hs : List Int) (ow : Array (Option Nat)) (js : List Nat), Lay m hs ow js → hs.length + r.length ≤ m →
    ∃ ow' js', r.foldl (stepF m) (some (ow, hs.length)) = some (ow', (hs ++ r).length) ∧ Lay m (hs ++ r) ow' js'
  | [], hs, ow, js, W, _ => ⟨ow, js, by rw [List.append_nil]; rfl, by rw [List.append_nil]; exact W⟩
  | h :: r, hs, ow, js, W, hl => by
    have hl' : hs.length + (r.length + 1) ≤ m := hl
    obtain ⟨j, e, W1⟩ := W.step hm (by omega) h
    obtain ⟨ow', js', f, W2⟩ := Lay.fold hm r (hs ++ [h]) _ _ W1 (by simp; omega)
    refine ⟨ow', js', ?_, by simpa using W2⟩
    rw [List.foldl_cons, stepF_some e]
    simpa using f
theorem laid_anew (t : SetTable) {hs : Array Int} {wanted M : Nat} (hw : SetTable.sizeAbove wanted - 1 = M) (hM : Msk M) (hb : 7 ≤ M ∧ M ≤ 8191) (hn : hs.size ≤ M) :
    ∃ t' order, t.relaid hs wanted = some (t', order) ∧ order.toList.Perm (List.range hs.size) ∧ Tb t' (order.toList.map fun i => hs.getD i 0) ∧ t'.mask = M ∧ t'.led = t.led ∧ t'.plain = t.plain := by
  have W0 : Lay M [] (Array.replicate (M + 1) Option.none) [] := ⟨by simp, rfl, List.nodup_nil, fun j hj => (nomatch hj), fun j k hj => by rw [oAt_init hj]; simp, fun x hx => (nomatch hx)⟩
  obtain ⟨ow, js, f, W⟩ := Lay.fold hM hs.toList [] _ _ W0 (by simpa using hn)
  rw [List.nil_append] at W
  have el : SetTable.layClean M hs = some ow := by
    rw [layClean_eq]
    have f' : hs.toList.foldl (stepF M) (some (Array.replicate (M + 1) Option.none, 0)) = _ := f
    rw [f']; rfl
  have lv : ∀ x, x ∈ liveOf M ow ↔ js[x.2]? = some x.1 := fun x => by
    rw [show x = (x.1, x.2) from rfl, mem_live W.sz]
    constructor
    · intro z; exact (W.own _ _ z.1).1 z.2
    · intro z
      have q := W.le _ (List.mem_of_getElem? z)
      exact ⟨q, (W.own _ _ q).2 z⟩
  have r1 : Ris ((liveOf M ow).map (·.1)) := (ris_live (fun j => ow.getD j Option.none) (List.range (M + 1)) (by unfold Ris; exact List.pairwise_lt_range)).1
  have nl : js.length = hs.size := by rw [W.len, Array.length_toList]
  refine ⟨tabOf t M ow, ((liveOf M ow).map (·.2)).toArray, by rw [relaid_eq, hw, el]; rfl, ?_, ⟨r1, rfl, ?_, hM, hb, ?_⟩, rfl, rfl, rfl⟩
  · show ((liveOf M ow).map (·.2)).Perm _
    have n2 : ((liveOf M ow).map (·.2)).Nodup := by
      refine List.pairwise_map.mpr (List.Pairwise.imp_of_mem (fun {a b} ha hb hlt e => ?_) (List.pairwise_map.mp r1))
      have h1 := (lv a).1 ha
      have h2 := (lv b).1 hb
      rw [e, h2] at h1
      have q := Option.some.inj h1
      have l2 : a.1 < b.1 := hlt
      omega
    refine (List.perm_ext_iff_of_nodup n2 List.nodup_range).mpr fun k => ?_
    rw [List.mem_range, List.mem_map]
    constructor
    · rintro ⟨x, hx, rfl⟩
      rw [← nl]
      exact (List.getElem?_eq_some_iff.mp ((lv x).1 hx)).1
    · intro hk
      rw [← nl] at hk
      exact ⟨(js[k], k), (lv _).2 (List.getElem?_eq_getElem hk), rfl⟩
  · show ((liveOf M ow).map (·.1)).length = _
    simp
  · intro x hx
    have hx' : x ∈ (((liveOf M ow).map (·.2)).map fun i => hs.getD i 0).zip ((liveOf M ow).map (·.1)) := hx
    rw [List.map_map, List.zip_map'] at hx'
    obtain ⟨y, hy, rfl⟩ := List.mem_map.mp hx'
    have hj := (lv y).1 hy
    have hk : y.2 < hs.size := by rw [← nl]; exact (List.getElem?_eq_some_iff.mp hj).1
    have hz : (hs.getD y.2 0, y.1) ∈ hs.toList.zip js := by
      refine List.mem_of_getElem? (i := y.2) ?_
      rw [List.getElem?_zip_eq_some]
      exact ⟨by simp [Array.getD_eq_getD_getElem?, hk], hj⟩
    refine (W.rch _ hz).mono fun j hj' => ?_
    show j ∈ (liveOf M ow).map (·.1)
    obtain ⟨k, e⟩ := List.getElem?_of_mem hj'
    exact List.mem_map.mpr ⟨(j, k), (lv _).2 e, rfl⟩
theorem go_size (n : Nat) : ∀ (f a : Nat), n < 2 ^ (a + f) → ∃ b, SetTable.sizeAbove.go n f (2 ^ a) = 2 ^ b ∧ a ≤ b ∧ n < 2 ^ b ∧ (2 ^ b ≤ 2 * n ∨ b = a)
  | 0, a, h => ⟨a, rfl, Nat.le_refl _, h, .inr rfl⟩
  | f + 1, a, h => by
    unfold SetTable.sizeAbove.go
    split
    · rename_i c
      rw [← Nat.pow_succ]
      obtain ⟨b, e, h1, h2, h3⟩ := go_size n f (a + 1) (by rw [show a + 1 + f = a + (f + 1) by omega]; exact h)
      refine ⟨b, e, by omega, h2, ?_⟩
      rcases h3 with z | z
      · exact .inl z
      · left; rw [z, Nat.pow_succ]; omega
    · exact ⟨a, rfl, Nat.le_refl _, by omega, .inr rfl⟩
theorem size_of {n : Nat} (h1 : 1 ≤ n) (h2 : n ≤ 1024) : ∃ M, SetTable.sizeAbove (SetTable.grown n) - 1 = M ∧ Msk M ∧ 7 ≤ M ∧ M ≤ 8191 ∧ SetTable.sizeAbove (SetTable.grown n) = M + 1 ∧ 4 * n ≤ M := by
  have g : SetTable.grown n = n * 4 := by unfold SetTable.grown; rw [if_neg (by omega)]
  rw [g]
  obtain ⟨b, e, c1, c2, c3⟩ := go_size (n * 4) 64 3 (by omega)
  have e' : SetTable.sizeAbove (n * 4) = 2 ^ b := e
  rw [e']
  have p : 8 ≤ 2 ^ b := by
    have := Nat.pow_le_pow_right (n := 2) (by decide) c1
    exact this
  have p2 : 2 ^ b ≤ 8192 := by
    rcases c3 with z | z
    · omega
    · rw [z]; decide
  exact ⟨2 ^ b - 1, rfl, ⟨b, by omega⟩, by omega, by omega, by omega, by omega⟩
end BigSet
end DL
namespace DL
namespace BigSet
open PySem PySem.Spec L2 PyProof.Rows
section
variable {P : Program} {w : World} {A : Around} {E : Value → Shared → Prop} {s : Shared}
/-- the set at a holds the tuples L -/
structure BigS (P : Program) (w : World) (h : Heap) (a : Addr) (L : List (Addr × List Int)) (es : Array (Int × Value)) (ep : Nat) (t : SetTable) : Prop where
  ob : ∃ o, h.get? a = some o ∧ o.ExactSet ∧ o.data = .set es ep t
  rows : es.toList = rowsOf P w L
  tab : Tb t (L.map fun p => thash P w p.2)
  nd : (L.map (·.2)).Nodup
  tup : ∀ p ∈ L, IsT P w h p.2 p.1
  plain : t.plain = true
  led : w.params.followText "set-order" = true ∨ t.led = true
  room : L.length * 5 < t.mask * 3
  few : L.length ≤ 1000
variable {a : Addr} {L : List (Addr × List Int)} {es : Array (Int × Value)} {ep : Nat} {t : SetTable}
theorem rows_len {es : Array (Int × Value)} {L : List (Addr × List Int)} (h : es.toList = rowsOf P w L) : es.size = L.length := by
  have q := congrArg List.length h
  rwa [Array.length_toList, rowsOf, List.length_map] at q
theorem rows_at {es : Array (Int × Value)} {L : List (Addr × List Int)} (h : es.toList = rowsOf P w L) {i : Nat} {p : Addr × List Int} (e : L[i]? = some p) : es[i]? = some (thash P w p.2, Value.ref p.1) := by
  rw [← Array.getElem?_toList, h, rowsOf, List.getElem?_map, e]; rfl
theorem Tb.fits {t : SetTable} {hs : List Int} (T : Tb t hs) {n : Nat} (e : hs.length = n) (hm : n ≤ t.mask) : t.fits n = true := by
  have l := T.len
  rw [Array.length_toList] at l
  unfold SetTable.fits SetTable.fill
  rw [T.dm]
  simp only [Bool.and_eq_true, beq_iff_eq, decide_eq_true_eq, List.size_toArray, List.length_nil]
  omega
theorem BigS.fits (R : BigS P w s.heap a L es ep t) : t.fits es.size = true := by
  have r := R.room
  exact R.tab.fits (by rw [List.length_map, rows_len R.rows]) (by rw [rows_len R.rows]; omega)
theorem calm_table {t : SetTable} {hs : List Int} (T : Tb t hs) : ¬ t.gaveWay = true := by
  obtain ⟨K, e⟩ := T.msk
  have b := T.big
  have : t.mask % 2 = 1 := by
    cases K with
    | zero => simp at e; omega
    | succ K => rw [Nat.pow_succ] at e; omega
  unfold SetTable.gaveWay
  rw [this]; decide
/-- the c-th step of a way has met no dummy -/
theorem no_dummy (m : Nat) : ∀ (n : Nat) (p : SetTable.Probe), p.dummy = none → (nth m p n).dummy = none
  | 0, _, h => h
  | n + 1, p, h => no_dummy m n (adv m p) (by unfold adv; split <;> exact h)
noncomputable abbrev st0 (m : Nat) (h : Int) : SetTable.Probe := runAt m (SetTable.bits h % (m + 1)) (SetTable.bits h)
/-- SEARCHING, from the c-th step on -/
theorem seek (R : BigS P w s.heap a L es ep t) {x : Addr} {k : List Int} (hx : IsT P w s.heap k x) (hu : A.units < cLine) {K : Nat} (K1 : K < 10 * SetTable.turns t.mask)
    (K2 : way t.mask (thash P w k) K ∉ t.place.toList) (K3 : ∀ c, c < K → way t.mask (thash P w k) c ∈ t.place.toList) {Q : SetFound → Shared → Prop}
    (q1 : k ∈ L.map (·.2) → Q (.there none) s) (q2 : k ∉ L.map (·.2) → Q (.free (way t.mask (thash P w k) K) false) s) :
    ∀ (f c : Nat) (stand : Option SetTable.Probe), stand.getD (t.probeStart (thash P w k)) = nth t.mask (st0 t.mask (thash P w k)) c → c ≤ K → K < c + f →
      (∀ (i : Nat) (p : Addr × List Int), L[i]? = some p → p.2 = k → ∃ d, c ≤ d ∧ d < K ∧ t.place.toList[i]? = some (way t.mask (thash P w k) d)) →
      wpAny (model P w) A (setSearchFrom a (.ref x) (thash P w k) true f stand) Q E s
  | 0, c, _, _, h1, h2, _ => absurd h2 (by omega)
  | f + 1, c, stand, hs, h1, h2, hL => by
    obtain ⟨o, ho, hex, hd⟩ := R.ob
    rw [setSearchFrom_succ]
    refine wpAny_bind (wpAny_setState_of ho hd R.fits ?_)
    dsimp only
    refine wp_if_neg (calm_table R.tab) ?_
    try refine wpAny_bind (wpAny_pure ?_)
    generalize eh : thash P w k = h at *
    have go_on : ∀ q, nth t.mask (nth t.mask (st0 t.mask h) c) q = nth t.mask (st0 t.mask h) (c + q) := fun q => (nth_add t.mask c _ q).symm
    have jj : ∀ q, (nth t.mask (nth t.mask (st0 t.mask h) c) q).j = way t.mask h (c + q) := fun q => congrArg SetTable.Probe.j (go_on q)
    have cK : c + (K - c) = K := by omega
    have sp := go_spec t R.tab.ris R.tab.dm (fun i => (es[i]?.map (·.1)).getD 0) h (10 * SetTable.turns t.mask) (K - c) (nth t.mask (st0 t.mask h) c) (no_dummy _ _ _ rfl) (by omega)
      (fun q hq => by rw [jj]; exact K3 _ (by omega)) (by rw [jj, cK]; exact K2)
    have hof : ∀ (i : Nat) (p : Addr × List Int), L[i]? = some p → (es[i]?.map (·.1)).getD 0 = thash P w p.2 := fun i p e => by rw [rows_at R.rows e]; rfl
    have pe : t.probe (fun i => (es[i]?.map (·.1)).getD 0) h (stand.getD (t.probeStart h)) = SetTable.probe.go t (fun i => (es[i]?.map (·.1)).getD 0) h (10 * SetTable.turns t.mask) (nth t.mask (st0 t.mask h) c) := by
      rw [hs]; rfl
    -- an entry of the key k is met at a step that was not passed
    have passed : ∀ n, (∀ (c' i' : Nat), c' < n → t.place.toList[i']? = some (nth t.mask (nth t.mask (st0 t.mask h) c) c').j → (fun i => (es[i]?.map (·.1)).getD 0) i' ≠ h) →
        ∀ (i : Nat) (p : Addr × List Int), L[i]? = some p → p.2 = k → ∃ d, c + n ≤ d ∧ d < K ∧ t.place.toList[i]? = some (way t.mask h d) := fun n hn i p e ek => by
      obtain ⟨d, d1, d2, d3⟩ := hL i p e ek
      refine ⟨d, Nat.le_of_not_lt fun z => ?_, d2, d3⟩
      refine hn (d - c) i (by omega) (by rw [jj, show c + (d - c) = d by omega]; exact d3) ?_
      show (es[i]?.map (·.1)).getD 0 = h
      rw [hof i p e, ek, eh]
    rw [pe]
    rcases sp with ⟨q, i, a1, a2, a3, a4, a5⟩ | ⟨a1, a2⟩
    · rw [a5]
      dsimp only
      rw [jj] at a2 ⊢
      have iL : i < L.length := by
        have z := (List.getElem?_eq_some_iff.mp a2).1
        rw [R.tab.len, List.length_map] at z
        exact z
      obtain ⟨p, ep⟩ : ∃ p, L[i]? = some p := ⟨_, List.getElem?_eq_getElem iL⟩
      have pm := List.mem_of_getElem? ep
      have ee := rows_at R.rows ep
      have go : wpAny (model P w) A (searchRest a (.ref x) h true f es t (way t.mask h (c + q)) i (nth t.mask (nth t.mask (st0 t.mask h) c) (q + 1))) Q E s := by
        unfold searchRest
        rw [ee]
        dsimp only
        refine wpAny_bind (wpAny_holding (wpAny_eqBool_tuple hu (R.tup p pm) hx ?_))
        refine wpAny_bind (wpAny_setState_of ho hd R.fits ?_)
        dsimp only
        by_cases same : p.2 = k
        · exact wp_if_pos (by simp [same]) (wpAny_pure (q1 (List.mem_map.mpr ⟨p, pm, same⟩)))
        · refine wp_if_neg (by simp [same]) ?_
          try refine wpAny_bind (wpAny_pure ?_)
          have sl : t.slot (way t.mask h (c + q)) = .live i := slot_live R.tab.ris a2
          rw [sameMem]
          dsimp only
          simp only [if_true, sl, ee]
          refine wpAny_bind (wpAny_isSame_ref_self (wpAny_bind (wpAny_pure ?_)))
          simp only [if_true]
          refine wp_if_neg (by simp [same]) ?_
          have rec_ := seek R hx hu (K := K) (Q := Q) K1 (by rw [eh]; exact K2) (by rw [eh]; exact K3) q1 (by rw [eh]; exact q2) f (c + (q + 1)) (some (nth t.mask (nth t.mask (st0 t.mask h) c) (q + 1)))
          rw [eh] at rec_
          refine rec_ (go_on (q + 1)) (by omega) (by omega) fun i' p' e' ek' => ?_
          obtain ⟨d, d1, d2, d3⟩ := passed q a4 i' p' e' ek'
          refine ⟨d, Nat.lt_of_le_of_ne d1 fun z => ?_, d2, d3⟩
          rw [← z] at d3
          have s2 : t.slot (way t.mask h (c + q)) = .live i' := slot_live R.tab.ris d3
          rw [sl] at s2
          injection s2 with s2
          rw [← s2, ep] at e'
          cases e'
          exact same ek'
      by_cases led : t.led = true
      · refine wp_if_neg (by simp [led]) ?_
        try refine wpAny_bind (wpAny_pure ?_)
        exact go
      · refine wp_if_pos (by simp [led]) ?_
        refine wpAny_bind (seen_tup hx (fun y hy => ?_) ?_)
        · obtain ⟨e, he, ey⟩ := List.mem_map.mp hy
          have he' : e ∈ es.toList := by
            have z : e ∈ es ∧ e.1 = h := by simpa using he
            simpa using z.1
          rw [R.rows] at he'
          obtain ⟨p', hp', e2⟩ := List.mem_map.mp he'
          exact ⟨p'.2, p'.1, by rw [← ey, ← e2], R.tup p' hp'⟩
        · refine wp_if_neg (by decide) ?_
          try refine wpAny_bind (wpAny_pure ?_)
          exact go
    · rw [a2]
      dsimp only
      rw [jj, cK]
      refine wpAny_pure (q2 fun hm => ?_)
      obtain ⟨p, hp, ek⟩ := List.mem_map.mp hm
      obtain ⟨i, ei⟩ := List.getElem?_of_mem hp
      obtain ⟨d, d1, d2, _⟩ := passed (K - c) (fun c' i' hc' => a1 c' i' hc') i p ei ek
      omega
theorem search (R : BigS P w s.heap a L es ep t) {x : Addr} {k : List Int} (hx : IsT P w s.heap k x) (hu : A.units < cLine) {Q : SetFound → Shared → Prop} (q1 : k ∈ L.map (·.2) → Q (.there none) s)
    (q2 : ∀ K, k ∉ L.map (·.2) → way t.mask (thash P w k) K ∉ t.place.toList → (∀ c, c < K → way t.mask (thash P w k) c ∈ t.place.toList) → Q (.free (way t.mask (thash P w k) K) false) s) :
    wpAny (model P w) A (setSearch a (.ref x) (thash P w k) true) Q E s := by
  have room := R.room
  obtain ⟨n, K, _, _, b1, b2, b3⟩ := hole R.tab.msk t.place.toList (by rw [R.tab.len, List.length_map]; omega) (thash P w k)
  have big := R.tab.big
  have tn : SetTable.turns t.mask = t.mask + 15 := rfl
  refine seek R hx hu b1 b2 b3 q1 (fun z => q2 K z b2 b3) 100000 0 none rfl (Nat.zero_le _) (by omega) fun i p e ek => ?_
  have eh : (L.map fun p => thash P w p.2)[i]? = some (thash P w k) := by rw [List.getElem?_map, e, ← ek]; rfl
  have il : i < t.place.toList.length := by
    have z := (List.getElem?_eq_some_iff.mp e).1
    rw [R.tab.len, List.length_map]; exact z
  have ej := List.getElem?_eq_getElem il
  obtain ⟨d, f1, f2⟩ := R.tab.rch (thash P w k, t.place.toList[i]) (List.mem_of_getElem? (i := i) (by rw [List.getElem?_zip_eq_some]; exact ⟨eh, ej⟩))
  have f1' : way t.mask (thash P w k) d = t.place.toList[i] := f1
  refine ⟨d, Nat.zero_le _, Nat.lt_of_not_le fun z => b2 ?_, by rw [ej, f1']⟩
  rcases Nat.lt_or_ge K d with y | y
  · exact f2 K y
  · have : K = d := by omega
    rw [this, f1']
    exact List.mem_of_getElem? ej
end
end BigSet
end DL
namespace DL
namespace BigSet
open PySem PySem.Spec L2 PyProof.Rows
section
variable {P : Program} {w : World} {A : Around} {E : Value → Shared → Prop} {s : Shared} {a : Addr} {L : List (Addr × List Int)} {es : Array (Int × Value)} {ep : Nat} {t : SetTable}
theorem getD_some {α : Type} {xs : Array α} {i : Nat} {x d : α} (h : xs[i]? = some x) : xs.getD i d = x := by
  rw [Array.getD_eq_getD_getElem?, h]; rfl
/-- the rows in the new order -/
theorem reorder (hr : es.toList = rowsOf P w L) : ∀ {l : List Nat}, (∀ i ∈ l, i < L.length) →
    l.filterMap (es[·]?) = rowsOf P w (l.filterMap (L[·]?)) ∧ (l.filterMap (L[·]?)).map (fun p => thash P w p.2) = l.map fun i => (es.map (·.1)).getD i 0
  | [], _ => ⟨rfl, rfl⟩
  | i :: l, h => by
    obtain ⟨e1, e2⟩ := reorder hr (l := l) fun j hj => h j (List.mem_cons_of_mem _ hj)
    have iL := List.getElem?_eq_getElem (h i List.mem_cons_self)
    have ie := rows_at hr iL
    rw [List.filterMap_cons_some ie, List.filterMap_cons_some iL, e1]
    refine ⟨rfl, ?_⟩
    rw [List.map_cons, List.map_cons, e2]
    congr 1
    have z : (es.map (·.1))[i]? = some (thash P w (L[i]'(h i List.mem_cons_self)).2) := by rw [Array.getElem?_map, ie]; rfl
    exact (getD_some z).symm
theorem range_back {α : Type} (L : List α) : (List.range L.length).filterMap (L[·]?) = L := by
  have key : ∀ n, n ≤ L.length → (List.range n).filterMap (L[·]?) = L.take n := by
    intro n
    induction n with
    | zero => intro _; rfl
    | succ n ih =>
      intro h
      rw [List.range_succ, List.filterMap_append, ih (by omega), List.take_add_one]
      congr 1 <;> (rw [List.filterMap_cons, List.getElem?_eq_getElem h]; try rfl)
  rw [key _ (Nat.le_refl _), List.take_length]
theorem relay {o : Obj} (ho : s.heap.get? a = some o) (hex : o.ExactSet) (hd : o.data = .set es ep t) (hr : es.toList = rowsOf P w L) (T : Tb t (L.map fun p => thash P w p.2)) (fit : L.length ≤ t.mask)
    (nd : (L.map (·.2)).Nodup) (tup : ∀ p ∈ L, IsT P w s.heap p.2 p.1) (pl : t.plain = true) (ld : w.params.followText "set-order" = true ∨ t.led = true) (few : L.length ≤ 1000) (one : 1 ≤ L.length)
    {Q : Unit → Shared → Prop} (hQ : ∀ h' L' es' ep' t', Heap.SameBut a s.heap h' → BigS P w h' a L' es' ep' t' → L'.Perm L → Q () { s with heap := h' }) : wpAny (model P w) A (setRelay a (SetTable.grown L.length)) Q E s := by
  have sz := rows_len hr
  obtain ⟨M, m1, m2, m3, m4, m5, m6⟩ := size_of one (by omega)
  obtain ⟨t', od, e, pm, T', tm, tl, tp⟩ := laid_anew t (hs := es.map (·.1)) m1 m2 ⟨m3, m4⟩ (by rw [Array.size_map, sz]; omega)
  rw [Array.size_map, sz] at pm
  obtain ⟨r1, r2⟩ := reorder hr (l := od.toList) fun i hi => List.mem_range.mp (pm.mem_iff.mp hi)
  have pL : (od.toList.filterMap (L[·]?)).Perm L := by
    have z := pm.filterMap (L[·]?)
    rwa [range_back] at z
  rw [← r2] at T'
  generalize eL : od.toList.filterMap (L[·]?) = L' at r1 pL T'
  have r0 : (od.filterMap (es[·]?)).toList = rowsOf P w L' := by rw [Array.toList_filterMap]; exact r1
  have s0 : (od.filterMap (es[·]?)).size = L.length := (rows_len r0).trans pL.length_eq
  have ln : L'.length = L.length := pL.length_eq
  rw [setRelay_eq]
  refine wpAny_bind (wpAny_setState_of ho hd (T.fits (by rw [List.length_map, sz]) (by rw [sz]; exact fit)) ?_)
  dsimp only
  refine wp_if_neg (by rw [m5, sizeLine_eq]; omega) ?_
  try refine wpAny_bind (wpAny_pure ?_)
  rw [e]
  dsimp only
  refine wpAny_bind ?_
  refine wp_if_neg (by rw [s0, sz]; simp) ?_
  try refine wpAny_bind (wpAny_pure ?_)
  refine wpAny_pure ?_
  dsimp only
  refine wpAny_storeSet_of ho hd ?_ (by rw [s0, sizeLine_eq]; omega)
  have sb : Heap.SameBut a s.heap (s.heap.update a (Obj.putSet (od.filterMap (es[·]?)) t')) := Heap.SameBut.update ..
  refine hQ _ L' _ (ep + 1) t' sb ⟨⟨_, store_at ho hd, ⟨hex.1, hex.2.1, hex.2.2⟩, rfl⟩, r0, T', (pL.map (·.2)).nodup_iff.mpr nd, fun p hp => isT_same (tup p (pL.mem_iff.mp hp)) ho hd sb, tp ▸ pl, tl ▸ ld, ?_, by omega⟩ pL
  rw [ln, tm]; omega
/-- ADDING one -/
theorem adding (R : BigS P w s.heap a L es ep t) {x : Addr} {k : List Int} (hx : IsT P w s.heap k x) (hu : A.units < cLine) (few : L.length < 1000) {Q : Bool → Shared → Prop}
    (hQ : ∀ b h' L' es' ep' t', Heap.SameBut a s.heap h' → BigS P w h' a L' es' ep' t' → (k ∈ L.map (·.2) → L' = L) → (k ∉ L.map (·.2) → L'.Perm ((x, k) :: L)) → Q b { s with heap := h' }) :
    wpAny (model P w) A (setAddHashed a (.ref x) (thash P w k)) Q E s := by
  obtain ⟨o, ho, hex, hd⟩ := R.ob
  have sz := rows_len R.rows
  have room := R.room
  unfold setAddHashed
  refine wpAny_holding ?_
  rw [show (100000 : Nat) = 99999 + 1 from rfl, setAddHashedIn_succ]
  refine wpAny_bind (wpAny_setState_of ho hd R.fits ?_)
  dsimp only
  refine wp_if_neg (by simp [byScan, Value.scannable]) ?_
  try refine wpAny_bind (wpAny_pure ?_)
  refine wpAny_bind (search R hx hu (fun hm => ?_) fun K hm b2 b3 => ?_)
  · exact wpAny_pure (hQ false s.heap L es ep t (Heap.SameBut.refl a s.heap) R (fun _ => rfl) fun z => absurd hm z)
  dsimp only
  refine wpAny_bind (wpAny_setState_of ho hd R.fits ?_)
  dsimp only
  obtain ⟨q1, q2, q3⟩ := R.tab.put b2 b3
  have e1 : (t.put (way t.mask (thash P w k) K)).2 = SetTable.below t.place (way t.mask (thash P w k) K) := rfl
  have e2 : (t.put (way t.mask (thash P w k) K)).1.mask = t.mask := rfl
  have e3 : (t.put (way t.mask (thash P w k) K)).1.led = t.led := rfl
  have e4 : (t.put (way t.mask (thash P w k) K)).1.plain = true := R.plain
  generalize SetTable.below t.place (way t.mask (thash P w k) K) = i at q1 q2 e1
  generalize t.put (way t.mask (thash P w k) K) = pr at q2 q3 e1 e2 e3 e4 ⊢
  obtain ⟨t1, i1⟩ := pr
  dsimp only at q2 q3 e1 e2 e3 e4 ⊢
  subst e1
  first
    | (refine wpAny_bind ?_; refine wp_if_pos e4 ?_; refine hashBy_tup hx ?_)
    | refine wp_if_pos e4 (wpAny_bind (hashBy_tup hx ?_))
  simp only [if_true]
  have pm := put_perm L i1 (x, k)
  have r1 : (SetTable.insertAt es i1 (thash P w k, Value.ref x)).toList = rowsOf P w (L.take i1 ++ (x, k) :: L.drop i1) := by
    rw [SetTable.toList_insertAt, rows_put, R.rows]
  rw [← List.map_take, ← List.map_drop] at q2
  have q2' : Tb t1 ((L.take i1 ++ (x, k) :: L.drop i1).map fun p => thash P w p.2) := by rw [List.map_append, List.map_cons]; exact q2
  generalize SetTable.insertAt es i1 (thash P w k, Value.ref x) = es1 at r1 ⊢
  generalize L.take i1 ++ (x, k) :: L.drop i1 = L1 at pm r1 q2'
  have l1 : L1.length = L.length + 1 := pm.length_eq
  have s1 : es1.size = L.length + 1 := (rows_len r1).trans l1
  have nd1 : (L1.map (·.2)).Nodup := (pm.map (·.2)).nodup_iff.mpr (List.nodup_cons.mpr ⟨hm, R.nd⟩)
  refine wpAny_bind (wpAny_storeSet_of ho hd ?_ (by rw [s1, sizeLine_eq]; omega))
  have sb : Heap.SameBut a s.heap (s.heap.update a (Obj.putSet es1 t1)) := Heap.SameBut.update ..
  have ho1 := store_at (es' := es1) (t' := t1) ho hd
  generalize s.heap.update a (Obj.putSet es1 t1) = h1 at sb ho1 ⊢
  have tup1 : ∀ p ∈ L1, IsT P w h1 p.2 p.1 := fun p hp => by
    rcases List.mem_cons.mp (pm.mem_iff.mp hp) with e | z
    · rw [e]; exact isT_same hx ho hd sb
    · exact isT_same (R.tup p z) ho hd sb
  rw [List.length_map] at q3
  have full_iff : t1.tooFull = true ↔ t.mask * 3 ≤ (L.length + 1) * 5 := by
    unfold SetTable.tooFull
    rw [decide_eq_true_eq, q3, e2]
  by_cases hf : t1.tooFull = true
  · first
      | (refine wpAny_bind ?_; refine wp_if_pos (by simp [hf]) ?_)
      | (refine wp_if_pos (by simp [hf]) ?_; refine wpAny_bind ?_)
    rw [sz, ← l1]
    have b := R.tab.big
    refine relay (s := { s with heap := h1 }) ho1 ⟨hex.1, hex.2.1, hex.2.2⟩ rfl r1 q2' (by rw [l1, e2]; omega) nd1 tup1 e4 (e3 ▸ R.led) (by omega) (by omega) ?_
    intro h2 L2 es2 ep2 t2 sb2 R2 pm2
    exact wpAny_pure (hQ true h2 L2 es2 ep2 t2 (sb.trans sb2) R2 (fun z => absurd z hm) fun _ => pm2.trans pm)
  · first
      | refine wp_if_neg (by simp [hf]) ?_
      | (refine wpAny_bind ?_; refine wp_if_neg (by simp [hf]) ?_; refine wpAny_pure ?_)
    have nf := mt full_iff.2 hf
    exact wpAny_pure (hQ true h1 L1 es1 (ep + 1) t1 sb ⟨⟨_, ho1, ⟨hex.1, hex.2.1, hex.2.2⟩, rfl⟩, r1, q2', nd1, tup1, e4, e3 ▸ R.led, by rw [l1, e2]; omega, by omega⟩ (fun z => absurd z hm) fun _ => pm)
theorem BigS.carry {h h' : Heap} (R : BigS P w h a L es ep t) (ha : ∀ o, h.get? a = some o → h'.get? a = some o) (ht : ∀ p ∈ L, IsT P w h' p.2 p.1) : BigS P w h' a L es ep t := by
  obtain ⟨o, ho, r⟩ := R.ob
  exact { R with ob := ⟨o, ha o ho, r⟩, tup := ht }
noncomputable abbrev newSet (w : World) : Obj := { cls := .type "set", dict := none, data := .set #[] 0 (.fresh 0 0 (!w.params.followText "set-order")) }
theorem fresh_set {h : Heap} (ho : h.get? a = some (newSet w)) : BigS P w h a [] #[] 0 (.fresh 0 0 (!w.params.followText "set-order")) where
  ob := ⟨_, ho, ⟨rfl, rfl, rfl⟩, rfl⟩
  rows := rfl
  tab := ⟨List.Pairwise.nil, rfl, rfl, ⟨3, rfl⟩, ⟨Nat.le_refl 7, by show 7 ≤ 8191; decide⟩, fun x hx => by simp [SetTable.fresh] at hx⟩
  nd := List.nodup_nil
  tup := fun p hp => nomatch hp
  plain := rfl
  led := by
    cases e : w.params.followText "set-order"
    · exact .inr rfl
    · exact .inl rfl
  room := by show 0 < 7 * 3; decide
  few := Nat.zero_le _
end
end BigSet
end DL
namespace DL
namespace BigSet
open PySem PySem.Spec L2 PyProof.Rows
section
variable {P : Program} {w : World} {A : Around} {E : Value → Shared → Prop} {s : Shared}
/-- one item into the set -/
theorem add_one {S : Addr} {L : List (Addr × List Int)} {es : Array (Int × Value)} {ep : Nat} {t : SetTable} (R : BigS P w s.heap S L es ep t) {p : Addr × List Int} (hx : IsT P w s.heap p.2 p.1) (hu : A.units < cLine) (few : L.length < 1000) {Q : Bool → Shared → Prop}
    (h : ∀ b h' tk L' es' ep' t', s.toks ≤ tk → Heap.SameBut S s.heap h' → BigS P w h' S L' es' ep' t' → (p.2 ∈ L.map (·.2) → L' = L) → (p.2 ∉ L.map (·.2) → L'.Perm (p :: L)) → Q b { s with heap := h', toks := tk }) :
    wpAny (model P w) A (setAdd S (.ref p.1)) Q E s := by
  unfold setAdd
  refine wpAny_holding (wpAny_bind (wpAny_pyHash_tuple hu hx ?_))
  exact adding (s := { s with toks := s.toks + (p.2.length + 1) }) R hx hu few fun b h' L' es' ep' t' sb R' c1 c2 => h b h' _ L' es' ep' t' (Nat.le_add_right _ _) sb R' c1 c2
/-- the loop of set.update over tuples -/
theorem update_loop {I S : Addr} {fp wr : List Addr} {G : Array GenState → Array GenState → Prop} {n : Nat} {Pv : Nat → Value → Prop} {St : Nat → Shared → Prop} {R : Result → Shared → Prop}
    (W : WalksS P w A.in1 I fp wr G n Pv St) (hS : S ∉ fp) (ks : List (Addr × List Int)) (hn : n = ks.length) (few : ks.length ≤ 1000) (each : ∀ i v, Pv i v → ∃ p, ks[i]? = some p ∧ v = .ref p.1)
    {h0 : Heap} (tup : ∀ p ∈ ks, IsT P w h0 p.2 p.1) (s0 : h0.get? S = none) (w0 : ∀ b ∈ wr, h0.get? b = none) (hu : A.in1.units < cLine) :
    ∀ (k i : Nat) (s : Shared), i + k = n → St i s → (∀ b o, h0.get? b = some o → s.heap.get? b = some o) → (∃ L es ep t, BigS P w s.heap S L es ep t ∧ Got ks i L) →
      (∀ s' L es ep t, Moved (S :: wr) G s s' → BigS P w s'.heap S L es ep t → Got ks n L → (∀ b o, h0.get? b = some o → s'.heap.get? b = some o) → R (.ok (.ret .none)) s') →
      codeAny (model P w) A (.builtin "set.update.loop" ⟨[.ref S, .ref I], []⟩) R s := by
  have sw : S ∉ wr := fun z => hS (W.sub _ z)
  have more : ∀ b ∈ wr, b ∈ S :: wr := fun b hb => List.mem_cons_of_mem _ hb
  have old : ∀ {s s' : Shared}, Moved wr G s s' → (∀ b o, h0.get? b = some o → s.heap.get? b = some o) → ∀ b o, h0.get? b = some o → s'.heap.get? b = some o := fun mv q b o e =>
    mv.heap b o (fun z => by rw [w0 b z] at e; cases e) (q b o e)
  intro k
  induction k with
  | zero =>
    intro i s hk st q ⟨L, es, ep, t, RS, g⟩ hR
    cases (show i = n from hk)
    refine codeAny_builtin F.entry_set_update_loop ?_
    rw [Around.under_plainId F.plain_set_update_loop _]
    show wpAny _ A.in1 (pyNext (.ref I) >>= _) _ _ s
    refine wpAny_bind (W.done s _ _ st fun s' mv => ?_)
    show wpAny _ A.in1 (ret Value.none) _ _ s'
    have q' := old mv q
    exact wpAny_pure (hR s' L es ep t (mv.mono more) (RS.carry (fun o e => mv.heap S o sw e) fun p hp => isT_keep (tup p (List.mem_of_mem_take (g.sub p hp))) q') g q')
  | succ k ih =>
    intro i s hk st q ⟨L, es, ep, t, RS, g⟩ hR
    refine codeAny_builtin F.entry_set_update_loop ?_
    rw [Around.under_plainId F.plain_set_update_loop _]
    show wpAny _ A.in1 (pyNext (.ref I) >>= _) _ _ s
    refine wpAny_bind (W.item i s _ _ (by omega) st fun v s' pv st' mv => ?_)
    obtain ⟨p, ep1, rfl⟩ := each i v pv
    have q' := old mv q
    have R' := RS.carry (h' := s'.heap) (fun o e => mv.heap S o sw e) fun p hp => isT_keep (tup p (List.mem_of_mem_take (g.sub p hp))) q'
    show wpAny _ A.in1 (holding [Value.ref p.1] (setAdd S (.ref p.1)) >>= _) _ _ s'
    have il : i < ks.length := (List.getElem?_eq_some_iff.mp ep1).1
    have gl := g.len
    refine wpAny_bind (wpAny_holding (add_one R' (isT_keep (tup p (List.mem_of_getElem? ep1)) q') hu (by omega) fun b h' tk L' es' ep' t' tke sb R2 c1 c2 => ?_))
    have g' : Got ks (i + 1) L' := by
      by_cases c : p.2 ∈ L.map (·.2)
      · rw [c1 c]; exact g.same ep1 c
      · exact g.more ep1 (c2 c)
    have other : ∀ b, b ≠ S → h'.get? b = s'.heap.get? b := fun b hb => sb.2 b hb
    have q2 : ∀ b o, h0.get? b = some o → h'.get? b = some o := fun b o e => (other b (fun z => by rw [z, s0] at e; cases e)).trans (q' b o e)
    refine wpAny_pure ⟨plainId_quiet F.plain_set_update_loop _, ih (i + 1) _ (by omega) (W.frame _ s' h' _ st' tke fun b hb o e => ?_) q2 ⟨L', es', ep', t', R2, g'⟩ fun s2 L2 es2 ep2 t2 mv2 R3 g3 q3 => ?_⟩
    · rw [other b fun z => hS (z ▸ hb)]; exact e
    · refine hR s2 L2 es2 ep2 t2 (Moved.trans W.gtrans ((mv.mono more).then_heap tke fun b o hb e => ?_) mv2) R3 g3 q3
      rw [other b fun z => hb (z ▸ List.mem_cons_self)]; exact e
end
end BigSet
end DL
set_option maxHeartbeats 3200000
namespace DL
namespace BigSet
open PySem PySem.Spec L2 PyProof.Rows
section
variable {P : Program} {w : World} {A : Around} {E : Value → Shared → Prop} {s : Shared}
set_option maxHeartbeats 3200000 in
theorem fill_tups {S l : Addr} {us : Array Value} {ks : List (Addr × List Int)} {nm : String} {Q : Unit → Shared → Prop} (hh : A.in1.handled = none) (hu : A.in1.units < cLine) (ho : s.heap.get? S = some (bareSet w)) (hl : s.heap.IsList l us) (hi : us.toList = ks.map fun p => Value.ref p.1)
    {h0 : Heap} (keep0 : ∀ b o, h0.get? b = some o → s.heap.get? b = some o) (new0 : h0.get? S = none) (tup : ∀ p ∈ ks, IsT P w h0 p.2 p.1) (few : ks.length ≤ 1000)
    (h : ∀ h' tk L es ep t, BigS P w h' S L es ep t → Got ks ks.length L → (∀ b o, h0.get? b = some o → h'.get? b = some o) → Q () { s with heap := h', toks := tk }) :
    wpAny (model P w) A (Builtin.Frozenset.updateFrom nm S (.ref l)) Q E s := by
  have len : us.size = ks.length := by rw [← Array.length_toList, hi, List.length_map]
  have hl0 := hl
  obtain ⟨o, el, ec, k, ed⟩ := hl
  have ne : l ≠ S := fun e => by
    rw [e, ho] at el
    cases el
    exact absurd (show Value.type "set" = Value.type "list" from ec) (by decide)
  unfold Builtin.Frozenset.updateFrom
  generalize e0 : pyIter = it0
  obtain ⟨c1, c2, c3, c4⟩ := o
  simp only at ec ed
  subst ec ed
  have n1 := F.sub_list_set
  have n2 := F.sub_list_frozenset
  have n3 : (Value.type "list" == Value.type "dict") = false := by decide
  wp_walk
  subst e0
  refine wpAny_pyIter_list hl0 ?_
  refine wpAny_bind (wpAny_runValue ?_)
  have small : S < s.heap.objs.size ∧ l < s.heap.objs.size := ⟨Heap.lt_size ho, Heap.lt_size el⟩
  have far2 : S ∉ [s.heap.objs.size, l] := by
    intro hm
    rcases List.mem_cons.mp hm with e | e
    · exact Nat.ne_of_lt small.1 e
    · exact ne (List.mem_singleton.mp e).symm
  have each : ∀ (i : Nat) (v : Value), us[i]? = some v → ∃ p, ks[i]? = some p ∧ v = .ref p.1 := by
    intro i v hv
    have e : (ks.map fun p => Value.ref p.1)[i]? = some v := by rw [← hi, Array.getElem?_toList]; exact hv
    rw [List.getElem?_map] at e
    obtain ⟨p, e1, e2⟩ := Option.map_eq_some_iff.mp e
    exact ⟨p, e1, e2.symm⟩
  have up : ∀ b o, h0.get? b = some o → (s.heap.push { cls := .type "list_iterator", data := .fields #[.ref l, .int 0 0] }).get? b = some o := fun b o e => Heap.get?_push_of_some _ (keep0 b o e)
  have none_at : h0.get? s.heap.objs.size = none := by
    cases e : h0.get? s.heap.objs.size with
    | none => rfl
    | some o => exact absurd (Heap.lt_size (keep0 _ _ e)) (Nat.lt_irrefl _)
  refine update_loop (h0 := h0) ((Walks.list hh _ l (Nat.ne_of_lt small.2) us).toS) far2 ks len few each tup new0 (fun b hb => ?_) hu us.size 0 _ (Nat.zero_add _) ⟨⟨_, Heap.get?_push_size _ rfl, rfl, rfl⟩, hl0.push _⟩ up ⟨[], #[], 0, _, fresh_set (Heap.get?_push_of_some _ ho), Got.zero ks⟩ fun s' L es ep t mv RS g q => ?_
  · rw [List.mem_singleton.mp hb]; exact none_at
  obtain ⟨hp, gg, dd, tt, oo⟩ := s'
  cases (show gg = s.gens from mv.gens)
  cases (show dd = s.drawn from mv.drawn)
  cases (show oo = s.os from mv.os)
  exact wpAny_pure (h hp tt L es ep t RS (len ▸ g) q)
/-- set(l) of a list of tuples -/
theorem set_of_tups {l : Addr} {us : Array Value} {ks : List (Addr × List Int)} {Q : Value → Shared → Prop} (hh : A.handled = none) (hu : A.units + 8 < cLine) (hl : s.heap.IsList l us) (hi : us.toList = ks.map fun p => Value.ref p.1) (tup : ∀ p ∈ ks, IsT P w s.heap p.2 p.1) (few : ks.length ≤ 1000)
    (h : ∀ h' tk L es ep t, BigS P w h' s.heap.objs.size L es ep t → Got ks ks.length L → (∀ b o, s.heap.get? b = some o → h'.get? b = some o) → Q (.ref s.heap.objs.size) { s with heap := h', toks := tk }) :
    wpAny (model P w) A (call (.type "set") [.ref l]) Q E s := by
  refine set_call ?_
  have top : (s.heap.push (bareSet w)).get? s.heap.objs.size = some (bareSet w) := Heap.get?_push_size _ rfl
  have ty : Shared.TypeIs { s with heap := s.heap.push (bareSet w) } (.ref s.heap.objs.size) "set" := ⟨_, top, rfl⟩
  have none_at : s.heap.get? s.heap.objs.size = none := by
    cases e : s.heap.get? s.heap.objs.size with
    | none => rfl
    | some o => exact absurd (Heap.lt_size e) (Nat.lt_irrefl _)
  unfold Builtin.«set.__init__» noKeywords
  generalize e0 : Builtin.Frozenset.updateFrom = up0
  wp_walk
  subst e0
  refine fill_tups (h0 := s.heap) (by simp [hh]) (by show A.units + 1 + 1 + 1 < cLine; omega) top (hl.push _) hi (fun b o e => Heap.get?_push_of_some _ e) none_at tup few fun h' tk L es ep t RS g q => ?_
  exact wpAny_pure ⟨rfl, h h' tk L es ep t RS g q⟩
end
end BigSet
end DL
namespace DL
open PySem PySem.Spec L2 PyProof.Rows
noncomputable abbrev AL := List (List Int × D)
noncomputable def tkey (ns : List Int) : List Key := ns.map Sum.inl
noncomputable def odT (al : AL) : OT := .od true (al.map fun p => .t (tkey p.1)) (al.map fun p => .fz p.2)
noncomputable def unKey : List Key → Option (List Int)
  | [] => some []
  | .inl i :: r => (unKey r).map (i :: ·)
  | .inr _ :: _ => none
theorem unKey_t : ∀ ns, unKey (tkey ns) = some ns
  | [] => rfl
  | n :: r => by
    show (unKey (tkey r)).map (n :: ·) = _
    rw [unKey_t r]; rfl
theorem unKey_eq : ∀ {k : List Key} {ns : List Int}, unKey k = some ns → k = tkey ns
  | [], ns, h => by cases h; rfl
  | .inl i :: r, ns, h => by
    obtain ⟨m, e, h⟩ := Option.map_eq_some_iff.mp h
    subst h
    rw [unKey_eq e]; rfl
  | .inr _ :: _, ns, h => by cases h
noncomputable def unA : List DKey → List D → Option AL
  | [], [] => some []
  | .t k :: ks, d :: ds => (unKey k).bind fun ns => (unA ks ds).map ((ns, d) :: ·)
  | _, _ => none
noncomputable def unFz : List OT → Option (List D)
  | [] => some []
  | .fz d :: r => (unFz r).map (d :: ·)
  | _ :: _ => none
noncomputable def unT : OT → Option AL
  | .od true ks ts => (unFz ts).bind (unA ks)
  | _ => none
noncomputable def unD : D → Option AL
  | .dic true ks ds => unA ks ds
  | _ => none
noncomputable def dicT (al : AL) : D := .dic true (al.map fun p => .t (tkey p.1)) (al.map fun p => p.2)
theorem unA_al : ∀ al : AL, unA (al.map fun p => .t (tkey p.1)) (al.map fun p => p.2) = some al
  | [] => rfl
  | p :: r => by
    show (unKey (tkey p.1)).bind (fun ns => (unA _ _).map ((ns, p.2) :: ·)) = _
    rw [unKey_t, unA_al r]; rfl
theorem unFz_al : ∀ al : AL, unFz (al.map fun p => .fz p.2) = some (al.map fun p => p.2)
  | [] => rfl
  | p :: r => by
    show (unFz _).map (p.2 :: ·) = _
    rw [unFz_al r]; rfl
theorem unT_odT (al : AL) : unT (odT al) = some al := by
  show (unFz _).bind (unA _) = _
  rw [unFz_al]; exact unA_al al
theorem unD_dicT (al : AL) : unD (dicT al) = some al := unA_al al
theorem view_odT (al : AL) : (odT al).view = dicT al := by
  unfold odT dicT
  rw [OT.view, views_eq, List.map_map]
  rfl
theorem unA_eq : ∀ {ks : List DKey} {ds : List D} {al : AL}, unA ks ds = some al → ks = al.map (fun p => .t (tkey p.1)) ∧ ds = al.map fun p => p.2
  | [], [], al, h => by cases h; exact ⟨rfl, rfl⟩
  | .t k :: ks, d :: ds, al, h => by
    obtain ⟨ns, e1, h⟩ := Option.bind_eq_some_iff.mp h
    obtain ⟨r, e2, h⟩ := Option.map_eq_some_iff.mp h
    subst h
    obtain ⟨h1, h2⟩ := unA_eq e2
    rw [h1, h2, unKey_eq e1]
    exact ⟨rfl, rfl⟩
  | .k _ :: _, _ :: _, al, h => by cases h
  | [], _ :: _, al, h => by cases h
  | .k _ :: _, [], al, h => by cases h
  | .t _ :: _, [], al, h => by cases h
theorem unFz_eq : ∀ {ts : List OT} {ds : List D}, unFz ts = some ds → ts = ds.map .fz
  | [], ds, h => by cases h; rfl
  | .fz d :: r, ds, h => by
    obtain ⟨m, e, h⟩ := Option.map_eq_some_iff.mp h
    subst h
    rw [unFz_eq e]; rfl
  | .ol _ :: _, ds, h => by cases h
  | .od _ _ _ :: _, ds, h => by cases h
  | .oi _ _ _ :: _, ds, h => by cases h
theorem unT_eq {t : OT} {al : AL} (h : unT t = some al) : t = odT al := by
  unfold unT at h
  split at h
  · obtain ⟨ds, e1, h⟩ := Option.bind_eq_some_iff.mp h
    obtain ⟨h1, h2⟩ := unA_eq h
    rw [unFz_eq e1, h1, h2, List.map_map]; rfl
  · cases h
theorem unD_eq {d : D} {al : AL} (h : unD d = some al) : d = dicT al := by
  unfold unD at h
  split at h
  · obtain ⟨h1, h2⟩ := unA_eq h
    rw [h1, h2]; rfl
  · cases h
/-- what is done to it -/
noncomputable def aGet (al : AL) (k : List Int) : Option D := (al.find? fun p => decide (p.1 = k)).map (·.2)
noncomputable def aPut (al : AL) (k : List Int) (d : D) : AL := if (al.any fun p => decide (p.1 = k)) = true then al.map (fun p => if p.1 = k then (p.1, d) else p) else al ++ [(k, d)]
noncomputable def aDrop (al : AL) (k : List Int) : AL := al.filter fun p => decide (p.1 ≠ k)
noncomputable def tupIs : D → Option (List Int)
  | .tup xs => intsOf xs
  | _ => none
/-- the two lists -/
noncomputable def RAL (K : PySem.W.Frag) (F : Hp) (kvs : List (List Key × V)) (al : AL) : Prop := Paired (fun (p : List Key × V) (q : List Int × D) => p.1 = tkey q.1 ∧ Rep K F p.2 q.2) kvs al
theorem tkey_inj : ∀ {a b : List Int}, tkey a = tkey b → a = b
  | [], [], _ => rfl
  | [], _ :: _, h => by cases h
  | _ :: _, [], h => by cases h
  | x :: a, y :: b, h => by
    have h1 := List.cons.inj h
    rw [Sum.inl.inj h1.1, tkey_inj h1.2]
theorem tkey_kV (ns : List Int) : (tkey ns).map kV = ns.map V.int := by
  unfold tkey
  rw [List.map_map]; rfl
section
variable {K : PySem.W.Frag} {F F' : Hp} {kvs : List (List Key × V)} {al : AL}
theorem RAL.mono (e : Same F F') : ∀ {kvs : List (List Key × V)} {al : AL}, RAL K F kvs al → RAL K F' kvs al
  | _, _, .nil => .nil
  | _, _, .cons h r => .cons ⟨h.1, h.2.mono e⟩ (RAL.mono e r)
theorem RAL.of_reps : ∀ {kvs : List (List Key × V)} {al : AL}, al.map (fun p => DKey.t (tkey p.1)) = kvs.map (fun p => DKey.t p.1) → Reps K F (kvs.map (·.2)) (al.map fun p => p.2) → RAL K F kvs al
  | [], [], _, _ => .nil
  | [], _ :: _, h, _ => by cases h
  | _ :: _, [], h, _ => by cases h
  | p :: kvs, q :: al, h, r => by
    have h1 := List.cons.inj h
    cases r with
    | cons r1 r2 => exact .cons ⟨(DKey.t.inj h1.1).symm, r1⟩ (RAL.of_reps h1.2 r2)
theorem RAL.keys : ∀ {kvs : List (List Key × V)} {al : AL}, RAL K F kvs al → al.map (fun p => DKey.t (tkey p.1)) = kvs.map (fun p => DKey.t p.1)
  | _, _, .nil => rfl
  | _, _, .cons h r => by rw [List.map_cons, List.map_cons, RAL.keys r, h.1]
theorem RAL.reps : ∀ {kvs : List (List Key × V)} {al : AL}, RAL K F kvs al → Reps K F (kvs.map (·.2)) (al.map fun p => p.2)
  | _, _, .nil => .nil
  | _, _, .cons h r => .cons h.2 (RAL.reps r)
theorem RAL.length : ∀ {kvs : List (List Key × V)} {al : AL}, RAL K F kvs al → kvs.length = al.length
  | _, _, .nil => rfl
  | _, _, .cons _ r => by rw [List.length_cons, List.length_cons, RAL.length r]
theorem RAL.get (k : List Int) : ∀ {kvs : List (List Key × V)} {al : AL}, RAL K F kvs al → (aGet al k = none ∧ valV kvs (tkey k) = none) ∨ ∃ d v, aGet al k = some d ∧ valV kvs (tkey k) = some v ∧ Rep K F v d
  | _, _, .nil => .inl ⟨rfl, rfl⟩
  | p :: kvs, q :: al, .cons h r => by
    by_cases e : q.1 = k
    · have e2 : p.1 = tkey k := by rw [h.1, e]
      exact .inr ⟨q.2, p.2, by simp [aGet, e], valV_pos e2, h.2⟩
    · have e2 : ¬ p.1 = tkey k := fun z => e (tkey_inj (h.1.symm.trans z))
      rw [valV_neg e2]
      have e3 : aGet (q :: al) k = aGet al k := by simp [aGet, e]
      rw [e3]
      exact RAL.get k r
theorem RAL.any (k : List Int) : ∀ {kvs : List (List Key × V)} {al : AL}, RAL K F kvs al → (kvs.any fun p => decide (p.1 = tkey k)) = al.any fun p => decide (p.1 = k)
  | _, _, .nil => rfl
  | p :: kvs, q :: al, .cons h r => by
    rw [List.any_cons, List.any_cons, RAL.any k r]
    congr 1
    by_cases e : q.1 = k
    · rw [decide_eq_true e, decide_eq_true (by rw [h.1, e])]
    · rw [decide_eq_false e, decide_eq_false fun z => e (tkey_inj (h.1.symm.trans z))]
theorem RAL.repl (k : List Int) {v : V} {d : D} (rd : Rep K F v d) : ∀ {kvs : List (List Key × V)} {al : AL}, RAL K F kvs al → RAL K F (kvs.map fun p => if p.1 = tkey k then (tkey k, v) else p) (al.map fun p => if p.1 = k then (p.1, d) else p)
  | _, _, .nil => .nil
  | p :: kvs, q :: al, .cons h r => by
    refine .cons ?_ (RAL.repl k rd r)
    show (if p.1 = tkey k then (tkey k, v) else p).1 = tkey (if q.1 = k then (q.1, d) else q).1 ∧ Rep K F (if p.1 = tkey k then (tkey k, v) else p).2 (if q.1 = k then (q.1, d) else q).2
    by_cases e : q.1 = k
    · have e2 : p.1 = tkey k := by rw [h.1, e]
      rw [if_pos e, if_pos e2]
      exact ⟨by rw [e], rd⟩
    · have e2 : ¬ p.1 = tkey k := fun z => e (tkey_inj (h.1.symm.trans z))
      rw [if_neg e, if_neg e2]
      exact h
theorem paired_app {α β : Type} {R : α → β → Prop} : ∀ {a : List α} {b : List β} {c : List α} {d : List β}, Paired R a b → Paired R c d → Paired R (a ++ c) (b ++ d)
  | _, _, _, _, .nil, h => h
  | _, _, _, _, .cons x r, h => .cons x (paired_app r h)
theorem RAL.put (r : RAL K F kvs al) (k : List Int) {v : V} {d : D} (rd : Rep K F v d) : RAL K F (putK kvs (tkey k) v) (aPut al k d) := by
  have e := RAL.any k r
  unfold putK aPut
  by_cases c : (al.any fun p => decide (p.1 = k)) = true
  · rw [if_pos c]
    rw [c] at e
    first
      | (rw [if_pos e]
         have z := RAL.repl k rd r
         refine (show RAL K F _ _ from ?_)
         have m : (kvs.map fun p => if p.1 = tkey k then (tkey k, v) else p) = kvs.map fun p => if p.1 = tkey k then (p.1, v) else p := List.map_congr_left fun p _ => by
           by_cases q : p.1 = tkey k
           · rw [if_pos q, if_pos q, q]
           · rw [if_neg q, if_neg q]
         first | exact z | (rw [← m]; exact z))
  · rw [if_neg c]
    have c' : (kvs.any fun p => decide (p.1 = tkey k)) = false := by
      rw [e]; exact Bool.eq_false_iff.mpr c
    rw [if_neg (by rw [c']; decide)]
    exact paired_app r (.cons ⟨rfl, rd⟩ .nil)
theorem RAL.drop (k : List Int) : ∀ {kvs : List (List Key × V)} {al : AL}, RAL K F kvs al → RAL K F (dropK kvs (tkey k)) (aDrop al k)
  | _, _, .nil => .nil
  | p :: kvs, q :: al, .cons h r => by
    have ih := RAL.drop k r
    by_cases e : q.1 = k
    · have e2 : p.1 = tkey k := by rw [h.1, e]
      have l : dropK (p :: kvs) (tkey k) = dropK kvs (tkey k) := by
        unfold dropK; rw [List.filter_cons_of_neg (by simp [e2])]
      have l2 : aDrop (q :: al) k = aDrop al k := by
        unfold aDrop; rw [List.filter_cons_of_neg (by simp [e])]
      rw [l, l2]; exact ih
    · have e2 : ¬ p.1 = tkey k := fun z => e (tkey_inj (h.1.symm.trans z))
      have l : dropK (p :: kvs) (tkey k) = p :: dropK kvs (tkey k) := by
        unfold dropK; rw [List.filter_cons_of_pos (by simpa using e2)]
      have l2 : aDrop (q :: al) k = q :: aDrop al k := by
        unfold aDrop; rw [List.filter_cons_of_pos (by simpa using e)]
      rw [l, l2]; exact .cons h ih
end
section
variable {K : PySem.W.Frag} {pv : List V} {G F H : Hp} {sd : SD} {σ : L2.St}
theorem repO_odT {al : AL} {v : V} {P : Addr → Prop} (h : RepO K F H (odT al) v P) : ∃ a kvs, v = .ref a ∧ P a ∧ H a = some (.dT kvs) ∧ RAL K F kvs al := by
  unfold odT at h
  unfold RepO at h
  obtain ⟨a, rfl, pa, h⟩ := h
  rcases h with ⟨e, _⟩ | ⟨_, kvs, ha, hk, r⟩
  · cases e
  · have r' := repOs_fz (ds := al.map fun p => p.2) (by rw [List.map_map]; exact r)
    exact ⟨a, kvs, rfl, pa, ha, RAL.of_reps hk r'⟩
theorem repO_odT_of {al : AL} {a : Addr} {kvs : List (List Key × V)} {P : Addr → Prop} (pa : P a) (ha : H a = some (.dT kvs)) (r : RAL K F kvs al) : RepO K F H (odT al) (.ref a) P := by
  unfold odT
  unfold RepO
  refine ⟨a, rfl, pa, .inr ⟨rfl, kvs, ha, r.keys, ?_⟩⟩
  have z := repOs_of (H := H) (fun x => P x ∧ x ≠ a) r.reps
  rw [List.map_map] at z
  exact z
theorem StR.dtree {i : Nat} {al : AL} (s : StR K pv G F sd σ H) (h : sd.tree i = some (odT al)) : ∃ a kvs, σ[i]? = some (some (.ref a)) ∧ H a = some (.dT kvs) ∧ RAL K F kvs al ∧
    ∀ kvs' al', RAL K F kvs' al' → StR K pv G F (sd.put i (odT al')) σ (upd H a (.dT kvs')) := by
  obtain ⟨v, P, h1, h2, h3, h4⟩ := s.mut h
  obtain ⟨a, kvs, rfl, pa, ha, r⟩ := repO_odT h2
  refine ⟨a, kvs, h1, ha, r, fun kvs' al' r' => h4 _ _ (fun b nb u e => ?_) (fun b pb => ?_) (repO_odT_of pa upd_same r')⟩
  · rw [upd_ne fun z => nb (by rw [z]; exact pa)]; exact e
  · by_cases z : b = a
    · rw [z, upd_same]; simp
    · rw [upd_ne z]; exact h3 b pb
theorem rep_key {v : V} {d : D} {ns : List Int} (r : Rep K F v d) (h : tupIs d = some ns) : ∃ b, v = .ref b ∧ F b = some (.tup ((tkey ns).map kV)) := by
  unfold tupIs at h
  split at h
  · cases r with
    | tup q rr =>
      obtain ⟨h1, _⟩ := reps_ints rr h
      exact ⟨_, rfl, by rw [tkey_kV, ← h1]; exact q⟩
  · cases h
end
section
variable {X : Cx} {pv : List V} {W : WX} {p q k l : Bool} {e f : Expr}
/-- {} -/
noncomputable def mDn : SD → ER OT := fun sd => .ok (odT []) sd
theorem do_dn {pos : Pos} : DO X pv W true (.Dict [] [] pos) mDn := by
  refine ⟨_, pe_dnewT, fun G F sd σ H Q s => ?_⟩
  intro hQ p hp
  obtain ⟨o, w⟩ := id s
  have n := w.fresh hp
  have st : StR1 X.K pv G F sd σ (upd H p (.dT [])) (.ref p) (odT []) := by
    refine ⟨o, fun x => x = p, w.grow (Same.upd hp) (Same.refl _) (w.fh.trans (Same.upd hp)) (fun a ha => .inl ha), repO_odT_of rfl upd_same .nil, fun a ha => ?_⟩
    subst ha
    exact ⟨by rw [upd_same]; simp, n.1, n.2.1, n.2.2⟩
  exact hQ _ _ _ (Same.refl _) st.drop st fun _ => ⟨Same.upd hp, rfl⟩
theorem aget_some {K : PySem.W.Frag} {F : Hp} {kvs : List (List Key × V)} {al : AL} (r : RAL K F kvs al) (ns : List Int) : (valV kvs (tkey ns)).isSome = (aGet al ns).isSome := by
  rcases r.get ns with ⟨h1, h2⟩ | ⟨d, v, h1, h2, _⟩ <;> rw [h1, h2] <;> rfl
/-- x[e] = f -/
noncomputable def putEnd (i : Nat) (d y : D) (sd2 : SD) : Fl := match tupIs y, (sd2.tree i).bind unT with
  | some ns, some al => if al.length < 16777216 then .nx (sd2.put i (odT (aPut al ns d))) else .bad
  | _, _ => .bad
noncomputable def sDPutT (i : Nat) (mk mv : SD → ER D) : SD → Fl := fun sd => (mv sd).stm fun d sd1 => match sd1.tree i with
  | some _ => (mk sd1).stm (putEnd i d)
  | none => .bad
theorem ds_dputT {i : Nat} {x : Str} {pp sp pos : Pos} {mk mv : SD → ER D} (hu : X.A.units + 1 < cLine) (hx : PE X (.Name x pp) (tVar i)) (hk : DX X pv W p true e mk) (hv : DX X pv W q true f mv)
    (hs : swapsWith f (some (.Subscript (.Name x pp) e sp)) pos.line X.env = pure false := by rfl) : DS X pv W (.Assign [.Subscript (.Name x pp) e sp] f pos) (sDPutT i mk mv) := by
  obtain ⟨tk, a1, a2⟩ := hk
  obtain ⟨tv, b1, b2⟩ := hv
  refine ⟨_, ps_dput hu hx a1 b1 hs, fun G F sd σ H D s => ?_⟩
  refine Meets.stm (b2 G F sd σ H _ s) fun v F1 H1 d sd1 s1 s2 s3 => ?_
  have r3 : Rep X.K F1 v d := s3
  split
  · rename_i t0 e0
    obtain ⟨xv, _, h0, _⟩ := s2.tree e0
    refine MeetsS.imp (Meets.stm (a2 G F1 sd1 σ H1 (fun y H3 => ∃ a H4, xv = .ref a ∧ DPut H3 a y v H4 ∧ D.nx σ H4) s2) (f := putEnd i d) (D := D) fun y F2 H2 dy sd2 t1 t2 t3 => ?_) fun z => ⟨xv, h0, z⟩
    unfold putEnd
    split
    · rename_i ns al e1 e2
      split
      · rename_i hl
        obtain ⟨t, e3, e4⟩ := Option.bind_eq_some_iff.mp e2
        rw [unT_eq e4] at e3
        obtain ⟨a, kvs, h1, h2, r, h4⟩ := t2.dtree e3
        obtain ⟨b, rfl, h3⟩ := rep_key (show Rep X.K F2 y dy from t3) e1
        rw [h0] at h1; cases h1
        intro hQ
        exact ⟨a, _, rfl, DPut.t h2 (t2.fh _ _ h3) (by rw [r.length, sizeLine_eq]; exact hl), hQ F2 σ _ (Same.refl _) (h4 _ _ (r.put ns (r3.mono t1)))⟩
      · exact True.intro
    · exact True.intro
  · exact True.intro
end
section
variable {X : Cx} {pv : List V} {W : WX} {p q k l : Bool} {e f : Expr}
theorem RAL.getD {K : PySem.W.Frag} {F : Hp} {kvs : List (List Key × V)} {al : AL} (r : RAL K F kvs al) (ns : List Int) {z : V} {dz : D} (rz : Rep K F z dz) : Rep K F ((valV kvs (tkey ns)).getD z) ((aGet al ns).getD dz) := by
  rcases r.get ns with ⟨h1, h2⟩ | ⟨d, v, h1, h2, h3⟩
  · rw [h1, h2]; exact rz
  · rw [h1, h2]; exact h3
theorem rep_dicT {K : PySem.W.Frag} {F : Hp} {v : V} {al : AL} (r : Rep K F v (dicT al)) : ∃ a kvs, v = .ref a ∧ Rd F a (.dT kvs) ∧ RAL K F kvs al := by
  unfold dicT at r
  generalize e1 : (al.map fun p => DKey.t (tkey p.1)) = ks at r
  generalize e2 : (al.map fun p => p.2) = ds at r
  cases r with
  | dicT q rr => subst e2; exact ⟨_, _, rfl, q, RAL.of_reps e1 rr⟩
end
end DL
set_option maxHeartbeats 3200000
namespace DL
open PySem PySem.Spec L2 PyProof.Rows
section
variable {X : Cx} {pv : List V} {W : WX} {p q k l : Bool} {e f : Expr}
/-- the different ones -/
noncomputable def ddT : List (List Int) → List (List Int)
  | [] => []
  | x :: r => if x ∈ ddT r then ddT r else x :: ddT r
theorem mem_ddT {x : List Int} : ∀ {l : List (List Int)}, x ∈ ddT l ↔ x ∈ l
  | [] => Iff.rfl
  | y :: r => by
    rw [ddT, List.mem_cons]
    split
    · rename_i h
      rw [mem_ddT]
      exact ⟨.inr, fun z => z.elim (fun e => e ▸ mem_ddT.mp h) id⟩
    · rw [List.mem_cons, mem_ddT]
theorem nodup_ddT : ∀ l : List (List Int), (ddT l).Nodup
  | [] => List.nodup_nil
  | y :: r => by
    rw [ddT]
    split
    · exact nodup_ddT r
    · rename_i h
      exact List.nodup_cons.mpr ⟨h, nodup_ddT r⟩
end
namespace BigSet
section
variable {P : Program} {w : World} {H : Hp} {h : Heap} {a : Addr} {L : List (Addr × List Int)}
/-- the set at a, but for the tuples -/
noncomputable def Big0 (P : Program) (w : World) (h : Heap) (a : Addr) (L : List (Addr × List Int)) : Prop := ∃ (es : Array (Int × Value)) (ep : Nat) (t : SetTable), (∃ o, h.get? a = some o ∧ o.ExactSet ∧ o.data = .set es ep t) ∧ es.toList = rowsOf P w L ∧ Tb t (L.map fun p => thash P w p.2) ∧ (L.map (·.2)).Nodup ∧
  t.plain = true ∧ (w.params.followText "set-order" = true ∨ t.led = true) ∧ L.length * 5 < t.mask * 3 ∧ L.length ≤ 1000
noncomputable def BigO (P : Program) (w : World) (a : Addr) (L : List (Addr × List Int)) : HO := .ext fun h => Big0 P w h a L
theorem BigS.bare {es : Array (Int × Value)} {ep : Nat} {t : SetTable} (R : BigS P w h a L es ep t) : Big0 P w h a L := ⟨es, ep, t, R.ob, R.rows, R.tab, R.nd, R.plain, R.led, R.room, R.few⟩
theorem bigO_new (R : Big0 P w h a L) : ObjOk P w H h a (BigO P w a L) := by
  have ⟨es, ep, t, ⟨o, ho, r⟩, q⟩ := R
  refine ⟨R, ⟨o, ho⟩, fun h1 h2 x k => ?_⟩
  obtain ⟨es', ep', t', ⟨o', ho', r'⟩, q'⟩ := x
  exact ⟨es', ep', t', ⟨o', k o' ho', r'⟩, q'⟩
end
section
variable {X : Cx}
noncomputable def rSetB (K : PySem.W.Frag) (P : Program) (w : World) : List V → Hp → VK → Prop := fun xs H Q => ∃ (l : Addr) (ks : List (Addr × List Int)), xs = [V.ref l] ∧ SqL K H l (ks.map fun p => V.ref p.1) ∧ (∀ p ∈ ks, SqT K H p.1 (p.2.map V.int)) ∧ ks.length ≤ 1000 ∧
  ∀ a L, H a = none → (∀ p ∈ L, p ∈ ks) → (∀ p ∈ ks, p.2 ∈ L.map (·.2)) → (L.map (·.2)).Nodup → Q (.ref a) (upd H a (BigO P w a L))
theorem cr_setB (hc : X.calm = true) (hu : X.A.units + 64 < cLine) : CallR X (.type "set") (rSetB X.K X.prog X.w) := by
  intro pins s σ H xs us Q I r h
  obtain ⟨l, ks, rfl, hl, hk, hf, q⟩ := h
  rw [Vals.ref1 r]
  obtain ⟨its, rv, pl, hz⟩ := I.list hl
  have hn : H s.heap.objs.size = none := I.hok.fresh (Nat.le_refl _)
  refine set_of_tups (P := X.prog) (w := X.w) (ks := ks) (I.ok.hd hc) (by omega) pl.isList (by simpa using refs_of_vals rv) (fun p hp => Inv.isT I (hk p hp)) hf fun h' tk L es ep t R g k => ?_
  refine ⟨.ref s.heap.objs.size, upd H s.heap.objs.size (BigO X.prog X.w s.heap.objs.size L), I.laid (t' := tk) k (Nat.le_refl _) (bigO_new R.bare), rfl, q _ L hn (fun p hp => List.mem_of_mem_take (g.sub p hp)) (fun p hp => g.all p (by rw [List.take_length]; exact hp)) R.nd⟩
noncomputable def rLenB (P : Program) (w : World) : List V → Hp → VK → Prop := fun vs H Q => ∃ (a : Addr) (L : List (Addr × List Int)), vs = [V.ref a] ∧ H a = some (BigO P w a L) ∧ Q (.int L.length) H
theorem cr_lenB : CallR X (.builtin "len") (rLenB X.prog X.w) := by
  intro pins s σ H vs us Q I r h
  obtain ⟨a, L, rfl, ha, q⟩ := h
  obtain ⟨es, ep, t, ⟨o, ho, hex, hd⟩, h2, h3, _, _, _, h7, h8⟩ : Big0 X.prog X.w s.heap a L := (I.hok a _ ha).1
  rw [Vals.ref1 r]
  have sz := rows_len h2
  exact call_len_set ho hex hd (h3.fits (by rw [List.length_map, sz]) (by rw [sz]; omega)) (by rw [sz]; omega) ⟨.int L.length, H, I.tok _, ⟨_, by rw [sz]⟩, q⟩
end
end BigSet
section
variable {X : Cx} {pv : List V} {W : WX} {p q k l : Bool} {e f : Expr} {pos : Pos}
noncomputable def dLS : List D → Option D
  | [.lst ds] => (tupsOf ds).bind fun ps => if ps.length ≤ 1000 then some (.int (ddT ps).length) else none
  | _ => none
theorem paired_rows {K : PySem.W.Frag} {F : Hp} : ∀ {vs : List V} {ps : List (List Int)}, Paired (fun x ns => ns ≠ [] ∧ ∃ t, x = V.ref t ∧ SqT K F t (ns.map V.int)) vs ps → ∃ ks : List (Addr × List Int), vs = ks.map (fun p => V.ref p.1) ∧ ps = ks.map (·.2) ∧ ∀ p ∈ ks, p.2 ≠ [] ∧ SqT K F p.1 (p.2.map V.int)
  | _, _, .nil => ⟨[], rfl, rfl, (fun q hq => by cases hq)⟩
  | _, _, .cons (b := ns) ⟨ne, t, e, q⟩ r => by
    obtain ⟨ks, h1, h2, h3⟩ := paired_rows r
    subst e
    refine ⟨(t, ns) :: ks, by rw [h1]; rfl, by rw [h2]; rfl, fun p hp => ?_⟩
    rcases List.mem_cons.mp hp with z | z
    · rw [z]; exact ⟨ne, q⟩
    · exact h3 p z
theorem set_same {ks L : List (Addr × List Int)} (h1 : ∀ p ∈ L, p ∈ ks) (h2 : ∀ p ∈ ks, p.2 ∈ L.map (·.2)) (h3 : (L.map (·.2)).Nodup) : (L.map (·.2)).Perm (ddT (ks.map (·.2))) := by
  refine (List.perm_ext_iff_of_nodup h3 (nodup_ddT _)).mpr fun x => ?_
  rw [mem_ddT]
  constructor
  · intro h
    obtain ⟨p, hp, e⟩ := List.mem_map.mp h
    exact List.mem_map.mpr ⟨p, h1 p hp, e⟩
  · intro h
    obtain ⟨p, hp, e⟩ := List.mem_map.mp h
    rw [← e]; exact h2 p hp
theorem sortT_perm_eq {a b : List (List Int)} (h : a.Perm b) : sortT a = sortT b := sortT_uniq ((sortT_perm a).trans h) (sortT_pw a)
noncomputable def rLSX (K : PySem.W.Frag) (P : Program) (w : World) : List V → Hp → VK → Prop := fun xs H Q => BigSet.rSetB K P w xs H fun v H1 => BigSet.rLenB P w [v] H1 Q
theorem dx_lenSetX {x1 x2 : Str} {n1 n2 p1 : Pos} {m : SD → ER (List D)} (hc : X.calm = true) (hu : X.A.units + 64 < cLine) (g1 : Gl X x1) (m1 : X.mg x1 = none) (v1 : bootBuiltins x1 = some (.builtin "len")) (g2 : Gl X x2) (m2 : X.mg x2 = none) (v2 : bootBuiltins x2 = some (.type "set")) (ha : DA X pv W p true [e] m)
    (k1 : x1 ≠ "__name__" := by decide) (k2 : (x1 == ("__debug__" : Str)) = false := by decide) (k3 : x2 ≠ "__name__" := by decide) (k4 : (x2 == ("__debug__" : Str)) = false := by decide)
    (he : starEach [e] X.env = (false, eval e X.env) :: starEach [] X.env := by rfl) : DX X pv W p true (.Call (.Name x1 n1) [.Call (.Name x2 n2) [e] [] p1] [] pos) (mCall dLS m) := by
  obtain ⟨ta, a1, a2⟩ := ha
  refine ⟨_, pe_callB BigSet.cr_lenB g1 m1 v1 (pa_cons (pe_callTy (BigSet.cr_setB hc hu) g2 m2 v2 a1 k3 k4 he) pa_nil) k1 k2, fun G F sd σ H Q s => ?_⟩
  refine Meets.bindL (a2 G F sd σ H (fun xs H1 => rLSX X.K X.prog X.w xs H1 Q) s) fun xs F1 H1 ds sd1 s1 s2 s3 s4 => ?_
  cases e : dLS ds with
  | none => exact True.intro
  | some cs =>
    intro hQ
    unfold dLS at e
    split at e
    · rename_i ds0
      obtain ⟨v, rfl, r1⟩ := reps1 s3
      cases r1 with
      | @lst a vs _ hs t =>
        obtain ⟨ps, e2, e⟩ := Option.bind_eq_some_iff.mp e
        split at e
        · rename_i hlt
          cases e
          obtain ⟨h1, h2⟩ := tups_rep t e2
          obtain ⟨ks, k1, k2, k3⟩ := paired_rows h1
          refine ⟨a, ks, rfl, by rw [← k1]; exact s2.fh.seq (.inl hs), fun p hp => Same.sqt s2.fh (k3 p hp).2, by rw [k2] at hlt; simpa using hlt, fun a1 L hn h1 h2 h3 => ?_⟩
          refine ⟨a1, L, rfl, upd_same, ?_⟩
          have sj := s2.junk (o := BigSet.BigO X.prog X.w a1 L) hn
          have ln : L.length = (ddT ps).length := by
            have z := (set_same h1 h2 h3).length_eq
            rw [List.length_map, ← k2] at z
            exact z
          rw [ln]
          exact hQ _ _ _ (Same.refl _) sj (.int _) fun _ => ⟨Same.upd hn, rfl⟩
        · cases e
    · cases e
end
end DL
set_option maxHeartbeats 3200000
namespace DL
open PySem PySem.Spec L2 PyProof.Rows
end DL
namespace DL
open PySem PySem.Spec L2 PyProof.Rows
theorem StR.tups {K : PySem.W.Frag} {pv : List V} {G F H : Hp} {sd : SD} {σ : L2.St} (s : StR K pv G F sd σ H) : ∀ a xs, H a = some (.tup xs) → F a = some (.tup xs) := let ⟨_, W⟩ := s; W.tf
end DL
set_option maxHeartbeats 3200000
namespace DL
open PySem PySem.Spec L2 PyProof.Rows
section
variable {X : Cx}
/-- one entry -/
theorem enterT {pins : List (Addr × Obj)} {σ : L2.St} {H : Hp} {s : Shared} {E : Value → Shared → Prop} {D b : Addr} {kvs : List (List Key × V)} {k : List Key} {v : V} {u r : Value} {Q : Unit → Shared → Prop} (hu : X.A.units < cLine) (I : Inv X pins σ H s) (hD : H D = some (.dT kvs)) (hz : kvs.length < sizeLine)
    (hb : H b = some (.tup (k.map kV))) (ry : RelV (V.ref b) u) (rv : RelV v r) (h : ∀ s', Inv X pins σ (upd H D (.dT (putK kvs k v))) s' → Q () s') : wpAny (model X.prog X.w) X.A (dictSet D u r) Q E s := by
  cases ry
  obtain ⟨z, hd, xs, rel, dd⟩ := dt_of I.hok hD
  have lx : xs.length ≤ sizeLine := Paired.length rel ▸ z
  have lp : (putK kvs k v).length ≤ sizeLine := by
    have := length_putK kvs k v
    omega
  refine wpAny_dictSet_heap (hsz := lx) (show (tupleKind (mixKind X.prog X.w)).room X.A from hu) (key_of I.hok hb) dd fun h' dd' sb => h _ ?_
  obtain ⟨q, es, ep, hq, h2, h3, h4, _, h5⟩ := dd'
  refine d_write I (by rw [hD]; exact True.intro) sb ⟨q, hq⟩ ⟨lp, hd, _, (rel.put k hb rv).keeps fun c ys ec => ?_, q, es, ep, hq, h2, h3, h4, h5⟩
  rw [upd_ne (ne_of ec hD (fun z => nomatch z))]
  exact ec
/-- the comprehension: Dp the new dict; each turn puts one pair in -/
noncomputable def tDcT (wi : TI) (g : TG) (tk tv : TE) (vs : List Nat) : TE := fun σ H Q => wi σ H fun J H1 => ∀ Dp, H1 Dp = none → ∃ W : Nat → Nat → Hp → Prop, (∃ m, W 0 m (upd H1 Dp (.dT []))) ∧ ∀ i m H, W i m H →
  (J.stop i H ∧ Q (.ref Dp) H) ∨ (J.go i H ∧ ∃ Nx : Hp → Prop, (∀ H', Nx H' → ∃ m', m' < m ∧ W (i + 1) m' H') ∧ ∀ x H', J.yld i H x H' → g x (wipe σ vs) H' fun σ2 H2 => wipe σ2 vs = wipe σ vs ∧
    tk σ2 H2 fun y H3 => tv σ2 H3 fun z H4 => ∃ kvs k b, y = .ref b ∧ H4 Dp = some (.dT kvs) ∧ H4 b = some (.tup (k.map kV)) ∧ kvs.length < sizeLine ∧ Nx (upd H4 Dp (.dT (putK kvs k z))))
theorem pe_dcT {kx vx tg iter : Expr} {scope : Scope} {own : List (Str × Nat)} {pos : Pos} {wi : TI} {g : TG} {tk tv : TE} (hu : X.A.units < cLine) (calm : X.calm = true) (nd : X.N.Nodup) (pi : PI X tg iter wi) (blk : BlkOk X.N X.env.scope scope own)
    (pg : ∀ (s : Shared) (H : Hp) (C : Addr) (cl : List (Str × Addr)) (fp : List Addr), PG (X.blk s H scope (compEnvC scope cl C X.env) fp) tg g)
    (pk : ∀ (s : Shared) (H : Hp) (C : Addr) (cl : List (Str × Addr)) (fp : List Addr), PE (X.blk s H scope (compEnvC scope cl C X.env) fp) kx tk)
    (pv : ∀ (s : Shared) (H : Hp) (C : Addr) (cl : List (Str × Addr)) (fp : List Addr), PE (X.blk s H scope (compEnvC scope cl C X.env) fp) vx tv) (fold : ∀ x, foldedSetIterable iter X.env x = pure x := by intro _; rfl) :
    PE X (.DictComp kx vx [⟨tg, iter, [], 0⟩] scope pos) (tDcT wi g tk tv (own.map (·.2))) := by
  refine ⟨fun pins s σ H Q I want => ?_⟩
  rw [arm_eval_DictComp]
  have cells : ∀ y ∈ scope.names, y.2 = .free → ∃ c, X.env.cells.lookup y.1 = some c := fun y hy e => (blk.free y hy e).elim (fun k => I.ok.has _ (.inl k)) fun k => I.ok.has _ (.inr k)
  refine wpAny_comprehension_free (use := none) rfl fold (closure_ok cells) blk.kind (fun y hy e => by rw [blk.uniq y hy, e]) ?_
  refine thn (pi.run pins s σ H _ I want) fun xv s1 hx => thn hx fun itv s2 ⟨it, fp, tn, J, H2, ei, I2, T, st2, f2, more⟩ => ?_
  subst ei
  refine wpAny_newObj_type (newEnv_comp ?_)
  generalize eDp : s2.heap.objs.size = Dp
  obtain ⟨W, ⟨m0, w0⟩, turn⟩ := more Dp (I2.hok.fresh (Nat.le_of_eq eDp))
  -- the dict is laid
  generalize e3 : ({ s2 with heap := s2.heap.push { cls := .type "dict", data := .dict #[] } } : Shared) = s3
  have heap3 : s3.heap = s2.heap.push { cls := .type "dict", data := .dict #[] } := by rw [← e3]
  have I3 : Inv X pins σ (upd H2 Dp (.dT [])) s3 := by
    rw [← e3, ← eDp]
    exact I2.laid (t' := s2.toks) (fun b o e => Heap.get?_push_of_some _ e) (Nat.le_refl _) (dt_empty s2.heap I2.big)
  have old : ∀ b ∈ fp, b < s2.heap.objs.size := fun b hb => let ⟨_, e, _⟩ := T.obj _ _ st2 b hb; Heap.lt_size e
  have f3 : ∀ b ∈ fp, FpOk X pins (upd H2 Dp (.dT [])) b ∧ b < s3.heap.objs.size := fun b hb => by
    have nb : b ≠ Dp := by rw [← eDp]; exact Nat.ne_of_lt (old b hb)
    refine ⟨⟨by rw [upd_ne nb]; exact (f2 b hb).1, (f2 b hb).2⟩, ?_⟩
    rw [heap3, Heap.size_push]
    exact Nat.lt_succ_of_lt (old b hb)
  have st3 : tn 0 s3.heap := T.keep _ _ _ st2 fun b _ o e => heap3 ▸ Heap.get?_push_of_some _ e
  have I4 := block_start I3 blk nd f3
  generalize eC : cellsFrom (s3.heap.objs.size + 1) scope.names (cloFrom X.env.cells scope.names []) = cl at I4 ⊢
  generalize eH3 : upd H2 Dp (.dT []) = H3 at I3 I4 w0 f3
  have g1 := pg s3 H3 s3.heap.objs.size cl fp
  have k1 := pk s3 H3 s3.heap.objs.size cl fp
  have v1 := pv s3 H3 s3.heap.objs.size cl fp
  show codeAny _ _ (.compStart (.DictComp kx vx [⟨tg, iter, [], 0⟩] scope pos) 0 (.ref it) (.ref Dp) (compEnvC scope cl s3.heap.objs.size X.env)) (compPost (model X.prog X.w) X.A X.xe none (EP X pins σ Q) (.ref Dp) s3.heap.objs.size) { s3 with heap := pushCells (s3.heap.push { cls := .type "dict", data := .dict #[] }) scope.names }
  generalize eE : compEnvC scope cl s3.heap.objs.size X.env = env at I4 g1 k1 v1 ⊢
  have loc : env.locals = s3.heap.objs.size := by rw [← eE]; rfl
  generalize e4 : ({ s3 with heap := pushCells (s3.heap.push { cls := .type "dict", data := .dict #[] }) scope.names } : Shared) = s4 at I4 ⊢
  have st4 : tn 0 s4.heap := T.keep _ _ _ st3 fun b _ o e => by rw [← e4]; exact pushCells_keeps _ _ _ _ (Heap.get?_push_of_some _ e)
  have own_fp : ∀ {σ' : L2.St} {H' : Hp} {s' : Shared}, Inv (X.blk s3 H3 scope env fp) [] σ' H' s' → (∀ b ∈ fp, H' b = none) → ∀ b ∈ fp, FpOk (X.blk s3 H3 scope env fp) [] H' b := fun {σ' H' s'} I' hn b hb =>
    ⟨hn b hb, (I'.ok.exf b hb).1, I'.ok.exfs b hb, .inl hb, fun x c e => (I'.ok.exf b hb).2 x c e, fun p hp => absurd (show p ∈ ([] : List (Addr × Obj)) ++ [] from hp) (by simp)⟩
  have loop : codeAny (model X.prog X.w) X.A (.compLoop (.DictComp kx vx [⟨tg, iter, [], 0⟩] scope pos) 0 (.ref it) (.ref Dp) env) (compPost (model X.prog X.w) X.A X.xe none (EP X pins σ Q) (.ref Dp) s3.heap.objs.size) s4 := by
    refine compLoop_anyD (fun n s' => ∃ i H', Inv (X.blk s3 H3 scope env fp) [] (wipe σ (own.map (·.2))) H' s' ∧ tn i s'.heap ∧ (∀ b ∈ fp, H' b = none) ∧ W i n H') ?_ m0 ⟨0, H3, I4, st4, fun b hb => (f3 b hb).1.1, w0⟩
    rintro n s5 ⟨i, H5, I5, st5, n5, w5⟩
    rcases turn i n H5 w5 with ⟨stop, q⟩ | ⟨go, Nx, nxt, step⟩
    · refine thnF (T.done (X.blk s3 H3 scope env fp) rfl rfl rfl calm i [] s5 _ H5 (fun _ _ => False) I5 (own_fp I5 n5) st5 stop) fun r s6 ⟨er, I6⟩ => ?_
      subst er
      have I7 : Inv X pins σ H5 s6 := I3.call' (ch := fp) I6.os I6.base I6.hok I6.bare fun b hb => ⟨(f3 b hb).1.2.2.2.1, (f3 b hb).1.2.1, (f3 b hb).1.2.2.2.2.1, (f3 b hb).1.2.2.2.2.2⟩
      have freeC : H5 s3.heap.objs.size = none := loc ▸ I6.free
      obtain ⟨m, ns, _⟩ := I6.loc
      have ns : s6.heap.Ns env.locals m := ns
      rw [loc] at ns
      obtain ⟨a0, a1, a2, a3, a4, a5⟩ := I3.fpOk (Nat.le_refl _) freeC
      exact ⟨m, ns, fun h'' sb => ⟨.ref Dp, H5, I7.turned (t' := s6.toks) (fun b o hb e => (sb.2 b hb).trans e) a0 a1 a3 a4 a5, rfl, q⟩⟩
    · refine thnF (T.item (X.blk s3 H3 scope env fp) rfl rfl rfl calm i [] s5 _ H5 (fun _ _ => False) I5 (own_fp I5 n5) st5 go) fun r s6 ⟨u, er, h6⟩ => ?_
      subst er
      refine thnF h6 fun _ s7 ⟨x, H7, I7, rx, y7, st7, n7⟩ => ?_
      refine thnF (g1.run _ s7 _ H7 x u _ (I7.pinned (own_fp I7 n7) (T.obj _ _ st7)) rx (step x H7 y7)) fun _ s8 ⟨σ8, H8, I8, hw, q8⟩ => ?_
      -- no condition
      show wpAny _ _ (forIn ([] : List Expr) true _) _ _ s8
      rw [List.forIn_nil]
      refine wpAny_pure ?_
      simp only [if_true]
      refine thnF (k1.run _ s8 σ8 H8 _ I8 q8) fun ku s9 ⟨ky, H9, I9, rk, q9⟩ => ?_
      refine thnF (v1.run _ s9 σ8 H9 _ I9 q9) fun vu s10 ⟨vy, H10, I10, rv, kvs, k, b, ek, hD, hb, hz, nx⟩ => ?_
      subst ek
      refine enterT (X := X.blk s3 H3 scope env fp) hu I10 hD hz hb rk rv fun s11 I11 => ?_
      obtain ⟨m', lt, w'⟩ := nxt _ nx
      have pin' : ∀ b ∈ fp, ∀ o, s7.heap.get? b = some o → s11.heap.get? b = some o ∧ upd H10 Dp (.dT (putK kvs k vy)) b = none := fun b hb o e =>
        let z := I11.pin (b, o) (List.mem_append_right _ (List.mem_append_right _ (mem_pinsAt hb e)))
        ⟨z.1, z.2.1⟩
      have len : (wipe σ (own.map (·.2))).length = σ8.length := by rw [← hw, wipe_length]
      refine ⟨m', lt, i + 1, _, (I11.unpinned (pins := [])).weak len (fun j v e => ?_), T.keep _ _ _ st7 fun b hb o e => (pin' b hb o e).1, fun b hb => ?_, w'⟩
      · rw [← hw] at e
        exact (wipe_some e).1
      · obtain ⟨o, e, _⟩ := T.obj _ _ st7 b hb
        exact (pin' b hb o e).2
  exact codeAny_compStart_dict loop (T.self X.A 0 _ _ _ st4 loop)
end
section
variable {K : PySem.W.Frag} {pv : List V} {W : WX} {G F H : Hp} {sd : SD} {σ : L2.St} {p q : Bool}
theorem StR.layT {L : Addr} {u : HO} (nt : ∀ xs, u ≠ .tup xs) (s : StR K pv G F sd σ H) (hL : H L = none) : StR K pv (upd G L u) F sd σ (upd H L u) := by
  obtain ⟨o, W⟩ := s
  obtain ⟨f0, g0, n0⟩ := W.fresh hL
  have W' := W.grow (Same.upd (o := u) hL) (Same.refl F) (fun a x e => by rw [upd_ne (ne_of_none e f0)]; exact W.fh a x e) (fun a ha => .inl ha) fun a xs e => .inl (nt_upd nt a xs e)
  have away : ∀ a, F a ≠ none → a ≠ L := fun a ha z => ha (by rw [z]; exact f0)
  refine ⟨o, W'.fh, fun a x e => ?_, fun a ha => by rw [upd_ne (away a ha)]; exact W'.fg a ha, fun i a q => ?_, W'.oo, W'.len, W'.sl, W'.sp, W'.pr, W'.tf⟩
  · by_cases h : a = L
    · rw [h, upd_same] at e ⊢; exact e
    · rw [upd_ne h] at e; exact W'.gh a x e
  · obtain ⟨h1, h2, h3⟩ := W'.oh i a q
    exact ⟨h1, h2, by rw [upd_ne fun z => n0 i (by rw [← z]; exact q)]; exact h3⟩
theorem StR.offT {L : Addr} {u : HO} (s : StR K pv (upd G L u) F sd σ H) : F L = none ∧ H L = some u ∧ ∀ o, Own K pv (upd G L u) F sd σ H o → ∀ i, ¬ o i L := by
  obtain ⟨o, W⟩ := s
  have gL : (upd G L u) L = some u := upd_same
  refine ⟨?_, W.gh L u gL, fun o' W' i q => ?_⟩
  · cases e : F L with
    | none => rfl
    | some x =>
      have := W.fg L (by rw [e]; simp)
      rw [gL] at this; cases this
  · have := (W'.oh i L q).2.2
    rw [gL] at this; cases this
theorem StR.relayT {L : Addr} {u w : HO} (nt : ∀ xs, w ≠ .tup xs) (s : StR K pv (upd G L u) F sd σ H) : StR K pv (upd G L w) F sd σ (upd H L w) := by
  obtain ⟨f0, _, off⟩ := s.offT
  obtain ⟨o, W⟩ := s
  have n0 := off o W
  have cell : ∀ i x, o i x → upd H L w x = H x := fun i x q => upd_ne fun z => n0 i (by rw [← z]; exact q)
  refine ⟨o, fun a x e => ?_, fun a x e => ?_, fun a ha => ?_, fun i a q => ?_, W.oo, W.len, fun i t e => ?_, W.sp, fun j t e => ?_, fun a xs e => W.tf a xs (nt_upd nt a xs e)⟩
  · rw [upd_ne (ne_of_none e f0)]; exact W.fh a x e
  · by_cases h : a = L
    · rw [h, upd_same] at e ⊢; exact e
    · rw [upd_ne h] at e ⊢; exact W.gh a x (by rw [upd_ne h]; exact e)
  · have h : a ≠ L := fun z => ha (by rw [z]; exact f0)
    have := W.fg a ha
    rw [upd_ne h] at this ⊢; exact this
  · obtain ⟨h1, h2, h3⟩ := W.oh i a q
    have h : a ≠ L := fun z => n0 i (by rw [← z]; exact q)
    rw [upd_ne h] at h3
    exact ⟨by rw [upd_ne h]; exact h1, h2, by rw [upd_ne h]; exact h3⟩
  · obtain ⟨v, h1, h2⟩ := W.sl i t e
    exact ⟨v, h1, h2.mono (Same.refl _) fun x hx => ⟨hx, cell _ x hx⟩⟩
  · obtain ⟨v, h1, h2⟩ := W.pr j t e
    exact ⟨v, h1, h2.mono (Same.refl _) fun x hx => ⟨hx, cell _ x hx⟩⟩
theorem StR.unlayT {L : Addr} {kvs : List (List Key × V)} {al : AL} (s : StR K pv (upd G L (.dT kvs)) F sd σ H) (gL : G L = none) (r : RAL K F kvs al) : StR1 K pv G F sd σ H (.ref L) (odT al) := by
  obtain ⟨f0, hL, off⟩ := s.offT
  obtain ⟨o, W⟩ := s
  have n0 := off o W
  refine ⟨o, fun a => a = L, ⟨W.fh, fun a x e => W.gh a x (by rw [upd_ne (ne_of_none e gL)]; exact e), fun a ha => ?_, fun i a q => ?_, W.oo, W.len, W.sl, W.sp, W.pr, W.tf⟩, repO_odT_of rfl hL r, fun a ha => ?_⟩
  · have h : a ≠ L := fun z => ha (by rw [z]; exact f0)
    have := W.fg a ha
    rw [upd_ne h] at this; exact this
  · obtain ⟨h1, h2, h3⟩ := W.oh i a q
    rw [upd_ne fun z => n0 i (by rw [← z]; exact q)] at h3
    exact ⟨h1, h2, h3⟩
  · subst ha
    exact ⟨by rw [hL]; simp, f0, gL, n0⟩
noncomputable def goDc (g : D → SD → Option SD) (mk mv : SD → ER D) (vs : List Nat) : List D → AL → SD → ER AL
  | [], acc, sd => .ok acc sd
  | d :: ds, acc, sd => match g d (sd.wipe vs) with
    | none => .bad
    | some sd1 => (mk sd1).calm.bind fun y sd2 => (mv sd2).calm.bind fun z sd3 => match tupIs y with
      | some ns => if acc.length < 16777216 then goDc g mk mv vs ds (aPut acc ns z) sd3 else .bad
      | none => .bad
noncomputable def mDcT (it : SD → ER (List D)) (g : D → SD → Option SD) (mk mv : SD → ER D) (vs : List Nat) : SD → ER OT := fun sd => (it sd).bind fun ds sd1 => (goDc g mk mv vs ds [] sd1).bind fun res sd2 => .ok (odT res) (sd2.back sd1 vs)
theorem goDc_calm {g : D → SD → Option SD} {mk mv : SD → ER D} {vs : List Nat} : ∀ (ds : List D) (acc : AL) (sd : SD) (x : Exn) (s : SD), goDc g mk mv vs ds acc sd ≠ .rz x s
  | [], acc, sd, x, s => by rw [goDc]; intro h; cases h
  | d :: ds, acc, sd, x, s => by
    rw [goDc]
    intro h
    split at h
    · cases h
    · rename_i sd1 _
      cases e1 : (mk sd1).calm with
      | bad => rw [e1] at h; cases h
      | rz a b => cases e : mk sd1 <;> rw [e] at e1 <;> cases e1
      | ok y sd2 =>
        rw [e1] at h
        rw [ER.bind_ok] at h
        cases e2 : (mv sd2).calm with
        | bad => rw [e2] at h; cases h
        | rz a b => cases e : mv sd2 <;> rw [e] at e2 <;> cases e2
        | ok z sd3 =>
          rw [e2, ER.bind_ok] at h
          split at h
          · split at h
            · exact goDc_calm ds _ _ x s h
            · cases h
          · cases h
theorem dcT_run {J : It} {t : TG} {tk tv : TE} {g : D → SD → Option SD} {mk mv : SD → ER D} {pk pe : Bool} {vs is : List Nat} {F1 H1 : Hp} {sd1 : SD} {ds : List D} {L : Addr} {Q : Hp → Prop} {res : AL} {sdr : SD} (his : ∀ i ∈ is, i ∈ vs)
    (hg : TgRun K is t g) (hgw : ∀ d sd sd', g d sd = some sd' → sd'.wipe vs = sd.wipe vs)
    (hk : TrX K pv W0 pk true tk mk) (hv : TrX K pv W0 pe true tv mv) (wk : Walk K J F1 ds) (s1 : StR K pv G F1 (sd1.wipe vs) (wipe σ vs) H1) (hL : H1 L = none) (e : goDc g mk mv vs ds [] sd1 = .ok res sdr)
    (hQ : ∀ F' H' kvs, Same F1 F' → StR K pv (upd G L (.dT kvs)) F' (sdr.wipe vs) (wipe σ vs) H' → RAL K F' kvs res → Q H') :
    ∃ W : Nat → Nat → Hp → Prop, (∃ m, W 0 m (upd H1 L (.dT []))) ∧ ∀ i m H, W i m H → (J.stop i H ∧ Q H) ∨ (J.go i H ∧ ∃ Nx : Hp → Prop, (∀ H', Nx H' → ∃ m', m' < m ∧ W (i + 1) m' H') ∧ ∀ x H', J.yld i H x H' → t x (wipe σ vs) H' fun σ2 H2 => wipe σ2 vs = wipe σ vs ∧
      tk σ2 H2 fun y H3 => tv σ2 H3 fun z H4 => ∃ kvs k b, y = .ref b ∧ H4 L = some (.dT kvs) ∧ H4 b = some (.tup (k.map kV)) ∧ kvs.length < sizeLine ∧ Nx (upd H4 L (.dT (putK kvs k z)))) := by
  have ww : ∀ sd : SD, (sd.wipe vs).wipe vs = sd.wipe vs := fun sd => wipe_wipe (fun i h => h) sd
  have sw : wipe (wipe σ vs) vs = wipe σ vs := wipe_wipeV (fun i h => h) σ
  let Iv : Nat → Hp → Prop := fun i H => ∃ F' sd' acc kvs, Same F1 F' ∧ StR K pv (upd G L (.dT kvs)) F' (sd'.wipe vs) (wipe σ vs) H ∧ RAL K F' kvs acc ∧ goDc g mk mv vs (ds.drop i) acc sd' = .ok res sdr
  refine ⟨fun i m H => m = ds.length - i ∧ i ≤ ds.length ∧ Iv i H, ⟨ds.length, by simp, Nat.zero_le _, F1, sd1, [], [], Same.refl _, s1.layT (by intro _ z; cases z) hL, .nil, e⟩, ?_⟩
  rintro i m H ⟨rfl, hi, F', sd', acc, kvs, f1, st, ra, eg⟩
  by_cases hlt : i < ds.length
  · have hd : ds[i]? = some ds[i] := List.getElem?_eq_getElem hlt
    rw [List.drop_eq_getElem_cons hlt, goDc] at eg
    refine .inr ⟨wk.go F' H i _ f1 st.fh hd, Iv (i + 1), fun H' q => ⟨ds.length - (i + 1), by omega, rfl, hlt, q⟩, fun x H' y => ?_⟩
    have main : ∀ (F2 H2 : Hp), Same F' F2 → StR K pv (upd G L (.dT kvs)) F2 (sd'.wipe vs) (wipe σ vs) H2 → Rep K F2 x ds[i] → t x (wipe σ vs) H2 fun σ2 H2 => wipe σ2 vs = wipe σ vs ∧
        tk σ2 H2 fun y H3 => tv σ2 H3 fun z H4 => ∃ kvs k b, y = .ref b ∧ H4 L = some (.dT kvs) ∧ H4 b = some (.tup (k.map kV)) ∧ kvs.length < sizeLine ∧ Iv (i + 1) (upd H4 L (.dT (putK kvs k z))) := fun F2 H2 f2 st2 rx => by
      revert eg
      cases eq1 : g ds[i] (sd'.wipe vs) with
      | none => intro eg; cases eg
      | some sda =>
        intro eg
        refine hg pv _ F2 _ _ H2 x _ sda st2 rx eq1 _ fun σ2 st3 wp => ⟨by rw [wp vs his, sw], ?_⟩
        have eg : ((mk sda).calm.bind fun y sd2 => (mv sd2).calm.bind fun z sd3 => match tupIs y with
          | some ns => if acc.length < 16777216 then goDc g mk mv vs (ds.drop (i + 1)) (aPut acc ns z) sd3 else .bad
          | none => .bad) = .ok res sdr := eg
        have zk := hk (upd G L (.dT kvs)) F2 sda σ2 H2 (fun y H3 => tv σ2 H3 fun z H4 => ∃ kvs k b, y = .ref b ∧ H4 L = some (.dT kvs) ∧ H4 b = some (.tup (k.map kV)) ∧ kvs.length < sizeLine ∧ Iv (i + 1) (upd H4 L (.dT (putK kvs k z)))) st3
        revert eg zk
        cases mk sda with
        | bad => intro eg; cases eg
        | rz _ _ => intro eg; cases eg
        | ok dy sdb =>
          intro eg zk
          have eg : ((mv sdb).calm.bind fun z sd3 => match tupIs dy with
            | some ns => if acc.length < 16777216 then goDc g mk mv vs (ds.drop (i + 1)) (aPut acc ns z) sd3 else .bad
            | none => .bad) = .ok res sdr := eg
          refine zk fun y F3 H3 u1 u2 u3 u4 => ?_
          have u3 : Rep K F3 y dy := u3
          have zv := hv (upd G L (.dT kvs)) F3 sdb σ2 H3 (fun z H4 => ∃ kvs k b, y = .ref b ∧ H4 L = some (.dT kvs) ∧ H4 b = some (.tup (k.map kV)) ∧ kvs.length < sizeLine ∧ Iv (i + 1) (upd H4 L (.dT (putK kvs k z)))) u2
          revert eg zv
          cases mv sdb with
          | bad => intro eg; cases eg
          | rz _ _ => intro eg; cases eg
          | ok dz sdc =>
            intro eg zv
            have eg : (match tupIs dy with
              | some ns => if acc.length < 16777216 then goDc g mk mv vs (ds.drop (i + 1)) (aPut acc ns dz) sdc else .bad
              | none => .bad) = .ok res sdr := eg
            split at eg
            · rename_i ns en
              split at eg
              · rename_i hz
                refine zv fun z F4 H4 v1 v2 v3 v4 => ?_
                obtain ⟨b, rfl, hb⟩ := rep_key (u3.mono v1) en
                have r4 := ra.mono ((f2.trans u1).trans v1)
                refine ⟨kvs, tkey ns, b, rfl, v2.offT.2.1, v2.fh _ _ hb, by rw [r4.length, sizeLine_eq]; exact hz, F4, sdc, _, _, ((f1.trans f2).trans u1).trans v1, ?_, r4.put ns v3, eg⟩
                have q := (v2.relayT (w := .dT (putK kvs (tkey ns) z)) (by intro _ z; cases z)).wipe vs
                rw [wp vs his, sw] at q
                exact q
              · cases eg
            · cases eg
    rcases wk.yld F' H i _ x H' f1 st.fh hd y with ⟨rfl, rx⟩ | ⟨T, us, es, rfl, ed, hT, rfl, rr⟩
    · exact main F' H' (Same.refl _) st rx
    · refine main _ _ (st.sameNew hT) (st.new (u := .tup us) hT) ?_
      rw [ed]
      exact .tup upd_same (rr.mono (st.sameNew hT))
  · have e2 : i = ds.length := by omega
    subst e2
    rw [List.drop_length, goDc] at eg
    cases eg
    exact .inl ⟨wk.stop F' H f1 st.fh, hQ F' H kvs f1 st ra⟩
end
section
variable {X : Cx} {pv : List V} {W : WX} {p q k l pk pe : Bool} {tg iter kx vx : Expr} {scope : Scope} {pos : Pos}
theorem do_dcT {own : List (Str × Nat)} {is : List Nat} {mi : SD → ER (List D)} {g : D → SD → Option SD} {mk mv : SD → ER D} (hu : X.A.units < cLine) (hc : X.calm = true) (hN : X.N.Nodup) (hi : DI X pv W p tg iter mi) (ok : BlkOk X.N X.env.scope scope own)
    (hg : ∀ (s : Shared) (H : Hp) (C : Addr) (cl : List (Str × Addr)) (fp : List Addr), DG (X.blk s H scope (compEnvC scope cl C X.env) fp) is tg g)
    (hk : ∀ (s : Shared) (H : Hp) (C : Addr) (cl : List (Str × Addr)) (fp : List Addr), DX (X.blk s H scope (compEnvC scope cl C X.env) fp) pv W0 pk true kx mk)
    (hv : ∀ (s : Shared) (H : Hp) (C : Addr) (cl : List (Str × Addr)) (fp : List Addr), DX (X.blk s H scope (compEnvC scope cl C X.env) fp) pv W0 pe true vx mv) (his : ∀ i ∈ is, i ∈ own.map (·.2))
    (wip : ∀ (vs : List Nat), (∀ i ∈ is, i ∈ vs) → ∀ d sd sd', g d sd = some sd' → SD.wipe sd' vs = SD.wipe sd vs)
    (hs : ∀ x, foldedSetIterable iter X.env x = pure x := by intro _; rfl) :
    DO X pv W false (.DictComp kx vx [⟨tg, iter, [], 0⟩] scope pos) (mDcT mi g mk mv (own.map (·.2))) := by
  obtain ⟨wi, a1, a2⟩ := hi
  refine ⟨_, pe_dcT (g := canG X.K is g) (tk := canX X.K pv W0 pk true mk) (tv := canX X.K pv W0 pe true mv) hu hc hN a1 ok (fun s H C cl fp => (hg s H C cl fp).can) (fun s H C cl fp => (hk s H C cl fp).can) (fun s H C cl fp => (hv s H C cl fp).can) hs, fun G F sd σ H Q s => ?_⟩
  refine Meets.weak (p := p && false) (Meets.bind (a2 G F sd σ H _ s) fun J F1 H1 ds sd1 s1 s2 s3 s4 => ?_)
  cases e : goDc g mk mv (own.map (·.2)) ds [] sd1 with
  | bad => exact True.intro
  | rz x sr => exact absurd e (goDc_calm ds [] sd1 x sr)
  | ok res sdr =>
    intro hQ L hL
    obtain ⟨G', g1, g2, g3⟩ := s2.block (own.map (·.2))
    refine dcT_run his canG_run (wip _ his) canX_tr canX_tr s3 g2 hL e fun F' H' kvs f1 st r => ?_
    have z := st.unlayT (g1 L hL) r
    have z2 := g3 F' sdr H' _ _ f1 z
    exact hQ _ F' H' f1 z2.drop z2 fun zz => by cases zz
end
end DL
namespace DL
open PySem PySem.Spec L2 PyProof.Rows
end DL
namespace DL
theorem un1 {n : Nat} (h : n + 64 < PySem.cLine) : n + 1 < PySem.cLine := by omega
theorem un0 {n : Nat} (h : n + 64 < PySem.cLine) : n < PySem.cLine := by omega
end DL
namespace DL
open PySem PySem.Spec L2 PyProof.Rows
end DL
set_option maxHeartbeats 1600000
namespace DL.Two
open PySem PySem.Spec PySem.W L2 PyProof.Rows
section
variable {P : Program} {w : World} {A : Around} {E : Value → Shared → Prop} {s : Shared} {Q : Value → Shared → Prop} {a b : Value} {p q : PyData} {as bs : List Addr}
/-- two data, place by place -/
noncomputable def at2 (p q : PyData) (i : Nat) : PyData := if i = 0 then p else q
theorem reads2 {h : Heap} (ra : Reads h a p as) (rb : Reads h b q bs) {i : Nat} {v : Value} (e : (#[a, b] : Array Value)[i]? = some v) : ∃ cs, Reads h v (at2 p q i) cs ∧ (i = 0 ∨ i = 1) := by
  match i with
  | 0 => cases e; exact ⟨_, ra, .inl rfl⟩
  | 1 => cases e; exact ⟨_, rb, .inr rfl⟩
  | n + 2 => simp at e
structure Ok2 (p q : PyData) : Prop where
  al : ∀ i j, (i = 0 ∨ i = 1) → (j = 0 ∨ j = 1) → alike (at2 p q i) (at2 p q j) = true
  nn : ∀ i, (i = 0 ∨ i = 1) → at2 p q i ≠ .none
  dp : ∀ i, (i = 0 ∨ i = 1) → (at2 p q i).depth ≤ 40
/-- the walk over the two -/
theorem two_walk {f : Value → Shared → Prop}
    (h : ∀ s2 : Shared, (∀ c o, s.heap.get? c = some o → s2.heap.get? c = some o) → s2.gens = s.gens → s2.drawn = s.drawn → s2.os = s.os →
      (let I := s.heap.objs.size + 1; let t := s.heap.objs.size; (s2.heap.IsTupleIter I t 0 ∧ s2.heap.IsTuple t #[a, b]) ∧ s2.heap.objs.size = I + 1 → f (.ref I) s2)) :
    wpAny (model P w) A (pyIter (.ref s.heap.objs.size)) f E { s with heap := s.heap.push { cls := .type "tuple", data := .seq #[a, b] } } := by
  have tp : (s.heap.push { cls := .type "tuple", data := .seq #[a, b] }).IsTuple s.heap.objs.size #[a, b] := ⟨_, Heap.get?_push_size _ rfl, rfl, 0, rfl⟩
  have sz : (s.heap.push { cls := .type "tuple", data := .seq #[a, b] }).objs.size = s.heap.objs.size + 1 := Heap.size_push ..
  refine wpAny_pyIter_tuple tp ?_
  have z := h { s with heap := (s.heap.push { cls := .type "tuple", data := .seq #[a, b] }).push { cls := .type "tuple_iterator", data := .fields #[.ref s.heap.objs.size, .int 0 0] } } (fun c o e => Heap.get?_push_of_some _ (Heap.get?_push_of_some _ e)) rfl rfl rfl
  rw [show (.ref (s.heap.push { cls := .type "tuple", data := .seq #[a, b] }).objs.size : Value) = .ref (s.heap.objs.size + 1) by rw [sz]]
  refine z ⟨⟨?_, tp.push _⟩, ?_⟩
  · rw [← sz]
    exact ⟨_, Heap.get?_push_size _ rfl, rfl, rfl⟩
  · show ((s.heap.push _).push _).objs.size = _
    rw [Heap.size_push, sz]
theorem later {n m : Nat} (e : n = m + 1) (h : n < m) : False := by omega
theorem later2 {n m k : Nat} (e : n = k) (z : n = m + 1 ) (h : k = m + 2) : False := by omega
theorem later3 {n m k : Nat} (e : n = k) (z : n = m) (h : k = m + 2) : False := by omega
theorem later4 {n m k : Nat} (e : n = k) (z : k = m + 2) (h : n < m) : False := by omega
theorem name_min : (toString "min" ++ toString ".loop" : String) = "min.loop" := by decide
theorem name_max : (toString "max" ++ toString ".loop" : String) = "max.loop" := by decide
theorem bind0 : Builtin.Builtins.bindParams "min" ["key", "default"] 0 ⟨[], []⟩ = pure [none, none] := rfl
theorem bind1 : Builtin.Builtins.bindParams "max" ["key", "default"] 0 ⟨[], []⟩ = pure [none, none] := rfl
theorem least (hh : A.handled = none) (hu : A.units + 64 < cLine) (ra : Reads s.heap a p as) (rb : Reads s.heap b q bs) (k : Ok2 p q)
    (h : ∀ h' tk, (∀ c o, s.heap.get? c = some o → h'.get? c = some o) → Q (if dataLt q p = true then b else a) { s with heap := h', toks := tk }) : wpAny (model P w) A (call (.builtin "min") [a, b]) Q E s := by
  apply call_function_tree F.kind_min F.plain_min
    F.entry_min (F.args_min2 a b)
  show wpAny (model P w) A.in1
    (Builtin.Builtins.bindParams "min"
      ["key", "default"] 0 ⟨[], []⟩ >>= _) _ _ _
  refine wpAny_bind (wpAny_of_eq bind0 ?_)
  show wpAny (model P w) A.in1
    (newTuple [a, b] >>= _) _ _ _
  refine wpAny_bind (wpAny_newObj_type ?_)
  refine wpAny_bind (two_walk (A := A.in1)
    fun s2 old eg ed eo ⟨st, sz⟩ => ?_)
  refine wpAny_bind (wpAny_newObj_type ?_)
  rw [name_min]
  have W := (Walks.tuple (prog := P) (w := w) (A := A.in1) hh (s.heap.objs.size + 1) s.heap.objs.size (Nat.ne_of_lt (Nat.lt_succ_self _)) #[a, b]).toS
  have cmp : CmpIn P w A.in1 .Lt s.heap (fun i v => (#[a, b] : Array Value)[i]? = some v) (fun i j => dataLt (at2 p q i) (at2 p q j)) := fun i j vi vj s3 Q E kp hi hj hq => by
    obtain ⟨c1, r1, i1⟩ := reads2 (reads_keeps kp ra) (reads_keeps kp rb) hi
    obtain ⟨c2, r2, i2⟩ := reads2 (reads_keeps kp ra) (reads_keeps kp rb) hj
    exact rcLt_alike _ _ _ _ _ _ _ _ r1 r2 (k.al i j i1 i2) (k.nn i i1) (by
      have := k.dp i i1
      show A.units + 1 + min _ _ < cLine
      omega) P w E Q hq
  refine wpAny_pure ⟨plainId_quiet F.plain_min_loop _,
    codeAny_min_loop_firstH W s.heap (fun c o e z => ?_) _ cmp
      s2.heap.objs.size (fun z => ?_) (fresh_in old) _ (by show 0 < 2; decide)
      (fun c o e => Heap.get?_push_of_some _ (old c o e))
      ⟨st.1.at fun o e => Heap.get?_push_of_some _ e, st.2.push _⟩ (Heap.get?_push_size _ rfl) fun v s3 hv m => ?_⟩
  · exact later (List.mem_singleton.mp z) (Heap.lt_size e)
  · rcases List.mem_cons.mp z with z | z
    · exact later2 rfl z sz
    · exact later3 rfl (List.mem_singleton.mp z) sz
  · have e3 := m.eq_with
    have hold : ∀ c o, s.heap.get? c = some o → s3.heap.get? c = some o := fun c o e => by
      refine m.heap c o (fun z => ?_) (Heap.get?_push_of_some _ (old c o e))
      rcases List.mem_cons.mp z with z | z
      · exact later4 z sz (Heap.lt_size e)
      · exact later (List.mem_singleton.mp z) (Heap.lt_size e)
    have z := h s3.heap s3.toks hold
    have hv : v = if dataLt q p = true then b else a := by
      have hv : (#[a, b] : Array Value)[if dataLt q p = true then 1 else 0]? = some v := hv
      split at hv
      · rename_i c; rw [if_pos c]; cases hv; rfl
      · rename_i c; rw [if_neg c]; cases hv; rfl
    rw [hv]
    obtain ⟨h3, g3, d3, t3, o3⟩ := s3
    cases e3
    obtain ⟨h2, g2, d2, t2, o2⟩ := s2
    cases eg; cases ed; cases eo
    exact z
theorem greatest (hh : A.handled = none) (hu : A.units + 64 < cLine) (ra : Reads s.heap a p as) (rb : Reads s.heap b q bs) (k : Ok2 p q)
    (h : ∀ h' tk, (∀ c o, s.heap.get? c = some o → h'.get? c = some o) → Q (if dataLt p q = true then b else a) { s with heap := h', toks := tk }) : wpAny (model P w) A (call (.builtin "max") [a, b]) Q E s := by
  apply call_function_tree F.kind_max F.plain_max
    F.entry_max (F.args_max2 a b)
  show wpAny (model P w) A.in1
    (Builtin.Builtins.bindParams "max"
      ["key", "default"] 0 ⟨[], []⟩ >>= _) _ _ _
  refine wpAny_bind (wpAny_of_eq bind1 ?_)
  show wpAny (model P w) A.in1
    (newTuple [a, b] >>= _) _ _ _
  refine wpAny_bind (wpAny_newObj_type ?_)
  refine wpAny_bind (two_walk (A := A.in1)
    fun s2 old eg ed eo ⟨st, sz⟩ => ?_)
  refine wpAny_bind (wpAny_newObj_type ?_)
  rw [name_max]
  have W := (Walks.tuple (prog := P) (w := w) (A := A.in1) hh (s.heap.objs.size + 1) s.heap.objs.size (Nat.ne_of_lt (Nat.lt_succ_self _)) #[a, b]).toS
  have cmp : CmpIn P w A.in1 .Gt s.heap (fun i v => (#[a, b] : Array Value)[i]? = some v) (fun i j => dataLt (at2 p q j) (at2 p q i)) := fun i j vi vj s3 Q E kp hi hj hq => by
    obtain ⟨c1, r1, i1⟩ := reads2 (reads_keeps kp ra) (reads_keeps kp rb) hi
    obtain ⟨c2, r2, i2⟩ := reads2 (reads_keeps kp ra) (reads_keeps kp rb) hj
    exact rcGt_alike _ _ _ _ _ _ _ _ r1 r2 (k.al i j i1 i2) (k.nn i i1) (by
      have := k.dp i i1
      show A.units + 1 + min _ _ < cLine
      omega) P w E Q hq
  refine wpAny_pure ⟨plainId_quiet F.plain_max_loop _,
    codeAny_max_loop_firstH W s.heap (fun c o e z => ?_) _ cmp
      s2.heap.objs.size (fun z => ?_) (fresh_in old) _ (by show 0 < 2; decide)
      (fun c o e => Heap.get?_push_of_some _ (old c o e))
      ⟨st.1.at fun o e => Heap.get?_push_of_some _ e, st.2.push _⟩ (Heap.get?_push_size _ rfl) fun v s3 hv m => ?_⟩
  · exact later (List.mem_singleton.mp z) (Heap.lt_size e)
  · rcases List.mem_cons.mp z with z | z
    · exact later2 rfl z sz
    · exact later3 rfl (List.mem_singleton.mp z) sz
  · have e3 := m.eq_with
    have hold : ∀ c o, s.heap.get? c = some o → s3.heap.get? c = some o := fun c o e => by
      refine m.heap c o (fun z => ?_) (Heap.get?_push_of_some _ (old c o e))
      rcases List.mem_cons.mp z with z | z
      · exact later4 z sz (Heap.lt_size e)
      · exact later (List.mem_singleton.mp z) (Heap.lt_size e)
    have z := h s3.heap s3.toks hold
    have hv : v = if dataLt p q = true then b else a := by
      have hv : (#[a, b] : Array Value)[if dataLt p q = true then 1 else 0]? = some v := hv
      split at hv
      · rename_i c; rw [if_pos c]; cases hv; rfl
      · rename_i c; rw [if_neg c]; cases hv; rfl
    rw [hv]
    obtain ⟨h3, g3, d3, t3, o3⟩ := s3
    cases e3
    obtain ⟨h2, g2, d2, t2, o2⟩ := s2
    cases eg; cases ed; cases eo
    exact z
end
end DL.Two
namespace DL
open PySem PySem.Spec L2 PyProof.Rows
section
variable {X : Cx} {pv : List V} {W : WX} {p q k l : Bool} {e f : Expr} {es : List Expr} {pos : Pos}
noncomputable def ok2B (p q : PyData) : Bool := PySem.W.alike p p && PySem.W.alike p q && PySem.W.alike q p && PySem.W.alike q q && decide (p.depth ≤ 40) && decide (q.depth ≤ 40) && (match p with | .none => false | _ => true) && (match q with | .none => false | _ => true)
theorem ok2_of {p q : PyData} (h : ok2B p q = true) : Two.Ok2 p q := by
  unfold ok2B at h
  simp only [Bool.and_eq_true, decide_eq_true_eq] at h
  obtain ⟨⟨⟨⟨⟨⟨⟨a1, a2⟩, a3⟩, a4⟩, a5⟩, a6⟩, a7⟩, a8⟩ := h
  refine ⟨fun i j hi hj => ?_, fun i hi => ?_, fun i hi => ?_⟩
  · rcases hi with rfl | rfl <;> rcases hj with rfl | rfl
    · exact a1
    · exact a2
    · exact a3
    · exact a4
  · rcases hi with rfl | rfl
    · intro z
      have z : p = .none := z
      rw [z] at a7
      cases a7
    · intro z
      have z : q = .none := z
      rw [z] at a8
      cases a8
  · rcases hi with rfl | rfl
    · exact a5
    · exact a6
noncomputable def rTwo (K : PySem.W.Frag) (g : PyData → PyData → Bool) : List V → Hp → VK → Prop := fun xs H Q => ∃ (x y : V) (F : Hp) (dx dy : D) (p q : PyData), xs = [x, y] ∧ Same F H ∧ Rep K F x dx ∧ Rep K F y dy ∧ dx.py = some p ∧ dy.py = some q ∧ ok2B p q = true ∧ Q (if g p q = true then y else x) H
theorem cr_min2 (hc : X.calm = true) (hu : X.A.units + 64 < cLine) : CallR X (.builtin "min") (rTwo X.K fun p q => PySem.W.dataLt q p) := by
  intro pins s σ H xs us Q I r h
  obtain ⟨x, y, F, dx, dy, p, q, rfl, e, r1, r2, h1, h2, k, z⟩ := h
  obtain ⟨u, v, rfl, r3, r4⟩ := vals2 r
  obtain ⟨as, ra⟩ := rep_reads I e r1 h1 r3
  obtain ⟨bs, rb⟩ := rep_reads I e r2 h2 r4
  refine Two.least (I.ok.hd hc) hu ra rb (ok2_of k) fun h' tk kp => ⟨_, H, I.kept kp, ?_, z⟩
  split
  · exact r4
  · exact r3
theorem cr_max2 (hc : X.calm = true) (hu : X.A.units + 64 < cLine) : CallR X (.builtin "max") (rTwo X.K fun p q => PySem.W.dataLt p q) := by
  intro pins s σ H xs us Q I r h
  obtain ⟨x, y, F, dx, dy, p, q, rfl, e, r1, r2, h1, h2, k, z⟩ := h
  obtain ⟨u, v, rfl, r3, r4⟩ := vals2 r
  obtain ⟨as, ra⟩ := rep_reads I e r1 h1 r3
  obtain ⟨bs, rb⟩ := rep_reads I e r2 h2 r4
  refine Two.greatest (I.ok.hd hc) hu ra rb (ok2_of k) fun h' tk kp => ⟨_, H, I.kept kp, ?_, z⟩
  split
  · exact r4
  · exact r3
noncomputable def dTwo (g : PyData → PyData → Bool) : List D → Option D
  | [a, b] => match a.py, b.py with
    | some p, some q => if ok2B p q = true then some (if g p q = true then b else a) else none
    | _, _ => none
  | _ => none
theorem tr_two {g : PyData → PyData → Bool} {ta : TA} {m : SD → ER (List D)} (h : TrA X.K pv W p true ta m) : TrX X.K pv W p true (fun σ H Q => ta σ H fun xs H1 => rTwo X.K g xs H1 Q) (mCall (dTwo g) m) := by
  intro G F sd σ H Q s
  have hp : p = (p && true) := by cases p <;> rfl
  rw [hp]
  refine Meets.bind (h G F sd σ H _ s) fun xs F1 H1 ds sd1 s1 s2 s3 s4 => ?_
  have s3 : Reps X.K F1 xs ds := s3
  cases e : dTwo g ds with
  | none => exact True.intro
  | some c =>
    intro hQ
    unfold dTwo at e
    split at e
    · obtain ⟨v, w, rfl, r1, r2⟩ := reps2 s3
      split at e
      · rename_i p q e1 e2
        split at e
        · rename_i k
          cases e
          refine ⟨v, w, F1, _, _, p, q, rfl, s2.fh, r1, r2, e1, e2, k, hQ _ F1 H1 (Same.refl _) s2 ?_ fun _ => ⟨Same.refl _, rfl⟩⟩
          show Rep X.K F1 _ _
          split
          · exact r2
          · exact r1
        · cases e
      · cases e
    · cases e
theorem dx_two {x : Str} {id : String} {pp : Pos} {g : PyData → PyData → Bool} {m : SD → ER (List D)} (hc : CallR X (.builtin id) (rTwo X.K g)) (hg : Gl X x) (hm : X.mg x = none) (hv : bootBuiltins x = some (.builtin id)) (ha : DA X pv W p true (e :: es) m)
    (hn : x ≠ "__name__" := by decide) (hdb : (x == ("__debug__" : Str)) = false := by decide) (he : starEach (e :: es) X.env = (false, eval e X.env) :: starEach es X.env := by rfl) (hpl : (backTo pos (starEach es X.env)).any (·.1) = false := by rfl) :
    DX X pv W p true (.Call (.Name x pp) (e :: es) [] pos) (mCall (dTwo g) m) := by
  obtain ⟨ta, a1, a2⟩ := ha
  exact ⟨_, pe_callB hc hg hm hv a1 hn hdb he hpl, tr_two a2⟩
noncomputable abbrev dMin2 : List D → Option D := dTwo fun p q => PySem.W.dataLt q p
noncomputable abbrev dMax2 : List D → Option D := dTwo fun p q => PySem.W.dataLt p q
noncomputable def mKeysL (i : Nat) : SD → ER OT := fun sd => match (sd.tree i).bind unT with
  | some al => .ok (.ol ((al.map (·.1)).map fun ns => .fz (tupD ns))) sd
  | none => .bad
theorem ral_bs {K : PySem.W.Frag} {F H : Hp} (tf : ∀ a xs, H a = some (.tup xs) → F a = some (.tup xs)) : ∀ {kvs : List (List Key × V)} {al : AL} {bs : List Addr}, RAL K F kvs al → IsKeys H kvs bs → Reps K F (bs.map V.ref) ((al.map (·.1)).map tupD)
  | [], _, bs, r, h => by cases r; cases h; exact .nil
  | y :: kvs, _, bs, r, h => by
    cases r with
    | cons r1 r2 =>
      cases h with
      | cons h1 h2 =>
        refine .cons ?_ (ral_bs tf r2 h2)
        have z := tf _ _ h1
        rw [r1.1, tkey_kV] at z
        exact .tup z (Reps.ints _)
theorem do_listT {i : Nat} {x f : Str} {pp n1 pos : Pos} (hc : X.calm = true) (g1 : Gl X f) (m1 : X.mg f = none) (v1 : bootBuiltins f = some (.type "list")) (hx : PE X (.Name x pp) (tVar i))
    (k1 : f ≠ "__name__" := by decide) (k2 : (f == ("__debug__" : Str)) = false := by decide) (hs : starEach [.Name x pp] X.env = (false, eval (.Name x pp) X.env) :: starEach [] X.env := by rfl) :
    DO X pv W true (.Call (.Name f n1) [.Name x pp] [] pos) (mKeysL i) := by
  refine ⟨_, pe_callTy (call_list_dT hc) g1 m1 v1 (pa_cons hx pa_nil hs) k1 k2 hs, fun G F sd σ H Q s => ?_⟩
  unfold mKeysL
  split
  · rename_i al e0
    obtain ⟨t, e3, e4⟩ := Option.bind_eq_some_iff.mp e0
    rw [unT_eq e4] at e3
    obtain ⟨a, kvs, h0, h2, r, _⟩ := s.dtree e3
    intro hQ
    refine ⟨_, h0, a, kvs, rfl, .inl h2, fun pl bs hp hk => ?_⟩
    obtain ⟨o, W⟩ := id s
    have st := s.newL hp (ral_bs W.tf r hk)
    rw [List.map_map] at st
    exact hQ _ _ _ (Same.refl _) st.drop st fun _ => ⟨Same.upd hp, rfl⟩
  · exact True.intro
noncomputable def dAbs : List D → Option D
  | [.int i] => some (.int (if i < 0 then -i else i))
  | _ => none
theorem f_abs {K : PySem.W.Frag} : CallS K (fun xs H Q => ∃ i, xs = [.int i] ∧ Q (.int (if i < 0 then -i else i)) H) dAbs := by
  intro H xs ds c r h
  unfold dAbs at h
  split at h
  · rename_i i
    obtain ⟨v, rfl, r1⟩ := reps1 r
    cases r1; cases h
    exact ⟨_, rfl, fun Q q => ⟨i, rfl, q⟩⟩
  · cases h
noncomputable def mStar (a : SD → ER D) (r : SD → ER (List D)) : SD → ER (List D) := fun sd => (a sd).bind fun x sd1 => match x with
  | .tup xs => (r sd1).bind fun ys sd2 => .ok (xs ++ ys) sd2
  | _ => .bad
theorem reps_app {K : PySem.W.Frag} {F : Hp} : ∀ {vs : List V} {ds : List D} {ws : List V} {es : List D}, Reps K F vs ds → Reps K F ws es → Reps K F (vs ++ ws) (ds ++ es)
  | _, _, _, _, .nil, r => r
  | _, _, _, _, .cons a b, r => .cons a (reps_app b r)
theorem da_star {sp : Pos} {ma : SD → ER D} {mr : SD → ER (List D)} (ha : DX X pv W p true e ma) (hr : DA X pv W q true es mr) (hs : starEach (.Starred e sp :: es) X.env = (true, eval e X.env) :: starEach es X.env := by rfl) : DA X pv W (p && q) true (.Starred e sp :: es) (mStar ma mr) := by
  obtain ⟨te, a1, a2⟩ := ha
  obtain ⟨tr, b1, b2⟩ := hr
  refine ⟨_, StX.pa_star a1 b1 hs, fun G F sd σ H Q s => ?_⟩
  refine Meets.bind (a2 G F sd σ H _ s) fun x F1 H1 dx sd1 s1 s2 s3 s4 => ?_
  cases dx with
  | tup xs =>
    have s3 : Rep X.K F1 x (.tup xs) := s3
    cases s3 with
    | @tup a vs _ hF r =>
      refine Meets.imp (f := fun ys => xs ++ ys) (b2 G F1 sd1 σ H1 (fun ys H2 => Q (vs ++ ys) H2) s2) (fun z => ⟨a, vs, rfl, .inl (.inl (.inl (s2.fh _ _ hF))), z⟩) rfl fun ws F2 H2 ys sd2 e2 t1 t2 t3 t4 hQ => ?_
      exact hQ _ _ _ (Same.refl _) t2 (reps_app (Reps.mono t1 r) t3) (Same.refl _)
  | _ => exact True.intro
theorem repOs_snoc {K : PySem.W.Frag} {F H : Hp} : ∀ {ts : List OT} {vs : List V} {t : OT} {v : V} {P P1 P2 : Addr → Prop}, RepOs K F H ts vs P1 → RepO K F H t v P2 → (∀ x, P1 x → P x) → (∀ x, P2 x → P x ∧ ¬ P1 x) → RepOs K F H (ts ++ [t]) (vs ++ [v]) P
  | ts, vs, t, v, P, P1, P2, r1, r2, h1, h2 => (repOs_app r1 r2 fun a q z => (h2 a z).2 q).mono (Same.refl _) fun x hx => ⟨hx.elim (h1 x) fun z => (h2 x z).1, rfl⟩
theorem repOs_rev {K : PySem.W.Frag} {F H : Hp} : ∀ {ts : List OT} {vs : List V} {P : Addr → Prop}, RepOs K F H ts vs P → RepOs K F H ts.reverse vs.reverse P
  | [], vs, P, r => by
    unfold RepOs at r
    subst r
    unfold RepOs; rfl
  | t :: ts, vs, P, r => by
    unfold RepOs at r
    obtain ⟨v, ws, Q1, Q2, rfl, h1, h2, r1, rr⟩ := r
    rw [List.reverse_cons, List.reverse_cons]
    exact repOs_snoc (repOs_rev rr) r1 (fun x hx => (h2 x hx).1) fun x hx => ⟨h1 x hx, fun z => (h2 x z).2 hx⟩
theorem StR.lrev {K : PySem.W.Frag} {G F H : Hp} {sd : SD} {σ : L2.St} {i : Nat} {ts : List OT} (s : StR K pv G F sd σ H) (h : sd.tree i = some (.ol ts)) : ∃ (a : Addr) (vs : List V), σ[i]? = some (some (.ref a)) ∧ H a = some (.lst vs) ∧
    StR K pv G F (sd.put i (.ol ts.reverse)) σ (upd H a (.lst vs.reverse)) := by
  obtain ⟨v, P, h1, h2, hn, go⟩ := s.mut h
  unfold RepO at h2
  obtain ⟨a, vs, rfl, pa, ha, r⟩ := h2
  refine ⟨a, vs, h1, ha, go _ _ (fun x hx u e => by rw [upd_ne (fun z => hx (by rw [z]; exact pa))]; exact e) (fun x hx => ?_) ?_⟩
  · by_cases z : x = a
    · rw [z, upd_same]; simp
    · rw [upd_ne z]; exact hn x hx
  · unfold RepO
    exact ⟨a, _, rfl, pa, upd_same, (repOs_rev r).mono (Same.refl _) fun x hx => ⟨hx, upd_ne hx.2⟩⟩
noncomputable def mRevL (i : Nat) : SD → ER D := fun sd => match sd.tree i with
  | some (.ol ts) => .ok .non (sd.put i (.ol ts.reverse))
  | _ => .bad
theorem dx_revL {i : Nat} {x : Str} {pp apos cpos : Pos} (hx : PE X (.Name x pp) (tVar i)) (hline : (apos.endLine == cpos.line) = true := by rfl)
    (hbase : attributeBase (.Name x pp) "reverse" X.env (eval (.Name x pp) X.env) = eval (.Name x pp) X.env := by rfl) : DX X pv W false true (.Call (.Attribute (.Name x pp) "reverse" apos) [] [] cpos) (mRevL i) := by
  refine ⟨_, pe_bm0 PySem.F.plainAttrs_list PySem.F.slot_list_reverse PySem.F.type_list_reverse mt_reverse hx hbase hline, fun G F sd σ H Q s => ?_⟩
  unfold mRevL
  split
  · rename_i ts e0
    obtain ⟨a, vs, h1, h2, h3⟩ := s.lrev e0
    intro hQ
    exact ⟨_, h1, .inl ⟨rfl, _, .inl (.inl h2)⟩, a, vs, rfl, rfl, h2, hQ .non F _ (Same.refl _) h3 (show Rep X.K F .non .non from .non) fun z => by cases z⟩
  · exact True.intro
end
end DL
set_option maxHeartbeats 1600000
namespace DL
open PySem PySem.Spec L2 PyProof.Rows
mutual
noncomputable def D.nl : D → Bool
  | .tup ds => D.nls ds
  | .ktu ds => D.nls ds
  | .dic _ _ ds => D.nls ds
  | .ins _ _ ds => D.nls ds
  | .lst _ => false
  | .scr _ => false
  | .exc _ _ _ => false
  | _ => true
noncomputable def D.nls : List D → Bool
  | [] => true
  | d :: r => d.nl && D.nls r
end
section
variable {K : PySem.W.Frag} {F F' F'' G H H' : Hp} {a : Addr} {ws : List V}
mutual
theorem nl_rep (ha : F' a = some (.lst ws)) (e : ∀ b, b ≠ a → F'' b = F' b) : ∀ {v : V} {d : D}, Rep K F' v d → d.nl = true → Rep K F'' v d
  | _, _, .non, _ => .non
  | _, _, .bl b, _ => .bl b
  | _, _, .int i, _ => .int i
  | _, _, .str x, _ => .str x
  | _, _, .ty n, _ => .ty n
  | _, _, .cls C, _ => .cls C
  | _, _, .tup (a := b) h r, n => .tup (by
      rw [e b fun z => by rw [z, ha] at h; cases h]
      exact h) (nls_rep ha e r (by rw [D.nl] at n; exact n))
  | _, _, .ktu (a := b) h r, n => .ktu (by
      rcases h with (h | ⟨o, h⟩) | h
      · exact .inl (.inl (by rw [e b fun z => by rw [z, ha] at h; cases h]; exact h))
      · exact .inl (.inr ⟨o, by rw [e b fun z => by rw [z, ha] at h; cases h]; exact h⟩)
      · exact .inr h) (nls_rep ha e r (by rw [D.nl] at n; exact n))
  | _, _, .lst _ _, n => by rw [D.nl] at n; cases n
  | _, _, .scr _, n => by rw [D.nl] at n; cases n
  | _, _, .dicK (a := b) h r, n => .dicK (by
      rcases h with h | ⟨o, h⟩
      · exact .inl (by rw [e b fun z => by rw [z, ha] at h; cases h]; exact h)
      · exact .inr ⟨o, by rw [e b fun z => by rw [z, ha] at h; cases h]; exact h⟩) (nls_rep ha e r (by rw [D.nl] at n; exact n))
  | _, _, .dicT (a := b) h r, n => .dicT (by
      rcases h with h | ⟨o, h⟩
      · exact .inl (by rw [e b fun z => by rw [z, ha] at h; cases h]; exact h)
      · exact .inr ⟨o, by rw [e b fun z => by rw [z, ha] at h; cases h]; exact h⟩) (nls_rep ha e r (by rw [D.nl] at n; exact n))
  | _, _, .ins (a := b) h r, n => .ins (by
      rw [e b fun z => by rw [z, ha] at h; cases h]
      exact h) (nls_rep ha e r (by rw [D.nl] at n; exact n))
  | _, _, .exc _ _ _ _, n => by rw [D.nl] at n; cases n
theorem nls_rep (ha : F' a = some (.lst ws)) (e : ∀ b, b ≠ a → F'' b = F' b) : ∀ {vs : List V} {ds : List D}, Reps K F' vs ds → D.nls ds = true → Reps K F'' vs ds
  | _, _, .nil, _ => .nil
  | _, _, .cons r rs, n => by
    rw [D.nls, Bool.and_eq_true] at n
    exact .cons (nl_rep ha e r n.1) (nls_rep ha e rs n.2)
end
mutual
theorem RepO.mix (e : Same F F'') (eh : Same H H') : ∀ {t : OT} {v : V} {P P' : Addr → Prop}, RepO K F H t v P → RepO K F' H' t v P' → RepO K F'' H' t v P'
  | .fz d, v, P, P', h, k => by
    unfold RepO at h ⊢
    exact h.mono e
  | .ol ts, v, P, P', h, k => by
    unfold RepO at h k ⊢
    obtain ⟨a, vs, rfl, pa, ha, r⟩ := h
    obtain ⟨b, us, e1, pb, hb, r'⟩ := k
    cases e1
    have z := eh _ _ ha
    rw [hb] at z
    cases z
    exact ⟨a, vs, rfl, pb, hb, RepOs.mix e eh r r'⟩
  | .od tk ks ts, v, P, P', h, k => by
    unfold RepO at h k ⊢
    obtain ⟨a, rfl, pa, h⟩ := h
    obtain ⟨b, e1, pb, k⟩ := k
    cases e1
    refine ⟨a, rfl, pb, ?_⟩
    rcases h with ⟨e0, kvs, ha, hk, r⟩ | ⟨e0, kvs, ha, hk, r⟩ <;> rcases k with ⟨e2, kvs', hb, hk', r'⟩ | ⟨e2, kvs', hb, hk', r'⟩
    · have z := eh _ _ ha
      rw [hb] at z
      cases z
      exact .inl ⟨e0, kvs, hb, hk', RepOs.mix e eh r r'⟩
    · rw [e0] at e2; cases e2
    · rw [e0] at e2; cases e2
    · have z := eh _ _ ha
      rw [hb] at z
      cases z
      exact .inr ⟨e0, kvs, hb, hk', RepOs.mix e eh r r'⟩
  | .oi C ns ts, v, P, P', h, k => by
    unfold RepO at h k ⊢
    obtain ⟨a, dx, fvs, rfl, pa, ha, hn, r⟩ := h
    obtain ⟨b, dy, fvs', e1, pb, hb, hn', r'⟩ := k
    cases e1
    have z := eh _ _ ha
    rw [hb] at z
    cases z
    exact ⟨a, dx, fvs, rfl, pb, hb, hn, RepOs.mix e eh r r'⟩
theorem RepOs.mix (e : Same F F'') (eh : Same H H') : ∀ {ts : List OT} {vs : List V} {P P' : Addr → Prop}, RepOs K F H ts vs P → RepOs K F' H' ts vs P' → RepOs K F'' H' ts vs P'
  | [], vs, P, P', h, k => by
    unfold RepOs at h ⊢
    exact h
  | t :: ts, vs, P, P', h, k => by
    unfold RepOs at h k ⊢
    obtain ⟨v, ws, P1, P2, rfl, h1, h2, r1, r2⟩ := h
    obtain ⟨v', ws', Q1, Q2, e1, k1, k2, q1, q2⟩ := k
    cases e1
    exact ⟨v, ws, Q1, Q2, rfl, k1, k2, RepO.mix e eh r1 q1, RepOs.mix e eh r2 q2⟩
end
end
/-- the state in which the list of the j-th parameter, the name i, is lent -/
noncomputable def lent (sd : SD) (i j : Nat) (ds : List D) : SD := ⟨sd.sl.set i (.ow (.fz (.lst ds))), sd.pa.set j (.fz (.lst ds))⟩
section
variable {K : PySem.W.Frag} {pv : List V} {G F H : Hp} {sd : SD} {σ : L2.St}
theorem StR.lend {i j : Nat} {ds : List D} (s : StR K pv G F sd σ H) (hi : sd.sl[i]? = some (.pa j)) (hj : sd.pa[j]? = some (.ol (ds.map .fz))) :
    ∃ (a : Addr) (vs : List V), StR K pv G (upd F a (.lst vs)) (lent sd i j ds) σ H ∧ F a = none ∧
      ∀ F' H', Same (upd F a (.lst vs)) F' → StR K pv G F' (lent sd i j ds) σ H' → Same H H' → StR K pv G (fun b => if b = a then none else F' b) sd σ H' := by
  classical
  obtain ⟨o, W⟩ := s
  obtain ⟨v, p1, p2⟩ := W.pr j _ hj
  obtain ⟨v', q1, q2⟩ := W.sp i j hi
  rw [p1] at q1; cases q1
  unfold RepO at p2
  obtain ⟨a, vs, rfl, pa, ha, r⟩ := p2
  have rr : Reps K F vs ds := repOs_fz r
  obtain ⟨h0, fa, ga⟩ := W.oh _ a pa
  have up : Same F (upd F a (.lst vs)) := Same.upd fa
  have li : i < sd.sl.length := (List.getElem?_eq_some_iff.mp hi).1
  have lj : j < sd.pa.length := (List.getElem?_eq_some_iff.mp hj).1
  have rep : Rep K (upd F a (.lst vs)) (.ref a) (.lst ds) := .lst (.inl upd_same) (Reps.mono up rr)
  refine ⟨a, vs, ⟨fun x b => x ≠ .inr j ∧ o x b, ⟨fun b u e => ?_, W.gh, fun b hb => ?_, fun x b q => ?_, fun x y b q q' => W.oo x y b q.2 q'.2, ?_, fun k t e => ?_, fun k l e => ?_, fun k t e => ?_, fun b xs e => ?_⟩⟩, fa, fun F' H' f ⟨o', W'⟩ eh => ?_⟩
  · by_cases z : b = a
    · subst z
      rw [upd_same] at e; cases e
      exact ha
    · rw [upd_ne z] at e
      exact W.fh b u e
  · by_cases z : b = a
    · rw [z]; exact ga
    · rw [upd_ne z] at hb
      exact W.fg b hb
  · obtain ⟨k1, k2, k3⟩ := W.oh x b q.2
    refine ⟨k1, ?_, k3⟩
    rw [upd_ne fun z => q.1 (W.oo x _ b q.2 (by rw [z]; exact pa))]
    exact k2
  · show σ.length = (sd.sl.set i _).length
    rw [List.length_set]; exact W.len
  · have e : (sd.sl.set i (.ow (.fz (.lst ds))))[k]? = some (.ow t) := e
    by_cases z : i = k
    · subst z
      rw [List.getElem?_set_self li] at e
      cases e
      refine ⟨_, q2, ?_⟩
      unfold RepO
      exact rep
    · rw [List.getElem?_set_ne z] at e
      obtain ⟨w, k1, k2⟩ := W.sl k t e
      exact ⟨w, k1, k2.mono up fun x hx => ⟨⟨(fun y => by cases y), hx⟩, rfl⟩⟩
  · have e : (sd.sl.set i (.ow (.fz (.lst ds))))[k]? = some (.pa l) := e
    by_cases z : i = k
    · subst z
      rw [List.getElem?_set_self li] at e
      cases e
    · rw [List.getElem?_set_ne z] at e
      exact W.sp k l e
  · have e : (sd.pa.set j (.fz (.lst ds)))[k]? = some t := e
    by_cases z : j = k
    · subst z
      rw [List.getElem?_set_self lj] at e
      cases e
      refine ⟨_, p1, ?_⟩
      unfold RepO
      exact rep
    · rw [List.getElem?_set_ne z] at e
      obtain ⟨w, k1, k2⟩ := W.pr k t e
      exact ⟨w, k1, k2.mono up fun x hx => ⟨⟨fun y => z (Sum.inr.inj y).symm, hx⟩, rfl⟩⟩
  · have e2 := W.tf b xs e
    rw [upd_ne fun z => by rw [z, fa] at e2; cases e2]
    exact e2
  · have fa' : F' a = some (.lst vs) := f a _ upd_same
    have sub : Same F (fun b => if b = a then none else F' b) := fun b u e => by
      have nb : b ≠ a := fun z => by rw [z, fa] at e; cases e
      show (if b = a then none else F' b) = some u
      rw [if_neg nb]
      exact f b u (by rw [upd_ne nb]; exact e)
    refine ⟨fun x b => (x = .inr j ∧ b = a) ∨ (x ≠ .inr j ∧ o' x b), fun b u e => ?_, W'.gh, fun b hb => ?_, fun x b q => ?_, fun x y b q q' => ?_, W.len, fun k t e => ?_, W.sp, fun k t e => ?_, fun b xs e => ?_⟩
    · have e : (if b = a then none else F' b) = some u := e
      split at e
      · cases e
      · exact W'.fh b u e
    · have hb : (if b = a then none else F' b) ≠ none := hb
      split at hb
      · exact absurd rfl hb
      · exact W'.fg b hb
    · rcases q with ⟨rfl, rfl⟩ | ⟨n, q⟩
      · exact ⟨by rw [W'.fh _ _ fa']; simp, if_pos rfl, ga⟩
      · obtain ⟨k1, k2, k3⟩ := W'.oh x b q
        refine ⟨k1, ?_, k3⟩
        show (if b = a then none else F' b) = none
        split
        · rfl
        · exact k2
    · rcases q with ⟨rfl, rfl⟩ | ⟨n, q⟩ <;> rcases q' with ⟨h1, h2⟩ | ⟨n', q'⟩
      · exact h1.symm
      · have := (W'.oh y _ q').2.1
        rw [fa'] at this; cases this
      · have := (W'.oh x b q).2.1
        rw [h2, fa'] at this; cases this
      · exact W'.oo x y b q q'
    · obtain ⟨w, k1, k2⟩ := W.sl k t e
      have nk : i ≠ k := fun z => by rw [← z, hi] at e; cases e
      obtain ⟨w', m1, m2⟩ := W'.sl k t (show (sd.sl.set i _)[k]? = _ by rw [List.getElem?_set_ne nk]; exact e)
      rw [k1] at m1; cases m1
      exact ⟨w, k1, (RepO.mix sub eh k2 m2).mono (Same.refl _) fun x hx => ⟨.inr ⟨(fun y => by cases y), hx⟩, rfl⟩⟩
    · by_cases z : j = k
      · subst z
        rw [hj] at e; cases e
        refine ⟨_, p1, ?_⟩
        unfold RepO
        exact ⟨a, vs, rfl, .inl ⟨rfl, rfl⟩, W'.fh _ _ fa', repOs_of _ (Reps.mono sub rr)⟩
      · obtain ⟨w, k1, k2⟩ := W.pr k t e
        obtain ⟨w', m1, m2⟩ := W'.pr k t (show (sd.pa.set j _)[k]? = _ by rw [List.getElem?_set_ne z]; exact e)
        rw [k1] at m1; cases m1
        exact ⟨w, k1, (RepO.mix sub eh k2 m2).mono (Same.refl _) fun x hx => ⟨.inr ⟨fun y => z (Sum.inr.inj y).symm, hx⟩, rfl⟩⟩
    · have e2 := W'.tf b xs e
      show (if b = a then none else F' b) = _
      rw [if_neg fun z => by rw [z, fa'] at e2; cases e2]
      exact e2
end
/-- e, with the list of the name i lent -/
noncomputable def mLend (i : Nat) (m : SD → ER D) : SD → ER D := fun sd => match sd.sl[i]? with
  | some (.pa j) => match sd.pa[j]? with
    | some (.ol ts) => match fzOf ts with
      | some ds => match m (lent sd i j ds) with
        | .ok d _ => if d.nl = true then .ok d sd else .bad
        | _ => .bad
      | none => .bad
    | _ => .bad
  | _ => .bad
section
variable {X : Cx} {pv : List V} {W : WX} {p q k l : Bool} {e f : Expr} {es : List Expr} {pos : Pos}
theorem dx_lend {i : Nat} {m : SD → ER D} (h : DX X pv W true true e m) : DX X pv W true true e (mLend i m) := by
  obtain ⟨te, a1, a2⟩ := h
  refine ⟨te, a1, fun G F sd σ H Q s => ?_⟩
  unfold mLend
  split
  · rename_i j hi
    split
    · rename_i ts hj
      split
      · rename_i ds hd
        have et := fzOf_eq hd
        subst et
        obtain ⟨a, vs, s1, fa, back⟩ := s.lend hi hj
        have z := a2 G (upd F a (.lst vs)) (lent sd i j ds) σ H Q s1
        revert z
        cases em : m (lent sd i j ds) with
        | bad => exact fun _ => True.intro
        | rz x sd1 => exact fun _ => True.intro
        | ok d sd1 =>
          intro z
          show Meets X.K pv W G σ (RSx X.K true) true sd F H (if d.nl = true then .ok d sd else .bad) Q _
          split
          · rename_i hn
            intro hQ
            refine z fun v F' H' t1 t2 t3 t4 => ?_
            obtain ⟨u1, rfl⟩ := t4 rfl
            have fa' : F' a = some (.lst vs) := t1 a _ upd_same
            refine hQ v (fun b => if b = a then none else F' b) H' (fun b u eb => ?_) (back F' H' t1 t2 u1) ?_ fun _ => ⟨u1, rfl⟩
            · have nb : b ≠ a := fun z => by rw [z, fa] at eb; cases eb
              show (if b = a then none else F' b) = some u
              rw [if_neg nb]
              exact t1 b u (by rw [upd_ne nb]; exact eb)
            · show Rep X.K (fun b => if b = a then none else F' b) v d
              exact nl_rep fa' (fun b nb => if_neg nb) t3 hn
          · exact True.intro
      · exact True.intro
    · exact True.intro
  · exact True.intro
end
end DL
set_option maxHeartbeats 1600000
namespace DL
open PySem PySem.Spec L2 PyProof.Rows
section
variable {K : PySem.W.Frag} {pv : List V} {G F H : Hp} {sd : SD} {σ : L2.St}
/-- a tree that no name reaches is handed over as the first parameter -/
theorem Own.giveX {o : Nat ⊕ Nat → Addr → Prop} {P : Addr → Prop} {v : V} {t : OT} {vs : List V} {ds : List D} (W : Own K pv G F sd σ H o) (r : RepO K F H t v P) (k : ∀ a, P a → H a ≠ none ∧ F a = none ∧ G a = none ∧ ∀ i, ¬ o i a) (hr : Reps K F vs ds) :
    ∃ G', StR K (v :: vs) G' F ⟨[], t :: ds.map .fz⟩ [] H ∧ (∀ (F' H' : Hp) (t' : OT) (sd1 : SD), Same F F' → StR K (v :: vs) G' F' sd1 [] H' → sd1.pa[0]? = some t' → StR1 K pv G F' sd σ H' v t' ∧ ∀ b u, H b = some u → ¬ P b → H' b = some u) := by
  classical
  let G' : Hp := fun a => if F a = none ∧ ¬ P a then H a else none
  have g0 : ∀ a, F a = none → ¬ P a → G' a = H a := fun a x y => if_pos ⟨x, y⟩
  have gn : ∀ a, G' a = none → F a ≠ none ∨ P a ∨ H a = none := fun a z => by
    by_cases f : F a = none
    · by_cases q : P a
      · exact .inr (.inl q)
      · rw [g0 a f q] at z; exact .inr (.inr z)
    · exact .inl f
  refine ⟨G', ⟨fun x a => x = .inr 0 ∧ P a, W.fh, fun a u e => ?_, fun a ha => ?_, fun x a q => ?_, fun x y a q q' => q.1.trans q'.1.symm, rfl, fun i t e => ?_, fun i j e => ?_, fun j t1 e => ?_, W.tf⟩, fun F' H' t' sd1 f ⟨o', W'⟩ et => ?_⟩
  · have e : (if F a = none ∧ ¬ P a then H a else none) = some u := e
    split at e
    · exact e
    · cases e
  · exact if_neg fun z => ha z.1
  · obtain ⟨k1, k2, k3, k4⟩ := k a q.2
    exact ⟨k1, k2, if_neg fun z => z.2 q.2⟩
  · have e : ([] : List S)[i]? = some (.ow t) := e
    simp at e
  · have e : ([] : List S)[i]? = some (.pa j) := e
    simp at e
  · have e : (t :: ds.map OT.fz)[j]? = some t1 := e
    cases j with
    | zero =>
      cases e
      exact ⟨v, rfl, r.mono (Same.refl _) fun x hx => ⟨⟨rfl, hx⟩, rfl⟩⟩
    | succ j =>
      have e : (ds.map OT.fz)[j]? = some t1 := e
      rw [List.getElem?_map] at e
      obtain ⟨d, e1, e2⟩ := Option.map_eq_some_iff.mp e
      subst e2
      obtain ⟨w, h1, h2⟩ := hr.get e1
      refine ⟨w, h1, ?_⟩
      unfold RepO
      exact h2
  · have ne : ∀ x a, o x a → G' a = H a ∧ H a ≠ none := fun x a q => by
      obtain ⟨k1, k2, k3⟩ := W.oh x a q
      exact ⟨g0 a k2 fun z => (k a z).2.2.2 x q, k1⟩
    have keep : ∀ x a, o x a → H' a = H a := fun x a q => by
      obtain ⟨k1, k2⟩ := ne x a q
      cases e : H a with
      | none => exact absurd e k2
      | some u => exact W'.gh a u (by rw [k1]; exact e)
    have gG : ∀ a, G' a = none → F' a = none → G a = none := fun a z fa => by
      rcases gn a z with q | q | q
      · exact absurd (f.free fa) q
      · exact (k a q).2.2.1
      · exact W.gh.free q
    obtain ⟨v1, q1, q2⟩ := W'.pr 0 t' et
    cases q1
    have fa : ∀ a u, G a = some u → F a = none := fun a u e => by
      cases e2 : F a with
      | none => rfl
      | some u2 => have := W.fg a (by rw [e2]; simp); rw [e] at this; cases this
    have np : ∀ a u, G a = some u → ¬ P a := fun a u e z => by rw [(k a z).2.2.1] at e; cases e
    refine ⟨⟨o, o' (.inr 0), ⟨W'.fh, fun a u e => W'.gh a u (by rw [g0 a (fa a u e) (np a u e)]; exact W.gh a u e), fun a ha => ?_, fun x a q => ?_, W.oo, W.len, fun i t e => ?_, W.sp, fun j t e => ?_, W'.tf⟩, q2, fun a q => ?_⟩, fun b u e np => ?_⟩
    · cases e : G a with
      | none => rfl
      | some u =>
        have := W'.fg a ha
        rw [g0 a (fa a u e) (np a u e), W.gh a u e] at this
        cases this
    · obtain ⟨k1, k2⟩ := ne x a q
      refine ⟨by rw [keep x a q]; exact k2, ?_, (W.oh x a q).2.2⟩
      cases e : F' a with
      | none => rfl
      | some u =>
        have := W'.fg a (by rw [e]; simp)
        rw [k1] at this
        exact absurd this k2
    · obtain ⟨w, h1, h2⟩ := W.sl i t e
      exact ⟨w, h1, h2.mono f fun x hx => ⟨hx, keep _ x hx⟩⟩
    · obtain ⟨w, h1, h2⟩ := W.pr j t e
      exact ⟨w, h1, h2.mono f fun x hx => ⟨hx, keep _ x hx⟩⟩
    · obtain ⟨k1, k2, k3⟩ := W'.oh _ a q
      exact ⟨k1, k2, gG a k3 k2, fun x q' => by
        obtain ⟨m1, m2⟩ := ne x a q'
        rw [m1] at k3
        exact m2 k3⟩
    · cases e2 : F b with
      | none => exact W'.gh b u (by rw [g0 b e2 np]; exact e)
      | some u2 =>
        have h1 := W.fh b u2 e2
        rw [e] at h1; cases h1
        exact W'.fh b u (f b u e2)
theorem StR.makeX {x dx C : Addr} {vs : List V} {ds : List D} (s : StR K pv G F sd σ H) (hx : H x = none) (hdx : H dx = none) (hne : dx ≠ x) (hr : Reps K F vs ds) :
    ∃ G', StR K (V.ref x :: vs) G' F ⟨[], .oi C [] [] :: ds.map .fz⟩ [] (upd (upd H dx (.own x)) x (.ins C dx [])) ∧ (∀ (F' H' : Hp) (t' : OT) (sd1 : SD), Same F F' → StR K (V.ref x :: vs) G' F' sd1 [] H' → sd1.pa[0]? = some t' → StR1 K pv G F' sd σ H' (.ref x) t' ∧ Same H H') := by
  obtain ⟨o, W⟩ := s
  have n := W.fresh hx
  have sm : Same H (upd (upd H dx (.own x)) x (.ins C dx [])) := fun a u e => by
    rw [upd_ne (ne_of_none e hx), upd_ne (ne_of_none e hdx)]; exact e
  have W2 := W.grow sm (Same.refl _) (W.fh.trans sm) fun a ha => .inl ha
  obtain ⟨G', g1, g2⟩ := Own.giveX (P := fun a => a = x) (v := .ref x) (t := .oi C [] []) W2 (by
    unfold RepO
    refine ⟨x, dx, [], rfl, rfl, upd_same, rfl, ?_⟩
    unfold RepOs
    rfl) (fun a ha => by
    subst ha
    exact ⟨by rw [upd_same]; simp, n.1, n.2.1, n.2.2⟩) hr
  refine ⟨G', g1, fun F' H' t' sd1 f s2 et => ?_⟩
  obtain ⟨a1, a2⟩ := g2 F' H' t' sd1 f s2 et
  exact ⟨a1, fun b u e => a2 b u (sm b u e) (ne_of_none e hx)⟩
end
theorem Meets.bindP {α β γ δ : Type} {K : PySem.W.Frag} {pv : List V} {W : WX} {G F H : Hp} {σ : L2.St} {sd : SD} {p : Bool} {RS : RSt β α} {RS' : RSt δ γ} {r : ER α} {f : α → SD → ER γ} {Q : δ → Hp → Prop} {k : β → Hp → Prop} {P : Prop} (h : Meets K pv W G σ RS p sd F H r k P)
    (g : ∀ v F1 H1 a sd1, r = .ok a sd1 → Same F F1 → StR K pv G F1 sd1 σ H1 → RS G F1 sd1 H1 σ v a → Meets K pv W G σ RS' true sd1 F1 H1 (f a sd1) Q (k v H1)) :
    Meets K pv W G σ RS' p sd F H (r.bind f) Q P := by
  cases r with
  | bad => exact True.intro
  | rz x sd' => exact h
  | ok a sd1 =>
    show Meets K pv W G σ RS' p sd F H (f a sd1) Q P
    have h' : (∀ v F' H', Same F F' → StR K pv G F' sd1 σ H' → RS G F' sd1 H' σ v a → (p = true → Same H H' ∧ sd1 = sd) → k v H') → P := h
    have g' := fun v F1 H1 s1 s2 s3 => g v F1 H1 a sd1 rfl s1 s2 s3
    revert g'
    cases f a sd1 with
    | bad => exact fun _ => True.intro
    | rz x sd2 => exact fun g' hW => h' fun v F1 H1 s1 s2 s3 s4 => g' v F1 H1 s1 s2 s3 fun cls dd F2 H2 t1 t2 t3 => hW cls dd F2 H2 (s1.trans t1) t2 t3
    | ok c sd2 => exact fun g' hQ => h' fun v F1 H1 s1 s2 s3 s4 => g' v F1 H1 s1 s2 s3 fun w F2 H2 t1 t2 t3 t4 => hQ w F2 H2 (s1.trans t1) t2 t3 fun z => ⟨(s4 z).1.trans (t4 rfl).1, (t4 rfl).2.trans (s4 z).2⟩
section
variable {X : Cx} {pv : List V} {W : WX} {p q k l : Bool} {e a b : Expr} {es : List Expr} {pos : Pos}
theorem do_makeP {C f : Addr} {fd : FuncData} {ps : List Str} {x : Str} {pp : Pos} {n j : Nat} {g : List OT → ER OT} {m : SD → ER (List D)} (M : Mk X.K C f) (F : FnG X.prog X.w X.K X.mg X.base (L2.CX X.prog X.w) j f fd ps (spD X.K (n + 1) g)) (hr : RoomG (j + 1) X.A) (hg : Gl X x)
    (hm : X.mg x = some (.ref C)) (hb : Binds X.K fd ps []) (tk : Takes X W) (ha : DA X pv W p true (e :: es) m) (hn : ∀ sd ds sd1, m sd = .ok ds sd1 → ds.length = n)
    (hdb : (x == ("__debug__" : Str)) = false := by decide) (he : starEach (e :: es) X.env = (false, eval e X.env) :: starEach es X.env := by rfl) (hpl : (backTo pos (starEach es X.env)).any (·.1) = false := by rfl) :
    DO X pv W p (.Call (.Name x pp) (e :: es) [] pos) (mMake C g m) := by
  obtain ⟨ta, a1, a2⟩ := ha
  refine ⟨fun σ H Q => ta σ H fun vs H1 => ∀ x dx, H1 x = none → H1 dx = none → dx ≠ x → spD X.K (n + 1) g (.ref x :: vs) (upd (upd H1 dx (.own x)) x (.ins C dx [])) (fun v H2 => v = .non ∧ Q (.ref x) H2) (WE W σ), ⟨fun pins s σ H Q I h => ?_⟩, fun G Fz sd σ H Q s => ?_⟩
  · refine wpAny_Call_Name_kw (ld_glob I hg hm ?_ hdb)
    refine PySem.W.callWith_K (h₀ := X.base) I.ok.mod.kin M.kp (thn (a1.run pos pins s σ H _ I h) fun us s1 ⟨vs, H1, I1, r, q⟩ => ⟨I1.kIn, ?_⟩) he hpl
    exact run_makeS (E := WE W) M F hr hb (passAt tk σ) I1 r q
  · refine Meets.bindP (a2 G Fz sd σ H _ s) fun vs F1 H1 ds sd1 hmm s1 s2 s3 => ?_
    have s3 : Reps X.K F1 vs ds := s3
    have hnn := hn sd ds sd1 hmm
    have key : ∀ x dx, H1 x = none → H1 dx = none → dx ≠ x → ∃ G', StR X.K (V.ref x :: vs) G' F1 ⟨[], .oi C [] [] :: ds.map .fz⟩ [] (upd (upd H1 dx (.own x)) x (.ins C dx [])) ∧
        (∀ (F' H' : Hp) (t' : OT) (sdx : SD), Same F1 F' → StR X.K (V.ref x :: vs) G' F' sdx [] H' → sdx.pa[0]? = some t' → StR1 X.K pv G F' sd1 σ H' (.ref x) t' ∧ Same H1 H') := fun x dx h1 h2 h3 => s2.makeX (C := C) h1 h2 h3 s3
    have len1 : ∀ (x : Addr), (V.ref x :: vs).length = n + 1 := fun x => by rw [List.length_cons, s3.length, hnn]
    have len2 : (OT.oi C [] [] :: ds.map OT.fz).length = n + 1 := by rw [List.length_cons, List.length_map, hnn]
    split
    · rename_i sd' e1
      split
      · rename_i t et
        intro hQ x dx h1 h2 h3
        obtain ⟨G', g1, g2⟩ := key x dx h1 h2 h3
        refine ⟨len1 x, G', F1, _, len2, g1, ?_⟩
        rw [e1]
        intro v F' H' t1 t2
        refine ⟨?_, hQ (.ref x) F' H' t1 (g2 F' H' t sd' t1 t2.drop et).1.drop (g2 F' H' t sd' t1 t2.drop et).1 fun _ => ⟨(g2 F' H' t sd' t1 t2.drop et).2, rfl⟩⟩
        obtain ⟨o, P, w, r, _⟩ := t2
        unfold RepO at r
        cases r
        rfl
      · exact True.intro
    · rename_i x1 sd' e1
      split
      · rename_i t et
        intro hW x dx h1 h2 h3
        obtain ⟨G', g1, g2⟩ := key x dx h1 h2 h3
        refine ⟨len1 x, G', F1, _, len2, g1, ?_⟩
        rw [e1]
        exact fun cls dd F' H' t1 t2 t3 => hW cls dd F' H' t1 (g2 F' H' t sd' t1 t2 et).1.drop t3
      · exact True.intro
    · exact True.intro
end
end DL
set_option maxHeartbeats 1600000
namespace DL
open PySem PySem.Spec L2 PyProof.Rows
theorem Meets.toP {α β : Type} {K : PySem.W.Frag} {pv : List V} {W : WX} {G F H : Hp} {σ : L2.St} {sd : SD} {p : Bool} {RS : RSt β α} {r : ER α} {Q : β → Hp → Prop} {P P' : Prop} (h : Meets K pv W G σ RS p sd F H r Q P) (hP : P → P') : Meets K pv W G σ RS p sd F H r Q P' := by
  cases r with
  | bad => exact True.intro
  | rz x sd' => exact fun z => hP (h z)
  | ok a sd' => exact fun z => hP (h z)
section
variable {X : Cx} {pv : List V} {W : WX} {p q k l : Bool} {e a b : Expr} {es : List Expr} {pos : Pos}
noncomputable def mListQ (m : SD → ER (List D)) : SD → ER OT := fun sd => (m sd).bind fun xs sd1 => .ok (.ol (xs.map .fz)) sd1
theorem do_listQ {f : Str} {n1 : Pos} {m : SD → ER (List D)} (g1 : Gl X f) (m1 : X.mg f = none) (v1 : bootBuiltins f = some (.type "list")) (ha : DQ X pv W p k e m)
    (k1 : f ≠ "__name__" := by decide) (k2 : (f == ("__debug__" : Str)) = false := by decide) (hs : starEach [e] X.env = (false, eval e X.env) :: starEach [] X.env := by rfl) :
    DO X pv W p (.Call (.Name f n1) [e] [] pos) (mListQ m) := by
  obtain ⟨ta, a1, a2⟩ := ha
  refine ⟨_, pe_callTy call_list_of g1 m1 v1 (pa_cons a1 pa_nil hs) k1 k2 hs, fun G F sd σ H Q s => ?_⟩
  refine Meets.bindL (a2 G F sd σ H _ s) fun x F1 H1 xs sd1 s1 s2 s3 s4 => ?_
  obtain ⟨aa, vs, rfl, h1, h2⟩ := s3
  intro hQ
  have h1 : Rd H1 aa (.lst vs) := by
    cases k with
    | true => exact Same.rd s2.fh h1
    | false => exact h1
  refine ⟨aa, vs, rfl, .inl (.inl h1), fun pl hp => ?_⟩
  have z := s2.newL hp h2
  exact hQ _ _ _ (Same.refl _) z.drop z fun _ => ⟨Same.upd hp, rfl⟩
noncomputable def mInF (neg : Bool) (mk mo : SD → ER D) : SD → ER D := fun sd => (mk sd).bind fun y sd1 => (mo sd1).bind fun x sd2 => match tupIs y, unD x with
  | some ns, some al => .ok (.bl (xor neg (aGet al ns).isSome)) sd2
  | _, _ => .bad
theorem dx_inF {mk mo : SD → ER D} (hu : X.A.units + 1 < cLine) (he : DX X pv W p true a mk) (ho : DX X pv W q true b mo) (hm : behindInMarks .In b = false := by rfl) : DX X pv W (p && q) true (.Compare a [.In] [b] pos) (mInF false mk mo) := by
  obtain ⟨te, a1, a2⟩ := he
  obtain ⟨to, o1, o2⟩ := ho
  refine ⟨_, pe_cmp (pc_din hu a1 o1) hm, fun G F sd σ H Q s => ?_⟩
  refine Meets.bind (a2 G F sd σ H _ s) fun y F1 H1 dy sd1 s1 s2 s3 s4 => ?_
  have r1 : Rep X.K F1 y dy := s3
  refine Meets.bindL (o2 G F1 sd1 σ H1 _ s2) fun x F2 H2 dx sd2 t1 t2 t3 t4 => ?_
  split
  · rename_i ns al e1 e2
    have r2 : Rep X.K F2 x dx := t3
    rw [unD_eq e2] at r2
    obtain ⟨ad, kvs, rfl, rd, ral⟩ := rep_dicT r2
    obtain ⟨bb, rfl, h3⟩ := rep_key (r1.mono t1) e1
    intro hQ
    refine ⟨ad, _, rfl, .inr ⟨kvs, tkey ns, bb, Same.rd t2.fh rd, rfl, t2.fh _ _ h3, rfl⟩, ?_⟩
    rw [aget_some ral]
    have q := hQ (.bl (aGet al ns).isSome) F2 H2 (Same.refl _) t2 (show Rep X.K F2 _ (.bl (xor false (aGet al ns).isSome)) by rw [Bool.false_xor]; exact .bl _) fun _ => ⟨Same.refl _, rfl⟩
    exact q
  · exact True.intro
noncomputable def dInL (neg : Bool) : D → D → Option D := fun a b => match a.py, b.py with
  | some p, some (.list qs) => if (SeqAt.shaped p && SeqAt.shaped (.list qs)) = true then some (.bl (xor neg (qs.any fun z => PyData.eqv z p))) else none
  | _, _ => none
theorem f_inL {K : PySem.W.Frag} : Op2S K (rInD K) (dInL false) := by
  intro H x y a b c r1 r2 h
  unfold dInL at h
  split at h
  · rename_i p qs e1 e2
    split at h
    · rename_i hs
      rw [Bool.and_eq_true] at hs
      cases h
      exact ⟨_, rfl, fun Q z => ⟨p, qs, Rep.dp r1 e1, Rep.dp r2 e2, hs.1, hs.2, by rw [Bool.false_xor] at z; exact z⟩⟩
    · cases h
  · cases h
theorem f_notInL {K : PySem.W.Frag} : Op2S K (rNotInD K) (dInL true) := by
  intro H x y a b c r1 r2 h
  unfold dInL at h
  split at h
  · rename_i p qs e1 e2
    split at h
    · rename_i hs
      rw [Bool.and_eq_true] at hs
      cases h
      exact ⟨_, rfl, fun Q z => ⟨p, qs, Rep.dp r1 e1, Rep.dp r2 e2, hs.1, hs.2, by rw [Bool.true_xor] at z; exact z⟩⟩
    · cases h
  · cases h
end
section
variable {K : PySem.W.Frag} {pv vs ws : List V} {G F H : Hp} {sd : SD} {σ : L2.St}
theorem StR1.alone {v : V} {t : OT} (s : StR1 K vs G F sd [] H v t) : StR1 K ws G F ⟨[], []⟩ [] H v t := by
  obtain ⟨o, P, W, r, k⟩ := s
  exact ⟨o, P, ⟨W.fh, W.gh, W.fg, W.oh, W.oo, rfl, fun i t e => by simp at e, fun i j e => by simp at e, fun j t e => by simp at e, W.tf⟩, r, k⟩
theorem StR.pre {v w : V} {d : D} {t : OT} (s : StR K [v] G F ⟨[], [t]⟩ [] H) (r : Rep K F w d) : StR K [w, v] G F ⟨[], [.fz d, t]⟩ [] H := by
  obtain ⟨o, W⟩ := s
  refine ⟨fun x a => x = .inr 1 ∧ o (.inr 0) a, W.fh, W.gh, W.fg, fun x a q => W.oh _ a q.2, fun x y a q q' => q.1.trans q'.1.symm, rfl, fun i t e => by simp at e, fun i j e => by simp at e, fun j t1 e => ?_, W.tf⟩
  match j with
  | 0 =>
    cases e
    refine ⟨w, rfl, ?_⟩
    unfold RepO
    exact r
  | 1 =>
    cases e
    obtain ⟨v', k1, k2⟩ := W.pr 0 t rfl
    cases k1
    exact ⟨v, rfl, k2.mono (Same.refl _) fun x hx => ⟨⟨rfl, hx⟩, rfl⟩⟩
  | n + 2 => simp at e
end
open Classical in
/-- what g gives, whatever its first argument is -/
noncomputable def uni (g : List OT → ER OT) (t : OT) : Option OT := if h : ∃ u, ∀ a, ∃ s, g [.fz (.cls a), t] = .ok u s then some h.choose else none
theorem uni_all {g : List OT → ER OT} {t u : OT} (h : uni g t = some u) (a : Addr) : ∃ s, g [.fz (.cls a), t] = .ok u s := by
  unfold uni at h
  split at h
  · rename_i z
    cases h
    exact z.choose_spec a
  · cases h
theorem uni_of {g : List OT → ER OT} {t u : OT} (h : ∀ a, ∃ s, g [.fz (.cls a), t] = .ok u s) : uni g t = some u := by
  have ex : ∃ u, ∀ a, ∃ s, g [.fz (.cls a), t] = .ok u s := ⟨u, h⟩
  have e : uni g t = some ex.choose := by unfold uni; rw [dif_pos ex]
  rw [e]
  obtain ⟨s1, h1⟩ := ex.choose_spec 0
  obtain ⟨s2, h2⟩ := h 0
  rw [h1] at h2
  cases h2
  rfl
noncomputable def mCallU (i : Nat) (g : List OT → ER OT) (m : SD → ER OT) : SD → ER OT := fun sd => match sd.tree i with
  | some (.ol _) => (m sd).bind fun t sd1 => match uni g t with
    | some u => .ok u sd1
    | none => .bad
  | _ => .bad
section
variable {X : Cx} {pv : List V} {W : WX} {p q k l : Bool} {e a b : Expr} {es : List Expr} {pos : Pos}
theorem do_callU {i j : Nat} {f : Addr} {fd : FuncData} {ps : List Str} {x y : Str} {pp pq : Pos} {g : List OT → ER OT} {m : SD → ER OT} (F : FnG X.prog X.w X.K X.mg X.base (L2.CX X.prog X.w) j f fd ps (spD X.K 2 g)) (hr : RoomG j X.A) (hg : Gl X x)
    (hm : X.mg x = some (.ref f)) (hk : PySem.W.keepIn X.K (.ref f) = true) (hb : Binds X.K fd ps []) (tk : Takes X W) (hx : PE X (.Name y pq) (tVar i)) (ha : DO X pv W p e m)
    (hdb : (x == ("__debug__" : Str)) = false := by decide) (he : starEach [.Name y pq, e] X.env = (false, eval (.Name y pq) X.env) :: starEach [e] X.env := by rfl) (he2 : starEach [e] X.env = (false, eval e X.env) :: starEach [] X.env := by rfl) (hpl : (backTo pos (starEach [e] X.env)).any (·.1) = false := by rfl) :
    DO X pv W false (.Call (.Name x pp) [.Name y pq, e] [] pos) (mCallU i g m) := by
  obtain ⟨te, a1, a2⟩ := ha
  refine ⟨_, pe_callG F hr hg hm hk hb tk (pa_cons hx (pa_cons a1 pa_nil he2) he) hdb he hpl, fun G Fz sd σ H Q s => ?_⟩
  unfold mCallU
  split
  · rename_i ts e0
    obtain ⟨aa, xs, h1, h2⟩ := ol_at s e0
    refine Meets.toP (P := te σ H fun v H1 => spD X.K 2 g [.ref aa, v] H1 Q (WE W σ)) ?_ fun z => ⟨_, h1, z⟩
    have z := Meets.bind (RS' := RSo X.K pv) (q := false) (Q := Q) (f := fun t sd1 => match uni g t with
      | some u => .ok u sd1
      | none => .bad) (k := fun v H1 => spD X.K 2 g [.ref aa, v] H1 Q (WE W σ)) (a2 G Fz sd σ H _ s) fun v F1 H1 t sd1 s1 s2 s3 s4 => ?_
    · exact z.weak
    · have s3 : StR1 X.K pv G F1 sd1 σ H1 v t := s3
      obtain ⟨G', g1, g2, g3⟩ := s3.giveN
      cases e : uni g t with
      | none => exact True.intro
      | some u =>
        obtain ⟨s', e2⟩ := uni_all e aa
        intro hQ
        refine ⟨rfl, G', F1, [.fz (.cls aa), t], rfl, g1.pre (.cls aa), ?_⟩
        rw [e2]
        exact fun w F2 H2 t1 t2 => hQ w F2 H2 t1 (g2 F2 H2 w u _ t1 t2.alone).drop (g2 F2 H2 w u _ t1 t2.alone) fun w => by cases w
  · exact True.intro
end
end DL
set_option maxHeartbeats 1600000
namespace DL
open PySem PySem.Spec L2 PyProof.Rows
noncomputable def dIsiT : List D → Option D
  | [d, .tup [.ty n, .ty m]] => if (tyName n && tyName m) = true then (d.isA n).bind fun a => (d.isA m).map fun b => .bl (a || b) else none
  | _ => none
theorem kit_two {K : PySem.W.Frag} {t n m : String} {a b : Bool} (h1 : kitB t n = some a) (h2 : kitB t m = some b) : PySem.W.kitAny K (.type t) [.type n, .type m] = some (a || b) := by
  refine kitAny_cons (kit_ty h1) (fun e => ?_) fun e => by rw [e]; rfl
  subst e
  exact kitAny_cons (kit_ty h2) (fun e => by subst e; rfl) fun e => by rw [e]; rfl
theorem f_isiT {K : PySem.W.Frag} : CallS K (rIsiT K) dIsiT := by
  intro H xs ds c r h
  unfold dIsiT at h
  split at h
  · rename_i d n m
    obtain ⟨v, v', rfl, r1, r2⟩ := reps2 r
    cases r2 with
    | @tup tp cs _ hT rr =>
      obtain ⟨w1, w2, rfl, q1, q2⟩ := reps2 rr
      cases q1
      cases q2
      split at h
      · rename_i hn
        rw [Bool.and_eq_true] at hn
        obtain ⟨a, e1, h⟩ := Option.bind_eq_some_iff.mp h
        obtain ⟨b, e2, h⟩ := Option.map_eq_some_iff.mp h
        subst h
        obtain ⟨k0, k1, k2, k3, k4, k5, k6⟩ := kitB_is hn.1
        obtain ⟨l0, l1, l2, l3, l4, l5, l6⟩ := kitB_is hn.2
        refine ⟨.bl (a || b), rfl, fun Q q => ?_⟩
        have go : ∀ {t : String}, TyX K H v (.type t) → kitB t n = some a → kitB t m = some b → rIsiT K [v, .ref tp] H Q := fun ht h1 h2 => ⟨v, tp, _, _, _, _, rfl, hT, .cons (.ty n) (.cons (.ty m) .nil), ht, kit_two h1 h2, q⟩
        cases r1 with
        | non => exact go (.base .non) (by rw [k0]; exact e1) (by rw [l0]; exact e2)
        | bl x => exact go (.base (.bl x)) (by rw [k1]; exact e1) (by rw [l1]; exact e2)
        | int x => exact go (.base (.int x)) (by rw [k2]; exact e1) (by rw [l2]; exact e2)
        | str x => exact go (.base (.str x)) (by rw [k3]; exact e1) (by rw [l3]; exact e2)
        | ty x => cases e1
        | cls x => cases e1
        | tup s t => exact go (tyx_tup (.inl (.inl s))) (by rw [k4]; exact e1) (by rw [l4]; exact e2)
        | ktu s t => exact go (tyx_tup s) (by rw [k4]; exact e1) (by rw [l4]; exact e2)
        | lst s t => exact go (tyx_lst (.inl s)) (by rw [k5]; exact e1) (by rw [l5]; exact e2)
        | scr s => exact go (tyx_lst s) (by rw [k5]; exact e1) (by rw [l5]; exact e2)
        | dicK s t =>
          rcases s with s | ⟨o, s⟩
          · exact go (.base (.dK s)) (by rw [k6]; exact e1) (by rw [l6]; exact e2)
          · exact go (.fDict s) (by rw [k6]; exact e1) (by rw [l6]; exact e2)
        | dicT s t => cases e1
        | ins s t => cases e1
        | exc _ _ _ _ => cases e1
      · cases h
  · cases h
end DL
namespace Lw
open PySem PySem.Spec L2 DL
/-- the classes of which instances are made -/
noncomputable def okC (cs : Nat → Addr) (C : Addr) : Bool := C == cs 0
/-- the classes are different ones -/
noncomputable def CsOk (cs : Nat → Addr) : Prop := True
noncomputable def m__law_fount_1 (cs : Nat → Addr) : SD → Fl := sSet 2 (mOwn (mC (.int 0)))
noncomputable def m__law_fount_2 (cs : Nat → Addr) : SD → Fl := sSet 2 (mOwn (mOp dIx (mVar 0) (mVar 1)))
noncomputable def m__law_fount_3 (cs : Nat → Addr) : SD → Fl := sIf (mTest (mOp dLt (mVar 1) (mCall dLen (mCons (mVar 0) (mNil))))) ((m__law_fount_2 cs)) (sNil)
noncomputable def m__law_fount_4 (cs : Nat → Addr) : SD → Fl := sRet (mLst (mCons (mCall dMax (mCons (mC (.int 0)) (mCons (mOp dSub (mVar 2) (mOp dPow (mC (.int 10)) (mC (.int 18)))) (mNil)))) (mCons (mOp dAdd (mOp dMul (mOp dMod (mVar 2) (mOp dAdd (mOp dPow (mC (.int 10)) (mC (.int 38))) (mC (.int 133)))) (mC (.int 256))) (mVar 1)) (mCons (mC (.int 0)) (mNil)))))
noncomputable def m__law_fount (cs : Nat → Addr) : List OT → ER OT := asDef 3 (
    sSeq ((m__law_fount_1 cs))
    (sSeq ((m__law_fount_3 cs))
    ((m__law_fount_4 cs))))
noncomputable def m_Picture___len___1 (cs : Nat → Addr) : SD → Fl := sRet (mOwn (mCall dLen (mCons (mFld (fun C => C == cs 0) "sorted_edges" (mVar 0)) (mNil))))
noncomputable def m_Picture___len__ (cs : Nat → Addr) : List OT → ER OT := asDef 1 (
    (m_Picture___len___1 cs))
noncomputable def m_Picture_edges_1 (cs : Nat → Addr) : SD → Fl := sRet (mOwn (mFld (fun C => C == cs 0) "sorted_edges" (mVar 0)))
noncomputable def m_Picture_edges (cs : Nat → Addr) : List OT → ER OT := asDef 1 (
    (m_Picture_edges_1 cs))
noncomputable def m_is_int_1 (cs : Nat → Addr) : SD → Fl := sRet (mOwn (mAndV (mCall dIsi (mCons (mVar 0) (mCons (mC (.ty "int")) (mNil)))) (mNotV (mCall dIsi (mCons (mVar 0) (mCons (mC (.ty "bool")) (mNil)))))))
noncomputable def m_is_int (cs : Nat → Addr) : List OT → ER OT := asDef 1 (
    (m_is_int_1 cs))
noncomputable def m_is_point_c2 (cs : Nat → Addr) : SD → ER OT := mComp (iTuP (mVar 0)) (tgN 1) (mYes) (mView (mCall0 (m_is_int cs) (mCons (mVar 1) (mNil)))) [1]
noncomputable def m_is_point_1 (cs : Nat → Addr) : SD → Fl := sRet (mOwn (mAndV (mCall dIsi (mCons (mVar 0) (mCons (mC (.ty "tuple")) (mNil)))) (mAndV (mOp dEq (mCall dLen (mCons (mVar 0) (mNil))) (mC (.int 2))) (mCall dAll (mCons (mView ((m_is_point_c2 cs))) (mNil))))))
noncomputable def m_is_point (cs : Nat → Addr) : List OT → ER OT := asDef 2 (
    (m_is_point_1 cs))
noncomputable def m_in_range_1 (cs : Nat → Addr) : SD → Fl := sRet (mOwn (mAndV (mView (mCall0 (m_is_int cs) (mCons (mVar 0) (mNil)))) (mChain dLe dLe (mVar 1) (mVar 0) (mVar 2))))
noncomputable def m_in_range (cs : Nat → Addr) : List OT → ER OT := asDef 3 (
    (m_in_range_1 cs))
noncomputable def m_is_edge_1 (cs : Nat → Addr) : SD → Fl := sRet (mOwn (mC (.bl false)))
noncomputable def m_is_edge_2 (cs : Nat → Addr) : SD → Fl := sIf (mOr (mNot (mTest (mCall dIsi (mCons (mVar 0) (mCons (mC (.ty "tuple")) (mNil)))))) (mTest (mOp dNe (mCall dLen (mCons (mVar 0) (mNil))) (mC (.int 3))))) ((m_is_edge_1 cs)) (sNil)
noncomputable def m_is_edge_3 (cs : Nat → Addr) : SD → Fl := sRet (mOwn (mAndV (mView (mCall0 (m_is_point cs) (mCons (mCutX (mVar 0) (oNone) (oSome (mC (.int 2)))) (mNil)))) (mView (mCall0 (m_in_range cs) (mCons (mOp dIx (mVar 0) (mC (.int 2))) (mCons (mC (.int 0)) (mCons (mC (.int 1)) (mNil))))))))
noncomputable def m_is_edge (cs : Nat → Addr) : List OT → ER OT := asDef 1 (
    sSeq ((m_is_edge_2 cs))
    ((m_is_edge_3 cs)))
noncomputable def m_Picture___init___c1 (cs : Nat → Addr) : SD → ER OT := mComp (iLst (mVar 1)) (tgN 2) (mYes) (mView (mCall0 (m_is_edge cs) (mCons (mVar 2) (mNil)))) [2]
noncomputable def m_Picture___init___1 (cs : Nat → Addr) : SD → Fl := sNever
noncomputable def m_Picture___init___2 (cs : Nat → Addr) : SD → Fl := sIf (mOr (mNot (mTest (mCall dIsi (mCons (mVar 1) (mCons (mC (.ty "list")) (mNil)))))) (mNot (mTest (mCall dAll (mCons (mView ((m_Picture___init___c1 cs))) (mNil)))))) ((m_Picture___init___1 cs)) (sNil)
noncomputable def m_Picture___init___c2 (cs : Nat → Addr) : SD → ER OT := mDcT (iLst (mVar 1)) (tgN 2) (mVar 2) (mC (.bl true)) [2]
noncomputable def m_Picture___init___3 (cs : Nat → Addr) : SD → Fl := sFldSet (fun C => C == cs 0) 0 "known_edges" ((m_Picture___init___c2 cs))
noncomputable def m_Picture___init___4 (cs : Nat → Addr) : SD → Fl := sNever
noncomputable def m_Picture___init___5 (cs : Nat → Addr) : SD → Fl := sIf (mTest (mOp dNe (mCall dLenX (mCons (mFld (fun C => C == cs 0) "known_edges" (mSee 0)) (mNil))) (mCall dLen (mCons (mVar 1) (mNil))))) ((m_Picture___init___4 cs)) (sNil)
noncomputable def m_Picture___init___6 (cs : Nat → Addr) : SD → Fl := sFldSet (fun C => C == cs 0) 0 "sorted_edges" (mOwn (mCallT dTupOf (mCons (mView (mCallL dSortT (mCons (mVar 1) (mNil)))) (mNil))))
noncomputable def m_Picture___init__ (cs : Nat → Addr) : List OT → ER OT := asDef 3 (
    sSeq ((m_Picture___init___2 cs))
    (sSeq ((m_Picture___init___3 cs))
    (sSeq ((m_Picture___init___5 cs))
    ((m_Picture___init___6 cs)))))
noncomputable def m__law_same_1 (cs : Nat → Addr) (rec : List OT → ER OT) : SD → Fl := sRet (mOwn (mC (.bl false)))
noncomputable def m__law_same_2 (cs : Nat → Addr) (rec : List OT → ER OT) : SD → Fl := sIf (mOr (mTest (mOp dNe (mCall dIsi (mCons (mVar 0) (mCons (mC (.ty "list")) (mNil)))) (mCall dIsi (mCons (mVar 1) (mCons (mC (.ty "list")) (mNil)))))) (mTest (mOp dNe (mCall dIsi (mCons (mVar 0) (mCons (mC (.ty "tuple")) (mNil)))) (mCall dIsi (mCons (mVar 1) (mCons (mC (.ty "tuple")) (mNil))))))) ((m__law_same_1 cs rec)) (sNil)
noncomputable def m__law_same_c2 (cs : Nat → Addr) (rec : List OT → ER OT) : SD → ER OT := mComp (iRange1 (mCons (mCall dLen (mCons (mVar 1) (mNil))) (mNil))) (tgN 2) (mYes) (mView (mCall0 (rec) (mCons (mOp dIx (mVar 0) (mVar 2)) (mCons (mOp dIx (mVar 1) (mVar 2)) (mNil))))) [2]
noncomputable def m__law_same_3 (cs : Nat → Addr) (rec : List OT → ER OT) : SD → Fl := sRet (mOwn (mAndV (mOp dEq (mCall dLen (mCons (mVar 0) (mNil))) (mCall dLen (mCons (mVar 1) (mNil)))) (mCall dAll (mCons (mView ((m__law_same_c2 cs rec))) (mNil)))))
noncomputable def m__law_same_4 (cs : Nat → Addr) (rec : List OT → ER OT) : SD → Fl := sIf (mTest (mCall dIsiT (mCons (mVar 1) (mCons (mTup (mCons (mC (.ty "list")) (mCons (mC (.ty "tuple")) (mNil)))) (mNil))))) (sSeq ((m__law_same_2 cs rec)) ((m__law_same_3 cs rec))) (sNil)
noncomputable def m__law_same_5 (cs : Nat → Addr) (rec : List OT → ER OT) : SD → Fl := sRet (mOwn (mAndV (mOp dEq (mCall dIsi (mCons (mVar 0) (mCons (mC (.ty "bool")) (mNil)))) (mCall dIsi (mCons (mVar 1) (mCons (mC (.ty "bool")) (mNil))))) (mOp dEq (mVar 0) (mVar 1))))
noncomputable def m__law_same_r (cs : Nat → Addr) (rec : List OT → ER OT) : List OT → ER OT := asDef 3 (
    sSeq ((m__law_same_4 cs rec))
    ((m__law_same_5 cs rec)))
noncomputable def m__law_same (cs : Nat → Addr) : Nat → List OT → ER OT
  | 0 => fun _ => .bad
  | n + 1 => m__law_same_r cs (m__law_same cs n)
noncomputable def m__law_values_1 (cs : Nat → Addr) : SD → Fl := sSet 1 (mFz (mLst (mCons (mC .non) (mCons (mC (.int 0)) (mCons (mC (.bl true)) (mCons (mC (.str "")) (mCons (mTup (mNil)) (mCons (mView (mLst (mNil))) (mCons (mDict0) (mCons (mTup (mCons (mC (.int 0)) (mCons (mC (.int 0)) (mNil)))) (mCons (mTup (mCons (mC (.int 0)) (mCons (mC (.int 0)) (mCons (mC (.int 0)) (mNil))))) (mCons (mTup (mCons (mC (.int 0)) (mCons (mC (.int 0)) (mCons (mC (.int 1)) (mNil))))) (mCons (mTup (mCons (mC (.int 0)) (mCons (mC (.int 0)) (mCons (mC (.int 2)) (mNil))))) (mCons (mTup (mCons (mC (.int 0)) (mCons (mC (.int 0)) (mCons (mUn dNeg (mC (.int 1))) (mNil))))) (mCons (mView (mLst (mCons (mC (.int 0)) (mCons (mC (.int 0)) (mCons (mC (.int 0)) (mNil)))))) (mNil))))))))))))))))
noncomputable def m__law_values_2 (cs : Nat → Addr) : SD → Fl := sSet 1 (mFz (mCat (qFz (mVar 1)) (qNew (mLst (mCons (mTup (mCons (mC (.int 0)) (mCons (mC (.int 0)) (mCons (mC (.bl true)) (mNil))))) (mCons (mTup (mCons (mC (.bl false)) (mCons (mC (.int 0)) (mCons (mC (.int 0)) (mNil))))) (mCons (mTup (mCons (mC (.int 0)) (mCons (mC (.bl true)) (mCons (mC (.int 1)) (mNil))))) (mCons (mTup (mCons (mC .non) (mCons (mC (.int 0)) (mCons (mC (.int 0)) (mNil))))) (mCons (mTup (mCons (mC (.int 0)) (mCons (mC (.int 0)) (mCons (mC .non) (mNil))))) (mCons (mTup (mCons (mC (.str "0")) (mCons (mC (.int 0)) (mCons (mC (.int 0)) (mNil))))) (mCons (mTup (mCons (mC (.int 0)) (mCons (mC (.int 0)) (mCons (mC (.int 0)) (mCons (mC (.int 0)) (mNil)))))) (mNil))))))))))))
noncomputable def m__law_values_3 (cs : Nat → Addr) : SD → Fl := sRet (mCat (qNew (mCat (qFz (mVar 1)) (qNew (mLst (mCons (mTup (mCons (mTup (mCons (mC (.int 0)) (mCons (mC (.int 0)) (mNil)))) (mCons (mC (.int 0)) (mNil)))) (mCons (mTup (mCons (mOp dPow (mC (.int 10)) (mC (.int 60))) (mCons (mOp dSub (mC (.int 0)) (mOp dPow (mC (.int 10)) (mC (.int 60)))) (mCons (mC (.int 1)) (mNil))))) (mCons (mTup (mCons (mC (.int 0)) (mCons (mView (mLst (mNil))) (mCons (mC (.int 0)) (mNil))))) (mCons (mTup (mCons (mC (.int 0)) (mCons (mC (.int 0)) (mCons (mView (mLst (mNil))) (mNil))))) (mCons (mTup (mCons (mDict0) (mCons (mC (.int 0)) (mCons (mC (.int 0)) (mNil))))) (mCons (mC (.str "000")) (mNil))))))))))) (qNew (mCut (qSee 0) (oNone) (oSome (mC (.int 9))))))
noncomputable def m__law_values (cs : Nat → Addr) : List OT → ER OT := asDef 2 (
    sSeq ((m__law_values_1 cs))
    (sSeq ((m__law_values_2 cs))
    ((m__law_values_3 cs))))
noncomputable def m_Picture___eq___1 (cs : Nat → Addr) : SD → Fl := sRet (mOwn (mAndV (mCall (dIsO (okC cs) (cs 0)) (mCons (mVar 1) (mCons (mC (.cls (cs 0))) (mNil)))) (mOp dEq (mFld (fun C => C == cs 0) "sorted_edges" (mVar 0)) (mFld (fun C => C == cs 0) "sorted_edges" (mVar 1)))))
noncomputable def m_Picture___eq__ (cs : Nat → Addr) : List OT → ER OT := asDef 2 (
    (m_Picture___eq___1 cs))
noncomputable def m__law_others_right_1 (cs : Nat → Addr) : SD → Fl := sPar 2 3 (mFz (mMake (cs 0) (m_Picture___init__ cs) (mCons (mView (mPick (qFz (mVar 1)) (oNone) (oNone) (oSome (mUn dNeg (mC (.int 1)))))) (mNil)))) (mFz (mMake (cs 0) (m_Picture___init__ cs) (mCons (mCutX (mVar 1) (oSome (mC (.int 1))) (oNone)) (mNil))))
noncomputable def m__law_others_right_c1 (cs : Nat → Addr) : SD → ER OT := mComp (iLst (mVar 1)) (tgN 5) (mTest (mOp dNe (mVar 5) (mTup (mCons (mC (.int 5)) (mCons (mC (.int 5)) (mCons (mC (.int 0)) (mNil))))))) (mVar 5) [5]
noncomputable def m__law_others_right_2 (cs : Nat → Addr) : SD → Fl := sSet 4 (mFz (mCat (qNew ((m__law_others_right_c1 cs))) (qNew (mRepO (mLst (mCons (mTup (mCons (mC (.int 5)) (mCons (mC (.int 5)) (mCons (mC (.int 1)) (mNil))))) (mNil))) (mCall dInt2 (mCons (mOp (dInL true) (mTup (mCons (mC (.int 5)) (mCons (mC (.int 5)) (mCons (mC (.int 1)) (mNil))))) (mVar 1)) (mNil)))))))
noncomputable def m__law_others_right_3 (cs : Nat → Addr) : SD → Fl := sRet (mOwn (mC (.bl false)))
noncomputable def m__law_others_right_4 (cs : Nat → Addr) : SD → Fl := sIf (mOr (mNot (mTest (mB2 (okC cs) (cs 0) (m_Picture___eq__ cs) false (mVar 0) (mVar 2)))) (mTest (mB2 (okC cs) (cs 0) (m_Picture___eq__ cs) true (mVar 0) (mVar 2)))) ((m__law_others_right_3 cs)) (sNil)
noncomputable def m__law_others_right_5 (cs : Nat → Addr) : SD → Fl := sRet (mOwn (mC (.bl false)))
noncomputable def m__law_others_right_6 (cs : Nat → Addr) : SD → Fl := sIf (mAnd (mTest (mOp dNe (mVar 1) (mView (mLst (mNil))))) (mOr (mTest (mB2 (okC cs) (cs 0) (m_Picture___eq__ cs) false (mVar 0) (mVar 3))) (mNot (mTest (mB2 (okC cs) (cs 0) (m_Picture___eq__ cs) true (mVar 0) (mVar 3)))))) ((m__law_others_right_5 cs)) (sNil)
noncomputable def m__law_others_right_7 (cs : Nat → Addr) : SD → Fl := sRet (mOwn (mC (.bl false)))
noncomputable def m__law_others_right_8 (cs : Nat → Addr) : SD → Fl := sIf (mTest (mOp dNe (mB2 (okC cs) (cs 0) (m_Picture___eq__ cs) false (mVar 0) (mView (mMake (cs 0) (m_Picture___init__ cs) (mCons (mVar 4) (mNil))))) (mOp dEq (mView (mCallL dSortT (mCons (mVar 1) (mNil)))) (mView (mCallL dSortT (mCons (mVar 4) (mNil))))))) ((m__law_others_right_7 cs)) (sNil)
noncomputable def m__law_others_right_9 (cs : Nat → Addr) : SD → Fl := sSet 6 (mOwn (mOp dDiv (mCall dLen (mCons (mVar 1) (mNil))) (mC (.int 3))))
noncomputable def m__law_others_right_c2 (cs : Nat → Addr) : SD → ER OT := mComp (iLst (mVar 1)) (tgT 3 (tgCons (tgN 8) (tgCons (tgN 9) (tgCons (tgN 10) (tgNil))))) (mYes) (mTup (mCons (mVar 8) (mCons (mOp dSub (mVar 9) (mC (.int 3))) (mCons (mVar 10) (mNil))))) [8, 9, 10]
noncomputable def m__law_others_right_c3 (cs : Nat → Addr) : SD → ER OT := mComp (iLst (mVar 1)) (tgT 3 (tgCons (tgN 8) (tgCons (tgN 9) (tgCons (tgN 10) (tgNil))))) (mYes) (mTup (mCons (mOp dAdd (mVar 8) (mC (.int 1))) (mCons (mVar 9) (mCons (mVar 10) (mNil))))) [8, 9, 10]
noncomputable def m__law_others_right_10 (cs : Nat → Addr) : SD → Fl := sSet 7 (mFz (mLst (mCons (mView ((m__law_others_right_c3 cs))) (mCons (mView ((m__law_others_right_c2 cs))) (mNil)))))
noncomputable def m__law_others_right_c4 (cs : Nat → Addr) : SD → ER OT := mComp (iLst (mCutX (mVar 1) (oSome (mVar 6)) (oSome (mOp dAdd (mVar 6) (mC (.int 1)))))) (tgT 3 (tgCons (tgN 8) (tgCons (tgN 9) (tgCons (tgN 10) (tgNil))))) (mYes) (mTup (mCons (mOp dAdd (mVar 8) (mC (.int 1))) (mCons (mVar 9) (mCons (mVar 10) (mNil))))) [8, 9, 10]
noncomputable def m__law_others_right_11 (cs : Nat → Addr) : SD → Fl := sSet 7 (mFz (mCat (qFz (mVar 7)) (qNew (mLst (mCons (mView (mCat (qNew (mCat (qNew (mCut (qFz (mVar 1)) (oNone) (oSome (mVar 6)))) (qNew ((m__law_others_right_c4 cs))))) (qNew (mCut (qFz (mVar 1)) (oSome (mOp dAdd (mVar 6) (mC (.int 1)))) (oNone))))) (mNil))))))
noncomputable def m__law_others_right_c5 (cs : Nat → Addr) : SD → ER OT := mComp (iLst (mCutX (mVar 1) (oSome (mUn dNeg (mC (.int 1)))) (oNone))) (tgT 3 (tgCons (tgN 8) (tgCons (tgN 9) (tgCons (tgN 10) (tgNil))))) (mYes) (mTup (mCons (mVar 8) (mCons (mOp dAdd (mVar 9) (mC (.int 1))) (mCons (mVar 10) (mNil))))) [8, 9, 10]
noncomputable def m__law_others_right_12 (cs : Nat → Addr) : SD → Fl := sSet 7 (mFz (mCat (qFz (mVar 7)) (qNew (mLst (mCons (mView (mCat (qNew (mCut (qFz (mVar 1)) (oNone) (oSome (mUn dNeg (mC (.int 1)))))) (qNew ((m__law_others_right_c5 cs))))) (mCons (mView (mCat (qNew (mCut (qFz (mVar 1)) (oSome (mC (.int 1))) (oNone))) (qNew (mLst (mCons (mTup (mCons (mC (.int 7)) (mCons (mC (.int 8)) (mCons (mC (.int 1)) (mNil))))) (mNil)))))) (mNil)))))))
noncomputable def m__law_others_right_c6 (cs : Nat → Addr) : SD → ER OT := mComp (iLst (mVar 7)) (tgN 11) (mTest (mOp dEq (mCall dLS (mCons (mVar 11) (mNil))) (mCall dLen (mCons (mVar 11) (mNil))))) (mVar 11) [11]
noncomputable def m__law_others_right_13 (cs : Nat → Addr) : SD → Fl := sRet (mOwn (mC (.bl false)))
noncomputable def m__law_others_right_14 (cs : Nat → Addr) : SD → Fl := sIf (mTest (mOp dNe (mB2 (okC cs) (cs 0) (m_Picture___eq__ cs) false (mVar 0) (mView (mMake (cs 0) (m_Picture___init__ cs) (mCons (mVar 11) (mNil))))) (mOp dEq (mView (mCallL dSortT (mCons (mVar 11) (mNil)))) (mView (mCallL dSortT (mCons (mVar 1) (mNil))))))) ((m__law_others_right_13 cs)) (sNil)
noncomputable def m__law_others_right_15 (cs : Nat → Addr) : SD → Fl := sRet (mOwn (mC (.bl false)))
noncomputable def m__law_others_right_16 (cs : Nat → Addr) : SD → Fl := sIf (mTest (mOp dNe (mB2 (okC cs) (cs 0) (m_Picture___eq__ cs) true (mView (mMake (cs 0) (m_Picture___init__ cs) (mCons (mVar 11) (mNil)))) (mVar 0)) (mOp dNe (mView (mCallL dSortT (mCons (mVar 11) (mNil)))) (mView (mCallL dSortT (mCons (mVar 1) (mNil))))))) ((m__law_others_right_15 cs)) (sNil)
noncomputable def m__law_others_right_b1 (cs : Nat → Addr) : SD → Fl := sSeq ((m__law_others_right_14 cs)) ((m__law_others_right_16 cs))
noncomputable def m__law_others_right_17 (cs : Nat → Addr) : SD → Fl := sFor (iLst (mView ((m__law_others_right_c6 cs)))) (tgN 11) ((m__law_others_right_b1 cs))
noncomputable def m__law_others_right_c7 (cs : Nat → Addr) : SD → ER OT := mComp (iLst (mView (mLst (mCons (mC .non) (mCons (mC (.int 0)) (mCons (mVar 1) (mCons (mCallT dTupOf (mCons (mVar 1) (mNil))) (mCons (mDict0) (mCons (mC (.str "")) (mNil)))))))))) (tgN 11) (mOr (mTest (mB2 (okC cs) (cs 0) (m_Picture___eq__ cs) false (mVar 0) (mVar 11))) (mNot (mTest (mB2 (okC cs) (cs 0) (m_Picture___eq__ cs) true (mVar 0) (mVar 11))))) (mC (.int 1)) [11]
noncomputable def m__law_others_right_18 (cs : Nat → Addr) : SD → Fl := sRet (mOwn (mOp dEq (mView ((m__law_others_right_c7 cs))) (mView (mLst (mNil)))))
noncomputable def m__law_others_right (cs : Nat → Addr) : List OT → ER OT := asDef 12 (
    sSeq ((m__law_others_right_1 cs))
    (sSeq ((m__law_others_right_2 cs))
    (sSeq ((m__law_others_right_4 cs))
    (sSeq ((m__law_others_right_6 cs))
    (sSeq ((m__law_others_right_8 cs))
    (sSeq ((m__law_others_right_9 cs))
    (sSeq ((m__law_others_right_10 cs))
    (sSeq ((m__law_others_right_11 cs))
    (sSeq ((m__law_others_right_12 cs))
    (sSeq ((m__law_others_right_17 cs))
    ((m__law_others_right_18 cs))))))))))))
noncomputable def m_Picture___contains___1 (cs : Nat → Addr) : SD → Fl := sRet (mOwn (mAndV (mView (mCall0 (m_is_edge cs) (mCons (mVar 1) (mNil)))) (mInF false (mVar 1) (mFld (fun C => C == cs 0) "known_edges" (mVar 0)))))
noncomputable def m_Picture___contains__ (cs : Nat → Addr) : List OT → ER OT := asDef 2 (
    (m_Picture___contains___1 cs))
noncomputable def m__law_is_edge_1 (cs : Nat → Addr) : SD → Fl := sRet (mOwn (mC (.bl false)))
noncomputable def m__law_is_edge_2 (cs : Nat → Addr) : SD → Fl := sIf (mOr (mNot (mTest (mCall dIsi (mCons (mVar 0) (mCons (mC (.ty "tuple")) (mNil)))))) (mTest (mOp dNe (mCall dLen (mCons (mVar 0) (mNil))) (mC (.int 3))))) ((m__law_is_edge_1 cs)) (sNil)
noncomputable def m__law_is_edge_c1 (cs : Nat → Addr) : SD → ER OT := mComp (iTuP (mVar 0)) (tgN 1) (mOr (mNot (mTest (mCall dIsi (mCons (mVar 1) (mCons (mC (.ty "int")) (mNil)))))) (mTest (mCall dIsi (mCons (mVar 1) (mCons (mC (.ty "bool")) (mNil)))))) (mC (.int 1)) [1]
noncomputable def m__law_is_edge_3 (cs : Nat → Addr) : SD → Fl := sRet (mOwn (mC (.bl false)))
noncomputable def m__law_is_edge_4 (cs : Nat → Addr) : SD → Fl := sIf (mTest (mOp dNe (mView ((m__law_is_edge_c1 cs))) (mView (mLst (mNil))))) ((m__law_is_edge_3 cs)) (sNil)
noncomputable def m__law_is_edge_5 (cs : Nat → Addr) : SD → Fl := sRet (mOwn (mChain dLe dLe (mC (.int 0)) (mOp dIx (mVar 0) (mC (.int 2))) (mC (.int 1))))
noncomputable def m__law_is_edge (cs : Nat → Addr) : List OT → ER OT := asDef 2 (
    sSeq ((m__law_is_edge_2 cs))
    (sSeq ((m__law_is_edge_4 cs))
    ((m__law_is_edge_5 cs))))
noncomputable def m__law_right_1 (cs : Nat → Addr) : SD → Fl := sPar 2 3 (mFz (mListQ (qSee 1))) (mFz (mOwn (mLend 1 (mView (mMake (cs 0) (m_Picture___init__ cs) (mCons (mVar 1) (mNil)))))))
noncomputable def m__law_right_2 (cs : Nat → Addr) : SD → Fl := sRet (mOwn (mC (.bl false)))
noncomputable def m__law_right_3 (cs : Nat → Addr) : SD → Fl := sIf (mNot (mTest (mLend 1 (mView (mCall0 (m__law_same cs 16) (mCons (mView (mLst (mCons (mView (mProp (cs 0) (m_Picture_edges cs) (mVar 3))) (mCons (mLenO (cs 0) (m_Picture___len__ cs) (mCons (mVar 3) (mNil))) (mNil))))) (mCons (mView (mLst (mCons (mCallT dTupOf (mCons (mView (mCallL dSortT (mCons (mVar 1) (mNil)))) (mNil))) (mCons (mCall dLen (mCons (mVar 1) (mNil))) (mNil))))) (mNil)))))))) ((m__law_right_2 cs)) (sNil)
noncomputable def m__law_right_4 (cs : Nat → Addr) : SD → Fl := sRet (mOwn (mC (.bl false)))
noncomputable def m__law_right_5 (cs : Nat → Addr) : SD → Fl := sIf (mTest (mOp dNe (mSee 1) (mVar 2))) ((m__law_right_4 cs)) (sNil)
noncomputable def m__law_right_c1 (cs : Nat → Addr) : SD → ER OT := mComp (iLst (mView (mCut (qSee 1) (oNone) (oSome (mC (.int 9)))))) (tgT 3 (tgCons (tgN 5) (tgCons (tgN 6) (tgCons (tgN 7) (tgNil))))) (mYes) (mTup (mCons (mOp dAdd (mVar 5) (mC (.int 1))) (mCons (mVar 6) (mCons (mVar 7) (mNil))))) [5, 6, 7]
noncomputable def m__law_right_6 (cs : Nat → Addr) : SD → Fl := sRet (mOwn (mC (.bl false)))
noncomputable def m__law_right_7 (cs : Nat → Addr) : SD → Fl := sIf (mTest (mOp dNe (mIn2 (cs 0) (m_Picture___contains__ cs) false (mVar 4) (mVar 3)) (mAndV (mView (mCall0 (m__law_is_edge cs) (mCons (mVar 4) (mNil)))) (mOp (dInL false) (mVar 4) (mSee 1))))) ((m__law_right_6 cs)) (sNil)
noncomputable def m__law_right_8 (cs : Nat → Addr) : SD → Fl := sRet (mOwn (mC (.bl false)))
noncomputable def m__law_right_9 (cs : Nat → Addr) : SD → Fl := sIf (mTest (mOp dNe (mCall dRepr (mCons (mView (mCall0 (m_is_edge cs) (mCons (mVar 4) (mNil)))) (mNil))) (mCall dRepr (mCons (mView (mCall0 (m__law_is_edge cs) (mCons (mVar 4) (mNil)))) (mNil))))) ((m__law_right_8 cs)) (sNil)
noncomputable def m__law_right_b1 (cs : Nat → Addr) : SD → Fl := sSeq ((m__law_right_7 cs)) ((m__law_right_9 cs))
noncomputable def m__law_right_10 (cs : Nat → Addr) : SD → Fl := sFor (iLst (mView (mCat (qNew (mCall1 (m__law_values cs) (rSlot 1 (rNil)))) (qNew ((m__law_right_c1 cs)))))) (tgN 4) ((m__law_right_b1 cs))
noncomputable def m__law_right_11 (cs : Nat → Addr) : SD → Fl := sRet (mOwn (mC (.bl false)))
noncomputable def m__law_right_12 (cs : Nat → Addr) : SD → Fl := sIf (mNot (mTest (mLend 1 (mView (mCall0 (m__law_others_right cs) (mCons (mVar 3) (mCons (mVar 1) (mNil)))))))) ((m__law_right_11 cs)) (sNil)
noncomputable def m__law_right_13 (cs : Nat → Addr) : SD → Fl := sApp 1 (mOwn (mTup (mCons (mC (.int 7)) (mCons (mC (.int 7)) (mCons (mC (.int 7)) (mNil))))))
noncomputable def m__law_right_14 (cs : Nat → Addr) : SD → Fl := sDrop (mRevL 1)
noncomputable def m__law_right_15 (cs : Nat → Addr) : SD → Fl := sRet (mOwn (mAndV (mOp dEq (mView (mProp (cs 0) (m_Picture_edges cs) (mVar 3))) (mCallT dTupOf (mCons (mView (mCallL dSortT (mCons (mVar 2) (mNil)))) (mNil)))) (mOp dEq (mLenO (cs 0) (m_Picture___len__ cs) (mCons (mVar 3) (mNil))) (mCall dLen (mCons (mVar 2) (mNil))))))
noncomputable def m__law_right (cs : Nat → Addr) : List OT → ER OT := asDef 8 (
    sSeq ((m__law_right_1 cs))
    (sSeq ((m__law_right_3 cs))
    (sSeq ((m__law_right_5 cs))
    (sSeq ((m__law_right_10 cs))
    (sSeq ((m__law_right_12 cs))
    (sSeq ((m__law_right_13 cs))
    (sSeq ((m__law_right_14 cs))
    ((m__law_right_15 cs)))))))))
noncomputable def m__law_sip_1 (cs : Nat → Addr) : SD → Fl := sSet 2 (mOwn (mOp dMod (mAt (qSee 0) (mC (.int 0))) (mVar 1)))
noncomputable def m__law_sip_2 (cs : Nat → Addr) : SD → Fl := sSetAt 0 (mC (.int 0)) (mOwn (mOp dDiv (mAt (qSee 0) (mC (.int 0))) (mVar 1)))
noncomputable def m__law_sip_3 (cs : Nat → Addr) : SD → Fl := sRet (mOwn (mVar 2))
noncomputable def m__law_sip_4 (cs : Nat → Addr) : SD → Fl := sIf (mTest (mOp dGt (mAt (qSee 0) (mC (.int 0))) (mC (.int 0)))) (sSeq ((m__law_sip_1 cs)) (sSeq ((m__law_sip_2 cs)) ((m__law_sip_3 cs)))) (sNil)
noncomputable def m__law_sip_5 (cs : Nat → Addr) : SD → Fl := sSetAt 0 (mC (.int 2)) (mOwn (mOp dAdd (mAt (qSee 0) (mC (.int 2))) (mC (.int 1))))
noncomputable def m__law_sip_6 (cs : Nat → Addr) : SD → Fl := sSet 3 (mOwn (mOp dMod (mOp dPow (mOp dAdd (mAt (qSee 0) (mC (.int 1))) (mOp dMul (mC (.int 122949823)) (mAt (qSee 0) (mC (.int 2))))) (mC (.int 3))) (mOp dAdd (mOp dPow (mC (.int 10)) (mC (.int 43))) (mC (.int 57)))))
noncomputable def m__law_sip_7 (cs : Nat → Addr) : SD → Fl := sSet 3 (mOwn (mOp dMod (mOp dPow (mOp dAdd (mVar 3) (mOp dMul (mC (.int 67867979)) (mAt (qSee 0) (mC (.int 2))))) (mC (.int 3))) (mOp dAdd (mOp dPow (mC (.int 10)) (mC (.int 41))) (mC (.int 109)))))
noncomputable def m__law_sip_8 (cs : Nat → Addr) : SD → Fl := sRet (mOwn (mOp dMod (mOp dDiv (mVar 3) (mC (.int 131071))) (mVar 1)))
noncomputable def m__law_sip (cs : Nat → Addr) : List OT → ER OT := asDef 4 (
    sSeq ((m__law_sip_4 cs))
    (sSeq ((m__law_sip_5 cs))
    (sSeq ((m__law_sip_6 cs))
    (sSeq ((m__law_sip_7 cs))
    ((m__law_sip_8 cs))))))
noncomputable def m__law_number_1 (cs : Nat → Addr) : SD → Fl := sRet (mOwn (mOp dIx (mView (mLst (mCons (mOp dSub (mView (mCall1 (m__law_sip cs) (rSlot 0 (rFz (mC (.int 7)) (rNil))))) (mC (.int 3))) (mCons (mOp dSub (mView (mCall1 (m__law_sip cs) (rSlot 0 (rFz (mC (.int 99)) (rNil))))) (mC (.int 50))) (mCons (mOp dSub (mView (mCall1 (m__law_sip cs) (rSlot 0 (rFz (mOp dPow (mC (.int 10)) (mC (.int 30))) (rNil))))) (mOp dPow (mC (.int 10)) (mC (.int 29)))) (mNil)))))) (mView (mCall1 (m__law_sip cs) (rSlot 0 (rFz (mC (.int 3)) (rNil)))))))
noncomputable def m__law_number (cs : Nat → Addr) : List OT → ER OT := asDef 1 (
    (m__law_number_1 cs))
noncomputable def m__law_edges_1 (cs : Nat → Addr) : SD → Fl := sSet 2 (mOwn (mOp dIx (mView (mLst (mCons (mC (.int 2)) (mCons (mC (.int 4)) (mCons (mC (.int 12)) (mCons (mOp dPow (mC (.int 10)) (mC (.int 30))) (mNil))))))) (mView (mCall1 (m__law_sip cs) (rSlot 0 (rFz (mC (.int 4)) (rNil)))))))
noncomputable def m__law_edges_2 (cs : Nat → Addr) : SD → Fl := sSet 3 (mDn)
noncomputable def m__law_edges_3 (cs : Nat → Addr) : SD → Fl := sSet 5 (mOwn (mTup (mCons (mOp dSub (mView (mCall1 (m__law_sip cs) (rSlot 0 (rFz (mVar 2) (rNil))))) (mOp dDiv (mVar 2) (mC (.int 3)))) (mCons (mOp dSub (mView (mCall1 (m__law_sip cs) (rSlot 0 (rFz (mVar 2) (rNil))))) (mC (.int 1))) (mCons (mView (mCall1 (m__law_sip cs) (rSlot 0 (rFz (mC (.int 2)) (rNil))))) (mNil))))))
noncomputable def m__law_edges_4 (cs : Nat → Addr) : SD → Fl := sDPutT 3 (mVar 5) (mC (.bl true))
noncomputable def m__law_edges_b1 (cs : Nat → Addr) : SD → Fl := sSeq ((m__law_edges_3 cs)) ((m__law_edges_4 cs))
noncomputable def m__law_edges_5 (cs : Nat → Addr) : SD → Fl := sFor (iRange1 (mCons (mOp dIx (mView (mLst (mCons (mView (mCall1 (m__law_sip cs) (rSlot 0 (rFz (mOp dAdd (mVar 1) (mC (.int 1))) (rNil))))) (mCons (mVar 1) (mCons (mView (mCall1 (m__law_sip cs) (rSlot 0 (rFz (mC (.int 6)) (rNil))))) (mNil)))))) (mView (mCall1 (m__law_sip cs) (rSlot 0 (rFz (mC (.int 3)) (rNil)))))) (mNil))) (tgN 4) ((m__law_edges_b1 cs))
noncomputable def m__law_edges_6 (cs : Nat → Addr) : SD → Fl := sRet (mKeysL 3)
noncomputable def m__law_edges (cs : Nat → Addr) : List OT → ER OT := asDef 6 (
    sSeq ((m__law_edges_1 cs))
    (sSeq ((m__law_edges_2 cs))
    (sSeq ((m__law_edges_5 cs))
    ((m__law_edges_6 cs)))))
noncomputable def m_require_point_1 (cs : Nat → Addr) : SD → Fl := sNever
noncomputable def m_require_point_2 (cs : Nat → Addr) : SD → Fl := sIf (mNot (mTest (mView (mCall0 (m_is_point cs) (mCons (mVar 0) (mNil)))))) ((m_require_point_1 cs)) (sNil)
noncomputable def m_require_point (cs : Nat → Addr) : List OT → ER OT := asDef 1 (
    (m_require_point_2 cs))
noncomputable def m_ends_in_1 (cs : Nat → Addr) : SD → Fl := sAsg (mVar 0) (tgT 3 (tgCons (tgN 1) (tgCons (tgN 2) (tgCons (tgN 3) (tgNil)))))
noncomputable def m_ends_in_2 (cs : Nat → Addr) : SD → Fl := sRet (mOwn (mTup (mCons (mTup (mCons (mVar 1) (mCons (mVar 2) (mNil)))) (mCons (mIf (mTest (mOp dEq (mVar 3) (mC (.int 1)))) (mTup (mCons (mVar 1) (mCons (mOp dAdd (mVar 2) (mC (.int 1))) (mNil)))) (mTup (mCons (mOp dAdd (mVar 1) (mC (.int 1))) (mCons (mVar 2) (mNil))))) (mNil)))))
noncomputable def m_ends_in (cs : Nat → Addr) : List OT → ER OT := asDef 4 (
    sSeq ((m_ends_in_1 cs))
    ((m_ends_in_2 cs)))
noncomputable def m_edge_in_1 (cs : Nat → Addr) : SD → Fl := sPar 2 3 (mOwn (mCall dMin2 (mCons (mVar 0) (mCons (mVar 1) (mNil))))) (mOwn (mCall dMax2 (mCons (mVar 0) (mCons (mVar 1) (mNil)))))
noncomputable def m_edge_in_2 (cs : Nat → Addr) : SD → Fl := sRet (mOwn (mTup (mStar (mVar 2) (mCons (mVar 4) (mNil)))))
noncomputable def m_edge_in_3 (cs : Nat → Addr) : SD → Fl := sIf (mTest (mOp dEq (mOp dIx (mView (mCall0 (m_ends_in cs) (mCons (mTup (mStar (mVar 2) (mCons (mVar 4) (mNil)))) (mNil)))) (mC (.int 1))) (mVar 3))) ((m_edge_in_2 cs)) (sNil)
noncomputable def m_edge_in_b1 (cs : Nat → Addr) : SD → Fl := (m_edge_in_3 cs)
noncomputable def m_edge_in_4 (cs : Nat → Addr) : SD → Fl := sFor (iTuP (mTup (mCons (mC (.int 0)) (mCons (mC (.int 1)) (mNil))))) (tgN 4) ((m_edge_in_b1 cs))
noncomputable def m_edge_in_5 (cs : Nat → Addr) : SD → Fl := sRet (mOwn (mC .non))
noncomputable def m_edge_in (cs : Nat → Addr) : List OT → ER OT := asDef 5 (
    sSeq ((m_edge_in_1 cs))
    (sSeq ((m_edge_in_4 cs))
    ((m_edge_in_5 cs))))
noncomputable def m_edge_between_1 (cs : Nat → Addr) : SD → Fl := sDrop (mView (mCall0 (m_require_point cs) (mCons (mVar 0) (mNil))))
noncomputable def m_edge_between_2 (cs : Nat → Addr) : SD → Fl := sDrop (mView (mCall0 (m_require_point cs) (mCons (mVar 1) (mNil))))
noncomputable def m_edge_between_3 (cs : Nat → Addr) : SD → Fl := sRet (mCall0 (m_edge_in cs) (mCons (mVar 0) (mCons (mVar 1) (mNil))))
noncomputable def m_edge_between (cs : Nat → Addr) : List OT → ER OT := asDef 2 (
    sSeq ((m_edge_between_1 cs))
    (sSeq ((m_edge_between_2 cs))
    ((m_edge_between_3 cs))))
noncomputable def m__law_between_1 (cs : Nat → Addr) : SD → Fl := sPar 2 3 (mOwn (mCall dAbs (mCons (mOp dSub (mOp dIx (mVar 0) (mC (.int 0))) (mOp dIx (mVar 1) (mC (.int 0)))) (mNil)))) (mOwn (mCall dAbs (mCons (mOp dSub (mOp dIx (mVar 0) (mC (.int 1))) (mOp dIx (mVar 1) (mC (.int 1)))) (mNil))))
noncomputable def m__law_between_2 (cs : Nat → Addr) : SD → Fl := sRet (mOwn (mC .non))
noncomputable def m__law_between_3 (cs : Nat → Addr) : SD → Fl := sIf (mTest (mOp dNe (mOp dAdd (mVar 2) (mVar 3)) (mC (.int 1)))) ((m__law_between_2 cs)) (sNil)
noncomputable def m__law_between_4 (cs : Nat → Addr) : SD → Fl := sRet (mOwn (mTup (mCons (mCall dMin (mCons (mOp dIx (mVar 0) (mC (.int 0))) (mCons (mOp dIx (mVar 1) (mC (.int 0))) (mNil)))) (mCons (mCall dMin (mCons (mOp dIx (mVar 0) (mC (.int 1))) (mCons (mOp dIx (mVar 1) (mC (.int 1))) (mNil)))) (mCons (mVar 3) (mNil))))))
noncomputable def m__law_between (cs : Nat → Addr) : List OT → ER OT := asDef 4 (
    sSeq ((m__law_between_1 cs))
    (sSeq ((m__law_between_3 cs))
    ((m__law_between_4 cs))))
noncomputable def m_law_1 (cs : Nat → Addr) : SD → Fl := sSet 2 (mCall0 (m__law_fount cs) (mCons (mVar 0) (mCons (mVar 1) (mNil))))
noncomputable def m_law_2 (cs : Nat → Addr) : SD → Fl := sRet (mOwn (mC (.bl false)))
noncomputable def m_law_3 (cs : Nat → Addr) : SD → Fl := sIf (mOr (mNot (mTest (mView (mCallU 2 (m__law_right cs) (mCall1 (m__law_edges cs) (rSlot 2 (rFz (mC (.int 399)) (rNil)))))))) (mNot (mTest (mView (mCallU 2 (m__law_right cs) (mCall1 (m__law_edges cs) (rSlot 2 (rFz (mC (.int 6)) (rNil))))))))) ((m_law_2 cs)) (sNil)
noncomputable def m_law_4 (cs : Nat → Addr) : SD → Fl := sSet 4 (mOwn (mTup (mCons (mView (mCall1 (m__law_number cs) (rSlot 2 (rNil)))) (mCons (mView (mCall1 (m__law_number cs) (rSlot 2 (rNil)))) (mNil)))))
noncomputable def m_law_5 (cs : Nat → Addr) : SD → Fl := sSet 5 (mOwn (mTup (mCons (mOp dSub (mOp dAdd (mOp dIx (mVar 4) (mC (.int 0))) (mView (mCall1 (m__law_sip cs) (rSlot 2 (rFz (mC (.int 4)) (rNil)))))) (mC (.int 1))) (mCons (mOp dSub (mOp dAdd (mOp dIx (mVar 4) (mC (.int 1))) (mView (mCall1 (m__law_sip cs) (rSlot 2 (rFz (mC (.int 4)) (rNil)))))) (mC (.int 1))) (mNil)))))
noncomputable def m_law_6 (cs : Nat → Addr) : SD → Fl := sRet (mOwn (mC (.bl false)))
noncomputable def m_law_7 (cs : Nat → Addr) : SD → Fl := sIf (mNot (mTest (mView (mCall0 (m__law_same cs 16) (mCons (mView (mLst (mCons (mView (mCall0 (m_edge_between cs) (mCons (mVar 4) (mCons (mVar 5) (mNil))))) (mCons (mView (mCall0 (m_edge_between cs) (mCons (mVar 5) (mCons (mVar 4) (mNil))))) (mNil))))) (mCons (mView (mRepC (mLst (mCons (mView (mCall0 (m__law_between cs) (mCons (mVar 4) (mCons (mVar 5) (mNil))))) (mNil))) 2)) (mNil))))))) ((m_law_6 cs)) (sNil)
noncomputable def m_law_8 (cs : Nat → Addr) : SD → Fl := sSet 6 (mOwn (mTup (mCons (mOp dAdd (mOp dIx (mVar 4) (mC (.int 0))) (mOp dIx (mView (mLst (mCons (mC (.int 0)) (mCons (mC (.int 1)) (mCons (mOp dPow (mC (.int 10)) (mC (.int 30))) (mCons (mView (mCall1 (m__law_number cs) (rSlot 2 (rNil)))) (mNil))))))) (mOp dMod (mVar 3) (mC (.int 4))))) (mCons (mOp dAdd (mOp dIx (mVar 4) (mC (.int 1))) (mOp dMul (mView (mCall1 (m__law_number cs) (rSlot 2 (rNil)))) (mOp dMod (mVar 3) (mC (.int 3))))) (mNil)))))
noncomputable def m_law_9 (cs : Nat → Addr) : SD → Fl := sRet (mOwn (mC (.bl false)))
noncomputable def m_law_10 (cs : Nat → Addr) : SD → Fl := sIf (mNot (mTest (mView (mCall0 (m__law_same cs 16) (mCons (mView (mLst (mCons (mView (mCall0 (m_edge_between cs) (mCons (mVar 4) (mCons (mVar 6) (mNil))))) (mCons (mView (mCall0 (m_edge_between cs) (mCons (mVar 6) (mCons (mVar 4) (mNil))))) (mNil))))) (mCons (mView (mRepC (mLst (mCons (mView (mCall0 (m__law_between cs) (mCons (mVar 4) (mCons (mVar 6) (mNil))))) (mNil))) 2)) (mNil))))))) ((m_law_9 cs)) (sNil)
noncomputable def m_law_b1 (cs : Nat → Addr) : SD → Fl := sSeq ((m_law_4 cs)) (sSeq ((m_law_5 cs)) (sSeq ((m_law_7 cs)) (sSeq ((m_law_8 cs)) ((m_law_10 cs)))))
noncomputable def m_law_11 (cs : Nat → Addr) : SD → Fl := sFor (iRange1 (mCons (mC (.int 20)) (mNil))) (tgN 3) ((m_law_b1 cs))
noncomputable def m_law_b2 (cs : Nat → Addr) : SD → Fl := sSeq ((m_law_1 cs)) (sSeq ((m_law_3 cs)) ((m_law_11 cs)))
noncomputable def m_law_12 (cs : Nat → Addr) : SD → Fl := sFor (iRange1 (mCons (mCall dMax (mCons (mC (.int 1)) (mCons (mCall dMin (mCons (mC (.int 5)) (mCons (mCall dLen (mCons (mVar 0) (mNil))) (mNil)))) (mNil)))) (mNil))) (tgN 1) ((m_law_b2 cs))
noncomputable def m_law_13 (cs : Nat → Addr) : SD → Fl := sRet (mOwn (mAndV (mOp dEq (mLenO (cs 0) (m_Picture___len__ cs) (mCons (mView (mMake (cs 0) (m_Picture___init__ cs) (mCons (mView (mLst (mNil))) (mNil)))) (mNil))) (mC (.int 0))) (mOp dEq (mView (mProp (cs 0) (m_Picture_edges cs) (mView (mMake (cs 0) (m_Picture___init__ cs) (mCons (mView (mLst (mNil))) (mNil)))))) (mTup (mNil)))))
noncomputable def m_law (cs : Nat → Addr) : List OT → ER OT := asDef 7 (
    sSeq ((m_law_12 cs))
    ((m_law_13 cs)))
noncomputable def top (i : Nat) : Stmt := PySem.Challenge.pw_plotpens_k45_pictures_made.main.body.getD i (.Pass ⟨0, 0, 0, 0⟩)
noncomputable abbrev s__law_fount : Stmt := top 19
noncomputable abbrev sc__law_fount_N : List Str := ["script", "k", "cell"]
theorem sc__law_fount : FnScope ["script", "k", "cell"] ["script", "k"] (defScope s__law_fount) := ⟨rfl, rfl, rfl, by decide +kernel, rfl, by decide +kernel, by decide +kernel⟩
noncomputable abbrev s_Picture___len__ : Stmt := inClass (top 16) 2
noncomputable abbrev sc_Picture___len___N : List Str := ["self"]
theorem sc_Picture___len__ : FnScope ["self"] ["self"] (defScope s_Picture___len__) := ⟨rfl, rfl, rfl, by decide +kernel, rfl, by decide +kernel, by decide +kernel⟩
noncomputable abbrev s_Picture_edges : Stmt := inClass (top 16) 1
noncomputable abbrev sc_Picture_edges_N : List Str := ["self"]
theorem sc_Picture_edges : FnScope ["self"] ["self"] (defScope s_Picture_edges) := ⟨rfl, rfl, rfl, by decide +kernel, rfl, by decide +kernel, by decide +kernel⟩
noncomputable abbrev s_is_int : Stmt := top 6
noncomputable abbrev sc_is_int_N : List Str := ["value"]
theorem sc_is_int : FnScope ["value"] ["value"] (defScope s_is_int) := ⟨rfl, rfl, rfl, by decide +kernel, rfl, by decide +kernel, by decide +kernel⟩
noncomputable abbrev s_is_point : Stmt := top 9
noncomputable abbrev sc_is_point_N : List Str := ["value", "number"]
theorem sc_is_point : FnScope ["value", "number"] ["value"] (defScope s_is_point) := ⟨rfl, rfl, rfl, by decide +kernel, rfl, by decide +kernel, by decide +kernel⟩
noncomputable abbrev s_in_range : Stmt := top 7
noncomputable abbrev sc_in_range_N : List Str := ["value", "low", "high"]
theorem sc_in_range : FnScope ["value", "low", "high"] ["value", "low", "high"] (defScope s_in_range) := ⟨rfl, rfl, rfl, by decide +kernel, rfl, by decide +kernel, by decide +kernel⟩
noncomputable abbrev s_is_edge : Stmt := top 12
noncomputable abbrev sc_is_edge_N : List Str := ["value"]
theorem sc_is_edge : FnScope ["value"] ["value"] (defScope s_is_edge) := ⟨rfl, rfl, rfl, by decide +kernel, rfl, by decide +kernel, by decide +kernel⟩
noncomputable abbrev s_Picture___init__ : Stmt := inClass (top 16) 0
noncomputable abbrev sc_Picture___init___N : List Str := ["self", "edges", "edge"]
theorem sc_Picture___init__ : FnScope ["self", "edges", "edge"] ["self", "edges"] (defScope s_Picture___init__) := ⟨rfl, rfl, rfl, by decide +kernel, rfl, by decide +kernel, by decide +kernel⟩
noncomputable abbrev s__law_same : Stmt := top 25
noncomputable abbrev sc__law_same_N : List Str := ["found", "due", "k"]
theorem sc__law_same : FnScope ["found", "due", "k"] ["found", "due"] (defScope s__law_same) := ⟨rfl, rfl, rfl, by decide +kernel, rfl, by decide +kernel, by decide +kernel⟩
noncomputable abbrev s__law_values : Stmt := top 27
noncomputable abbrev sc__law_values_N : List Str := ["edges", "found"]
theorem sc__law_values : FnScope ["edges", "found"] ["edges"] (defScope s__law_values) := ⟨rfl, rfl, rfl, by decide +kernel, rfl, by decide +kernel, by decide +kernel⟩
noncomputable abbrev s_Picture___eq__ : Stmt := inClass (top 16) 5
noncomputable abbrev sc_Picture___eq___N : List Str := ["self", "other"]
theorem sc_Picture___eq__ : FnScope ["self", "other"] ["self", "other"] (defScope s_Picture___eq__) := ⟨rfl, rfl, rfl, by decide +kernel, rfl, by decide +kernel, by decide +kernel⟩
noncomputable abbrev s__law_others_right : Stmt := top 29
noncomputable abbrev sc__law_others_right_N : List Str := ["picture_here", "edges", "other", "less", "changed", "edge", "at", "lists", "x", "y", "side", "one"]
theorem sc__law_others_right : FnScope ["picture_here", "edges", "other", "less", "changed", "edge", "at", "lists", "x", "y", "side", "one"] ["picture_here", "edges"] (defScope s__law_others_right) := ⟨rfl, rfl, rfl, by decide +kernel, rfl, by decide +kernel, by decide +kernel⟩
noncomputable abbrev s_Picture___contains__ : Stmt := inClass (top 16) 3
noncomputable abbrev sc_Picture___contains___N : List Str := ["self", "value"]
theorem sc_Picture___contains__ : FnScope ["self", "value"] ["self", "value"] (defScope s_Picture___contains__) := ⟨rfl, rfl, rfl, by decide +kernel, rfl, by decide +kernel, by decide +kernel⟩
noncomputable abbrev s__law_is_edge : Stmt := top 28
noncomputable abbrev sc__law_is_edge_N : List Str := ["value", "one"]
theorem sc__law_is_edge : FnScope ["value", "one"] ["value"] (defScope s__law_is_edge) := ⟨rfl, rfl, rfl, by decide +kernel, rfl, by decide +kernel, by decide +kernel⟩
noncomputable abbrev s__law_right : Stmt := top 30
noncomputable abbrev sc__law_right_N : List Str := ["fount", "edges", "kept", "picture_here", "value", "x", "y", "side"]
theorem sc__law_right : FnScope ["fount", "edges", "kept", "picture_here", "value", "x", "y", "side"] ["fount", "edges"] (defScope s__law_right) := ⟨rfl, rfl, rfl, by decide +kernel, rfl, by decide +kernel, by decide +kernel⟩
noncomputable abbrev s__law_sip : Stmt := top 20
noncomputable abbrev sc__law_sip_N : List Str := ["fount", "many", "found", "mixed"]
theorem sc__law_sip : FnScope ["fount", "many", "found", "mixed"] ["fount", "many"] (defScope s__law_sip) := ⟨rfl, rfl, rfl, by decide +kernel, rfl, by decide +kernel, by decide +kernel⟩
noncomputable abbrev s__law_number : Stmt := top 22
noncomputable abbrev sc__law_number_N : List Str := ["fount"]
theorem sc__law_number : FnScope ["fount"] ["fount"] (defScope s__law_number) := ⟨rfl, rfl, rfl, by decide +kernel, rfl, by decide +kernel, by decide +kernel⟩
noncomputable abbrev s__law_edges : Stmt := top 24
noncomputable abbrev sc__law_edges_N : List Str := ["fount", "many", "wide", "found", "turn", "edge"]
theorem sc__law_edges : FnScope ["fount", "many", "wide", "found", "turn", "edge"] ["fount", "many"] (defScope s__law_edges) := ⟨rfl, rfl, rfl, by decide +kernel, rfl, by decide +kernel, by decide +kernel⟩
noncomputable abbrev s_require_point : Stmt := top 10
noncomputable abbrev sc_require_point_N : List Str := ["value"]
theorem sc_require_point : FnScope ["value"] ["value"] (defScope s_require_point) := ⟨rfl, rfl, rfl, by decide +kernel, rfl, by decide +kernel, by decide +kernel⟩
noncomputable abbrev s_ends_in : Stmt := top 13
noncomputable abbrev sc_ends_in_N : List Str := ["edge", "x", "y", "side"]
theorem sc_ends_in : FnScope ["edge", "x", "y", "side"] ["edge"] (defScope s_ends_in) := ⟨rfl, rfl, rfl, by decide +kernel, rfl, by decide +kernel, by decide +kernel⟩
noncomputable abbrev s_edge_in : Stmt := top 14
noncomputable abbrev sc_edge_in_N : List Str := ["point", "other", "low", "high", "side"]
theorem sc_edge_in : FnScope ["point", "other", "low", "high", "side"] ["point", "other"] (defScope s_edge_in) := ⟨rfl, rfl, rfl, by decide +kernel, rfl, by decide +kernel, by decide +kernel⟩
noncomputable abbrev s_edge_between : Stmt := top 17
noncomputable abbrev sc_edge_between_N : List Str := ["point", "other_point"]
theorem sc_edge_between : FnScope ["point", "other_point"] ["point", "other_point"] (defScope s_edge_between) := ⟨rfl, rfl, rfl, by decide +kernel, rfl, by decide +kernel, by decide +kernel⟩
noncomputable abbrev s__law_between : Stmt := top 26
noncomputable abbrev sc__law_between_N : List Str := ["one", "two", "far_x", "far_y"]
theorem sc__law_between : FnScope ["one", "two", "far_x", "far_y"] ["one", "two"] (defScope s__law_between) := ⟨rfl, rfl, rfl, by decide +kernel, rfl, by decide +kernel, by decide +kernel⟩
noncomputable abbrev s_law : Stmt := top 31
noncomputable abbrev sc_law_N : List Str := ["script", "k", "fount", "turn", "one", "two", "three"]
theorem sc_law : FnScope ["script", "k", "fount", "turn", "one", "two", "three"] ["script"] (defScope s_law) := ⟨rfl, rfl, rfl, by decide +kernel, rfl, by decide +kernel, by decide +kernel⟩
/-- what the top has written -/
structure Tx (K : PySem.W.Frag) (mg : Str → Option Value) (ad : Nat → Addr) (fs : Nat → FuncData) (cs : Nat → Addr) : Prop where
  f__law_fount : Fd K mg "_law_fount" s__law_fount (ad 0) (fs 0) ["script", "k"]
  f_Picture___len__ : Fm K "__len__" "Picture.__len__" s_Picture___len__ (ad 1) (fs 1) ["self"]
  f_Picture_edges : Fm K "edges" "Picture.edges" s_Picture_edges (ad 2) (fs 2) ["self"]
  f_is_int : Fd K mg "is_int" s_is_int (ad 3) (fs 3) ["value"]
  f_is_point : Fd K mg "is_point" s_is_point (ad 4) (fs 4) ["value"]
  f_in_range : Fd K mg "in_range" s_in_range (ad 5) (fs 5) ["value", "low", "high"]
  f_is_edge : Fd K mg "is_edge" s_is_edge (ad 6) (fs 6) ["value"]
  f_Picture___init__ : Fm K "__init__" "Picture.__init__" s_Picture___init__ (ad 7) (fs 7) ["self", "edges"]
  f__law_same : Fd K mg "_law_same" s__law_same (ad 8) (fs 8) ["found", "due"]
  f__law_values : Fd K mg "_law_values" s__law_values (ad 9) (fs 9) ["edges"]
  f_Picture___eq__ : Fm K "__eq__" "Picture.__eq__" s_Picture___eq__ (ad 10) (fs 10) ["self", "other"]
  f__law_others_right : Fd K mg "_law_others_right" s__law_others_right (ad 11) (fs 11) ["picture_here", "edges"]
  f_Picture___contains__ : Fm K "__contains__" "Picture.__contains__" s_Picture___contains__ (ad 12) (fs 12) ["self", "value"]
  f__law_is_edge : Fd K mg "_law_is_edge" s__law_is_edge (ad 13) (fs 13) ["value"]
  f__law_right : Fd K mg "_law_right" s__law_right (ad 14) (fs 14) ["fount", "edges"]
  f__law_sip : Fd K mg "_law_sip" s__law_sip (ad 15) (fs 15) ["fount", "many"]
  f__law_number : Fd K mg "_law_number" s__law_number (ad 16) (fs 16) ["fount"]
  f__law_edges : Fd K mg "_law_edges" s__law_edges (ad 17) (fs 17) ["fount", "many"]
  f_require_point : Fd K mg "require_point" s_require_point (ad 18) (fs 18) ["value"]
  f_ends_in : Fd K mg "ends_in" s_ends_in (ad 19) (fs 19) ["edge"]
  f_edge_in : Fd K mg "edge_in" s_edge_in (ad 20) (fs 20) ["point", "other"]
  f_edge_between : Fd K mg "edge_between" s_edge_between (ad 21) (fs 21) ["point", "other_point"]
  f__law_between : Fd K mg "_law_between" s__law_between (ad 22) (fs 22) ["one", "two"]
  f_law : Fd K mg "law" s_law (ad 23) (fs 23) ["script"]
  z_abs : mg "abs" = none
  z_all : mg "all" = none
  z_bool : mg "bool" = none
  z_int : mg "int" = none
  z_isinstance : mg "isinstance" = none
  z_len : mg "len" = none
  z_list : mg "list" = none
  z_max : mg "max" = none
  z_min : mg "min" = none
  z_range : mg "range" = none
  z_repr : mg "repr" = none
  z_set : mg "set" = none
  z_sorted : mg "sorted" = none
  z_tuple : mg "tuple" = none
  g_Picture : mg "Picture" = some (.ref (cs 0))
  c_Picture : CF K (cs 0)
  m_Picture : Mk K (cs 0) (ad 7)
  n_Picture_known_edges : NoAttr K (cs 0) "known_edges"
  n_Picture_sorted_edges : NoAttr K (cs 0) "sorted_edges"
  a_Picture___len__ : PySem.W.findIn K (.ref (cs 0)) "__len__" = some (some (.ref (ad 1)))
  i_Picture___len__ : PySem.W.isFn K (.ref (ad 1)) = true
  p_Picture_edges : ∃ pa, PropOf K (cs 0) "edges" pa (ad 2)
  a_Picture___init__ : PySem.W.findIn K (.ref (cs 0)) "__init__" = some (some (.ref (ad 7)))
  i_Picture___init__ : PySem.W.isFn K (.ref (ad 7)) = true
  a_Picture___eq__ : PySem.W.findIn K (.ref (cs 0)) "__eq__" = some (some (.ref (ad 10)))
  i_Picture___eq__ : PySem.W.isFn K (.ref (ad 10)) = true
  a_Picture___contains__ : PySem.W.findIn K (.ref (cs 0)) "__contains__" = some (some (.ref (ad 12)))
  i_Picture___contains__ : PySem.W.isFn K (.ref (ad 12)) = true
  is_Picture : IsF K (okC cs) (cs 0)
  e_Picture : EqF K (okC cs) (cs 0) (ad 10)
theorem Tx.cf {K : PySem.W.Frag} {mg : Str → Option Value} {ad : Nat → Addr} {fs : Nat → FuncData} {cs : Nat → Addr} (T : Tx K mg ad fs cs) : ∀ C, okC cs C = true → CF K C := fun C h => by
  simp only [okC, Bool.or_eq_true, beq_iff_eq, or_assoc] at h
  rcases h with rfl
  exact T.c_Picture
section
variable {P : Program} {w : World} {K : PySem.W.Frag} {mg : Str → Option Value} {base : Heap} {ad : Nat → Addr} {fs : Nat → FuncData} {cs : Nat → Addr}
theorem k__law_fount_ (T : Tx K mg ad fs cs) : FnG P w K mg base (L2.CX P w) 1 (ad 0) (fs 0) ["script", "k"] (spD K 2 (m__law_fount cs)) := by
  refine fn_mirror (N := sc__law_fount_N) T.f__law_fount.F sc__law_fount fun X pvs W cdv A outer s H E hX tk hr => ?_
  subst hX
  have hu := hr.units
  exact (dss_cons (ds_set (i := 2) sc__law_fount.nd rfl (by first | exact Or.inl rfl | exact Or.inr rfl) (DX.own dx_int))
    (dss_cons (ds_if (dt_cmp op_ltX f_lt (dx_var (pv 1)) (dx_callB call_len f_len (by rfl) T.z_len bo_len (da_cons (dx_var (pv 0)) da_nil)) (nomark _)) (dss_one (ds_set (i := 2) sc__law_fount.nd rfl (by first | exact Or.inl rfl | exact Or.inr rfl) (DX.own (dx_ix (dx_var (pv 0)) (dx_var (pv 1)))))) dss_nil)
    (dss_one (ds_ret (do_lst (da_cons (dx_callB (call_maxX rfl) f_max (by rfl) T.z_max bo_max (da_cons dx_int (da_cons (dx_op2 op_sub f_sub (dx_var (pv 2)) (dx_op2 op_powX f_pow dx_int dx_int)) da_nil))) (da_cons (dx_op2 op_addX f_add (dx_op2 op_mulW f_mul (dx_op2 op_modN f_mod (dx_var (pv 2)) (dx_op2 op_addX f_add (dx_op2 op_powX f_pow dx_int dx_int) dx_int)) dx_int) (dx_var (pv 1))) (da_cons dx_int da_nil))))))))
theorem k_Picture___len___ (T : Tx K mg ad fs cs) : FnG P w K mg base (L2.CX P w) 1 (ad 1) (fs 1) ["self"] (spD K 1 (m_Picture___len__ cs)) := by
  refine fn_mirror (N := sc_Picture___len___N) T.f_Picture___len__.F sc_Picture___len__ fun X pvs W cdv A outer s H E hX tk hr => ?_
  subst hX
  have hu := hr.units
  exact (dss_one (ds_ret (DX.own (dx_callB call_len f_len (by rfl) T.z_len bo_len (da_cons (dx_fld (ok := (fun C => C == cs 0)) (dx_var (pv 0)) (fun C h => by cases beq_iff_eq.mp h; exact ⟨T.c_Picture.cl, T.n_Picture_sorted_edges⟩)) da_nil)))))
theorem k_Picture_edges_ (T : Tx K mg ad fs cs) : FnG P w K mg base (L2.CX P w) 1 (ad 2) (fs 2) ["self"] (spD K 1 (m_Picture_edges cs)) := by
  refine fn_mirror (N := sc_Picture_edges_N) T.f_Picture_edges.F sc_Picture_edges fun X pvs W cdv A outer s H E hX tk hr => ?_
  subst hX
  have hu := hr.units
  exact (dss_one (ds_ret (DX.own (dx_fld (ok := (fun C => C == cs 0)) (dx_var (pv 0)) (fun C h => by cases beq_iff_eq.mp h; exact ⟨T.c_Picture.cl, T.n_Picture_sorted_edges⟩)))))
theorem k_is_int_ (T : Tx K mg ad fs cs) : FnG P w K mg base (L2.CX P w) 1 (ad 3) (fs 3) ["value"] (spD K 1 (m_is_int cs)) := by
  refine fn_mirror (N := sc_is_int_N) T.f_is_int.F sc_is_int fun X pvs W cdv A outer s H E hX tk hr => ?_
  subst hX
  have hu := hr.units
  exact (dss_one (ds_ret (DX.own (dx_and (dx_callB call_isi f_isi (by rfl) T.z_isinstance bo_isinstance (da_cons (dx_var (pv 0)) (da_cons (dx_ty (by rfl) T.z_int bo_int) da_nil))) (dx_and1 (dx_not (dx_callB call_isi f_isi (by rfl) T.z_isinstance bo_isinstance (da_cons (dx_var (pv 0)) (da_cons (dx_ty (by rfl) T.z_bool bo_bool) da_nil)))))))))
theorem k_is_point_ (T : Tx K mg ad fs cs) : FnG P w K mg base (L2.CX P w) 2 (ad 4) (fs 4) ["value"] (spD K 1 (m_is_point cs)) := by
  refine fn_mirror (N := sc_is_point_N) T.f_is_point.F sc_is_point fun X pvs W cdv A outer s H E hX tk hr => ?_
  subst hX
  have hu := hr.units
  have k_is_int := k_is_int_ (P := P) (w := w) (base := base) T
  exact (dss_one (ds_ret (DX.own (dx_and (dx_callB call_isi f_isi (by rfl) T.z_isinstance bo_isinstance (da_cons (dx_var (pv 0)) (da_cons (dx_ty (by rfl) T.z_tuple bo_tuple) da_nil))) (dx_and (dx_cmp (op_eqX hu) f_eq (dx_callB call_len f_len (by rfl) T.z_len bo_len (da_cons (dx_var (pv 0)) da_nil)) dx_int (nomark _)) (dx_and1 (dx_callB (cr_all rfl) f_all (by rfl) T.z_all bo_all (da_cons (DO.frz (do_comp (own := [("number", 1)]) rfl sc_is_point.nd (di_tup (dx_var (pv 0))) (blkOk_by (N := sc_is_point_N) (sc := defScope s_is_point) (own := [("number", 1)]) (by decide +kernel)) (fun _ _ _ _ _ => (dg_name (i := 1) sc_is_point.nd rfl (by first | exact Or.inl rfl | exact Or.inr rfl))) (fun _ _ _ _ _ => dts_nil) (fun _ _ _ _ _ => (DO.frz (do_call0 k_is_int (hr.mono (by decide)) (by rfl) T.f_is_int.g T.f_is_int.F.kp T.f_is_int.b takes0 (da_cons (dx_var (pv 1)) da_nil) (len_cons len_nil)))) (by decide) (wip_name))) da_nil))))))))
theorem k_in_range_ (T : Tx K mg ad fs cs) : FnG P w K mg base (L2.CX P w) 2 (ad 5) (fs 5) ["value", "low", "high"] (spD K 3 (m_in_range cs)) := by
  refine fn_mirror (N := sc_in_range_N) T.f_in_range.F sc_in_range fun X pvs W cdv A outer s H E hX tk hr => ?_
  subst hX
  have hu := hr.units
  have k_is_int := k_is_int_ (P := P) (w := w) (base := base) T
  exact (dss_one (ds_ret (DX.own (dx_and (DO.frz (do_call0 k_is_int (hr.mono (by decide)) (by rfl) T.f_is_int.g T.f_is_int.F.kp T.f_is_int.b tk (da_cons (dx_var (pv 0)) da_nil) (len_cons len_nil))) (dx_and1 (dx_chain op_le op_le f_le f_le (dx_var (pv 1)) (dx_var (pv 0)) (dx_var (pv 2))))))))
theorem k_is_edge_ (T : Tx K mg ad fs cs) : FnG P w K mg base (L2.CX P w) 3 (ad 6) (fs 6) ["value"] (spD K 1 (m_is_edge cs)) := by
  refine fn_mirror (N := sc_is_edge_N) T.f_is_edge.F sc_is_edge fun X pvs W cdv A outer s H E hX tk hr => ?_
  subst hX
  have hu := hr.units
  have k_is_point := k_is_point_ (P := P) (w := w) (base := base) T
  have k_in_range := k_in_range_ (P := P) (w := w) (base := base) T
  exact (dss_cons (ds_if (DW.dt (dw_or (dt_not (dt_val (dx_callB call_isi f_isi (by rfl) T.z_isinstance bo_isinstance (da_cons (dx_var (pv 0)) (da_cons (dx_ty (by rfl) T.z_tuple bo_tuple) da_nil))))) (dw_or1 (dt_cmp (op_neX hu) f_ne (dx_callB call_len f_len (by rfl) T.z_len bo_len (da_cons (dx_var (pv 0)) da_nil)) dx_int (nomark _))))) (dss_one (ds_ret (DX.own dx_bl))) dss_nil)
    (dss_one (ds_ret (DX.own (dx_and (DO.frz (do_call0 k_is_point (hr.mono (by decide)) (by rfl) T.f_is_point.g T.f_is_point.F.kp T.f_is_point.b tk (da_cons (dx_cut (dx_var (pv 0)) dp_none (dp_some dx_int)) da_nil) (len_cons len_nil))) (dx_and1 (DO.frz (do_call0 k_in_range (hr.mono (by decide)) (by rfl) T.f_in_range.g T.f_in_range.F.kp T.f_in_range.b tk (da_cons (dx_ix (dx_var (pv 0)) dx_int) (da_cons dx_int (da_cons dx_int da_nil))) (len_cons (len_cons (len_cons len_nil)))))))))))
theorem k_Picture___init___ (T : Tx K mg ad fs cs) : FnG P w K mg base (L2.CX P w) 4 (ad 7) (fs 7) ["self", "edges"] (spD K 2 (m_Picture___init__ cs)) := by
  refine fn_mirror (N := sc_Picture___init___N) T.f_Picture___init__.F sc_Picture___init__ fun X pvs W cdv A outer s H E hX tk hr => ?_
  subst hX
  have hu := hr.units
  have k_is_edge := k_is_edge_ (P := P) (w := w) (base := base) T
  exact (dss_cons (ds_if (DW.dt (dw_or (dt_not (dt_val (dx_callB call_isi f_isi (by rfl) T.z_isinstance bo_isinstance (da_cons (dx_var (pv 1)) (da_cons (dx_ty (by rfl) T.z_list bo_list) da_nil))))) (dw_or1 (dt_not (dt_val (dx_callB (cr_all rfl) f_all (by rfl) T.z_all bo_all (da_cons (DO.frz (do_comp (own := [("edge", 2)]) rfl sc_Picture___init__.nd (di_list (dx_var (pv 1))) (blkOk_by (N := sc_Picture___init___N) (sc := defScope s_Picture___init__) (own := [("edge", 2)]) (by decide +kernel)) (fun _ _ _ _ _ => (dg_name (i := 2) sc_Picture___init__.nd rfl (by first | exact Or.inl rfl | exact Or.inr rfl))) (fun _ _ _ _ _ => dts_nil) (fun _ _ _ _ _ => (DO.frz (do_call0 k_is_edge (hr.mono (by decide)) (by rfl) T.f_is_edge.g T.f_is_edge.F.kp T.f_is_edge.b takes0 (da_cons (dx_var (pv 2)) da_nil) (len_cons len_nil)))) (by decide) (wip_name))) da_nil))))))) (dss_one ds_never) dss_nil)
    (dss_cons (ds_fld (ok := (fun C => C == cs 0)) (pv 0) (do_dcT (own := [("edge", 2)]) (un0 hr.units) rfl sc_Picture___init__.nd (di_list (dx_var (pv 1))) (blkOk_by (N := sc_Picture___init___N) (sc := defScope s_Picture___init__) (own := [("edge", 2)]) (by decide +kernel)) (fun _ _ _ _ _ => (dg_name (i := 2) sc_Picture___init__.nd rfl (by first | exact Or.inl rfl | exact Or.inr rfl))) (fun _ _ _ _ _ => (dx_var (pv 2))) (fun _ _ _ _ _ => dx_bl) (by decide) (wip_name)) (fun C h => by cases beq_iff_eq.mp h; exact ⟨T.c_Picture.cl, T.n_Picture_known_edges⟩))
    (dss_cons (ds_if (dt_cmp (op_neX hu) f_ne (dx_callB call_lenA f_lenX (by rfl) T.z_len bo_len (da_cons (dx_fld (ok := (fun C => C == cs 0)) (dx_see (pv 0)) (fun C h => by cases beq_iff_eq.mp h; exact ⟨T.c_Picture.cl, T.n_Picture_known_edges⟩)) da_nil)) (dx_callB call_len f_len (by rfl) T.z_len bo_len (da_cons (dx_var (pv 1)) da_nil)) (nomark _)) (dss_one ds_never) dss_nil)
    (dss_one (ds_fld (ok := (fun C => C == cs 0)) (pv 0) (DX.own (dx_callTyT call_tuple_of f_tupOf (by rfl) T.z_tuple bo_tuple (da_cons (DO.frz (do_callB call_sortX f_sortX (by rfl) T.z_sorted bo_sorted (da_cons (dx_var (pv 1)) da_nil))) da_nil))) (fun C h => by cases beq_iff_eq.mp h; exact ⟨T.c_Picture.cl, T.n_Picture_sorted_edges⟩))))))
theorem k__law_same_ (T : Tx K mg ad fs cs) : ∀ n : Nat, FnG P w K mg base (L2.CX P w) (n + 1) (ad 8) (fs 8) ["found", "due"] (spD K 2 (m__law_same cs n))
  | 0 => fn_bad
  | n + 1 => by
    have k__law_same := k__law_same_ T n
    refine fn_mirror (N := sc__law_same_N) T.f__law_same.F sc__law_same fun X pvs W cdv A outer s H E hX tk hr => ?_
    subst hX
    have hu := hr.units
    exact (dss_cons (ds_if (dt_val (dx_callB call_isiT f_isiT (by rfl) T.z_isinstance bo_isinstance (da_cons (dx_var (pv 1)) (da_cons (dx_tup (da_cons (dx_ty (by rfl) T.z_list bo_list) (da_cons (dx_ty (by rfl) T.z_tuple bo_tuple) da_nil))) da_nil)))) (dss_cons (ds_if (DW.dt (dw_or (dt_cmp (op_neX hu) f_ne (dx_callB call_isi f_isi (by rfl) T.z_isinstance bo_isinstance (da_cons (dx_var (pv 0)) (da_cons (dx_ty (by rfl) T.z_list bo_list) da_nil))) (dx_callB call_isi f_isi (by rfl) T.z_isinstance bo_isinstance (da_cons (dx_var (pv 1)) (da_cons (dx_ty (by rfl) T.z_list bo_list) da_nil))) (nomark _)) (dw_or1 (dt_cmp (op_neX hu) f_ne (dx_callB call_isi f_isi (by rfl) T.z_isinstance bo_isinstance (da_cons (dx_var (pv 0)) (da_cons (dx_ty (by rfl) T.z_tuple bo_tuple) da_nil))) (dx_callB call_isi f_isi (by rfl) T.z_isinstance bo_isinstance (da_cons (dx_var (pv 1)) (da_cons (dx_ty (by rfl) T.z_tuple bo_tuple) da_nil))) (nomark _))))) (dss_one (ds_ret (DX.own dx_bl))) dss_nil) (dss_one (ds_ret (DX.own (dx_and (dx_cmp (op_eqX hu) f_eq (dx_callB call_len f_len (by rfl) T.z_len bo_len (da_cons (dx_var (pv 0)) da_nil)) (dx_callB call_len f_len (by rfl) T.z_len bo_len (da_cons (dx_var (pv 1)) da_nil)) (nomark _)) (dx_and1 (dx_callB (cr_all rfl) f_all (by rfl) T.z_all bo_all (da_cons (DO.frz (do_comp (own := [("k", 2)]) rfl sc__law_same.nd (di_range1 (by rfl) T.z_range (da_cons (dx_callB call_len f_len (by rfl) T.z_len bo_len (da_cons (dx_var (pv 1)) da_nil)) da_nil)) (blkOk_by (N := sc__law_same_N) (sc := defScope s__law_same) (own := [("k", 2)]) (by decide +kernel)) (fun _ _ _ _ _ => (dg_name (i := 2) sc__law_same.nd rfl (by first | exact Or.inl rfl | exact Or.inr rfl))) (fun _ _ _ _ _ => dts_nil) (fun _ _ _ _ _ => (DO.frz (do_call0 k__law_same (hr.mono (by omega)) (by rfl) T.f__law_same.g T.f__law_same.F.kp T.f__law_same.b takes0 (da_cons (dx_ix (dx_var (pv 0)) (dx_var (pv 2))) (da_cons (dx_ix (dx_var (pv 1)) (dx_var (pv 2))) da_nil)) (len_cons (len_cons len_nil))))) (by decide) (wip_name))) da_nil)))))))) dss_nil)
      (dss_one (ds_ret (DX.own (dx_and (dx_cmp (op_eqX hu) f_eq (dx_callB call_isi f_isi (by rfl) T.z_isinstance bo_isinstance (da_cons (dx_var (pv 0)) (da_cons (dx_ty (by rfl) T.z_bool bo_bool) da_nil))) (dx_callB call_isi f_isi (by rfl) T.z_isinstance bo_isinstance (da_cons (dx_var (pv 1)) (da_cons (dx_ty (by rfl) T.z_bool bo_bool) da_nil))) (nomark _)) (dx_and1 (dx_cmp (op_eqX hu) f_eq (dx_var (pv 0)) (dx_var (pv 1)) (nomark _))))))))
theorem k__law_values_ (T : Tx K mg ad fs cs) : FnG P w K mg base (L2.CX P w) 1 (ad 9) (fs 9) ["edges"] (spD K 1 (m__law_values cs)) := by
  refine fn_mirror (N := sc__law_values_N) T.f__law_values.F sc__law_values fun X pvs W cdv A outer s H E hX tk hr => ?_
  subst hX
  have hu := hr.units
  exact (dss_cons (ds_set (i := 1) sc__law_values.nd rfl (by first | exact Or.inl rfl | exact Or.inr rfl) (DO.fz (do_lst (da_cons dx_non (da_cons dx_int (da_cons dx_bl (da_cons dx_str (da_cons (dx_tup da_nil) (da_cons (DO.frz (do_lst da_nil)) (da_cons dx_dict0 (da_cons (dx_tup (da_cons dx_int (da_cons dx_int da_nil))) (da_cons (dx_tup (da_cons dx_int (da_cons dx_int (da_cons dx_int da_nil)))) (da_cons (dx_tup (da_cons dx_int (da_cons dx_int (da_cons dx_int da_nil)))) (da_cons (dx_tup (da_cons dx_int (da_cons dx_int (da_cons dx_int da_nil)))) (da_cons (dx_tup (da_cons dx_int (da_cons dx_int (da_cons (dx_neg dx_int) da_nil)))) (da_cons (DO.frz (do_lst (da_cons dx_int (da_cons dx_int (da_cons dx_int da_nil))))) da_nil))))))))))))))))
    (dss_cons (ds_set (i := 1) sc__law_values.nd rfl (by first | exact Or.inl rfl | exact Or.inr rfl) (DO.fz (do_cat (DX.dq (dx_var (pv 1))) (DO.dq (do_lst (da_cons (dx_tup (da_cons dx_int (da_cons dx_int (da_cons dx_bl da_nil)))) (da_cons (dx_tup (da_cons dx_bl (da_cons dx_int (da_cons dx_int da_nil)))) (da_cons (dx_tup (da_cons dx_int (da_cons dx_bl (da_cons dx_int da_nil)))) (da_cons (dx_tup (da_cons dx_non (da_cons dx_int (da_cons dx_int da_nil)))) (da_cons (dx_tup (da_cons dx_int (da_cons dx_int (da_cons dx_non da_nil)))) (da_cons (dx_tup (da_cons dx_str (da_cons dx_int (da_cons dx_int da_nil)))) (da_cons (dx_tup (da_cons dx_int (da_cons dx_int (da_cons dx_int (da_cons dx_int da_nil))))) da_nil))))))))))))
    (dss_one (ds_ret (do_cat (DO.dq (do_cat (DX.dq (dx_var (pv 1))) (DO.dq (do_lst (da_cons (dx_tup (da_cons (dx_tup (da_cons dx_int (da_cons dx_int da_nil))) (da_cons dx_int da_nil))) (da_cons (dx_tup (da_cons (dx_op2 op_powX f_pow dx_int dx_int) (da_cons (dx_op2 op_sub f_sub dx_int (dx_op2 op_powX f_pow dx_int dx_int)) (da_cons dx_int da_nil)))) (da_cons (dx_tup (da_cons dx_int (da_cons (DO.frz (do_lst da_nil)) (da_cons dx_int da_nil)))) (da_cons (dx_tup (da_cons dx_int (da_cons dx_int (da_cons (DO.frz (do_lst da_nil)) da_nil)))) (da_cons (dx_tup (da_cons dx_dict0 (da_cons dx_int (da_cons dx_int da_nil)))) (da_cons dx_str da_nil)))))))))) (DO.dq (do_cut (dq_see (pv 0)) dp_none (dp_some dx_int))))))))
theorem k_Picture___eq___ (T : Tx K mg ad fs cs) : FnG P w K mg base (L2.CX P w) 1 (ad 10) (fs 10) ["self", "other"] (spD K 2 (m_Picture___eq__ cs)) := by
  refine fn_mirror (N := sc_Picture___eq___N) T.f_Picture___eq__.F sc_Picture___eq__ fun X pvs W cdv A outer s H E hX tk hr => ?_
  subst hX
  have hu := hr.units
  exact (dss_one (ds_ret (DX.own (dx_and (dx_callB call_isi (f_isO T.cf T.is_Picture) (by rfl) T.z_isinstance bo_isinstance (da_cons (dx_var (pv 1)) (da_cons (dx_cls (by rfl) T.g_Picture) da_nil))) (dx_and1 (dx_cmp (op_eqX hu) f_eq (dx_fld (ok := (fun C => C == cs 0)) (dx_var (pv 0)) (fun C h => by cases beq_iff_eq.mp h; exact ⟨T.c_Picture.cl, T.n_Picture_sorted_edges⟩)) (dx_fld (ok := (fun C => C == cs 0)) (dx_var (pv 1)) (fun C h => by cases beq_iff_eq.mp h; exact ⟨T.c_Picture.cl, T.n_Picture_sorted_edges⟩)) (nomark _)))))))
theorem k__law_others_right_ (T : Tx K mg ad fs cs) : FnG P w K mg base (L2.CX P w) 6 (ad 11) (fs 11) ["picture_here", "edges"] (spD K 2 (m__law_others_right cs)) := by
  refine fn_mirror (N := sc__law_others_right_N) T.f__law_others_right.F sc__law_others_right fun X pvs W cdv A outer s H E hX tk hr => ?_
  subst hX
  have hu := hr.units
  have k_Picture___init__ := k_Picture___init___ (P := P) (w := w) (base := base) T
  have k_Picture___eq__ := k_Picture___eq___ (P := P) (w := w) (base := base) T
  exact (dss_cons (ds_par (i := 2) (j := 3) rfl sc__law_others_right.nd rfl rfl (by decide) rfl rfl (DO.fz (do_makeP T.m_Picture k_Picture___init__ (hr.mono (by decide)) (by rfl) T.g_Picture T.f_Picture___init__.b tk (da_cons (DO.frz (do_pick (DX.dq (dx_var (pv 1))) dp_none dp_none (dp_some (dx_neg dx_int)))) da_nil) (len_cons len_nil))) (DO.fz (do_makeP T.m_Picture k_Picture___init__ (hr.mono (by decide)) (by rfl) T.g_Picture T.f_Picture___init__.b tk (da_cons (dx_cut (dx_var (pv 1)) (dp_some dx_int) dp_none) da_nil) (len_cons len_nil))) rfl)
    (dss_cons (ds_set (i := 4) sc__law_others_right.nd rfl (by first | exact Or.inl rfl | exact Or.inr rfl) (DO.fz (do_cat (DO.dq (do_comp (own := [("edge", 5)]) rfl sc__law_others_right.nd (di_list (dx_var (pv 1))) (blkOk_by (N := sc__law_others_right_N) (sc := defScope s__law_others_right) (own := [("edge", 5)]) (by decide +kernel)) (fun _ _ _ _ _ => (dg_name (i := 5) sc__law_others_right.nd rfl (by first | exact Or.inl rfl | exact Or.inr rfl))) (fun _ _ _ _ _ => (dts_one (dt_cmp (op_neX hu) f_ne (dx_var (pv 5)) (dx_tup (da_cons dx_int (da_cons dx_int (da_cons dx_int da_nil)))) (nomark _)))) (fun _ _ _ _ _ => (dx_var (pv 5))) (by decide) (wip_name))) (DO.dq (do_repO (do_lst (da_cons (dx_tup (da_cons dx_int (da_cons dx_int (da_cons dx_int da_nil)))) da_nil)) (dx_callTy call_int2 f_int2 (by rfl) T.z_int bo_int (da_cons (dx_cmp (op_notInD (by have := hr.un; omega)) f_notInL (dx_tup (da_cons dx_int (da_cons dx_int (da_cons dx_int da_nil)))) (dx_var (pv 1)) (by with_unfolding_all rfl)) da_nil)))))))
    (dss_cons (ds_if (DW.dt (dw_or (dt_not (dt_eqO T.cf T.e_Picture k_Picture___eq__ (hr.mono (by decide)) T.f_Picture___eq__.b (dx_var (pv 0)) (dx_var (pv 2)))) (dw_or1 (dt_neO T.cf T.e_Picture k_Picture___eq__ (hr.mono (by decide)) T.f_Picture___eq__.b (dx_var (pv 0)) (dx_var (pv 2)))))) (dss_one (ds_ret (DX.own dx_bl))) dss_nil)
    (dss_cons (ds_if (DW.dt (dw_and (dt_cmp (op_neX hu) f_ne (dx_var (pv 1)) (DO.frz (do_lst da_nil)) (nomark _)) (dw_and1 (DW.dt (dw_or (dt_eqO T.cf T.e_Picture k_Picture___eq__ (hr.mono (by decide)) T.f_Picture___eq__.b (dx_var (pv 0)) (dx_var (pv 3))) (dw_or1 (dt_not (dt_neO T.cf T.e_Picture k_Picture___eq__ (hr.mono (by decide)) T.f_Picture___eq__.b (dx_var (pv 0)) (dx_var (pv 3)))))))))) (dss_one (ds_ret (DX.own dx_bl))) dss_nil)
    (dss_cons (ds_if (dt_cmp (op_neX hu) f_ne (dx_eqO T.cf T.e_Picture k_Picture___eq__ (hr.mono (by decide)) T.f_Picture___eq__.b (dx_var (pv 0)) (DO.frz (do_makeP T.m_Picture k_Picture___init__ (hr.mono (by decide)) (by rfl) T.g_Picture T.f_Picture___init__.b tk (da_cons (dx_var (pv 4)) da_nil) (len_cons len_nil)))) (dx_cmp (op_eqX hu) f_eq (DO.frz (do_callB call_sortX f_sortX (by rfl) T.z_sorted bo_sorted (da_cons (dx_var (pv 1)) da_nil))) (DO.frz (do_callB call_sortX f_sortX (by rfl) T.z_sorted bo_sorted (da_cons (dx_var (pv 4)) da_nil))) (nomark _)) (nomark _)) (dss_one (ds_ret (DX.own dx_bl))) dss_nil)
    (dss_cons (ds_set (i := 6) sc__law_others_right.nd rfl (by first | exact Or.inl rfl | exact Or.inr rfl) (DX.own (dx_op2 op_divX f_div (dx_callB call_len f_len (by rfl) T.z_len bo_len (da_cons (dx_var (pv 1)) da_nil)) dx_int)))
    (dss_cons (ds_set (i := 7) sc__law_others_right.nd rfl (by first | exact Or.inl rfl | exact Or.inr rfl) (DO.fz (do_lst (da_cons (DO.frz (do_comp (own := [("x", 8), ("y", 9), ("side", 10)]) rfl sc__law_others_right.nd (di_list (dx_var (pv 1))) (blkOk_by (N := sc__law_others_right_N) (sc := defScope s__law_others_right) (own := [("x", 8), ("y", 9), ("side", 10)]) (by decide +kernel)) (fun _ _ _ _ _ => (dg_tup rfl (dgs_cons (dg_name (i := 8) sc__law_others_right.nd rfl (by first | exact Or.inl rfl | exact Or.inr rfl)) (dgs_cons (dg_name (i := 9) sc__law_others_right.nd rfl (by first | exact Or.inl rfl | exact Or.inr rfl)) (dgs_cons (dg_name (i := 10) sc__law_others_right.nd rfl (by first | exact Or.inl rfl | exact Or.inr rfl)) dgs_nil))))) (fun _ _ _ _ _ => dts_nil) (fun _ _ _ _ _ => (dx_tup (da_cons (dx_op2 op_addX f_add (dx_var (pv 8)) dx_int) (da_cons (dx_var (pv 9)) (da_cons (dx_var (pv 10)) da_nil))))) (by decide) (wip_tup (wip_cons (wip_name) (wip_cons (wip_name) (wip_cons (wip_name) wip_nil)))))) (da_cons (DO.frz (do_comp (own := [("x", 8), ("y", 9), ("side", 10)]) rfl sc__law_others_right.nd (di_list (dx_var (pv 1))) (blkOk_by (N := sc__law_others_right_N) (sc := defScope s__law_others_right) (own := [("x", 8), ("y", 9), ("side", 10)]) (by decide +kernel)) (fun _ _ _ _ _ => (dg_tup rfl (dgs_cons (dg_name (i := 8) sc__law_others_right.nd rfl (by first | exact Or.inl rfl | exact Or.inr rfl)) (dgs_cons (dg_name (i := 9) sc__law_others_right.nd rfl (by first | exact Or.inl rfl | exact Or.inr rfl)) (dgs_cons (dg_name (i := 10) sc__law_others_right.nd rfl (by first | exact Or.inl rfl | exact Or.inr rfl)) dgs_nil))))) (fun _ _ _ _ _ => dts_nil) (fun _ _ _ _ _ => (dx_tup (da_cons (dx_var (pv 8)) (da_cons (dx_op2 op_sub f_sub (dx_var (pv 9)) dx_int) (da_cons (dx_var (pv 10)) da_nil))))) (by decide) (wip_tup (wip_cons (wip_name) (wip_cons (wip_name) (wip_cons (wip_name) wip_nil)))))) da_nil)))))
    (dss_cons (ds_set (i := 7) sc__law_others_right.nd rfl (by first | exact Or.inl rfl | exact Or.inr rfl) (DO.fz (do_cat (DX.dq (dx_var (pv 7))) (DO.dq (do_lst (da_cons (DO.frz (do_cat (DO.dq (do_cat (DO.dq (do_cut (DX.dq (dx_var (pv 1))) dp_none (dp_some (dx_var (pv 6))))) (DO.dq (do_comp (own := [("x", 8), ("y", 9), ("side", 10)]) rfl sc__law_others_right.nd (di_list (dx_cut (dx_var (pv 1)) (dp_some (dx_var (pv 6))) (dp_some (dx_op2 op_addX f_add (dx_var (pv 6)) dx_int)))) (blkOk_by (N := sc__law_others_right_N) (sc := defScope s__law_others_right) (own := [("x", 8), ("y", 9), ("side", 10)]) (by decide +kernel)) (fun _ _ _ _ _ => (dg_tup rfl (dgs_cons (dg_name (i := 8) sc__law_others_right.nd rfl (by first | exact Or.inl rfl | exact Or.inr rfl)) (dgs_cons (dg_name (i := 9) sc__law_others_right.nd rfl (by first | exact Or.inl rfl | exact Or.inr rfl)) (dgs_cons (dg_name (i := 10) sc__law_others_right.nd rfl (by first | exact Or.inl rfl | exact Or.inr rfl)) dgs_nil))))) (fun _ _ _ _ _ => dts_nil) (fun _ _ _ _ _ => (dx_tup (da_cons (dx_op2 op_addX f_add (dx_var (pv 8)) dx_int) (da_cons (dx_var (pv 9)) (da_cons (dx_var (pv 10)) da_nil))))) (by decide) (wip_tup (wip_cons (wip_name) (wip_cons (wip_name) (wip_cons (wip_name) wip_nil)))))))) (DO.dq (do_cut (DX.dq (dx_var (pv 1))) (dp_some (dx_op2 op_addX f_add (dx_var (pv 6)) dx_int)) dp_none)))) da_nil))))))
    (dss_cons (ds_set (i := 7) sc__law_others_right.nd rfl (by first | exact Or.inl rfl | exact Or.inr rfl) (DO.fz (do_cat (DX.dq (dx_var (pv 7))) (DO.dq (do_lst (da_cons (DO.frz (do_cat (DO.dq (do_cut (DX.dq (dx_var (pv 1))) dp_none (dp_some (dx_neg dx_int)))) (DO.dq (do_comp (own := [("x", 8), ("y", 9), ("side", 10)]) rfl sc__law_others_right.nd (di_list (dx_cut (dx_var (pv 1)) (dp_some (dx_neg dx_int)) dp_none)) (blkOk_by (N := sc__law_others_right_N) (sc := defScope s__law_others_right) (own := [("x", 8), ("y", 9), ("side", 10)]) (by decide +kernel)) (fun _ _ _ _ _ => (dg_tup rfl (dgs_cons (dg_name (i := 8) sc__law_others_right.nd rfl (by first | exact Or.inl rfl | exact Or.inr rfl)) (dgs_cons (dg_name (i := 9) sc__law_others_right.nd rfl (by first | exact Or.inl rfl | exact Or.inr rfl)) (dgs_cons (dg_name (i := 10) sc__law_others_right.nd rfl (by first | exact Or.inl rfl | exact Or.inr rfl)) dgs_nil))))) (fun _ _ _ _ _ => dts_nil) (fun _ _ _ _ _ => (dx_tup (da_cons (dx_var (pv 8)) (da_cons (dx_op2 op_addX f_add (dx_var (pv 9)) dx_int) (da_cons (dx_var (pv 10)) da_nil))))) (by decide) (wip_tup (wip_cons (wip_name) (wip_cons (wip_name) (wip_cons (wip_name) wip_nil)))))))) (da_cons (DO.frz (do_cat (DO.dq (do_cut (DX.dq (dx_var (pv 1))) (dp_some dx_int) dp_none)) (DO.dq (do_lst (da_cons (dx_tup (da_cons dx_int (da_cons dx_int (da_cons dx_int da_nil)))) da_nil))))) da_nil)))))))
    (dss_cons (ds_for (passes_of rfl) rfl (di_list (DO.frz (do_comp (own := [("one", 11)]) rfl sc__law_others_right.nd (di_list (dx_var (pv 7))) (blkOk_by (N := sc__law_others_right_N) (sc := defScope s__law_others_right) (own := [("one", 11)]) (by decide +kernel)) (fun _ _ _ _ _ => (dg_name (i := 11) sc__law_others_right.nd rfl (by first | exact Or.inl rfl | exact Or.inr rfl))) (fun _ _ _ _ _ => (dts_one (dt_cmp (op_eqX hu) f_eq (dx_lenSetX rfl hr.units (by rfl) T.z_len bo_len (by rfl) T.z_set bo_set (da_cons (dx_var (pv 11)) da_nil)) (dx_callB call_len f_len (by rfl) T.z_len bo_len (da_cons (dx_var (pv 11)) da_nil)) (nomark _)))) (fun _ _ _ _ _ => (dx_var (pv 11))) (by decide) (wip_name)))) (dg_name (i := 11) sc__law_others_right.nd rfl (by first | exact Or.inl rfl | exact Or.inr rfl)) (dss_cons (ds_if (dt_cmp (op_neX hu) f_ne (dx_eqO T.cf T.e_Picture k_Picture___eq__ (hr.mono (by decide)) T.f_Picture___eq__.b (dx_var (pv 0)) (DO.frz (do_makeP T.m_Picture k_Picture___init__ (hr.mono (by decide)) (by rfl) T.g_Picture T.f_Picture___init__.b tk (da_cons (dx_var (pv 11)) da_nil) (len_cons len_nil)))) (dx_cmp (op_eqX hu) f_eq (DO.frz (do_callB call_sortX f_sortX (by rfl) T.z_sorted bo_sorted (da_cons (dx_var (pv 11)) da_nil))) (DO.frz (do_callB call_sortX f_sortX (by rfl) T.z_sorted bo_sorted (da_cons (dx_var (pv 1)) da_nil))) (nomark _)) (nomark _)) (dss_one (ds_ret (DX.own dx_bl))) dss_nil) (dss_one (ds_if (dt_cmp (op_neX hu) f_ne (dx_neO T.cf T.e_Picture k_Picture___eq__ (hr.mono (by decide)) T.f_Picture___eq__.b (DO.frz (do_makeP T.m_Picture k_Picture___init__ (hr.mono (by decide)) (by rfl) T.g_Picture T.f_Picture___init__.b tk (da_cons (dx_var (pv 11)) da_nil) (len_cons len_nil))) (dx_var (pv 0))) (dx_cmp (op_neX hu) f_ne (DO.frz (do_callB call_sortX f_sortX (by rfl) T.z_sorted bo_sorted (da_cons (dx_var (pv 11)) da_nil))) (DO.frz (do_callB call_sortX f_sortX (by rfl) T.z_sorted bo_sorted (da_cons (dx_var (pv 1)) da_nil))) (nomark _)) (nomark _)) (dss_one (ds_ret (DX.own dx_bl))) dss_nil))))
    (dss_one (ds_ret (DX.own (dx_cmp (op_eqX hu) f_eq (DO.frz (do_comp (own := [("one", 11)]) rfl sc__law_others_right.nd (di_list (DO.frz (do_lst (da_cons dx_non (da_cons dx_int (da_cons (dx_var (pv 1)) (da_cons (dx_callTyT call_tuple_of f_tupOf (by rfl) T.z_tuple bo_tuple (da_cons (dx_var (pv 1)) da_nil)) (da_cons dx_dict0 (da_cons dx_str da_nil))))))))) (blkOk_by (N := sc__law_others_right_N) (sc := defScope s__law_others_right) (own := [("one", 11)]) (by decide +kernel)) (fun _ _ _ _ _ => (dg_name (i := 11) sc__law_others_right.nd rfl (by first | exact Or.inl rfl | exact Or.inr rfl))) (fun _ _ _ _ _ => (dts_one (DW.dt (dw_or (dt_eqO T.cf T.e_Picture k_Picture___eq__ (hr.mono (by decide)) T.f_Picture___eq__.b (dx_var (pv 0)) (dx_var (pv 11))) (dw_or1 (dt_not (dt_neO T.cf T.e_Picture k_Picture___eq__ (hr.mono (by decide)) T.f_Picture___eq__.b (dx_var (pv 0)) (dx_var (pv 11))))))))) (fun _ _ _ _ _ => dx_int) (by decide) (wip_name))) (DO.frz (do_lst da_nil)) (nomark _)))))))))))))))
theorem k_Picture___contains___ (T : Tx K mg ad fs cs) : FnG P w K mg base (L2.CX P w) 4 (ad 12) (fs 12) ["self", "value"] (spD K 2 (m_Picture___contains__ cs)) := by
  refine fn_mirror (N := sc_Picture___contains___N) T.f_Picture___contains__.F sc_Picture___contains__ fun X pvs W cdv A outer s H E hX tk hr => ?_
  subst hX
  have hu := hr.units
  have k_is_edge := k_is_edge_ (P := P) (w := w) (base := base) T
  exact (dss_one (ds_ret (DX.own (dx_and (DO.frz (do_call0 k_is_edge (hr.mono (by decide)) (by rfl) T.f_is_edge.g T.f_is_edge.F.kp T.f_is_edge.b tk (da_cons (dx_var (pv 1)) da_nil) (len_cons len_nil))) (dx_and1 (dx_inF (un1 hr.units) (dx_var (pv 1)) (dx_fld (ok := (fun C => C == cs 0)) (dx_var (pv 0)) (fun C h => by cases beq_iff_eq.mp h; exact ⟨T.c_Picture.cl, T.n_Picture_known_edges⟩)) (by with_unfolding_all rfl)))))))
theorem k__law_is_edge_ (T : Tx K mg ad fs cs) : FnG P w K mg base (L2.CX P w) 1 (ad 13) (fs 13) ["value"] (spD K 1 (m__law_is_edge cs)) := by
  refine fn_mirror (N := sc__law_is_edge_N) T.f__law_is_edge.F sc__law_is_edge fun X pvs W cdv A outer s H E hX tk hr => ?_
  subst hX
  have hu := hr.units
  exact (dss_cons (ds_if (DW.dt (dw_or (dt_not (dt_val (dx_callB call_isi f_isi (by rfl) T.z_isinstance bo_isinstance (da_cons (dx_var (pv 0)) (da_cons (dx_ty (by rfl) T.z_tuple bo_tuple) da_nil))))) (dw_or1 (dt_cmp (op_neX hu) f_ne (dx_callB call_len f_len (by rfl) T.z_len bo_len (da_cons (dx_var (pv 0)) da_nil)) dx_int (nomark _))))) (dss_one (ds_ret (DX.own dx_bl))) dss_nil)
    (dss_cons (ds_if (dt_cmp (op_neX hu) f_ne (DO.frz (do_comp (own := [("one", 1)]) rfl sc__law_is_edge.nd (di_tup (dx_var (pv 0))) (blkOk_by (N := sc__law_is_edge_N) (sc := defScope s__law_is_edge) (own := [("one", 1)]) (by decide +kernel)) (fun _ _ _ _ _ => (dg_name (i := 1) sc__law_is_edge.nd rfl (by first | exact Or.inl rfl | exact Or.inr rfl))) (fun _ _ _ _ _ => (dts_one (DW.dt (dw_or (dt_not (dt_val (dx_callB call_isi f_isi (by rfl) T.z_isinstance bo_isinstance (da_cons (dx_var (pv 1)) (da_cons (dx_ty (by rfl) T.z_int bo_int) da_nil))))) (dw_or1 (dt_val (dx_callB call_isi f_isi (by rfl) T.z_isinstance bo_isinstance (da_cons (dx_var (pv 1)) (da_cons (dx_ty (by rfl) T.z_bool bo_bool) da_nil))))))))) (fun _ _ _ _ _ => dx_int) (by decide) (wip_name))) (DO.frz (do_lst da_nil)) (nomark _)) (dss_one (ds_ret (DX.own dx_bl))) dss_nil)
    (dss_one (ds_ret (DX.own (dx_chain op_le op_le f_le f_le dx_int (dx_ix (dx_var (pv 0)) dx_int) dx_int))))))
theorem k__law_right_ (T : Tx K mg ad fs cs) : FnG P w K mg base (L2.CX P w) 19 (ad 14) (fs 14) ["fount", "edges"] (spD K 2 (m__law_right cs)) := by
  refine fn_mirror (N := sc__law_right_N) T.f__law_right.F sc__law_right fun X pvs W cdv A outer s H E hX tk hr => ?_
  subst hX
  have hu := hr.units
  have k_Picture___init__ := k_Picture___init___ (P := P) (w := w) (base := base) T
  have k__law_same := k__law_same_ (P := P) (w := w) (base := base) T 16
  have k__law_values := k__law_values_ (P := P) (w := w) (base := base) T
  have k__law_others_right := k__law_others_right_ (P := P) (w := w) (base := base) T
  have k_Picture___contains__ := k_Picture___contains___ (P := P) (w := w) (base := base) T
  have k_Picture_edges := k_Picture_edges_ (P := P) (w := w) (base := base) T
  obtain ⟨pa_Picture_edges, p_Picture_edges⟩ := T.p_Picture_edges
  have k_Picture___len__ := k_Picture___len___ (P := P) (w := w) (base := base) T
  have k__law_is_edge := k__law_is_edge_ (P := P) (w := w) (base := base) T
  have k_is_edge := k_is_edge_ (P := P) (w := w) (base := base) T
  exact (dss_cons (ds_par (i := 2) (j := 3) rfl sc__law_right.nd rfl rfl (by decide) rfl rfl (DO.fz (do_listQ (by rfl) T.z_list bo_list (dq_see (pv 1)))) (DO.fz (DX.own (dx_lend (DO.frz (do_makeP T.m_Picture k_Picture___init__ (hr.mono (by decide)) (by rfl) T.g_Picture T.f_Picture___init__.b tk (da_cons (dx_var (pv 1)) da_nil) (len_cons len_nil)))))) rfl)
    (dss_cons (ds_if (dt_not (dt_val (dx_lend (DO.frz (do_call0 k__law_same (hr.mono (by decide)) (by rfl) T.f__law_same.g T.f__law_same.F.kp T.f__law_same.b tk (da_cons (DO.frz (do_lst (da_cons (DO.frz (do_prop (dx_var (pv 3)) T.c_Picture.cl p_Picture_edges k_Picture_edges (hr.mono (by decide)) T.f_Picture_edges.b)) (da_cons (dx_lenO T.a_Picture___len__ T.i_Picture___len__ k_Picture___len__ (hr.mono (by decide)) T.f_Picture___len__.b (by rfl) T.z_len (da_cons (dx_var (pv 3)) da_nil)) da_nil)))) (da_cons (DO.frz (do_lst (da_cons (dx_callTyT call_tuple_of f_tupOf (by rfl) T.z_tuple bo_tuple (da_cons (DO.frz (do_callB call_sortX f_sortX (by rfl) T.z_sorted bo_sorted (da_cons (dx_var (pv 1)) da_nil))) da_nil)) (da_cons (dx_callB call_len f_len (by rfl) T.z_len bo_len (da_cons (dx_var (pv 1)) da_nil)) da_nil)))) da_nil)) (len_cons (len_cons len_nil))))))) (dss_one (ds_ret (DX.own dx_bl))) dss_nil)
    (dss_cons (ds_if (dt_cmp (op_neX hu) f_ne (dx_see (pv 1)) (dx_var (pv 2)) (nomark _)) (dss_one (ds_ret (DX.own dx_bl))) dss_nil)
    (dss_cons (ds_for (passes_of rfl) rfl (di_list (DO.frz (do_cat (DO.dq (do_call1 k__law_values (hr.mono (by decide)) (by rfl) T.f__law_values.g T.f__law_values.F.kp T.f__law_values.b tk (dr_slot (pv 1) dr_nil) (lenr_slot lenr_nil))) (DO.dq (do_comp (own := [("x", 5), ("y", 6), ("side", 7)]) rfl sc__law_right.nd (di_list (DO.frz (do_cut (dq_see (pv 1)) dp_none (dp_some dx_int)))) (blkOk_by (N := sc__law_right_N) (sc := defScope s__law_right) (own := [("x", 5), ("y", 6), ("side", 7)]) (by decide +kernel)) (fun _ _ _ _ _ => (dg_tup rfl (dgs_cons (dg_name (i := 5) sc__law_right.nd rfl (by first | exact Or.inl rfl | exact Or.inr rfl)) (dgs_cons (dg_name (i := 6) sc__law_right.nd rfl (by first | exact Or.inl rfl | exact Or.inr rfl)) (dgs_cons (dg_name (i := 7) sc__law_right.nd rfl (by first | exact Or.inl rfl | exact Or.inr rfl)) dgs_nil))))) (fun _ _ _ _ _ => dts_nil) (fun _ _ _ _ _ => (dx_tup (da_cons (dx_op2 op_addX f_add (dx_var (pv 5)) dx_int) (da_cons (dx_var (pv 6)) (da_cons (dx_var (pv 7)) da_nil))))) (by decide) (wip_tup (wip_cons (wip_name) (wip_cons (wip_name) (wip_cons (wip_name) wip_nil))))))))) (dg_name (i := 4) sc__law_right.nd rfl (by first | exact Or.inl rfl | exact Or.inr rfl)) (dss_cons (ds_if (dt_cmp (op_neX hu) f_ne (dx_inO T.a_Picture___contains__ T.i_Picture___contains__ k_Picture___contains__ (hr.mono (by decide)) T.f_Picture___contains__.b (dx_var (pv 4)) (dx_var (pv 3))) (dx_and (DO.frz (do_call0 k__law_is_edge (hr.mono (by decide)) (by rfl) T.f__law_is_edge.g T.f__law_is_edge.F.kp T.f__law_is_edge.b tk (da_cons (dx_var (pv 4)) da_nil) (len_cons len_nil))) (dx_and1 (dx_cmp (op_inD (by have := hr.un; omega)) f_inL (dx_var (pv 4)) (dx_see (pv 1)) (by with_unfolding_all rfl)))) (nomark _)) (dss_one (ds_ret (DX.own dx_bl))) dss_nil) (dss_one (ds_if (dt_cmp (op_neX hu) f_ne (dx_callB (call_reprX hr.g hu) f_repr (by rfl) T.z_repr bo_repr (da_cons (DO.frz (do_call0 k_is_edge (hr.mono (by decide)) (by rfl) T.f_is_edge.g T.f_is_edge.F.kp T.f_is_edge.b tk (da_cons (dx_var (pv 4)) da_nil) (len_cons len_nil))) da_nil)) (dx_callB (call_reprX hr.g hu) f_repr (by rfl) T.z_repr bo_repr (da_cons (DO.frz (do_call0 k__law_is_edge (hr.mono (by decide)) (by rfl) T.f__law_is_edge.g T.f__law_is_edge.F.kp T.f__law_is_edge.b tk (da_cons (dx_var (pv 4)) da_nil) (len_cons len_nil))) da_nil)) (nomark _)) (dss_one (ds_ret (DX.own dx_bl))) dss_nil))))
    (dss_cons (ds_if (dt_not (dt_val (dx_lend (DO.frz (do_call0 k__law_others_right (hr.mono (by decide)) (by rfl) T.f__law_others_right.g T.f__law_others_right.F.kp T.f__law_others_right.b tk (da_cons (dx_var (pv 3)) (da_cons (dx_var (pv 1)) da_nil)) (len_cons (len_cons len_nil))))))) (dss_one (ds_ret (DX.own dx_bl))) dss_nil)
    (dss_cons (ds_app (pv 1) (DX.own (dx_tup (da_cons dx_int (da_cons dx_int (da_cons dx_int da_nil))))))
    (dss_cons (ds_expr (dx_revL (pv 1)))
    (dss_one (ds_ret (DX.own (dx_and (dx_cmp (op_eqX hu) f_eq (DO.frz (do_prop (dx_var (pv 3)) T.c_Picture.cl p_Picture_edges k_Picture_edges (hr.mono (by decide)) T.f_Picture_edges.b)) (dx_callTyT call_tuple_of f_tupOf (by rfl) T.z_tuple bo_tuple (da_cons (DO.frz (do_callB call_sortX f_sortX (by rfl) T.z_sorted bo_sorted (da_cons (dx_var (pv 2)) da_nil))) da_nil)) (nomark _)) (dx_and1 (dx_cmp (op_eqX hu) f_eq (dx_lenO T.a_Picture___len__ T.i_Picture___len__ k_Picture___len__ (hr.mono (by decide)) T.f_Picture___len__.b (by rfl) T.z_len (da_cons (dx_var (pv 3)) da_nil)) (dx_callB call_len f_len (by rfl) T.z_len bo_len (da_cons (dx_var (pv 2)) da_nil)) (nomark _))))))))))))))
theorem k__law_sip_ (T : Tx K mg ad fs cs) : FnG P w K mg base (L2.CX P w) 1 (ad 15) (fs 15) ["fount", "many"] (spD K 2 (m__law_sip cs)) := by
  refine fn_mirror (N := sc__law_sip_N) T.f__law_sip.F sc__law_sip fun X pvs W cdv A outer s H E hX tk hr => ?_
  subst hX
  have hu := hr.units
  exact (dss_cons (ds_if (dt_cmp op_gt f_gt (dx_at (dq_see (pv 0)) dx_int) dx_int (nomark _)) (dss_cons (ds_set (i := 2) sc__law_sip.nd rfl (by first | exact Or.inl rfl | exact Or.inr rfl) (DX.own (dx_op2 op_modN f_mod (dx_at (dq_see (pv 0)) dx_int) (dx_var (pv 1))))) (dss_cons (ds_setAt (pv 0) dx_int (DX.own (dx_op2 op_divX f_div (dx_at (dq_see (pv 0)) dx_int) (dx_var (pv 1))))) (dss_one (ds_ret (DX.own (dx_var (pv 2))))))) dss_nil)
    (dss_cons (ds_setAt (pv 0) dx_int (DX.own (dx_op2 op_addX f_add (dx_at (dq_see (pv 0)) dx_int) dx_int)))
    (dss_cons (ds_set (i := 3) sc__law_sip.nd rfl (by first | exact Or.inl rfl | exact Or.inr rfl) (DX.own (dx_op2 op_modN f_mod (dx_op2 op_powX f_pow (dx_op2 op_addX f_add (dx_at (dq_see (pv 0)) dx_int) (dx_op2 op_mulW f_mul dx_int (dx_at (dq_see (pv 0)) dx_int))) dx_int) (dx_op2 op_addX f_add (dx_op2 op_powX f_pow dx_int dx_int) dx_int))))
    (dss_cons (ds_set (i := 3) sc__law_sip.nd rfl (by first | exact Or.inl rfl | exact Or.inr rfl) (DX.own (dx_op2 op_modN f_mod (dx_op2 op_powX f_pow (dx_op2 op_addX f_add (dx_var (pv 3)) (dx_op2 op_mulW f_mul dx_int (dx_at (dq_see (pv 0)) dx_int))) dx_int) (dx_op2 op_addX f_add (dx_op2 op_powX f_pow dx_int dx_int) dx_int))))
    (dss_one (ds_ret (DX.own (dx_op2 op_modN f_mod (dx_op2 op_divX f_div (dx_var (pv 3)) dx_int) (dx_var (pv 1))))))))))
theorem k__law_number_ (T : Tx K mg ad fs cs) : FnG P w K mg base (L2.CX P w) 2 (ad 16) (fs 16) ["fount"] (spD K 1 (m__law_number cs)) := by
  refine fn_mirror (N := sc__law_number_N) T.f__law_number.F sc__law_number fun X pvs W cdv A outer s H E hX tk hr => ?_
  subst hX
  have hu := hr.units
  have k__law_sip := k__law_sip_ (P := P) (w := w) (base := base) T
  exact (dss_one (ds_ret (DX.own (dx_ix (DO.frz (do_lst (da_cons (dx_op2 op_sub f_sub (DO.frz (do_call1 k__law_sip (hr.mono (by decide)) (by rfl) T.f__law_sip.g T.f__law_sip.F.kp T.f__law_sip.b tk (dr_slot (pv 0) (dr_fz dx_int dr_nil)) (lenr_slot (lenr_fz lenr_nil)))) dx_int) (da_cons (dx_op2 op_sub f_sub (DO.frz (do_call1 k__law_sip (hr.mono (by decide)) (by rfl) T.f__law_sip.g T.f__law_sip.F.kp T.f__law_sip.b tk (dr_slot (pv 0) (dr_fz dx_int dr_nil)) (lenr_slot (lenr_fz lenr_nil)))) dx_int) (da_cons (dx_op2 op_sub f_sub (DO.frz (do_call1 k__law_sip (hr.mono (by decide)) (by rfl) T.f__law_sip.g T.f__law_sip.F.kp T.f__law_sip.b tk (dr_slot (pv 0) (dr_fz (dx_op2 op_powX f_pow dx_int dx_int) dr_nil)) (lenr_slot (lenr_fz lenr_nil)))) (dx_op2 op_powX f_pow dx_int dx_int)) da_nil))))) (DO.frz (do_call1 k__law_sip (hr.mono (by decide)) (by rfl) T.f__law_sip.g T.f__law_sip.F.kp T.f__law_sip.b tk (dr_slot (pv 0) (dr_fz dx_int dr_nil)) (lenr_slot (lenr_fz lenr_nil))))))))
theorem k__law_edges_ (T : Tx K mg ad fs cs) : FnG P w K mg base (L2.CX P w) 2 (ad 17) (fs 17) ["fount", "many"] (spD K 2 (m__law_edges cs)) := by
  refine fn_mirror (N := sc__law_edges_N) T.f__law_edges.F sc__law_edges fun X pvs W cdv A outer s H E hX tk hr => ?_
  subst hX
  have hu := hr.units
  have k__law_sip := k__law_sip_ (P := P) (w := w) (base := base) T
  exact (dss_cons (ds_set (i := 2) sc__law_edges.nd rfl (by first | exact Or.inl rfl | exact Or.inr rfl) (DX.own (dx_ix (DO.frz (do_lst (da_cons dx_int (da_cons dx_int (da_cons dx_int (da_cons (dx_op2 op_powX f_pow dx_int dx_int) da_nil)))))) (DO.frz (do_call1 k__law_sip (hr.mono (by decide)) (by rfl) T.f__law_sip.g T.f__law_sip.F.kp T.f__law_sip.b tk (dr_slot (pv 0) (dr_fz dx_int dr_nil)) (lenr_slot (lenr_fz lenr_nil)))))))
    (dss_cons (ds_set (i := 3) sc__law_edges.nd rfl (by first | exact Or.inl rfl | exact Or.inr rfl) do_dn)
    (dss_cons (ds_for (passes_of rfl) rfl (di_range1 (by rfl) T.z_range (da_cons (dx_ix (DO.frz (do_lst (da_cons (DO.frz (do_call1 k__law_sip (hr.mono (by decide)) (by rfl) T.f__law_sip.g T.f__law_sip.F.kp T.f__law_sip.b tk (dr_slot (pv 0) (dr_fz (dx_op2 op_addX f_add (dx_var (pv 1)) dx_int) dr_nil)) (lenr_slot (lenr_fz lenr_nil)))) (da_cons (dx_var (pv 1)) (da_cons (DO.frz (do_call1 k__law_sip (hr.mono (by decide)) (by rfl) T.f__law_sip.g T.f__law_sip.F.kp T.f__law_sip.b tk (dr_slot (pv 0) (dr_fz dx_int dr_nil)) (lenr_slot (lenr_fz lenr_nil)))) da_nil))))) (DO.frz (do_call1 k__law_sip (hr.mono (by decide)) (by rfl) T.f__law_sip.g T.f__law_sip.F.kp T.f__law_sip.b tk (dr_slot (pv 0) (dr_fz dx_int dr_nil)) (lenr_slot (lenr_fz lenr_nil))))) da_nil)) (dg_name (i := 4) sc__law_edges.nd rfl (by first | exact Or.inl rfl | exact Or.inr rfl)) (dss_cons (ds_set (i := 5) sc__law_edges.nd rfl (by first | exact Or.inl rfl | exact Or.inr rfl) (DX.own (dx_tup (da_cons (dx_op2 op_sub f_sub (DO.frz (do_call1 k__law_sip (hr.mono (by decide)) (by rfl) T.f__law_sip.g T.f__law_sip.F.kp T.f__law_sip.b tk (dr_slot (pv 0) (dr_fz (dx_var (pv 2)) dr_nil)) (lenr_slot (lenr_fz lenr_nil)))) (dx_op2 op_divX f_div (dx_var (pv 2)) dx_int)) (da_cons (dx_op2 op_sub f_sub (DO.frz (do_call1 k__law_sip (hr.mono (by decide)) (by rfl) T.f__law_sip.g T.f__law_sip.F.kp T.f__law_sip.b tk (dr_slot (pv 0) (dr_fz (dx_var (pv 2)) dr_nil)) (lenr_slot (lenr_fz lenr_nil)))) dx_int) (da_cons (DO.frz (do_call1 k__law_sip (hr.mono (by decide)) (by rfl) T.f__law_sip.g T.f__law_sip.F.kp T.f__law_sip.b tk (dr_slot (pv 0) (dr_fz dx_int dr_nil)) (lenr_slot (lenr_fz lenr_nil)))) da_nil)))))) (dss_one (ds_dputT (un1 hr.units) (pv 3) (dx_var (pv 5)) dx_bl))))
    (dss_one (ds_ret (do_listT rfl (by rfl) T.z_list bo_list (pv 3)))))))
theorem k_require_point_ (T : Tx K mg ad fs cs) : FnG P w K mg base (L2.CX P w) 3 (ad 18) (fs 18) ["value"] (spD K 1 (m_require_point cs)) := by
  refine fn_mirror (N := sc_require_point_N) T.f_require_point.F sc_require_point fun X pvs W cdv A outer s H E hX tk hr => ?_
  subst hX
  have hu := hr.units
  have k_is_point := k_is_point_ (P := P) (w := w) (base := base) T
  exact (dss_one (ds_if (dt_not (dt_val (DO.frz (do_call0 k_is_point (hr.mono (by decide)) (by rfl) T.f_is_point.g T.f_is_point.F.kp T.f_is_point.b tk (da_cons (dx_var (pv 0)) da_nil) (len_cons len_nil))))) (dss_one ds_never) dss_nil))
theorem k_ends_in_ (T : Tx K mg ad fs cs) : FnG P w K mg base (L2.CX P w) 1 (ad 19) (fs 19) ["edge"] (spD K 1 (m_ends_in cs)) := by
  refine fn_mirror (N := sc_ends_in_N) T.f_ends_in.F sc_ends_in fun X pvs W cdv A outer s H E hX tk hr => ?_
  subst hX
  have hu := hr.units
  exact (dss_cons (ds_asg (dx_var (pv 0)) (dg_tup rfl (dgs_cons (dg_name (i := 1) sc_ends_in.nd rfl (by first | exact Or.inl rfl | exact Or.inr rfl)) (dgs_cons (dg_name (i := 2) sc_ends_in.nd rfl (by first | exact Or.inl rfl | exact Or.inr rfl)) (dgs_cons (dg_name (i := 3) sc_ends_in.nd rfl (by first | exact Or.inl rfl | exact Or.inr rfl)) dgs_nil)))))
    (dss_one (ds_ret (DX.own (dx_tup (da_cons (dx_tup (da_cons (dx_var (pv 1)) (da_cons (dx_var (pv 2)) da_nil))) (da_cons (dx_if (dt_cmp (op_eqX hu) f_eq (dx_var (pv 3)) dx_int (nomark _)) (dx_tup (da_cons (dx_var (pv 1)) (da_cons (dx_op2 op_addX f_add (dx_var (pv 2)) dx_int) da_nil))) (dx_tup (da_cons (dx_op2 op_addX f_add (dx_var (pv 1)) dx_int) (da_cons (dx_var (pv 2)) da_nil)))) da_nil)))))))
theorem k_edge_in_ (T : Tx K mg ad fs cs) : FnG P w K mg base (L2.CX P w) 2 (ad 20) (fs 20) ["point", "other"] (spD K 2 (m_edge_in cs)) := by
  refine fn_mirror (N := sc_edge_in_N) T.f_edge_in.F sc_edge_in fun X pvs W cdv A outer s H E hX tk hr => ?_
  subst hX
  have hu := hr.units
  have k_ends_in := k_ends_in_ (P := P) (w := w) (base := base) T
  exact (dss_cons (ds_par (i := 2) (j := 3) rfl sc_edge_in.nd rfl rfl (by decide) rfl rfl (DX.own (dx_two (cr_min2 rfl hr.units) (by rfl) T.z_min bo_min (da_cons (dx_var (pv 0)) (da_cons (dx_var (pv 1)) da_nil)))) (DX.own (dx_two (cr_max2 rfl hr.units) (by rfl) T.z_max bo_max (da_cons (dx_var (pv 0)) (da_cons (dx_var (pv 1)) da_nil)))) rfl)
    (dss_cons (ds_for (passes_of rfl) rfl (di_tup (dx_tup (da_cons dx_int (da_cons dx_int da_nil)))) (dg_name (i := 4) sc_edge_in.nd rfl (by first | exact Or.inl rfl | exact Or.inr rfl)) (dss_one (ds_if (dt_cmp (op_eqX hu) f_eq (dx_ix (DO.frz (do_call0 k_ends_in (hr.mono (by decide)) (by rfl) T.f_ends_in.g T.f_ends_in.F.kp T.f_ends_in.b tk (da_cons (dx_tup (da_star (dx_var (pv 2)) (da_cons (dx_var (pv 4)) da_nil))) da_nil) (len_cons len_nil))) dx_int) (dx_var (pv 3)) (nomark _)) (dss_one (ds_ret (DX.own (dx_tup (da_star (dx_var (pv 2)) (da_cons (dx_var (pv 4)) da_nil)))))) dss_nil)))
    (dss_one (ds_ret (DX.own dx_non)))))
theorem k_edge_between_ (T : Tx K mg ad fs cs) : FnG P w K mg base (L2.CX P w) 4 (ad 21) (fs 21) ["point", "other_point"] (spD K 2 (m_edge_between cs)) := by
  refine fn_mirror (N := sc_edge_between_N) T.f_edge_between.F sc_edge_between fun X pvs W cdv A outer s H E hX tk hr => ?_
  subst hX
  have hu := hr.units
  have k_require_point := k_require_point_ (P := P) (w := w) (base := base) T
  have k_edge_in := k_edge_in_ (P := P) (w := w) (base := base) T
  exact (dss_cons (ds_expr (DO.frz (do_call0 k_require_point (hr.mono (by decide)) (by rfl) T.f_require_point.g T.f_require_point.F.kp T.f_require_point.b tk (da_cons (dx_var (pv 0)) da_nil) (len_cons len_nil))))
    (dss_cons (ds_expr (DO.frz (do_call0 k_require_point (hr.mono (by decide)) (by rfl) T.f_require_point.g T.f_require_point.F.kp T.f_require_point.b tk (da_cons (dx_var (pv 1)) da_nil) (len_cons len_nil))))
    (dss_one (ds_ret (do_call0 k_edge_in (hr.mono (by decide)) (by rfl) T.f_edge_in.g T.f_edge_in.F.kp T.f_edge_in.b tk (da_cons (dx_var (pv 0)) (da_cons (dx_var (pv 1)) da_nil)) (len_cons (len_cons len_nil)))))))
theorem k__law_between_ (T : Tx K mg ad fs cs) : FnG P w K mg base (L2.CX P w) 1 (ad 22) (fs 22) ["one", "two"] (spD K 2 (m__law_between cs)) := by
  refine fn_mirror (N := sc__law_between_N) T.f__law_between.F sc__law_between fun X pvs W cdv A outer s H E hX tk hr => ?_
  subst hX
  have hu := hr.units
  exact (dss_cons (ds_par (i := 2) (j := 3) rfl sc__law_between.nd rfl rfl (by decide) rfl rfl (DX.own (dx_callB call_abs f_abs (by rfl) T.z_abs bo_abs (da_cons (dx_op2 op_sub f_sub (dx_ix (dx_var (pv 0)) dx_int) (dx_ix (dx_var (pv 1)) dx_int)) da_nil))) (DX.own (dx_callB call_abs f_abs (by rfl) T.z_abs bo_abs (da_cons (dx_op2 op_sub f_sub (dx_ix (dx_var (pv 0)) dx_int) (dx_ix (dx_var (pv 1)) dx_int)) da_nil))) rfl)
    (dss_cons (ds_if (dt_cmp (op_neX hu) f_ne (dx_op2 op_addX f_add (dx_var (pv 2)) (dx_var (pv 3))) dx_int (nomark _)) (dss_one (ds_ret (DX.own dx_non))) dss_nil)
    (dss_one (ds_ret (DX.own (dx_tup (da_cons (dx_callB (call_minX rfl) f_min (by rfl) T.z_min bo_min (da_cons (dx_ix (dx_var (pv 0)) dx_int) (da_cons (dx_ix (dx_var (pv 1)) dx_int) da_nil))) (da_cons (dx_callB (call_minX rfl) f_min (by rfl) T.z_min bo_min (da_cons (dx_ix (dx_var (pv 0)) dx_int) (da_cons (dx_ix (dx_var (pv 1)) dx_int) da_nil))) (da_cons (dx_var (pv 3)) da_nil)))))))))
theorem k_law_ (T : Tx K mg ad fs cs) : FnG P w K mg base (L2.CX P w) 21 (ad 23) (fs 23) ["script"] (spD K 1 (m_law cs)) := by
  refine fn_mirror (N := sc_law_N) T.f_law.F sc_law fun X pvs W cdv A outer s H E hX tk hr => ?_
  subst hX
  have hu := hr.units
  have k__law_fount := k__law_fount_ (P := P) (w := w) (base := base) T
  have k_Picture___len__ := k_Picture___len___ (P := P) (w := w) (base := base) T
  have k_Picture_edges := k_Picture_edges_ (P := P) (w := w) (base := base) T
  obtain ⟨pa_Picture_edges, p_Picture_edges⟩ := T.p_Picture_edges
  have k__law_right := k__law_right_ (P := P) (w := w) (base := base) T
  have k__law_number := k__law_number_ (P := P) (w := w) (base := base) T
  have k__law_same := k__law_same_ (P := P) (w := w) (base := base) T 16
  have k_Picture___init__ := k_Picture___init___ (P := P) (w := w) (base := base) T
  have k__law_edges := k__law_edges_ (P := P) (w := w) (base := base) T
  have k__law_sip := k__law_sip_ (P := P) (w := w) (base := base) T
  have k_edge_between := k_edge_between_ (P := P) (w := w) (base := base) T
  have k__law_between := k__law_between_ (P := P) (w := w) (base := base) T
  exact (dss_cons (ds_for (passes_of rfl) rfl (di_range1 (by rfl) T.z_range (da_cons (dx_callB (call_maxX rfl) f_max (by rfl) T.z_max bo_max (da_cons dx_int (da_cons (dx_callB (call_minX rfl) f_min (by rfl) T.z_min bo_min (da_cons dx_int (da_cons (dx_callB call_len f_len (by rfl) T.z_len bo_len (da_cons (dx_var (pv 0)) da_nil)) da_nil))) da_nil))) da_nil)) (dg_name (i := 1) sc_law.nd rfl (by first | exact Or.inl rfl | exact Or.inr rfl)) (dss_cons (ds_set (i := 2) sc_law.nd rfl (by first | exact Or.inl rfl | exact Or.inr rfl) (do_call0 k__law_fount (hr.mono (by decide)) (by rfl) T.f__law_fount.g T.f__law_fount.F.kp T.f__law_fount.b tk (da_cons (dx_var (pv 0)) (da_cons (dx_var (pv 1)) da_nil)) (len_cons (len_cons len_nil)))) (dss_cons (ds_if (DW.dt (dw_or (dt_not (dt_val (DO.frz (do_callU k__law_right (hr.mono (by decide)) (by rfl) T.f__law_right.g T.f__law_right.F.kp T.f__law_right.b tk (pv 2) (do_call1 k__law_edges (hr.mono (by decide)) (by rfl) T.f__law_edges.g T.f__law_edges.F.kp T.f__law_edges.b tk (dr_slot (pv 2) (dr_fz dx_int dr_nil)) (lenr_slot (lenr_fz lenr_nil))))))) (dw_or1 (dt_not (dt_val (DO.frz (do_callU k__law_right (hr.mono (by decide)) (by rfl) T.f__law_right.g T.f__law_right.F.kp T.f__law_right.b tk (pv 2) (do_call1 k__law_edges (hr.mono (by decide)) (by rfl) T.f__law_edges.g T.f__law_edges.F.kp T.f__law_edges.b tk (dr_slot (pv 2) (dr_fz dx_int dr_nil)) (lenr_slot (lenr_fz lenr_nil)))))))))) (dss_one (ds_ret (DX.own dx_bl))) dss_nil) (dss_one (ds_for (passes_of rfl) rfl (di_range1 (by rfl) T.z_range (da_cons dx_int da_nil)) (dg_name (i := 3) sc_law.nd rfl (by first | exact Or.inl rfl | exact Or.inr rfl)) (dss_cons (ds_set (i := 4) sc_law.nd rfl (by first | exact Or.inl rfl | exact Or.inr rfl) (DX.own (dx_tup (da_cons (DO.frz (do_call1 k__law_number (hr.mono (by decide)) (by rfl) T.f__law_number.g T.f__law_number.F.kp T.f__law_number.b tk (dr_slot (pv 2) dr_nil) (lenr_slot lenr_nil))) (da_cons (DO.frz (do_call1 k__law_number (hr.mono (by decide)) (by rfl) T.f__law_number.g T.f__law_number.F.kp T.f__law_number.b tk (dr_slot (pv 2) dr_nil) (lenr_slot lenr_nil))) da_nil))))) (dss_cons (ds_set (i := 5) sc_law.nd rfl (by first | exact Or.inl rfl | exact Or.inr rfl) (DX.own (dx_tup (da_cons (dx_op2 op_sub f_sub (dx_op2 op_addX f_add (dx_ix (dx_var (pv 4)) dx_int) (DO.frz (do_call1 k__law_sip (hr.mono (by decide)) (by rfl) T.f__law_sip.g T.f__law_sip.F.kp T.f__law_sip.b tk (dr_slot (pv 2) (dr_fz dx_int dr_nil)) (lenr_slot (lenr_fz lenr_nil))))) dx_int) (da_cons (dx_op2 op_sub f_sub (dx_op2 op_addX f_add (dx_ix (dx_var (pv 4)) dx_int) (DO.frz (do_call1 k__law_sip (hr.mono (by decide)) (by rfl) T.f__law_sip.g T.f__law_sip.F.kp T.f__law_sip.b tk (dr_slot (pv 2) (dr_fz dx_int dr_nil)) (lenr_slot (lenr_fz lenr_nil))))) dx_int) da_nil))))) (dss_cons (ds_if (dt_not (dt_val (DO.frz (do_call0 k__law_same (hr.mono (by decide)) (by rfl) T.f__law_same.g T.f__law_same.F.kp T.f__law_same.b tk (da_cons (DO.frz (do_lst (da_cons (DO.frz (do_call0 k_edge_between (hr.mono (by decide)) (by rfl) T.f_edge_between.g T.f_edge_between.F.kp T.f_edge_between.b tk (da_cons (dx_var (pv 4)) (da_cons (dx_var (pv 5)) da_nil)) (len_cons (len_cons len_nil)))) (da_cons (DO.frz (do_call0 k_edge_between (hr.mono (by decide)) (by rfl) T.f_edge_between.g T.f_edge_between.F.kp T.f_edge_between.b tk (da_cons (dx_var (pv 5)) (da_cons (dx_var (pv 4)) da_nil)) (len_cons (len_cons len_nil)))) da_nil)))) (da_cons (DO.frz (do_repC (do_lst (da_cons (DO.frz (do_call0 k__law_between (hr.mono (by decide)) (by rfl) T.f__law_between.g T.f__law_between.F.kp T.f__law_between.b tk (da_cons (dx_var (pv 4)) (da_cons (dx_var (pv 5)) da_nil)) (len_cons (len_cons len_nil)))) da_nil)))) da_nil)) (len_cons (len_cons len_nil)))))) (dss_one (ds_ret (DX.own dx_bl))) dss_nil) (dss_cons (ds_set (i := 6) sc_law.nd rfl (by first | exact Or.inl rfl | exact Or.inr rfl) (DX.own (dx_tup (da_cons (dx_op2 op_addX f_add (dx_ix (dx_var (pv 4)) dx_int) (dx_ix (DO.frz (do_lst (da_cons dx_int (da_cons dx_int (da_cons (dx_op2 op_powX f_pow dx_int dx_int) (da_cons (DO.frz (do_call1 k__law_number (hr.mono (by decide)) (by rfl) T.f__law_number.g T.f__law_number.F.kp T.f__law_number.b tk (dr_slot (pv 2) dr_nil) (lenr_slot lenr_nil))) da_nil)))))) (dx_op2 op_modN f_mod (dx_var (pv 3)) dx_int))) (da_cons (dx_op2 op_addX f_add (dx_ix (dx_var (pv 4)) dx_int) (dx_op2 op_mulW f_mul (DO.frz (do_call1 k__law_number (hr.mono (by decide)) (by rfl) T.f__law_number.g T.f__law_number.F.kp T.f__law_number.b tk (dr_slot (pv 2) dr_nil) (lenr_slot lenr_nil))) (dx_op2 op_modN f_mod (dx_var (pv 3)) dx_int))) da_nil))))) (dss_one (ds_if (dt_not (dt_val (DO.frz (do_call0 k__law_same (hr.mono (by decide)) (by rfl) T.f__law_same.g T.f__law_same.F.kp T.f__law_same.b tk (da_cons (DO.frz (do_lst (da_cons (DO.frz (do_call0 k_edge_between (hr.mono (by decide)) (by rfl) T.f_edge_between.g T.f_edge_between.F.kp T.f_edge_between.b tk (da_cons (dx_var (pv 4)) (da_cons (dx_var (pv 6)) da_nil)) (len_cons (len_cons len_nil)))) (da_cons (DO.frz (do_call0 k_edge_between (hr.mono (by decide)) (by rfl) T.f_edge_between.g T.f_edge_between.F.kp T.f_edge_between.b tk (da_cons (dx_var (pv 6)) (da_cons (dx_var (pv 4)) da_nil)) (len_cons (len_cons len_nil)))) da_nil)))) (da_cons (DO.frz (do_repC (do_lst (da_cons (DO.frz (do_call0 k__law_between (hr.mono (by decide)) (by rfl) T.f__law_between.g T.f__law_between.F.kp T.f__law_between.b tk (da_cons (dx_var (pv 4)) (da_cons (dx_var (pv 6)) da_nil)) (len_cons (len_cons len_nil)))) da_nil)))) da_nil)) (len_cons (len_cons len_nil)))))) (dss_one (ds_ret (DX.own dx_bl))) dss_nil)))))))))))
    (dss_one (ds_ret (DX.own (dx_and (dx_cmp (op_eqX hu) f_eq (dx_lenO T.a_Picture___len__ T.i_Picture___len__ k_Picture___len__ (hr.mono (by decide)) T.f_Picture___len__.b (by rfl) T.z_len (da_cons (DO.frz (do_makeP T.m_Picture k_Picture___init__ (hr.mono (by decide)) (by rfl) T.g_Picture T.f_Picture___init__.b tk (da_cons (DO.frz (do_lst da_nil)) da_nil) (len_cons len_nil))) da_nil)) dx_int (nomark _)) (dx_and1 (dx_cmp (op_eqX hu) f_eq (DO.frz (do_prop (DO.frz (do_makeP T.m_Picture k_Picture___init__ (hr.mono (by decide)) (by rfl) T.g_Picture T.f_Picture___init__.b tk (da_cons (DO.frz (do_lst da_nil)) da_nil) (len_cons len_nil))) T.c_Picture.cl p_Picture_edges k_Picture_edges (hr.mono (by decide)) T.f_Picture_edges.b)) (dx_tup da_nil) (nomark _))))))))
end
set_option maxHeartbeats 0 in
theorem all_mk {l : PySem.W.OpenLaw} {w : World} {K : PySem.W.Frag} {h : Heap} {mg : Str → Option Value} {fa f1 f2 f3 f4 f5 f6 f7 f8 f9 f10 f11 f12 f13 f14 f15 f16 f17 f18 f19 f20 f21 f22 f23 f24 C0 : Addr} {pp3 : Addr} {pr3 : List Value} (X : K.In h) (G : h.Ns mainGlobals mg) (hfa : mg "law" = some (.ref fa))
    {od1 an1 od2 an2 od3 an3 od4 an4 od5 an5 od6 an6 od7 an7 od8 an8 od9 an9 od10 an10 od11 an11 od12 an12 od13 an13 od14 an14 od15 an15 od16 an16 od17 an17 od18 an18 od19 an19 od20 an20 od21 an21 od22 an22 od23 an23 od24 an24 : Option Addr} {sl1 sl2 sl3 sl4 sl5 sl6 sl7 sl8 sl9 sl10 sl11 sl12 sl13 sl14 sl15 sl16 sl17 sl18 sl19 sl20 sl21 sl22 sl23 sl24 : Array (Option Value)} {oc1 dc1 pm1 cd1 ct1 kV1 oc2 dc2 pm2 cd2 ct2 kV2 oc3 dc3 pm3 cd3 ct3 kV3 oc4 dc4 pm4 cd4 ct4 kV4 oc5 dc5 pm5 cd5 ct5 kV5 oc6 dc6 pm6 cd6 ct6 kV6 oc7 dc7 pm7 cd7 ct7 kV7 oc8 dc8 pm8 cd8 ct8 kV8 oc9 dc9 pm9 cd9 ct9 kV9 oc10 dc10 pm10 cd10 ct10 kV10 oc11 dc11 pm11 cd11 ct11 kV11 oc12 dc12 pm12 cd12 ct12 kV12 oc13 dc13 pm13 cd13 ct13 kV13 oc14 dc14 pm14 cd14 ct14 kV14 oc15 dc15 pm15 cd15 ct15 kV15 oc16 dc16 pm16 cd16 ct16 kV16 oc17 dc17 pm17 cd17 ct17 kV17 oc18 dc18 pm18 cd18 ct18 kV18 oc19 dc19 pm19 cd19 ct19 kV19 oc20 dc20 pm20 cd20 ct20 kV20 oc21 dc21 pm21 cd21 ct21 kV21 oc22 dc22 pm22 cd22 ct22 kV22 oc23 dc23 pm23 cd23 ct23 kV23 oc24 dc24 pm24 cd24 ct24 kV24 : Value}
    (g_Picture : PySem.W.nsIn K mainGlobals "Picture" = some (some (.ref C0)))
    (a1 : PySem.W.nsIn K mainGlobals "_law_fount" = some (some (.ref f1)))
    (l1 : K.lookup f1 = some ⟨oc1, od1, .func (PySem.W.fnOf "_law_fount" "_law_fount" (defArgs s__law_fount) (defBody s__law_fount) (defScope s__law_fount) .none kV1 dc1 pm1 an1 cd1 ct1), sl1⟩)
    (c1 : PySem.W.codeIn K cd1 "_law_fount" = true)
    (k1 : PySem.W.keepIn K (.ref f1) = true)
    (a2 : PySem.W.findIn K (.ref C0) "__len__" = some (some (.ref f2)))
    (i2 : PySem.W.isFn K (.ref f2) = true)
    (l2 : K.lookup f2 = some ⟨oc2, od2, .func (PySem.W.fnOf "__len__" "Picture.__len__" (defArgs s_Picture___len__) (defBody s_Picture___len__) (defScope s_Picture___len__) .none kV2 dc2 pm2 an2 cd2 ct2), sl2⟩)
    (c2 : PySem.W.codeIn K cd2 "Picture.__len__" = true)
    (k2 : PySem.W.keepIn K (.ref f2) = true)
    (pa3 : PySem.W.findIn K (.ref C0) "edges" = some (some (.ref pp3)))
    (pb3 : PySem.W.specialIn K (.ref pp3) "__get__" = some (some (.builtin "property.__get__")))
    (pc3 : PySem.W.takesIn K (.ref pp3) = some true)
    (pd3 : PySem.W.recIn K pp3 "property" = some (.ref f3 :: pr3))
    (l3 : K.lookup f3 = some ⟨oc3, od3, .func (PySem.W.fnOf "edges" "Picture.edges" (defArgs s_Picture_edges) (defBody s_Picture_edges) (defScope s_Picture_edges) .none kV3 dc3 pm3 an3 cd3 ct3), sl3⟩)
    (c3 : PySem.W.codeIn K cd3 "Picture.edges" = true)
    (k3 : PySem.W.keepIn K (.ref f3) = true)
    (a4 : PySem.W.nsIn K mainGlobals "is_int" = some (some (.ref f4)))
    (l4 : K.lookup f4 = some ⟨oc4, od4, .func (PySem.W.fnOf "is_int" "is_int" (defArgs s_is_int) (defBody s_is_int) (defScope s_is_int) .none kV4 dc4 pm4 an4 cd4 ct4), sl4⟩)
    (c4 : PySem.W.codeIn K cd4 "is_int" = true)
    (k4 : PySem.W.keepIn K (.ref f4) = true)
    (a5 : PySem.W.nsIn K mainGlobals "is_point" = some (some (.ref f5)))
    (l5 : K.lookup f5 = some ⟨oc5, od5, .func (PySem.W.fnOf "is_point" "is_point" (defArgs s_is_point) (defBody s_is_point) (defScope s_is_point) .none kV5 dc5 pm5 an5 cd5 ct5), sl5⟩)
    (c5 : PySem.W.codeIn K cd5 "is_point" = true)
    (k5 : PySem.W.keepIn K (.ref f5) = true)
    (a6 : PySem.W.nsIn K mainGlobals "in_range" = some (some (.ref f6)))
    (l6 : K.lookup f6 = some ⟨oc6, od6, .func (PySem.W.fnOf "in_range" "in_range" (defArgs s_in_range) (defBody s_in_range) (defScope s_in_range) .none kV6 dc6 pm6 an6 cd6 ct6), sl6⟩)
    (c6 : PySem.W.codeIn K cd6 "in_range" = true)
    (k6 : PySem.W.keepIn K (.ref f6) = true)
    (a7 : PySem.W.nsIn K mainGlobals "is_edge" = some (some (.ref f7)))
    (l7 : K.lookup f7 = some ⟨oc7, od7, .func (PySem.W.fnOf "is_edge" "is_edge" (defArgs s_is_edge) (defBody s_is_edge) (defScope s_is_edge) .none kV7 dc7 pm7 an7 cd7 ct7), sl7⟩)
    (c7 : PySem.W.codeIn K cd7 "is_edge" = true)
    (k7 : PySem.W.keepIn K (.ref f7) = true)
    (a8 : PySem.W.findIn K (.ref C0) "__init__" = some (some (.ref f8)))
    (i8 : PySem.W.isFn K (.ref f8) = true)
    (l8 : K.lookup f8 = some ⟨oc8, od8, .func (PySem.W.fnOf "__init__" "Picture.__init__" (defArgs s_Picture___init__) (defBody s_Picture___init__) (defScope s_Picture___init__) .none kV8 dc8 pm8 an8 cd8 ct8), sl8⟩)
    (c8 : PySem.W.codeIn K cd8 "Picture.__init__" = true)
    (k8 : PySem.W.keepIn K (.ref f8) = true)
    (a9 : PySem.W.nsIn K mainGlobals "_law_same" = some (some (.ref f9)))
    (l9 : K.lookup f9 = some ⟨oc9, od9, .func (PySem.W.fnOf "_law_same" "_law_same" (defArgs s__law_same) (defBody s__law_same) (defScope s__law_same) .none kV9 dc9 pm9 an9 cd9 ct9), sl9⟩)
    (c9 : PySem.W.codeIn K cd9 "_law_same" = true)
    (k9 : PySem.W.keepIn K (.ref f9) = true)
    (a10 : PySem.W.nsIn K mainGlobals "_law_values" = some (some (.ref f10)))
    (l10 : K.lookup f10 = some ⟨oc10, od10, .func (PySem.W.fnOf "_law_values" "_law_values" (defArgs s__law_values) (defBody s__law_values) (defScope s__law_values) .none kV10 dc10 pm10 an10 cd10 ct10), sl10⟩)
    (c10 : PySem.W.codeIn K cd10 "_law_values" = true)
    (k10 : PySem.W.keepIn K (.ref f10) = true)
    (a11 : PySem.W.findIn K (.ref C0) "__eq__" = some (some (.ref f11)))
    (i11 : PySem.W.isFn K (.ref f11) = true)
    (l11 : K.lookup f11 = some ⟨oc11, od11, .func (PySem.W.fnOf "__eq__" "Picture.__eq__" (defArgs s_Picture___eq__) (defBody s_Picture___eq__) (defScope s_Picture___eq__) .none kV11 dc11 pm11 an11 cd11 ct11), sl11⟩)
    (c11 : PySem.W.codeIn K cd11 "Picture.__eq__" = true)
    (k11 : PySem.W.keepIn K (.ref f11) = true)
    (a12 : PySem.W.nsIn K mainGlobals "_law_others_right" = some (some (.ref f12)))
    (l12 : K.lookup f12 = some ⟨oc12, od12, .func (PySem.W.fnOf "_law_others_right" "_law_others_right" (defArgs s__law_others_right) (defBody s__law_others_right) (defScope s__law_others_right) .none kV12 dc12 pm12 an12 cd12 ct12), sl12⟩)
    (c12 : PySem.W.codeIn K cd12 "_law_others_right" = true)
    (k12 : PySem.W.keepIn K (.ref f12) = true)
    (a13 : PySem.W.findIn K (.ref C0) "__contains__" = some (some (.ref f13)))
    (i13 : PySem.W.isFn K (.ref f13) = true)
    (l13 : K.lookup f13 = some ⟨oc13, od13, .func (PySem.W.fnOf "__contains__" "Picture.__contains__" (defArgs s_Picture___contains__) (defBody s_Picture___contains__) (defScope s_Picture___contains__) .none kV13 dc13 pm13 an13 cd13 ct13), sl13⟩)
    (c13 : PySem.W.codeIn K cd13 "Picture.__contains__" = true)
    (k13 : PySem.W.keepIn K (.ref f13) = true)
    (a14 : PySem.W.nsIn K mainGlobals "_law_is_edge" = some (some (.ref f14)))
    (l14 : K.lookup f14 = some ⟨oc14, od14, .func (PySem.W.fnOf "_law_is_edge" "_law_is_edge" (defArgs s__law_is_edge) (defBody s__law_is_edge) (defScope s__law_is_edge) .none kV14 dc14 pm14 an14 cd14 ct14), sl14⟩)
    (c14 : PySem.W.codeIn K cd14 "_law_is_edge" = true)
    (k14 : PySem.W.keepIn K (.ref f14) = true)
    (a15 : PySem.W.nsIn K mainGlobals "_law_right" = some (some (.ref f15)))
    (l15 : K.lookup f15 = some ⟨oc15, od15, .func (PySem.W.fnOf "_law_right" "_law_right" (defArgs s__law_right) (defBody s__law_right) (defScope s__law_right) .none kV15 dc15 pm15 an15 cd15 ct15), sl15⟩)
    (c15 : PySem.W.codeIn K cd15 "_law_right" = true)
    (k15 : PySem.W.keepIn K (.ref f15) = true)
    (a16 : PySem.W.nsIn K mainGlobals "_law_sip" = some (some (.ref f16)))
    (l16 : K.lookup f16 = some ⟨oc16, od16, .func (PySem.W.fnOf "_law_sip" "_law_sip" (defArgs s__law_sip) (defBody s__law_sip) (defScope s__law_sip) .none kV16 dc16 pm16 an16 cd16 ct16), sl16⟩)
    (c16 : PySem.W.codeIn K cd16 "_law_sip" = true)
    (k16 : PySem.W.keepIn K (.ref f16) = true)
    (a17 : PySem.W.nsIn K mainGlobals "_law_number" = some (some (.ref f17)))
    (l17 : K.lookup f17 = some ⟨oc17, od17, .func (PySem.W.fnOf "_law_number" "_law_number" (defArgs s__law_number) (defBody s__law_number) (defScope s__law_number) .none kV17 dc17 pm17 an17 cd17 ct17), sl17⟩)
    (c17 : PySem.W.codeIn K cd17 "_law_number" = true)
    (k17 : PySem.W.keepIn K (.ref f17) = true)
    (a18 : PySem.W.nsIn K mainGlobals "_law_edges" = some (some (.ref f18)))
    (l18 : K.lookup f18 = some ⟨oc18, od18, .func (PySem.W.fnOf "_law_edges" "_law_edges" (defArgs s__law_edges) (defBody s__law_edges) (defScope s__law_edges) .none kV18 dc18 pm18 an18 cd18 ct18), sl18⟩)
    (c18 : PySem.W.codeIn K cd18 "_law_edges" = true)
    (k18 : PySem.W.keepIn K (.ref f18) = true)
    (a19 : PySem.W.nsIn K mainGlobals "require_point" = some (some (.ref f19)))
    (l19 : K.lookup f19 = some ⟨oc19, od19, .func (PySem.W.fnOf "require_point" "require_point" (defArgs s_require_point) (defBody s_require_point) (defScope s_require_point) .none kV19 dc19 pm19 an19 cd19 ct19), sl19⟩)
    (c19 : PySem.W.codeIn K cd19 "require_point" = true)
    (k19 : PySem.W.keepIn K (.ref f19) = true)
    (a20 : PySem.W.nsIn K mainGlobals "ends_in" = some (some (.ref f20)))
    (l20 : K.lookup f20 = some ⟨oc20, od20, .func (PySem.W.fnOf "ends_in" "ends_in" (defArgs s_ends_in) (defBody s_ends_in) (defScope s_ends_in) .none kV20 dc20 pm20 an20 cd20 ct20), sl20⟩)
    (c20 : PySem.W.codeIn K cd20 "ends_in" = true)
    (k20 : PySem.W.keepIn K (.ref f20) = true)
    (a21 : PySem.W.nsIn K mainGlobals "edge_in" = some (some (.ref f21)))
    (l21 : K.lookup f21 = some ⟨oc21, od21, .func (PySem.W.fnOf "edge_in" "edge_in" (defArgs s_edge_in) (defBody s_edge_in) (defScope s_edge_in) .none kV21 dc21 pm21 an21 cd21 ct21), sl21⟩)
    (c21 : PySem.W.codeIn K cd21 "edge_in" = true)
    (k21 : PySem.W.keepIn K (.ref f21) = true)
    (a22 : PySem.W.nsIn K mainGlobals "edge_between" = some (some (.ref f22)))
    (l22 : K.lookup f22 = some ⟨oc22, od22, .func (PySem.W.fnOf "edge_between" "edge_between" (defArgs s_edge_between) (defBody s_edge_between) (defScope s_edge_between) .none kV22 dc22 pm22 an22 cd22 ct22), sl22⟩)
    (c22 : PySem.W.codeIn K cd22 "edge_between" = true)
    (k22 : PySem.W.keepIn K (.ref f22) = true)
    (a23 : PySem.W.nsIn K mainGlobals "_law_between" = some (some (.ref f23)))
    (l23 : K.lookup f23 = some ⟨oc23, od23, .func (PySem.W.fnOf "_law_between" "_law_between" (defArgs s__law_between) (defBody s__law_between) (defScope s__law_between) .none kV23 dc23 pm23 an23 cd23 ct23), sl23⟩)
    (c23 : PySem.W.codeIn K cd23 "_law_between" = true)
    (k23 : PySem.W.keepIn K (.ref f23) = true)
    (a24 : PySem.W.nsIn K mainGlobals "law" = some (some (.ref f24)))
    (l24 : K.lookup f24 = some ⟨oc24, od24, .func (PySem.W.fnOf "law" "law" (defArgs s_law) (defBody s_law) (defScope s_law) .none kV24 dc24 pm24 an24 cd24 ct24), sl24⟩)
    (c24 : PySem.W.codeIn K cd24 "law" = true)
    (k24 : PySem.W.keepIn K (.ref f24) = true)
    (z_abs : PySem.W.nsIn K mainGlobals "abs" = some none)
    (z_all : PySem.W.nsIn K mainGlobals "all" = some none)
    (z_bool : PySem.W.nsIn K mainGlobals "bool" = some none)
    (z_int : PySem.W.nsIn K mainGlobals "int" = some none)
    (z_isinstance : PySem.W.nsIn K mainGlobals "isinstance" = some none)
    (z_len : PySem.W.nsIn K mainGlobals "len" = some none)
    (z_list : PySem.W.nsIn K mainGlobals "list" = some none)
    (z_max : PySem.W.nsIn K mainGlobals "max" = some none)
    (z_min : PySem.W.nsIn K mainGlobals "min" = some none)
    (z_range : PySem.W.nsIn K mainGlobals "range" = some none)
    (z_repr : PySem.W.nsIn K mainGlobals "repr" = some none)
    (z_set : PySem.W.nsIn K mainGlobals "set" = some none)
    (z_sorted : PySem.W.nsIn K mainGlobals "sorted" = some none)
    (z_tuple : PySem.W.nsIn K mainGlobals "tuple" = some none)
    (pg_Picture : PySem.W.plainGet K C0 Str.empty = true)
    (hd_Picture : PySem.W.hasDictIn K C0 = true)
    (po_Picture : PySem.W.plainOver K C0 = true)
    (sa_Picture : PySem.W.findIn K (.ref C0) "__setattr__" = some (some (.builtin "object.__setattr__")))
    (ha_Picture : PySem.W.findIn K (.ref C0) "__class__" = some (some (.builtin "object.__class__")))
    (hn_Picture : PySem.W.specialIn K (.builtin "object.__class__") "__get__" = some (some (.builtin "getset_descriptor.__get__")))
    (ht_Picture : PySem.W.takesIn K (.builtin "object.__class__") = some true)
    (hm_Picture : PySem.W.mroIn K C0 (.type "object") = some true)
    (mk_Picture : PySem.W.makesIn K C0 = true)
    (kc_Picture : PySem.W.keepIn K (.ref C0) = true)
    (n_Picture_known_edges : PySem.W.findIn K (.ref C0) "known_edges" = some none)
    (n_Picture_sorted_edges : PySem.W.findIn K (.ref C0) "sorted_edges" = some none)
    (ic_Picture : PySem.W.isClsIn K C0 = true)
    (tc_Picture : PySem.W.typeIn K (.ref C0) = some (.type "type"))
    (is_Picture_NoneType : PySem.W.subIn K (.type "NoneType") (.ref C0) = some false)
    (is_Picture_bool : PySem.W.subIn K (.type "bool") (.ref C0) = some false)
    (is_Picture_int : PySem.W.subIn K (.type "int") (.ref C0) = some false)
    (is_Picture_str : PySem.W.subIn K (.type "str") (.ref C0) = some false)
    (is_Picture_tuple : PySem.W.subIn K (.type "tuple") (.ref C0) = some false)
    (is_Picture_list : PySem.W.subIn K (.type "list") (.ref C0) = some false)
    (is_Picture_dict : PySem.W.subIn K (.type "dict") (.ref C0) = some false)
    (it_Picture_Picture : PySem.W.subIn K (.ref C0) (.ref C0) = some true)
    (ne_Picture : PySem.W.findIn K (.ref C0) "__ne__" = some (some (.builtin "object.__ne__")))
    (ob_Picture : PySem.W.subIn K (.ref C0) (.type "object") = some true)
    (nf_Picture_NoneType : PySem.W.notFirst K C0 (.type "NoneType") = true)
    (nf_Picture_bool : PySem.W.notFirst K C0 (.type "bool") = true)
    (nf_Picture_int : PySem.W.notFirst K C0 (.type "int") = true)
    (nf_Picture_str : PySem.W.notFirst K C0 (.type "str") = true)
    (nf_Picture_tuple : PySem.W.notFirst K C0 (.type "tuple") = true)
    (nf_Picture_list : PySem.W.notFirst K C0 (.type "list") = true)
    (nf_Picture_dict : PySem.W.notFirst K C0 (.type "dict") = true)
    (ng_Picture_Picture : PySem.W.notFirst K C0 (.ref C0) = true) :
    ∃ fd : FuncData, (∀ (s : Shared) (v : Value), BindsTo s fd ⟨[v], []⟩ [("script", v)]) ∧ ∀ base : Heap, K.In base → base.Ns mainGlobals mg → ∃ cs : Nat → Addr, CsOk cs ∧ FnG l.prog w K mg base (L2.CX l.prog w) 21 fa fd ["script"] (spD K 1 (m_law cs)) := by
  have e := hfa.symm.trans (PySem.W.mg_of X G a24)
  cases e
  have F1 := fun_mk (st := s__law_fount) l1 c1 k1
  have b1 := F1.binds (ps := ["script", "k"]) fun _ _ _ _ _ _ us hl => ul2 hl fun _ _ => rfl
  have F2 := fun_mk (st := s_Picture___len__) l2 c2 k2
  have b2 := F2.binds (ps := ["self"]) fun _ _ _ _ _ _ us hl => ul1 hl fun _ => rfl
  have F3 := fun_mk (st := s_Picture_edges) l3 c3 k3
  have b3 := F3.binds (ps := ["self"]) fun _ _ _ _ _ _ us hl => ul1 hl fun _ => rfl
  have F4 := fun_mk (st := s_is_int) l4 c4 k4
  have b4 := F4.binds (ps := ["value"]) fun _ _ _ _ _ _ us hl => ul1 hl fun _ => rfl
  have F5 := fun_mk (st := s_is_point) l5 c5 k5
  have b5 := F5.binds (ps := ["value"]) fun _ _ _ _ _ _ us hl => ul1 hl fun _ => rfl
  have F6 := fun_mk (st := s_in_range) l6 c6 k6
  have b6 := F6.binds (ps := ["value", "low", "high"]) fun _ _ _ _ _ _ us hl => ul3 hl fun _ _ _ => rfl
  have F7 := fun_mk (st := s_is_edge) l7 c7 k7
  have b7 := F7.binds (ps := ["value"]) fun _ _ _ _ _ _ us hl => ul1 hl fun _ => rfl
  have F8 := fun_mk (st := s_Picture___init__) l8 c8 k8
  have b8 := F8.binds (ps := ["self", "edges"]) fun _ _ _ _ _ _ us hl => ul2 hl fun _ _ => rfl
  have F9 := fun_mk (st := s__law_same) l9 c9 k9
  have b9 := F9.binds (ps := ["found", "due"]) fun _ _ _ _ _ _ us hl => ul2 hl fun _ _ => rfl
  have F10 := fun_mk (st := s__law_values) l10 c10 k10
  have b10 := F10.binds (ps := ["edges"]) fun _ _ _ _ _ _ us hl => ul1 hl fun _ => rfl
  have F11 := fun_mk (st := s_Picture___eq__) l11 c11 k11
  have b11 := F11.binds (ps := ["self", "other"]) fun _ _ _ _ _ _ us hl => ul2 hl fun _ _ => rfl
  have F12 := fun_mk (st := s__law_others_right) l12 c12 k12
  have b12 := F12.binds (ps := ["picture_here", "edges"]) fun _ _ _ _ _ _ us hl => ul2 hl fun _ _ => rfl
  have F13 := fun_mk (st := s_Picture___contains__) l13 c13 k13
  have b13 := F13.binds (ps := ["self", "value"]) fun _ _ _ _ _ _ us hl => ul2 hl fun _ _ => rfl
  have F14 := fun_mk (st := s__law_is_edge) l14 c14 k14
  have b14 := F14.binds (ps := ["value"]) fun _ _ _ _ _ _ us hl => ul1 hl fun _ => rfl
  have F15 := fun_mk (st := s__law_right) l15 c15 k15
  have b15 := F15.binds (ps := ["fount", "edges"]) fun _ _ _ _ _ _ us hl => ul2 hl fun _ _ => rfl
  have F16 := fun_mk (st := s__law_sip) l16 c16 k16
  have b16 := F16.binds (ps := ["fount", "many"]) fun _ _ _ _ _ _ us hl => ul2 hl fun _ _ => rfl
  have F17 := fun_mk (st := s__law_number) l17 c17 k17
  have b17 := F17.binds (ps := ["fount"]) fun _ _ _ _ _ _ us hl => ul1 hl fun _ => rfl
  have F18 := fun_mk (st := s__law_edges) l18 c18 k18
  have b18 := F18.binds (ps := ["fount", "many"]) fun _ _ _ _ _ _ us hl => ul2 hl fun _ _ => rfl
  have F19 := fun_mk (st := s_require_point) l19 c19 k19
  have b19 := F19.binds (ps := ["value"]) fun _ _ _ _ _ _ us hl => ul1 hl fun _ => rfl
  have F20 := fun_mk (st := s_ends_in) l20 c20 k20
  have b20 := F20.binds (ps := ["edge"]) fun _ _ _ _ _ _ us hl => ul1 hl fun _ => rfl
  have F21 := fun_mk (st := s_edge_in) l21 c21 k21
  have b21 := F21.binds (ps := ["point", "other"]) fun _ _ _ _ _ _ us hl => ul2 hl fun _ _ => rfl
  have F22 := fun_mk (st := s_edge_between) l22 c22 k22
  have b22 := F22.binds (ps := ["point", "other_point"]) fun _ _ _ _ _ _ us hl => ul2 hl fun _ _ => rfl
  have F23 := fun_mk (st := s__law_between) l23 c23 k23
  have b23 := F23.binds (ps := ["one", "two"]) fun _ _ _ _ _ _ us hl => ul2 hl fun _ _ => rfl
  have F24 := fun_mk (st := s_law) l24 c24 k24
  have b24 := F24.binds (ps := ["script"]) fun _ _ _ _ _ _ us hl => ul1 hl fun _ => rfl
  have T : Tx K mg (fun i => ([f1, f2, f3, f4, f5, f6, f7, f8, f9, f10, f11, f12, f13, f14, f15, f16, f17, f18, f19, f20, f21, f22, f23, fa] : List Addr).getD i 0) (fun i => ([PySem.W.fnOf "_law_fount" "_law_fount" (defArgs s__law_fount) (defBody s__law_fount) (defScope s__law_fount) .none kV1 dc1 pm1 an1 cd1 ct1, PySem.W.fnOf "__len__" "Picture.__len__" (defArgs s_Picture___len__) (defBody s_Picture___len__) (defScope s_Picture___len__) .none kV2 dc2 pm2 an2 cd2 ct2, PySem.W.fnOf "edges" "Picture.edges" (defArgs s_Picture_edges) (defBody s_Picture_edges) (defScope s_Picture_edges) .none kV3 dc3 pm3 an3 cd3 ct3, PySem.W.fnOf "is_int" "is_int" (defArgs s_is_int) (defBody s_is_int) (defScope s_is_int) .none kV4 dc4 pm4 an4 cd4 ct4, PySem.W.fnOf "is_point" "is_point" (defArgs s_is_point) (defBody s_is_point) (defScope s_is_point) .none kV5 dc5 pm5 an5 cd5 ct5, PySem.W.fnOf "in_range" "in_range" (defArgs s_in_range) (defBody s_in_range) (defScope s_in_range) .none kV6 dc6 pm6 an6 cd6 ct6, PySem.W.fnOf "is_edge" "is_edge" (defArgs s_is_edge) (defBody s_is_edge) (defScope s_is_edge) .none kV7 dc7 pm7 an7 cd7 ct7, PySem.W.fnOf "__init__" "Picture.__init__" (defArgs s_Picture___init__) (defBody s_Picture___init__) (defScope s_Picture___init__) .none kV8 dc8 pm8 an8 cd8 ct8, PySem.W.fnOf "_law_same" "_law_same" (defArgs s__law_same) (defBody s__law_same) (defScope s__law_same) .none kV9 dc9 pm9 an9 cd9 ct9, PySem.W.fnOf "_law_values" "_law_values" (defArgs s__law_values) (defBody s__law_values) (defScope s__law_values) .none kV10 dc10 pm10 an10 cd10 ct10, PySem.W.fnOf "__eq__" "Picture.__eq__" (defArgs s_Picture___eq__) (defBody s_Picture___eq__) (defScope s_Picture___eq__) .none kV11 dc11 pm11 an11 cd11 ct11, PySem.W.fnOf "_law_others_right" "_law_others_right" (defArgs s__law_others_right) (defBody s__law_others_right) (defScope s__law_others_right) .none kV12 dc12 pm12 an12 cd12 ct12, PySem.W.fnOf "__contains__" "Picture.__contains__" (defArgs s_Picture___contains__) (defBody s_Picture___contains__) (defScope s_Picture___contains__) .none kV13 dc13 pm13 an13 cd13 ct13, PySem.W.fnOf "_law_is_edge" "_law_is_edge" (defArgs s__law_is_edge) (defBody s__law_is_edge) (defScope s__law_is_edge) .none kV14 dc14 pm14 an14 cd14 ct14, PySem.W.fnOf "_law_right" "_law_right" (defArgs s__law_right) (defBody s__law_right) (defScope s__law_right) .none kV15 dc15 pm15 an15 cd15 ct15, PySem.W.fnOf "_law_sip" "_law_sip" (defArgs s__law_sip) (defBody s__law_sip) (defScope s__law_sip) .none kV16 dc16 pm16 an16 cd16 ct16, PySem.W.fnOf "_law_number" "_law_number" (defArgs s__law_number) (defBody s__law_number) (defScope s__law_number) .none kV17 dc17 pm17 an17 cd17 ct17, PySem.W.fnOf "_law_edges" "_law_edges" (defArgs s__law_edges) (defBody s__law_edges) (defScope s__law_edges) .none kV18 dc18 pm18 an18 cd18 ct18, PySem.W.fnOf "require_point" "require_point" (defArgs s_require_point) (defBody s_require_point) (defScope s_require_point) .none kV19 dc19 pm19 an19 cd19 ct19, PySem.W.fnOf "ends_in" "ends_in" (defArgs s_ends_in) (defBody s_ends_in) (defScope s_ends_in) .none kV20 dc20 pm20 an20 cd20 ct20, PySem.W.fnOf "edge_in" "edge_in" (defArgs s_edge_in) (defBody s_edge_in) (defScope s_edge_in) .none kV21 dc21 pm21 an21 cd21 ct21, PySem.W.fnOf "edge_between" "edge_between" (defArgs s_edge_between) (defBody s_edge_between) (defScope s_edge_between) .none kV22 dc22 pm22 an22 cd22 ct22, PySem.W.fnOf "_law_between" "_law_between" (defArgs s__law_between) (defBody s__law_between) (defScope s__law_between) .none kV23 dc23 pm23 an23 cd23 ct23, PySem.W.fnOf "law" "law" (defArgs s_law) (defBody s_law) (defScope s_law) .none kV24 dc24 pm24 an24 cd24 ct24] : List FuncData).getD i (PySem.W.fnOf "_law_fount" "_law_fount" (defArgs s__law_fount) (defBody s__law_fount) (defScope s__law_fount) .none kV1 dc1 pm1 an1 cd1 ct1)) (fun i => ([C0] : List Addr).getD i 0) := by
    constructor
    · exact ⟨F1, PySem.W.mg_of X G a1, b1⟩
    · exact ⟨F2, b2⟩
    · exact ⟨F3, b3⟩
    · exact ⟨F4, PySem.W.mg_of X G a4, b4⟩
    · exact ⟨F5, PySem.W.mg_of X G a5, b5⟩
    · exact ⟨F6, PySem.W.mg_of X G a6, b6⟩
    · exact ⟨F7, PySem.W.mg_of X G a7, b7⟩
    · exact ⟨F8, b8⟩
    · exact ⟨F9, PySem.W.mg_of X G a9, b9⟩
    · exact ⟨F10, PySem.W.mg_of X G a10, b10⟩
    · exact ⟨F11, b11⟩
    · exact ⟨F12, PySem.W.mg_of X G a12, b12⟩
    · exact ⟨F13, b13⟩
    · exact ⟨F14, PySem.W.mg_of X G a14, b14⟩
    · exact ⟨F15, PySem.W.mg_of X G a15, b15⟩
    · exact ⟨F16, PySem.W.mg_of X G a16, b16⟩
    · exact ⟨F17, PySem.W.mg_of X G a17, b17⟩
    · exact ⟨F18, PySem.W.mg_of X G a18, b18⟩
    · exact ⟨F19, PySem.W.mg_of X G a19, b19⟩
    · exact ⟨F20, PySem.W.mg_of X G a20, b20⟩
    · exact ⟨F21, PySem.W.mg_of X G a21, b21⟩
    · exact ⟨F22, PySem.W.mg_of X G a22, b22⟩
    · exact ⟨F23, PySem.W.mg_of X G a23, b23⟩
    · exact ⟨F24, PySem.W.mg_of X G a24, b24⟩
    · exact PySem.W.mg_none_of X G z_abs
    · exact PySem.W.mg_none_of X G z_all
    · exact PySem.W.mg_none_of X G z_bool
    · exact PySem.W.mg_none_of X G z_int
    · exact PySem.W.mg_none_of X G z_isinstance
    · exact PySem.W.mg_none_of X G z_len
    · exact PySem.W.mg_none_of X G z_list
    · exact PySem.W.mg_none_of X G z_max
    · exact PySem.W.mg_none_of X G z_min
    · exact PySem.W.mg_none_of X G z_range
    · exact PySem.W.mg_none_of X G z_repr
    · exact PySem.W.mg_none_of X G z_set
    · exact PySem.W.mg_none_of X G z_sorted
    · exact PySem.W.mg_none_of X G z_tuple
    · exact PySem.W.mg_of X G g_Picture
    · exact ⟨⟨pg_Picture, hd_Picture, po_Picture, sa_Picture⟩, ha_Picture, hn_Picture, ht_Picture, hm_Picture⟩
    · exact ⟨mk_Picture, a8, i8, kc_Picture⟩
    · exact n_Picture_known_edges
    · exact n_Picture_sorted_edges
    · exact a2
    · exact i2
    · exact ⟨_, pa3, pb3, pc3, _, pd3⟩
    · exact a8
    · exact i8
    · exact a11
    · exact i11
    · exact a13
    · exact i13
    · exact ⟨fun n hn => by simp only [bltTys, List.mem_cons, List.not_mem_nil, or_false] at hn; rcases hn with rfl | rfl | rfl | rfl | rfl | rfl | rfl; exact kit_sub ic_Picture tc_Picture is_Picture_NoneType; exact kit_sub ic_Picture tc_Picture is_Picture_bool; exact kit_sub ic_Picture tc_Picture is_Picture_int; exact kit_sub ic_Picture tc_Picture is_Picture_str; exact kit_sub ic_Picture tc_Picture is_Picture_tuple; exact kit_sub ic_Picture tc_Picture is_Picture_list; exact kit_sub ic_Picture tc_Picture is_Picture_dict, fun D hD => by simp only [okC, Bool.or_eq_true, beq_iff_eq, or_assoc] at hD; rcases hD with hD <;> rw [hD]; exact (kit_self.trans (show some true = some (C0 == C0) by rw [beq_self_eq_true]))⟩
    · exact ⟨a11, i11, ne_Picture, ob_Picture, fun n hn => by simp only [bltTys, List.mem_cons, List.not_mem_nil, or_false] at hn; rcases hn with rfl | rfl | rfl | rfl | rfl | rfl | rfl; exact nf_Picture_NoneType; exact nf_Picture_bool; exact nf_Picture_int; exact nf_Picture_str; exact nf_Picture_tuple; exact nf_Picture_list; exact nf_Picture_dict, fun D hD => by simp only [okC, Bool.or_eq_true, beq_iff_eq, or_assoc] at hD; rcases hD with hD <;> rw [hD]; exact ng_Picture_Picture⟩
  exact ⟨PySem.W.fnOf "law" "law" (defArgs s_law) (defBody s_law) (defScope s_law) .none kV24 dc24 pm24 an24 cd24 ct24, fun s v => .of_eq rfl, fun base _ _ => ⟨fun i => ([C0] : List Addr).getD i 0, True.intro, k_law_ (P := l.prog) (w := w) (base := base) T⟩⟩
theorem log2_lt {n k : Nat} (h : n < 2 ^ k) : n.log2 < k + 1 := by
  by_cases e : n = 0
  · subst e; rw [Nat.log2_zero]; omega
  · have := (Nat.log2_lt e).mpr h; omega
theorem mul_ok {i j : Int} {a b : Nat} (hi : i.natAbs < 2 ^ a) (hj : j.natAbs < 2 ^ b) (h : a + b + 1 < 1000000) : dMul (.int i) (.int j) = some (.int (i * j)) := by
  have h1 := log2_lt hi
  have h2 := log2_lt hj
  show (if i.natAbs.log2 + j.natAbs.log2 < 1000000 then some (D.int (i * j)) else none) = _
  rw [if_pos (by omega)]
theorem bits_lt {i : Int} {a : Nat} (hi : i.natAbs < 2 ^ a) : Builtin.Int.intBits i ≤ a + 1 := by
  unfold Builtin.Int.intBits
  have h1 := log2_lt hi
  by_cases e : (i == 0) = true
  · rw [if_pos e]; omega
  · rw [if_neg e]; omega
theorem pow_ok {i : Int} {k a : Nat} (hi : i.natAbs < 2 ^ a) (h : (a + 1) * k ≤ 134217728) : dPow (.int i) (.int k) = some (.int (i ^ k)) := by
  have h1 := bits_lt hi
  have h2 : Builtin.Int.intBits i * k ≤ (a + 1) * k := Nat.mul_le_mul_right k h1
  show (if (0 : Int) ≤ (k : Int) ∧ (Builtin.Int.intBits i : Int) * (k : Int) ≤ 134217728 then some (D.int (i ^ (k : Int).toNat)) else none) = _
  rw [if_pos ⟨Int.natCast_nonneg k, by rw [← Int.natCast_mul]; omega⟩]
  rfl
theorem div_ok {i j : Int} {a : Nat} (hj : j.natAbs < 2 ^ a) (h0 : j ≠ 0) (h : a < 8999) : dDiv (.int i) (.int j) = some (.int (i.fdiv j)) := by
  have h1 := log2_lt hj
  show (if j ≠ 0 ∧ j.natAbs.log2 < 9000 then some (D.int (i.fdiv j)) else none) = _
  rw [if_pos ⟨h0, by omega⟩]
theorem mod_ok {i j : Int} (h0 : j ≠ 0) : dMod (.int i) (.int j) = some (.int (i.fmod j)) := by
  show (if j ≠ 0 then some (D.int (i.fmod j)) else none) = _
  rw [if_pos h0]
/-- a tank after at most n turns of its wheel -/
noncomputable def Tk (n : Nat) (t : OT) : Prop := ∃ (a b c : Int), t = .ol [.fz (.int a), .fz (.int b), .fz (.int c)] ∧ b.natAbs < 2 ^ 200 ∧ 0 ≤ c ∧ c ≤ n
theorem p10 {k : Nat} {m : Int} (h : (10 : Int) ^ k = m) (hk : 5 * k ≤ 134217728 := by decide) : dPow (.int 10) (.int k) = some (.int m) := by
  rw [pow_ok (a := 4) (by decide) (by omega), h]
theorem tank_ok (cs : Nat → Addr) (ns : List Int) (k : Nat) (hk : k < 1000) : ∃ t, Tk 0 t ∧ m__law_fount cs [.fz (.scr ns), .fz (.int k)] = .ok t ⟨[], [.fz (.scr ns), .fz (.int k)]⟩ := by
  have e18 : dPow (.int 10) (.int 18) = some (.int 1000000000000000000) := p10 (k := 18) (by decide)
  have e38 : dPow (.int 10) (.int 38) = some (.int 100000000000000000000000000000000000000) := p10 (k := 38) (by decide)
  obtain ⟨cell, hc⟩ : ∃ cell : Int, (if (k : Int) < (ns.length : Int) then ns[k]? else some 0) = some cell := by
    by_cases h : k < ns.length
    · exact ⟨ns[k], by rw [if_pos (by omega)]; simp [h]⟩
    · exact ⟨0, by rw [if_neg (by omega)]⟩
  have hmm := Int.emod_nonneg cell (show (100000000000000000000000000000000000133 : Int) ≠ 0 by decide)
  have hmn := Int.emod_lt_of_pos cell (show (0 : Int) < 100000000000000000000000000000000000133 by decide)
  have b200 : (2 : Nat) ^ 200 = 1606938044258990275541962092341162602522202993782792835301376 := by decide
  have em : dMul (.int (cell % 100000000000000000000000000000000000133)) (.int 256) = some (.int (cell % 100000000000000000000000000000000000133 * 256)) := mul_ok (a := 200) (b := 10) (by omega) (by decide) (by decide)
  refine ⟨.ol [.fz (.int (max 0 (cell - 1000000000000000000))), .fz (.int (cell % 100000000000000000000000000000000000133 * 256 + k)), .fz (.int 0)], ⟨_, _, _, rfl, ?_, by omega, by omega⟩, ?_⟩
  · omega
  · by_cases h : (k : Int) < (ns.length : Int)
    · rw [if_pos h] at hc
      have hk' : k < ns.length := by omega
      have hf : cell.fmod 100000000000000000000000000000000000133 = cell % 100000000000000000000000000000000000133 := Int.fmod_eq_emod_of_nonneg _ (by decide)
      have hg : ns[k] = cell := by simpa [hk'] using hc
      simp [m__law_fount_1, m__law_fount_2, m__law_fount_3, m__law_fount_4, m__law_fount, -List.map_map, -List.map_take, -List.map_drop, -List.map_append, -List.map_reverse, asDef, entry, slotsOf, sSeq, sSet, sRet, sIf, sDrop, sNil, sBreak, sCont, sApp, sSetAt, setEnd, sAug, sAsg, sPar, mVar, mSee, mFrz, mTake, mC, mUn, mOp, mNil, mCons, mCall, mCallL, mTup, mLst, mView, mOwn, mFz, mTest, mAnd, mOr, mNot, mIf, mAndV, mOrV, mNotV, mChain, mAt, qSee, qFz, qNew, oNone, oSome, rNil, rSlot, rFz, mCall0, mCall1, oneSlot, noSlot, treesOf, SD.tree, SD.put, SD.putFz, tgN, tgNil, tgCons, tgT, ER.bind, ER.opt, ER.stm, Fl.seq, OT.view, OT.views, OT.items, fzOf, iLst, iTuP, iRange1, iRange2, iZip2, iEnumL, dIx, atI, ixN, dAdd, dSub, dNeg, dLt, dLe, dGt, dGe, dIsN, dNotN, isNonD, dEq, dNe, eqB_int, eqB_str, eqB_bl, eq_2, eq_3, dLen, dIsi, D.isA, tyName, dMod, dMax, dMin, mAtS, mBm, D.isL, D.isS, e18, e38, em, h, hk', hg, hf]
    · rw [if_neg h] at hc
      cases hc
      have em0 : dMul (.int 0) (.int 256) = some (.int 0) := mul_ok (i := 0) (j := 256) (a := 10) (b := 10) (by decide) (by decide) (by decide)
      simp [m__law_fount_1, m__law_fount_2, m__law_fount_3, m__law_fount_4, m__law_fount, -List.map_map, -List.map_take, -List.map_drop, -List.map_append, -List.map_reverse, asDef, entry, slotsOf, sSeq, sSet, sRet, sIf, sDrop, sNil, sBreak, sCont, sApp, sSetAt, setEnd, sAug, sAsg, sPar, mVar, mSee, mFrz, mTake, mC, mUn, mOp, mNil, mCons, mCall, mCallL, mTup, mLst, mView, mOwn, mFz, mTest, mAnd, mOr, mNot, mIf, mAndV, mOrV, mNotV, mChain, mAt, qSee, qFz, qNew, oNone, oSome, rNil, rSlot, rFz, mCall0, mCall1, oneSlot, noSlot, treesOf, SD.tree, SD.put, SD.putFz, tgN, tgNil, tgCons, tgT, ER.bind, ER.opt, ER.stm, Fl.seq, OT.view, OT.views, OT.items, fzOf, iLst, iTuP, iRange1, iRange2, iZip2, iEnumL, dIx, atI, ixN, dAdd, dSub, dNeg, dLt, dLe, dGt, dGe, dIsN, dNotN, isNonD, dEq, dNe, eqB_int, eqB_str, eqB_bl, eq_2, eq_3, dLen, dIsi, D.isA, tyName, dMod, dMax, dMin, mAtS, mBm, D.isL, D.isS, e18, e38, em0, h]
      try decide
theorem sip_ok (cs : Nat → Addr) {n : Nat} {t : OT} {m : Int} (h : Tk n t) (hn : n < 2 ^ 64) (h1 : 0 < m) (h2 : m.natAbs < 2 ^ 8000) : ∃ (v : Int) (t' : OT), 0 ≤ v ∧ v < m ∧ Tk (n + 1) t' ∧ m__law_sip cs [t, .fz (.int m)] = .ok (.fz (.int v)) ⟨[], [t', .fz (.int m)]⟩ := by
  obtain ⟨a, b, c, rfl, hb, hc, hc2⟩ := h
  have hm0 : ¬ m = 0 := by omega
  by_cases ha : 0 < a
  · refine ⟨a.fmod m, .ol [.fz (.int (a.fdiv m)), .fz (.int b), .fz (.int c)], Int.fmod_nonneg_of_pos _ h1, Int.fmod_lt_of_pos _ h1, ⟨_, _, _, rfl, hb, hc, by omega⟩, ?_⟩
    have e1 := div_ok (i := a) h2 hm0 (by decide)
    simp [m__law_sip_1, m__law_sip_2, m__law_sip_3, m__law_sip_4, m__law_sip_5, m__law_sip_6, m__law_sip_7, m__law_sip_8, m__law_sip, -List.map_map, -List.map_take, -List.map_drop, -List.map_append, -List.map_reverse, asDef, entry, slotsOf, sSeq, sSet, sRet, sIf, sDrop, sNil, sBreak, sCont, sApp, sSetAt, setEnd, sAug, sAsg, sPar, mVar, mSee, mFrz, mTake, mC, mUn, mOp, mNil, mCons, mCall, mCallL, mTup, mLst, mView, mOwn, mFz, mTest, mAnd, mOr, mNot, mIf, mAndV, mOrV, mNotV, mChain, mAt, qSee, qFz, qNew, oNone, oSome, rNil, rSlot, rFz, mCall0, mCall1, oneSlot, noSlot, treesOf, SD.tree, SD.put, SD.putFz, tgN, tgNil, tgCons, tgT, ER.bind, ER.opt, ER.stm, Fl.seq, OT.view, OT.views, OT.items, fzOf, iLst, iTuP, iRange1, iRange2, iZip2, iEnumL, dIx, atI, ixN, dAdd, dSub, dNeg, dLt, dLe, dGt, dGe, dIsN, dNotN, isNonD, dEq, dNe, eqB_int, eqB_str, eqB_bl, eq_2, eq_3, dLen, dIsi, D.isA, tyName, dMod, dMax, dMin, mAtS, mBm, D.isL, D.isS, ha, hm0, e1]
  · have e43 : dPow (.int 10) (.int 43) = some (.int 10000000000000000000000000000000000000000000) := p10 (k := 43) (by decide)
    have e41 : dPow (.int 10) (.int 41) = some (.int 100000000000000000000000000000000000000000) := p10 (k := 41) (by decide)
    have b200 : (2 : Nat) ^ 200 = 1606938044258990275541962092341162602522202993782792835301376 := by decide
    have b201 : (2 : Nat) ^ 201 = 3213876088517980551083924184682325205044405987565585670602752 := by decide
    have m1 : dMul (.int 122949823) (.int (c + 1)) = some (.int (122949823 * (c + 1))) := mul_ok (a := 100) (b := 100) (by decide) (by omega) (by decide)
    have m2 : dMul (.int 67867979) (.int (c + 1)) = some (.int (67867979 * (c + 1))) := mul_ok (a := 100) (b := 100) (by decide) (by omega) (by decide)
    have q1 : dPow (.int (b + 122949823 * (c + 1))) (.int 3) = some (.int ((b + 122949823 * (c + 1)) ^ 3)) := pow_ok (a := 201) (k := 3) (by omega) (by decide)
    obtain ⟨x, hx⟩ : ∃ x, x = ((b + 122949823 * (c + 1)) ^ 3).fmod 10000000000000000000000000000000000000000057 := ⟨_, rfl⟩
    have x0 : 0 ≤ x := by rw [hx]; exact Int.fmod_nonneg_of_pos _ (by decide)
    have x1 : x < 10000000000000000000000000000000000000000057 := by rw [hx]; exact Int.fmod_lt_of_pos _ (by decide)
    have q2 : dPow (.int (x + 67867979 * (c + 1))) (.int 3) = some (.int ((x + 67867979 * (c + 1)) ^ 3)) := pow_ok (a := 201) (k := 3) (by omega) (by decide)
    have d1 : ∀ z : Int, dDiv (.int z) (.int 131071) = some (.int (z.fdiv 131071)) := fun z => div_ok (a := 30) (by decide) (by decide) (by decide)
    refine ⟨((((x + 67867979 * (c + 1)) ^ 3).fmod 100000000000000000000000000000000000000109).fdiv 131071).fmod m, .ol [.fz (.int a), .fz (.int b), .fz (.int (c + 1))], Int.fmod_nonneg_of_pos _ h1, Int.fmod_lt_of_pos _ h1, ⟨_, _, _, rfl, hb, by omega, by omega⟩, ?_⟩
    simp [m__law_sip_1, m__law_sip_2, m__law_sip_3, m__law_sip_4, m__law_sip_5, m__law_sip_6, m__law_sip_7, m__law_sip_8, m__law_sip, -List.map_map, -List.map_take, -List.map_drop, -List.map_append, -List.map_reverse, asDef, entry, slotsOf, sSeq, sSet, sRet, sIf, sDrop, sNil, sBreak, sCont, sApp, sSetAt, setEnd, sAug, sAsg, sPar, mVar, mSee, mFrz, mTake, mC, mUn, mOp, mNil, mCons, mCall, mCallL, mTup, mLst, mView, mOwn, mFz, mTest, mAnd, mOr, mNot, mIf, mAndV, mOrV, mNotV, mChain, mAt, qSee, qFz, qNew, oNone, oSome, rNil, rSlot, rFz, mCall0, mCall1, oneSlot, noSlot, treesOf, SD.tree, SD.put, SD.putFz, tgN, tgNil, tgCons, tgT, ER.bind, ER.opt, ER.stm, Fl.seq, OT.view, OT.views, OT.items, fzOf, iLst, iTuP, iRange1, iRange2, iZip2, iEnumL, dIx, atI, ixN, dAdd, dSub, dNeg, dLt, dLe, dGt, dGe, dIsN, dNotN, isNonD, dEq, dNe, eqB_int, eqB_str, eqB_bl, eq_2, eq_3, dLen, dIsi, D.isA, tyName, dMod, dMax, dMin, mAtS, mBm, D.isL, D.isS, ha, hm0, e43, e41, m1, m2, q1, ← hx, q2, d1]
theorem tups_of : ∀ {ks : List (List Int)}, (∀ k ∈ ks, k ≠ []) → tupsOf (ks.map tupD) = some ks
  | [], _ => rfl
  | k :: r, h => by
    rw [List.map_cons]
    show (intsOf (k.map D.int)).bind (fun ns => if ns = [] then none else (tupsOf (r.map tupD)).map (ns :: ·)) = _
    rw [intsOf_map, tups_of fun k hk => h k (List.mem_cons_of_mem _ hk)]
    show (if k = [] then none else some (k :: r)) = _
    rw [if_neg (h k List.mem_cons_self)]
theorem sort_nil : sortT [] = [] := List.Perm.eq_nil (sortT_perm [])
theorem sort_D {ks : List (List Int)} (h : ∀ k ∈ ks, k ≠ []) : dSortT [.lst (ks.map tupD)] = some ((sortT ks).map tupD) := by
  have z := tups_of h
  cases ks with
  | nil =>
    rw [sort_nil]
    show some ((sortI []).map D.int) = _
    rw [show sortI [] = [] by simp [sortI]]
    rfl
  | cons k r =>
    show (tupsOf ((k :: r).map tupD)).map (fun ps => (sortT ps).map tupD) = _
    rw [z]
    rfl
theorem tup_is (k : List Int) : tupIs (tupD k) = some k := intsOf_map k
theorem tup_py (k : List Int) : (tupD k).py = some (.tuple (k.map PyData.int)) := tI_py k
theorem pys_tups : ∀ ks : List (List Int), D.pys (ks.map tupD) = some (ks.map fun k => .tuple (k.map PyData.int))
  | [] => rfl
  | k :: r => by rw [List.map_cons, D.pys, pys_tups r, tup_py]; rfl
theorem lays_tups : ∀ ks : List (List Int), PyData.canLayAll0 (ks.map fun k => .tuple (k.map PyData.int)) = true
  | [] => rfl
  | k :: r => by
    rw [List.map_cons, PyData.canLayAll0, lays_tups r, Bool.and_true]
    exact lay_int k
theorem deps_tups : ∀ ks : List (List Int), PyData.depthAll (ks.map fun k => .tuple (k.map PyData.int)) ≤ 1
  | [] => Nat.zero_le _
  | k :: r => by
    rw [List.map_cons, PyData.depthAll, PyData.depth, dep_int]
    have := deps_tups r
    omega
theorem eqv_tups : ∀ ks js : List (List Int), PyData.eqvAll (ks.map fun k => .tuple (k.map PyData.int)) (js.map fun k => .tuple (k.map PyData.int)) = decide (ks = js)
  | [], [] => by simp [PyData.eqvAll]
  | [], _ :: _ => by simp [PyData.eqvAll]
  | _ :: _, [] => by simp [PyData.eqvAll]
  | k :: ks, j :: js => by
    rw [List.map_cons, List.map_cons, PyData.eqvAll, eqv_tups ks js]
    show (PyData.eqvAll _ _ && _) = _
    rw [eqv_int]
    by_cases h : k = j <;> simp [h]
theorem L_eq (ks js : List (List Int)) : dEqB (.lst (ks.map tupD)) (.lst (js.map tupD)) = some (decide (ks = js)) := by
  have z : ∀ a b : List D, dEqB (.lst a) (.lst b) = match (D.lst a).py, (D.lst b).py with
    | some p, some q => if (SeqAt.shaped p && SeqAt.shaped q) = true then some (PyData.eqv p q) else none
    | _, _ => none := fun _ _ => rfl
  have sh : ∀ ks : List (List Int), SeqAt.shaped (.list (ks.map fun k => .tuple (k.map PyData.int))) = true := fun ks => by
    have h1 : PyData.canLay0 (.list (ks.map fun k => .tuple (k.map PyData.int))) = true := lays_tups ks
    have h2 : PyData.depth (.list (ks.map fun k => .tuple (k.map PyData.int))) ≤ 2 := by rw [PyData.depth]; have := deps_tups ks; omega
    unfold SeqAt.shaped
    rw [h1]
    simp
    omega
  rw [z, D.py, D.py, pys_tups, pys_tups]
  dsimp only [Option.map]
  rw [sh, sh]
  show some (PyData.eqvAll _ _) = _
  rw [eqv_tups]
theorem T_eq (ks js : List (List Int)) : dEqB (.tup (ks.map tupD)) (.tup (js.map tupD)) = some (decide (ks = js)) := by
  have z : ∀ a b : List D, dEqB (.tup a) (.tup b) = match (D.tup a).py, (D.tup b).py with
    | some p, some q => if (SeqAt.shaped p && SeqAt.shaped q) = true then some (PyData.eqv p q) else none
    | _, _ => none := fun _ _ => rfl
  have sh : ∀ ks : List (List Int), SeqAt.shaped (.tuple (ks.map fun k => .tuple (k.map PyData.int))) = true := fun ks => by
    have h1 : PyData.canLay0 (.tuple (ks.map fun k => .tuple (k.map PyData.int))) = true := lays_tups ks
    have h2 : PyData.depth (.tuple (ks.map fun k => .tuple (k.map PyData.int))) ≤ 2 := by rw [PyData.depth]; have := deps_tups ks; omega
    unfold SeqAt.shaped
    rw [h1]
    simp
    omega
  rw [z, D.py, D.py, pys_tups, pys_tups]
  dsimp only [Option.map]
  rw [sh, sh]
  show some (PyData.eqvAll _ _) = _
  rw [eqv_tups]
/-- tuples of two small ints -/
noncomputable def Pt (k : List Int) : Prop := ∃ x y : Int, k = [x, y] ∧ x.natAbs < 2 ^ 1000 ∧ y.natAbs < 2 ^ 1000
theorem repr_bl (b : Bool) : ∃ x, dRepr [.bl b] = some (.str x) :=
  ⟨_, dRepr_of (p := .bool b) rfl rfl (by show 0 ≤ 40; omega) (by show 5 ≤ _; omega)⟩
theorem or_r {a b : SD → ER Bool} {sd sd1 sd2 : SD} {v : Bool} (h : a sd = .ok false sd1) (h2 : b sd1 = .ok v sd2) : mOr a b sd = .ok v sd2 := by
  unfold mOr; rw [h]; exact h2
theorem op_t {f : D → D → Option D} {a b : SD → ER D} {sd sd1 sd2 : SD} {x y : D} {v : Bool} (ha : a sd = .ok x sd1) (hb : b sd1 = .ok y sd2) (h : f x y = some (.bl v)) : mTest (mOp f a b) sd = .ok v sd2 := by
  unfold mTest mOp
  rw [ha]
  simp only [ER.bind]
  rw [hb]
  simp only [ER.bind, h, ER.opt]
theorem test_v {a : SD → ER D} {sd sd1 : SD} {v : Bool} (h : a sd = .ok (.bl v) sd1) : mTest a sd = .ok v sd1 := by
  unfold mTest; rw [h]; rfl
theorem not_b {a : SD → ER Bool} {sd sd1 : SD} {u : Bool} (h : a sd = .ok u sd1) : mNot a sd = .ok (!u) sd1 := by
  unfold mNot; rw [h]; rfl
theorem if_b {c : SD → ER Bool} {a b : SD → Fl} {sd sd1 : SD} {u : Bool} (h : c sd = .ok u sd1) : sIf c a b sd = if u = true then a sd1 else b sd1 := by
  unfold sIf; rw [h]; rfl
theorem ifd_b {c : SD → ER Bool} {a b : SD → ER D} {sd sd1 : SD} {u : Bool} (h : c sd = .ok u sd1) : mIf c a b sd = if u = true then a sd1 else b sd1 := by
  unfold mIf; rw [h]; rfl
theorem op_v {f : D → D → Option D} {a b : SD → ER D} {sd sd1 sd2 : SD} {x y z : D} (ha : a sd = .ok x sd1) (hb : b sd1 = .ok y sd2) (h : f x y = some z) : mOp f a b sd = .ok z sd2 := by
  unfold mOp
  rw [ha]
  simp only [ER.bind]
  rw [hb]
  simp only [ER.bind, h, ER.opt]
theorem cons_v {a : SD → ER D} {r : SD → ER (List D)} {sd sd1 sd2 : SD} {x : D} {xs : List D} (ha : a sd = .ok x sd1) (hr : r sd1 = .ok xs sd2) : mCons a r sd = .ok (x :: xs) sd2 := by
  unfold mCons
  rw [ha]
  simp only [ER.bind]
  rw [hr]
theorem nil_v {sd : SD} : mNil sd = .ok [] sd := rfl
theorem calls_v {f : List D → Option D} {a : SD → ER (List D)} {sd sd1 : SD} {xs : List D} {y : D} (ha : a sd = .ok xs sd1) (hf : f xs = some y) : mCall f a sd = .ok y sd1 := by
  unfold mCall
  rw [ha]
  simp only [ER.bind, hf, ER.opt]
theorem tup_v {a : SD → ER (List D)} {sd sd1 : SD} {xs : List D} (ha : a sd = .ok xs sd1) (hl : xs.length ≤ 16777216) : mTup a sd = .ok (.tup xs) sd1 := by
  unfold mTup
  rw [ha]
  simp only [ER.bind]
  rw [if_pos hl]
theorem lst_v {a : SD → ER (List D)} {sd sd1 : SD} {xs : List D} (ha : a sd = .ok xs sd1) (hl : xs.length ≤ 16777216) : mLst a sd = .ok (.ol (xs.map .fz)) sd1 := by
  unfold mLst
  rw [ha]
  simp only [ER.bind]
  rw [if_pos hl]
theorem call0_v {f : List OT → ER OT} {a : SD → ER (List D)} {sd sd1 s2 : SD} {xs : List D} {t : OT} (ha : a sd = .ok xs sd1) (hf : f (xs.map .fz) = .ok t s2) : mCall0 f a sd = .ok t sd1 := by
  unfold mCall0
  rw [ha]
  simp only [ER.bind]
  rw [hf]
theorem view_v {m : SD → ER OT} {sd sd1 : SD} {t : OT} (h : m sd = .ok t sd1) : mView m sd = .ok t.view sd1 := by
  unfold mView; rw [h]; rfl
theorem views_fz : ∀ xs : List D, OT.views (xs.map OT.fz) = xs
  | [] => rfl
  | x :: r => by rw [List.map_cons, OT.views, views_fz r]; rfl
theorem view_ol (xs : List D) : (OT.ol (xs.map OT.fz)).view = .lst xs := by rw [OT.view, views_fz]
theorem viewl_v {m : SD → ER OT} {sd sd1 : SD} {xs : List D} (h : m sd = .ok (.ol (xs.map .fz)) sd1) : mView m sd = .ok (.lst xs) sd1 := by
  rw [view_v h, view_ol]
theorem own_v {m : SD → ER D} {sd sd1 : SD} {d : D} (h : m sd = .ok d sd1) : mOwn m sd = .ok (.fz d) sd1 := by
  unfold mOwn; rw [h]; rfl
theorem fz_v {m : SD → ER OT} {sd sd1 : SD} {t : OT} (h : m sd = .ok t sd1) : mFz m sd = .ok (.fz t.view) sd1 := own_v (view_v h)
theorem ret_d {m : SD → ER D} {sd sd1 : SD} {d : D} (h : m sd = .ok d sd1) : sRet (mOwn m) sd = .rt (.fz d) sd1 := by
  unfold sRet mOwn; rw [h]; rfl
theorem ret_o {m : SD → ER OT} {sd sd1 : SD} {t : OT} (h : m sd = .ok t sd1) : sRet m sd = .rt t sd1 := by
  unfold sRet; rw [h]; rfl
theorem set_d {k : Nat} {m : SD → ER D} {sd : SD} {d : D} {l : List S} {pa : List OT} (h : m sd = .ok d ⟨l, pa⟩) (hk : k < l.length) : sSet k (mOwn m) sd = .nx ⟨l.set k (.ow (.fz d)), pa⟩ := by
  unfold sSet mOwn
  rw [h]
  show (if k < l.length then _ else _) = _
  rw [if_pos hk]
theorem set_o {k : Nat} {m : SD → ER OT} {sd : SD} {o : OT} {l : List S} {pa : List OT} (h : m sd = .ok o ⟨l, pa⟩) (hk : k < l.length) : sSet k m sd = .nx ⟨l.set k (.ow o), pa⟩ := by
  unfold sSet
  rw [h]
  show (if k < l.length then _ else _) = _
  rw [if_pos hk]
theorem drop_v {m : SD → ER D} {sd sd1 : SD} {d : D} (h : m sd = .ok d sd1) : sDrop m sd = .nx sd1 := by
  unfold sDrop; rw [h]; rfl
theorem ilst_v {m : SD → ER D} {sd sd1 : SD} {xs : List D} (h : m sd = .ok (.lst xs) sd1) : iLst m sd = .ok xs sd1 := by
  unfold iLst; rw [h]; rfl
theorem itup_v {m : SD → ER D} {sd sd1 : SD} {xs : List D} (h : m sd = .ok (.tup xs) sd1) : iTuP m sd = .ok xs sd1 := by
  unfold iTuP; rw [h]; rfl
theorem dput_v {i : Nat} {mk mv : SD → ER D} {sd sd1 sd2 : SD} {al : AL} {k : List Int} {d : D} {t0 : OT} (hv : mv sd = .ok d sd1) (h0 : sd1.tree i = some t0) (hk : mk sd1 = .ok (tupD k) sd2) (h2 : (sd2.tree i).bind unT = some al) (hl : al.length < 16777216) : sDPutT i mk mv sd = .nx (sd2.put i (odT (aPut al k d))) := by
  unfold sDPutT
  rw [hv]
  show (match sd1.tree i with
    | some _ => (mk sd1).stm (putEnd i d)
    | none => .bad) = _
  rw [h0]
  dsimp only
  rw [hk]
  show putEnd i d (tupD k) sd2 = _
  unfold putEnd
  rw [tup_is, h2]
  dsimp only
  rw [if_pos hl]
theorem go_one {g : D → SD → Option SD} {body : SD → Fl} {d : D} {r : List D} {sd sda sdb : SD} (h1 : g d sd = some sda) (h2 : body sda = .nx sdb) : goFor g body (d :: r) sd = goFor g body r sdb := by
  rw [goFor, h1]
  dsimp only
  rw [h2]
theorem for_two {it : SD → ER (List D)} {g : D → SD → Option SD} {body : SD → Fl} {sd sd1 sda sdb sdc sdd : SD} {a b : D} (h : it sd = .ok [a, b] sd1) (h1 : g a sd1 = some sda) (h2 : body sda = .nx sdb) (h3 : g b sdb = some sdc) (h4 : body sdc = .nx sdd) : sFor it g body sd = .nx sdd := by
  unfold sFor
  rw [h]
  show goFor g body [a, b] sd1 = _
  rw [go_one h1 h2, go_one h3 h4, goFor]
theorem andv_t {a b : SD → ER D} {sd sd1 : SD} (h : a sd = .ok (.bl true) sd1) : mAndV a b sd = b sd1 := by
  unfold mAndV; rw [h]; rfl
theorem andv_f {a b : SD → ER D} {sd sd1 : SD} (h : a sd = .ok (.bl false) sd1) : mAndV a b sd = .ok (.bl false) sd1 := by
  unfold mAndV; rw [h]; rfl
theorem noSlot_fz : ∀ ds : List D, noSlot (ds.map DL.Arg.fz) = true
  | [] => rfl
  | d :: r => noSlot_fz r
theorem treesOf_fz (sd : SD) : ∀ ds : List D, treesOf sd (ds.map DL.Arg.fz) = some (ds.map OT.fz)
  | [] => rfl
  | d :: r => by
    show (treesOf sd (r.map DL.Arg.fz)).map _ = _
    rw [treesOf_fz sd r]
    rfl
/-- a call that hands over a tree first -/
theorem call_hand {f : List OT → ER OT} {i : Nat} {rr : SD → ER (List DL.Arg)} {sd sd1 s2 : SD} {ds : List D} {r t t0 t' : OT} (ha : rr sd = .ok (ds.map .fz) sd1) (h0 : sd.tree i = some t0) (h1 : sd1.tree i = some t) (hf : f (t :: ds.map .fz) = .ok r s2) (hp : s2.pa[0]? = some t') : mCall1 f (rSlot i rr) sd = .ok r (sd1.put i t') := by
  have e : rSlot i rr sd = .ok (.sl i :: ds.map .fz) sd1 := by
    unfold rSlot
    rw [h0]
    show ER.bind (rr sd) _ = _
    rw [ha]
    rfl
  have e2 : treesOf sd1 (.sl i :: ds.map .fz) = some (t :: ds.map .fz) := by
    show (sd1.tree i).bind (fun t => (treesOf sd1 (ds.map .fz)).map (t :: ·)) = _
    rw [h1, treesOf_fz]
    rfl
  have e3 : oneSlot (.sl i :: ds.map .fz) = some (0, i) := by
    show (if noSlot (ds.map DL.Arg.fz) = true then some (0, i) else none) = _
    rw [noSlot_fz]
    rfl
  unfold mCall1
  rw [e]
  simp only [ER.bind]
  rw [e3, e2]
  simp only
  rw [hf]
  simp only
  rw [hp]
theorem rfz_v {a : SD → ER D} {r : SD → ER (List DL.Arg)} {sd sd1 sd2 : SD} {d : D} {ds : List D} (ha : a sd = .ok d sd1) (hr : r sd1 = .ok (ds.map .fz) sd2) : rFz a r sd = .ok ((d :: ds).map .fz) sd2 := by
  unfold rFz
  rw [ha]
  simp only [ER.bind]
  rw [hr]
  rfl
theorem rnil_v {sd : SD} : rNil sd = .ok (([] : List D).map .fz) sd := rfl
theorem cat_v {a b : SD → ER (List D)} {sd sd1 sd2 : SD} {xs ys : List D} (ha : a sd = .ok xs sd1) (hb : b sd1 = .ok ys sd2) (hl : xs.length + ys.length ≤ 16777216) : mCat a b sd = .ok (.ol ((xs ++ ys).map .fz)) sd2 := by
  unfold mCat
  rw [ha]
  simp only [ER.bind]
  rw [hb]
  simp only
  rw [if_pos hl]
theorem fzOf_fz : ∀ xs : List D, fzOf (xs.map OT.fz) = some xs
  | [] => rfl
  | x :: r => by
    show (fzOf (r.map OT.fz)).map (x :: ·) = _
    rw [fzOf_fz r]
    rfl
theorem qnew_v {a : SD → ER OT} {sd sd1 : SD} {xs : List D} (h : a sd = .ok (.ol (xs.map .fz)) sd1) : qNew a sd = .ok xs sd1 := by
  unfold qNew
  rw [h]
  show ER.opt (fzOf (xs.map .fz)) sd1 = _
  rw [fzOf_fz]
  rfl
theorem qfz_v {a : SD → ER D} {sd sd1 : SD} {xs : List D} (h : a sd = .ok (.lst xs) sd1) : qFz a sd = .ok xs sd1 := by
  unfold qFz
  rw [h]
  rfl
theorem def_rt {n : Nat} {body : SD → Fl} {ts : List OT} {sd0 sd : SD} {t : OT} (ent : entry n ts = sd0) (h : body sd0 = .rt t sd) : asDef n body ts = .ok t ⟨[], sd.pa⟩ := by
  unfold asDef; rw [ent, h]
theorem def_nx {n : Nat} {body : SD → Fl} {ts : List OT} {sd0 sd : SD} (ent : entry n ts = sd0) (h : body sd0 = .nx sd) : asDef n body ts = .ok (.fz .non) ⟨[], sd.pa⟩ := by
  unfold asDef; rw [ent, h]
/-- an edge: two small ints and a side -/
noncomputable def Eg (e : List Int) : Prop := ∃ x y s : Int, e = [x, y, s] ∧ (s = 0 ∨ s = 1) ∧ x.natAbs < 2 ^ 999 ∧ y.natAbs < 2 ^ 999
theorem Eg.ne {e : List Int} (h : Eg e) : e ≠ [] := by obtain ⟨x, y, s, rfl, _⟩ := h; simp
theorem Pt.ne {e : List Int} (h : Pt e) : e ≠ [] := by obtain ⟨x, y, rfl, _⟩ := h; simp
theorem is_int_ok (cs : Nat → Addr) (i : Int) : m_is_int cs [.fz (.int i)] = .ok (.fz (.bl true)) ⟨[], [.fz (.int i)]⟩ := by
  simp [m_is_int_1, m_is_int, -List.map_map, -List.map_take, -List.map_drop, -List.map_append, -List.map_reverse, asDef, entry, slotsOf, sSeq, sSet, sRet, sIf, sDrop, sNil, sBreak, sCont, sApp, sSetAt, setEnd, sAug, sAsg, sPar, mVar, mSee, mFrz, mTake, mC, mUn, mOp, mNil, mCons, mCall, mCallL, mTup, mLst, mView, mOwn, mFz, mTest, mAnd, mOr, mNot, mIf, mAndV, mOrV, mNotV, mChain, mAt, qSee, qFz, qNew, oNone, oSome, rNil, rSlot, rFz, mCall0, mCall1, oneSlot, noSlot, treesOf, SD.tree, SD.put, SD.putFz, tgN, tgNil, tgCons, tgT, ER.bind, ER.opt, ER.stm, Fl.seq, OT.view, OT.views, OT.items, fzOf, iLst, iTuP, iRange1, iRange2, iZip2, iEnumL, dIx, atI, ixN, dAdd, dSub, dNeg, dLt, dLe, dGt, dGe, dIsN, dNotN, isNonD, dEq, dNe, eqB_int, eqB_str, eqB_bl, eq_2, eq_3, dLen, dIsi, D.isA, tyName, dMod, dMax, dMin, mAtS, mBm, D.isL, D.isS]
theorem is_point_ok (cs : Nat → Addr) (x y : Int) : ∃ s, m_is_point cs [.fz (tupD [x, y])] = .ok (.fz (.bl true)) s := by
  have ent : entry 2 [.fz (tupD [x, y])] = ⟨[.ow (.fz (tupD [x, y])), .un], [.fz (tupD [x, y])]⟩ := rfl
  have c : m_is_point_c2 cs ⟨[.ow (.fz (tupD [x, y])), .un], [.fz (tupD [x, y])]⟩ = .ok (.ol (([x, y].map fun _ => D.bl true).map .fz)) ⟨[.ow (.fz (tupD [x, y])), .un], [.fz (tupD [x, y])]⟩ :=
    mComp_map [x, y] D.int _ (itup_v rfl) (by show 2 ≤ 16777216; decide) fun i _ => ⟨⟨[.ow (.fz (tupD [x, y])), .ow (.fz (.int i))], [.fz (tupD [x, y])]⟩, rfl, rfl, view_v (call0_v (cons_v (x := .int i) rfl nil_v) (is_int_ok cs i))⟩
  refine ⟨_, def_rt ent (ret_d (d := .bl true) (sd1 := ⟨[.ow (.fz (tupD [x, y])), .un], [.fz (tupD [x, y])]⟩) ?_)⟩
  refine Eq.trans (andv_t (calls_v (f := dIsi) (xs := [tupD [x, y], .ty "tuple"]) rfl rfl)) ?_
  refine Eq.trans (andv_t (op_v (f := dEq) (calls_v (f := dLen) (xs := [tupD [x, y]]) (y := .int 2) rfl rfl) (y := .int 2) rfl rfl)) ?_
  exact calls_v (cons_v (viewl_v c) nil_v) rfl
theorem in_range_ok (cs : Nat → Addr) {s : Int} (h : s = 0 ∨ s = 1) : ∃ q, m_in_range cs [.fz (.int s), .fz (.int 0), .fz (.int 1)] = .ok (.fz (.bl true)) q := by
  have ent : entry 3 [.fz (.int s), .fz (.int 0), .fz (.int 1)] = ⟨[.ow (.fz (.int s)), .ow (.fz (.int 0)), .ow (.fz (.int 1))], [.fz (.int s), .fz (.int 0), .fz (.int 1)]⟩ := rfl
  refine ⟨_, def_rt ent (ret_d (d := .bl true) (sd1 := ⟨[.ow (.fz (.int s)), .ow (.fz (.int 0)), .ow (.fz (.int 1))], [.fz (.int s), .fz (.int 0), .fz (.int 1)]⟩) ?_)⟩
  refine Eq.trans (andv_t (view_v (call0_v (cons_v (x := .int s) rfl nil_v) (is_int_ok cs s)))) ?_
  rcases h with rfl | rfl <;> rfl
theorem is_edge_ok (cs : Nat → Addr) {e : List Int} (h : Eg e) : ∃ q, m_is_edge cs [.fz (tupD e)] = .ok (.fz (.bl true)) q := by
  obtain ⟨x, y, s, rfl, hs, _, _⟩ := h
  obtain ⟨q1, h1⟩ := is_point_ok cs x y
  obtain ⟨q2, h2⟩ := in_range_ok cs hs
  have ent : entry 1 [.fz (tupD [x, y, s])] = ⟨[.ow (.fz (tupD [x, y, s]))], [.fz (tupD [x, y, s])]⟩ := rfl
  have s2 : m_is_edge_2 cs ⟨[.ow (.fz (tupD [x, y, s]))], [.fz (tupD [x, y, s])]⟩ = .nx ⟨[.ow (.fz (tupD [x, y, s]))], [.fz (tupD [x, y, s])]⟩ := by
    exact Eq.trans (if_b (u := false) (or_r (not_b (test_v (calls_v (f := dIsi) (xs := [tupD [x, y, s], .ty "tuple"]) (y := .bl true) rfl rfl))) (op_t (f := dNe) (v := false) (calls_v (f := dLen) (xs := [tupD [x, y, s]]) (y := .int 3) rfl rfl) (y := .int 3) rfl rfl))) rfl
  have s3 : m_is_edge_3 cs ⟨[.ow (.fz (tupD [x, y, s]))], [.fz (tupD [x, y, s])]⟩ = .rt (.fz (.bl true)) ⟨[.ow (.fz (tupD [x, y, s]))], [.fz (tupD [x, y, s])]⟩ := by
    refine ret_d ?_
    refine Eq.trans (andv_t (view_v (call0_v (cons_v (x := tupD [x, y]) rfl nil_v) h1))) ?_
    exact view_v (call0_v (cons_v (x := .int s) rfl (cons_v (x := .int 0) rfl (cons_v (x := .int 1) rfl nil_v))) h2)
  exact ⟨_, def_rt ent (seq_nx s2 s3)⟩
theorem ends_in_ok (cs : Nat → Addr) {x y s : Int} (hs : s = 0 ∨ s = 1) : ∃ q, m_ends_in cs [.fz (tupD [x, y, s])] = .ok (.fz (.tup [tupD [x, y], tupD [x + 1 - s, y + s]])) q := by
  have ent : entry 4 [.fz (tupD [x, y, s])] = ⟨[.ow (.fz (tupD [x, y, s])), .un, .un, .un], [.fz (tupD [x, y, s])]⟩ := rfl
  refine ⟨_, def_rt ent (seq_nx (sd1 := ⟨[.ow (.fz (tupD [x, y, s])), .ow (.fz (.int x)), .ow (.fz (.int y)), .ow (.fz (.int s))], [.fz (tupD [x, y, s])]⟩) rfl (ret_d (d := .tup [tupD [x, y], tupD [x + 1 - s, y + s]]) (sd1 := ⟨[.ow (.fz (tupD [x, y, s])), .ow (.fz (.int x)), .ow (.fz (.int y)), .ow (.fz (.int s))], [.fz (tupD [x, y, s])]⟩) ?_))⟩
  refine tup_v (cons_v (tup_v (cons_v (x := .int x) rfl (cons_v (x := .int y) rfl nil_v)) (by show 2 ≤ 16777216; decide)) (cons_v ?_ nil_v)) (by show 2 ≤ 16777216; decide)
  refine Eq.trans (ifd_b (op_t (f := dEq) (v := decide (s = 1)) (x := .int s) (y := .int 1) rfl rfl rfl)) ?_
  rcases hs with rfl | rfl
  · rw [if_neg (by decide), Int.sub_zero, Int.add_zero]; rfl
  · rw [if_pos (by decide), Int.add_sub_cancel]; rfl
theorem tree_ow {l : List S} {pa : List OT} {i : Nat} {t : OT} (h : l[i]? = some (.ow t)) : (⟨l, pa⟩ : SD).tree i = some t := by
  unfold SD.tree; rw [h]
theorem unt_ow {l : List S} {pa : List OT} {i : Nat} {al : AL} (h : l[i]? = some (.ow (odT al))) : ((⟨l, pa⟩ : SD).tree i).bind unT = some al := by
  rw [tree_ow h]; exact unT_odT al
theorem calll_v {f : List D → Option (List D)} {a : SD → ER (List D)} {sd sd1 : SD} {xs ys : List D} (ha : a sd = .ok xs sd1) (hf : f xs = some ys) : mCallL f a sd = .ok (.ol (ys.map .fz)) sd1 := by
  unfold mCallL
  rw [ha]
  simp only [ER.bind, hf, Option.map_some, ER.opt]
theorem callt_v {f : List D → Option (List D)} {a : SD → ER (List D)} {sd sd1 : SD} {xs ys : List D} (ha : a sd = .ok xs sd1) (hf : f xs = some ys) : mCallT f a sd = .ok (.tup ys) sd1 := by
  unfold mCallT
  rw [ha]
  simp only [ER.bind, hf, Option.map_some, ER.opt]
theorem any_keys (al : AL) (k : List Int) : (al.any fun p => decide (p.1 = k)) = true ↔ k ∈ al.map (·.1) := by
  rw [List.any_eq_true, List.mem_map]
  constructor
  · rintro ⟨p, hp, e⟩; exact ⟨p, hp, of_decide_eq_true e⟩
  · rintro ⟨p, hp, e⟩; exact ⟨p, hp, decide_eq_true e⟩
theorem keys_put {al : AL} {k : List Int} {d : D} (h : k ∈ al.map (·.1)) : (aPut al k d).map (·.1) = al.map (·.1) := by
  unfold aPut
  rw [if_pos ((any_keys al k).mpr h), List.map_map]
  refine List.map_congr_left fun p _ => ?_
  show (if p.1 = k then (p.1, d) else p).1 = p.1
  split <;> rfl
theorem put_new {al : AL} {k : List Int} {d : D} (h : k ∉ al.map (·.1)) : aPut al k d = al ++ [(k, d)] := by
  unfold aPut
  rw [if_neg fun z => h ((any_keys al k).mp z)]
noncomputable def kAL (es : List (List Int)) : AL := es.map fun e => (e, .bl true)
theorem kAL_keys (es : List (List Int)) : (kAL es).map (·.1) = es := by
  unfold kAL
  rw [List.map_map]
  exact List.map_id' es
noncomputable def PD (cs : Nat → Addr) (es : List (List Int)) : D := .ins (cs 0) ["known_edges", "sorted_edges"] [dicT (kAL es), .tup ((sortT es).map tupD)]
theorem goDc_new {t : OT} {E : D} {w : S} : ∀ (r d : List (List Int)) (x : S), (d ++ r).Nodup → d.length + r.length ≤ 1000 →
    ∃ x', goDc (tgN 2) (mVar 2) (mC (.bl true)) [2] (r.map tupD) (kAL d) ⟨[.pa 0, w, x], [t, .fz E]⟩ = .ok (kAL (d ++ r)) ⟨[.pa 0, w, x'], [t, .fz E]⟩
  | [], d, x, _, _ => ⟨x, by rw [List.append_nil]; rfl⟩
  | e :: r, d, x, nd, hl => by
    rw [List.length_cons] at hl
    have ne : e ∉ (kAL d).map (·.1) := by
      rw [kAL_keys]
      intro hd
      exact (List.nodup_append.mp nd).2.2 e hd e List.mem_cons_self rfl
    obtain ⟨x', h⟩ := goDc_new (t := t) (E := E) (w := w) r (d ++ [e]) (.ow (.fz (tupD e))) (by rw [List.append_assoc]; exact nd) (by rw [List.length_append]; show d.length + 1 + r.length ≤ _; omega)
    refine ⟨x', ?_⟩
    rw [List.map_cons]
    show (match tupIs (tupD e) with
      | some ns => if (kAL d).length < 16777216 then goDc (tgN 2) (mVar 2) (mC (.bl true)) [2] (r.map tupD) (aPut (kAL d) ns (.bl true)) ⟨[.pa 0, w, .ow (.fz (tupD e))], [t, .fz E]⟩ else .bad
      | none => .bad) = _
    rw [tup_is]
    dsimp only
    rw [if_pos (by unfold kAL; rw [List.length_map]; omega), put_new ne]
    rw [show kAL d ++ [(e, D.bl true)] = kAL (d ++ [e]) by unfold kAL; rw [List.map_append]; rfl, h, List.append_assoc]
    rfl
theorem len_kAL (es : List (List Int)) : dLenX [dicT (kAL es)] = some (.int es.length) := by
  show some (D.int ((kAL es).map fun p => DKey.t (tkey p.1)).length) = _
  rw [List.length_map, kAL, List.length_map]
theorem init_ok (cs : Nat → Addr) {es : List (List Int)} (h : ∀ e ∈ es, Eg e) (nd : es.Nodup) (hl : es.length ≤ 1000) : ∃ q t, m_Picture___init__ cs [.oi (cs 0) [] [], .fz (.lst (es.map tupD))] = .ok (.fz .non) ⟨[], t :: q⟩ ∧ t.view = PD cs es := by
  have ent : entry 3 [.oi (cs 0) [] [], .fz (.lst (es.map tupD))] = ⟨[.pa 0, .ow (.fz (.lst (es.map tupD))), .un], [.oi (cs 0) [] [], .fz (.lst (es.map tupD))]⟩ := rfl
  have c1 : m_Picture___init___c1 cs ⟨[.pa 0, .ow (.fz (.lst (es.map tupD))), .un], [.oi (cs 0) [] [], .fz (.lst (es.map tupD))]⟩ = .ok (.ol ((es.map fun _ => D.bl true).map .fz)) ⟨[.pa 0, .ow (.fz (.lst (es.map tupD))), .un], [.oi (cs 0) [] [], .fz (.lst (es.map tupD))]⟩ := by
    refine mComp_map es tupD _ (ilst_v rfl) (by omega) fun e he => ?_
    obtain ⟨q, hq⟩ := is_edge_ok cs (h e he)
    exact ⟨⟨[.pa 0, .ow (.fz (.lst (es.map tupD))), .ow (.fz (tupD e))], [.oi (cs 0) [] [], .fz (.lst (es.map tupD))]⟩, rfl, rfl, view_v (call0_v (cons_v (x := tupD e) rfl nil_v) hq)⟩
  have all : dAll [.lst (es.map fun _ => D.bl true)] = some (.bl true) := by
    have e : (es.map fun _ => D.bl true) = (es.map fun _ => true).map D.bl := by rw [List.map_map]; rfl
    show (boolsOf _).map _ = _
    rw [e, boolsOf_map]
    show some (D.bl ((es.map fun _ => true).all id)) = _
    congr 2
    rw [List.all_eq_true]
    intro b hb
    obtain ⟨_, _, rfl⟩ := List.mem_map.mp hb
    rfl
  have s2 : m_Picture___init___2 cs ⟨[.pa 0, .ow (.fz (.lst (es.map tupD))), .un], [.oi (cs 0) [] [], .fz (.lst (es.map tupD))]⟩ = .nx ⟨[.pa 0, .ow (.fz (.lst (es.map tupD))), .un], [.oi (cs 0) [] [], .fz (.lst (es.map tupD))]⟩ :=
    Eq.trans (if_b (u := false) (or_r (not_b (test_v (calls_v (f := dIsi) (xs := [.lst (es.map tupD), .ty "list"]) (y := .bl true) rfl rfl))) (not_b (test_v (calls_v (cons_v (viewl_v c1) nil_v) all))))) rfl
  obtain ⟨x', g⟩ := goDc_new (t := .oi (cs 0) [] []) (E := .lst (es.map tupD)) (w := .ow (.fz (.lst (es.map tupD)))) es [] .un nd (by simpa using hl)
  have c2 : m_Picture___init___c2 cs ⟨[.pa 0, .ow (.fz (.lst (es.map tupD))), .un], [.oi (cs 0) [] [], .fz (.lst (es.map tupD))]⟩ = .ok (odT (kAL es)) ⟨[.pa 0, .ow (.fz (.lst (es.map tupD))), .un], [.oi (cs 0) [] [], .fz (.lst (es.map tupD))]⟩ := by
    show (goDc (tgN 2) (mVar 2) (mC (.bl true)) [2] (es.map tupD) (kAL []) ⟨[.pa 0, .ow (.fz (.lst (es.map tupD))), .un], [.oi (cs 0) [] [], .fz (.lst (es.map tupD))]⟩).bind _ = _
    rw [g]
    rfl
  have s3 : m_Picture___init___3 cs ⟨[.pa 0, .ow (.fz (.lst (es.map tupD))), .un], [.oi (cs 0) [] [], .fz (.lst (es.map tupD))]⟩ = .nx ⟨[.pa 0, .ow (.fz (.lst (es.map tupD))), .un], [.oi (cs 0) ["known_edges"] [odT (kAL es)], .fz (.lst (es.map tupD))]⟩ := by
    unfold m_Picture___init___3 sFldSet
    rw [c2]
    show (if (cs 0 == cs 0) = true ∧ 0 < 1000 then _ else _) = _
    rw [if_pos ⟨by simp, by decide⟩]
    rfl
  have s5 : m_Picture___init___5 cs ⟨[.pa 0, .ow (.fz (.lst (es.map tupD))), .un], [.oi (cs 0) ["known_edges"] [odT (kAL es)], .fz (.lst (es.map tupD))]⟩ = .nx ⟨[.pa 0, .ow (.fz (.lst (es.map tupD))), .un], [.oi (cs 0) ["known_edges"] [odT (kAL es)], .fz (.lst (es.map tupD))]⟩ := by
    have f1 : mFld (fun C => C == cs 0) "known_edges" (mSee 0) ⟨[.pa 0, .ow (.fz (.lst (es.map tupD))), .un], [.oi (cs 0) ["known_edges"] [odT (kAL es)], .fz (.lst (es.map tupD))]⟩ = .ok (dicT (kAL es)) ⟨[.pa 0, .ow (.fz (.lst (es.map tupD))), .un], [.oi (cs 0) ["known_edges"] [odT (kAL es)], .fz (.lst (es.map tupD))]⟩ := by
      show (if (cs 0 == cs 0) = true then ER.opt (some (odT (kAL es)).view) _ else .bad) = _
      rw [if_pos (by simp), view_odT]
      rfl
    refine Eq.trans (if_b (u := false) (op_t (f := dNe) (calls_v (f := dLenX) (cons_v f1 nil_v) (len_kAL es)) (calls_v (f := dLen) (xs := [.lst (es.map tupD)]) (y := .int es.length) rfl ?_) ?_)) rfl
    · show some (D.int (es.map tupD).length) = _
      rw [List.length_map]
    · show some (D.bl (!decide ((es.length : Int) = es.length))) = _
      simp
  have s6 : m_Picture___init___6 cs ⟨[.pa 0, .ow (.fz (.lst (es.map tupD))), .un], [.oi (cs 0) ["known_edges"] [odT (kAL es)], .fz (.lst (es.map tupD))]⟩ = .nx ⟨[.pa 0, .ow (.fz (.lst (es.map tupD))), .un], [.oi (cs 0) ["known_edges", "sorted_edges"] [odT (kAL es), .fz (.tup ((sortT es).map tupD))], .fz (.lst (es.map tupD))]⟩ := by
    have so := calll_v (f := dSortT) (a := mCons (mVar 1) mNil) (sd := ⟨[.pa 0, .ow (.fz (.lst (es.map tupD))), .un], [.oi (cs 0) ["known_edges"] [odT (kAL es)], .fz (.lst (es.map tupD))]⟩) (cons_v (x := .lst (es.map tupD)) rfl nil_v) (sort_D fun e he => (h e he).ne)
    have q := own_v (callt_v (f := dTupOf) (cons_v (viewl_v so) nil_v) rfl)
    unfold m_Picture___init___6 sFldSet
    rw [q]
    show (if (cs 0 == cs 0) = true ∧ 1 < 1000 then _ else _) = _
    rw [if_pos ⟨by simp, by decide⟩]
    rfl
  refine ⟨_, _, def_nx ent (seq_nx s2 (seq_nx s3 (seq_nx s5 s6))), ?_⟩
  show D.ins (cs 0) _ [(odT (kAL es)).view, _] = _
  rw [view_odT]
  rfl
theorem make_v {cs : Nat → Addr} {a : SD → ER (List D)} {sd sd1 : SD} {es : List (List Int)} (h : ∀ e ∈ es, Eg e) (nd : es.Nodup) (hl : es.length ≤ 1000) (ha : a sd = .ok [.lst (es.map tupD)] sd1) : ∃ t, mMake (cs 0) (m_Picture___init__ cs) a sd = .ok t sd1 ∧ t.view = PD cs es := by
  obtain ⟨q, t, e, v⟩ := init_ok cs h nd hl
  refine ⟨t, ?_, v⟩
  unfold mMake
  rw [ha]
  simp only [ER.bind, List.map]
  rw [e]
  rfl
theorem edges_ok (cs : Nat → Addr) (es : List (List Int)) : ∃ q, m_Picture_edges cs [.fz (PD cs es)] = .ok (.fz (.tup ((sortT es).map tupD))) q := by
  have ent : entry 1 [.fz (PD cs es)] = ⟨[.ow (.fz (PD cs es))], [.fz (PD cs es)]⟩ := rfl
  refine ⟨_, def_rt ent (ret_o (own_v (d := .tup ((sortT es).map tupD)) (sd1 := ⟨[.ow (.fz (PD cs es))], [.fz (PD cs es)]⟩) ?_))⟩
  show (if (cs 0 == cs 0) = true then ER.opt (fldD "sorted_edges" ["known_edges", "sorted_edges"] [dicT (kAL es), .tup ((sortT es).map tupD)]) _ else .bad) = _
  rw [if_pos (by simp)]
  rfl
theorem prop_v {cs : Nat → Addr} {a : SD → ER D} {sd sd1 : SD} {es : List (List Int)} (h : a sd = .ok (PD cs es) sd1) : mProp (cs 0) (m_Picture_edges cs) a sd = .ok (.fz (.tup ((sortT es).map tupD))) sd1 := by
  obtain ⟨q, e⟩ := edges_ok cs es
  unfold mProp
  rw [h]
  show (if cs 0 = cs 0 then callFzQ (m_Picture_edges cs) [PD cs es] sd1 else .bad) = _
  rw [if_pos rfl]
  unfold callFzQ
  show (match m_Picture_edges cs [.fz (PD cs es)] with
    | .ok t _ => ER.ok t sd1
    | _ => .bad) = _
  rw [e]
inductive Pl : Nat → D → Prop
  | int (n : Nat) (i : Int) : Pl n (.int i)
  | non (n : Nat) : Pl n .non
  | tup {n : Nat} {ds : List D} : (∀ d ∈ ds, Pl n d) → ds.length ≤ 1000 → Pl (n + 1) (.tup ds)
  | lst {n : Nat} {ds : List D} : (∀ d ∈ ds, Pl n d) → ds.length ≤ 1000 → Pl (n + 1) (.lst ds)
theorem irange_v {a : SD → ER (List D)} {sd sd1 : SD} {j : Int} (h : a sd = .ok [.int j] sd1) (h0 : 0 ≤ j) (h1 : j < 2 ^ 62) : iRange1 a sd = .ok ((List.range j.toNat).map fun i : Nat => D.int (0 + (i : Int))) sd1 := by
  unfold iRange1
  rw [h]
  show (if -(2 ^ 62) ≤ j ∧ j < 2 ^ 62 then ER.ok (rangeD 0 j.toNat) sd1 else .bad) = _
  rw [if_pos ⟨by omega, h1⟩]
  rfl
noncomputable def smS (d : D) (x : S) : SD := ⟨[.ow (.fz d), .ow (.fz d), x], [.fz d, .fz d]⟩
theorem all_true {α : Type} (xs : List α) : dAll [.lst (xs.map fun _ => D.bl true)] = some (.bl true) := by
  have e : (xs.map fun _ => D.bl true) = (xs.map fun _ => true).map D.bl := by rw [List.map_map]; rfl
  show (boolsOf _).map _ = _
  rw [e, boolsOf_map]
  show some (D.bl ((xs.map fun _ => true).all id)) = _
  congr 2
  rw [List.all_eq_true]
  intro b hb
  obtain ⟨_, _, rfl⟩ := List.mem_map.mp hb
  rfl
/-- the walk over the items -/
theorem same_items (cs : Nat → Addr) {n : Nat} {ds : List D} {d : D} (hl : ds.length ≤ 1000) (h : ∀ x ∈ ds, ∃ s, m__law_same cs n [.fz x, .fz x] = .ok (.fz (.bl true)) s)
    (h1 : dLen [d] = some (.int ds.length)) (h2 : ∀ i : Int, dIx d (.int i) = atI ds i) (h3 : dIsiT [d, .tup [.ty "list", .ty "tuple"]] = some (.bl true))
    {u v : Bool} (h4 : dIsi [d, .ty "list"] = some (.bl u)) (h5 : dIsi [d, .ty "tuple"] = some (.bl v)) : ∃ s, m__law_same cs (n + 1) [.fz d, .fz d] = .ok (.fz (.bl true)) s := by
  have ent : entry 3 [.fz d, .fz d] = smS d .un := rfl
  have c : m__law_same_c2 cs (m__law_same cs n) (smS d .un) = .ok (.ol (((List.range ds.length).map fun _ => D.bl true).map .fz)) (smS d .un) := by
    refine mComp_map (List.range ds.length) (fun i : Nat => D.int (0 + (i : Int))) (fun _ => D.bl true) ?_ (by rw [List.length_range]; omega) fun k hk => ?_
    · exact irange_v (cons_v (calls_v (f := dLen) (cons_v (x := d) rfl nil_v) h1) nil_v) (by omega) (by omega)
    · have hk := List.mem_range.mp hk
      obtain ⟨s, hs⟩ := h ds[k] (List.getElem_mem hk)
      have ix : dIx d (.int (0 + (k : Int))) = some ds[k] := by
        rw [h2, Int.zero_add]
        exact atI_of (by simp [hk])
      exact ⟨smS d (.ow (.fz (.int (0 + (k : Int))))), rfl, rfl, view_v (call0_v (cons_v (op_v (f := dIx) (a := mVar 0) (b := mVar 2) (x := d) (y := .int (0 + (k : Int))) rfl rfl ix) (cons_v (op_v (f := dIx) (a := mVar 1) (b := mVar 2) (x := d) (y := .int (0 + (k : Int))) rfl rfl ix) nil_v)) hs)⟩
  have t : mTest (mCall dIsiT (mCons (mVar 1) (mCons (mTup (mCons (mC (.ty "list")) (mCons (mC (.ty "tuple")) (mNil)))) (mNil)))) (smS d .un) = .ok true (smS d .un) := test_v (calls_v (f := dIsiT) (xs := [d, .tup [.ty "list", .ty "tuple"]]) rfl h3)
  have nb : ∀ b : Bool, dNe (.bl b) (.bl b) = some (.bl false) := fun b => by cases b <;> rfl
  have s2 : m__law_same_2 cs (m__law_same cs n) (smS d .un) = .nx (smS d .un) :=
    Eq.trans (if_b (u := false) (or_r (op_t (f := dNe) (calls_v (f := dIsi) (xs := [d, .ty "list"]) rfl h4) (calls_v (f := dIsi) (xs := [d, .ty "list"]) rfl h4) (nb u)) (op_t (f := dNe) (calls_v (f := dIsi) (xs := [d, .ty "tuple"]) rfl h5) (calls_v (f := dIsi) (xs := [d, .ty "tuple"]) rfl h5) (nb v)))) rfl
  have s3 : m__law_same_3 cs (m__law_same cs n) (smS d .un) = .rt (.fz (.bl true)) (smS d .un) := by
    refine ret_d ?_
    refine Eq.trans (andv_t (op_v (f := dEq) (calls_v (f := dLen) (cons_v (x := d) rfl nil_v) h1) (calls_v (f := dLen) (cons_v (x := d) rfl nil_v) h1) ?_)) ?_
    · show some (D.bl (decide ((ds.length : Int) = ds.length))) = _
      simp
    · exact calls_v (cons_v (viewl_v c) nil_v) (all_true _)
  have s4 : m__law_same_4 cs (m__law_same cs n) (smS d .un) = .rt (.fz (.bl true)) (smS d .un) := by
    refine Eq.trans (if_b t) ?_
    rw [if_pos rfl]
    exact seq_nx s2 s3
  refine ⟨_, def_rt (sd := smS d .un) ent ?_⟩
  show (m__law_same_4 cs (m__law_same cs n) (smS d .un)).seq _ = _
  rw [s4]
  rfl
theorem same_leaf (cs : Nat → Addr) {n : Nat} {d : D} (h3 : dIsiT [d, .tup [.ty "list", .ty "tuple"]] = some (.bl false)) {u : Bool} (h4 : dIsi [d, .ty "bool"] = some (.bl u)) (h5 : dEq d d = some (.bl true)) : ∃ s, m__law_same cs (n + 1) [.fz d, .fz d] = .ok (.fz (.bl true)) s := by
  have ent : entry 3 [.fz d, .fz d] = smS d .un := rfl
  have t : mTest (mCall dIsiT (mCons (mVar 1) (mCons (mTup (mCons (mC (.ty "list")) (mCons (mC (.ty "tuple")) (mNil)))) (mNil)))) (smS d .un) = .ok false (smS d .un) := test_v (calls_v (f := dIsiT) (xs := [d, .tup [.ty "list", .ty "tuple"]]) rfl h3)
  have s4 : m__law_same_4 cs (m__law_same cs n) (smS d .un) = .nx (smS d .un) := Eq.trans (if_b t) rfl
  have eb : ∀ b : Bool, dEq (.bl b) (.bl b) = some (.bl true) := fun b => by cases b <;> rfl
  refine ⟨_, def_rt (sd := smS d .un) ent (seq_nx s4 (ret_d ?_))⟩
  refine Eq.trans (andv_t (op_v (f := dEq) (calls_v (f := dIsi) (xs := [d, .ty "bool"]) rfl h4) (calls_v (f := dIsi) (xs := [d, .ty "bool"]) rfl h4) (eb u))) ?_
  exact op_v (f := dEq) (x := d) (y := d) rfl rfl h5
theorem same_ok (cs : Nat → Addr) {n : Nat} {d : D} (h : Pl n d) : ∃ s, m__law_same cs (n + 1) [.fz d, .fz d] = .ok (.fz (.bl true)) s := by
  induction h with
  | int n i => exact same_leaf cs rfl (u := false) rfl (by show some (D.bl (decide (i = i))) = _; simp)
  | non n => exact same_leaf cs rfl (u := false) rfl (by with_unfolding_all rfl)
  | tup h hl ih => exact same_items cs hl ih rfl (fun i => rfl) rfl (u := false) rfl (v := true) rfl
  | lst h hl ih => exact same_items cs hl ih rfl (fun i => rfl) rfl (u := true) rfl (v := false) rfl
theorem pl_tup (n : Nat) (k : List Int) (h : k.length ≤ 1000) : Pl (n + 1) (tupD k) := .tup (fun d hd => by
  obtain ⟨i, _, rfl⟩ := List.mem_map.mp hd
  exact .int _ _) (by rw [List.length_map]; exact h)
theorem L_shaped (ks : List (List Int)) : SeqAt.shaped (.list (ks.map fun k => .tuple (k.map PyData.int))) = true := by
  have h1 : PyData.canLay0 (.list (ks.map fun k => .tuple (k.map PyData.int))) = true := lays_tups ks
  have h2 : PyData.depth (.list (ks.map fun k => .tuple (k.map PyData.int))) ≤ 2 := by rw [PyData.depth]; have := deps_tups ks; omega
  unfold SeqAt.shaped
  rw [h1]
  simp
  omega
theorem any_tups (e : List Int) : ∀ es : List (List Int), ((es.map fun k => PyData.tuple (k.map PyData.int)).any fun z => PyData.eqv z (.tuple (e.map PyData.int))) = decide (e ∈ es)
  | [] => by simp
  | k :: r => by
    rw [List.map_cons, List.any_cons, any_tups e r]
    show (PyData.eqvAll _ _ || _) = _
    rw [eqv_int]
    by_cases h : k = e
    · subst h; simp
    · have h' : ¬ e = k := fun z => h z.symm
      simp [h, h']
theorem inL_D (neg : Bool) (e : List Int) (es : List (List Int)) : dInL neg (tupD e) (.lst (es.map tupD)) = some (.bl (xor neg (decide (e ∈ es)))) := by
  have e1 : (D.lst (es.map tupD)).py = some (.list (es.map fun k => .tuple (k.map PyData.int))) := by rw [D.py, pys_tups]; rfl
  unfold dInL
  rw [tup_py, e1]
  dsimp only
  rw [L_shaped, show SeqAt.shaped (.tuple (e.map PyData.int)) = true from tI_shaped e, if_pos (show (true && true) = true from rfl), any_tups]
theorem in_kAL (e : List Int) (es : List (List Int)) : (aGet (kAL es) e).isSome = decide (e ∈ es) := by
  have h : (aGet (kAL es) e).isSome = true ↔ e ∈ es := by
    unfold aGet
    rw [Option.isSome_map, List.find?_isSome, ← (kAL_keys es), List.mem_map]
    rw [kAL_keys]
    constructor
    · rintro ⟨p, hp, q⟩; exact ⟨p, hp, of_decide_eq_true q⟩
    · rintro ⟨p, hp, q⟩; exact ⟨p, hp, decide_eq_true q⟩
  by_cases hb : e ∈ es
  · rw [decide_eq_true hb]; exact h.mpr hb
  · rw [decide_eq_false hb]
    cases z : (aGet (kAL es) e).isSome with
    | false => rfl
    | true => exact absurd (h.mp z) hb
/-- is it an edge?  both say so -/
structure Vk (cs : Nat → Addr) (d : D) (b : Bool) : Prop where
  i1 : ∃ q, m_is_edge cs [.fz d] = .ok (.fz (.bl b)) q
  i2 : ∃ q, m__law_is_edge cs [.fz d] = .ok (.fz (.bl b)) q
  i3 : b = true → ∃ e, d = tupD e
theorem law_is_edge_ok (cs : Nat → Addr) {x y s : Int} (hs : s = 0 ∨ s = 1) : ∃ q, m__law_is_edge cs [.fz (tupD [x, y, s])] = .ok (.fz (.bl true)) q := by
  have ent : entry 2 [.fz (tupD [x, y, s])] = ⟨[.ow (.fz (tupD [x, y, s])), .un], [.fz (tupD [x, y, s])]⟩ := rfl
  have s2 : m__law_is_edge_2 cs ⟨[.ow (.fz (tupD [x, y, s])), .un], [.fz (tupD [x, y, s])]⟩ = .nx ⟨[.ow (.fz (tupD [x, y, s])), .un], [.fz (tupD [x, y, s])]⟩ :=
    Eq.trans (if_b (u := false) (or_r (not_b (test_v (calls_v (f := dIsi) (xs := [tupD [x, y, s], .ty "tuple"]) (y := .bl true) rfl rfl))) (op_t (f := dNe) (v := false) (calls_v (f := dLen) (xs := [tupD [x, y, s]]) (y := .int 3) rfl rfl) (y := .int 3) rfl rfl))) rfl
  have c : m__law_is_edge_c1 cs ⟨[.ow (.fz (tupD [x, y, s])), .un], [.fz (tupD [x, y, s])]⟩ = .ok (.ol (((([x, y, s] : List Int).filter fun _ => false).map fun _ => D.int 1).map .fz)) ⟨[.ow (.fz (tupD [x, y, s])), .un], [.fz (tupD [x, y, s])]⟩ :=
    mComp_of [x, y, s] D.int (fun _ => false) (fun _ => .int 1) (itup_v rfl) (by show 3 ≤ 16777216; decide) fun i _ => ⟨⟨[.ow (.fz (tupD [x, y, s])), .ow (.fz (.int i))], [.fz (tupD [x, y, s])]⟩, rfl, rfl, or_r (not_b (test_v (calls_v (f := dIsi) (xs := [.int i, .ty "int"]) (y := .bl true) rfl rfl))) (test_v (calls_v (f := dIsi) (xs := [.int i, .ty "bool"]) (y := .bl false) rfl rfl)), fun z => by cases z⟩
  have s4 : m__law_is_edge_4 cs ⟨[.ow (.fz (tupD [x, y, s])), .un], [.fz (tupD [x, y, s])]⟩ = .nx ⟨[.ow (.fz (tupD [x, y, s])), .un], [.fz (tupD [x, y, s])]⟩ :=
    Eq.trans (if_b (u := false) (op_t (f := dNe) (viewl_v c) (viewl_v (xs := []) rfl) (by with_unfolding_all rfl))) rfl
  refine ⟨_, def_rt (sd := ⟨[.ow (.fz (tupD [x, y, s])), .un], [.fz (tupD [x, y, s])]⟩) ent (seq_nx s2 (seq_nx s4 (ret_d (d := .bl true) (sd1 := ⟨[.ow (.fz (tupD [x, y, s])), .un], [.fz (tupD [x, y, s])]⟩) ?_)))⟩
  rcases hs with rfl | rfl <;> rfl
theorem vk_edge (cs : Nat → Addr) {e : List Int} (h : Eg e) : Vk cs (tupD e) true := by
  obtain ⟨x, y, s, rfl, hs, h1, h2⟩ := id h
  exact ⟨is_edge_ok cs h, law_is_edge_ok cs hs, fun _ => ⟨_, rfl⟩⟩
theorem fld_s {cs : Nat → Addr} {a : SD → ER D} {sd sd1 : SD} {es : List (List Int)} (h : a sd = .ok (PD cs es) sd1) : mFld (fun C => C == cs 0) "sorted_edges" a sd = .ok (.tup ((sortT es).map tupD)) sd1 := by
  unfold mFld
  rw [h]
  show (if (cs 0 == cs 0) = true then ER.opt (fldD "sorted_edges" ["known_edges", "sorted_edges"] [dicT (kAL es), .tup ((sortT es).map tupD)]) sd1 else .bad) = _
  rw [if_pos (by simp)]
  rfl
theorem fld_k {cs : Nat → Addr} {a : SD → ER D} {sd sd1 : SD} {es : List (List Int)} (h : a sd = .ok (PD cs es) sd1) : mFld (fun C => C == cs 0) "known_edges" a sd = .ok (dicT (kAL es)) sd1 := by
  unfold mFld
  rw [h]
  show (if (cs 0 == cs 0) = true then ER.opt (fldD "known_edges" ["known_edges", "sorted_edges"] [dicT (kAL es), .tup ((sortT es).map tupD)]) sd1 else .bad) = _
  rw [if_pos (by simp)]
  rfl
theorem pd_ins (cs : Nat → Addr) (es : List (List Int)) : (PD cs es).isIns (cs 0) = true := by simp [PD, D.isIns]
theorem pd_ty (cs : Nat → Addr) (es : List (List Int)) : ((PD cs es).tyv (okC cs)).isSome = true := by simp [PD, D.tyv, okC]
theorem isO {cs : Nat → Addr} {d : D} (h : (d.tyv (okC cs)).isSome = true) : dIsO (okC cs) (cs 0) [d, .cls (cs 0)] = some (.bl (d.isIns (cs 0))) := by
  obtain ⟨t, ht⟩ := Option.isSome_iff_exists.mp h
  show (if cs 0 = cs 0 then (d.tyv (okC cs)).map fun _ => D.bl (d.isIns (cs 0)) else none) = _
  rw [if_pos rfl, ht]
  rfl
theorem eq_pd (cs : Nat → Addr) (es fs : List (List Int)) : ∃ q, m_Picture___eq__ cs [.fz (PD cs es), .fz (PD cs fs)] = .ok (.fz (.bl (decide (sortT es = sortT fs)))) q := by
  have ent : entry 2 [.fz (PD cs es), .fz (PD cs fs)] = ⟨[.ow (.fz (PD cs es)), .ow (.fz (PD cs fs))], [.fz (PD cs es), .fz (PD cs fs)]⟩ := rfl
  refine ⟨_, def_rt (sd := ⟨[.ow (.fz (PD cs es)), .ow (.fz (PD cs fs))], [.fz (PD cs es), .fz (PD cs fs)]⟩) ent (ret_d ?_)⟩
  refine Eq.trans (andv_t (calls_v (f := dIsO (okC cs) (cs 0)) (xs := [PD cs fs, .cls (cs 0)]) rfl ?_)) ?_
  · rw [isO (pd_ty cs fs), pd_ins]
  · refine op_v (f := dEq) (fld_s rfl) (fld_s rfl) ?_
    show (dEqB _ _).map D.bl = _
    rw [T_eq]
    rfl
theorem eq_no (cs : Nat → Addr) (es : List (List Int)) {d : D} (h : d.isIns (cs 0) = false) (h2 : (d.tyv (okC cs)).isSome = true) : ∃ q, m_Picture___eq__ cs [.fz (PD cs es), .fz d] = .ok (.fz (.bl false)) q := by
  have ent : entry 2 [.fz (PD cs es), .fz d] = ⟨[.ow (.fz (PD cs es)), .ow (.fz d)], [.fz (PD cs es), .fz d]⟩ := rfl
  refine ⟨_, def_rt (sd := ⟨[.ow (.fz (PD cs es)), .ow (.fz d)], [.fz (PD cs es), .fz d]⟩) ent (ret_d ?_)⟩
  refine andv_f (calls_v (f := dIsO (okC cs) (cs 0)) (xs := [d, .cls (cs 0)]) rfl ?_)
  rw [isO h2, h]
theorem b2_v {cs : Nat → Addr} {neg : Bool} {a b : SD → ER D} {sd sd1 sd2 : SD} {es fs : List (List Int)} (ha : a sd = .ok (PD cs es) sd1) (hb : b sd1 = .ok (PD cs fs) sd2) : mB2 (okC cs) (cs 0) (m_Picture___eq__ cs) neg a b sd = .ok (.bl (decide (sortT es = sortT fs) != neg)) sd2 := by
  obtain ⟨q, e⟩ := eq_pd cs es fs
  unfold mB2
  rw [ha]
  simp only [ER.bind]
  rw [hb]
  simp only
  rw [if_pos ⟨pd_ins cs es, pd_ty cs fs⟩, e]
theorem b2_no {cs : Nat → Addr} {neg : Bool} {a b : SD → ER D} {sd sd1 sd2 : SD} {es : List (List Int)} {d : D} (ha : a sd = .ok (PD cs es) sd1) (hb : b sd1 = .ok d sd2) (h : d.isIns (cs 0) = false) (h2 : (d.tyv (okC cs)).isSome = true) : mB2 (okC cs) (cs 0) (m_Picture___eq__ cs) neg a b sd = .ok (.bl neg) sd2 := by
  obtain ⟨q, e⟩ := eq_no cs es h h2
  unfold mB2
  rw [ha]
  simp only [ER.bind]
  rw [hb]
  simp only
  rw [if_pos ⟨pd_ins cs es, h2⟩, e]
  cases neg <;> rfl
theorem len_v {cs : Nat → Addr} {a : SD → ER (List D)} {sd sd1 : SD} {es : List (List Int)} (ha : a sd = .ok [PD cs es] sd1) (hl : es.length ≤ 1000) : mLenO (cs 0) (m_Picture___len__ cs) a sd = .ok (.int es.length) sd1 := by
  have ent : entry 1 [.fz (PD cs es)] = ⟨[.ow (.fz (PD cs es))], [.fz (PD cs es)]⟩ := rfl
  have ln : dLen [.tup ((sortT es).map tupD)] = some (.int es.length) := by
    show some (D.int ((sortT es).map tupD).length) = _
    rw [List.length_map, (sortT_perm es).length_eq]
  have e : m_Picture___len__ cs [.fz (PD cs es)] = .ok (.fz (.int es.length)) ⟨[], [.fz (PD cs es)]⟩ :=
    def_rt (sd := ⟨[.ow (.fz (PD cs es))], [.fz (PD cs es)]⟩) ent (ret_d (calls_v (f := dLen) (cons_v (fld_s rfl) nil_v) ln))
  unfold mLenO
  rw [ha]
  simp only [ER.bind]
  rw [if_pos (pd_ins cs es), e]
  simp only
  rw [if_pos ⟨by omega, by omega⟩]
/-- value in picture -/
theorem in_v {cs : Nat → Addr} {a b : SD → ER D} {sd sd1 sd2 : SD} {es : List (List Int)} {d : D} {k : Bool} (ha : a sd = .ok d sd1) (hb : b sd1 = .ok (PD cs es) sd2) (v : Vk cs d k) :
    ∃ r : Bool, mIn2 (cs 0) (m_Picture___contains__ cs) false a b sd = .ok (.bl r) sd2 ∧ (k = false → r = false) ∧ ∀ e, d = tupD e → k = true → r = decide (e ∈ es) := by
  obtain ⟨q, i1⟩ := v.i1
  have ent : entry 2 [.fz (PD cs es), .fz d] = ⟨[.ow (.fz (PD cs es)), .ow (.fz d)], [.fz (PD cs es), .fz d]⟩ := rfl
  have go : ∀ r : Bool, m_Picture___contains__ cs [.fz (PD cs es), .fz d] = .ok (.fz (.bl r)) ⟨[], [.fz (PD cs es), .fz d]⟩ → mIn2 (cs 0) (m_Picture___contains__ cs) false a b sd = .ok (.bl r) sd2 := fun r e => by
    unfold mIn2
    rw [ha]
    simp only [ER.bind]
    rw [hb]
    simp only
    rw [if_pos (pd_ins cs es), e]
    simp
  have c1 : mView (mCall0 (m_is_edge cs) (mCons (mVar 1) mNil)) ⟨[.ow (.fz (PD cs es)), .ow (.fz d)], [.fz (PD cs es), .fz d]⟩ = .ok (.bl k) ⟨[.ow (.fz (PD cs es)), .ow (.fz d)], [.fz (PD cs es), .fz d]⟩ := view_v (call0_v (cons_v (x := d) rfl nil_v) i1)
  cases k with
  | false => exact ⟨false, go _ (def_rt (sd := ⟨[.ow (.fz (PD cs es)), .ow (.fz d)], [.fz (PD cs es), .fz d]⟩) ent (ret_d (andv_f c1))), fun _ => rfl, fun _ _ z => by cases z⟩
  | true =>
    obtain ⟨e, rfl⟩ := v.i3 rfl
    refine ⟨decide (e ∈ es), go _ (def_rt (sd := ⟨[.ow (.fz (PD cs es)), .ow (.fz (tupD e))], [.fz (PD cs es), .fz (tupD e)]⟩) ent (ret_d (Eq.trans (andv_t c1) ?_))), (fun z => by cases z), fun f hf _ => ?_⟩
    · unfold mInF
      show (mFld (fun C => C == cs 0) "known_edges" (mVar 0) ⟨[.ow (.fz (PD cs es)), .ow (.fz (tupD e))], [.fz (PD cs es), .fz (tupD e)]⟩).bind _ = _
      rw [fld_k (cs := cs) (a := mVar 0) (sd := ⟨[.ow (.fz (PD cs es)), .ow (.fz (tupD e))], [.fz (PD cs es), .fz (tupD e)]⟩) (es := es) rfl]
      show (match tupIs (tupD e), unD (dicT (kAL es)) with
        | some ns, some al => ER.ok (D.bl (xor false (aGet al ns).isSome)) _
        | _, _ => .bad) = _
      rw [tup_is, unD_dicT]
      dsimp only
      rw [in_kAL, Bool.false_xor]
    · have z := tup_is e
      rw [hf, tup_is] at z
      cases z
      rfl
theorem dl2 (a b c d : Int) : PySem.W.dataLt (.tuple [.int a, .int b]) (.tuple [.int c, .int d]) = if a = c then decide (b < d) else decide (a < c) := by
  rw [PySem.W.dataLt_tuple]
  by_cases h : a = c
  · rw [if_pos h, PySem.W.dataLt_all_yes rfl (by show decide (a = c) = true; exact decide_eq_true h)]
    by_cases h2 : b = d
    · rw [PySem.W.dataLt_all_yes rfl (by show decide (b = d) = true; exact decide_eq_true h2), decide_eq_false (by omega)]
      rfl
    · rw [PySem.W.dataLt_all_no rfl (by show decide (b = d) = false; exact decide_eq_false h2), PySem.W.dataLt_int]
  · rw [if_neg h, PySem.W.dataLt_all_no rfl (by show decide (a = c) = false; exact decide_eq_false h), PySem.W.dataLt_int]
theorem par_v {i j : Nat} {ma mb : SD → ER OT} {l : List S} {pa : List OT} {sd sd1 : SD} {t u : OT} (ha : ma sd = .ok t sd1) (hb : mb sd1 = .ok u ⟨l, pa⟩) (h : i < l.length ∧ j < l.length) : sPar i j ma mb sd = .nx ⟨(l.set i (.ow t)).set j (.ow u), pa⟩ := by
  unfold sPar
  rw [ha]
  show (mb sd1).stm _ = _
  rw [hb]
  show (if i < l.length ∧ j < l.length then _ else _) = _
  rw [if_pos h]
/-- what the law says -/
noncomputable def ab (i : Int) : Int := if i < 0 then -i else i
noncomputable def betw (a b c d : Int) : D := if ab (a - c) + ab (b - d) = 1 then tupD [min a c, min b d, ab (b - d)] else .non
theorem betw_comm (a b c d : Int) : betw c d a b = betw a b c d := by
  have e1 : ab (c - a) = ab (a - c) := by unfold ab; split <;> split <;> omega
  have e2 : ab (d - b) = ab (b - d) := by unfold ab; split <;> split <;> omega
  unfold betw
  rw [e1, e2, Int.min_comm c a, Int.min_comm d b]
/-- what the program finds from the lower point on -/
noncomputable def upto (a b c d : Int) : D := if a + 1 = c ∧ b = d then tupD [a, b, 0] else if a = c ∧ b + 1 = d then tupD [a, b, 1] else .non
theorem upto_is {a b c d : Int} (h : a < c ∨ (a = c ∧ b ≤ d)) : upto a b c d = betw a b c d := by
  unfold upto betw
  by_cases h1 : a + 1 = c ∧ b = d
  · obtain ⟨rfl, rfl⟩ := h1
    have e1 : ab (a - (a + 1)) = 1 := by unfold ab; split <;> omega
    have e2 : ab (b - b) = 0 := by unfold ab; split <;> omega
    rw [if_pos ⟨rfl, rfl⟩, e1, e2, if_pos (show (1 : Int) + 0 = 1 by decide), show min a (a + 1) = a by omega, show min b b = b by omega]
  · rw [if_neg h1]
    by_cases h2 : a = c ∧ b + 1 = d
    · obtain ⟨rfl, rfl⟩ := h2
      have e1 : ab (a - a) = 0 := by unfold ab; split <;> omega
      have e2 : ab (b - (b + 1)) = 1 := by unfold ab; split <;> omega
      rw [if_pos ⟨rfl, rfl⟩, e1, e2, if_pos (show (0 : Int) + 1 = 1 by decide), show min b (b + 1) = b by omega, show min a a = a by omega]
    · rw [if_neg h2, if_neg]
      unfold ab
      split <;> split <;> omega
theorem eq_pt (a b c d : Int) : dEq (tupD [a, b]) (tupD [c, d]) = some (.bl (decide (a = c) && decide (b = d))) := by
  show (dEqB (.tup [.int a, .int b]) (.tup [.int c, .int d])).map D.bl = _
  rw [eq_2]
  rfl
noncomputable def eiS (a b c d : Int) (lo hi x : S) : SD := ⟨[.ow (.fz (tupD [a, b])), .ow (.fz (tupD [c, d])), lo, hi, x], [.fz (tupD [a, b]), .fz (tupD [c, d])]⟩
theorem for_rt {it : SD → ER (List D)} {g : D → SD → Option SD} {body : SD → Fl} {a : D} {r : List D} {sd sd1 sda sdb : SD} {t : OT} (h : it sd = .ok (a :: r) sd1) (h1 : g a sd1 = some sda) (h2 : body sda = .rt t sdb) : sFor it g body sd = .rt t sdb := by
  unfold sFor
  rw [h]
  show goFor g body (a :: r) sd1 = _
  rw [goFor, h1]
  dsimp only
  rw [h2]
theorem for_rt2 {it : SD → ER (List D)} {g : D → SD → Option SD} {body : SD → Fl} {a b : D} {r : List D} {sd sd1 sda sdb sdc sdd : SD} {t : OT} (h : it sd = .ok (a :: b :: r) sd1) (h1 : g a sd1 = some sda) (h2 : body sda = .nx sdb) (h3 : g b sdb = some sdc) (h4 : body sdc = .rt t sdd) : sFor it g body sd = .rt t sdd := by
  unfold sFor
  rw [h]
  show goFor g body (a :: b :: r) sd1 = _
  rw [go_one h1 h2, goFor, h3]
  dsimp only
  rw [h4]
theorem ei_test (cs : Nat → Addr) {a b c d e f u v s : Int} (hs : s = 0 ∨ s = 1) : mTest (mOp dEq (mOp dIx (mView (mCall0 (m_ends_in cs) (mCons (mTup (mStar (mVar 2) (mCons (mVar 4) (mNil)))) (mNil)))) (mC (.int 1))) (mVar 3)) (eiS a b c d (.ow (.fz (tupD [e, f]))) (.ow (.fz (tupD [u, v]))) (.ow (.fz (.int s)))) = .ok (decide (e + 1 - s = u) && decide (f + s = v)) (eiS a b c d (.ow (.fz (tupD [e, f]))) (.ow (.fz (tupD [u, v]))) (.ow (.fz (.int s)))) := by
  obtain ⟨q, h⟩ := ends_in_ok cs (x := e) (y := f) hs
  have st : mStar (mVar 2) (mCons (mVar 4) (mNil)) (eiS a b c d (.ow (.fz (tupD [e, f]))) (.ow (.fz (tupD [u, v]))) (.ow (.fz (.int s)))) = .ok [.int e, .int f, .int s] (eiS a b c d (.ow (.fz (tupD [e, f]))) (.ow (.fz (tupD [u, v]))) (.ow (.fz (.int s)))) := rfl
  exact op_t (f := dEq) (op_v (f := dIx) (view_v (call0_v (cons_v (tup_v st (by show 3 ≤ 16777216; decide)) nil_v) h)) (y := .int 1) (z := tupD [e + 1 - s, f + s]) rfl rfl) (y := tupD [u, v]) rfl (eq_pt _ _ _ _)
theorem edge_in_ok (cs : Nat → Addr) (a b c d : Int) : ∃ q, m_edge_in cs [.fz (tupD [a, b]), .fz (tupD [c, d])] = .ok (.fz (betw a b c d)) q := by
  have ent : entry 5 [.fz (tupD [a, b]), .fz (tupD [c, d])] = eiS a b c d .un .un .un := rfl
  have ok : ok2B (.tuple [.int a, .int b]) (.tuple [.int c, .int d]) = true := rfl
  have lt : PySem.W.dataLt (.tuple [.int c, .int d]) (.tuple [.int a, .int b]) = decide (c < a ∨ (c = a ∧ d < b)) := by
    rw [dl2]
    by_cases h : c = a
    · rw [if_pos h]
      by_cases h2 : d < b
      · rw [decide_eq_true h2, decide_eq_true (.inr ⟨h, h2⟩)]
      · rw [decide_eq_false h2, decide_eq_false (by omega)]
    · rw [if_neg h]
      by_cases h2 : c < a
      · rw [decide_eq_true h2, decide_eq_true (.inl h2)]
      · rw [decide_eq_false h2, decide_eq_false (by omega)]
  have gt : PySem.W.dataLt (.tuple [.int a, .int b]) (.tuple [.int c, .int d]) = decide (a < c ∨ (a = c ∧ b < d)) := by
    rw [dl2]
    by_cases h : a = c
    · rw [if_pos h]
      by_cases h2 : b < d
      · rw [decide_eq_true h2, decide_eq_true (.inr ⟨h, h2⟩)]
      · rw [decide_eq_false h2, decide_eq_false (by omega)]
    · rw [if_neg h]
      by_cases h2 : a < c
      · rw [decide_eq_true h2, decide_eq_true (.inl h2)]
      · rw [decide_eq_false h2, decide_eq_false (by omega)]
  obtain ⟨e, f, u, v, mi, ma, ord, bt⟩ : ∃ e f u v : Int, dMin2 [tupD [a, b], tupD [c, d]] = some (tupD [e, f]) ∧ dMax2 [tupD [a, b], tupD [c, d]] = some (tupD [u, v]) ∧ (e < u ∨ (e = u ∧ f ≤ v)) ∧ betw e f u v = betw a b c d := by
    have e1 : dMin2 [tupD [a, b], tupD [c, d]] = some (if PySem.W.dataLt (.tuple [.int c, .int d]) (.tuple [.int a, .int b]) = true then tupD [c, d] else tupD [a, b]) := by
      show (if ok2B (.tuple [.int a, .int b]) (.tuple [.int c, .int d]) = true then some (if PySem.W.dataLt (.tuple [.int c, .int d]) (.tuple [.int a, .int b]) = true then tupD [c, d] else tupD [a, b]) else none) = _
      rw [if_pos ok]
    have e2 : dMax2 [tupD [a, b], tupD [c, d]] = some (if PySem.W.dataLt (.tuple [.int a, .int b]) (.tuple [.int c, .int d]) = true then tupD [c, d] else tupD [a, b]) := by
      show (if ok2B (.tuple [.int a, .int b]) (.tuple [.int c, .int d]) = true then some (if PySem.W.dataLt (.tuple [.int a, .int b]) (.tuple [.int c, .int d]) = true then tupD [c, d] else tupD [a, b]) else none) = _
      rw [if_pos ok]
    rw [lt] at e1
    rw [gt] at e2
    by_cases h : c < a ∨ (c = a ∧ d < b)
    · rw [decide_eq_true h] at e1
      rw [decide_eq_false (by omega)] at e2
      exact ⟨c, d, a, b, e1, e2, by omega, betw_comm a b c d⟩
    · rw [decide_eq_false h] at e1
      by_cases h2 : a < c ∨ (a = c ∧ b < d)
      · rw [decide_eq_true h2] at e2
        exact ⟨a, b, c, d, e1, e2, by omega, rfl⟩
      · rw [decide_eq_false h2] at e2
        have : a = c ∧ b = d := by omega
        obtain ⟨rfl, rfl⟩ := this
        exact ⟨a, b, a, b, e1, e2, .inr ⟨rfl, Int.le_refl _⟩, rfl⟩
  rw [← bt, ← upto_is ord]
  have s1 : m_edge_in_1 cs (eiS a b c d .un .un .un) = .nx (eiS a b c d (.ow (.fz (tupD [e, f]))) (.ow (.fz (tupD [u, v]))) .un) :=
    par_v (own_v (calls_v (f := dMin2) (xs := [tupD [a, b], tupD [c, d]]) rfl mi)) (own_v (calls_v (f := dMax2) (xs := [tupD [a, b], tupD [c, d]]) rfl ma)) (by show 2 < 5 ∧ 3 < 5; decide)
  have t0 := ei_test cs (a := a) (b := b) (c := c) (d := d) (e := e) (f := f) (u := u) (v := v) (s := 0) (.inl rfl)
  have t1 := ei_test cs (a := a) (b := b) (c := c) (d := d) (e := e) (f := f) (u := u) (v := v) (s := 1) (.inr rfl)
  have z0 : (decide (e + 1 - 0 = u) && decide (f + 0 = v)) = decide (e + 1 = u ∧ f = v) := by
    rw [Int.sub_zero, Int.add_zero]; simp
  have z1 : (decide (e + 1 - 1 = u) && decide (f + 1 = v)) = decide (e = u ∧ f + 1 = v) := by
    rw [Int.add_sub_cancel]; simp
  rw [z0] at t0
  rw [z1] at t1
  have it : iTuP (mTup (mCons (mC (.int 0)) (mCons (mC (.int 1)) (mNil)))) (eiS a b c d (.ow (.fz (tupD [e, f]))) (.ow (.fz (tupD [u, v]))) .un) = .ok [.int 0, .int 1] (eiS a b c d (.ow (.fz (tupD [e, f]))) (.ow (.fz (tupD [u, v]))) .un) := rfl
  unfold upto
  by_cases h0 : e + 1 = u ∧ f = v
  · rw [if_pos h0]
    rw [decide_eq_true h0] at t0
    refine ⟨_, def_rt (sd := eiS a b c d (.ow (.fz (tupD [e, f]))) (.ow (.fz (tupD [u, v]))) (.ow (.fz (.int 0)))) ent (seq_nx s1 ?_)⟩
    have l : m_edge_in_4 cs (eiS a b c d (.ow (.fz (tupD [e, f]))) (.ow (.fz (tupD [u, v]))) .un) = .rt (.fz (tupD [e, f, 0])) (eiS a b c d (.ow (.fz (tupD [e, f]))) (.ow (.fz (tupD [u, v]))) (.ow (.fz (.int 0)))) := by
      refine for_rt (g := tgN 4) (body := m_edge_in_b1 cs) it (sda := eiS a b c d (.ow (.fz (tupD [e, f]))) (.ow (.fz (tupD [u, v]))) (.ow (.fz (.int 0)))) rfl (Eq.trans (if_b t0) ?_)
      rw [if_pos rfl]
      exact ret_d (tup_v (xs := [.int e, .int f, .int 0]) rfl (by show 3 ≤ 16777216; decide))
    show (m_edge_in_4 cs _).seq _ = _
    rw [l]
    rfl
  · rw [if_neg h0]
    rw [decide_eq_false h0] at t0
    have b0 : m_edge_in_b1 cs (eiS a b c d (.ow (.fz (tupD [e, f]))) (.ow (.fz (tupD [u, v]))) (.ow (.fz (.int 0)))) = .nx (eiS a b c d (.ow (.fz (tupD [e, f]))) (.ow (.fz (tupD [u, v]))) (.ow (.fz (.int 0)))) := Eq.trans (if_b t0) rfl
    by_cases h1 : e = u ∧ f + 1 = v
    · rw [if_pos h1]
      rw [decide_eq_true h1] at t1
      refine ⟨_, def_rt (sd := eiS a b c d (.ow (.fz (tupD [e, f]))) (.ow (.fz (tupD [u, v]))) (.ow (.fz (.int 1)))) ent (seq_nx s1 ?_)⟩
      have l : m_edge_in_4 cs (eiS a b c d (.ow (.fz (tupD [e, f]))) (.ow (.fz (tupD [u, v]))) .un) = .rt (.fz (tupD [e, f, 1])) (eiS a b c d (.ow (.fz (tupD [e, f]))) (.ow (.fz (tupD [u, v]))) (.ow (.fz (.int 1)))) := by
        refine for_rt2 (g := tgN 4) (body := m_edge_in_b1 cs) it (sda := eiS a b c d (.ow (.fz (tupD [e, f]))) (.ow (.fz (tupD [u, v]))) (.ow (.fz (.int 0)))) rfl b0 (sdc := eiS a b c d (.ow (.fz (tupD [e, f]))) (.ow (.fz (tupD [u, v]))) (.ow (.fz (.int 1)))) rfl (Eq.trans (if_b t1) ?_)
        rw [if_pos rfl]
        exact ret_d (tup_v (xs := [.int e, .int f, .int 1]) rfl (by show 3 ≤ 16777216; decide))
      show (m_edge_in_4 cs _).seq _ = _
      rw [l]
      rfl
    · rw [if_neg h1]
      rw [decide_eq_false h1] at t1
      have b1 : m_edge_in_b1 cs (eiS a b c d (.ow (.fz (tupD [e, f]))) (.ow (.fz (tupD [u, v]))) (.ow (.fz (.int 1)))) = .nx (eiS a b c d (.ow (.fz (tupD [e, f]))) (.ow (.fz (tupD [u, v]))) (.ow (.fz (.int 1)))) := Eq.trans (if_b t1) rfl
      have l := for_two (g := tgN 4) (body := m_edge_in_b1 cs) it (sda := eiS a b c d (.ow (.fz (tupD [e, f]))) (.ow (.fz (tupD [u, v]))) (.ow (.fz (.int 0)))) rfl b0 (sdc := eiS a b c d (.ow (.fz (tupD [e, f]))) (.ow (.fz (tupD [u, v]))) (.ow (.fz (.int 1)))) rfl b1
      exact ⟨_, def_rt (sd := eiS a b c d (.ow (.fz (tupD [e, f]))) (.ow (.fz (tupD [u, v]))) (.ow (.fz (.int 1)))) ent (seq_nx s1 (seq_nx l rfl))⟩
theorem require_pt (cs : Nat → Addr) (x y : Int) : ∃ q, m_require_point cs [.fz (tupD [x, y])] = .ok (.fz .non) q := by
  obtain ⟨q3, ip⟩ := is_point_ok cs x y
  have ent : entry 1 [.fz (tupD [x, y])] = ⟨[.ow (.fz (tupD [x, y]))], [.fz (tupD [x, y])]⟩ := rfl
  exact ⟨_, def_nx (sd := ⟨[.ow (.fz (tupD [x, y]))], [.fz (tupD [x, y])]⟩) ent (Eq.trans (if_b (u := false) (not_b (test_v (v := true) (view_v (call0_v (cons_v (x := tupD [x, y]) rfl nil_v) ip))))) rfl)⟩
theorem edge_between_ok (cs : Nat → Addr) (a b c d : Int) : ∃ q, m_edge_between cs [.fz (tupD [a, b]), .fz (tupD [c, d])] = .ok (.fz (betw a b c d)) q := by
  have ent : entry 2 [.fz (tupD [a, b]), .fz (tupD [c, d])] = ⟨[.ow (.fz (tupD [a, b])), .ow (.fz (tupD [c, d]))], [.fz (tupD [a, b]), .fz (tupD [c, d])]⟩ := rfl
  obtain ⟨q1, r1⟩ := require_pt cs a b
  obtain ⟨q2, r2⟩ := require_pt cs c d
  obtain ⟨q3, r3⟩ := edge_in_ok cs a b c d
  exact ⟨_, def_rt ent (seq_nx (drop_v (view_v (call0_v (cons_v (x := tupD [a, b]) rfl nil_v) r1))) (seq_nx (drop_v (view_v (call0_v (cons_v (x := tupD [c, d]) rfl nil_v) r2))) (ret_o (call0_v (cons_v (x := tupD [a, b]) rfl (cons_v (x := tupD [c, d]) rfl nil_v)) r3))))⟩
theorem law_between_ok (cs : Nat → Addr) (a b c d : Int) : ∃ q, m__law_between cs [.fz (tupD [a, b]), .fz (tupD [c, d])] = .ok (.fz (betw a b c d)) q := by
  have ent : entry 4 [.fz (tupD [a, b]), .fz (tupD [c, d])] = ⟨[.ow (.fz (tupD [a, b])), .ow (.fz (tupD [c, d])), .un, .un], [.fz (tupD [a, b]), .fz (tupD [c, d])]⟩ := rfl
  have s1 : m__law_between_1 cs ⟨[.ow (.fz (tupD [a, b])), .ow (.fz (tupD [c, d])), .un, .un], [.fz (tupD [a, b]), .fz (tupD [c, d])]⟩ = .nx ⟨[.ow (.fz (tupD [a, b])), .ow (.fz (tupD [c, d])), .ow (.fz (.int (ab (a - c)))), .ow (.fz (.int (ab (b - d))))], [.fz (tupD [a, b]), .fz (tupD [c, d])]⟩ :=
    par_v (own_v (calls_v (f := dAbs) (cons_v (x := .int (a - c)) rfl nil_v) rfl)) (own_v (calls_v (f := dAbs) (cons_v (x := .int (b - d)) rfl nil_v) rfl)) (by show 2 < 4 ∧ 3 < 4; decide)
  have t : mTest (mOp dNe (mOp dAdd (mVar 2) (mVar 3)) (mC (.int 1))) ⟨[.ow (.fz (tupD [a, b])), .ow (.fz (tupD [c, d])), .ow (.fz (.int (ab (a - c)))), .ow (.fz (.int (ab (b - d))))], [.fz (tupD [a, b]), .fz (tupD [c, d])]⟩ = .ok (!decide (ab (a - c) + ab (b - d) = 1)) ⟨[.ow (.fz (tupD [a, b])), .ow (.fz (tupD [c, d])), .ow (.fz (.int (ab (a - c)))), .ow (.fz (.int (ab (b - d))))], [.fz (tupD [a, b]), .fz (tupD [c, d])]⟩ :=
    op_t (f := dNe) (op_v (f := dAdd) (x := .int (ab (a - c))) (y := .int (ab (b - d))) (z := .int (ab (a - c) + ab (b - d))) rfl rfl rfl) (y := .int 1) rfl rfl
  unfold betw
  by_cases h : ab (a - c) + ab (b - d) = 1
  · rw [if_pos h]
    rw [decide_eq_true h] at t
    exact ⟨_, def_rt (sd := ⟨[.ow (.fz (tupD [a, b])), .ow (.fz (tupD [c, d])), .ow (.fz (.int (ab (a - c)))), .ow (.fz (.int (ab (b - d))))], [.fz (tupD [a, b]), .fz (tupD [c, d])]⟩) ent (seq_nx s1 (seq_nx (Eq.trans (if_b t) rfl) (ret_d (tup_v (xs := [.int (min a c), .int (min b d), .int (ab (b - d))]) rfl (by show 3 ≤ 16777216; decide)))))⟩
  · rw [if_neg h]
    rw [decide_eq_false h] at t
    refine ⟨_, def_rt (sd := ⟨[.ow (.fz (tupD [a, b])), .ow (.fz (tupD [c, d])), .ow (.fz (.int (ab (a - c)))), .ow (.fz (.int (ab (b - d))))], [.fz (tupD [a, b]), .fz (tupD [c, d])]⟩) ent (seq_nx s1 ?_)⟩
    have l : m__law_between_3 cs ⟨[.ow (.fz (tupD [a, b])), .ow (.fz (tupD [c, d])), .ow (.fz (.int (ab (a - c)))), .ow (.fz (.int (ab (b - d))))], [.fz (tupD [a, b]), .fz (tupD [c, d])]⟩ = .rt (.fz .non) ⟨[.ow (.fz (tupD [a, b])), .ow (.fz (tupD [c, d])), .ow (.fz (.int (ab (a - c)))), .ow (.fz (.int (ab (b - d))))], [.fz (tupD [a, b]), .fz (tupD [c, d])]⟩ := Eq.trans (if_b t) rfl
    show (m__law_between_3 cs _).seq _ = _
    rw [l]
    rfl
noncomputable def EgB (B : Nat) (e : List Int) : Prop := ∃ x y s : Int, e = [x, y, s] ∧ (s = 0 ∨ s = 1) ∧ x.natAbs ≤ B ∧ y.natAbs ≤ B
theorem EgB.ne {B : Nat} {e : List Int} (h : EgB B e) : e ≠ [] := by obtain ⟨x, y, s, rfl, _⟩ := h; simp
theorem EgB.mono {B C : Nat} {e : List Int} (h : EgB B e) (k : B ≤ C) : EgB C e := by
  obtain ⟨x, y, s, rfl, hs, h1, h2⟩ := h
  exact ⟨x, y, s, rfl, hs, by omega, by omega⟩
noncomputable def BB : Nat := 10000000000000000000000000000000000000000
theorem EgB.eg {e : List Int} (h : EgB (BB + 10) e) : Eg e := by
  have big : BB + 10 < 2 ^ 999 := by decide +kernel
  obtain ⟨x, y, s, rfl, hs, h1, h2⟩ := h
  exact ⟨x, y, s, rfl, hs, by omega, by omega⟩
noncomputable def shf (a b : Int) : List Int → List Int
  | [x, y, s] => [x + a, y + b, s]
  | l => l
theorem EgB.shf {B C : Nat} {e : List Int} {a b : Int} (h : EgB B e) (ha : a.natAbs ≤ C) (hb : b.natAbs ≤ C) : EgB (B + C) (shf a b e) := by
  obtain ⟨x, y, s, rfl, hs, hx, hy⟩ := h
  exact ⟨x + a, y + b, s, rfl, hs, by omega, by omega⟩
theorem ddT_len : ∀ l : List (List Int), (ddT l).length ≤ l.length
  | [] => Nat.le_refl _
  | x :: r => by
    rw [ddT]
    have := ddT_len r
    split
    · rw [List.length_cons]; omega
    · rw [List.length_cons, List.length_cons]; omega
theorem nodup_of_len : ∀ {l : List (List Int)}, (ddT l).length = l.length → l.Nodup
  | [], _ => List.nodup_nil
  | x :: r, h => by
    rw [ddT] at h
    have := ddT_len r
    split at h
    · rw [List.length_cons] at h; omega
    · rename_i n
      rw [List.length_cons, List.length_cons] at h
      exact List.nodup_cons.mpr ⟨fun z => n (mem_ddT.mpr z), nodup_of_len (by omega)⟩
theorem ls_D {ks : List (List Int)} (h : ∀ k ∈ ks, k ≠ []) (hl : ks.length ≤ 1000) : dLS [.lst (ks.map tupD)] = some (.int (ddT ks).length) := by
  show (tupsOf (ks.map tupD)).bind (fun ps => if ps.length ≤ 1000 then some (D.int (ddT ps).length) else none) = _
  rw [tups_of h]
  show (if ks.length ≤ 1000 then _ else _) = _
  rw [if_pos hl]
theorem cut_map {α β : Type} (f : α → β) (xs : List α) (lo hi : Option Int) : cutL (xs.map f) lo hi = (cutL xs lo hi).map f := by
  unfold cutL
  rw [List.length_map, List.map_take, List.map_drop]
theorem cut_mem {α : Type} {xs : List α} {lo hi : Option Int} {x : α} (h : x ∈ cutL xs lo hi) : x ∈ xs := List.mem_of_mem_drop (List.mem_of_mem_take h)
theorem cut_len {α : Type} (xs : List α) (lo hi : Option Int) : (cutL xs lo hi).length ≤ xs.length := by
  unfold cutL
  rw [List.length_take, List.length_drop]
  omega
theorem neq_t (e f : List Int) : dNe (tupD e) (tupD f) = some (.bl (!decide (e = f))) := by
  show (dEqB (tI e) (tI f)).map _ = _
  rw [eq_tI]
  rfl
noncomputable def oS (cs : Nat → Addr) (es : List (List Int)) (s2 s3 s4 s5 s6 s7 s8 s9 s10 s11 : S) : SD :=
  ⟨[.ow (.fz (PD cs es)), .ow (.fz (.lst (es.map tupD))), s2, s3, s4, s5, s6, s7, s8, s9, s10, s11], [.fz (PD cs es), .fz (.lst (es.map tupD))]⟩
theorem lst_ne (es : List (List Int)) : dNe (.lst (es.map tupD)) (.lst []) = some (.bl (!decide (es = []))) := by
  show (dEqB _ _).map _ = _
  have := L_eq es []
  rw [show (D.lst []) = .lst (([] : List (List Int)).map tupD) from rfl, this]
  rfl
theorem same_bl (b : Bool) : dNe (.bl b) (.bl b) = some (.bl false) := by cases b <;> rfl
theorem sorted_v {a : SD → ER D} {sd sd1 : SD} {ks : List (List Int)} (h : ∀ k ∈ ks, k ≠ []) (ha : a sd = .ok (.lst (ks.map tupD)) sd1) : mView (mCallL dSortT (mCons a mNil)) sd = .ok (.lst ((sortT ks).map tupD)) sd1 :=
  viewl_v (calll_v (cons_v ha nil_v) (sort_D h))
theorem made_v {cs : Nat → Addr} {a : SD → ER D} {sd sd1 : SD} {es : List (List Int)} (h : ∀ e ∈ es, Eg e) (nd : es.Nodup) (hl : es.length ≤ 1000) (ha : a sd = .ok (.lst (es.map tupD)) sd1) : mView (mMake (cs 0) (m_Picture___init__ cs) (mCons a mNil)) sd = .ok (PD cs es) sd1 := by
  obtain ⟨t, e, v⟩ := make_v (cs := cs) h nd hl (cons_v ha nil_v)
  rw [view_v e, v]
section
variable {cs : Nat → Addr} {es : List (List Int)} (h : ∀ e ∈ es, EgB BB e) (nd : es.Nodup) (hl : es.length ≤ 400) {s2 s3 s4 s5 s6 s7 s8 s9 s10 s11 : S}
include h in
theorem all_eg : ∀ e ∈ es, Eg e := fun e he => ((h e he).mono (Nat.le_add_right _ _)).eg
include h nd hl in
theorem ot1 : m__law_others_right_1 cs (oS cs es .un .un .un .un .un .un .un .un .un .un) = .nx (oS cs es (.ow (.fz (PD cs es.reverse))) (.ow (.fz (PD cs (es.drop 1)))) .un .un .un .un .un .un .un .un) := by
  have p1 : mView (mPick (qFz (mVar 1)) (oNone) (oNone) (oSome (mUn dNeg (mC (.int 1))))) (oS cs es .un .un .un .un .un .un .un .un .un .un) = .ok (.lst (es.reverse.map tupD)) (oS cs es .un .un .un .un .un .un .un .un .un .un) := by
    rw [List.map_reverse, ← pick_rev]
    exact viewl_v rfl
  have p2 : mCutX (mVar 1) (oSome (mC (.int 1))) (oNone) (oS cs es .un .un .un .un .un .un .un .un .un .un) = .ok (.lst ((es.drop 1).map tupD)) (oS cs es .un .un .un .un .un .un .un .un .un .un) := by
    rw [List.map_drop, ← cut_from1]
    rfl
  have m1 := own_v (made_v (cs := cs) (es := es.reverse) (fun e he => all_eg h e (List.mem_reverse.mp he)) ((List.reverse_perm es).nodup_iff.mpr nd) (by rw [List.length_reverse]; omega) p1)
  have m2 := own_v (made_v (cs := cs) (es := es.drop 1) (fun e he => all_eg h e (List.mem_of_mem_drop he)) (nd.sublist (List.drop_sublist 1 es)) (by rw [List.length_drop]; omega) p2)
  exact par_v m1 m2 (by show 2 < 12 ∧ 3 < 12; decide)
noncomputable def chg (es : List (List Int)) : List (List Int) := (es.filter fun e => !decide (e = [5, 5, 0])) ++ (if [5, 5, 1] ∈ es then [] else [[5, 5, 1]])
include h in
theorem chg_eg : ∀ e ∈ chg es, EgB BB e := fun e he => by
  rcases List.mem_append.mp he with q | q
  · exact h e (List.mem_filter.mp q).1
  · split at q
    · cases q
    · rw [List.mem_singleton.mp q]
      exact ⟨5, 5, 1, rfl, .inr rfl, by decide +kernel, by decide +kernel⟩
include nd in
theorem chg_nd : (chg es).Nodup := by
  unfold chg
  refine List.nodup_append.mpr ⟨nd.sublist List.filter_sublist, ?_, fun a ha b hb => ?_⟩
  · split
    · exact List.nodup_nil
    · exact List.pairwise_singleton _ _
  · split at hb
    · cases hb
    · rename_i n
      rw [List.mem_singleton.mp hb]
      exact fun z => n (z ▸ (List.mem_filter.mp ha).1)
include hl in
theorem chg_len : (chg es).length ≤ 500 := by
  unfold chg
  rw [List.length_append]
  have := List.length_filter_le (fun e : List Int => !decide (e = [5, 5, 0])) es
  split
  · show _ + 0 ≤ 500; omega
  · show _ + 1 ≤ 500; omega
include h hl in
theorem ot2 : m__law_others_right_2 cs (oS cs es s2 s3 .un .un .un .un .un .un .un .un) = .nx (oS cs es s2 s3 (.ow (.fz (.lst ((chg es).map tupD)))) .un .un .un .un .un .un .un) := by
  have c1 : m__law_others_right_c1 cs (oS cs es s2 s3 .un .un .un .un .un .un .un .un) = .ok (.ol (((es.filter fun e => !decide (e = [5, 5, 0])).map tupD).map .fz)) (oS cs es s2 s3 .un .un .un .un .un .un .un .un) :=
    mComp_of es tupD (fun e => !decide (e = [5, 5, 0])) tupD (ilst_v rfl) (by omega) fun e he => ⟨oS cs es s2 s3 .un (.ow (.fz (tupD e))) .un .un .un .un .un .un, rfl, rfl, op_t (f := dNe) (x := tupD e) (y := tupD [5, 5, 0]) rfl rfl (neq_t _ _), fun _ => rfl⟩
  have i2 : mCall dInt2 (mCons (mOp (dInL true) (mTup (mCons (mC (.int 5)) (mCons (mC (.int 5)) (mCons (mC (.int 1)) (mNil))))) (mVar 1)) (mNil)) (oS cs es s2 s3 .un .un .un .un .un .un .un .un) = .ok (.int (if [5, 5, 1] ∈ es then 0 else 1)) (oS cs es s2 s3 .un .un .un .un .un .un .un .un) := by
    refine calls_v (cons_v (op_v (f := dInL true) (x := tupD [5, 5, 1]) (y := .lst (es.map tupD)) rfl rfl (inL_D true [5, 5, 1] es)) nil_v) ?_
    by_cases z : [5, 5, 1] ∈ es
    · rw [decide_eq_true z, if_pos z]; rfl
    · rw [decide_eq_false z, if_neg z]; rfl
  have rep : mRepO (mLst (mCons (mTup (mCons (mC (.int 5)) (mCons (mC (.int 5)) (mCons (mC (.int 1)) (mNil))))) (mNil))) (mCall dInt2 (mCons (mOp (dInL true) (mTup (mCons (mC (.int 5)) (mCons (mC (.int 5)) (mCons (mC (.int 1)) (mNil))))) (mVar 1)) (mNil))) (oS cs es s2 s3 .un .un .un .un .un .un .un .un) = .ok (.ol (((if [5, 5, 1] ∈ es then ([] : List (List Int)) else [[5, 5, 1]]).map tupD).map .fz)) (oS cs es s2 s3 .un .un .un .un .un .un .un .un) := by
    unfold mRepO
    show (ER.ok (OT.ol [.fz (tupD [5, 5, 1])]) (oS cs es s2 s3 .un .un .un .un .un .un .un .un)).bind _ = _
    show (mCall dInt2 _ (oS cs es s2 s3 .un .un .un .un .un .un .un .un)).bind _ = _
    rw [i2]
    by_cases z : [5, 5, 1] ∈ es
    · rw [if_pos z, if_pos z]; rfl
    · rw [if_neg z, if_neg z]; rfl
  have ct := fz_v (cat_v (qnew_v c1) (qnew_v rep) (by
    have := chg_len (es := es) hl
    unfold chg at this
    rw [List.length_append] at this
    rw [List.length_map, List.length_map]
    omega))
  rw [view_ol, ← List.map_append] at ct
  exact set_o ct (by show 4 < 12; decide)
theorem ot4 : m__law_others_right_4 cs (oS cs es (.ow (.fz (PD cs es.reverse))) s3 s4 s5 s6 s7 s8 s9 s10 s11) = .nx (oS cs es (.ow (.fz (PD cs es.reverse))) s3 s4 s5 s6 s7 s8 s9 s10 s11) := by
  have e : sortT es = sortT es.reverse := sortT_perm_eq (List.reverse_perm es).symm
  have b := fun n : Bool => b2_v (cs := cs) (neg := n) (a := mVar 0) (b := mVar 2) (sd := oS cs es (.ow (.fz (PD cs es.reverse))) s3 s4 s5 s6 s7 s8 s9 s10 s11) (es := es) (fs := es.reverse) rfl rfl
  have t := fun n => test_v (b n)
  have t0 := t false
  have t1 := t true
  rw [decide_eq_true e] at t0 t1
  exact Eq.trans (if_b (u := false) (or_r (not_b t0) t1)) rfl
theorem less_ne (hne : es ≠ []) : sortT es ≠ sortT (es.drop 1) := fun z => by
  have := congrArg List.length z
  rw [(sortT_perm _).length_eq, (sortT_perm _).length_eq, List.length_drop] at this
  have := List.length_pos_iff.mpr hne
  omega
theorem ot6 : m__law_others_right_6 cs (oS cs es s2 (.ow (.fz (PD cs (es.drop 1)))) s4 s5 s6 s7 s8 s9 s10 s11) = .nx (oS cs es s2 (.ow (.fz (PD cs (es.drop 1)))) s4 s5 s6 s7 s8 s9 s10 s11) := by
  have t : mTest (mOp dNe (mVar 1) (mView (mLst (mNil)))) (oS cs es s2 (.ow (.fz (PD cs (es.drop 1)))) s4 s5 s6 s7 s8 s9 s10 s11) = .ok (!decide (es = [])) (oS cs es s2 (.ow (.fz (PD cs (es.drop 1)))) s4 s5 s6 s7 s8 s9 s10 s11) := op_t (f := dNe) (x := .lst (es.map tupD)) rfl (viewl_v (xs := []) rfl) (lst_ne es)
  have ans : mAnd (mTest (mOp dNe (mVar 1) (mView (mLst (mNil))))) (mOr (mTest (mB2 (okC cs) (cs 0) (m_Picture___eq__ cs) false (mVar 0) (mVar 3))) (mNot (mTest (mB2 (okC cs) (cs 0) (m_Picture___eq__ cs) true (mVar 0) (mVar 3))))) (oS cs es s2 (.ow (.fz (PD cs (es.drop 1)))) s4 s5 s6 s7 s8 s9 s10 s11) = .ok false (oS cs es s2 (.ow (.fz (PD cs (es.drop 1)))) s4 s5 s6 s7 s8 s9 s10 s11) := by
    unfold mAnd
    rw [t]
    by_cases e : es = []
    · rw [decide_eq_true e]; rfl
    · rw [decide_eq_false e]
      have b := fun n : Bool => test_v (b2_v (cs := cs) (neg := n) (a := mVar 0) (b := mVar 3) (sd := oS cs es s2 (.ow (.fz (PD cs (es.drop 1)))) s4 s5 s6 s7 s8 s9 s10 s11) (es := es) (fs := es.drop 1) rfl rfl)
      have t0 := b false
      have t1 := b true
      rw [decide_eq_false (less_ne e)] at t0 t1
      exact or_r t0 (not_b t1)
  exact Eq.trans (if_b ans) rfl
/-- == and sorted say the same of two lists -/
theorem both_eq {a : SD → ER D} {i : Nat} {fs : List (List Int)} (hes : ∀ e ∈ es, e ≠ []) (hf : ∀ e ∈ fs, Eg e) (nf : fs.Nodup) (lf : fs.length ≤ 1000) {sd : SD} (h0 : mVar 0 sd = .ok (PD cs es) sd) (h1 : mVar 1 sd = .ok (.lst (es.map tupD)) sd) (hi : mVar i sd = .ok (.lst (fs.map tupD)) sd) :
    mTest (mOp dNe (mB2 (okC cs) (cs 0) (m_Picture___eq__ cs) false (mVar 0) (mView (mMake (cs 0) (m_Picture___init__ cs) (mCons (mVar i) (mNil))))) (mOp dEq (mView (mCallL dSortT (mCons (mVar 1) (mNil)))) (mView (mCallL dSortT (mCons (mVar i) (mNil)))))) sd = .ok false sd ∧
    mTest (mOp dNe (mB2 (okC cs) (cs 0) (m_Picture___eq__ cs) false (mVar 0) (mView (mMake (cs 0) (m_Picture___init__ cs) (mCons (mVar i) (mNil))))) (mOp dEq (mView (mCallL dSortT (mCons (mVar i) (mNil)))) (mView (mCallL dSortT (mCons (mVar 1) (mNil)))))) sd = .ok false sd ∧
    mTest (mOp dNe (mB2 (okC cs) (cs 0) (m_Picture___eq__ cs) true (mView (mMake (cs 0) (m_Picture___init__ cs) (mCons (mVar i) (mNil)))) (mVar 0)) (mOp dNe (mView (mCallL dSortT (mCons (mVar i) (mNil)))) (mView (mCallL dSortT (mCons (mVar 1) (mNil)))))) sd = .ok false sd := by
  have mk := made_v (cs := cs) hf nf lf hi
  have so1 := sorted_v hes h1
  have so2 := sorted_v (fun e he => (hf e he).ne) hi
  have b1 := b2_v (cs := cs) (neg := false) h0 mk
  have b2 := b2_v (cs := cs) (neg := true) mk h0
  have d1 : dEq (.lst ((sortT es).map tupD)) (.lst ((sortT fs).map tupD)) = some (.bl (decide (sortT es = sortT fs))) := by show (dEqB _ _).map _ = _; rw [L_eq]; rfl
  have d2 : dEq (.lst ((sortT fs).map tupD)) (.lst ((sortT es).map tupD)) = some (.bl (decide (sortT fs = sortT es))) := by show (dEqB _ _).map _ = _; rw [L_eq]; rfl
  have d3 : dNe (.lst ((sortT fs).map tupD)) (.lst ((sortT es).map tupD)) = some (.bl (!decide (sortT fs = sortT es))) := by show (dEqB _ _).map _ = _; rw [L_eq]; rfl
  have c : decide (sortT fs = sortT es) = decide (sortT es = sortT fs) := by
    by_cases z : sortT es = sortT fs
    · rw [decide_eq_true z, decide_eq_true z.symm]
    · rw [decide_eq_false z, decide_eq_false fun y => z y.symm]
  refine ⟨op_t (f := dNe) b1 (op_v (f := dEq) so1 so2 d1) ?_, op_t (f := dNe) b1 (op_v (f := dEq) so2 so1 d2) ?_, op_t (f := dNe) b2 (op_v (f := dNe) so2 so1 d3) ?_⟩
  · cases decide (sortT es = sortT fs) <;> rfl
  · rw [c]; cases decide (sortT es = sortT fs) <;> rfl
  · cases decide (sortT fs = sortT es) <;> rfl
include h nd hl in
theorem ot8 : m__law_others_right_8 cs (oS cs es s2 s3 (.ow (.fz (.lst ((chg es).map tupD)))) s5 s6 s7 s8 s9 s10 s11) = .nx (oS cs es s2 s3 (.ow (.fz (.lst ((chg es).map tupD)))) s5 s6 s7 s8 s9 s10 s11) := by
  have z := (both_eq (cs := cs) (es := es) (a := mVar 1) (i := 4) (fs := chg es) (fun e he => (h e he).ne) (fun e he => ((chg_eg h e he).mono (Nat.le_add_right _ _)).eg) (chg_nd nd) (by have := chg_len (es := es) hl; omega) (sd := oS cs es s2 s3 (.ow (.fz (.lst ((chg es).map tupD)))) s5 s6 s7 s8 s9 s10 s11) rfl rfl rfl).1
  exact Eq.trans (if_b z) rfl
end
section
variable {cs : Nat → Addr} {es : List (List Int)} (h : ∀ e ∈ es, EgB BB e) (nd : es.Nodup) (hl : es.length ≤ 400) {s2 s3 s4 s5 s6 s7 s8 s9 s10 s11 : S}
/-- some edges, moved a little -/
structure Near (l : List (List Int)) : Prop where
  eg : ∀ e ∈ l, EgB (BB + 10) e
  len : l.length ≤ 1000
noncomputable def LD (LL : List (List (List Int))) : D := .lst (LL.map fun l => .lst (l.map tupD))
include hl in
theorem ot9 : ∃ k : Nat, k ≤ 133 ∧ m__law_others_right_9 cs (oS cs es s2 s3 s4 s5 .un s7 s8 s9 s10 s11) = .nx (oS cs es s2 s3 s4 s5 (.ow (.fz (.int (k : Int)))) s7 s8 s9 s10 s11) := by
  have d1 := Int.mul_fdiv_add_fmod (es.length : Int) 3
  have d2 := Int.fmod_nonneg_of_pos (es.length : Int) (show (0 : Int) < 3 by decide)
  have d3 : 0 ≤ (es.length : Int).fdiv 3 := Int.fdiv_nonneg (Int.natCast_nonneg _) (by decide)
  refine ⟨((es.length : Int).fdiv 3).toNat, by omega, ?_⟩
  rw [Int.toNat_of_nonneg d3]
  have v : mOp dDiv (mCall dLen (mCons (mVar 1) (mNil))) (mC (.int 3)) (oS cs es s2 s3 s4 s5 .un s7 s8 s9 s10 s11) = .ok (.int ((es.length : Int).fdiv 3)) (oS cs es s2 s3 s4 s5 .un s7 s8 s9 s10 s11) :=
    op_v (f := dDiv) (calls_v (f := dLen) (xs := [.lst (es.map tupD)]) (y := .int es.length) rfl (by show some (D.int (es.map tupD).length) = _; rw [List.length_map])) (y := .int 3) rfl (div_ok (a := 8) (by decide) (by decide) (by decide))
  exact set_d v (by show 6 < 12; decide)
/-- a comprehension that moves edges -/
theorem mv {it : SD → ER (List D)} {ma mb : SD → ER D} {a b : Int} {L : List (List Int)} (hL : ∀ e ∈ L, EgB BB e) (hl : L.length ≤ 1000)
    (hi : it (oS cs es s2 s3 s4 s5 s6 s7 s8 s9 s10 s11) = .ok (L.map tupD) (oS cs es s2 s3 s4 s5 s6 s7 s8 s9 s10 s11))
    (h1 : ∀ x y s : Int, ma (oS cs es s2 s3 s4 s5 s6 s7 (.ow (.fz (.int x))) (.ow (.fz (.int y))) (.ow (.fz (.int s))) s11) = .ok (.int (x + a)) (oS cs es s2 s3 s4 s5 s6 s7 (.ow (.fz (.int x))) (.ow (.fz (.int y))) (.ow (.fz (.int s))) s11))
    (h2 : ∀ x y s : Int, mb (oS cs es s2 s3 s4 s5 s6 s7 (.ow (.fz (.int x))) (.ow (.fz (.int y))) (.ow (.fz (.int s))) s11) = .ok (.int (y + b)) (oS cs es s2 s3 s4 s5 s6 s7 (.ow (.fz (.int x))) (.ow (.fz (.int y))) (.ow (.fz (.int s))) s11)) :
    mComp it (tgT 3 (tgCons (tgN 8) (tgCons (tgN 9) (tgCons (tgN 10) (tgNil))))) (mYes) (mTup (mCons ma (mCons mb (mCons (mVar 10) (mNil))))) [8, 9, 10] (oS cs es s2 s3 s4 s5 s6 s7 s8 s9 s10 s11) = .ok (.ol (((L.map (shf a b)).map tupD).map .fz)) (oS cs es s2 s3 s4 s5 s6 s7 s8 s9 s10 s11) := by
  rw [show (L.map (shf a b)).map tupD = L.map fun e => tupD (shf a b e) by rw [List.map_map]; rfl]
  refine mComp_map L tupD (fun e => tupD (shf a b e)) hi (by omega) fun e he => ?_
  obtain ⟨x, y, s, rfl, _⟩ := hL e he
  exact ⟨oS cs es s2 s3 s4 s5 s6 s7 (.ow (.fz (.int x))) (.ow (.fz (.int y))) (.ow (.fz (.int s))) s11, rfl, rfl, tup_v (cons_v (h1 x y s) (cons_v (h2 x y s) (cons_v (x := .int s) (a := mVar 10) rfl nil_v))) (by show 3 ≤ 16777216; decide)⟩
theorem near_mv {L : List (List Int)} {a b : Int} (hL : ∀ e ∈ L, EgB BB e) (hl : L.length ≤ 1000) (ha : a.natAbs ≤ 10) (hb : b.natAbs ≤ 10) : Near (L.map (shf a b)) :=
  ⟨fun e he => by
    obtain ⟨f, hf, rfl⟩ := List.mem_map.mp he
    exact (hL f hf).shf ha hb, by rw [List.length_map]; exact hl⟩
include h hl in
theorem ot10 : ∃ LL : List (List (List Int)), LL.length = 2 ∧ (∀ l ∈ LL, Near l) ∧ m__law_others_right_10 cs (oS cs es s2 s3 s4 s5 s6 .un .un .un .un .un) = .nx (oS cs es s2 s3 s4 s5 s6 (.ow (.fz (LD LL))) .un .un .un .un) := by
  have c3 := mv (cs := cs) (es := es) (s2 := s2) (s3 := s3) (s4 := s4) (s5 := s5) (s6 := s6) (s7 := .un) (s8 := .un) (s9 := .un) (s10 := .un) (s11 := .un) (it := iLst (mVar 1)) (ma := mOp dAdd (mVar 8) (mC (.int 1))) (mb := mVar 9) (a := 1) (b := 0) h (by omega) (ilst_v rfl) (fun _ _ _ => rfl) (fun x y s => by rw [Int.add_zero]; rfl)
  have c2 := mv (cs := cs) (es := es) (s2 := s2) (s3 := s3) (s4 := s4) (s5 := s5) (s6 := s6) (s7 := .un) (s8 := .un) (s9 := .un) (s10 := .un) (s11 := .un) (it := iLst (mVar 1)) (ma := mVar 8) (mb := mOp dSub (mVar 9) (mC (.int 3))) (a := 0) (b := -3) h (by omega) (ilst_v rfl) (fun x y s => by rw [Int.add_zero]; rfl) (fun _ _ _ => rfl)
  have l := fz_v (lst_v (cons_v (viewl_v c3) (cons_v (viewl_v c2) nil_v)) (by show 2 ≤ 16777216; decide))
  rw [view_ol] at l
  refine ⟨[es.map (shf 1 0), es.map (shf 0 (-3))], rfl, fun l hm => ?_, set_o l (by show 7 < 12; decide)⟩
  simp only [List.mem_cons, List.not_mem_nil, or_false] at hm
  rcases hm with rfl | rfl
  · exact near_mv h (by omega) (by decide) (by decide)
  · exact near_mv h (by omega) (by decide) (by decide)
theorem near_app {a b : List (List Int)} (h1 : ∀ e ∈ a, EgB (BB + 10) e) (h2 : ∀ e ∈ b, EgB (BB + 10) e) (hl : a.length + b.length ≤ 1000) : Near (a ++ b) :=
  ⟨fun e he => (List.mem_append.mp he).elim (h1 e) (h2 e), by rw [List.length_append]; exact hl⟩
theorem add_ld {LL : List (List (List Int))} {l : List (List Int)} : (LL.map fun l => D.lst (l.map tupD)) ++ [.lst (l.map tupD)] = (LL ++ [l]).map fun l => D.lst (l.map tupD) := by rw [List.map_append]; rfl
include h hl in
theorem ot11 {k : Nat} (hk : k ≤ 133) {LL : List (List (List Int))} (hL : LL.length = 2) (hn : ∀ l ∈ LL, Near l) : ∃ l, Near l ∧ m__law_others_right_11 cs (oS cs es s2 s3 s4 s5 (.ow (.fz (.int (k : Int)))) (.ow (.fz (LD LL))) .un .un .un .un) = .nx (oS cs es s2 s3 s4 s5 (.ow (.fz (.int (k : Int)))) (.ow (.fz (LD (LL ++ [l])))) .un .un .un .un) := by
  let sd := oS cs es s2 s3 s4 s5 (.ow (.fz (.int (k : Int)))) (.ow (.fz (LD LL))) .un .un .un .un
  have p1 : mCut (qFz (mVar 1)) (oNone) (oSome (mVar 6)) sd = .ok (.ol (((es.take k).map tupD).map .fz)) sd := by
    rw [List.map_take, ← cut_toN]; rfl
  have p2 : iLst (mCutX (mVar 1) (oSome (mVar 6)) (oSome (mOp dAdd (mVar 6) (mC (.int 1))))) sd = .ok ((cutL es (some (k : Int)) (some ((k : Int) + 1))).map tupD) sd := by
    rw [← cut_map]; rfl
  have p3 : mCut (qFz (mVar 1)) (oSome (mOp dAdd (mVar 6) (mC (.int 1)))) (oNone) sd = .ok (.ol (((cutL es (some ((k : Int) + 1)) none).map tupD).map .fz)) sd := by
    rw [← cut_map]; rfl
  have c4 := mv (cs := cs) (es := es) (s2 := s2) (s3 := s3) (s4 := s4) (s5 := s5) (s6 := .ow (.fz (.int (k : Int)))) (s7 := .ow (.fz (LD LL))) (s8 := .un) (s9 := .un) (s10 := .un) (s11 := .un) (it := iLst (mCutX (mVar 1) (oSome (mVar 6)) (oSome (mOp dAdd (mVar 6) (mC (.int 1)))))) (ma := mOp dAdd (mVar 8) (mC (.int 1))) (mb := mVar 9) (a := 1) (b := 0) (L := cutL es (some (k : Int)) (some ((k : Int) + 1))) (fun e he => h e (cut_mem he)) (by have := cut_len es (some (k : Int)) (some ((k : Int) + 1)); omega) p2 (fun _ _ _ => rfl) (fun x y s => by rw [Int.add_zero]; rfl)
  have n1 : (es.take k).length ≤ 133 := by rw [List.length_take]; omega
  have n2 := cut_len es (some (k : Int)) (some ((k : Int) + 1))
  have n3 := cut_len es (some ((k : Int) + 1)) none
  have ct1 := cat_v (qnew_v p1) (qnew_v c4) (by rw [List.length_map, List.length_map, List.length_map]; omega)
  rw [← List.map_append] at ct1
  have ct2 := cat_v (qnew_v ct1) (qnew_v p3) (by rw [List.length_map, List.length_append, List.length_map, List.length_map]; omega)
  rw [← List.map_append] at ct2
  have one := lst_v (cons_v (viewl_v ct2) nil_v) (by show 1 ≤ 16777216; decide)
  have all := fz_v (cat_v (qfz_v (a := mVar 7) (sd := sd) (xs := LL.map fun l => D.lst (l.map tupD)) rfl) (qnew_v one) (by rw [List.length_map, hL]; show 2 + 1 ≤ _; omega))
  rw [view_ol, add_ld] at all
  refine ⟨_, near_app (fun e he => ?_) (fun e he => ?_) ?_, set_o all (by show 7 < 12; decide)⟩
  · rcases List.mem_append.mp he with q | q
    · exact (h e (List.mem_of_mem_take q)).mono (Nat.le_add_right _ _)
    · obtain ⟨f, hf, rfl⟩ := List.mem_map.mp q
      exact (h f (cut_mem hf)).shf (by decide) (by decide)
  · exact (h e (cut_mem he)).mono (Nat.le_add_right _ _)
  · rw [List.length_append, List.length_map]; omega
include h hl in
theorem ot12 {LL : List (List (List Int))} (hL : LL.length = 3) : ∃ l m, Near l ∧ Near m ∧ m__law_others_right_12 cs (oS cs es s2 s3 s4 s5 s6 (.ow (.fz (LD LL))) .un .un .un .un) = .nx (oS cs es s2 s3 s4 s5 s6 (.ow (.fz (LD (LL ++ [l, m])))) .un .un .un .un) := by
  let sd := oS cs es s2 s3 s4 s5 s6 (.ow (.fz (LD LL))) .un .un .un .un
  have p1 : mCut (qFz (mVar 1)) (oNone) (oSome (mUn dNeg (mC (.int 1)))) sd = .ok (.ol (((cutL es none (some (-1))).map tupD).map .fz)) sd := by
    rw [← cut_map]; rfl
  have p2 : iLst (mCutX (mVar 1) (oSome (mUn dNeg (mC (.int 1)))) (oNone)) sd = .ok ((cutL es (some (-1)) none).map tupD) sd := by
    rw [← cut_map]; rfl
  have p3 : mCut (qFz (mVar 1)) (oSome (mC (.int 1))) (oNone) sd = .ok (.ol (((cutL es (some 1) none).map tupD).map .fz)) sd := by
    rw [← cut_map]; rfl
  have c5 := mv (cs := cs) (es := es) (s2 := s2) (s3 := s3) (s4 := s4) (s5 := s5) (s6 := s6) (s7 := .ow (.fz (LD LL))) (s8 := .un) (s9 := .un) (s10 := .un) (s11 := .un) (it := iLst (mCutX (mVar 1) (oSome (mUn dNeg (mC (.int 1)))) (oNone))) (ma := mVar 8) (mb := mOp dAdd (mVar 9) (mC (.int 1))) (a := 0) (b := 1) (L := cutL es (some (-1)) none) (fun e he => h e (cut_mem he)) (by have := cut_len es (some (-1)) none; omega) p2 (fun x y s => by rw [Int.add_zero]; rfl) (fun _ _ _ => rfl)
  have n1 := cut_len es none (some (-1))
  have n2 := cut_len es (some (-1)) none
  have n3 := cut_len es (some 1) none
  have ct1 := cat_v (qnew_v p1) (qnew_v c5) (by rw [List.length_map, List.length_map, List.length_map]; omega)
  rw [← List.map_append] at ct1
  have e7 : mLst (mCons (mTup (mCons (mC (.int 7)) (mCons (mC (.int 8)) (mCons (mC (.int 1)) (mNil))))) (mNil)) sd = .ok (.ol (([[7, 8, 1]].map tupD).map .fz)) sd := rfl
  have ct2 := cat_v (qnew_v p3) (qnew_v e7) (by rw [List.length_map, List.length_map]; show _ + 1 ≤ _; omega)
  rw [← List.map_append] at ct2
  have two := lst_v (cons_v (viewl_v ct1) (cons_v (viewl_v ct2) nil_v)) (by show 2 ≤ 16777216; decide)
  have all := fz_v (cat_v (qfz_v (a := mVar 7) (sd := sd) (xs := LL.map fun l => D.lst (l.map tupD)) rfl) (qnew_v two) (by rw [List.length_map, hL]; show 3 + 2 ≤ _; omega))
  rw [view_ol, show ∀ l m : List (List Int), (LL.map fun l => D.lst (l.map tupD)) ++ [.lst (l.map tupD), .lst (m.map tupD)] = (LL ++ [l, m]).map fun l => D.lst (l.map tupD) from fun l m => by rw [List.map_append]; rfl] at all
  refine ⟨_, _, near_app (fun e he => (h e (cut_mem he)).mono (Nat.le_add_right _ _)) (fun e he => ?_) ?_, near_app (fun e he => (h e (cut_mem he)).mono (Nat.le_add_right _ _)) (fun e he => ?_) ?_, set_o all (by show 7 < 12; decide)⟩
  · obtain ⟨f, hf, rfl⟩ := List.mem_map.mp he
    exact (h f (cut_mem hf)).shf (by decide) (by decide)
  · rw [List.length_map]; omega
  · rw [List.mem_singleton.mp he]
    exact ⟨7, 8, 1, rfl, .inr rfl, by decide +kernel, by decide +kernel⟩
  · show _ + 1 ≤ 1000; omega
include h in
theorem ot17 {LL : List (List (List Int))} (hL : LL.length = 5) (hn : ∀ l ∈ LL, Near l) : ∃ s11, m__law_others_right_17 cs (oS cs es s2 s3 s4 s5 s6 (.ow (.fz (LD LL))) .un .un .un .un) = .nx (oS cs es s2 s3 s4 s5 s6 (.ow (.fz (LD LL))) .un .un .un s11) := by
  have c6 : m__law_others_right_c6 cs (oS cs es s2 s3 s4 s5 s6 (.ow (.fz (LD LL))) .un .un .un .un) = .ok (.ol (((LL.filter fun l => decide (((ddT l).length : Int) = l.length)).map fun l => D.lst (l.map tupD)).map .fz)) (oS cs es s2 s3 s4 s5 s6 (.ow (.fz (LD LL))) .un .un .un .un) :=
    mComp_of LL (fun l => D.lst (l.map tupD)) (fun l => decide (((ddT l).length : Int) = l.length)) (fun l => D.lst (l.map tupD)) (ilst_v rfl) (by omega) fun l hm => by
      refine ⟨oS cs es s2 s3 s4 s5 s6 (.ow (.fz (LD LL))) .un .un .un (.ow (.fz (.lst (l.map tupD)))), rfl, rfl, ?_, fun _ => rfl⟩
      exact op_t (f := dEq) (calls_v (f := dLS) (xs := [.lst (l.map tupD)]) rfl (ls_D (fun e he => ((hn l hm).eg e he).ne) (hn l hm).len)) (calls_v (f := dLen) (xs := [.lst (l.map tupD)]) (y := .int l.length) rfl (by show some (D.int (l.map tupD).length) = _; rw [List.length_map])) rfl
  have it := ilst_v (viewl_v c6)
  obtain ⟨sd', q, s11, e, _⟩ := sFor_inv (g := tgN 11) (body := m__law_others_right_b1 cs) _ (fun l : List (List Int) => D.lst (l.map tupD)) (fun r sd => ∃ s11, sd = oS cs es s2 s3 s4 s5 s6 (.ow (.fz (LD LL))) .un .un .un s11 ∧ ∀ l ∈ r, Near l ∧ l.Nodup) it ⟨.un, rfl, fun l hm => by
      obtain ⟨h1, h2⟩ := List.mem_filter.mp hm
      have h2 := of_decide_eq_true h2
      exact ⟨hn l h1, nodup_of_len (by omega)⟩⟩ (by
    rintro l r sd ⟨s11, rfl, hr⟩
    obtain ⟨nl, ndl⟩ := hr l List.mem_cons_self
    obtain ⟨_, t1, t2⟩ := both_eq (cs := cs) (es := es) (a := mVar 1) (i := 11) (fs := l) (fun e he => (h e he).ne) (fun e he => (nl.eg e he).eg) ndl nl.len (sd := oS cs es s2 s3 s4 s5 s6 (.ow (.fz (LD LL))) .un .un .un (.ow (.fz (.lst (l.map tupD))))) rfl rfl rfl
    refine ⟨_, _, rfl, .inl (seq_nx (Eq.trans (if_b t1) rfl) (Eq.trans (if_b t2) rfl)), _, rfl, fun l hm => hr l (List.mem_cons_of_mem _ hm)⟩)
  subst e
  exact ⟨s11, q⟩
theorem ot18 {ks : List (List Int)} (hk : ks = es) : m__law_others_right_18 cs (oS cs es s2 s3 s4 s5 s6 s7 .un .un .un s11) = .rt (.fz (.bl true)) (oS cs es s2 s3 s4 s5 s6 s7 .un .un .un s11) := by
  have c7 : m__law_others_right_c7 cs (oS cs es s2 s3 s4 s5 s6 s7 .un .un .un s11) = .ok (.ol ((([D.non, .int 0, .lst (es.map tupD), .tup (es.map tupD), .dic false [] [], .str ""].filter fun _ => false).map fun _ => D.int 1).map .fz)) (oS cs es s2 s3 s4 s5 s6 s7 .un .un .un s11) := by
    have it : iLst (mView (mLst (mCons (mC .non) (mCons (mC (.int 0)) (mCons (mVar 1) (mCons (mCallT dTupOf (mCons (mVar 1) (mNil))) (mCons (mDict0) (mCons (mC (.str "")) (mNil))))))))) (oS cs es s2 s3 s4 s5 s6 s7 .un .un .un s11) = .ok ([D.non, .int 0, .lst (es.map tupD), .tup (es.map tupD), .dic false [] [], .str ""].map id) (oS cs es s2 s3 s4 s5 s6 s7 .un .un .un s11) :=
      ilst_v (viewl_v (lst_v (cons_v (x := .non) (a := mC .non) rfl (cons_v (x := .int 0) (a := mC (.int 0)) rfl (cons_v (x := .lst (es.map tupD)) (a := mVar 1) rfl (cons_v (callt_v (f := dTupOf) (cons_v (x := .lst (es.map tupD)) (a := mVar 1) rfl nil_v) rfl) (cons_v (x := .dic false [] []) (a := mDict0) rfl (cons_v (x := .str "") (a := mC (.str "")) rfl nil_v)))))) (by show 6 ≤ 16777216; decide)))
    refine mComp_of [D.non, .int 0, .lst (es.map tupD), .tup (es.map tupD), .dic false [] [], .str ""] id (fun _ => false) (fun _ => .int 1) it (by show 6 ≤ 16777216; decide) fun d hd => ?_
    have hd : d.isIns (cs 0) = false ∧ (d.tyv (okC cs)).isSome = true := by
      simp only [List.mem_cons, List.not_mem_nil, or_false] at hd
      rcases hd with rfl | rfl | rfl | rfl | rfl | rfl <;> exact ⟨rfl, rfl⟩
    have t := fun n : Bool => test_v (b2_no (cs := cs) (neg := n) (a := mVar 0) (b := mVar 11) (sd := oS cs es s2 s3 s4 s5 s6 s7 .un .un .un (.ow (.fz d))) (es := es) (d := d) rfl rfl hd.1 hd.2)
    exact ⟨oS cs es s2 s3 s4 s5 s6 s7 .un .un .un (.ow (.fz d)), rfl, rfl, or_r (t false) (not_b (t true)), fun z => by cases z⟩
  refine ret_d (op_v (f := dEq) (viewl_v c7) (viewl_v (xs := []) rfl) ?_)
  with_unfolding_all rfl
end
theorem others_ok (cs : Nat → Addr) {es : List (List Int)} (h : ∀ e ∈ es, EgB BB e) (nd : es.Nodup) (hl : es.length ≤ 400) : ∃ q, m__law_others_right cs [.fz (PD cs es), .fz (.lst (es.map tupD))] = .ok (.fz (.bl true)) q := by
  have ent : entry 12 [.fz (PD cs es), .fz (.lst (es.map tupD))] = oS cs es .un .un .un .un .un .un .un .un .un .un := rfl
  have q1 := ot1 (cs := cs) h nd hl
  have q2 := ot2 (cs := cs) h hl (s2 := .ow (.fz (PD cs es.reverse))) (s3 := .ow (.fz (PD cs (es.drop 1))))
  have q4 := ot4 (cs := cs) (es := es) (s3 := .ow (.fz (PD cs (es.drop 1)))) (s4 := .ow (.fz (.lst ((chg es).map tupD)))) (s5 := .un) (s6 := .un) (s7 := .un) (s8 := .un) (s9 := .un) (s10 := .un) (s11 := .un)
  have q6 := ot6 (cs := cs) (es := es) (s2 := .ow (.fz (PD cs es.reverse))) (s4 := .ow (.fz (.lst ((chg es).map tupD)))) (s5 := .un) (s6 := .un) (s7 := .un) (s8 := .un) (s9 := .un) (s10 := .un) (s11 := .un)
  have q8 := ot8 (cs := cs) h nd hl (s2 := .ow (.fz (PD cs es.reverse))) (s3 := .ow (.fz (PD cs (es.drop 1)))) (s5 := .un) (s6 := .un) (s7 := .un) (s8 := .un) (s9 := .un) (s10 := .un) (s11 := .un)
  obtain ⟨k, hk, q9⟩ := ot9 (cs := cs) (es := es) hl (s2 := .ow (.fz (PD cs es.reverse))) (s3 := .ow (.fz (PD cs (es.drop 1)))) (s4 := .ow (.fz (.lst ((chg es).map tupD)))) (s5 := .un) (s7 := .un) (s8 := .un) (s9 := .un) (s10 := .un) (s11 := .un)
  obtain ⟨LL, hL, hn, q10⟩ := ot10 (cs := cs) h hl (s2 := .ow (.fz (PD cs es.reverse))) (s3 := .ow (.fz (PD cs (es.drop 1)))) (s4 := .ow (.fz (.lst ((chg es).map tupD)))) (s5 := .un) (s6 := .ow (.fz (.int (k : Int))))
  obtain ⟨l, nl, q11⟩ := ot11 (cs := cs) h hl (s2 := .ow (.fz (PD cs es.reverse))) (s3 := .ow (.fz (PD cs (es.drop 1)))) (s4 := .ow (.fz (.lst ((chg es).map tupD)))) (s5 := .un) hk hL hn
  obtain ⟨l2, m2, nl2, nm2, q12⟩ := ot12 (cs := cs) h hl (s2 := .ow (.fz (PD cs es.reverse))) (s3 := .ow (.fz (PD cs (es.drop 1)))) (s4 := .ow (.fz (.lst ((chg es).map tupD)))) (s5 := .un) (s6 := .ow (.fz (.int (k : Int)))) (LL := LL ++ [l]) (by rw [List.length_append, hL]; rfl)
  obtain ⟨s11, q17⟩ := ot17 (cs := cs) h (s2 := .ow (.fz (PD cs es.reverse))) (s3 := .ow (.fz (PD cs (es.drop 1)))) (s4 := .ow (.fz (.lst ((chg es).map tupD)))) (s5 := .un) (s6 := .ow (.fz (.int (k : Int)))) (LL := LL ++ [l] ++ [l2, m2]) (by rw [List.length_append, List.length_append, hL]; rfl) (fun x hx => by
    rcases List.mem_append.mp hx with z | z
    · rcases List.mem_append.mp z with y | y
      · exact hn x y
      · rw [List.mem_singleton.mp y]; exact nl
    · simp only [List.mem_cons, List.not_mem_nil, or_false] at z
      rcases z with rfl | rfl
      · exact nl2
      · exact nm2)
  have q18 := ot18 (cs := cs) (es := es) (s2 := .ow (.fz (PD cs es.reverse))) (s3 := .ow (.fz (PD cs (es.drop 1)))) (s4 := .ow (.fz (.lst ((chg es).map tupD)))) (s5 := .un) (s6 := .ow (.fz (.int (k : Int)))) (s7 := .ow (.fz (LD (LL ++ [l] ++ [l2, m2])))) (s11 := s11) rfl
  exact ⟨_, def_rt ent (seq_nx q1 (seq_nx q2 (seq_nx q4 (seq_nx q6 (seq_nx q8 (seq_nx q9 (seq_nx q10 (seq_nx q11 (seq_nx q12 (seq_nx q17 q18))))))))))⟩
noncomputable def Z1 : List D := [.non, .int 0, .bl true, .str "", .tup [], .lst [], .dic false [] [], .tup [.int 0, .int 0], tupD [0, 0, 0], tupD [0, 0, 1], tupD [0, 0, 2], tupD [0, 0, -1], .lst [.int 0, .int 0, .int 0]]
noncomputable def Z2 : List D := [.tup [.int 0, .int 0, .bl true], .tup [.bl false, .int 0, .int 0], .tup [.int 0, .bl true, .int 1], .tup [.non, .int 0, .int 0], .tup [.int 0, .int 0, .non], .tup [.str "0", .int 0, .int 0], .tup [.int 0, .int 0, .int 0, .int 0]]
noncomputable def Z3 : List D := [.tup [.tup [.int 0, .int 0], .int 0], tupD [1000000000000000000000000000000000000000000000000000000000000, 0 - 1000000000000000000000000000000000000000000000000000000000000, 1], .tup [.int 0, .lst [], .int 0], .tup [.int 0, .int 0, .lst []], .tup [.dic false [] [], .int 0, .int 0], .str "000"]
theorem values_ok (cs : Nat → Addr) {es : List (List Int)} (hl : es.length ≤ 400) : m__law_values cs [.ol ((es.map tupD).map .fz)] = .ok (.ol (((Z1 ++ Z2 ++ Z3) ++ (es.take 9).map tupD).map .fz)) ⟨[], [.ol ((es.map tupD).map .fz)]⟩ := by
  have ent : entry 2 [.ol ((es.map tupD).map .fz)] = ⟨[.pa 0, .un], [.ol ((es.map tupD).map .fz)]⟩ := rfl
  have s1 : m__law_values_1 cs ⟨[.pa 0, .un], [.ol ((es.map tupD).map .fz)]⟩ = .nx ⟨[.pa 0, .ow (.fz (.lst Z1))], [.ol ((es.map tupD).map .fz)]⟩ := rfl
  have s2 : m__law_values_2 cs ⟨[.pa 0, .ow (.fz (.lst Z1))], [.ol ((es.map tupD).map .fz)]⟩ = .nx ⟨[.pa 0, .ow (.fz (.lst (Z1 ++ Z2)))], [.ol ((es.map tupD).map .fz)]⟩ := rfl
  let sd : SD := ⟨[.pa 0, .ow (.fz (.lst (Z1 ++ Z2)))], [.ol ((es.map tupD).map .fz)]⟩
  have e60 : mOp dPow (mC (.int 10)) (mC (.int 60)) sd = .ok (.int 1000000000000000000000000000000000000000000000000000000000000) sd := op_v (f := dPow) (x := .int 10) (y := .int 60) rfl rfl (p10 (k := 60) (by decide))
  have m60 := op_v (f := dSub) (a := mC (.int 0)) (sd := sd) (x := .int 0) rfl e60 (z := .int (0 - 1000000000000000000000000000000000000000000000000000000000000)) rfl
  have tp := tup_v (cons_v e60 (cons_v m60 (cons_v (x := .int 1) (a := mC (.int 1)) rfl nil_v))) (by show 3 ≤ 16777216; decide)
  have z3 := lst_v (cons_v (x := .tup [.tup [.int 0, .int 0], .int 0]) (a := mTup (mCons (mTup (mCons (mC (.int 0)) (mCons (mC (.int 0)) (mNil)))) (mCons (mC (.int 0)) (mNil)))) (sd := sd) rfl (cons_v tp (cons_v (x := .tup [.int 0, .lst [], .int 0]) (a := mTup (mCons (mC (.int 0)) (mCons (mView (mLst (mNil))) (mCons (mC (.int 0)) (mNil))))) rfl (cons_v (x := .tup [.int 0, .int 0, .lst []]) (a := mTup (mCons (mC (.int 0)) (mCons (mC (.int 0)) (mCons (mView (mLst (mNil))) (mNil))))) rfl (cons_v (x := .tup [.dic false [] [], .int 0, .int 0]) (a := mTup (mCons (mDict0) (mCons (mC (.int 0)) (mCons (mC (.int 0)) (mNil))))) rfl (cons_v (x := .str "000") (a := mC (.str "000")) rfl nil_v)))))) (by show 6 ≤ 16777216; decide)
  have c1 := cat_v (qfz_v (a := mVar 1) (sd := sd) (xs := Z1 ++ Z2) rfl) (qnew_v z3) (by show 26 ≤ 16777216; decide)
  have see : qSee 0 sd = .ok (es.map tupD) sd := by
    show ER.opt (fzOf ((es.map tupD).map OT.fz)) sd = _
    rw [fzOf_fz]
    rfl
  have ct : mCut (qSee 0) (oNone) (oSome (mC (.int 9))) sd = .ok (.ol (((es.take 9).map tupD).map .fz)) sd := by
    unfold mCut
    rw [see]
    show ER.ok (OT.ol ((cutL (es.map tupD) none (some (9 : Int))).map .fz)) sd = _
    rw [show cutL (es.map tupD) none (some (9 : Int)) = (es.take 9).map tupD from (cut_toN (es.map tupD) 9).trans List.map_take.symm]
  have all := cat_v (qnew_v c1) (qnew_v ct) (by rw [List.length_map, List.length_take]; show 26 + _ ≤ 16777216; omega)
  exact def_rt (sd := sd) ent (seq_nx s1 (seq_nx s2 (ret_o all)))
theorem zoo_vk (cs : Nat → Addr) : ∀ d ∈ Z1 ++ Z2 ++ Z3, ∃ k, Vk cs d k := by
  have no : ∀ {d : D}, (∃ q, m_is_edge cs [.fz d] = .ok (.fz (.bl false)) q) → (∃ q, m__law_is_edge cs [.fz d] = .ok (.fz (.bl false)) q) → ∃ k, Vk cs d k := fun h1 h2 => ⟨false, h1, h2, fun z => by cases z⟩
  have small : ∀ n : Nat, n ≤ 1000000000000000000000000000000000000000000000000000000000000 → n < 2 ^ 999 := fun n hn => Nat.lt_of_le_of_lt hn (by decide +kernel)
  intro d hd
  simp only [Z1, Z2, Z3, List.mem_append, List.mem_cons, List.not_mem_nil, or_false, List.cons_append, List.nil_append] at hd
  rcases hd with rfl | rfl | rfl | rfl | rfl | rfl | rfl | rfl | rfl | rfl | rfl | rfl | rfl | rfl | rfl | rfl | rfl | rfl | rfl | rfl | rfl | rfl | rfl | rfl | rfl | rfl
  · exact no ⟨_, rfl⟩ ⟨_, rfl⟩
  · exact no ⟨_, rfl⟩ ⟨_, rfl⟩
  · exact no ⟨_, rfl⟩ ⟨_, rfl⟩
  · exact no ⟨_, rfl⟩ ⟨_, rfl⟩
  · exact no ⟨_, rfl⟩ ⟨_, rfl⟩
  · exact no ⟨_, rfl⟩ ⟨_, rfl⟩
  · exact no ⟨_, rfl⟩ ⟨_, rfl⟩
  · exact no ⟨_, rfl⟩ ⟨_, rfl⟩
  · exact ⟨true, vk_edge cs ⟨0, 0, 0, rfl, .inl rfl, small _ (by decide), small _ (by decide)⟩⟩
  · exact ⟨true, vk_edge cs ⟨0, 0, 1, rfl, .inr rfl, small _ (by decide), small _ (by decide)⟩⟩
  · exact no ⟨_, by with_unfolding_all rfl⟩ ⟨_, by with_unfolding_all rfl⟩
  · exact no ⟨_, by with_unfolding_all rfl⟩ ⟨_, by with_unfolding_all rfl⟩
  · exact no ⟨_, rfl⟩ ⟨_, rfl⟩
  · exact no ⟨_, by with_unfolding_all rfl⟩ ⟨_, by with_unfolding_all rfl⟩
  · exact no ⟨_, by with_unfolding_all rfl⟩ ⟨_, by with_unfolding_all rfl⟩
  · exact no ⟨_, by with_unfolding_all rfl⟩ ⟨_, by with_unfolding_all rfl⟩
  · exact no ⟨_, by with_unfolding_all rfl⟩ ⟨_, by with_unfolding_all rfl⟩
  · exact no ⟨_, by with_unfolding_all rfl⟩ ⟨_, by with_unfolding_all rfl⟩
  · exact no ⟨_, by with_unfolding_all rfl⟩ ⟨_, by with_unfolding_all rfl⟩
  · exact no ⟨_, by with_unfolding_all rfl⟩ ⟨_, by with_unfolding_all rfl⟩
  · exact no ⟨_, by with_unfolding_all rfl⟩ ⟨_, by with_unfolding_all rfl⟩
  · exact ⟨true, vk_edge cs ⟨_, _, 1, rfl, .inr rfl, small _ (by decide), small _ (by decide)⟩⟩
  · exact no ⟨_, by with_unfolding_all rfl⟩ ⟨_, by with_unfolding_all rfl⟩
  · exact no ⟨_, by with_unfolding_all rfl⟩ ⟨_, by with_unfolding_all rfl⟩
  · exact no ⟨_, by with_unfolding_all rfl⟩ ⟨_, by with_unfolding_all rfl⟩
  · exact no ⟨_, rfl⟩ ⟨_, rfl⟩
noncomputable def rT (a : Addr) (es : List (List Int)) (s2 s3 s4 s5 s6 s7 : S) : SD := ⟨[.ow (.fz (.cls a)), .pa 1, s2, s3, s4, s5, s6, s7], [.fz (.cls a), .ol ((es.map tupD).map .fz)]⟩
noncomputable def rL (a : Addr) (es : List (List Int)) (s2 s3 s4 s5 s6 s7 : S) : SD := ⟨[.ow (.fz (.cls a)), .ow (.fz (.lst (es.map tupD))), s2, s3, s4, s5, s6, s7], [.fz (.cls a), .fz (.lst (es.map tupD))]⟩
theorem nls_map {α : Type} (f : α → D) : ∀ {xs : List α}, (∀ x ∈ xs, (f x).nl = true) → D.nls (xs.map f) = true
  | [], _ => by rw [List.map_nil, D.nls]
  | x :: r, h => by
    rw [List.map_cons, D.nls, h x List.mem_cons_self, nls_map f fun y hy => h y (List.mem_cons_of_mem _ hy)]
    rfl
theorem tup_nl (k : List Int) : (tupD k).nl = true := by
  show (D.tup (k.map D.int)).nl = true
  rw [D.nl]
  exact nls_map _ fun _ _ => rfl
theorem pd_nl (cs : Nat → Addr) (es : List (List Int)) : (PD cs es).nl = true := by
  have h1 : (dicT (kAL es)).nl = true := by
    unfold dicT
    rw [D.nl]
    refine nls_map _ fun p hp => ?_
    unfold kAL at hp
    obtain ⟨e, _, rfl⟩ := List.mem_map.mp hp
    rfl
  have h2 : (D.tup ((sortT es).map tupD)).nl = true := by
    rw [D.nl]
    exact nls_map _ fun k _ => tup_nl k
  unfold PD
  rw [D.nl, D.nls, D.nls, D.nls, h1, h2]
  rfl
theorem lend_v {m : SD → ER D} {a : Addr} {es : List (List Int)} {s2 s3 s4 s5 s6 s7 : S} {d : D} {s : SD} (h : m (rL a es s2 s3 s4 s5 s6 s7) = .ok d s) (hn : d.nl = true) : mLend 1 m (rT a es s2 s3 s4 s5 s6 s7) = .ok d (rT a es s2 s3 s4 s5 s6 s7) := by
  show (match fzOf ((es.map tupD).map OT.fz) with
    | some ds => match m (lent (rT a es s2 s3 s4 s5 s6 s7) 1 1 ds) with
      | .ok d _ => if d.nl = true then ER.ok d (rT a es s2 s3 s4 s5 s6 s7) else .bad
      | _ => .bad
    | none => .bad) = _
  rw [fzOf_fz]
  show (match m (rL a es s2 s3 s4 s5 s6 s7) with
    | .ok d _ => if d.nl = true then ER.ok d (rT a es s2 s3 s4 s5 s6 s7) else .bad
    | _ => .bad) = _
  rw [h]
  show (if d.nl = true then _ else _) = _
  rw [if_pos hn]
theorem see_v {a : Addr} {es : List (List Int)} {s2 s3 s4 s5 s6 s7 : S} : mSee 1 (rT a es s2 s3 s4 s5 s6 s7) = .ok (.lst (es.map tupD)) (rT a es s2 s3 s4 s5 s6 s7) := by
  show ER.opt (some (OT.ol ((es.map tupD).map OT.fz)).view) _ = _
  rw [view_ol]
  rfl
theorem qsee_v {a : Addr} {es : List (List Int)} {s2 s3 s4 s5 s6 s7 : S} : qSee 1 (rT a es s2 s3 s4 s5 s6 s7) = .ok (es.map tupD) (rT a es s2 s3 s4 s5 s6 s7) := by
  show ER.opt (fzOf ((es.map tupD).map OT.fz)) _ = _
  rw [fzOf_fz]
  rfl
section
variable {cs : Nat → Addr} {a : Addr} {es : List (List Int)} (h : ∀ e ∈ es, EgB BB e) (nd : es.Nodup) (hl : es.length ≤ 400) {s2 s4 s5 s6 s7 : S}
include h nd hl in
theorem rt1 : m__law_right_1 cs (rT a es .un .un .un .un .un .un) = .nx (rT a es (.ow (.fz (.lst (es.map tupD)))) (.ow (.fz (PD cs es))) .un .un .un .un) := by
  have l1 : mListQ (qSee 1) (rT a es .un .un .un .un .un .un) = .ok (.ol ((es.map tupD).map .fz)) (rT a es .un .un .un .un .un .un) := by
    unfold mListQ
    rw [qsee_v]
    rfl
  have f1 := fz_v l1
  rw [view_ol] at f1
  have m1 := made_v (cs := cs) (es := es) (all_eg h) nd (by omega) (a := mVar 1) (sd := rL a es .un .un .un .un .un .un) rfl
  have f2 := fz_v (own_v (lend_v m1 (pd_nl cs es)))
  exact par_v f1 f2 (by show 2 < 8 ∧ 3 < 8; decide)
include h hl in
theorem rt3 : m__law_right_3 cs (rT a es s2 (.ow (.fz (PD cs es))) .un .un .un .un) = .nx (rT a es s2 (.ow (.fz (PD cs es))) .un .un .un .un) := by
  have pl : Pl 15 (.lst [.tup ((sortT es).map tupD), .int es.length]) := .lst (fun d hd => by
    simp only [List.mem_cons, List.not_mem_nil, or_false] at hd
    rcases hd with rfl | rfl
    · refine .tup (fun d hd => ?_) (by rw [List.length_map, (sortT_perm es).length_eq]; omega)
      obtain ⟨k, hk, rfl⟩ := List.mem_map.mp hd
      obtain ⟨x, y, s, rfl, _⟩ := h k ((sortT_perm es).mem_iff.mp hk)
      exact pl_tup 12 _ (by show 3 ≤ 1000; decide)
    · exact .int _ _) (by show 2 ≤ 1000; decide)
  obtain ⟨q, sm⟩ := same_ok cs pl
  have so := sorted_v (fun e he => (h e he).ne) (a := mVar 1) (sd := rL a es s2 (.ow (.fz (PD cs es))) .un .un .un .un) (ks := es) rfl
  have left := viewl_v (lst_v (cons_v (view_v (prop_v (cs := cs) (a := mVar 3) (sd := rL a es s2 (.ow (.fz (PD cs es))) .un .un .un .un) (es := es) rfl)) (cons_v (len_v (cs := cs) (a := mCons (mVar 3) mNil) (es := es) rfl (by omega)) nil_v)) (by show 2 ≤ 16777216; decide))
  have right := viewl_v (lst_v (cons_v (callt_v (f := dTupOf) (cons_v so nil_v) rfl) (cons_v (calls_v (f := dLen) (a := mCons (mVar 1) mNil) (xs := [.lst (es.map tupD)]) (y := .int es.length) rfl (by show some (D.int (es.map tupD).length) = _; rw [List.length_map])) nil_v)) (by show 2 ≤ 16777216; decide))
  have c := view_v (call0_v (cons_v left (cons_v right nil_v)) sm)
  exact Eq.trans (if_b (u := false) (not_b (test_v (lend_v c rfl)))) rfl
theorem rt5 {s3 : S} : m__law_right_5 cs (rT a es (.ow (.fz (.lst (es.map tupD)))) s3 .un .un .un .un) = .nx (rT a es (.ow (.fz (.lst (es.map tupD)))) s3 .un .un .un .un) := by
  have d : dNe (.lst (es.map tupD)) (.lst (es.map tupD)) = some (.bl false) := by
    show (dEqB _ _).map _ = _
    rw [L_eq]
    simp
  exact Eq.trans (if_b (op_t (f := dNe) see_v (b := mVar 2) (y := .lst (es.map tupD)) rfl d)) rfl
theorem rt_body {d : D} {k : Bool} (v : Vk cs d k) : m__law_right_b1 cs (rT a es s2 (.ow (.fz (PD cs es))) (.ow (.fz d)) .un .un .un) = .nx (rT a es s2 (.ow (.fz (PD cs es))) (.ow (.fz d)) .un .un .un) := by
  obtain ⟨r, iv, r1, r2⟩ := in_v (cs := cs) (a := mVar 4) (b := mVar 3) (sd := rT a es s2 (.ow (.fz (PD cs es))) (.ow (.fz d)) .un .un .un) (es := es) rfl rfl v
  obtain ⟨q1, i1⟩ := v.i1
  obtain ⟨q2, i2⟩ := v.i2
  have w1 : mView (mCall0 (m_is_edge cs) (mCons (mVar 4) (mNil))) (rT a es s2 (.ow (.fz (PD cs es))) (.ow (.fz d)) .un .un .un) = .ok (.bl k) (rT a es s2 (.ow (.fz (PD cs es))) (.ow (.fz d)) .un .un .un) := view_v (call0_v (cons_v (x := d) rfl nil_v) i1)
  have w2 : mView (mCall0 (m__law_is_edge cs) (mCons (mVar 4) (mNil))) (rT a es s2 (.ow (.fz (PD cs es))) (.ow (.fz d)) .un .un .un) = .ok (.bl k) (rT a es s2 (.ow (.fz (PD cs es))) (.ow (.fz d)) .un .un .un) := view_v (call0_v (cons_v (x := d) rfl nil_v) i2)
  have an : mAndV (mView (mCall0 (m__law_is_edge cs) (mCons (mVar 4) (mNil)))) (mOp (dInL false) (mVar 4) (mSee 1)) (rT a es s2 (.ow (.fz (PD cs es))) (.ow (.fz d)) .un .un .un) = .ok (.bl r) (rT a es s2 (.ow (.fz (PD cs es))) (.ow (.fz d)) .un .un .un) := by
    cases k with
    | false => rw [r1 rfl]; exact andv_f w2
    | true =>
      obtain ⟨e, rfl⟩ := v.i3 rfl
      refine Eq.trans (andv_t w2) ?_
      rw [r2 e rfl rfl]
      refine op_v (f := dInL false) (x := tupD e) rfl see_v ?_
      rw [inL_D, Bool.false_xor]
  have s7 : m__law_right_7 cs (rT a es s2 (.ow (.fz (PD cs es))) (.ow (.fz d)) .un .un .un) = .nx (rT a es s2 (.ow (.fz (PD cs es))) (.ow (.fz d)) .un .un .un) := Eq.trans (if_b (op_t (f := dNe) iv an (same_bl r))) rfl
  obtain ⟨z, hz⟩ := repr_bl k
  have s9 : m__law_right_9 cs (rT a es s2 (.ow (.fz (PD cs es))) (.ow (.fz d)) .un .un .un) = .nx (rT a es s2 (.ow (.fz (PD cs es))) (.ow (.fz d)) .un .un .un) := Eq.trans (if_b (u := false) (op_t (f := dNe) (calls_v (cons_v w1 nil_v) hz) (calls_v (cons_v w2 nil_v) hz) (by show some (D.bl (!decide (z = z))) = _; simp))) rfl
  exact seq_nx s7 s9
include h hl in
theorem rt10 : ∃ s4, m__law_right_10 cs (rT a es s2 (.ow (.fz (PD cs es))) .un .un .un .un) = .nx (rT a es s2 (.ow (.fz (PD cs es))) s4 .un .un .un) := by
  have c1 : m__law_right_c1 cs (rT a es s2 (.ow (.fz (PD cs es))) .un .un .un .un) = .ok (.ol ((((es.take 9).map (shf 1 0)).map tupD).map .fz)) (rT a es s2 (.ow (.fz (PD cs es))) .un .un .un .un) := by
    rw [show ((es.take 9).map (shf 1 0)).map tupD = (es.take 9).map fun e => tupD (shf 1 0 e) by rw [List.map_map]; rfl]
    have it : iLst (mView (mCut (qSee 1) (oNone) (oSome (mC (.int 9))))) (rT a es s2 (.ow (.fz (PD cs es))) .un .un .un .un) = .ok ((es.take 9).map tupD) (rT a es s2 (.ow (.fz (PD cs es))) .un .un .un .un) := by
      refine ilst_v (viewl_v ?_)
      unfold mCut
      rw [qsee_v]
      show ER.ok (OT.ol ((cutL (es.map tupD) none (some (9 : Int))).map .fz)) _ = _
      rw [show cutL (es.map tupD) none (some (9 : Int)) = (es.take 9).map tupD from (cut_toN (es.map tupD) 9).trans List.map_take.symm]
    refine mComp_map (es.take 9) tupD (fun e => tupD (shf 1 0 e)) it (by rw [List.length_take]; omega) fun e he => ?_
    obtain ⟨x, y, s, rfl, _⟩ := h e (List.mem_of_mem_take he)
    refine ⟨rT a es s2 (.ow (.fz (PD cs es))) .un (.ow (.fz (.int x))) (.ow (.fz (.int y))) (.ow (.fz (.int s))), rfl, rfl, ?_⟩
    show _ = ER.ok (tupD [x + 1, y + 0, s]) _
    rw [Int.add_zero]
    exact tup_v (cons_v (x := .int (x + 1)) rfl (cons_v (x := .int y) (a := mVar 6) rfl (cons_v (x := .int s) (a := mVar 7) rfl nil_v))) (by show 3 ≤ 16777216; decide)
  have vv := values_ok cs hl
  have cv : mCall1 (m__law_values cs) (rSlot 1 (rNil)) (rT a es s2 (.ow (.fz (PD cs es))) .un .un .un .un) = .ok (.ol (((Z1 ++ Z2 ++ Z3) ++ (es.take 9).map tupD).map .fz)) (rT a es s2 (.ow (.fz (PD cs es))) .un .un .un .un) :=
    call_hand (i := 1) (sd1 := rT a es s2 (.ow (.fz (PD cs es))) .un .un .un .un) (ds := []) rnil_v (t0 := .ol ((es.map tupD).map .fz)) rfl (t := .ol ((es.map tupD).map .fz)) rfl vv rfl
  have all := ilst_v (viewl_v (cat_v (qnew_v cv) (qnew_v c1) (by rw [List.length_append, List.length_map, List.length_map, List.length_map, List.length_take]; show 26 + _ + _ ≤ 16777216; omega)))
  rw [show ((Z1 ++ Z2 ++ Z3) ++ (es.take 9).map tupD) ++ ((es.take 9).map (shf 1 0)).map tupD = (((Z1 ++ Z2 ++ Z3) ++ (es.take 9).map tupD) ++ ((es.take 9).map (shf 1 0)).map tupD).map id by rw [List.map_id]] at all
  obtain ⟨sd', q, s4, e, _⟩ := sFor_inv (g := tgN 4) (body := m__law_right_b1 cs) _ id (fun r sd => ∃ s4, sd = rT a es s2 (.ow (.fz (PD cs es))) s4 .un .un .un ∧ ∀ d ∈ r, ∃ k, Vk cs d k) all ⟨.un, rfl, fun d hd => by
      rcases List.mem_append.mp hd with z | z
      · rcases List.mem_append.mp z with y | y
        · exact zoo_vk cs d y
        · obtain ⟨e, he, rfl⟩ := List.mem_map.mp y
          exact ⟨true, vk_edge cs ((h e (List.mem_of_mem_take he)).mono (Nat.le_add_right _ _)).eg⟩
      · obtain ⟨e, he, rfl⟩ := List.mem_map.mp z
        obtain ⟨f, hf, rfl⟩ := List.mem_map.mp he
        exact ⟨true, vk_edge cs ((h f (List.mem_of_mem_take hf)).shf (C := 10) (by decide) (by decide)).eg⟩⟩ (by
    rintro d r sd ⟨s4, rfl, hr⟩
    obtain ⟨k, v⟩ := hr d List.mem_cons_self
    exact ⟨_, _, rfl, .inl (rt_body v), _, rfl, fun d hd => hr d (List.mem_cons_of_mem _ hd)⟩)
  subst e
  exact ⟨s4, q⟩
include h nd hl in
theorem rt12 : m__law_right_12 cs (rT a es s2 (.ow (.fz (PD cs es))) s4 .un .un .un) = .nx (rT a es s2 (.ow (.fz (PD cs es))) s4 .un .un .un) := by
  obtain ⟨q, o⟩ := others_ok cs h nd hl
  have c := view_v (call0_v (cons_v (x := PD cs es) (a := mVar 3) (sd := rL a es s2 (.ow (.fz (PD cs es))) s4 .un .un .un) rfl (cons_v (x := .lst (es.map tupD)) (a := mVar 1) rfl nil_v)) o)
  exact Eq.trans (if_b (u := false) (not_b (test_v (lend_v c rfl)))) rfl
include h nd hl in
theorem right_ok : ∃ s, m__law_right cs [.fz (.cls a), .ol ((es.map tupD).map .fz)] = .ok (.fz (.bl true)) s := by
  have ent : entry 8 [.fz (.cls a), .ol ((es.map tupD).map .fz)] = rT a es .un .un .un .un .un .un := rfl
  have q1 := rt1 (cs := cs) (a := a) h nd hl
  have q3 := rt3 (cs := cs) (a := a) h hl (s2 := .ow (.fz (.lst (es.map tupD))))
  have q5 := rt5 (cs := cs) (a := a) (es := es) (s3 := .ow (.fz (PD cs es)))
  obtain ⟨s4, q10⟩ := rt10 (cs := cs) (a := a) h hl (s2 := .ow (.fz (.lst (es.map tupD))))
  have q12 := rt12 (cs := cs) (a := a) h nd hl (s2 := .ow (.fz (.lst (es.map tupD)))) (s4 := s4)
  let sd13 : SD := ⟨[.ow (.fz (.cls a)), .pa 1, .ow (.fz (.lst (es.map tupD))), .ow (.fz (PD cs es)), s4, .un, .un, .un], [.fz (.cls a), .ol ((es.map tupD).map OT.fz ++ [OT.fz (tupD [7, 7, 7])])]⟩
  let sd14 : SD := ⟨[.ow (.fz (.cls a)), .pa 1, .ow (.fz (.lst (es.map tupD))), .ow (.fz (PD cs es)), s4, .un, .un, .un], [.fz (.cls a), .ol ((es.map tupD).map OT.fz ++ [OT.fz (tupD [7, 7, 7])]).reverse]⟩
  have q13 : m__law_right_13 cs (rT a es (.ow (.fz (.lst (es.map tupD)))) (.ow (.fz (PD cs es))) s4 .un .un .un) = .nx sd13 := by
    show (if ((es.map tupD).map OT.fz).length < 16777216 then _ else _) = _
    rw [if_pos (by rw [List.length_map, List.length_map]; omega)]
    rfl
  have q14 : m__law_right_14 cs sd13 = .nx sd14 := rfl
  refine ⟨_, def_rt (sd := sd14) ent (seq_nx q1 (seq_nx q3 (seq_nx q5 (seq_nx q10 (seq_nx q12 (seq_nx q13 (seq_nx q14 (ret_d (d := .bl true) (sd1 := sd14) ?_))))))))⟩
  have so := sorted_v (fun e he => (h e he).ne) (a := mVar 2) (sd := sd14) (ks := es) rfl
  have d1 : dEq (.tup ((sortT es).map tupD)) (.tup ((sortT es).map tupD)) = some (.bl true) := by
    show (dEqB _ _).map _ = _
    rw [T_eq]
    simp
  refine Eq.trans (andv_t (op_v (f := dEq) (view_v (prop_v (cs := cs) (a := mVar 3) (sd := sd14) (es := es) rfl)) (callt_v (f := dTupOf) (cons_v so nil_v) rfl) d1)) ?_
  refine op_v (f := dEq) (len_v (cs := cs) (a := mCons (mVar 3) mNil) (es := es) rfl (by omega)) (calls_v (f := dLen) (a := mCons (mVar 2) mNil) (xs := [.lst (es.map tupD)]) (y := .int es.length) rfl (by show some (D.int (es.map tupD).length) = _; rw [List.length_map])) ?_
  show some (D.bl (decide ((es.length : Int) = es.length))) = _
  simp
end
theorem drop_cons {n k x : Nat} {r : List Nat} (h : x :: r = (List.range n).drop k) : k < n ∧ x = k ∧ r = (List.range n).drop (k + 1) := by
  have hk : k < (List.range n).length := by
    apply Classical.byContradiction
    intro h2
    rw [List.drop_eq_nil_of_le (by omega)] at h
    cases h
  rw [List.drop_eq_getElem_cons hk] at h
  simp at h hk
  exact ⟨hk, h.1, by rw [h.2]⟩
theorem sFor_upto {it : SD → ER (List D)} {g : D → SD → Option SD} {body : SD → Fl} {sd sd1 : SD} (n : Nat) (e : Nat → D) (I : Nat → SD → Prop) (hi : it sd = .ok ((List.range n).map e) sd1) (h0 : I 0 sd1) (h : ∀ k sd, k < n → I k sd → ∃ sda sdb, g (e k) sd = some sda ∧ (body sda = .nx sdb ∨ body sda = .ct sdb) ∧ I (k + 1) sdb) :
    ∃ sd', sFor it g body sd = .nx sd' ∧ I n sd' := by
  obtain ⟨sd', q, k, e1, hk, hI⟩ := sFor_inv (g := g) (body := body) (List.range n) e (fun r sd => ∃ k, r = (List.range n).drop k ∧ k ≤ n ∧ I k sd) hi ⟨0, by simp, Nat.zero_le _, h0⟩ fun x r sd ⟨k, e1, hk, hI⟩ => by
    obtain ⟨h1, h2, h3⟩ := drop_cons e1
    subst h2
    obtain ⟨sda, sdb, a, b, c⟩ := h _ sd h1 hI
    exact ⟨sda, sdb, a, b, _, h3, h1, c⟩
  refine ⟨sd', q, ?_⟩
  have : k = n := by
    apply Classical.byContradiction
    intro h2
    have : k < (List.range n).length := by simp; omega
    rw [List.drop_eq_getElem_cons this] at e1
    cases e1
  exact this ▸ hI
theorem small8 {m : Int} (h : m.natAbs < 2 ^ 64) : m.natAbs < 2 ^ 8000 := Nat.lt_trans h (by decide +kernel)
theorem Tk.more {n k : Nat} {t : OT} (h : Tk n t) (hk : n ≤ k) : Tk k t := by
  obtain ⟨a, b, c, e, f1, f2, f3⟩ := h
  exact ⟨a, b, c, e, f1, f2, by omega⟩
theorem sip_v {cs : Nat → Addr} {a : SD → ER D} {i : Nat} {sd : SD} {n : Nat} {t : OT} {m : Int} (k : Tk n t) (hn : n < 2 ^ 64) (h0 : 0 < m) (h1 : m.natAbs < 2 ^ 8000) (ht : sd.tree i = some t) (ha : a sd = .ok (.int m) sd) :
    ∃ (v : Int) (t' : OT), 0 ≤ v ∧ v < m ∧ Tk (n + 1) t' ∧ mView (mCall1 (m__law_sip cs) (rSlot i (rFz a rNil))) sd = .ok (.int v) (sd.put i t') := by
  obtain ⟨v, t', a1, a2, a3, a4⟩ := sip_ok cs k hn h0 h1
  exact ⟨v, t', a1, a2, a3, view_v (call_hand (ds := [.int m]) (rfz_v ha rnil_v) ht ht a4 rfl)⟩
theorem number_ok (cs : Nat → Addr) {n : Nat} {t : OT} (k : Tk n t) (hn : n < 2 ^ 60) : ∃ (v : Int) (t' : OT), v.natAbs ≤ 1000000000000000000000000000000 ∧ Tk (n + 4) t' ∧ m__law_number cs [t] = .ok (.fz (.int v)) ⟨[], [t']⟩ := by
  have ent : entry 1 [t] = ⟨[.pa 0], [t]⟩ := by
    obtain ⟨a, b, d, rfl, _⟩ := id k
    rfl
  obtain ⟨v1, t1, a1, b1, k1, q1⟩ := sip_v (cs := cs) (i := 0) (sd := ⟨[.pa 0], [t]⟩) (a := mC (.int 7)) (m := 7) k (by omega) (by decide) (by decide +kernel) rfl rfl
  obtain ⟨v2, t2, a2, b2, k2, q2⟩ := sip_v (cs := cs) (i := 0) (sd := ⟨[.pa 0], [t1]⟩) (a := mC (.int 99)) (m := 99) k1 (by omega) (by decide) (by decide +kernel) rfl rfl
  have p30 : ∀ sd : SD, mOp dPow (mC (.int 10)) (mC (.int 30)) sd = .ok (.int 1000000000000000000000000000000) sd := fun sd => op_v (f := dPow) (x := .int 10) (y := .int 30) rfl rfl (p10 (k := 30) (by decide))
  have p29 : ∀ sd : SD, mOp dPow (mC (.int 10)) (mC (.int 29)) sd = .ok (.int 100000000000000000000000000000) sd := fun sd => op_v (f := dPow) (x := .int 10) (y := .int 29) rfl rfl (p10 (k := 29) (by decide))
  obtain ⟨v3, t3, a3, b3, k3, q3⟩ := sip_v (cs := cs) (i := 0) (sd := ⟨[.pa 0], [t2]⟩) (a := mOp dPow (mC (.int 10)) (mC (.int 30))) (m := 1000000000000000000000000000000) k2 (by omega) (by decide) (by decide +kernel) rfl (p30 _)
  obtain ⟨v4, t4, a4, b4, k4, q4⟩ := sip_v (cs := cs) (i := 0) (sd := ⟨[.pa 0], [t3]⟩) (a := mC (.int 3)) (m := 3) k3 (by omega) (by decide) (by decide +kernel) rfl rfl
  have e1 := op_v (f := dSub) (b := mC (.int 3)) (y := .int 3) (z := .int (v1 - 3)) q1 rfl rfl
  have e2 := op_v (f := dSub) (b := mC (.int 50)) (y := .int 50) (z := .int (v2 - 50)) q2 rfl rfl
  have e3 := op_v (f := dSub) (z := .int (v3 - 100000000000000000000000000000)) q3 (p29 _) rfl
  have lst := viewl_v (lst_v (cons_v e1 (cons_v e2 (cons_v e3 nil_v))) (by show 3 ≤ 16777216; decide))
  obtain ⟨z, hz, ez⟩ := at_in [v1 - 3, v2 - 50, v3 - 100000000000000000000000000000] D.int a4 b4
  have hz : z.natAbs ≤ 1000000000000000000000000000000 := by
    simp only [List.mem_cons, List.not_mem_nil, or_false] at hz
    rcases hz with rfl | rfl | rfl <;> omega
  exact ⟨z, t4, hz, k4, def_rt (sd := ⟨[.pa 0], [t4]⟩) ent (ret_d (op_v (f := dIx) lst q4 ez))⟩
theorem number_v {cs : Nat → Addr} {i : Nat} {sd : SD} {n : Nat} {t : OT} (k : Tk n t) (hn : n < 2 ^ 60) (ht : sd.tree i = some t) : ∃ (v : Int) (t' : OT), v.natAbs ≤ 1000000000000000000000000000000 ∧ Tk (n + 4) t' ∧ mView (mCall1 (m__law_number cs) (rSlot i rNil)) sd = .ok (.int v) (sd.put i t') := by
  obtain ⟨v, t', a, b, c⟩ := number_ok cs k hn
  exact ⟨v, t', a, b, view_v (call_hand (ds := []) rnil_v ht ht c rfl)⟩
structure Fnd (al : AL) (N : Nat) : Prop where
  nd : (al.map (·.1)).Nodup
  eg : ∀ k ∈ al.map (·.1), EgB BB k
  len : al.length ≤ N
theorem Fnd.put {al : AL} {N : Nat} (f : Fnd al N) {e : List Int} (he : EgB BB e) (d : D) : Fnd (aPut al e d) (N + 1) := by
  have len := f.len
  by_cases h : e ∈ al.map (·.1)
  · have z := congrArg List.length (keys_put (d := d) h)
    rw [List.length_map, List.length_map] at z
    exact ⟨by rw [keys_put h]; exact f.nd, by rw [keys_put h]; exact f.eg, by omega⟩
  · rw [put_new h]
    refine ⟨?_, fun k hk => ?_, ?_⟩
    · rw [List.map_append]
      refine List.nodup_append.mpr ⟨f.nd, List.pairwise_singleton _ _, fun a ha b hb => ?_⟩
      have hb : b = e := List.mem_singleton.mp hb
      subst hb
      exact fun z => h (z ▸ ha)
    · rw [List.map_append] at hk
      rcases List.mem_append.mp hk with q | q
      · exact f.eg k q
      · have q : k = e := List.mem_singleton.mp q
        rw [q]; exact he
    · rw [List.length_append]
      show al.length + 1 ≤ N + 1
      omega
noncomputable def eS (t : OT) (m : Int) (s2 s3 s4 s5 : S) : SD := ⟨[.pa 0, .ow (.fz (.int m)), s2, s3, s4, s5], [t, .fz (.int m)]⟩
theorem edges_body {cs : Nat → Addr} {n : Nat} {t : OT} {m w : Int} {al : AL} {N : Nat} {s4 s5 : S} (k : Tk n t) (hn : n < 2 ^ 60) (f : Fnd al N) (hN : N < 10000) (w0 : 0 < w) (w1 : w ≤ 1000000000000000000000000000000) :
    ∃ t' bl s5', Tk (n + 3) t' ∧ Fnd bl (N + 1) ∧ m__law_edges_b1 cs (eS t m (.ow (.fz (.int w))) (.ow (odT al)) s4 s5) = .nx (eS t' m (.ow (.fz (.int w))) (.ow (odT bl)) s4 s5') := by
  have wb : w.natAbs < 2 ^ 8000 := Nat.lt_of_le_of_lt (m := 1000000000000000000000000000000) (by omega) (by decide +kernel)
  obtain ⟨v1, t1, a1, b1, k1, q1⟩ := sip_v (cs := cs) (i := 0) (sd := eS t m (.ow (.fz (.int w))) (.ow (odT al)) s4 s5) (a := mVar 2) (m := w) k (by omega) w0 wb rfl rfl
  obtain ⟨v2, t2, a2, b2, k2, q2⟩ := sip_v (cs := cs) (i := 0) (sd := eS t1 m (.ow (.fz (.int w))) (.ow (odT al)) s4 s5) (a := mVar 2) (m := w) k1 (by omega) w0 wb rfl rfl
  obtain ⟨v3, t3, a3, b3, k3, q3⟩ := sip_v (cs := cs) (i := 0) (sd := eS t2 m (.ow (.fz (.int w))) (.ow (odT al)) s4 s5) (a := mC (.int 2)) (m := 2) k2 (by omega) (by decide) (by decide +kernel) rfl rfl
  have dv : dDiv (.int w) (.int 3) = some (.int (w.fdiv 3)) := div_ok (a := 8) (by decide) (by decide) (by decide)
  have e1 := op_v (f := dSub) (z := .int (v1 - w.fdiv 3)) q1 (op_v (f := dDiv) (a := mVar 2) (b := mC (.int 3)) (x := .int w) (y := .int 3) rfl rfl dv) rfl
  have e2 := op_v (f := dSub) (b := mC (.int 1)) (y := .int 1) (z := .int (v2 - 1)) q2 rfl rfl
  have tp := tup_v (cons_v e1 (cons_v e2 (cons_v q3 nil_v))) (by show 3 ≤ 16777216; decide)
  have s3 : m__law_edges_3 cs (eS t m (.ow (.fz (.int w))) (.ow (odT al)) s4 s5) = .nx (eS t3 m (.ow (.fz (.int w))) (.ow (odT al)) s4 (.ow (.fz (tupD [v1 - w.fdiv 3, v2 - 1, v3])))) := set_d tp (by show 5 < 6; decide)
  have d1 := Int.mul_fdiv_add_fmod w 3
  have d2 := Int.fmod_nonneg_of_pos w (show (0 : Int) < 3 by decide)
  have d3 := Int.fmod_lt_of_pos w (show (0 : Int) < 3 by decide)
  have big : 1000000000000000000000000000000 < BB := by decide +kernel
  have eg : EgB BB [v1 - w.fdiv 3, v2 - 1, v3] := ⟨_, _, _, rfl, by omega, by omega, by omega⟩
  have len := f.len
  have s4' : m__law_edges_4 cs (eS t3 m (.ow (.fz (.int w))) (.ow (odT al)) s4 (.ow (.fz (tupD [v1 - w.fdiv 3, v2 - 1, v3])))) = .nx (eS t3 m (.ow (.fz (.int w))) (.ow (odT (aPut al [v1 - w.fdiv 3, v2 - 1, v3] (.bl true)))) s4 (.ow (.fz (tupD [v1 - w.fdiv 3, v2 - 1, v3])))) :=
    Eq.trans (dput_v (i := 3) (sd1 := eS t3 m (.ow (.fz (.int w))) (.ow (odT al)) s4 (.ow (.fz (tupD [v1 - w.fdiv 3, v2 - 1, v3])))) (sd2 := eS t3 m (.ow (.fz (.int w))) (.ow (odT al)) s4 (.ow (.fz (tupD [v1 - w.fdiv 3, v2 - 1, v3])))) (d := .bl true) rfl (tree_ow (t := odT al) rfl) rfl (unt_ow rfl) (by omega)) rfl
  exact ⟨t3, _, _, k3, f.put eg _, seq_nx s3 s4'⟩
theorem edges_drawn (cs : Nat → Addr) {n : Nat} {t : OT} {m : Int} (k : Tk n t) (hn : n < 2 ^ 58) (h0 : 0 ≤ m) (h1 : m ≤ 399) : ∃ (es : List (List Int)) (t' : OT), (∀ e ∈ es, EgB BB e) ∧ es.Nodup ∧ es.length ≤ 400 ∧ Tk (n + 2000) t' ∧
    m__law_edges cs [t, .fz (.int m)] = .ok (.ol ((es.map tupD).map .fz)) ⟨[], [t', .fz (.int m)]⟩ := by
  have ent : entry 6 [t, .fz (.int m)] = eS t m .un .un .un .un := by
    obtain ⟨a, b, d, rfl, _⟩ := id k
    rfl
  obtain ⟨v1, t1, a1, b1, k1, q1⟩ := sip_v (cs := cs) (i := 0) (sd := eS t m .un .un .un .un) (a := mC (.int 4)) (m := 4) k (by omega) (by decide) (by decide +kernel) rfl rfl
  have p30 : mOp dPow (mC (.int 10)) (mC (.int 30)) (eS t m .un .un .un .un) = .ok (.int 1000000000000000000000000000000) (eS t m .un .un .un .un) := op_v (f := dPow) (x := .int 10) (y := .int 30) rfl rfl (p10 (k := 30) (by decide))
  have lst := viewl_v (lst_v (cons_v (x := .int 2) (a := mC (.int 2)) rfl (cons_v (x := .int 4) (a := mC (.int 4)) rfl (cons_v (x := .int 12) (a := mC (.int 12)) rfl (cons_v p30 nil_v)))) (by show 4 ≤ 16777216; decide))
  obtain ⟨w, hw, ew⟩ := at_in [2, 4, 12, 1000000000000000000000000000000] D.int a1 b1
  have hw : 0 < w ∧ w ≤ 1000000000000000000000000000000 := by
    simp only [List.mem_cons, List.not_mem_nil, or_false] at hw
    rcases hw with rfl | rfl | rfl | rfl <;> exact ⟨by decide, by decide⟩
  have vw := op_v (f := dIx) lst q1 ew
  have s1 : m__law_edges_1 cs (eS t m .un .un .un .un) = .nx (eS t1 m (.ow (.fz (.int w))) .un .un .un) := set_d vw (by show 2 < 6; decide)
  have s2 : m__law_edges_2 cs (eS t1 m (.ow (.fz (.int w))) .un .un .un) = .nx (eS t1 m (.ow (.fz (.int w))) (.ow (odT [])) .un .un) := rfl
  obtain ⟨v2, t2, a2, b2, k2, q2⟩ := sip_v (cs := cs) (i := 0) (sd := eS t1 m (.ow (.fz (.int w))) (.ow (odT [])) .un .un) (a := mOp dAdd (mVar 1) (mC (.int 1))) (m := m + 1) k1 (by omega) (by omega) (small8 (by omega)) rfl rfl
  obtain ⟨v3, t3, a3, b3, k3, q3⟩ := sip_v (cs := cs) (i := 0) (sd := eS t2 m (.ow (.fz (.int w))) (.ow (odT [])) .un .un) (a := mC (.int 6)) (m := 6) k2 (by omega) (by decide) (by decide +kernel) rfl rfl
  obtain ⟨v4, t4, a4, b4, k4, q4⟩ := sip_v (cs := cs) (i := 0) (sd := eS t3 m (.ow (.fz (.int w))) (.ow (odT [])) .un .un) (a := mC (.int 3)) (m := 3) k3 (by omega) (by decide) (by decide +kernel) rfl rfl
  have ls := viewl_v (lst_v (cons_v q2 (cons_v (x := .int m) (a := mVar 1) rfl (cons_v q3 nil_v))) (by show 3 ≤ 16777216; decide))
  obtain ⟨r, hr, er⟩ := at_in [v2, m, v3] D.int a4 b4
  have hr : 0 ≤ r ∧ r ≤ 399 := by
    simp only [List.mem_cons, List.not_mem_nil, or_false] at hr
    rcases hr with rfl | rfl | rfl <;> omega
  have it := irange_v (cons_v (op_v (f := dIx) ls q4 er) nil_v) hr.1 (by omega)
  obtain ⟨sd', q, t', bl, s4', s5', e, k', f⟩ := sFor_upto (g := tgN 4) (body := m__law_edges_b1 cs) r.toNat (fun i : Nat => D.int (0 + (i : Int))) (fun i sd => ∃ t' bl s4 s5, sd = eS t' m (.ow (.fz (.int w))) (.ow (odT bl)) s4 s5 ∧ Tk (n + 4 + 3 * i) t' ∧ Fnd bl i) it
    ⟨t4, [], .un, .un, rfl, k4, ⟨List.nodup_nil, (fun _ h => by cases h), Nat.le_refl _⟩⟩ (by
    rintro i sd hi ⟨t', bl, s4, s5, rfl, k', f⟩
    obtain ⟨t5, bl2, s5', k5, f5, q5⟩ := edges_body (cs := cs) (m := m) (s4 := .ow (.fz (.int (0 + (i : Int))))) (s5 := s5) k' (by omega) f (by omega) hw.1 hw.2
    exact ⟨eS t' m (.ow (.fz (.int w))) (.ow (odT bl)) (.ow (.fz (.int (0 + (i : Int))))) s5, _, rfl, .inl q5, t5, bl2, _, _, rfl, k5, f5⟩)
  subst e
  have len := f.len
  refine ⟨bl.map (·.1), t', f.eg, f.nd, by rw [List.length_map]; omega, k'.more (by omega), def_rt (sd := eS t' m (.ow (.fz (.int w))) (.ow (odT bl)) s4' s5') ent (seq_nx s1 (seq_nx s2 (seq_nx q (ret_o ?_))))⟩
  unfold mKeysL
  rw [show ((eS t' m (.ow (.fz (.int w))) (.ow (odT bl)) s4' s5').tree 3).bind unT = some bl from unt_ow rfl]
  dsimp only
  rw [show ∀ ks : List (List Int), (ks.map tupD).map OT.fz = ks.map fun ns => OT.fz (tupD ns) from fun ks => by rw [List.map_map]; rfl]
theorem callU_v {i : Nat} {g : List OT → ER OT} {m : SD → ER OT} {sd sd1 : SD} {ts : List OT} {t u : OT} (h0 : sd.tree i = some (.ol ts)) (hm : m sd = .ok t sd1) (hu : ∀ a, ∃ s, g [.fz (.cls a), t] = .ok u s) : mCallU i g m sd = .ok u sd1 := by
  unfold mCallU
  rw [h0]
  show (m sd).bind _ = _
  rw [hm]
  simp only [ER.bind]
  rw [uni_of hu]
noncomputable def lS (ns : List Int) (s1 : S) (t : OT) (s3 s4 s5 s6 : S) : SD := ⟨[.ow (.fz (.scr ns)), s1, .ow t, s3, s4, s5, s6], [.fz (.scr ns)]⟩
section
variable {cs : Nat → Addr} {ns : List Int}
theorem law_pair {n : Nat} {t : OT} {s1 : S} {m : Int} (k : Tk n t) (hn : n < 2 ^ 50) (h0 : 0 ≤ m) (h1 : m ≤ 399) {s3 s4 s5 s6 : S} :
    ∃ t', Tk (n + 2000) t' ∧ mView (mCallU 2 (m__law_right cs) (mCall1 (m__law_edges cs) (rSlot 2 (rFz (mC (.int m)) (rNil))))) (lS ns s1 t s3 s4 s5 s6) = .ok (.bl true) (lS ns s1 t' s3 s4 s5 s6) := by
  obtain ⟨es, t', eg, nd, hl, k', q⟩ := edges_drawn cs k (by omega) h0 h1
  obtain ⟨a, b, c, e, _⟩ := id k
  refine ⟨t', k', view_v (callU_v (i := 2) (sd := lS ns s1 t s3 s4 s5 s6) (ts := [.fz (.int a), .fz (.int b), .fz (.int c)]) (by rw [← e]; rfl) (call_hand (i := 2) (sd1 := lS ns s1 t s3 s4 s5 s6) (ds := [.int m]) (rfz_v (d := .int m) rfl rnil_v) (t0 := t) rfl (t := t) rfl q rfl) fun a => right_ok (cs := cs) (a := a) eg nd hl)⟩
theorem pl_betw (n : Nat) (a b c d : Int) : Pl (n + 1) (betw a b c d) := by
  unfold betw
  split
  · exact pl_tup n _ (by show 3 ≤ 1000; decide)
  · exact .non _
theorem between_same {t : OT} {a b c d : Int} {i j : Nat} {sd : SD} (hi : mVar i sd = .ok (tupD [a, b]) sd) (hj : mVar j sd = .ok (tupD [c, d]) sd) :
    mTest (mView (mCall0 (m__law_same cs 16) (mCons (mView (mLst (mCons (mView (mCall0 (m_edge_between cs) (mCons (mVar i) (mCons (mVar j) (mNil))))) (mCons (mView (mCall0 (m_edge_between cs) (mCons (mVar j) (mCons (mVar i) (mNil))))) (mNil))))) (mCons (mView (mRepC (mLst (mCons (mView (mCall0 (m__law_between cs) (mCons (mVar i) (mCons (mVar j) (mNil))))) (mNil))) 2)) (mNil))))) sd = .ok true sd := by
  obtain ⟨q1, e1⟩ := edge_between_ok cs a b c d
  obtain ⟨q2, e2⟩ := edge_between_ok cs c d a b
  obtain ⟨q3, e3⟩ := law_between_ok cs a b c d
  rw [betw_comm] at e2
  have l1 := viewl_v (lst_v (cons_v (view_v (call0_v (cons_v hi (cons_v hj nil_v)) e1)) (cons_v (view_v (call0_v (cons_v hj (cons_v hi nil_v)) e2)) nil_v)) (by show 2 ≤ 16777216; decide))
  have l2 := lst_v (cons_v (view_v (call0_v (cons_v hi (cons_v hj nil_v)) e3)) nil_v) (by show 1 ≤ 16777216; decide)
  have l3 : mRepC (mLst (mCons (mView (mCall0 (m__law_between cs) (mCons (mVar i) (mCons (mVar j) (mNil))))) (mNil))) 2 sd = .ok (.ol ([betw a b c d, betw a b c d].map .fz)) sd := by
    unfold mRepC
    rw [l2]
    rfl
  have pl : Pl 15 (.lst [betw a b c d, betw a b c d]) := .lst (fun x hx => by
    have hx : x = betw a b c d := by simpa using hx
    rw [hx]
    exact pl_betw 13 a b c d) (by show 2 ≤ 1000; decide)
  obtain ⟨q4, e4⟩ := same_ok cs pl
  exact test_v (view_v (call0_v (cons_v l1 (cons_v (viewl_v l3) nil_v)) e4))
theorem ix0 {i : Nat} {a b : Int} {sd : SD} (h : mVar i sd = .ok (tupD [a, b]) sd) : mOp dIx (mVar i) (mC (.int 0)) sd = .ok (.int a) sd := op_v (f := dIx) h (y := .int 0) rfl rfl
theorem ix1 {i : Nat} {a b : Int} {sd : SD} (h : mVar i sd = .ok (tupD [a, b]) sd) : mOp dIx (mVar i) (mC (.int 1)) sd = .ok (.int b) sd := op_v (f := dIx) h (y := .int 1) rfl rfl
theorem law_turn {n i : Nat} {t : OT} {s1 s4 s5 s6 : S} (k : Tk n t) (hn : n < 2 ^ 50) : ∃ t' s4' s5' s6', Tk (n + 20) t' ∧ m_law_b1 cs (lS ns s1 t (.ow (.fz (.int (i : Int)))) s4 s5 s6) = .nx (lS ns s1 t' (.ow (.fz (.int (i : Int)))) s4' s5' s6') := by
  obtain ⟨a, t1, ha, k1, q1⟩ := number_v (cs := cs) (i := 2) (sd := lS ns s1 t (.ow (.fz (.int (i : Int)))) s4 s5 s6) k (by omega) rfl
  obtain ⟨b, t2, hb, k2, q2⟩ := number_v (cs := cs) (i := 2) (sd := lS ns s1 t1 (.ow (.fz (.int (i : Int)))) s4 s5 s6) k1 (by omega) rfl
  have tp := tup_v (cons_v q1 (cons_v q2 nil_v)) (by show 2 ≤ 16777216; decide)
  have p4 : m_law_4 cs (lS ns s1 t (.ow (.fz (.int (i : Int)))) s4 s5 s6) = .nx (lS ns s1 t2 (.ow (.fz (.int (i : Int)))) (.ow (.fz (tupD [a, b]))) s5 s6) := set_d tp (by show 4 < 7; decide)
  obtain ⟨v3, t3, a3, b3, k3, q3⟩ := sip_v (cs := cs) (i := 2) (sd := lS ns s1 t2 (.ow (.fz (.int (i : Int)))) (.ow (.fz (tupD [a, b]))) s5 s6) (a := mC (.int 4)) (m := 4) k2 (by omega) (by decide) (by decide +kernel) rfl rfl
  obtain ⟨v4, t4, a4, b4, k4, q4⟩ := sip_v (cs := cs) (i := 2) (sd := lS ns s1 t3 (.ow (.fz (.int (i : Int)))) (.ow (.fz (tupD [a, b]))) s5 s6) (a := mC (.int 4)) (m := 4) k3 (by omega) (by decide) (by decide +kernel) rfl rfl
  have e3 := op_v (f := dSub) (b := mC (.int 1)) (y := .int 1) (z := .int (a + v3 - 1)) (op_v (f := dAdd) (ix0 (i := 4) (a := a) (b := b) rfl) q3 (z := .int (a + v3)) rfl) rfl rfl
  have e4 := op_v (f := dSub) (b := mC (.int 1)) (y := .int 1) (z := .int (b + v4 - 1)) (op_v (f := dAdd) (ix1 (i := 4) (a := a) (b := b) rfl) q4 (z := .int (b + v4)) rfl) rfl rfl
  have tp2 := tup_v (cons_v e3 (cons_v e4 nil_v)) (by show 2 ≤ 16777216; decide)
  have p5 : m_law_5 cs (lS ns s1 t2 (.ow (.fz (.int (i : Int)))) (.ow (.fz (tupD [a, b]))) s5 s6) = .nx (lS ns s1 t4 (.ow (.fz (.int (i : Int)))) (.ow (.fz (tupD [a, b]))) (.ow (.fz (tupD [a + v3 - 1, b + v4 - 1]))) s6) := set_d tp2 (by show 5 < 7; decide)
  have p7 : m_law_7 cs (lS ns s1 t4 (.ow (.fz (.int (i : Int)))) (.ow (.fz (tupD [a, b]))) (.ow (.fz (tupD [a + v3 - 1, b + v4 - 1]))) s6) = .nx (lS ns s1 t4 (.ow (.fz (.int (i : Int)))) (.ow (.fz (tupD [a, b]))) (.ow (.fz (tupD [a + v3 - 1, b + v4 - 1]))) s6) :=
    Eq.trans (if_b (u := false) (not_b (between_same (cs := cs) (t := t) (i := 4) (j := 5) (a := a) (b := b) (c := a + v3 - 1) (d := b + v4 - 1) rfl rfl))) rfl
  obtain ⟨c, t5, hc, k5, q5⟩ := number_v (cs := cs) (i := 2) (sd := lS ns s1 t4 (.ow (.fz (.int (i : Int)))) (.ow (.fz (tupD [a, b]))) (.ow (.fz (tupD [a + v3 - 1, b + v4 - 1]))) s6) k4 (by omega) rfl
  obtain ⟨d, t6, hd, k6, q6⟩ := number_v (cs := cs) (i := 2) (sd := lS ns s1 t5 (.ow (.fz (.int (i : Int)))) (.ow (.fz (tupD [a, b]))) (.ow (.fz (tupD [a + v3 - 1, b + v4 - 1]))) s6) k5 (by omega) rfl
  have m0 := Int.fmod_nonneg_of_pos (i : Int) (show (0 : Int) < 4 by decide)
  have m1 := Int.fmod_lt_of_pos (i : Int) (show (0 : Int) < 4 by decide)
  have m2 := Int.fmod_nonneg_of_pos (i : Int) (show (0 : Int) < 3 by decide)
  have m3 := Int.fmod_lt_of_pos (i : Int) (show (0 : Int) < 3 by decide)
  obtain ⟨x, hx, ex⟩ := at_in [0, 1, 1000000000000000000000000000000, c] D.int m0 m1
  have p30 : ∀ sd : SD, mOp dPow (mC (.int 10)) (mC (.int 30)) sd = .ok (.int 1000000000000000000000000000000) sd := fun sd => op_v (f := dPow) (x := .int 10) (y := .int 30) rfl rfl (p10 (k := 30) (by decide))
  have ls := viewl_v (lst_v (cons_v (x := .int 0) (a := mC (.int 0)) (sd := lS ns s1 t4 (.ow (.fz (.int (i : Int)))) (.ow (.fz (tupD [a, b]))) (.ow (.fz (tupD [a + v3 - 1, b + v4 - 1]))) s6) rfl (cons_v (x := .int 1) (a := mC (.int 1)) rfl (cons_v (p30 _) (cons_v q5 nil_v)))) (by show 4 ≤ 16777216; decide))
  have md4 : mOp dMod (mVar 3) (mC (.int 4)) (lS ns s1 t5 (.ow (.fz (.int (i : Int)))) (.ow (.fz (tupD [a, b]))) (.ow (.fz (tupD [a + v3 - 1, b + v4 - 1]))) s6) = .ok (.int ((i : Int).fmod 4)) (lS ns s1 t5 (.ow (.fz (.int (i : Int)))) (.ow (.fz (tupD [a, b]))) (.ow (.fz (tupD [a + v3 - 1, b + v4 - 1]))) s6) := op_v (f := dMod) (x := .int i) (y := .int 4) rfl rfl (mod_ok (by decide))
  have md3 : mOp dMod (mVar 3) (mC (.int 3)) (lS ns s1 t6 (.ow (.fz (.int (i : Int)))) (.ow (.fz (tupD [a, b]))) (.ow (.fz (tupD [a + v3 - 1, b + v4 - 1]))) s6) = .ok (.int ((i : Int).fmod 3)) (lS ns s1 t6 (.ow (.fz (.int (i : Int)))) (.ow (.fz (tupD [a, b]))) (.ow (.fz (tupD [a + v3 - 1, b + v4 - 1]))) s6) := op_v (f := dMod) (x := .int i) (y := .int 3) rfl rfl (mod_ok (by decide))
  have big : 1000000000000000000000000000000 < 2 ^ 200 := by decide +kernel
  have e5 := op_v (f := dAdd) (ix0 (i := 4) (a := a) (b := b) rfl) (op_v (f := dIx) ls md4 ex) (z := .int (a + x)) rfl
  have e6 := op_v (f := dAdd) (ix1 (i := 4) (a := a) (b := b) rfl) (op_v (f := dMul) q6 md3 (mul_ok (a := 200) (b := 10) (by omega) (by omega) (by decide))) (z := .int (b + d * (i : Int).fmod 3)) rfl
  have tp3 := tup_v (cons_v e5 (cons_v e6 nil_v)) (by show 2 ≤ 16777216; decide)
  have p8 : m_law_8 cs (lS ns s1 t4 (.ow (.fz (.int (i : Int)))) (.ow (.fz (tupD [a, b]))) (.ow (.fz (tupD [a + v3 - 1, b + v4 - 1]))) s6) = .nx (lS ns s1 t6 (.ow (.fz (.int (i : Int)))) (.ow (.fz (tupD [a, b]))) (.ow (.fz (tupD [a + v3 - 1, b + v4 - 1]))) (.ow (.fz (tupD [a + x, b + d * (i : Int).fmod 3])))) := set_d tp3 (by show 6 < 7; decide)
  have p10' : m_law_10 cs (lS ns s1 t6 (.ow (.fz (.int (i : Int)))) (.ow (.fz (tupD [a, b]))) (.ow (.fz (tupD [a + v3 - 1, b + v4 - 1]))) (.ow (.fz (tupD [a + x, b + d * (i : Int).fmod 3])))) = .nx (lS ns s1 t6 (.ow (.fz (.int (i : Int)))) (.ow (.fz (tupD [a, b]))) (.ow (.fz (tupD [a + v3 - 1, b + v4 - 1]))) (.ow (.fz (tupD [a + x, b + d * (i : Int).fmod 3])))) :=
    Eq.trans (if_b (u := false) (not_b (between_same (cs := cs) (t := t) (i := 4) (j := 6) (a := a) (b := b) (c := a + x) (d := b + d * (i : Int).fmod 3) rfl rfl))) rfl
  exact ⟨t6, _, _, _, k6.more (by omega), seq_nx p4 (seq_nx p5 (seq_nx p7 (seq_nx p8 p10')))⟩
theorem law_cell {k : Nat} (hk : k < 1000) {s2 s3 s4 s5 s6 : S} : ∃ s2' s3' s4' s5' s6', m_law_b2 cs ⟨[.ow (.fz (.scr ns)), .ow (.fz (.int (k : Int))), s2, s3, s4, s5, s6], [.fz (.scr ns)]⟩ = .nx ⟨[.ow (.fz (.scr ns)), .ow (.fz (.int (k : Int))), s2', s3', s4', s5', s6'], [.fz (.scr ns)]⟩ := by
  obtain ⟨t0, k0, q0⟩ := tank_ok cs ns k hk
  have p1 : m_law_1 cs ⟨[.ow (.fz (.scr ns)), .ow (.fz (.int (k : Int))), s2, s3, s4, s5, s6], [.fz (.scr ns)]⟩ = .nx (lS ns (.ow (.fz (.int (k : Int)))) t0 s3 s4 s5 s6) := set_o (call0_v (cons_v (x := .scr ns) rfl (cons_v (x := .int k) rfl nil_v)) q0) (by show 2 < 7; decide)
  obtain ⟨t1, k1, q1⟩ := law_pair (cs := cs) (ns := ns) (s1 := .ow (.fz (.int (k : Int)))) (m := 399) k0 (by decide) (by decide) (by decide) (s3 := s3) (s4 := s4) (s5 := s5) (s6 := s6)
  obtain ⟨t2, k2, q2⟩ := law_pair (cs := cs) (ns := ns) (s1 := .ow (.fz (.int (k : Int)))) (m := 6) k1 (by decide) (by decide) (by decide) (s3 := s3) (s4 := s4) (s5 := s5) (s6 := s6)
  have p3 : m_law_3 cs (lS ns (.ow (.fz (.int (k : Int)))) t0 s3 s4 s5 s6) = .nx (lS ns (.ow (.fz (.int (k : Int)))) t2 s3 s4 s5 s6) := Eq.trans (if_b (u := false) (or_r (not_b (test_v (v := true) q1)) (not_b (test_v (v := true) q2)))) rfl
  obtain ⟨sd', q, t', s3', s4', s5', s6', e, _⟩ := sFor_upto (g := tgN 3) (body := m_law_b1 cs) (it := iRange1 (mCons (mC (.int 20)) (mNil))) (sd := lS ns (.ow (.fz (.int (k : Int)))) t2 s3 s4 s5 s6) 20 (fun i : Nat => D.int (0 + (i : Int))) (fun i sd => ∃ t' s3 s4 s5 s6, sd = lS ns (.ow (.fz (.int (k : Int)))) t' s3 s4 s5 s6 ∧ Tk (4000 + 20 * i) t') (irange_v (j := 20) rfl (by decide) (by decide)) ⟨t2, s3, s4, s5, s6, rfl, k2⟩ (by
    rintro i sd hi ⟨t', s3, s4, s5, s6, rfl, k'⟩
    obtain ⟨t5, s4', s5', s6', k5, q5⟩ := law_turn (cs := cs) (ns := ns) (s1 := .ow (.fz (.int (k : Int)))) (i := i) (s4 := s4) (s5 := s5) (s6 := s6) k' (by omega)
    have e0 : (0 : Int) + (i : Int) = i := by omega
    refine ⟨lS ns (.ow (.fz (.int (k : Int)))) t' (.ow (.fz (.int (0 + (i : Int))))) s4 s5 s6, _, rfl, .inl (by rw [e0]; exact q5), t5, _, _, _, _, rfl, k5⟩)
  subst e
  exact ⟨_, _, _, _, _, seq_nx p1 (seq_nx p3 q)⟩
end
theorem law_true (cs : Nat → Addr) (hc : CsOk cs) (ns : List Int) (hl : ns.length ≤ 63) (hb : ∀ z ∈ ns, Builtin.Int.intBits z ≤ 1048576) : ∃ sd, m_law cs [.fz (.scr ns)] = .ok (.fz (.bl true)) sd := by
  have ent : entry 7 [.fz (.scr ns)] = ⟨[.ow (.fz (.scr ns)), .un, .un, .un, .un, .un, .un], [.fz (.scr ns)]⟩ := rfl
  have rg : iRange1 (mCons (mCall dMax (mCons (mC (.int 1)) (mCons (mCall dMin (mCons (mC (.int 5)) (mCons (mCall dLen (mCons (mVar 0) (mNil))) (mNil)))) (mNil)))) (mNil)) ⟨[.ow (.fz (.scr ns)), .un, .un, .un, .un, .un, .un], [.fz (.scr ns)]⟩ = .ok ((List.range (max 1 (min 5 (ns.length : Int))).toNat).map fun i : Nat => D.int (0 + (i : Int))) ⟨[.ow (.fz (.scr ns)), .un, .un, .un, .un, .un, .un], [.fz (.scr ns)]⟩ :=
    irange_v (cons_v (calls_v (f := dMax) (cons_v (x := .int 1) (a := mC (.int 1)) rfl (cons_v (calls_v (f := dMin) (cons_v (x := .int 5) (a := mC (.int 5)) rfl (cons_v (x := .int ns.length) rfl nil_v)) rfl) nil_v)) rfl) nil_v) (by omega) (by omega)
  obtain ⟨sd', q12, s1, s2, s3, s4, s5, s6, e⟩ := sFor_upto (g := tgN 1) (body := m_law_b2 cs) _ (fun i : Nat => D.int (0 + (i : Int))) (fun i sd => ∃ s1 s2 s3 s4 s5 s6, sd = ⟨[.ow (.fz (.scr ns)), s1, s2, s3, s4, s5, s6], [.fz (.scr ns)]⟩) rg ⟨.un, .un, .un, .un, .un, .un, rfl⟩ (by
    rintro i sd hi ⟨s1, s2, s3, s4, s5, s6, rfl⟩
    have e0 : (0 : Int) + (i : Int) = i := by omega
    obtain ⟨s2', s3', s4', s5', s6', q⟩ := law_cell (cs := cs) (ns := ns) (k := i) (by omega) (s2 := s2) (s3 := s3) (s4 := s4) (s5 := s5) (s6 := s6)
    exact ⟨⟨[.ow (.fz (.scr ns)), .ow (.fz (.int (0 + (i : Int)))), s2, s3, s4, s5, s6], [.fz (.scr ns)]⟩, _, rfl, .inl (by rw [e0]; exact q), _, _, _, _, _, _, rfl⟩)
  subst e
  have no : ∀ e ∈ ([] : List (List Int)), Eg e := fun e he => by cases he
  refine ⟨_, def_rt (sd := ⟨[.ow (.fz (.scr ns)), s1, s2, s3, s4, s5, s6], [.fz (.scr ns)]⟩) ent (seq_nx q12 (ret_d ?_))⟩
  generalize esd : (⟨[.ow (.fz (.scr ns)), s1, s2, s3, s4, s5, s6], [.fz (.scr ns)]⟩ : SD) = sd
  have mk := made_v (cs := cs) no List.nodup_nil (by decide) (a := mView (mLst (mNil))) (sd := sd) (sd1 := sd) rfl
  refine Eq.trans (andv_t (op_v (f := dEq) (len_v (cs := cs) (es := []) (cons_v mk nil_v) (by decide)) (b := mC (.int 0)) (y := .int 0) rfl rfl)) ?_
  have pe := view_v (prop_v (cs := cs) mk)
  rw [sort_nil] at pe
  refine op_v (f := dEq) pe (b := mTup mNil) (y := .tup []) rfl ?_
  with_unfolding_all rfl
theorem walk {l : PySem.W.OpenLaw} {q : Program} {loose : List Str} {XP : (Str → Option Value) → Heap → Prop} {YP : World → Heap → Prop} {d : DefRec} {K : Params → PySem.W.Frag} (hn : l.most = some 63) (hdf : d.params.defaults = [])
    (hY : ∀ (w : World) (h : Heap), YP w h → (K w.params).In h)
    (F : ∀ (w : World) (mg : Str → Option Value) (fa : Addr) (h : Heap), (K w.params).In h → h.Ns mainGlobals mg → mg d.name = some (.ref fa) →
      ∃ fd : FuncData, (∀ (s : Shared) (u : Value), BindsTo s fd ⟨[u], []⟩ [("script", u)]) ∧ ∀ base : Heap, (K w.params).In base → base.Ns mainGlobals mg → ∃ cs : Nat → Addr, CsOk cs ∧ FnG l.prog w (K w.params) mg base (L2.CX l.prog w) 21 fa fd ["script"] (spD (K w.params) 1 (m_law cs))) :
    PySem.W.WalkO q loose XP YP l.row.toRowW d [] (fun f vs => PySem.call f vs) :=
  walk_G (n := 63) (k := 21) (x := "script") (sp := fun w vs H Q E => (∀ cs, CsOk cs → spD (K w.params) 1 (m_law cs) vs H Q E)) hn (by decide) hdf ⟨⟨rfl, by decide, by decide⟩, rfl⟩ hY (fun w mg fa h a b c => by
    obtain ⟨fd, h1, h2⟩ := F w mg fa h a b c
    refine ⟨fd, h1, fun base hb hg => ?_⟩
    obtain ⟨cs, hc, h3⟩ := h2 base hb hg
    exact ⟨fun vs H Q E hs => h3.len vs H Q E (hs cs hc), fun A out s H args us vs Q E r e0 bd rel hs => h3.run A out s H args us vs Q E r e0 bd rel (hs cs hc)⟩) fun w H a ns hl hb hS cs hc => law_sp hS (law_true cs hc ns hl hb)
end Lw
open PySem PySem.W PyProof.Rows
set_option maxRecDepth 100000 in
set_option maxHeartbeats 0 in
theorem PySem.Challenge.cw_plotpens_k45_pictures_made_holds : PySem.Challenge.rw_plotpens_k45_pictures_made.Holds := by
  w_on; o_law; k_head; (case hw => w_witness2)
  k_fill
  refine Lw.walk (l := PySem.Challenge.rw_plotpens_k45_pictures_made) rfl rfl (fun w h Y => PySem.W.kIn_of Y) ?F
  case F =>
    intro w mg fa h KX G hmg
    refine' Lw.all_mk KX G hmg ?g_Picture ?a1 ?l1 ?c1 ?k1 ?a2 ?i2 ?l2 ?c2 ?k2 ?pa3 ?pb3 ?pc3 ?pd3 ?l3 ?c3 ?k3 ?a4 ?l4 ?c4 ?k4 ?a5 ?l5 ?c5 ?k5 ?a6 ?l6 ?c6 ?k6 ?a7 ?l7 ?c7 ?k7 ?a8 ?i8 ?l8 ?c8 ?k8 ?a9 ?l9 ?c9 ?k9 ?a10 ?l10 ?c10 ?k10 ?a11 ?i11 ?l11 ?c11 ?k11 ?a12 ?l12 ?c12 ?k12 ?a13 ?i13 ?l13 ?c13 ?k13 ?a14 ?l14 ?c14 ?k14 ?a15 ?l15 ?c15 ?k15 ?a16 ?l16 ?c16 ?k16 ?a17 ?l17 ?c17 ?k17 ?a18 ?l18 ?c18 ?k18 ?a19 ?l19 ?c19 ?k19 ?a20 ?l20 ?c20 ?k20 ?a21 ?l21 ?c21 ?k21 ?a22 ?l22 ?c22 ?k22 ?a23 ?l23 ?c23 ?k23 ?a24 ?l24 ?c24 ?k24 ?z_abs ?z_all ?z_bool ?z_int ?z_isinstance ?z_len ?z_list ?z_max ?z_min ?z_range ?z_repr ?z_set ?z_sorted ?z_tuple ?pg_Picture ?hd_Picture ?po_Picture ?sa_Picture ?ha_Picture ?hn_Picture ?ht_Picture ?hm_Picture ?mk_Picture ?kc_Picture ?n_Picture_known_edges ?n_Picture_sorted_edges ?ic_Picture ?tc_Picture ?is_Picture_NoneType ?is_Picture_bool ?is_Picture_int ?is_Picture_str ?is_Picture_tuple ?is_Picture_list ?is_Picture_dict ?it_Picture_Picture ?ne_Picture ?ob_Picture ?nf_Picture_NoneType ?nf_Picture_bool ?nf_Picture_int ?nf_Picture_str ?nf_Picture_tuple ?nf_Picture_list ?nf_Picture_dict ?ng_Picture_Picture
    (case g_Picture => k_is); (case a1 => k_is); (case l1 => k_is); (case c1 => k_is); (case k1 => k_is); (case a2 => k_is); (case i2 => k_is); (case l2 => k_is)
    (case c2 => k_is); (case k2 => k_is); (case pa3 => k_is); (case pb3 => k_is); (case pc3 => k_is); (case pd3 => k_is); (case l3 => k_is); (case c3 => k_is)
    (case k3 => k_is); (case a4 => k_is); (case l4 => k_is); (case c4 => k_is); (case k4 => k_is); (case a5 => k_is); (case l5 => k_is); (case c5 => k_is)
    (case k5 => k_is); (case a6 => k_is); (case l6 => k_is); (case c6 => k_is); (case k6 => k_is); (case a7 => k_is); (case l7 => k_is); (case c7 => k_is)
    (case k7 => k_is); (case a8 => k_is); (case i8 => k_is); (case l8 => k_is); (case c8 => k_is); (case k8 => k_is); (case a9 => k_is); (case l9 => k_is)
    (case c9 => k_is); (case k9 => k_is); (case a10 => k_is); (case l10 => k_is); (case c10 => k_is); (case k10 => k_is); (case a11 => k_is); (case i11 => k_is)
    (case l11 => k_is); (case c11 => k_is); (case k11 => k_is); (case a12 => k_is); (case l12 => k_is); (case c12 => k_is); (case k12 => k_is); (case a13 => k_is)
    (case i13 => k_is); (case l13 => k_is); (case c13 => k_is); (case k13 => k_is); (case a14 => k_is); (case l14 => k_is); (case c14 => k_is); (case k14 => k_is)
    (case a15 => k_is); (case l15 => k_is); (case c15 => k_is); (case k15 => k_is); (case a16 => k_is); (case l16 => k_is); (case c16 => k_is); (case k16 => k_is)
    (case a17 => k_is); (case l17 => k_is); (case c17 => k_is); (case k17 => k_is); (case a18 => k_is); (case l18 => k_is); (case c18 => k_is); (case k18 => k_is)
    (case a19 => k_is); (case l19 => k_is); (case c19 => k_is); (case k19 => k_is); (case a20 => k_is); (case l20 => k_is); (case c20 => k_is); (case k20 => k_is)
    (case a21 => k_is); (case l21 => k_is); (case c21 => k_is); (case k21 => k_is); (case a22 => k_is); (case l22 => k_is); (case c22 => k_is); (case k22 => k_is)
    (case a23 => k_is); (case l23 => k_is); (case c23 => k_is); (case k23 => k_is); (case a24 => k_is); (case l24 => k_is); (case c24 => k_is); (case k24 => k_is)
    (case z_abs => k_is); (case z_all => k_is); (case z_bool => k_is); (case z_int => k_is); (case z_isinstance => k_is); (case z_len => k_is); (case z_list => k_is); (case z_max => k_is)
    (case z_min => k_is); (case z_range => k_is); (case z_repr => k_is); (case z_set => k_is); (case z_sorted => k_is); (case z_tuple => k_is); (case pg_Picture => k_is); (case hd_Picture => k_is)
    (case po_Picture => k_is); (case sa_Picture => k_is); (case ha_Picture => k_is); (case hn_Picture => k_is); (case ht_Picture => k_is); (case hm_Picture => k_is); (case mk_Picture => k_is); (case kc_Picture => k_is)
    (case n_Picture_known_edges => k_is); (case n_Picture_sorted_edges => k_is); (case ic_Picture => k_is); (case tc_Picture => k_is); (case is_Picture_NoneType => k_is); (case is_Picture_bool => k_is); (case is_Picture_int => k_is); (case is_Picture_str => k_is)
    (case is_Picture_tuple => k_is); (case is_Picture_list => k_is); (case is_Picture_dict => k_is); (case it_Picture_Picture => k_is); (case ne_Picture => k_is); (case ob_Picture => k_is); (case nf_Picture_NoneType => k_is); (case nf_Picture_bool => k_is)
    (case nf_Picture_int => k_is); (case nf_Picture_str => k_is); (case nf_Picture_tuple => k_is); (case nf_Picture_list => k_is); (case nf_Picture_dict => k_is); (case ng_Picture_Picture => k_is)
