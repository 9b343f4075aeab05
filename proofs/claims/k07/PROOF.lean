import PyProof.Rows.All
import Wide.All
import OpenK.AllK
import Wide.FinOn
import HandS.ForMost
import HandS.Exc
import HandS.TryOnly
import HandS.ExcOwn
import HandS.WordsExc
import HandS.CallSlots
import HandS.Wide
import HandS.IsInst
import HandS.SortRule
import HandS.SortInts
import HandS.EndBits
import HandS.TupAny
import HandS.Style
import HandS.Property
import HandS.SlotsOwn
import HandS.Star
import KE.KOpsOwn
import PyProof.InstNe
import PyProof.ReprRoads
import HandS.SetFor
import HandS.Strs
import HandS.Conv
import HandS.Text
import HandS.Rev
import HandS.WideBits
import HandS.RaiseMore
import HandS.TupLe
import PyProof.StrOps2
import HandS.MakeKwOnly
import HandS.ExcIs
import HandS.Deep
import HandS.GenList
import PyProof.ListStr
import HandS.ExcInit
import HandS.ExcField
import KE.KExcIs
import HandS.DictComp
import HandS.TupLen
import HandS.WordsDict
import HandS.StrMore
import HandS.More
import HandS.Small
import HandS.HeadHook3
import HandS.TupSets
import HandS.DictTup
import KE.KDictList
import HandS.Iter
import KE.DataMinMax
import PySem.Challenge.RW_plotpens_k07_sources_read
set_option Elab.async false
set_option linter.all false
set_option maxRecDepth 100000
namespace DL
open PySem PySem.Spec L2
/-- a dict's key by its value -/
inductive DKey where
  | k (k : Key)
  | t (ks : List Key)
  deriving DecidableEq
/-- a value that nobody changes any more -/
inductive D where
  | non
  | bl (b : Bool)
  | int (i : Int)
  | str (x : Str)
  | ty (n : String)
  | cls (C : Addr)
  | tup (xs : List D)
  | ktu (xs : List D)
  | lst (xs : List D)
  | scr (ns : List Int)
  | dic (tk : Bool) (ks : List DKey) (vs : List D)
  | ins (C : Addr) (ns : List Str) (vs : List D)
  | exc (C : Addr) (ns : List Str) (vs : List D)
/-- an exception object of the class cls with the dict d, at a -/
noncomputable def ExT (cls : Value) (d : Option Addr) (a : Addr) : HO := .ext fun h => ∃ oe : Obj, h.get? a = some oe ∧ Zc cls d oe ∧ ∃ vs, oe.data = .fields vs
/-- a value that one name alone reaches (fz: a D) -/
inductive OT where
  | fz (d : D)
  | ol (ts : List OT)
  | od (tk : Bool) (ks : List DKey) (ts : List OT)
  | oi (C : Addr) (ns : List Str) (ts : List OT)
  | ot (ts : List OT)
mutual
inductive Rep (K : PySem.W.Frag) (F : Hp) : V → D → Prop
  | non : Rep K F .non .non
  | bl (b : Bool) : Rep K F (.bl b) (.bl b)
  | int (i : Int) : Rep K F (.int i) (.int i)
  | str (x : Str) : Rep K F (.str x) (.str x)
  | ty (n : String) : Rep K F (.ty n) (.ty n)
  | cls (C : Addr) : Rep K F (.ref C) (.cls C)
  | tup {a : Addr} {vs : List V} {ds : List D} : F a = some (.tup vs) → Reps K F vs ds → Rep K F (.ref a) (.tup ds)
  | ktu {a : Addr} {vs : List V} {ds : List D} : SqT K F a vs → Reps K F vs ds → Rep K F (.ref a) (.ktu ds)
  | lst {a : Addr} {vs : List V} {ds : List D} : Rd F a (.lst vs) → Reps K F vs ds → Rep K F (.ref a) (.lst ds)
  | scr {a : Addr} {ns : List Int} : SqL K F a (ns.map V.int) → Rep K F (.ref a) (.scr ns)
  | dicK {a : Addr} {kvs : List (Key × V)} {ds : List D} : Rd F a (.dK kvs) → Reps K F (kvs.map (·.2)) ds → Rep K F (.ref a) (.dic false (kvs.map fun p => .k p.1) ds)
  | dicT {a : Addr} {kvs : List (List Key × V)} {ds : List D} : Rd F a (.dT kvs) → Reps K F (kvs.map (·.2)) ds → Rep K F (.ref a) (.dic true (kvs.map fun p => .t p.1) ds)
  | ins {a C dx : Addr} {fvs : List (Str × V)} {ds : List D} : F a = some (.ins C dx fvs) → Reps K F (fvs.map (·.2)) ds → Rep K F (.ref a) (.ins C (fvs.map (·.1)) ds)
  | exc {a C : Addr} {d : Option Addr} {fvs : List (Str × V)} {ds : List D} : F a = some (ExT (.ref C) d a) → (∀ dx, d = some dx → F dx = some (.xd fvs)) → (d = none ↔ fvs = []) → Reps K F (fvs.map (·.2)) ds → Rep K F (.ref a) (.exc C (fvs.map (·.1)) ds)
inductive Reps (K : PySem.W.Frag) (F : Hp) : List V → List D → Prop
  | nil : Reps K F [] []
  | cons {v : V} {vs : List V} {d : D} {ds : List D} : Rep K F v d → Reps K F vs ds → Reps K F (v :: vs) (d :: ds)
end
theorem Same.rd {H H' : Hp} {a : Addr} {u : HO} (e : Same H H') (h : Rd H a u) : Rd H' a u := by
  rcases h with h | ⟨o, h⟩
  · exact .inl (e _ _ h)
  · exact .inr ⟨o, e _ _ h⟩
theorem Same.sqt {K : PySem.W.Frag} {H H' : Hp} {a : Addr} {xs : List V} (e : Same H H') (h : SqT K H a xs) : SqT K H' a xs := by
  rcases h with h | h
  · exact .inl (Same.rd e h)
  · exact .inr h
theorem Same.upd {H : Hp} {p : Addr} {o : HO} (h : H p = none) : Same H (upd H p o) := fun a u e => by
  rw [upd_ne (ne_of_none e h)]; exact e
section
variable {K : PySem.W.Frag} {F F' H H' : Hp}
mutual
theorem Rep.mono (e : Same F F') : ∀ {v : V} {d : D}, Rep K F v d → Rep K F' v d
  | _, _, .non => .non
  | _, _, .bl b => .bl b
  | _, _, .int i => .int i
  | _, _, .str x => .str x
  | _, _, .ty n => .ty n
  | _, _, .cls C => .cls C
  | _, _, .tup h r => .tup (e _ _ h) (Reps.mono e r)
  | _, _, .ktu h r => .ktu (Same.sqt e h) (Reps.mono e r)
  | _, _, .lst h r => .lst (Same.rd e h) (Reps.mono e r)
  | _, _, .scr h => .scr (e.seq h)
  | _, _, .dicK h r => .dicK (Same.rd e h) (Reps.mono e r)
  | _, _, .dicT h r => .dicT (Same.rd e h) (Reps.mono e r)
  | _, _, .ins h r => .ins (e _ _ h) (Reps.mono e r)
  | _, _, .exc h k n r => .exc (e _ _ h) (fun dx z => e _ _ (k dx z)) n (Reps.mono e r)
theorem Reps.mono (e : Same F F') : ∀ {vs : List V} {ds : List D}, Reps K F vs ds → Reps K F' vs ds
  | _, _, .nil => .nil
  | _, _, .cons h r => .cons (Rep.mono e h) (Reps.mono e r)
end
theorem Reps.length : ∀ {vs : List V} {ds : List D}, Reps K F vs ds → vs.length = ds.length
  | _, _, .nil => rfl
  | _, _, .cons _ r => by rw [List.length_cons, List.length_cons, Reps.length r]
theorem Reps.get : ∀ {vs : List V} {ds : List D} {i : Nat} {d : D}, Reps K F vs ds → ds[i]? = some d → ∃ v, vs[i]? = some v ∧ Rep K F v d
  | _, _, _, _, .nil, e => by simp at e
  | _, _, 0, _, .cons h _, e => by simp at e; subst e; exact ⟨_, rfl, h⟩
  | _, _, i + 1, _, .cons _ r, e => by
    obtain ⟨v, h1, h2⟩ := Reps.get (i := i) r (by simpa using e)
    exact ⟨v, by simpa using h1, h2⟩
theorem Reps.append : ∀ {vs ws : List V} {ds es : List D}, Reps K F vs ds → Reps K F ws es → Reps K F (vs ++ ws) (ds ++ es)
  | _, _, _, _, .nil, s => s
  | _, _, _, _, .cons h r, s => .cons h (Reps.append r s)
theorem Reps.one {v : V} {d : D} (h : Rep K F v d) : Reps K F [v] [d] := .cons h .nil
theorem Reps.take : ∀ {vs : List V} {ds : List D} (n : Nat), Reps K F vs ds → Reps K F (vs.take n) (ds.take n)
  | _, _, 0, _ => .nil
  | _, _, _ + 1, .nil => .nil
  | _, _, n + 1, .cons h r => .cons h (Reps.take n r)
theorem Reps.drop : ∀ {vs : List V} {ds : List D} (n : Nat), Reps K F vs ds → Reps K F (vs.drop n) (ds.drop n)
  | _, _, 0, r => r
  | _, _, _ + 1, .nil => .nil
  | _, _, n + 1, .cons _ r => Reps.drop n r
theorem Reps.dropLast {vs : List V} {ds : List D} (r : Reps K F vs ds) : Reps K F vs.dropLast ds.dropLast := by
  rw [List.dropLast_eq_take, List.dropLast_eq_take, r.length]; exact r.take _
theorem Reps.reverse : ∀ {vs : List V} {ds : List D}, Reps K F vs ds → Reps K F vs.reverse ds.reverse
  | _, _, .nil => .nil
  | _, _, .cons h r => by rw [List.reverse_cons, List.reverse_cons]; exact (Reps.reverse r).append (.one h)
theorem Reps.set : ∀ {vs : List V} {ds : List D} {v : V} {d : D} (i : Nat), Rep K F v d → Reps K F vs ds → Reps K F (vs.set i v) (ds.set i d)
  | _, _, _, _, _, _, .nil => .nil
  | _, _, _, _, 0, h, .cons _ r => .cons h r
  | _, _, _, _, i + 1, h, .cons k r => .cons k (Reps.set i h r)
/-- ints -/
theorem Reps.ints : ∀ (ns : List Int), Reps K F (ns.map V.int) (ns.map D.int)
  | [] => .nil
  | n :: r => .cons (.int n) (Reps.ints r)
end
mutual
noncomputable def OT.view : OT → D
  | .fz d => d
  | .ol ts => .lst (OT.views ts)
  | .od tk ks ts => .dic tk ks (OT.views ts)
  | .oi C ns ts => .ins C ns (OT.views ts)
  | .ot ts => .tup (OT.views ts)
noncomputable def OT.views : List OT → List D
  | [] => []
  | t :: ts => t.view :: OT.views ts
end
theorem views_eq : ∀ ts : List OT, OT.views ts = ts.map OT.view
  | [] => by rw [OT.views]; rfl
  | t :: ts => by rw [OT.views, views_eq ts]; rfl
theorem views_fz : ∀ ds : List D, OT.views (ds.map OT.fz) = ds
  | [] => by rw [List.map_nil, OT.views]
  | d :: ds => by rw [List.map_cons, OT.views, OT.view, views_fz ds]
mutual
noncomputable def RepO (K : PySem.W.Frag) (F H : Hp) : OT → V → (Addr → Prop) → Prop
  | .fz d, v, _ => Rep K F v d
  | .ol ts, v, P => ∃ (a : Addr) (vs : List V), v = .ref a ∧ P a ∧ H a = some (.lst vs) ∧ RepOs K F H ts vs (fun x => P x ∧ x ≠ a)
  | .od tk ks ts, v, P => ∃ (a : Addr), v = .ref a ∧ P a ∧
      ((tk = false ∧ ∃ kvs : List (Key × V), H a = some (.dK kvs) ∧ ks = kvs.map (fun p => DKey.k p.1) ∧ RepOs K F H ts (kvs.map (·.2)) (fun x => P x ∧ x ≠ a)) ∨
       (tk = true ∧ ∃ kvs : List (List Key × V), H a = some (.dT kvs) ∧ ks = kvs.map (fun p => DKey.t p.1) ∧ RepOs K F H ts (kvs.map (·.2)) (fun x => P x ∧ x ≠ a)))
  | .oi C ns ts, v, P => ∃ (a dx : Addr) (fvs : List (Str × V)), v = .ref a ∧ P a ∧ H a = some (.ins C dx fvs) ∧ ns = fvs.map (·.1) ∧ RepOs K F H ts (fvs.map (·.2)) (fun x => P x ∧ x ≠ a)
  | .ot ts, v, P => ∃ (a : Addr) (vs : List V), v = .ref a ∧ F a = some (.tup vs) ∧ RepOs K F H ts vs P
noncomputable def RepOs (K : PySem.W.Frag) (F H : Hp) : List OT → List V → (Addr → Prop) → Prop
  | [], vs, _ => vs = []
  | t :: ts, vs, P => ∃ (v : V) (ws : List V) (P1 P2 : Addr → Prop), vs = v :: ws ∧ (∀ x, P1 x → P x) ∧ (∀ x, P2 x → P x ∧ ¬ P1 x) ∧ RepO K F H t v P1 ∧ RepOs K F H ts ws P2
end
section
variable {K : PySem.W.Frag} {F F' H H' : Hp}
mutual
theorem RepO.mono (e : Same F F') : ∀ {t : OT} {v : V} {P P' : Addr → Prop}, (∀ x, P x → P' x ∧ H' x = H x) → RepO K F H t v P → RepO K F' H' t v P'
  | .fz d, v, P, P', _, h => by
    unfold RepO at h ⊢
    exact h.mono e
  | .ol ts, v, P, P', k, h => by
    unfold RepO at h ⊢
    obtain ⟨a, vs, rfl, pa, ha, r⟩ := h
    exact ⟨a, vs, rfl, (k a pa).1, by rw [(k a pa).2]; exact ha, RepOs.mono e (fun x hx => ⟨⟨(k x hx.1).1, hx.2⟩, (k x hx.1).2⟩) r⟩
  | .od tk ks ts, v, P, P', k, h => by
    unfold RepO at h ⊢
    obtain ⟨a, rfl, pa, h⟩ := h
    refine ⟨a, rfl, (k a pa).1, ?_⟩
    rcases h with ⟨e0, kvs, ha, hk, r⟩ | ⟨e0, kvs, ha, hk, r⟩
    · exact .inl ⟨e0, kvs, by rw [(k a pa).2]; exact ha, hk, RepOs.mono e (fun x hx => ⟨⟨(k x hx.1).1, hx.2⟩, (k x hx.1).2⟩) r⟩
    · exact .inr ⟨e0, kvs, by rw [(k a pa).2]; exact ha, hk, RepOs.mono e (fun x hx => ⟨⟨(k x hx.1).1, hx.2⟩, (k x hx.1).2⟩) r⟩
  | .oi C ns ts, v, P, P', k, h => by
    unfold RepO at h ⊢
    obtain ⟨a, dx, fvs, rfl, pa, ha, hn, r⟩ := h
    exact ⟨a, dx, fvs, rfl, (k a pa).1, by rw [(k a pa).2]; exact ha, hn, RepOs.mono e (fun x hx => ⟨⟨(k x hx.1).1, hx.2⟩, (k x hx.1).2⟩) r⟩
  | .ot ts, v, P, P', k, h => by
    unfold RepO at h ⊢
    obtain ⟨a, vs, rfl, fa, r⟩ := h
    exact ⟨a, vs, rfl, e _ _ fa, RepOs.mono e k r⟩
theorem RepOs.mono (e : Same F F') : ∀ {ts : List OT} {vs : List V} {P P' : Addr → Prop}, (∀ x, P x → P' x ∧ H' x = H x) → RepOs K F H ts vs P → RepOs K F' H' ts vs P'
  | [], vs, P, P', _, h => by
    unfold RepOs at h ⊢
    exact h
  | t :: ts, vs, P, P', k, h => by
    unfold RepOs at h ⊢
    obtain ⟨v, ws, P1, P2, rfl, h1, h2, r1, r2⟩ := h
    exact ⟨v, ws, P1, P2, rfl, fun x hx => (k x (h1 x hx)).1, fun x hx => ⟨(k x (h2 x hx).1).1, (h2 x hx).2⟩, RepO.mono e (fun x hx => ⟨hx, (k x (h1 x hx)).2⟩) r1, RepOs.mono e (fun x hx => ⟨hx, (k x (h2 x hx).1).2⟩) r2⟩
end
mutual
/-- frozen: the tree's own cells stand in F' as they stand in H -/
theorem RepO.frz (e : Same F F') : ∀ {t : OT} {v : V} {P : Addr → Prop}, (∀ x, P x → ∀ o, H x = some o → F' x = some o) → RepO K F H t v P → Rep K F' v t.view
  | .fz d, v, P, _, h => by
    unfold RepO at h
    rw [OT.view]
    exact h.mono e
  | .ol ts, v, P, k, h => by
    unfold RepO at h
    obtain ⟨a, vs, rfl, pa, ha, r⟩ := h
    rw [OT.view]
    exact .lst (.inl (k a pa _ ha)) (RepOs.frz e (fun x hx => k x hx.1) r)
  | .od tk ks ts, v, P, k, h => by
    unfold RepO at h
    obtain ⟨a, rfl, pa, h⟩ := h
    rw [OT.view]
    rcases h with ⟨e0, kvs, ha, hk, r⟩ | ⟨e0, kvs, ha, hk, r⟩
    · subst hk e0; exact .dicK (.inl (k a pa _ ha)) (RepOs.frz e (fun x hx => k x hx.1) r)
    · subst hk e0; exact .dicT (.inl (k a pa _ ha)) (RepOs.frz e (fun x hx => k x hx.1) r)
  | .oi C ns ts, v, P, k, h => by
    unfold RepO at h
    obtain ⟨a, dx, fvs, rfl, pa, ha, hn, r⟩ := h
    rw [OT.view]
    subst hn
    exact .ins (k a pa _ ha) (RepOs.frz e (fun x hx => k x hx.1) r)
  | .ot ts, v, P, k, h => by
    unfold RepO at h
    obtain ⟨a, vs, rfl, fa, r⟩ := h
    rw [OT.view]
    exact .tup (e _ _ fa) (RepOs.frz e k r)
theorem RepOs.frz (e : Same F F') : ∀ {ts : List OT} {vs : List V} {P : Addr → Prop}, (∀ x, P x → ∀ o, H x = some o → F' x = some o) → RepOs K F H ts vs P → Reps K F' vs (OT.views ts)
  | [], vs, P, _, h => by
    unfold RepOs at h
    subst h
    rw [OT.views]
    exact .nil
  | t :: ts, vs, P, k, h => by
    unfold RepOs at h
    obtain ⟨v, ws, P1, P2, rfl, h1, h2, r1, r2⟩ := h
    rw [OT.views]
    exact .cons (RepO.frz e (fun x hx => k x (h1 x hx)) r1) (RepOs.frz e (fun x hx => k x (h2 x hx).1) r2)
end
/-- a list of frozen items -/
theorem repOs_fz : ∀ {ds : List D} {vs : List V} {P : Addr → Prop}, RepOs K F H (ds.map OT.fz) vs P → Reps K F vs ds
  | [], vs, P, h => by
    rw [List.map_nil] at h
    unfold RepOs at h
    subst h
    exact .nil
  | d :: ds, vs, P, h => by
    rw [List.map_cons] at h
    unfold RepOs at h
    obtain ⟨v, ws, P1, P2, rfl, h1, h2, r1, r2⟩ := h
    unfold RepO at r1
    exact .cons r1 (repOs_fz r2)
theorem repOs_of : ∀ {ds : List D} {vs : List V} (P : Addr → Prop), Reps K F vs ds → RepOs K F H (ds.map OT.fz) vs P
  | [], vs, P, h => by
    cases h
    rw [List.map_nil]
    unfold RepOs
    rfl
  | d :: ds, vs, P, h => by
    cases h with
    | cons h r =>
      rw [List.map_cons]
      unfold RepOs
      refine ⟨_, _, fun _ => False, P, rfl, fun x z => z.elim, fun x z => ⟨z, id⟩, ?_, repOs_of P r⟩
      unfold RepO
      exact h
theorem RepOs.length : ∀ {ts : List OT} {vs : List V} {P : Addr → Prop}, RepOs K F H ts vs P → vs.length = ts.length
  | [], vs, P, h => by
    unfold RepOs at h
    subst h; rfl
  | t :: ts, vs, P, h => by
    unfold RepOs at h
    obtain ⟨v, ws, P1, P2, rfl, h1, h2, r1, r2⟩ := h
    rw [List.length_cons, List.length_cons, RepOs.length r2]
end
/-- a slot: nothing known; a tree; the tree of the j-th parameter that the caller goes on with -/
inductive S where
  | un
  | ow (t : OT)
  | pa (j : Nat)
structure SD where
  sl : List S
  pa : List OT
/-- no tuple is new -/
theorem nt_upd {H : Hp} {p : Addr} {u : HO} (h : ∀ xs, u ≠ .tup xs) : ∀ a xs, upd H p u a = some (.tup xs) → H a = some (.tup xs) := fun a xs e => by
  unfold upd at e
  split at e
  · exact absurd (Option.some.inj e) (h xs)
  · exact e
theorem nt_upd2 {H : Hp} {p q : Addr} {u w : HO} (h : ∀ xs, u ≠ .tup xs) (h2 : ∀ xs, w ≠ .tup xs) : ∀ a xs, upd (upd H p u) q w a = some (.tup xs) → H a = some (.tup xs) := fun a xs e => nt_upd h a xs (nt_upd h2 a xs e)
structure Own (K : PySem.W.Frag) (pv : List V) (G F : Hp) (sd : SD) (σ : St) (H : Hp) (o : Nat ⊕ Nat → Addr → Prop) : Prop where
  fh : Same F H
  gh : Same G H
  fg : ∀ a, F a ≠ none → G a = none
  oh : ∀ i a, o i a → H a ≠ none ∧ F a = none ∧ G a = none
  oo : ∀ i j a, o i a → o j a → i = j
  len : σ.length = sd.sl.length
  sl : ∀ (i : Nat) (t : OT), sd.sl[i]? = some (S.ow t) → ∃ v : V, σ[i]? = some (some v) ∧ RepO K F H t v (o (.inl i))
  sp : ∀ (i j : Nat), sd.sl[i]? = some (S.pa j) → ∃ v : V, pv[j]? = some v ∧ σ[i]? = some (some v)
  pr : ∀ (j : Nat) (t : OT), sd.pa[j]? = some t → ∃ v : V, pv[j]? = some v ∧ RepO K F H t v (o (.inr j))
  /-- each tuple that is known is a frozen one -/
  tf : ∀ a xs, H a = some (.tup xs) → F a = some (.tup xs)
noncomputable def StR (K : PySem.W.Frag) (pv : List V) (G F : Hp) (sd : SD) (σ : St) (H : Hp) : Prop := ∃ o, Own K pv G F sd σ H o
/-- .. and one tree more, that no name reaches yet -/
noncomputable def StR1 (K : PySem.W.Frag) (pv : List V) (G F : Hp) (sd : SD) (σ : St) (H : Hp) (v : V) (t : OT) : Prop :=
  ∃ o P, Own K pv G F sd σ H o ∧ RepO K F H t v P ∧ ∀ a, P a → H a ≠ none ∧ F a = none ∧ G a = none ∧ ∀ i, ¬ o i a
section
variable {K : PySem.W.Frag} {pv : List V} {G F F' H H' : Hp} {sd : SD} {σ : St} {o : Nat ⊕ Nat → Addr → Prop}
theorem Own.fresh (W : Own K pv G F sd σ H o) {p : Addr} (hp : H p = none) : F p = none ∧ G p = none ∧ ∀ i, ¬ o i p :=
  ⟨W.fh.free hp, W.gh.free hp, fun i q => (W.oh i p q).1 hp⟩
/-- the heap grows, F grows by what is new -/
theorem Own.grow (W : Own K pv G F sd σ H o) (h : Same H H') (f : Same F F') (fh : Same F' H') (fn : ∀ a, F' a ≠ none → F a ≠ none ∨ H a = none) (nt : ∀ a xs, H' a = some (.tup xs) → H a = some (.tup xs) ∨ F' a = some (.tup xs) := by first | exact fun a xs e => .inl (nt_upd (by intro _ z; cases z) a xs e) | exact fun a xs e => .inl (nt_upd2 (by intro _ z; cases z) (by intro _ z; cases z) a xs e)) : Own K pv G F' sd σ H' o where
  fh := fh
  gh := W.gh.trans h
  fg := fun a ha => by
    rcases fn a ha with z | z
    · exact W.fg a z
    · exact W.gh.free z
  oh := fun i a q => by
    obtain ⟨h1, h2, h3⟩ := W.oh i a q
    refine ⟨?_, ?_, h3⟩
    · cases e : H a with
      | none => exact absurd e h1
      | some u => rw [h _ _ e]; simp
    · cases e : F' a with
      | none => rfl
      | some u =>
        rcases fn a (by rw [e]; simp) with z | z
        · exact absurd h2 z
        · exact absurd z h1
  oo := W.oo
  len := W.len
  sl := fun i t e => by
    obtain ⟨v, h1, h2⟩ := W.sl i t e
    refine ⟨v, h1, h2.mono f fun x hx => ⟨hx, ?_⟩⟩
    have n := (W.oh _ x hx).1
    cases e : H x with
    | none => exact absurd e n
    | some u => exact h _ _ e
  sp := W.sp
  pr := fun j t e => by
    obtain ⟨v, h1, h2⟩ := W.pr j t e
    refine ⟨v, h1, h2.mono f fun x hx => ⟨hx, ?_⟩⟩
    have n := (W.oh _ x hx).1
    cases e : H x with
    | none => exact absurd e n
    | some u => exact h _ _ e
  tf := fun a xs e => (nt a xs e).elim (fun z => f _ _ (W.tf a xs z)) id
theorem StR.fh (s : StR K pv G F sd σ H) : Same F H := let ⟨_, W⟩ := s; W.fh
/-- a new object, frozen at once -/
theorem StR.new {p : Addr} {u : HO} (s : StR K pv G F sd σ H) (hp : H p = none) : StR K pv G (upd F p u) sd σ (upd H p u) := by
  obtain ⟨o, W⟩ := s
  have n := W.fresh hp
  refine ⟨o, W.grow (Same.upd hp) (Same.upd n.1) (fun a x e => ?_) (fun a ha => ?_) ?_⟩
  · by_cases h : a = p
    · subst h; rw [upd_same] at e ⊢; exact e
    · rw [upd_ne h] at e ⊢; exact W.fh a x e
  · by_cases h : a = p
    · subst h; exact .inr hp
    · rw [upd_ne h] at ha; exact .inl ha
  · intro a xs e
    by_cases h : a = p
    · subst h; rw [upd_same] at e ⊢; exact .inr e
    · rw [upd_ne h] at e; exact .inl e
theorem StR.sameNew {p : Addr} {u : HO} (s : StR K pv G F sd σ H) (hp : H p = none) : Same F (upd F p u) := by
  obtain ⟨o, W⟩ := s
  exact Same.upd (W.fresh hp).1
/-- a new list, not frozen -/
theorem StR.newL {p : Addr} {vs : List V} {ds : List D} (s : StR K pv G F sd σ H) (hp : H p = none) (r : Reps K F vs ds) : StR1 K pv G F sd σ (upd H p (.lst vs)) (.ref p) (.ol (ds.map .fz)) := by
  obtain ⟨o, W⟩ := s
  have n := W.fresh hp
  refine ⟨o, fun x => x = p, W.grow (Same.upd hp) (Same.refl _) (fun a x e => ?_) (fun a ha => .inl ha), ?_, fun a ha => ?_⟩
  · rw [upd_ne (fun z => by rw [z, n.1] at e; cases e)]; exact W.fh a x e
  · unfold RepO
    exact ⟨p, vs, rfl, rfl, upd_same, repOs_of _ r⟩
  · subst ha
    exact ⟨by rw [upd_same]; simp, n.1, n.2.1, n.2.2⟩
/-- the tree is frozen -/
theorem StR1.frz {v : V} {t : OT} (s : StR1 K pv G F sd σ H v t) : ∃ F', Same F F' ∧ StR K pv G F' sd σ H ∧ Rep K F' v t.view := by
  classical
  obtain ⟨o, P, W, r, k⟩ := s
  let F' : Hp := fun a => if P a then H a else F a
  have f1 : Same F F' := fun a u e => by
    have : ¬ P a := fun z => by rw [(k a z).2.1] at e; cases e
    show (if P a then H a else F a) = some u
    rw [if_neg this]; exact e
  have f2 : Same F' H := fun a u e => by
    by_cases z : P a
    · have e : (if P a then H a else F a) = some u := e
      rw [if_pos z] at e; exact e
    · have e : (if P a then H a else F a) = some u := e
      rw [if_neg z] at e; exact W.fh a u e
  refine ⟨F', f1, ⟨o, ⟨f2, W.gh, fun a ha => ?_, fun i a q => ?_, W.oo, W.len, fun i t e => ?_, W.sp, fun j t e => ?_, fun a xs e => f1 _ _ (W.tf a xs e)⟩⟩, r.frz f1 fun x hx u e => ?_⟩
  · by_cases z : P a
    · exact (k a z).2.2.1
    · have ha : (if P a then H a else F a) ≠ none := ha
      rw [if_neg z] at ha; exact W.fg a ha
  · have z : ¬ P a := fun z => (k a z).2.2.2 i q
    obtain ⟨h1, h2, h3⟩ := W.oh i a q
    refine ⟨h1, ?_, h3⟩
    show (if P a then H a else F a) = none
    rw [if_neg z]; exact h2
  · obtain ⟨v, h1, h2⟩ := W.sl i t e
    exact ⟨v, h1, h2.mono f1 fun x hx => ⟨hx, rfl⟩⟩
  · obtain ⟨v, h1, h2⟩ := W.pr j t e
    exact ⟨v, h1, h2.mono f1 fun x hx => ⟨hx, rfl⟩⟩
  · show (if P x then H x else F x) = some u
    rw [if_pos hx]; exact e
theorem StR1.drop {v : V} {t : OT} (s : StR1 K pv G F sd σ H v t) : StR K pv G F sd σ H := let ⟨o, _, W, _⟩ := s; ⟨o, W⟩
theorem StR1.fz {v : V} {d : D} (s : StR K pv G F sd σ H) (r : Rep K F v d) : StR1 K pv G F sd σ H v (.fz d) := by
  obtain ⟨o, W⟩ := s
  refine ⟨o, fun _ => False, W, ?_, fun a z => z.elim⟩
  unfold RepO; exact r
/-- the tree becomes slot i's -/
theorem StR1.store {v : V} {t : OT} {i : Nat} (s : StR1 K pv G F sd σ H v t) (hi : i < sd.sl.length) : StR K pv G F { sd with sl := sd.sl.set i (.ow t) } (σ.set i (some v)) H := by
  classical
  obtain ⟨o, P, W, r, k⟩ := s
  refine ⟨fun j a => if j = .inl i then P a else o j a, ⟨W.fh, W.gh, W.fg, fun j a q => ?_, fun j l a q q' => ?_, by simpa using W.len, fun j t' e => ?_, fun j l e => ?_, fun j t' e => ?_, W.tf⟩⟩
  · by_cases z : j = .inl i
    · rw [if_pos z] at q; exact ⟨(k a q).1, (k a q).2.1, (k a q).2.2.1⟩
    · rw [if_neg z] at q; exact W.oh j a q
  · by_cases z : j = .inl i
    · rw [if_pos z] at q
      by_cases y : l = .inl i
      · rw [z, y]
      · rw [if_neg y] at q'; exact absurd q' ((k a q).2.2.2 l)
    · rw [if_neg z] at q
      by_cases y : l = .inl i
      · rw [if_pos y] at q'; exact absurd q ((k a q').2.2.2 j)
      · rw [if_neg y] at q'; exact W.oo j l a q q'
  · have hs : i < σ.length := by rw [W.len]; exact hi
    by_cases z : i = j
    · subst z
      have e : (sd.sl.set i (S.ow t))[i]? = some (S.ow t') := e
      rw [List.getElem?_set_self hi] at e
      cases e
      refine ⟨v, List.getElem?_set_self hs, ?_⟩
      exact r.mono (Same.refl _) fun x hx => ⟨by show (if Sum.inl i = Sum.inl i then P x else o (Sum.inl i) x); rw [if_pos rfl]; exact hx, rfl⟩
    · have e : (sd.sl.set i (S.ow t))[j]? = some (S.ow t') := e
      rw [List.getElem?_set_ne z] at e
      obtain ⟨w, h1, h2⟩ := W.sl j t' e
      refine ⟨w, by rw [List.getElem?_set_ne z]; exact h1, ?_⟩
      exact h2.mono (Same.refl _) fun x hx => ⟨by show (if Sum.inl j = Sum.inl i then P x else o (Sum.inl j) x); rw [if_neg (fun y => z (Sum.inl.inj y).symm)]; exact hx, rfl⟩
  · by_cases z : i = j
    · subst z
      have e : (sd.sl.set i (S.ow t))[i]? = some (S.pa l) := e
      rw [List.getElem?_set_self hi] at e
      cases e
    · have e : (sd.sl.set i (S.ow t))[j]? = some (S.pa l) := e
      rw [List.getElem?_set_ne z] at e
      obtain ⟨w, h1, h2⟩ := W.sp j l e
      exact ⟨w, h1, by rw [List.getElem?_set_ne z]; exact h2⟩
  · obtain ⟨w, h1, h2⟩ := W.pr j t' e
    exact ⟨w, h1, h2.mono (Same.refl _) fun x hx => ⟨by show (if Sum.inr j = Sum.inl i then P x else o (Sum.inr j) x); rw [if_neg (by intro y; cases y)]; exact hx, rfl⟩⟩
end
end DL
namespace DL
open PySem PySem.Spec L2
structure Exn where
  C : Addr
  fs : Option (List (Str × D))
/-- what an expression gives: a value and the state behind; an exception; nothing told -/
inductive ER (α : Type) where
  | ok (a : α) (sd : SD)
  | rz (x : Exn) (sd : SD)
  | bad
noncomputable def ER.bind {α γ : Type} (r : ER α) (f : α → SD → ER γ) : ER γ :=
  match r with
  | .ok a sd => f a sd
  | .rz x sd => .rz x sd
  | .bad => .bad
noncomputable def ER.opt {α : Type} (o : Option α) (sd : SD) : ER α :=
  match o with
  | some a => .ok a sd
  | none => .bad
theorem ER.bind_ok {α γ : Type} {a : α} {sd : SD} {f : α → SD → ER γ} : (ER.ok a sd).bind f = f a sd := rfl
noncomputable def RepX (K : PySem.W.Frag) (F : Hp) (cls : Value) (dd : Option Addr) (x : Exn) : Prop :=
  cls = .ref x.C ∧ match x.fs with
  | none => dd = none
  | some l => ∃ (d : Addr) (fvs : List (Str × V)), dd = some d ∧ F d = some (.xd fvs) ∧ fvs.map (·.1) = l.map (·.1) ∧ Reps K F (fvs.map (·.2)) (l.map (·.2))
theorem RepX.mono {K : PySem.W.Frag} {F F' : Hp} {cls : Value} {dd : Option Addr} {x : Exn} (e : Same F F') (h : RepX K F cls dd x) : RepX K F' cls dd x := by
  obtain ⟨h1, h2⟩ := h
  refine ⟨h1, ?_⟩
  revert h2
  cases x.fs with
  | none => exact id
  | some l => exact fun ⟨d, fvs, a, b, c, r⟩ => ⟨d, fvs, a, e _ _ b, c, r.mono e⟩
/-- a result's relation: G, F, the state, the heap, the slots, what lies there, what is meant -/
noncomputable abbrev RSt (β α : Type) := Hp → Hp → SD → Hp → L2.St → β → α → Prop
noncomputable def Meets {α β : Type} (K : PySem.W.Frag) (pv : List V) (W : WX) (G : Hp) (σ : L2.St) (RS : RSt β α) (p : Bool) (sd : SD) (F H : Hp) (r : ER α) (Q : β → Hp → Prop) (P : Prop) : Prop :=
  match r with
  | .ok a sd' => (∀ v F' H', Same F F' → StR K pv G F' sd' σ H' → RS G F' sd' H' σ v a → (p = true → Same H H' ∧ sd' = sd) → Q v H') → P
  | .rz x sd' => (∀ cls dd F' H', Same F F' → StR K pv G F' sd' σ H' → RepX K F' cls dd x → W cls dd σ H') → P
  | .bad => True
section
variable {α β γ δ : Type} {K : PySem.W.Frag} {pv : List V} {W : WX} {G F H : Hp} {σ : L2.St} {sd : SD} {p q : Bool}
theorem Meets.bind {RS : RSt β α} {RS' : RSt δ γ} {r : ER α} {f : α → SD → ER γ} {Q : δ → Hp → Prop} {k : β → Hp → Prop} {P : Prop} (h : Meets K pv W G σ RS p sd F H r k P)
    (g : ∀ v F1 H1 a sd1, Same F F1 → StR K pv G F1 sd1 σ H1 → RS G F1 sd1 H1 σ v a → (p = true → Same H H1 ∧ sd1 = sd) → Meets K pv W G σ RS' q sd1 F1 H1 (f a sd1) Q (k v H1)) :
    Meets K pv W G σ RS' (p && q) sd F H (r.bind f) Q P := by
  cases r with
  | bad => exact True.intro
  | rz x sd' => exact h
  | ok a sd1 =>
    show Meets K pv W G σ RS' (p && q) sd F H (f a sd1) Q P
    have h' : (∀ v F' H', Same F F' → StR K pv G F' sd1 σ H' → RS G F' sd1 H' σ v a → (p = true → Same H H' ∧ sd1 = sd) → k v H') → P := h
    have g' := fun v F1 H1 s1 s2 s3 s4 => g v F1 H1 a sd1 s1 s2 s3 s4
    revert g'
    cases f a sd1 with
    | bad => exact fun _ => True.intro
    | rz x sd2 =>
      intro g' hW
      refine h' fun v F1 H1 s1 s2 s3 s4 => ?_
      exact g' v F1 H1 s1 s2 s3 s4 fun cls dd F2 H2 t1 t2 t3 => hW cls dd F2 H2 (s1.trans t1) t2 t3
    | ok c sd2 =>
      intro g' hQ
      refine h' fun v F1 H1 s1 s2 s3 s4 => ?_
      refine g' v F1 H1 s1 s2 s3 s4 fun w F2 H2 t1 t2 t3 t4 => hQ w F2 H2 (s1.trans t1) t2 t3 fun z => ?_
      rw [Bool.and_eq_true] at z
      obtain ⟨a1, a2⟩ := s4 z.1
      obtain ⟨b1, b2⟩ := t4 z.2
      exact ⟨a1.trans b1, b2.trans a2⟩
/-- the same value another way -/
theorem Meets.imp {f : α → γ} {RS : RSt β α} {RS' : RSt δ γ} {r : ER α} {r' : ER γ} {Q : δ → Hp → Prop} {k : β → Hp → Prop} {P P' : Prop} (h : Meets K pv W G σ RS p sd F H r k P) (hP : P → P')
    (hr : r' = r.bind (fun a sd1 => .ok (f a) sd1)) (g : ∀ v F1 H1 a sd1, r = .ok a sd1 → Same F F1 → StR K pv G F1 sd1 σ H1 → RS G F1 sd1 H1 σ v a → (p = true → Same H H1 ∧ sd1 = sd) → (∀ w F2 H2, Same F1 F2 → StR K pv G F2 sd1 σ H2 → RS' G F2 sd1 H2 σ w (f a) → Same H1 H2 → Q w H2) → k v H1) :
    Meets K pv W G σ RS' p sd F H r' Q P' := by
  subst hr
  cases r with
  | bad => exact True.intro
  | rz x sd' => exact fun hW => hP (h hW)
  | ok a sd1 =>
    intro hQ
    refine hP (h fun v F1 H1 s1 s2 s3 s4 => g v F1 H1 a sd1 rfl s1 s2 s3 s4 fun w F2 H2 t1 t2 t3 t4 => hQ w F2 H2 (s1.trans t1) t2 t3 fun z => ?_)
    obtain ⟨a1, a2⟩ := s4 z
    exact ⟨a1.trans t4, a2⟩
/-- an answer at once -/
theorem Meets.here {RS : RSt β α} {a : α} {v : β} {Q : β → Hp → Prop} {P : Prop} (s : StR K pv G F sd σ H) (r : RS G F sd H σ v a) (hP : Q v H → P) : Meets K pv W G σ RS p sd F H (.ok a sd) Q P :=
  fun hQ => hP (hQ v F H (Same.refl _) s r fun _ => ⟨Same.refl _, rfl⟩)
end
/-- k: frozen; else to be read in the heap as it stands -/
noncomputable def RSx (K : PySem.W.Frag) (k : Bool) : RSt V D := fun _ F _ H _ v d => Rep K (if k = true then F else H) v d
noncomputable def RSo (K : PySem.W.Frag) (pv : List V) : RSt V OT := fun G F sd H σ v t => StR1 K pv G F sd σ H v t
noncomputable def RSl (K : PySem.W.Frag) (k : Bool) : RSt (List V) (List D) := fun _ F _ H _ vs ds => Reps K (if k = true then F else H) vs ds
noncomputable def RSb : RSt Bool Bool := fun _ _ _ _ _ b c => b = c
noncomputable def TrX (K : PySem.W.Frag) (pv : List V) (W : WX) (p k : Bool) (te : TE) (m : SD → ER D) : Prop := ∀ G F sd σ H Q, StR K pv G F sd σ H → Meets K pv W G σ (RSx K k) p sd F H (m sd) Q (te σ H Q)
noncomputable def TrO (K : PySem.W.Frag) (pv : List V) (W : WX) (p : Bool) (te : TE) (m : SD → ER OT) : Prop := ∀ G F sd σ H Q, StR K pv G F sd σ H → Meets K pv W G σ (RSo K pv) p sd F H (m sd) Q (te σ H Q)
noncomputable def TrA (K : PySem.W.Frag) (pv : List V) (W : WX) (p k : Bool) (ta : TA) (m : SD → ER (List D)) : Prop := ∀ G F sd σ H Q, StR K pv G F sd σ H → Meets K pv W G σ (RSl K k) p sd F H (m sd) Q (ta σ H Q)
noncomputable def TrT (K : PySem.W.Frag) (pv : List V) (W : WX) (p : Bool) (tt : TT) (m : SD → ER Bool) : Prop := ∀ G F sd σ H Q, StR K pv G F sd σ H → Meets K pv W G σ RSb p sd F H (m sd) Q (tt σ H Q)
/-- an expression: p: it changes nothing; k: its value is frozen -/
structure DX (X : Cx) (pv : List V) (W : WX) (p k : Bool) (e : Expr) (m : SD → ER D) : Prop where
  ex : ∃ te, PE X e te ∧ TrX X.K pv W p k te m
/-- an expression whose value is new -/
structure DO (X : Cx) (pv : List V) (W : WX) (p : Bool) (e : Expr) (m : SD → ER OT) : Prop where
  ex : ∃ te, PE X e te ∧ TrO X.K pv W p te m
structure DA (X : Cx) (pv : List V) (W : WX) (p k : Bool) (es : List Expr) (m : SD → ER (List D)) : Prop where
  ex : ∃ ta, PA X es ta ∧ TrA X.K pv W p k ta m
structure DT (X : Cx) (pv : List V) (W : WX) (p : Bool) (e : Expr) (m : SD → ER Bool) : Prop where
  ex : ∃ tt, PT X e tt ∧ TrT X.K pv W p tt m
/-- and, or -/
structure DW (X : Cx) (pv : List V) (W : WX) (p : Bool) (e : Expr) (m : SD → ER Bool) : Prop where
  ex : ∃ tt, PW X e tt ∧ TrT X.K pv W p tt m
noncomputable def mVar (i : Nat) : SD → ER D := fun sd => match sd.sl[i]? with
  | some (.ow (.fz d)) => .ok d sd
  | _ => .bad
/-- what stands there, to be read at once -/
noncomputable def mSee (i : Nat) : SD → ER D := fun sd => match sd.sl[i]? with
  | some (.ow t) => .ok t.view sd
  | some (.pa j) => ER.opt ((sd.pa[j]?).map OT.view) sd
  | _ => .bad
/-- what stands there, never changed from now on -/
noncomputable def mFrz (i : Nat) : SD → ER D := fun sd => match sd.sl[i]? with
  | some (.ow t) => .ok t.view { sd with sl := sd.sl.set i (.ow (.fz t.view)) }
  | _ => .bad
/-- what stands there, taken away -/
noncomputable def mTake (i : Nat) : SD → ER OT := fun sd => match sd.sl[i]? with
  | some (.ow t) => .ok t { sd with sl := sd.sl.set i .un }
  | _ => .bad
noncomputable def mC (d : D) : SD → ER D := fun sd => .ok d sd
noncomputable def mUn (f : D → Option D) (a : SD → ER D) : SD → ER D := fun sd => (a sd).bind fun x sd1 => ER.opt (f x) sd1
noncomputable def mOp (f : D → D → Option D) (a b : SD → ER D) : SD → ER D := fun sd => (a sd).bind fun x sd1 => (b sd1).bind fun y sd2 => ER.opt (f x y) sd2
noncomputable def mNil : SD → ER (List D) := fun sd => .ok [] sd
noncomputable def mCons (a : SD → ER D) (r : SD → ER (List D)) : SD → ER (List D) := fun sd => (a sd).bind fun x sd1 => (r sd1).bind fun xs sd2 => .ok (x :: xs) sd2
noncomputable def mCall (f : List D → Option D) (a : SD → ER (List D)) : SD → ER D := fun sd => (a sd).bind fun xs sd1 => ER.opt (f xs) sd1
noncomputable def mTup (a : SD → ER (List D)) : SD → ER D := fun sd => (a sd).bind fun xs sd1 => if xs.length ≤ 16777216 then .ok (.tup xs) sd1 else .bad
noncomputable def mLst (a : SD → ER (List D)) : SD → ER OT := fun sd => (a sd).bind fun xs sd1 => if xs.length ≤ 16777216 then .ok (.ol (xs.map .fz)) sd1 else .bad
noncomputable def mView (a : SD → ER OT) : SD → ER D := fun sd => (a sd).bind fun t sd1 => .ok t.view sd1
noncomputable def mOwn (a : SD → ER D) : SD → ER OT := fun sd => (a sd).bind fun d sd1 => .ok (.fz d) sd1
noncomputable def mTest (a : SD → ER D) : SD → ER Bool := fun sd => (a sd).bind fun x sd1 => match x with
  | .bl b => .ok b sd1
  | _ => .bad
noncomputable def mAnd (a b : SD → ER Bool) : SD → ER Bool := fun sd => (a sd).bind fun x sd1 => if x = true then b sd1 else .ok false sd1
noncomputable def mOr (a b : SD → ER Bool) : SD → ER Bool := fun sd => (a sd).bind fun x sd1 => if x = true then .ok true sd1 else b sd1
noncomputable def mNot (a : SD → ER Bool) : SD → ER Bool := fun sd => (a sd).bind fun x sd1 => .ok (!x) sd1
noncomputable def mIf (c : SD → ER Bool) (a b : SD → ER D) : SD → ER D := fun sd => (c sd).bind fun x sd1 => if x = true then a sd1 else b sd1
section
variable {X : Cx} {pv : List V} {W : WX} {p q k l : Bool} {e a b : Expr} {es : List Expr}
theorem RSx.see {K : PySem.W.Frag} {k : Bool} {G F H : Hp} {sd : SD} {σ : L2.St} {v : V} {d : D} (r : RSx K k G F sd H σ v d) (s : StR K pv G F sd σ H) : Rep K H v d := by
  unfold RSx at r
  cases k with
  | true => exact Rep.mono s.fh r
  | false => exact r
theorem RSl.see {K : PySem.W.Frag} {k : Bool} {G F H : Hp} {sd : SD} {σ : L2.St} {v : List V} {d : List D} (r : RSl K k G F sd H σ v d) (s : StR K pv G F sd σ H) : Reps K H v d := by
  unfold RSl at r
  cases k with
  | true => exact Reps.mono s.fh r
  | false => exact r
/-- a frozen value may be seen -/
theorem DX.see {m : SD → ER D} (h : DX X pv W p true e m) : DX X pv W p false e m := by
  obtain ⟨te, h1, h2⟩ := h
  refine ⟨te, h1, fun G F sd σ H Q s => ?_⟩
  have z := h2 G F sd σ H Q s
  revert z
  cases m sd with
  | bad => exact id
  | rz x sd1 => exact id
  | ok d sd1 => exact fun z hQ => z fun v F1 H1 s1 s2 s3 s4 => hQ v F1 H1 s1 s2 (RSx.see s3 s2) s4
theorem DO.frz {m : SD → ER OT} (h : DO X pv W p e m) : DX X pv W p true e (mView m) := by
  obtain ⟨te, h1, h2⟩ := h
  refine ⟨te, h1, fun G F sd σ H Q s => ?_⟩
  refine Meets.imp (f := OT.view) (h2 G F sd σ H Q s) id rfl fun v F1 H1 t sd1 _ s1 s2 s3 s4 hQ => ?_
  obtain ⟨F2, t1, t2, t3⟩ := StR1.frz s3
  exact hQ v F2 H1 t1 t2 t3 (Same.refl _)
theorem DO.see {m : SD → ER OT} (h : DO X pv W p e m) : DX X pv W p false e (mView m) := h.frz.see
theorem DX.own {m : SD → ER D} (h : DX X pv W p true e m) : DO X pv W p e (mOwn m) := by
  obtain ⟨te, h1, h2⟩ := h
  refine ⟨te, h1, fun G F sd σ H Q s => ?_⟩
  refine Meets.imp (f := OT.fz) (h2 G F sd σ H Q s) id rfl fun v F1 H1 t sd1 _ s1 s2 s3 s4 hQ => ?_
  exact hQ v F1 H1 (Same.refl _) s2 (StR1.fz s2 s3) (Same.refl _)
theorem dx_var {i : Nat} {x : Str} {pos : Pos} (h : PE X (.Name x pos) (tVar i)) : DX X pv W true true (.Name x pos) (mVar i) := by
  refine ⟨_, h, fun G F sd σ H Q s => ?_⟩
  unfold mVar
  split
  · rename_i d e
    obtain ⟨o, w⟩ := id s
    obtain ⟨v, h1, h2⟩ := w.sl i _ e
    unfold RepO at h2
    exact Meets.here s (show RSx X.K true G F sd H σ v d from h2) fun q => ⟨v, h1, q⟩
  · exact True.intro
theorem dx_see {i : Nat} {x : Str} {pos : Pos} (h : PE X (.Name x pos) (tVar i)) : DX X pv W true false (.Name x pos) (mSee i) := by
  refine ⟨_, h, fun G F sd σ H Q s => ?_⟩
  unfold mSee
  split
  · rename_i t e
    obtain ⟨o, w⟩ := id s
    obtain ⟨v, h1, h2⟩ := w.sl i _ e
    exact Meets.here s (show RSx X.K false G F sd H σ v t.view from h2.frz w.fh fun _ _ _ z => z) fun q => ⟨v, h1, q⟩
  · rename_i j e
    obtain ⟨o, w⟩ := id s
    obtain ⟨v, h1, h2⟩ := w.sp i j e
    cases e2 : sd.pa[j]? with
    | none => exact True.intro
    | some t =>
      obtain ⟨v', h3, h4⟩ := w.pr j t e2
      rw [h1] at h3; cases h3
      exact Meets.here s (show RSx X.K false G F sd H σ v t.view from h4.frz w.fh fun _ _ _ z => z) fun q => ⟨v, h2, q⟩
  · exact True.intro
theorem dx_c {v : V} {d : D} (h : PE X e (tC v)) (r : ∀ F, Rep X.K F v d) : DX X pv W true true e (mC d) :=
  ⟨_, h, fun G F sd σ H Q s => Meets.here s (r F) id⟩
theorem dx_int {i : Int} {j : Nat} {pos : Pos} : DX X pv W true true (.Constant (.int i) j pos) (mC (.int i)) := dx_c pe_int fun _ => .int i
theorem dx_bl {b : Bool} {j : Nat} {pos : Pos} : DX X pv W true true (.Constant (.bool b) j pos) (mC (.bl b)) := dx_c pe_bl fun _ => .bl b
theorem dx_non {j : Nat} {pos : Pos} : DX X pv W true true (.Constant .none j pos) (mC .non) := dx_c pe_non fun _ => .non
theorem dx_str {x : Str} {j : Nat} {pos : Pos} : DX X pv W true true (.Constant (.str x) j pos) (mC (.str x)) := dx_c pe_str fun _ => .str x
/-- a flat value has its own V -/
noncomputable def D.sc : D → Option V
  | .non => some .non
  | .bl b => some (.bl b)
  | .int i => some (.int i)
  | .str x => some (.str x)
  | .ty n => some (.ty n)
  | .cls C => some (.ref C)
  | _ => none
theorem Rep.sc {K : PySem.W.Frag} {F : Hp} {d : D} {v : V} (h : d.sc = some v) : Rep K F v d := by
  cases d <;> simp only [D.sc, Option.some.injEq, reduceCtorEq] at h <;> subst h <;> constructor
/-- an operator that gives a flat value -/
noncomputable def Op2S (K : PySem.W.Frag) (r : R2) (f : D → D → Option D) : Prop := ∀ H x y a b c, Rep K H x a → Rep K H y b → f a b = some c → ∃ v, c.sc = some v ∧ ∀ Q : VK, Q v H → r x y H Q
theorem tr_op2 {r : R2} {f : D → D → Option D} {ta tb : TE} {ma mb : SD → ER D} (hf : Op2S X.K r f) (ha : TrX X.K pv W p k ta ma) (hb : TrX X.K pv W q l tb mb) (hk : (k || q) = true) : TrX X.K pv W (p && q) true (tOp r ta tb) (mOp f ma mb) := by
  intro G F sd σ H Q s
  refine Meets.bind (ha G F sd σ H _ s) fun x F1 H1 dx sd1 s1 s2 s3 s4 => ?_
  have hq : q = (q && true) := by cases q <;> rfl
  rw [hq]
  refine Meets.bind (hb G F1 sd1 σ H1 _ s2) fun y F2 H2 dy sd2 t1 t2 t3 t4 => ?_
  have rx : Rep X.K H2 x dx := by
    cases k with
    | true => exact Rep.mono t2.fh (Rep.mono t1 s3)
    | false => exact Rep.mono (t4 (by simpa using hk)).1 s3
  cases e : f dx dy with
  | none => exact True.intro
  | some c =>
    obtain ⟨v, h1, h2⟩ := hf H2 x y dx dy c rx (RSx.see t3 t2) e
    exact Meets.here t2 (show RSx X.K true G F2 sd2 H2 σ v c from Rep.sc h1) (h2 Q)
theorem dx_op2 {op : Operator} {r : R2} {f : D → D → Option D} {pos : Pos} {ma mb : SD → ER D} (ho : OpR X (binaryOp op) r) (hf : Op2S X.K r f) (ha : DX X pv W p k a ma) (hb : DX X pv W q l b mb) (hk : (k || q) = true := by rfl) :
    DX X pv W (p && q) true (.BinOp a op b pos) (mOp f ma mb) := by
  obtain ⟨ta, a1, a2⟩ := ha
  obtain ⟨tb, b1, b2⟩ := hb
  exact ⟨_, pe_op ho a1 b1, tr_op2 hf a2 b2 hk⟩
theorem dx_cmp {op : CmpOp} {r : R2} {f : D → D → Option D} {pos : Pos} {ma mb : SD → ER D} (ho : OpR X (compareOp op) r) (hf : Op2S X.K r f) (ha : DX X pv W p k a ma) (hb : DX X pv W q l b mb) (hm : behindInMarks op b = false) (hk : (k || q) = true := by rfl) :
    DX X pv W (p && q) true (.Compare a [op] [b] pos) (mOp f ma mb) := by
  obtain ⟨ta, a1, a2⟩ := ha
  obtain ⟨tb, b1, b2⟩ := hb
  exact ⟨_, pe_cmpR ho a1 b1 hm, tr_op2 hf a2 b2 hk⟩
theorem tr_test {te : TE} {m : SD → ER D} (h : TrX X.K pv W p k te m) : TrT X.K pv W p (tTest te) (mTest m) := by
  intro G F sd σ H Q s
  have hp : p = (p && true) := by cases p <;> rfl
  rw [hp]
  refine Meets.bind (h G F sd σ H _ s) fun x F1 H1 dx sd1 s1 s2 s3 s4 => ?_
  have r := RSx.see s3 s2
  cases dx with
  | bl b =>
    cases r
    exact Meets.here s2 (show RSb G F1 sd1 H1 σ b b from rfl) fun q => ⟨b, rfl, q⟩
  | _ => exact True.intro
theorem dt_cmp {op : CmpOp} {r : R2} {f : D → D → Option D} {pos : Pos} {ma mb : SD → ER D} (ho : OpR X (compareOp op) r) (hf : Op2S X.K r f) (ha : DX X pv W p k a ma) (hb : DX X pv W q l b mb) (hm : behindInMarks op b = false) (hk : (k || q) = true := by rfl) :
    DT X pv W (p && q) (.Compare a [op] [b] pos) (mTest (mOp f ma mb)) := by
  obtain ⟨ta, a1, a2⟩ := ha
  obtain ⟨tb, b1, b2⟩ := hb
  exact ⟨_, pt_cmpR ho a1 b1 hm, tr_test (tr_op2 hf a2 b2 hk)⟩
/-- an expression that gives True or False, as a test -/
theorem dt_val {m : SD → ER D} (h : DX X pv W p k e m) (he : ∀ whole, isTrue e X.env whole = (do let v ← whole; standAt e.pos; holding [v] (truthy v)) := by intro _; rfl) : DT X pv W p e (mTest m) := by
  obtain ⟨te, a1, a2⟩ := h
  exact ⟨_, pt_val a1 he, tr_test a2⟩
theorem DW.dt {m : SD → ER Bool} (h : DW X pv W p e m) : DT X pv W p e m := by
  obtain ⟨tt, a1, a2⟩ := h
  exact ⟨tt, a1.pt, a2⟩
theorem tr_not {tt : TT} {m : SD → ER Bool} (h : TrT X.K pv W p tt m) : TrT X.K pv W p (tNot tt) (mNot m) := by
  intro G F sd σ H Q s
  have hp : p = (p && true) := by cases p <;> rfl
  rw [hp]
  refine Meets.bind (h G F sd σ H _ s) fun x F1 H1 dx sd1 s1 s2 s3 s4 => ?_
  exact Meets.here s2 (show RSb G F1 sd1 H1 σ (!x) (!dx) from congrArg _ s3) id
theorem dt_not {pos : Pos} {m : SD → ER Bool} (h : DT X pv W p e m) : DT X pv W p (.UnaryOp .Not e pos) (mNot m) := by
  obtain ⟨tt, a1, a2⟩ := h
  exact ⟨_, pt_not a1, tr_not a2⟩
theorem tr_and {t u : TT} {ma mb : SD → ER Bool} (h : TrT X.K pv W p t ma) (h2 : TrT X.K pv W q u mb) : TrT X.K pv W (p && q) (tAnd t u) (mAnd ma mb) := by
  intro G F sd σ H Q s
  refine Meets.bind (h G F sd σ H _ s) fun x F1 H1 dx sd1 s1 s2 s3 s4 => ?_
  have s3 : x = dx := s3
  subst s3
  cases x with
  | true => exact h2 G F1 sd1 σ H1 Q s2
  | false => exact Meets.here s2 (show RSb G F1 sd1 H1 σ false false from rfl) id
theorem tr_or {t u : TT} {ma mb : SD → ER Bool} (h : TrT X.K pv W p t ma) (h2 : TrT X.K pv W q u mb) : TrT X.K pv W (p && q) (tOr t u) (mOr ma mb) := by
  intro G F sd σ H Q s
  refine Meets.bind (h G F sd σ H _ s) fun x F1 H1 dx sd1 s1 s2 s3 s4 => ?_
  have s3 : x = dx := s3
  subst s3
  cases x with
  | false => exact h2 G F1 sd1 σ H1 Q s2
  | true => exact Meets.here s2 (show RSb G F1 sd1 H1 σ true true from rfl) id
theorem dw_and1 {pos : Pos} {m : SD → ER Bool} (h : DT X pv W p a m) : DW X pv W p (.BoolOp .And [a] pos) m := by
  obtain ⟨tt, a1, a2⟩ := h
  exact ⟨tt, pw_and1 a1, a2⟩
theorem dw_or1 {pos : Pos} {m : SD → ER Bool} (h : DT X pv W p a m) : DW X pv W p (.BoolOp .Or [a] pos) m := by
  obtain ⟨tt, a1, a2⟩ := h
  exact ⟨tt, pw_or1 a1, a2⟩
theorem dw_and {pos : Pos} {ma mb : SD → ER Bool} (h : DT X pv W p a ma) (h2 : DW X pv W q (.BoolOp .And (b :: es) pos) mb) : DW X pv W (p && q) (.BoolOp .And (a :: b :: es) pos) (mAnd ma mb) := by
  obtain ⟨t, a1, a2⟩ := h
  obtain ⟨u, b1, b2⟩ := h2
  exact ⟨_, pw_and a1 b1, tr_and a2 b2⟩
theorem dw_or {pos : Pos} {ma mb : SD → ER Bool} (h : DT X pv W p a ma) (h2 : DW X pv W q (.BoolOp .Or (b :: es) pos) mb) : DW X pv W (p && q) (.BoolOp .Or (a :: b :: es) pos) (mOr ma mb) := by
  obtain ⟨t, a1, a2⟩ := h
  obtain ⟨u, b1, b2⟩ := h2
  exact ⟨_, pw_or a1 b1, tr_or a2 b2⟩
theorem da_nil : DA X pv W true true [] mNil := ⟨_, pa_nil, fun G F sd σ H Q s => Meets.here s (show RSl X.K true G F sd H σ [] [] from .nil) id⟩
theorem da_cons {ma : SD → ER D} {mr : SD → ER (List D)} (ha : DX X pv W p k e ma) (hr : DA X pv W q l es mr) (hk : (k || q) = true := by rfl) (hs : starEach (e :: es) X.env = (false, eval e X.env) :: starEach es X.env := by rfl) : DA X pv W (p && q) (k && l) (e :: es) (mCons ma mr) := by
  obtain ⟨te, a1, a2⟩ := ha
  obtain ⟨tr, b1, b2⟩ := hr
  refine ⟨_, pa_cons a1 b1 hs, fun G F sd σ H Q s => ?_⟩
  refine Meets.bind (a2 G F sd σ H _ s) fun x F1 H1 dx sd1 s1 s2 s3 s4 => ?_
  have hq : q = (q && true) := by cases q <;> rfl
  rw [hq]
  refine Meets.bind (b2 G F1 sd1 σ H1 _ s2) fun xs F2 H2 ds sd2 t1 t2 t3 t4 => ?_
  refine Meets.here t2 (show RSl X.K (k && l) G F2 sd2 H2 σ (x :: xs) (dx :: ds) from ?_) id
  show Reps X.K (if (k && l) = true then F2 else H2) (x :: xs) (dx :: ds)
  cases k with
  | true =>
    have r : Rep X.K F2 x dx := Rep.mono t1 s3
    cases l with
    | true => exact .cons r t3
    | false => exact .cons (Rep.mono t2.fh r) t3
  | false => exact .cons (Rep.mono (t4 (by simpa using hk)).1 s3) (RSl.see t3 t2)
theorem dx_tup {x1 : Nat} {pos : Pos} {m : SD → ER (List D)} (h : DA X pv W p true es m) : DX X pv W p true (.Tuple es x1 pos) (mTup m) := by
  obtain ⟨ta, a1, a2⟩ := h
  refine ⟨_, pe_tup a1, fun G F sd σ H Q s => ?_⟩
  have hp : p = (p && true) := by cases p <;> rfl
  rw [hp]
  refine Meets.bind (a2 G F sd σ H _ s) fun vs F1 H1 ds sd1 s1 s2 s3 s4 => ?_
  split
  · rename_i hl
    intro hQ
    refine ⟨by rw [Reps.length s3, sizeLine_eq]; exact hl, fun p hp => ?_⟩
    exact hQ _ _ _ (s2.sameNew hp) (s2.new hp) (.tup upd_same (Reps.mono (s2.sameNew hp) s3)) fun _ => ⟨Same.upd hp, rfl⟩
  · exact True.intro
theorem do_lst {pos : Pos} {m : SD → ER (List D)} (h : DA X pv W p true es m) : DO X pv W p (.List es pos) (mLst m) := by
  obtain ⟨ta, a1, a2⟩ := h
  refine ⟨_, pe_lst a1, fun G F sd σ H Q s => ?_⟩
  have hp : p = (p && true) := by cases p <;> rfl
  rw [hp]
  refine Meets.bind (a2 G F sd σ H _ s) fun vs F1 H1 ds sd1 s1 s2 s3 s4 => ?_
  split
  · rename_i hl
    intro hQ
    refine ⟨by rw [Reps.length s3, sizeLine_eq]; exact hl, fun p hp => ?_⟩
    have z := s2.newL hp s3
    exact hQ _ _ _ (Same.refl _) z.drop z fun _ => ⟨Same.upd hp, rfl⟩
  · exact True.intro
theorem dx_if {c : Expr} {pos : Pos} {mc : SD → ER Bool} {ma mb : SD → ER D} {q' : Bool} (hc : DT X pv W p c mc) (ha : DX X pv W q k a ma) (hb : DX X pv W q' k b mb) : DX X pv W (p && (q && q')) k (.IfExp c a b pos) (mIf mc ma mb) := by
  obtain ⟨tc, c1, c2⟩ := hc
  obtain ⟨ta, a1, a2⟩ := ha
  obtain ⟨tb, b1, b2⟩ := hb
  refine ⟨_, pe_ifExp c1 a1 b1, fun G F sd σ H Q s => ?_⟩
  refine Meets.bind (c2 G F sd σ H _ s) fun x F1 H1 dx sd1 s1 s2 s3 s4 => ?_
  have s3 : x = dx := s3
  subst s3
  have wk : ∀ {p' : Bool} {r : ER D} {P : Prop}, ((q && q') = true → p' = true) → Meets X.K pv W G σ (RSx X.K k) p' sd1 F1 H1 r Q P → Meets X.K pv W G σ (RSx X.K k) (q && q') sd1 F1 H1 r Q P := fun {p' r P} hpp z => by
    revert z
    cases r with
    | bad => exact id
    | rz y sd2 => exact id
    | ok d sd2 => exact fun z hQ => z fun v F2 H2 t1 t2 t3 t4 => hQ v F2 H2 t1 t2 t3 fun w => t4 (hpp w)
  cases x with
  | true => exact wk (fun z => (Bool.and_eq_true _ _ ▸ z : q = true ∧ q' = true).1) (a2 G F1 sd1 σ H1 Q s2)
  | false => exact wk (fun z => (Bool.and_eq_true _ _ ▸ z : q = true ∧ q' = true).2) (b2 G F1 sd1 σ H1 Q s2)
end
open PyProof.Rows (envOfC IntsAre AllBare)
/-- room for calls, and no guard on the stack -/
structure RoomG (k : Nat) (A : Around) : Prop where
  r : Room k A
  g : A.guards = some []
section
variable {j k : Nat} {A : Around}
theorem RoomG.mono (x : RoomG k A) (h : j ≤ k) : RoomG j A := ⟨x.r.mono h, x.g⟩
theorem RoomG.in1 (x : RoomG (k + 1) A) : RoomG k A.in1 := ⟨x.r.in1, x.g⟩
theorem RoomG.deeper (x : RoomG (k + 1) A) (env : Env) : RoomG k (A.deeper env) := ⟨x.r.deeper env, x.g⟩
theorem RoomG.make (x : RoomG (k + 1) A) (C : Addr) (us : List Value) (kw : List (Str × Value)) : RoomG k (A.under (.builtin "type.__call__" ⟨.ref C :: us, kw⟩)) := ⟨x.r.make C us kw, by
  have e := x.g
  first | exact e | (simp [Around.under, Code.isGuard, guardIds, e])⟩
theorem RoomG.units (x : RoomG k A) : A.units + 64 < cLine := x.r.units
theorem RoomG.units0 (x : RoomG k A) : A.units < cLine := x.r.units0
theorem RoomG.un (x : RoomG k A) : A.units + 16 * k + 200 < cLine := x.r.un
theorem RoomG.hd (x : RoomG k A) : A.handled = none := x.r.hd
theorem RoomG.depth (x : RoomG k A) : A.depth < recursionLimit := x.r.depth
end
structure FnG (P : Program) (w : World) (K : PySem.W.Frag) (mg : Str → Option Value) (base : Heap) (C : CXT) (k : Nat) (f : Addr) (fd : FuncData) (ps : List Str) (sp : Sp) : Prop where
  len : ∀ vs H Q E, sp vs H Q E → vs.length = ps.length
  run : ∀ (A : Around) (out : List Env) (s : Shared) (H : Hp) (args : Args) (us : List Value) (vs : List V) (Q : VK) (E : XK), RoomG k A → Env0 P w K mg base A out s H → BindsTo s fd args (ps.zip us) → Vals vs us → sp vs H Q E →
    codeAny (model P w) A (.call (.ref f) args) (CR C out P w H s Q E) s
theorem FnG.mono {P : Program} {w : World} {K : PySem.W.Frag} {mg : Str → Option Value} {base : Heap} {C : CXT} {j k : Nat} {f : Addr} {fd : FuncData} {ps : List Str} {sp : Sp} (F : FnG P w K mg base C j f fd ps sp) (h : j ≤ k) : FnG P w K mg base C k f fd ps sp :=
  ⟨F.len, fun A out s H args us vs Q E x => F.run A out s H args us vs Q E (x.mono h)⟩
/-- a def by its body, there -/
theorem fun_okG {P : Program} {w : World} {K : PySem.W.Frag} {mg : Str → Option Value} {base : Heap} {x qual : Str} {st : Stmt} {f : Addr} {fd : FuncData} {N ps : List Str} {k : Nat} {sp : Sp} (F : Fun K x qual st f fd) (S : FnScope N ps (defScope st)) (len : ∀ vs H Q E, sp vs H Q E → vs.length = ps.length)
    (body : ∀ (cdv : Value) (A : Around) (out : List Env) (s : Shared) (H : Hp) (vs : List V) (Q : VK) (E : XK), RoomG k (A.deeper (envOfC qual (defScope st) s.heap.objs.size f cdv)) → sp vs H Q E →
      ∃ t, PSs (cxOf (L2.CX P w) P w K mg base N qual (defScope st) f cdv A out s H E) (defBody st) t ∧ t { nx := fun _ H' => Q .non H', rt := Q } (L2.start N vs) H) : FnG P w K mg base (L2.CX P w) (k + 1) f fd ps sp := by
  obtain ⟨oc, od, kV, doc, pm, an, cdv, ct, osl, rfl, lk, hcd⟩ := F.ex
  refine ⟨len, fun A out s H args us vs Q E room e0 bnd rel hsp => ?_⟩
  have grows := fun (b : Addr) (o : Obj) (e : base.get? b = some o) => (e0.bs b o e).1
  have inK : K.In s.heap := e0.mod.kin.keeps grows
  refine codeAny_call_function room.depth (inK _ _ lk) rfl S.co S.gen rfl (PySem.W.codeRec_of inK hcd) (bnd _ _ _ _ (wpAny_newFunctionEnv_cells S.kind (fun y hy => ?_) fun env he s1 z => ?_))
  · rcases S.par y.1 (List.of_mem_zip (a := y.1) (b := y.2) hy).1 with q | q
    · exact .inl q
    · exact .inr ⟨q, PySem.W.cellsFrom_some _ _ _ (.inl q)⟩
  · subst he
    obtain ⟨t, ht, hq⟩ := body cdv A out s H vs Q E (room.deeper _) hsp
    have I := inv_start (CX := L2.CX P w) (E := E) S room.hd e0 (len _ _ _ _ hsp) rel z
    refine ⟨(e0.mod.nolimit.keeps grows).keeps z.toInCall.keep, codeAny_func (wpAny_mono (ht.run [] s1 (L2.start N vs) H _ I hq) (fun fl s2 hs => ?_) fun e s2 hs => hs)⟩
    cases fl with
    | ret u =>
      obtain ⟨v, _, H2, J, rv, q⟩ := hs
      exact ⟨v, H2, J.os, J.bare, J.base, J.hok, rv, q⟩
    | next =>
      obtain ⟨_, H2, J, q⟩ := hs
      exact ⟨V.non, H2, J.os, J.bare, J.base, J.hok, rfl, q⟩
    | brk => exact (let ⟨_, _, _, q⟩ := hs; False.elim q)
    | cont => exact (let ⟨_, _, _, q⟩ := hs; False.elim q)
section
variable {X : Cx} {W : WX} {f : Addr} {fd : FuncData} {ps : List Str} {sp : Sp} {k : Nat} {pins : List (Addr × Obj)} {σ : L2.St} {H : Hp} {s : Shared} {Q : VK} {us : List Value} {vs : List V} {x : Str} {p pos : Pos} {e : Expr} {es : List Expr} {t : TA} {E : L2.St → XK}
theorem code_G (F : FnG X.prog X.w X.K X.mg X.base (L2.CX X.prog X.w) k f fd ps sp) (hr : RoomG k X.A) (hb : Binds X.K fd ps []) (hx : PassesAt (L2.CX X.prog X.w) X σ (E σ)) (I : Inv X pins σ H s) (r : Vals vs us) (h : sp vs H Q (E σ)) :
    codeAny (model X.prog X.w) X.A (.call (.ref f) ⟨us, []⟩) (wants (EP X pins σ Q) X.xe) s := by
  have hl : (us ++ []).length = ps.length := by rw [List.append_nil, ← r.length, F.len _ _ _ _ h]
  have b := hb s us I.kIn hl
  rw [List.append_nil] at b
  refine codeAny_mono (F.run X.A X.stack s H ⟨us, []⟩ us vs Q (E σ) hr I.env0 b r h) fun res s2 hq => ?_
  cases res with
  | error e => exact hx pins H s e s2 I hq
  | ok fl =>
    cases fl with
    | ret u => exact I.after hq
    | next => exact hq.elim
    | brk => exact hq.elim
    | cont => exact hq.elim
theorem run_G (F : FnG X.prog X.w X.K X.mg X.base (L2.CX X.prog X.w) k f fd ps sp) (hr : RoomG k X.A) (hb : Binds X.K fd ps []) (hx : PassesAt (L2.CX X.prog X.w) X σ (E σ)) (I : Inv X pins σ H s) (r : Vals vs us) (h : sp vs H Q (E σ)) :
    wpAny (model X.prog X.w) X.A (call (.ref f) us) (EP X pins σ Q) X.xe s := wpAny_call (code_G F hr hb hx I r h)
/-- f(e, ..) -/
theorem pe_callG (F : FnG X.prog X.w X.K X.mg X.base (L2.CX X.prog X.w) k f fd ps sp) (hr : RoomG k X.A) (hg : Gl X x) (hm : X.mg x = some (.ref f)) (hk : PySem.W.keepIn X.K (.ref f) = true) (hb : Binds X.K fd ps []) (tk : Takes X W) (ha : PA X (e :: es) t)
    (hdb : (x == ("__debug__" : Str)) = false := by decide) (he : starEach (e :: es) X.env = (false, eval e X.env) :: starEach es X.env := by rfl) (hpl : (backTo pos (starEach es X.env)).any (·.1) = false := by rfl) :
    PE X (.Call (.Name x p) (e :: es) [] pos) (fun σ H Q => t σ H fun vs H1 => sp vs H1 Q (WE W σ)) :=
  ⟨fun pins s σ H Q I h => wpAny_Call_Name_kw (ld_glob I hg hm (PySem.W.callWith_K (h₀ := X.base) I.ok.mod.kin hk (thn (ha.run pos pins s σ H _ I h) fun us s1 ⟨vs, H1, I1, r, q⟩ => ⟨I1.kIn, run_G F hr hb (passAt tk σ) I1 r q⟩) he hpl) hdb)⟩
end
theorem law_G {P : Program} {w : World} {K : PySem.W.Frag} {mg mb : Str → Option Value} {k : Nat} {fa a : Addr} {fd : FuncData} {x : Str} {sp : Sp} {sc : Shared} {vs : List Value} {ns : List Int} (kx : K.In sc.heap) (g1 : sc.heap.Ns mainGlobals mg) (g2 : sc.heap.Ns builtinsNs mb)
    (g3 : ∀ x : Str, x ≠ "__name__" → mb x = bootBuiltins x) (g4 : sc.heap.NoLimit) (g5 : sc.gens = #[]) (ha : sc.heap.get? a = some { cls := .type "list", data := .seq vs.toArray }) (hi : IntsAre vs ns) (hl : ns.length ≤ sizeLine) (hr : RoomG k callerA)
    (F : ∀ base : Heap, K.In base → base.Ns mainGlobals mg → FnG P w K mg base (L2.CX P w) k fa fd [x] sp) (hbind : ∀ (s : Shared) (u : Value), BindsTo s fd ⟨[u], []⟩ [(x, u)]) (hsp : ∀ T : Hp, Only T → SqL K T a (ns.map V.int) → sp [.ref a] T (fun v _ => v = .bl true) fun _ _ _ => False)
    (no : ∀ T e s', L2.CX P w [] T sc (fun _ _ _ => False) e s' → False) : codeAny (model P w) callerA (.call (.ref fa) ⟨[.ref a], []⟩) (fun r s' => r = .ok (.ret (.bool true)) ∧ OldK sc.heap s'.heap ∧ s'.os = sc.os ∧ AllBare s'.gens) sc := by
  have go : ∀ T : Hp, Only T → SqL K T a (ns.map V.int) → HOk P w T sc.heap → (∀ b, T b ≠ none → b = a) → (T a ≠ none → K.lookup a = none) → codeAny (model P w) callerA (.call (.ref fa) ⟨[.ref a], []⟩) (fun r s' => r = .ok (.ret (.bool true)) ∧ OldK sc.heap s'.heap ∧ s'.os = sc.os ∧ AllBare s'.gens) sc := fun T only seq hok one own => by
    have isA : ∀ {b : Addr}, (∃ u, T b = some u) → b = a := fun {b} ⟨u, q⟩ => one b (by rw [q]; simp)
    have free : ∀ {b : Addr} {P : Prop}, (b = a → False) → T b = none := fun {b _} n => by
      cases q : T b with
      | none => rfl
      | some u => exact (n (isA ⟨u, q⟩)).elim
    have ns2 : ∀ {b : Addr} {m : Str → Option Value}, sc.heap.Ns b m → (hidT sc.heap T).Ns b m := fun {b m} ⟨o, es, ep, e, d, r⟩ => ⟨o, es, ep, hidT_get e (free (P := True) fun z => by
      subst z
      rw [ha] at e; cases e
      exact (nomatch (show Data.seq vs.toArray _ = Data.dict es ep from d))), d, r⟩
    have kin : K.In (hidT sc.heap T) := fun b o e => hidT_get (kx b o e) (by
      cases q : T b with
      | none => rfl
      | some u =>
        have z := isA ⟨u, q⟩
        subst z
        rw [own (by rw [q]; simp)] at e; cases e)
    obtain ⟨mc, c1, c2⟩ := g4
    have e0 : Env0 P w K mg (hidT sc.heap T) callerA [] sc T := ⟨rfl, ⟨kin, ns2 g1, ⟨mb, ns2 g2, g3⟩, ⟨mc, ns2 c1, c2⟩⟩, fun b o e => of_hidT e, Nat.le_of_eq (hidT_size _ _), trivial, fun b hb => (nomatch (show b ∈ ([] : List Addr) from hb)), hok, .of_eq g5⟩
    refine codeAny_mono ((F _ kin (ns2 g1)).run callerA [] sc T ⟨[.ref a], []⟩ [.ref a] [.ref a] _ _ hr e0 (hbind sc (.ref a)) (.cons rfl .nil) (hsp T only seq)) fun r s2 h => ?_
    cases r with
    | error e => exact (no T e s2 h).elim
    | ok fl =>
      cases fl with
      | next => exact h.elim
      | brk => exact h.elim
      | cont => exact h.elim
      | ret u =>
        obtain ⟨v, T2, os, bare, un, hok2, ru, q⟩ := h
        have q : v = .bl true := q
        subst q
        cases (show u = Value.bool true from ru)
        refine ⟨rfl, OldK.of_keep fun b o e => ?_, os, bare⟩
        cases q : T b with
        | none => exact un.keep b o e q (fun z => nomatch (show b ∈ ([] : List Addr) from z)) (by simp)
        | some u =>
          rcases only b with z | ⟨ob, xs, z⟩
          · rw [q] at z; cases z
          · obtain ⟨m1, _⟩ := hok b _ z
            obtain ⟨m2, _⟩ := hok2 b _ (un.frzs b ob _ z)
            rw [e] at m1; cases m1
            exact m2
  cases hk : K.lookup a with
  | some o =>
    have e := kx a o hk
    rw [ha] at e
    cases e
    exact go (fun _ => none) (fun _ => .inl rfl) (.inr ⟨_, vs.toArray, _, hk, rfl, rfl, rfl, by rw [List.size_toArray, hi.length]; exact hl, by simpa using vals_ints hi⟩) (fun b u z => nomatch (show (none : Option HO) = some u from z)) (fun b z => absurd rfl z) fun z => absurd rfl z
  | none =>
    let T : Hp := fun b => if b = a then some (.frz { cls := .type "list", data := .seq vs.toArray } (.lst (ns.map V.int))) else none
    have t1 : T a = some (.frz { cls := .type "list", data := .seq vs.toArray } (.lst (ns.map V.int))) := if_pos rfl
    have t2 : ∀ b, b ≠ a → T b = none := fun b n => if_neg n
    refine go T (fun b => ?_) (.inl (.inr ⟨_, t1⟩)) (fun b u z => ?_) (fun b z => Classical.byContradiction fun n => z (t2 b n)) fun _ => hk
    · by_cases e : b = a
      · subst e; exact .inr ⟨_, _, t1⟩
      · exact .inl (t2 b e)
    · by_cases e : b = a
      · subst e
        rw [t1] at z; cases z
        exact ⟨ha, by rw [List.length_map]; exact hl, vs, _, vals_ints hi, ha⟩
      · rw [t2 b e] at z; cases z
open PyProof.Rows in
theorem walk_G {l : PySem.W.OpenLaw} {n k : Nat} {q : Program} {loose : List Str} {XP : (Str → Option Value) → Heap → Prop} {YP : World → Heap → Prop} {d : DefRec} {K : Params → PySem.W.Frag} {sp : World → Sp} {x : Str} (hn : l.most = some n) (hn2 : n ≤ sizeLine) (hdf : d.params.defaults = []) (hr : RoomG k callerA)
    (hY : ∀ (w : World) (h : Heap), YP w h → (K w.params).In h) (F : ∀ (w : World) (mg : Str → Option Value) (fa : Addr) (h : Heap), (K w.params).In h → h.Ns mainGlobals mg → mg d.name = some (.ref fa) → ∃ fd : FuncData, (∀ (s : Shared) (u : Value), BindsTo s fd ⟨[u], []⟩ [(x, u)]) ∧
        ∀ base : Heap, (K w.params).In base → base.Ns mainGlobals mg → FnG l.prog w (K w.params) mg base (L2.CX l.prog w) k fa fd [x] (sp w))
    (hsp : ∀ (w : World) (H : Hp) (a : Addr) (ns : List Int), ns.length ≤ n → (∀ z ∈ ns, Builtin.Int.intBits z ≤ 1048576) → SqL (K w.params) H a (ns.map V.int) → sp w [.ref a] H (fun v _ => v = .bl true) fun _ _ _ => False) : PySem.W.WalkO q loose XP YP l.row.toRowW d [] (fun f vs => PySem.call f vs) := by
  refine Att.attach_callB hn hdf fun w s0 sc mg mb fa o pm cd doc a vs ns G Y ho hd hcd hmg hobj hints hlen hbits hg => ?_
  obtain ⟨fd, hb, hF⟩ := F w mg fa _ (hY w _ Y) G.T.g hmg
  refine law_G (hY w _ Y) G.T.g G.T.b G.T.builtins G.T.nolimit hg hobj hints (Nat.le_trans hlen hn2) hr hF hb (fun T _ hS => hsp w T a ns hlen hbits hS) fun T e s' z => ?_
  obtain ⟨_, _, _, _, _, _, _, _, _, _, _, _, q⟩ := z
  exact q
end DL
namespace DL
open PySem PySem.Spec L2
section
variable {K : PySem.W.Frag} {pv : List V} {G F H : Hp} {sd : SD} {σ : L2.St}
theorem StR1.hide {v : V} {t : OT} (s : StR1 K pv G F sd σ H v t) : ∃ G', Same G G' ∧ StR K pv G' F sd σ H ∧
    ∀ (F' : Hp) (sd' : SD) (σ' : L2.St) (H' : Hp), Same F F' → StR K pv G' F' sd' σ' H' → StR1 K pv G F' sd' σ' H' v t := by
  classical
  obtain ⟨o, P, W, r, k⟩ := s
  refine ⟨fun a => if P a then H a else G a, fun a u e => ?_, ⟨o, W.fh, fun a u e => ?_, fun a ha => ?_, fun i a q => ?_, W.oo, W.len, W.sl, W.sp, W.pr, W.tf⟩, fun F' sd' σ' H' f ⟨o', W'⟩ => ?_⟩
  · have : ¬ P a := fun z => by rw [(k a z).2.2.1] at e; cases e
    show (if P a then H a else G a) = some u
    rw [if_neg this]; exact e
  · have e : (if P a then H a else G a) = some u := e
    by_cases z : P a
    · rw [if_pos z] at e; exact e
    · rw [if_neg z] at e; exact W.gh a u e
  · show (if P a then H a else G a) = none
    by_cases z : P a
    · exact absurd (k a z).2.1 ha
    · rw [if_neg z]; exact W.fg a ha
  · obtain ⟨h1, h2, h3⟩ := W.oh i a q
    refine ⟨h1, h2, ?_⟩
    show (if P a then H a else G a) = none
    rw [if_neg fun z => (k a z).2.2.2 i q]; exact h3
  · have up : ∀ a, P a → (if P a then H a else G a) = H a := fun a z => if_pos z
    have hH : ∀ a, P a → H' a = H a := fun a z => by
      cases e : H a with
      | none => exact absurd e (k a z).1
      | some u => exact W'.gh a u (by rw [up a z]; exact e)
    have ne : ∀ a, P a → (if P a then H a else G a) ≠ none := fun a z => by rw [up a z]; exact (k a z).1
    refine ⟨o', P, ⟨W'.fh, fun a u e => ?_, fun a ha => ?_, fun i a q => ?_, W'.oo, W'.len, W'.sl, W'.sp, W'.pr, W'.tf⟩, r.mono f fun x hx => ⟨hx, hH x hx⟩, fun a z => ⟨?_, ?_, (k a z).2.2.1, fun i q => ?_⟩⟩
    · by_cases z : P a
      · rw [(k a z).2.2.1] at e; cases e
      · exact W'.gh a u (by show (if P a then H a else G a) = some u; rw [if_neg z]; exact e)
    · by_cases z : P a
      · exact (k a z).2.2.1
      · have q := W'.fg a ha
        have q : (if P a then H a else G a) = none := q
        rw [if_neg z] at q; exact q
    · obtain ⟨h1, h2, h3⟩ := W'.oh i a q
      refine ⟨h1, h2, ?_⟩
      by_cases z : P a
      · exact (k a z).2.2.1
      · have h3 : (if P a then H a else G a) = none := h3
        rw [if_neg z] at h3; exact h3
    · rw [hH a z]; exact (k a z).1
    · cases e : F' a with
      | none => rfl
      | some u => exact absurd (W'.fg a (by rw [e]; simp)) (ne a z)
    · exact absurd (W'.oh i a q).2.2 (ne a z)
/-- what a callee is given: all of the frame is put aside but the trees handed over. idx: where the callee's parameters come from -/
theorem StR.give {ts : List OT} {vs : List V} (s : StR K pv G F sd σ H) (hr : Reps K F vs (ts.map OT.view) ∧ ts.all (fun t => match t with | .fz _ => true | _ => false) = true) :
    ∃ G', StR K vs G' F ⟨[], ts⟩ [] H ∧ (∀ (F' H' : Hp) (v : V) (t : OT) (sd1 : SD), Same F F' → StR1 K vs G' F' sd1 [] H' v t → StR1 K pv G F' sd σ H' v t ∧ Same H H') ∧
      (∀ (F' H' : Hp) (sd1 : SD), Same F F' → StR K vs G' F' sd1 [] H' → StR K pv G F' sd σ H' ∧ Same H H') := by
  classical
  obtain ⟨hr, hfz⟩ := hr
  obtain ⟨o, W⟩ := s
  have back : ∀ (F' H' : Hp) (o' : Nat ⊕ Nat → Addr → Prop) (sd1 : SD), Same F F' → Own K vs (fun a => if F a = none then H a else none) F' sd1 [] H' o' → Same H H' ∧ Own K pv G F' sd σ H' o := fun F' H' o' sd1 f W' => by
    have hh : Same H H' := fun a u e => by
      by_cases z : F a = none
      · exact W'.gh a u (by show (if F a = none then H a else none) = some u; rw [if_pos z]; exact e)
      · cases e2 : F a with
        | none => exact absurd e2 z
        | some u' =>
          have := W.fh a u' e2
          rw [e] at this; cases this
          exact W'.fh a u (f a u e2)
    refine ⟨hh, W.grow hh f W'.fh (fun a ha => ?_) fun a xs e => .inr (W'.tf a xs e)⟩
    by_cases z : F a = none
    · have q := W'.fg a ha
      have q : (if F a = none then H a else none) = none := q
      rw [if_pos z] at q; exact .inr q
    · exact .inl z
  refine ⟨fun a => if F a = none then H a else none, ⟨fun _ _ => False, W.fh, fun a u e => ?_, fun a ha => if_neg ha, fun i a q => q.elim, fun i j a q => q.elim, rfl, fun i t e => by simp at e, fun i j e => by simp at e, fun j t e => ?_, W.tf⟩, fun F' H' v t sd1 f ⟨o', P, W', r, k⟩ => ?_, fun F' H' sd1 f ⟨o', W'⟩ => ?_⟩
  · have e : (if F a = none then H a else none) = some u := e
    by_cases z : F a = none
    · rw [if_pos z] at e; exact e
    · rw [if_neg z] at e; cases e
  · have e : ts[j]? = some t := e
    have ef := List.all_eq_true.mp hfz t (List.mem_of_getElem? e)
    cases t with
    | fz d =>
      obtain ⟨v, h1, h2⟩ := hr.get (i := j) (d := d) (by rw [List.getElem?_map, e]; rfl)
      refine ⟨v, h1, ?_⟩
      unfold RepO; exact h2
    | ol _ => cases ef
    | od _ _ _ => cases ef
    | oi _ _ _ => cases ef
    | ot _ => cases ef
  · obtain ⟨hh, W2⟩ := back F' H' o' sd1 f W'
    refine ⟨⟨o, P, W2, r, fun a z => ?_⟩, hh⟩
    obtain ⟨h1, h2, h3, h4⟩ := k a z
    have fa : F a = none := f.free h2
    have h3 : (if F a = none then H a else none) = none := h3
    rw [if_pos fa] at h3
    exact ⟨h1, h2, W.gh.free h3, fun i q => (W.oh i a q).1 h3⟩
  · obtain ⟨hh, W2⟩ := back F' H' o' sd1 f W'
    exact ⟨⟨o, W2⟩, hh⟩
end
noncomputable def spD (K : PySem.W.Frag) (n : Nat) (m : List OT → ER OT) : Sp := fun vs H Q E => vs.length = n ∧ ∃ (G F : Hp) (ts : List OT), ts.length = n ∧ StR K vs G F ⟨[], ts⟩ [] H ∧
  match m ts with
  | .ok t sd' => ∀ v F' H', Same F F' → StR1 K vs G F' sd' [] H' v t → Q v H'
  | .rz x sd' => ∀ cls dd F' H', Same F F' → StR K vs G F' sd' [] H' → RepX K F' cls dd x → E cls dd H'
  | .bad => False
noncomputable def mCall0 (f : List OT → ER OT) (a : SD → ER (List D)) : SD → ER OT := fun sd => (a sd).bind fun ds sd1 =>
  match f (ds.map .fz) with
  | .ok t _ => .ok t sd1
  | .rz x _ => .rz x sd1
  | .bad => .bad
theorem map_view_fz : ∀ ds : List D, (ds.map OT.fz).map OT.view = ds
  | [] => rfl
  | d :: ds => by rw [List.map_cons, List.map_cons, OT.view, map_view_fz ds]
theorem all_fz : ∀ ds : List D, (ds.map OT.fz).all (fun t => match t with | .fz _ => true | _ => false) = true
  | [] => rfl
  | d :: ds => by rw [List.map_cons, List.all_cons, all_fz ds]; rfl
section
variable {X : Cx} {pv : List V} {W : WX} {p q k l : Bool} {e a b : Expr} {es : List Expr}
theorem tr_call0 {sp : Sp} {n : Nat} {f : List OT → ER OT} {ta : TA} {m : SD → ER (List D)} (hsp : sp = spD X.K n f) (hn : ∀ sd ds sd1, m sd = .ok ds sd1 → ds.length = n) (h : TrA X.K pv W p true ta m) :
    TrO X.K pv W p (fun σ H Q => ta σ H fun vs H1 => sp vs H1 Q (WE W σ)) (mCall0 f m) := by
  intro G F sd σ H Q s
  subst hsp
  have z := h G F sd σ H (fun vs H1 => spD X.K n f vs H1 Q (WE W σ)) s
  unfold mCall0
  have hn := hn sd
  revert z hn
  cases m sd with
  | bad => exact fun _ _ => True.intro
  | rz x sd1 => exact fun z _ => z
  | ok ds sd1 =>
    intro z hn
    have hn := hn ds sd1 rfl
    show Meets X.K pv W G σ (RSo X.K pv) p sd F H (match f (ds.map .fz) with
      | .ok t _ => .ok t sd1
      | .rz x _ => .rz x sd1
      | .bad => .bad) Q _
    cases e : f (ds.map .fz) with
    | bad => exact True.intro
    | rz x s' =>
      intro hW
      refine z fun vs F1 H1 s1 s2 s3 s4 => ?_
      have s3 : Reps X.K F1 vs ds := s3
      obtain ⟨G', g1, g2, g3⟩ := s2.give (ts := ds.map .fz) (vs := vs) ⟨by rw [map_view_fz]; exact s3, all_fz ds⟩
      refine ⟨by rw [s3.length, hn], G', F1, ds.map .fz, by rw [List.length_map, hn], g1, ?_⟩
      rw [e]
      intro cls dd F2 H2 t1 t2 t3
      obtain ⟨u1, u2⟩ := g3 F2 H2 s' t1 t2
      exact hW cls dd F2 H2 (s1.trans t1) u1 t3
    | ok t s' =>
      intro hQ
      refine z fun vs F1 H1 s1 s2 s3 s4 => ?_
      have s3 : Reps X.K F1 vs ds := s3
      obtain ⟨G', g1, g2, g3⟩ := s2.give (ts := ds.map .fz) (vs := vs) ⟨by rw [map_view_fz]; exact s3, all_fz ds⟩
      refine ⟨by rw [s3.length, hn], G', F1, ds.map .fz, by rw [List.length_map, hn], g1, ?_⟩
      rw [e]
      intro v F2 H2 t1 t2
      obtain ⟨u1, u2⟩ := g2 F2 H2 v t s' t1 t2
      refine hQ v F2 H2 (s1.trans t1) u1.drop u1 fun hp => ?_
      obtain ⟨a1, a2⟩ := s4 hp
      exact ⟨a1.trans u2, a2⟩
/-- how many arguments there are -/
theorem len_nil : ∀ sd ds sd1, mNil sd = .ok ds sd1 → ds.length = 0 := fun sd ds sd1 h => by cases h; rfl
theorem len_cons {ma : SD → ER D} {mr : SD → ER (List D)} {n : Nat} (h : ∀ sd ds sd1, mr sd = .ok ds sd1 → ds.length = n) : ∀ sd ds sd1, mCons ma mr sd = .ok ds sd1 → ds.length = n + 1 := fun sd ds sd1 e => by
  unfold mCons at e
  cases e1 : ma sd with
  | bad => rw [e1] at e; cases e
  | rz x s => rw [e1] at e; cases e
  | ok d s =>
    rw [e1] at e
    have e : (mr s).bind (fun xs sd2 => ER.ok (d :: xs) sd2) = .ok ds sd1 := e
    cases e2 : mr s with
    | bad => rw [e2] at e; cases e
    | rz x s2 => rw [e2] at e; cases e
    | ok ys s2 =>
      rw [e2] at e
      cases e
      rw [List.length_cons, h s ys _ e2]
theorem do_call0 {n j : Nat} {f : Addr} {fd : FuncData} {ps : List Str} {x : Str} {pp pos : Pos} {g : List OT → ER OT} {m : SD → ER (List D)} (F : FnG X.prog X.w X.K X.mg X.base (L2.CX X.prog X.w) j f fd ps (spD X.K n g)) (hr : RoomG j X.A) (hg : Gl X x)
    (hm : X.mg x = some (.ref f)) (hk : PySem.W.keepIn X.K (.ref f) = true) (hb : Binds X.K fd ps []) (tk : Takes X W) (ha : DA X pv W p true (e :: es) m) (hn : ∀ sd ds sd1, m sd = .ok ds sd1 → ds.length = n)
    (hdb : (x == ("__debug__" : Str)) = false := by decide) (he : starEach (e :: es) X.env = (false, eval e X.env) :: starEach es X.env := by rfl) (hpl : (backTo pos (starEach es X.env)).any (·.1) = false := by rfl) :
    DO X pv W p (.Call (.Name x pp) (e :: es) [] pos) (mCall0 g m) := by
  obtain ⟨ta, a1, a2⟩ := ha
  exact ⟨_, pe_callG F hr hg hm hk hb tk a1 hdb he hpl, tr_call0 rfl hn a2⟩
end
inductive Fl where
  | nx (sd : SD)
  | rt (t : OT) (sd : SD)
  | bk (sd : SD)
  | ct (sd : SD)
  | rz (x : Exn) (sd : SD)
  | bad
noncomputable def ER.stm {α : Type} (r : ER α) (f : α → SD → Fl) : Fl :=
  match r with
  | .ok a sd => f a sd
  | .rz x sd => .rz x sd
  | .bad => .bad
noncomputable def Fl.seq (r : Fl) (f : SD → Fl) : Fl :=
  match r with
  | .nx sd => f sd
  | r => r
noncomputable def MeetsS (K : PySem.W.Frag) (pv : List V) (W : WX) (G : Hp) (F : Hp) (r : Fl) (D : Ends) (P : Prop) : Prop :=
  match r with
  | .nx sd' => (∀ F' σ' H', Same F F' → StR K pv G F' sd' σ' H' → D.nx σ' H') → P
  | .rt t sd' => (∀ v F' σ' H', Same F F' → StR1 K pv G F' sd' σ' H' v t → D.rt v H') → P
  | .bk sd' => (∀ F' σ' H', Same F F' → StR K pv G F' sd' σ' H' → D.bk σ' H') → P
  | .ct sd' => (∀ F' σ' H', Same F F' → StR K pv G F' sd' σ' H' → D.ct σ' H') → P
  | .rz x sd' => (∀ cls dd F' σ' H', Same F F' → StR K pv G F' sd' σ' H' → RepX K F' cls dd x → W cls dd σ' H') → P
  | .bad => True
noncomputable def TrS (K : PySem.W.Frag) (pv : List V) (W : WX) (ts : TS) (m : SD → Fl) : Prop := ∀ G F sd σ H D, StR K pv G F sd σ H → MeetsS K pv W G F (m sd) D (ts D σ H)
structure DS (X : Cx) (pv : List V) (W : WX) (st : Stmt) (m : SD → Fl) : Prop where
  ex : ∃ ts, PS X st ts ∧ TrS X.K pv W ts m
structure DSs (X : Cx) (pv : List V) (W : WX) (st : List Stmt) (m : SD → Fl) : Prop where
  ex : ∃ ts, PSs X st ts ∧ TrS X.K pv W ts m
section
variable {α β : Type} {K : PySem.W.Frag} {pv : List V} {W : WX} {G F H : Hp} {σ : L2.St} {sd : SD} {p q : Bool}
theorem Meets.stm {RS : RSt β α} {r : ER α} {f : α → SD → Fl} {D : Ends} {k : β → Hp → Prop} {P : Prop} (h : Meets K pv W G σ RS p sd F H r k P)
    (g : ∀ v F1 H1 a sd1, Same F F1 → StR K pv G F1 sd1 σ H1 → RS G F1 sd1 H1 σ v a → MeetsS K pv W G F1 (f a sd1) D (k v H1)) : MeetsS K pv W G F (r.stm f) D P := by
  cases r with
  | bad => exact True.intro
  | rz x sd' => exact fun hW => h fun cls dd F1 H1 s1 s2 s3 => hW cls dd F1 σ H1 s1 s2 s3
  | ok a sd1 =>
    show MeetsS K pv W G F (f a sd1) D P
    have h' : (∀ v F' H', Same F F' → StR K pv G F' sd1 σ H' → RS G F' sd1 H' σ v a → (p = true → Same H H' ∧ sd1 = sd) → k v H') → P := h
    have g' := fun v F1 H1 s1 s2 s3 => g v F1 H1 a sd1 s1 s2 s3
    revert g'
    cases f a sd1 with
    | bad => exact fun _ => True.intro
    | rz x sd2 => exact fun g' hW => h' fun v F1 H1 s1 s2 s3 s4 => g' v F1 H1 s1 s2 s3 fun cls dd F2 σ2 H2 t1 t2 t3 => hW cls dd F2 σ2 H2 (s1.trans t1) t2 t3
    | nx sd2 => exact fun g' hQ => h' fun v F1 H1 s1 s2 s3 s4 => g' v F1 H1 s1 s2 s3 fun F2 σ2 H2 t1 t2 => hQ F2 σ2 H2 (s1.trans t1) t2
    | bk sd2 => exact fun g' hQ => h' fun v F1 H1 s1 s2 s3 s4 => g' v F1 H1 s1 s2 s3 fun F2 σ2 H2 t1 t2 => hQ F2 σ2 H2 (s1.trans t1) t2
    | ct sd2 => exact fun g' hQ => h' fun v F1 H1 s1 s2 s3 s4 => g' v F1 H1 s1 s2 s3 fun F2 σ2 H2 t1 t2 => hQ F2 σ2 H2 (s1.trans t1) t2
    | rt t sd2 => exact fun g' hQ => h' fun v F1 H1 s1 s2 s3 s4 => g' v F1 H1 s1 s2 s3 fun v2 F2 σ2 H2 t1 t2 => hQ v2 F2 σ2 H2 (s1.trans t1) t2
theorem MeetsS.seq {r : Fl} {f : SD → Fl} {D : Ends} {N : L2.St → Hp → Prop} {P : Prop} (h : MeetsS K pv W G F r { D with nx := N } P)
    (g : ∀ F1 σ1 H1 sd1, Same F F1 → StR K pv G F1 sd1 σ1 H1 → MeetsS K pv W G F1 (f sd1) D (N σ1 H1)) : MeetsS K pv W G F (r.seq f) D P := by
  cases r with
  | bad => exact True.intro
  | rz x sd' => exact h
  | bk sd' => exact h
  | ct sd' => exact h
  | rt t sd' => exact h
  | nx sd1 =>
    show MeetsS K pv W G F (f sd1) D P
    have h' : (∀ F' σ' H', Same F F' → StR K pv G F' sd1 σ' H' → N σ' H') → P := h
    have g' := fun F1 σ1 H1 s1 s2 => g F1 σ1 H1 sd1 s1 s2
    revert g'
    cases f sd1 with
    | bad => exact fun _ => True.intro
    | rz x sd2 => exact fun g' hW => h' fun F1 σ1 H1 s1 s2 => g' F1 σ1 H1 s1 s2 fun cls dd F2 σ2 H2 t1 t2 t3 => hW cls dd F2 σ2 H2 (s1.trans t1) t2 t3
    | nx sd2 => exact fun g' hQ => h' fun F1 σ1 H1 s1 s2 => g' F1 σ1 H1 s1 s2 fun F2 σ2 H2 t1 t2 => hQ F2 σ2 H2 (s1.trans t1) t2
    | bk sd2 => exact fun g' hQ => h' fun F1 σ1 H1 s1 s2 => g' F1 σ1 H1 s1 s2 fun F2 σ2 H2 t1 t2 => hQ F2 σ2 H2 (s1.trans t1) t2
    | ct sd2 => exact fun g' hQ => h' fun F1 σ1 H1 s1 s2 => g' F1 σ1 H1 s1 s2 fun F2 σ2 H2 t1 t2 => hQ F2 σ2 H2 (s1.trans t1) t2
    | rt t sd2 => exact fun g' hQ => h' fun F1 σ1 H1 s1 s2 => g' F1 σ1 H1 s1 s2 fun v2 F2 σ2 H2 t1 t2 => hQ v2 F2 σ2 H2 (s1.trans t1) t2
theorem MeetsS.imp {r : Fl} {D : Ends} {P P' : Prop} (h : MeetsS K pv W G F r D P) (hP : P → P') : MeetsS K pv W G F r D P' := by
  cases r with
  | bad => exact True.intro
  | rz x sd' => exact fun z => hP (h z)
  | bk sd' => exact fun z => hP (h z)
  | ct sd' => exact fun z => hP (h z)
  | rt t sd' => exact fun z => hP (h z)
  | nx sd' => exact fun z => hP (h z)
end
noncomputable def sNil : SD → Fl := .nx
noncomputable def sSeq (a b : SD → Fl) : SD → Fl := fun sd => (a sd).seq b
noncomputable def sSet (i : Nat) (m : SD → ER OT) : SD → Fl := fun sd => (m sd).stm fun t sd1 => if i < sd1.sl.length then .nx { sd1 with sl := sd1.sl.set i (.ow t) } else .bad
noncomputable def sRet (m : SD → ER OT) : SD → Fl := fun sd => (m sd).stm fun t sd1 => .rt t sd1
noncomputable def sIf (c : SD → ER Bool) (a b : SD → Fl) : SD → Fl := fun sd => (c sd).stm fun x sd1 => if x = true then a sd1 else b sd1
noncomputable def sDrop (m : SD → ER D) : SD → Fl := fun sd => (m sd).stm fun _ sd1 => .nx sd1
noncomputable def sNever : SD → Fl := fun _ => .bad
noncomputable def sBreak : SD → Fl := .bk
noncomputable def sCont : SD → Fl := .ct
section
variable {X : Cx} {pv : List V} {W : WX} {p q k l : Bool} {e a b : Expr} {es : List Expr} {pos : Pos}
theorem dss_nil : DSs X pv W [] sNil := ⟨_, pss_nil, fun G F sd σ H D s hQ => hQ F σ H (Same.refl _) s⟩
theorem tr_seq {t u : TS} {ma mb : SD → Fl} (h1 : TrS X.K pv W t ma) (h2 : TrS X.K pv W u mb) : TrS X.K pv W (tSeq t u) (sSeq ma mb) := fun G F sd σ H D s =>
  MeetsS.seq (N := u D) (h1 G F sd σ H { D with nx := u D } s) fun F1 σ1 H1 sd1 s1 s2 => h2 G F1 sd1 σ1 H1 D s2
theorem dss_cons {st : Stmt} {rest : List Stmt} {ma mb : SD → Fl} (h1 : DS X pv W st ma) (h2 : DSs X pv W rest mb) : DSs X pv W (st :: rest) (sSeq ma mb) := by
  obtain ⟨t, a1, a2⟩ := h1
  obtain ⟨u, b1, b2⟩ := h2
  exact ⟨_, pss_cons a1 b1, tr_seq a2 b2⟩
theorem dss_one {st : Stmt} {ma : SD → Fl} (h1 : DS X pv W st ma) : DSs X pv W [st] ma := by
  obtain ⟨t, a1, a2⟩ := h1
  exact ⟨_, pss_one a1, a2⟩
theorem ds_never {st : Stmt} : DS X pv W st sNever := ⟨_, ps_never, fun G F sd σ H D s => True.intro⟩
theorem tr_set {te : TE} {i : Nat} {m : SD → ER OT} (h : TrO X.K pv W p te m) : TrS X.K pv W (tAsg te (gName i)) (sSet i m) := by
  intro G F sd σ H D s
  refine Meets.stm (h G F sd σ H _ s) fun v F1 H1 t sd1 s1 s2 s3 => ?_
  split
  · rename_i hi
    exact fun hQ => hQ F1 _ H1 (Same.refl _) (StR1.store s3 hi)
  · exact True.intro
theorem ds_set {i : Nat} {x : Str} {pos' : Pos} {m : SD → ER OT} (hN : X.N.Nodup) (hi : X.N[i]? = some x) (hx : Loc X.env.scope x) (he : DO X pv W p e m) (hs : swapsWith e (some (.Name x pos')) pos.line X.env = pure false := by rfl)
    (hf : X.fn x = true ∨ X.env.scope.names.lookup x = some .local := by first | exact .inl rfl | exact .inr rfl | assumption) : DS X pv W (.Assign [.Name x pos'] e pos) (sSet i m) := by
  obtain ⟨te, a1, a2⟩ := he
  exact ⟨_, ps_set hN hi hx a1 hs hf, tr_set a2⟩
theorem ds_ret {m : SD → ER OT} (he : DO X pv W p e m) : DS X pv W (.Return (some e) pos) (sRet m) := by
  obtain ⟨te, a1, a2⟩ := he
  refine ⟨_, ps_ret a1, fun G F sd σ H D s => ?_⟩
  exact Meets.stm (a2 G F sd σ H D.rt s) fun v F1 H1 t sd1 s1 s2 s3 hQ => hQ v F1 σ H1 (Same.refl _) s3
theorem ds_if {c : Expr} {sa sb : List Stmt} {mc : SD → ER Bool} {ma mb : SD → Fl} (hc : DT X pv W p c mc) (ha : DSs X pv W sa ma) (hb : DSs X pv W sb mb) : DS X pv W (.If c sa sb pos) (sIf mc ma mb) := by
  obtain ⟨tc, c1, c2⟩ := hc
  obtain ⟨t, a1, a2⟩ := ha
  obtain ⟨u, b1, b2⟩ := hb
  refine ⟨_, ps_if c1 a1 b1, fun G F sd σ H D s => ?_⟩
  refine Meets.stm (c2 G F sd σ H _ s) fun x F1 H1 dx sd1 s1 s2 s3 => ?_
  have s3 : x = dx := s3
  subst s3
  cases x with
  | true => exact a2 G F1 sd1 σ H1 D s2
  | false => exact b2 G F1 sd1 σ H1 D s2
end
/-- the slots at the entry: a parameter that is handed over as a tree is the caller's -/
noncomputable def slotsOf : Nat → List OT → List S
  | _, [] => []
  | j, .fz d :: ts => .ow (.fz d) :: slotsOf (j + 1) ts
  | j, _ :: ts => .pa j :: slotsOf (j + 1) ts
theorem slotsOf_length : ∀ (j : Nat) (ts : List OT), (slotsOf j ts).length = ts.length
  | _, [] => rfl
  | j, .fz d :: ts => by rw [slotsOf, List.length_cons, List.length_cons, slotsOf_length]
  | j, .ol _ :: ts => by rw [slotsOf, List.length_cons, List.length_cons, slotsOf_length] <;> exact fun _ h => nomatch h
  | j, .od _ _ _ :: ts => by rw [slotsOf, List.length_cons, List.length_cons, slotsOf_length] <;> exact fun _ h => nomatch h
  | j, .oi _ _ _ :: ts => by rw [slotsOf, List.length_cons, List.length_cons, slotsOf_length] <;> exact fun _ h => nomatch h
  | j, .ot _ :: ts => by rw [slotsOf, List.length_cons, List.length_cons, slotsOf_length] <;> exact fun _ h => nomatch h
theorem slotsOf_get : ∀ (j : Nat) (ts : List OT) (i : Nat) (t : OT), ts[i]? = some t → (slotsOf j ts)[i]? = some (match t with | .fz d => .ow (.fz d) | _ => .pa (j + i))
  | j, [], i, t, h => by simp at h
  | j, .fz d :: ts, 0, t, h => by simp at h; subst h; rw [slotsOf]; rfl
  | j, .ol _ :: ts, 0, t, h => by simp at h; subst h; rw [slotsOf]; rfl; exact fun _ h => nomatch h
  | j, .od _ _ _ :: ts, 0, t, h => by simp at h; subst h; rw [slotsOf]; rfl; exact fun _ h => nomatch h
  | j, .oi _ _ _ :: ts, 0, t, h => by simp at h; subst h; rw [slotsOf]; rfl; exact fun _ h => nomatch h
  | j, .ot _ :: ts, 0, t, h => by simp at h; subst h; rw [slotsOf]; rfl; exact fun _ h => nomatch h
  | j, .fz d :: ts, i + 1, t, h => by
    rw [slotsOf]
    have z := slotsOf_get (j + 1) ts i t (by simpa using h)
    rw [List.getElem?_cons_succ, z, Nat.add_right_comm, Nat.add_assoc]
  | j, .ol _ :: ts, i + 1, t, h => by
    rw [slotsOf]
    · have z := slotsOf_get (j + 1) ts i t (by simpa using h)
      rw [List.getElem?_cons_succ, z, Nat.add_right_comm, Nat.add_assoc]
    · exact fun _ h => nomatch h
  | j, .od _ _ _ :: ts, i + 1, t, h => by
    rw [slotsOf]
    · have z := slotsOf_get (j + 1) ts i t (by simpa using h)
      rw [List.getElem?_cons_succ, z, Nat.add_right_comm, Nat.add_assoc]
    · exact fun _ h => nomatch h
  | j, .oi _ _ _ :: ts, i + 1, t, h => by
    rw [slotsOf]
    · have z := slotsOf_get (j + 1) ts i t (by simpa using h)
      rw [List.getElem?_cons_succ, z, Nat.add_right_comm, Nat.add_assoc]
    · exact fun _ h => nomatch h
  | j, .ot _ :: ts, i + 1, t, h => by
    rw [slotsOf]
    · have z := slotsOf_get (j + 1) ts i t (by simpa using h)
      rw [List.getElem?_cons_succ, z, Nat.add_right_comm, Nat.add_assoc]
    · exact fun _ h => nomatch h
/-- the state at a def's entry; n: the names of the def -/
noncomputable def entry (n : Nat) (ts : List OT) : SD := ⟨slotsOf 0 ts ++ List.replicate (n - ts.length) .un, ts⟩
/-- a body as a def's mirror -/
noncomputable def asDef (n : Nat) (body : SD → Fl) : List OT → ER OT := fun ts => match body (entry n ts) with
  | .rt t sd => .ok t ⟨[], sd.pa⟩
  | .nx sd => .ok (.fz .non) ⟨[], sd.pa⟩
  | .rz x sd => .rz x ⟨[], sd.pa⟩
  | _ => .bad
section
variable {K : PySem.W.Frag} {pv : List V} {G F H : Hp} {sd : SD} {σ : L2.St}
theorem StR.bare (s : StR K pv G F sd σ H) : StR K pv G F ⟨[], sd.pa⟩ [] H := by
  obtain ⟨o, W⟩ := s
  exact ⟨o, W.fh, W.gh, W.fg, W.oh, W.oo, rfl, fun i t e => by simp at e, fun i j e => by simp at e, W.pr, W.tf⟩
theorem StR1.bare {v : V} {t : OT} (s : StR1 K pv G F sd σ H v t) : StR1 K pv G F ⟨[], sd.pa⟩ [] H v t := by
  obtain ⟨o, P, W, r⟩ := s
  exact ⟨o, P, ⟨W.fh, W.gh, W.fg, W.oh, W.oo, rfl, fun i t e => by simp at e, fun i j e => by simp at e, W.pr, W.tf⟩, r⟩
theorem StR.enter {ts : List OT} {vs : List V} {N : List Str} (s : StR K vs G F ⟨[], ts⟩ [] H) (hl : vs.length = ts.length) (hN : ts.length ≤ N.length) : StR K vs G F (entry N.length ts) (L2.start N vs) H := by
  obtain ⟨o, W⟩ := s
  have at1 : ∀ (i : Nat) (S1 : S), (entry N.length ts).sl[i]? = some S1 → S1 ≠ .un → ∃ t v, ts[i]? = some t ∧ vs[i]? = some v ∧ (L2.start N vs)[i]? = some (some v) ∧ S1 = (match t with | .fz d => .ow (.fz d) | _ => .pa i) := fun i S1 e hu => by
    have e : (slotsOf 0 ts ++ List.replicate (N.length - ts.length) .un)[i]? = some S1 := e
    by_cases hi : i < ts.length
    · have h1 : ts[i]? = some ts[i] := by simp [hi]
      have z := slotsOf_get 0 ts i _ h1
      rw [List.getElem?_append_left (by rw [slotsOf_length]; exact hi), z] at e
      have hv : i < vs.length := by omega
      refine ⟨ts[i], vs[i], h1, by simp [hv], ?_, ?_⟩
      · unfold L2.start
        rw [List.getElem?_append_left (by simpa using hv), List.getElem?_map]
        simp [hv]
      · have e := Option.some.inj e
        rw [← e]
        cases ts[i] <;> simp
    · rw [List.getElem?_append_right (by rw [slotsOf_length]; omega), List.getElem?_replicate] at e
      split at e
      · exact absurd (Option.some.inj e).symm hu
      · cases e
  refine ⟨fun i a => match i with | .inl _ => False | .inr j => o (.inr j) a, W.fh, W.gh, W.fg, fun i a q => ?_, fun i j a q q' => ?_, ?_, fun i t e => ?_, fun i j e => ?_, fun j t e => ?_, W.tf⟩
  · cases i with
    | inl _ => exact q.elim
    | inr j => exact W.oh (.inr j) a q
  · cases i with
    | inl _ => exact q.elim
    | inr i =>
      cases j with
      | inl _ => exact q'.elim
      | inr j => exact W.oo _ _ a q q'
  · unfold L2.start entry
    rw [List.length_append, List.length_append, List.length_map, List.length_replicate, List.length_replicate, slotsOf_length, hl]
  · obtain ⟨t', v, h1, h2, h3, h4⟩ := at1 i _ e (by intro z; cases z)
    cases t' with
    | fz d =>
      have h4 : S.ow t = .ow (.fz d) := h4
      cases h4
      obtain ⟨v', q1, q2⟩ := W.pr i _ h1
      rw [h2] at q1; cases q1
      refine ⟨v, h3, ?_⟩
      unfold RepO at q2 ⊢
      exact q2
    | ol _ => cases h4
    | od _ _ _ => cases h4
    | oi _ _ _ => cases h4
    | ot _ => cases h4
  · obtain ⟨t', v, h1, h2, h3, h4⟩ := at1 i _ e (by intro z; cases z)
    cases t' with
    | fz d => cases h4
    | ol _ =>
      cases h4; exact ⟨v, h2, h3⟩
    | od _ _ _ =>
      cases h4; exact ⟨v, h2, h3⟩
    | oi _ _ _ =>
      cases h4; exact ⟨v, h2, h3⟩
    | ot _ =>
      cases h4; exact ⟨v, h2, h3⟩
  · exact W.pr j t e
end
/-- THE RULE for a def -/
theorem fn_mirror {P : Program} {w : World} {K : PySem.W.Frag} {mg : Str → Option Value} {base : Heap} {x qual : Str} {st : Stmt} {f : Addr} {fd : FuncData} {N ps : List Str} {k : Nat} {body : SD → Fl} (F : Fun K x qual st f fd) (S : FnScope N ps (defScope st))
    (h : ∀ (X : Cx) (pv : List V) (W : WX) (cdv : Value) (A : Around) (outer : List Env) (s : Shared) (H : Hp) (E : XK), X = cxOf (L2.CX P w) P w K mg base N qual (defScope st) f cdv A outer s H E → Takes X W → RoomG k X.A → DSs X pv W (defBody st) body) :
    FnG P w K mg base (L2.CX P w) (k + 1) f fd ps (spD K ps.length (asDef N.length body)) := by
  refine fun_okG F S (fun vs H Q E hs => hs.1) fun cdv A outer s H vs Q E hr hs => ?_
  obtain ⟨hl, G, Fz, ts, htl, hst, hm⟩ := hs
  obtain ⟨t, h1, h2⟩ := h _ vs (fun cls d _ H => E cls d H) cdv A outer s H E rfl (takes_of rfl rfl rfl rfl) hr
  refine ⟨t, h1, ?_⟩
  have hpl : ps.length ≤ N.length := by have := congrArg List.length S.pre; rw [List.length_take] at this; omega
  have z := h2 G Fz (entry N.length ts) (L2.start N vs) H { nx := fun _ H' => Q .non H', rt := Q } (hst.enter (by omega) (by omega))
  unfold asDef at hm
  revert z hm
  cases body (entry N.length ts) with
  | bad => exact fun hm _ => hm.elim
  | bk sd' => exact fun hm _ => hm.elim
  | ct sd' => exact fun hm _ => hm.elim
  | nx sd' => exact fun hm z => z fun F' σ' H' s1 s2 => hm .non F' H' s1 (StR1.fz s2.bare .non)
  | rt t sd' => exact fun hm z => z fun v F' σ' H' s1 s2 => hm v F' H' s1 s2.bare
  | rz e sd' => exact fun hm z => z fun cls dd F' σ' H' s1 s2 s3 => hm cls dd F' H' s1 s2.bare s3
end DL
namespace DL
open PySem PySem.Spec L2
open PyProof.Rows (floordiv_int mod_int' pow_int)
noncomputable def dAdd : D → D → Option D
  | .int i, .int j => some (.int (i + j))
  | .str x, .str y => if x.length + y.length ≤ 16777216 then some (.str (x ++ y)) else none
  | _, _ => none
noncomputable def dSub : D → D → Option D
  | .int i, .int j => some (.int (i - j))
  | _, _ => none
noncomputable def dMul : D → D → Option D
  | .int i, .int j => if i.natAbs.log2 + j.natAbs.log2 < 1000000 then some (.int (i * j)) else none
  | _, _ => none
noncomputable def dDiv : D → D → Option D
  | .int i, .int j => if j ≠ 0 ∧ j.natAbs.log2 < 9000 then some (.int (i.fdiv j)) else none
  | _, _ => none
noncomputable def dMod : D → D → Option D
  | .int i, .int j => if j ≠ 0 then some (.int (i.fmod j)) else none
  | _, _ => none
noncomputable def dPow : D → D → Option D
  | .int i, .int j => if 0 ≤ j ∧ (Builtin.Int.intBits i : Int) * j ≤ 134217728 then some (.int (i ^ j.toNat)) else none
  | _, _ => none
noncomputable def dNeg : D → Option D
  | .int i => some (.int (-i))
  | _ => none
noncomputable def dLt : D → D → Option D
  | .int i, .int j => some (.bl (decide (i < j)))
  | .str x, .str y => some (.bl (decide (x.cps.toList < y.cps.toList)))
  | _, _ => none
noncomputable def dLe : D → D → Option D
  | .int i, .int j => some (.bl (decide (i ≤ j)))
  | _, _ => none
noncomputable def dGt : D → D → Option D
  | .int i, .int j => some (.bl (decide (j < i)))
  | _, _ => none
noncomputable def dGe : D → D → Option D
  | .int i, .int j => some (.bl (decide (j ≤ i)))
  | _, _ => none
noncomputable def isNonD : D → Bool
  | .non => true
  | _ => false
noncomputable def dIsN : D → D → Option D
  | a, .non => some (.bl (isNonD a))
  | _, _ => none
noncomputable def dNotN : D → D → Option D
  | a, .non => some (.bl (!isNonD a))
  | _, _ => none
section
variable {X : Cx}
noncomputable def rDiv : R2 := rI (fun _ j => j ≠ 0 ∧ j.natAbs.log2 < 9000) fun i j => .int (i.fdiv j)
theorem op_divX : OpR X (binaryOp .FloorDiv) rDiv := opI fun _ _ _ _ _ _ _ hc q => floordiv_int hc.1 q (.inl (PyProof.noPylong_of_log2 hc.2))
noncomputable def rPow : R2 := rI (fun i j => 0 ≤ j ∧ (Builtin.Int.intBits i : Int) * j ≤ 134217728) fun i j => .int (i ^ j.toNat)
theorem op_powX : OpR X (binaryOp .Pow) rPow := opI fun _ _ _ _ _ _ _ hc q => pow_int hc.1 (by have := hc.2; simpa using this) q
noncomputable def rAddX : R2 := fun x y H Q => (rI0 fun i j => .int (i + j)) x y H Q ∨ ∃ i j, x = .str i ∧ y = .str j ∧ i.length + j.length ≤ sizeLine ∧ Q (.str (i ++ j)) H
theorem op_addX : OpR X (binaryOp .Add) rAddX := op_add.or op_add_str
end
section
variable {K : PySem.W.Frag}
theorem rep_int {H : Hp} {v : V} {i : Int} (r : Rep K H v (.int i)) : v = .int i := by cases r; rfl
theorem rep_str {H : Hp} {v : V} {x : Str} (r : Rep K H v (.str x)) : v = .str x := by cases r; rfl
theorem f_add : Op2S K rAddX dAdd := by
  intro H x y a b c ra rb h
  unfold dAdd at h
  split at h
  · cases h
    exact ⟨_, rfl, fun Q q => .inl ⟨_, _, rep_int ra, rep_int rb, q⟩⟩
  · split at h
    · rename_i hl
      cases h
      exact ⟨_, rfl, fun Q q => .inr ⟨_, _, rep_str ra, rep_str rb, by rw [sizeLine_eq]; exact hl, q⟩⟩
    · cases h
  · cases h
theorem f_sub : Op2S K (rI0 fun i j => .int (i - j)) dSub := by
  intro H x y a b c ra rb h
  unfold dSub at h
  split at h
  · cases h
    exact ⟨_, rfl, fun Q q => ⟨_, _, rep_int ra, rep_int rb, q⟩⟩
  · cases h
theorem f_mul : Op2S K (rI CMulW fun i j => .int (i * j)) dMul := by
  intro H x y a b c ra rb h
  unfold dMul at h
  split at h
  · split at h
    · rename_i hl
      cases h
      exact ⟨_, rfl, fun Q q => ⟨_, _, rep_int ra, rep_int rb, hl, q⟩⟩
    · cases h
  · cases h
theorem f_div : Op2S K rDiv dDiv := by
  intro H x y a b c ra rb h
  unfold dDiv at h
  split at h
  · split at h
    · rename_i hl
      cases h
      exact ⟨_, rfl, fun Q q => ⟨_, _, rep_int ra, rep_int rb, hl, q⟩⟩
    · cases h
  · cases h
theorem f_mod : Op2S K (rI (fun _ j => j ≠ 0) fun i j => .int (i.fmod j)) dMod := by
  intro H x y a b c ra rb h
  unfold dMod at h
  split at h
  · split at h
    · rename_i hl
      cases h
      exact ⟨_, rfl, fun Q q => ⟨_, _, rep_int ra, rep_int rb, hl, q⟩⟩
    · cases h
  · cases h
theorem f_pow : Op2S K rPow dPow := by
  intro H x y a b c ra rb h
  unfold dPow at h
  split at h
  · split at h
    · rename_i hl
      cases h
      exact ⟨_, rfl, fun Q q => ⟨_, _, rep_int ra, rep_int rb, hl, q⟩⟩
    · cases h
  · cases h
noncomputable def rLtX : R2 := fun x y H Q => (rI0 fun i j => .bl (decide (i < j))) x y H Q ∨ ∃ i j, x = .str i ∧ y = .str j ∧ Q (.bl (decide (i.cps.toList < j.cps.toList))) H
theorem op_ltX {X : Cx} : OpR X (compareOp .Lt) rLtX := op_lt.or op_lt_str
theorem f_lt : Op2S K rLtX dLt := by
  intro H x y a b c ra rb h
  unfold dLt at h
  split at h
  · cases h
    exact ⟨_, rfl, fun Q q => .inl ⟨_, _, rep_int ra, rep_int rb, q⟩⟩
  · cases h
    exact ⟨_, rfl, fun Q q => .inr ⟨_, _, rep_str ra, rep_str rb, q⟩⟩
  · cases h
theorem f_le : Op2S K (rI0 fun i j => .bl (decide (i ≤ j))) dLe := by
  intro H x y a b c ra rb h
  unfold dLe at h
  split at h
  · cases h
    exact ⟨_, rfl, fun Q q => ⟨_, _, rep_int ra, rep_int rb, q⟩⟩
  · cases h
theorem f_gt : Op2S K (rI0 fun i j => .bl (decide (j < i))) dGt := by
  intro H x y a b c ra rb h
  unfold dGt at h
  split at h
  · cases h
    exact ⟨_, rfl, fun Q q => ⟨_, _, rep_int ra, rep_int rb, q⟩⟩
  · cases h
theorem rep_non {F : Hp} {x : V} {a : D} (r : Rep K F x a) : decide (x = .non) = isNonD a := by
  cases r <;> rfl
theorem f_isN : Op2S K (fun x y H Q => y = .non ∧ Q (.bl (decide (x = .non))) H) dIsN := by
  intro H x y a b c ra rb h
  cases rb <;> simp only [dIsN, reduceCtorEq, Option.some.injEq] at h
  subst h
  exact ⟨_, rfl, fun Q q => ⟨rfl, by rw [rep_non ra]; exact q⟩⟩
theorem f_notN : Op2S K (fun x y H Q => y = .non ∧ Q (.bl (!decide (x = .non))) H) dNotN := by
  intro H x y a b c ra rb h
  cases rb <;> simp only [dNotN, reduceCtorEq, Option.some.injEq] at h
  subst h
  exact ⟨_, rfl, fun Q q => ⟨rfl, by rw [rep_non ra]; exact q⟩⟩
end
mutual
noncomputable def D.py : D → Option PyData
  | .non => some .none
  | .bl b => some (.bool b)
  | .int i => some (.int i)
  | .str x => some (.str x)
  | .tup xs => (D.pys xs).map .tuple
  | .ktu xs => (D.pys xs).map .tuple
  | .lst xs => (D.pys xs).map .list
  | _ => none
noncomputable def D.pys : List D → Option (List PyData)
  | [] => some []
  | d :: ds => d.py.bind fun p => (D.pys ds).map (p :: ·)
end
section
variable {K : PySem.W.Frag} {F : Hp}
mutual
theorem Rep.dp : ∀ {v : V} {d : D} {p : PyData}, Rep K F v d → d.py = some p → Dp K F v p
  | _, _, _, .non, h => by rw [D.py] at h; cases h; exact .non
  | _, _, _, .bl b, h => by rw [D.py] at h; cases h; exact .bl b
  | _, _, _, .int i, h => by rw [D.py] at h; cases h; exact .int i
  | _, _, _, .str x, h => by rw [D.py] at h; cases h; exact .str x
  | _, _, _, .ty n, h => by simp [D.py] at h
  | _, _, _, .cls C, h => by simp [D.py] at h
  | _, _, p, .tup (ds := ds) s r, h => by
    rw [D.py] at h
    cases e : D.pys ds with
    | none => rw [e] at h; cases h
    | some ps => rw [e] at h; cases h; exact .tup (.inl (.inl s)) (Reps.dp r e)
  | _, _, p, .ktu (ds := ds) s r, h => by
    rw [D.py] at h
    cases e : D.pys ds with
    | none => rw [e] at h; cases h
    | some ps => rw [e] at h; cases h; exact .tup s (Reps.dp r e)
  | _, _, p, .lst (ds := ds) s r, h => by
    rw [D.py] at h
    cases e : D.pys ds with
    | none => rw [e] at h; cases h
    | some ps => rw [e] at h; cases h; exact .lst (.inl s) (Reps.dp r e)
  | _, _, _, .scr _, h => by simp [D.py] at h
  | _, _, _, .dicK _ _, h => by simp [D.py] at h
  | _, _, _, .dicT _ _, h => by simp [D.py] at h
  | _, _, _, .ins _ _, h => by simp [D.py] at h
  | _, _, _, .exc _ _ _ _, h => by simp [D.py] at h
theorem Reps.dp : ∀ {vs : List V} {ds : List D} {ps : List PyData}, Reps K F vs ds → D.pys ds = some ps → DpAll K F vs ps
  | _, _, _, .nil, h => by rw [D.pys] at h; cases h; exact .nil
  | _, _, ps, .cons (d := d) (ds := ds) r1 r2, h => by
    rw [D.pys] at h
    cases e : d.py with
    | none => rw [e] at h; cases h
    | some p =>
      rw [e] at h
      cases e2 : D.pys ds with
      | none => rw [e2] at h; cases h
      | some qs => rw [e2] at h; cases h; exact .cons (Rep.dp r1 e) (Reps.dp r2 e2)
end
end
noncomputable def dEqB (a b : D) : Option Bool := match a, b with
  | .int i, .int j => some (decide (i = j))
  | .str x, .str y => some (decide (x = y))
  | .bl x, .bl y => some (decide (x = y))
  | a, b => match a.py, b.py with
    | some p, some q => if (SeqAt.shaped p && SeqAt.shaped q) = true then some (PyData.eqv p q) else none
    | _, _ => none
noncomputable def dEq (a b : D) : Option D := (dEqB a b).map .bl
noncomputable def dNe (a b : D) : Option D := (dEqB a b).map fun c => .bl (!c)
noncomputable def rEqX (K : PySem.W.Frag) : R2 := fun x y H Q => rEq x y H Q ∨ rEqD K x y H Q
noncomputable def rNeX (K : PySem.W.Frag) : R2 := fun x y H Q => rNe x y H Q ∨ rNeD K x y H Q
theorem op_eqX {X : Cx} (hu : X.A.units + 64 < cLine) : OpR X (compareOp .Eq) (rEqX X.K) := op_eq.or (op_eqD hu)
theorem op_neX {X : Cx} (hu : X.A.units + 64 < cLine) : OpR X (compareOp .NotEq) (rNeX X.K) := op_ne.or (op_neD hu)
section
variable {K : PySem.W.Frag}
theorem eqB_of {H : Hp} {x y : V} {a b : D} {c : Bool} (ra : Rep K H x a) (rb : Rep K H y b) (h : dEqB a b = some c) :
    (scal x y = true ∧ decide (x = y) = c) ∨ ∃ d e, Dp K H x d ∧ Dp K H y e ∧ SeqAt.shaped d = true ∧ SeqAt.shaped e = true ∧ PyData.eqv d e = c := by
  have gen : (match a.py, b.py with
    | some p, some q => if (SeqAt.shaped p && SeqAt.shaped q) = true then some (PyData.eqv p q) else none
    | _, _ => none) = some c → (scal x y = true ∧ decide (x = y) = c) ∨ ∃ d e, Dp K H x d ∧ Dp K H y e ∧ SeqAt.shaped d = true ∧ SeqAt.shaped e = true ∧ PyData.eqv d e = c := fun h => by
    cases e1 : a.py with
    | none => rw [e1] at h; cases h
    | some p =>
      cases e2 : b.py with
      | none => rw [e1, e2] at h; cases h
      | some q =>
        rw [e1, e2] at h
        have h : (if (SeqAt.shaped p && SeqAt.shaped q) = true then some (PyData.eqv p q) else none) = some c := h
        split at h
        · rename_i hs
          rw [Bool.and_eq_true] at hs
          cases h
          exact .inr ⟨p, q, ra.dp e1, rb.dp e2, hs.1, hs.2, rfl⟩
        · cases h
  unfold dEqB at h
  split at h
  · cases ra; cases rb
    cases h
    exact .inl ⟨rfl, by simp⟩
  · cases ra; cases rb
    cases h
    exact .inl ⟨rfl, by simp⟩
  · cases ra; cases rb
    cases h
    exact .inl ⟨rfl, by simp⟩
  · exact gen h
theorem f_eq : Op2S K (rEqX K) dEq := by
  intro H x y a b c ra rb h
  unfold dEq at h
  cases e : dEqB a b with
  | none => rw [e] at h; cases h
  | some k =>
    rw [e] at h; cases h
    refine ⟨_, rfl, fun Q q => ?_⟩
    rcases eqB_of ra rb e with ⟨h1, h2⟩ | ⟨d, d2, h1, h2, h3, h4, h5⟩
    · subst h2; exact .inl ⟨h1, q⟩
    · subst h5; exact .inr ⟨d, d2, h1, h2, h3, h4, q⟩
theorem f_ne : Op2S K (rNeX K) dNe := by
  intro H x y a b c ra rb h
  unfold dNe at h
  cases e : dEqB a b with
  | none => rw [e] at h; cases h
  | some k =>
    rw [e] at h; cases h
    refine ⟨_, rfl, fun Q q => ?_⟩
    rcases eqB_of ra rb e with ⟨h1, h2⟩ | ⟨d, d2, h1, h2, h3, h4, h5⟩
    · subst h2; exact .inl ⟨h1, q⟩
    · subst h5; exact .inr ⟨d, d2, h1, h2, h3, h4, q⟩
end
section
variable {X : Cx} {pv : List V} {W : WX} {p q k l : Bool} {e a b c : Expr} {es : List Expr} {pos : Pos}
theorem dx_neg {m : SD → ER D} (h : DX X pv W p k a m) : DX X pv W p true (.UnaryOp .USub a pos) (mUn dNeg m) := by
  obtain ⟨te, a1, a2⟩ := h
  refine ⟨_, pe_un un_neg a1, fun G F sd σ H Q s => ?_⟩
  have hp : p = (p && true) := by cases p <;> rfl
  rw [hp]
  refine Meets.bind (a2 G F sd σ H _ s) fun x F1 H1 dx sd1 s1 s2 s3 s4 => ?_
  have r := RSx.see s3 s2
  cases dx with
  | int i =>
    cases r
    exact Meets.here s2 (show RSx X.K true G F1 sd1 H1 σ (.int (-i)) (.int (-i)) from .int _) fun q => ⟨i, rfl, q⟩
  | _ => exact True.intro
noncomputable def mAndV (a b : SD → ER D) : SD → ER D := fun sd => (a sd).bind fun x sd1 => match x with
  | .bl true => b sd1
  | .bl false => .ok (.bl false) sd1
  | _ => .bad
noncomputable def mOrV (a b : SD → ER D) : SD → ER D := fun sd => (a sd).bind fun x sd1 => match x with
  | .bl true => .ok (.bl true) sd1
  | .bl false => b sd1
  | _ => .bad
noncomputable def mNotV (a : SD → ER D) : SD → ER D := fun sd => (a sd).bind fun x sd1 => match x with
  | .bl b => .ok (.bl (!b)) sd1
  | _ => .bad
theorem dx_one {op : BoolOp} {m : SD → ER D} (h : DX X pv W p k a m) (hop : ∀ {te : TE}, PE X a te → PE X (.BoolOp op [a] pos) te) : DX X pv W p k (.BoolOp op [a] pos) m := by
  obtain ⟨te, a1, a2⟩ := h
  exact ⟨te, hop a1, a2⟩
theorem dx_and {ma mb : SD → ER D} (h : DX X pv W p k a ma) (h2 : DX X pv W q true (.BoolOp .And (b :: es) pos) mb) : DX X pv W (p && q) true (.BoolOp .And (a :: b :: es) pos) (mAndV ma mb) := by
  obtain ⟨te, a1, a2⟩ := h
  obtain ⟨tf, b1, b2⟩ := h2
  refine ⟨_, pe_and a1 b1, fun G F sd σ H Q s => ?_⟩
  refine Meets.bind (a2 G F sd σ H _ s) fun x F1 H1 dx sd1 s1 s2 s3 s4 => ?_
  have r := RSx.see s3 s2
  cases dx with
  | bl b =>
    cases r
    cases b with
    | true =>
      refine Meets.imp (f := id) (b2 G F1 sd1 σ H1 Q s2) (fun z => ⟨true, rfl, by rw [if_pos rfl]; exact z⟩) ?_ fun v F2 H2 a2 sd2 _ t1 t2 t3 t4 hQ => hQ v F2 H2 (Same.refl _) t2 t3 (Same.refl _)
      show mb sd1 = (mb sd1).bind fun a sd1 => .ok a sd1
      cases mb sd1 <;> rfl
    | false => exact Meets.here s2 (show RSx X.K true G F1 sd1 H1 σ (.bl false) (.bl false) from .bl _) fun q => ⟨false, rfl, by rw [if_neg (by decide)]; exact q⟩
  | _ => exact True.intro
theorem dx_or {ma mb : SD → ER D} (h : DX X pv W p k a ma) (h2 : DX X pv W q true (.BoolOp .Or (b :: es) pos) mb) : DX X pv W (p && q) true (.BoolOp .Or (a :: b :: es) pos) (mOrV ma mb) := by
  obtain ⟨te, a1, a2⟩ := h
  obtain ⟨tf, b1, b2⟩ := h2
  refine ⟨_, pe_or a1 b1, fun G F sd σ H Q s => ?_⟩
  refine Meets.bind (a2 G F sd σ H _ s) fun x F1 H1 dx sd1 s1 s2 s3 s4 => ?_
  have r := RSx.see s3 s2
  cases dx with
  | bl b =>
    cases r
    cases b with
    | false =>
      refine Meets.imp (f := id) (b2 G F1 sd1 σ H1 Q s2) (fun z => ⟨false, rfl, by rw [if_neg (by decide)]; exact z⟩) ?_ fun v F2 H2 a2 sd2 _ t1 t2 t3 t4 hQ => hQ v F2 H2 (Same.refl _) t2 t3 (Same.refl _)
      show mb sd1 = (mb sd1).bind fun a sd1 => .ok a sd1
      cases mb sd1 <;> rfl
    | true => exact Meets.here s2 (show RSx X.K true G F1 sd1 H1 σ (.bl true) (.bl true) from .bl _) fun q => ⟨true, rfl, by rw [if_pos rfl]; exact q⟩
  | _ => exact True.intro
theorem dx_and1 {m : SD → ER D} (h : DX X pv W p k a m) : DX X pv W p k (.BoolOp .And [a] pos) m := dx_one h fun z => pe_one z
theorem dx_or1 {m : SD → ER D} (h : DX X pv W p k a m) : DX X pv W p k (.BoolOp .Or [a] pos) m := dx_one h fun z => pe_one z
/-- a < b < c -/
noncomputable def mChain (f g : D → D → Option D) (a b c : SD → ER D) : SD → ER D := fun sd => (a sd).bind fun x sd1 => (b sd1).bind fun y sd2 => match f x y with
  | some (.bl true) => (c sd2).bind fun z sd3 => ER.opt (g y z) sd3
  | some (.bl false) => .ok (.bl false) sd2
  | _ => .bad
end
end DL
namespace DL
open PySem PySem.Spec L2
section
variable {α β : Type} {K : PySem.W.Frag} {pv : List V} {W : WX} {G F H : Hp} {σ : L2.St} {sd : SD} {p q : Bool}
theorem Meets.to {RS : RSt β α} {r : ER α} {Q : β → Hp → Prop} {P P' : Prop} (h : Meets K pv W G σ RS p sd F H r Q P) (hP : P → P') : Meets K pv W G σ RS p sd F H r Q P' := by
  cases r with
  | bad => exact True.intro
  | rz x sd' => exact fun z => hP (h z)
  | ok a sd' => exact fun z => hP (h z)
theorem Meets.bindL {γ δ : Type} {RS : RSt β α} {RS' : RSt δ γ} {r : ER α} {f : α → SD → ER γ} {Q : δ → Hp → Prop} {k : β → Hp → Prop} {P : Prop} (h : Meets K pv W G σ RS p sd F H r k P)
    (g : ∀ v F1 H1 a sd1, Same F F1 → StR K pv G F1 sd1 σ H1 → RS G F1 sd1 H1 σ v a → (p = true → Same H H1 ∧ sd1 = sd) → Meets K pv W G σ RS' true sd1 F1 H1 (f a sd1) Q (k v H1)) :
    Meets K pv W G σ RS' p sd F H (r.bind f) Q P := by
  have z := Meets.bind h g
  have hp : (p && true) = p := by cases p <;> rfl
  rw [hp] at z
  exact z
end
section
variable {X : Cx} {pv : List V} {W : WX} {p q k l : Bool} {e a b c : Expr} {es : List Expr} {pos : Pos}
theorem tr_chain {r r' : R2} {f g : D → D → Option D} {ta tb tc : TE} {ma mb mc : SD → ER D} {q' l' : Bool} (hf : Op2S X.K r f) (hg : Op2S X.K r' g) (ha : TrX X.K pv W p k ta ma) (hb : TrX X.K pv W q l tb mb) (hc : TrX X.K pv W q' l' tc mc)
    (hk : (k || q) = true) (hk2 : (l || q') = true) : TrX X.K pv W (p && (q && q')) true (tChain r r' ta tb tc) (mChain f g ma mb mc) := by
  intro G F sd σ H Q s
  refine Meets.bind (ha G F sd σ H _ s) fun x F1 H1 dx sd1 s1 s2 s3 s4 => ?_
  refine Meets.bind (hb G F1 sd1 σ H1 _ s2) fun y F2 H2 dy sd2 t1 t2 t3 t4 => ?_
  have rx : Rep X.K H2 x dx := by
    cases k with
    | true => exact Rep.mono t2.fh (Rep.mono t1 s3)
    | false => exact Rep.mono (t4 (by simpa using hk)).1 s3
  split
  · rename_i e
    obtain ⟨v, h1, h2⟩ := hf H2 x y dx dy _ rx (RSx.see t3 t2) e
    cases h1
    refine Meets.to (Meets.bindL (hc G F2 sd2 σ H2 (fun w' H4 => r' y w' H4 Q) t2) fun z F3 H3 dz sd3 u1 u2 u3 u4 => ?_) fun z => h2 _ ⟨true, rfl, by rw [if_pos rfl]; exact z⟩
    have ry : Rep X.K H3 y dy := by
      cases l with
      | true => exact Rep.mono u2.fh (Rep.mono u1 t3)
      | false => exact Rep.mono (u4 (by simpa using hk2)).1 t3
    cases e2 : g dy dz with
    | none => exact True.intro
    | some c =>
      obtain ⟨v, h1, h2⟩ := hg H3 y z dy dz c ry (RSx.see u3 u2) e2
      exact Meets.here u2 (show RSx X.K true G F3 sd3 H3 σ v c from Rep.sc h1) (h2 Q)
  · rename_i e
    obtain ⟨v, h1, h2⟩ := hf H2 x y dx dy _ rx (RSx.see t3 t2) e
    cases h1
    exact Meets.here t2 (show RSx X.K true G F2 sd2 H2 σ (.bl false) (.bl false) from .bl _) fun q => h2 _ ⟨false, rfl, by rw [if_neg (by decide)]; exact q⟩
  · exact True.intro
theorem dx_chain {op op' : CmpOp} {r r' : R2} {f g : D → D → Option D} {ma mb mc : SD → ER D} {q' l' : Bool} (ho : OpR X (compareOp op) r) (ho' : OpR X (compareOp op') r') (hf : Op2S X.K r f) (hg : Op2S X.K r' g) (ha : DX X pv W p k a ma) (hb : DX X pv W q l b mb)
    (hc : DX X pv W q' l' c mc) (hk : (k || q) = true := by rfl) (hk2 : (l || q') = true := by rfl) (hm : lastMarks [op, op'] [b, c] = false := by with_unfolding_all rfl) : DX X pv W (p && (q && q')) true (.Compare a [op, op'] [b, c] pos) (mChain f g ma mb mc) := by
  obtain ⟨ta, a1, a2⟩ := ha
  obtain ⟨tb, b1, b2⟩ := hb
  obtain ⟨tc, c1, c2⟩ := hc
  exact ⟨_, pe_chain ho ho' a1 b1 c1 hm, tr_chain hf hg a2 b2 c2 hk hk2⟩
theorem dt_chain {op op' : CmpOp} {r r' : R2} {f g : D → D → Option D} {ma mb mc : SD → ER D} {q' l' : Bool} (ho : OpR X (compareOp op) r) (ho' : OpR X (compareOp op') r') (hf : Op2S X.K r f) (hg : Op2S X.K r' g) (ha : DX X pv W p k a ma) (hb : DX X pv W q l b mb)
    (hc : DX X pv W q' l' c mc) (hk : (k || q) = true := by rfl) (hk2 : (l || q') = true := by rfl) (hm : lastMarks [op, op'] [b, c] = false := by with_unfolding_all rfl) : DT X pv W (p && (q && q')) (.Compare a [op, op'] [b, c] pos) (mTest (mChain f g ma mb mc)) := by
  obtain ⟨ta, a1, a2⟩ := ha
  obtain ⟨tb, b1, b2⟩ := hb
  obtain ⟨tc, c1, c2⟩ := hc
  exact ⟨_, pt_chain ho ho' a1 b1 c1 hm, tr_test (tr_chain hf hg a2 b2 c2 hk hk2)⟩
/-- a call that gives a flat value -/
noncomputable def CallS (K : PySem.W.Frag) (r : List V → Hp → VK → Prop) (f : List D → Option D) : Prop := ∀ H xs ds c, Reps K H xs ds → f ds = some c → ∃ v, c.sc = some v ∧ ∀ Q : VK, Q v H → r xs H Q
noncomputable def mCallL (f : List D → Option (List D)) (a : SD → ER (List D)) : SD → ER OT := fun sd => (a sd).bind fun xs sd1 => ER.opt ((f xs).map fun cs => .ol (cs.map .fz)) sd1
theorem tr_callS {r : List V → Hp → VK → Prop} {f : List D → Option D} {ta : TA} {m : SD → ER (List D)} (hf : CallS X.K r f) (h : TrA X.K pv W p k ta m) : TrX X.K pv W p true (tCB r ta) (mCall f m) := by
  intro G F sd σ H Q s
  refine Meets.bindL (h G F sd σ H _ s) fun xs F1 H1 ds sd1 s1 s2 s3 s4 => ?_
  cases e : f ds with
  | none => exact True.intro
  | some c =>
    obtain ⟨v, h1, h2⟩ := hf H1 xs ds c (RSl.see s3 s2) e
    exact Meets.here s2 (show RSx X.K true G F1 sd1 H1 σ v c from Rep.sc h1) (h2 Q)
theorem dx_callB {x : Str} {id : String} {pp : Pos} {r : List V → Hp → VK → Prop} {f : List D → Option D} {m : SD → ER (List D)} (hc : CallR X (.builtin id) r) (hf : CallS X.K r f) (hg : Gl X x) (hm : X.mg x = none) (hv : bootBuiltins x = some (.builtin id)) (ha : DA X pv W p k (e :: es) m)
    (hn : x ≠ "__name__" := by decide) (hdb : (x == ("__debug__" : Str)) = false := by decide) (he : starEach (e :: es) X.env = (false, eval e X.env) :: starEach es X.env := by rfl) (hpl : (backTo pos (starEach es X.env)).any (·.1) = false := by rfl) :
    DX X pv W p true (.Call (.Name x pp) (e :: es) [] pos) (mCall f m) := by
  obtain ⟨ta, a1, a2⟩ := ha
  exact ⟨_, pe_callB hc hg hm hv a1 hn hdb he hpl, tr_callS hf a2⟩
theorem dx_callTy {x : Str} {T : String} {pp : Pos} {r : List V → Hp → VK → Prop} {f : List D → Option D} {m : SD → ER (List D)} (hc : CallR X (.type T) r) (hf : CallS X.K r f) (hg : Gl X x) (hm : X.mg x = none) (hv : bootBuiltins x = some (.type T)) (ha : DA X pv W p k (e :: es) m)
    (hn : x ≠ "__name__" := by decide) (hdb : (x == ("__debug__" : Str)) = false := by decide) (he : starEach (e :: es) X.env = (false, eval e X.env) :: starEach es X.env := by rfl) (hpl : (backTo pos (starEach es X.env)).any (·.1) = false := by rfl) :
    DX X pv W p true (.Call (.Name x pp) (e :: es) [] pos) (mCall f m) := by
  obtain ⟨ta, a1, a2⟩ := ha
  exact ⟨_, pe_callTy hc hg hm hv a1 hn hdb he hpl, tr_callS hf a2⟩
theorem reps1 {K : PySem.W.Frag} {F : Hp} {vs : List V} {d : D} (r : Reps K F vs [d]) : ∃ v, vs = [v] ∧ Rep K F v d := by
  cases r with
  | cons h t => cases t; exact ⟨_, rfl, h⟩
theorem reps2 {K : PySem.W.Frag} {F : Hp} {vs : List V} {d d' : D} (r : Reps K F vs [d, d']) : ∃ v v', vs = [v, v'] ∧ Rep K F v d ∧ Rep K F v' d' := by
  cases r with
  | cons h t =>
    obtain ⟨v', rfl, h'⟩ := reps1 t
    exact ⟨_, _, rfl, h, h'⟩
noncomputable def dLen : List D → Option D
  | [.lst xs] => some (.int xs.length)
  | [.tup xs] => some (.int xs.length)
  | [.ktu xs] => some (.int xs.length)
  | [.str x] => if x.length ≤ 16777216 then some (.int x.length) else none
  | [.scr ns] => some (.int ns.length)
  | _ => none
theorem f_len {K : PySem.W.Frag} : CallS K (fun xs H Q => ∃ x n, xs = [x] ∧ LenV K x H n ∧ Q (.int n) H) dLen := by
  intro H xs ds c r h
  unfold dLen at h
  split at h
  · obtain ⟨v, rfl, r1⟩ := reps1 r
    cases r1 with
    | lst s t =>
      cases h
      exact ⟨_, rfl, fun Q q => ⟨_, _, rfl, .inl ⟨_, .inl s, rfl⟩, by rw [t.length]; exact q⟩⟩
  · obtain ⟨v, rfl, r1⟩ := reps1 r
    cases r1 with
    | tup s t =>
      cases h
      exact ⟨_, rfl, fun Q q => ⟨_, _, rfl, .inr ⟨_, .inl (.inl s), rfl⟩, by rw [t.length]; exact q⟩⟩
  · obtain ⟨v, rfl, r1⟩ := reps1 r
    cases r1 with
    | ktu s t =>
      cases h
      exact ⟨_, rfl, fun Q q => ⟨_, _, rfl, .inr ⟨_, s, rfl⟩, by rw [t.length]; exact q⟩⟩
  · obtain ⟨v, rfl, r1⟩ := reps1 r
    cases r1
    split at h
    · rename_i hl
      cases h
      exact ⟨_, rfl, fun Q q => ⟨_, _, rfl, (show LenV K (.str _) H _ from ⟨by rw [sizeLine_eq]; exact hl, rfl⟩), q⟩⟩
    · cases h
  · obtain ⟨v, rfl, r1⟩ := reps1 r
    cases r1 with
    | scr s =>
      cases h
      exact ⟨_, rfl, fun Q q => ⟨_, _, rfl, .inl ⟨_, s, rfl⟩, by rw [List.length_map]; exact q⟩⟩
  · cases h
/-- the ints of a list -/
noncomputable def intsOf : List D → Option (List Int)
  | [] => some []
  | .int i :: r => (intsOf r).map (i :: ·)
  | _ => none
theorem intsOf_map : ∀ ns : List Int, intsOf (ns.map D.int) = some ns
  | [] => rfl
  | n :: r => by rw [List.map_cons, intsOf, intsOf_map r]; rfl
theorem reps_ints {K : PySem.W.Frag} {F : Hp} : ∀ {ds : List D} {vs : List V} {ns : List Int}, Reps K F vs ds → intsOf ds = some ns → vs = ns.map V.int ∧ ds = ns.map D.int
  | [], _, _, .nil, h => by cases h; exact ⟨rfl, rfl⟩
  | d :: ds, _, ns, .cons r t, h => by
    cases d with
    | int i =>
      rw [intsOf] at h
      cases e : intsOf ds with
      | none => rw [e] at h; cases h
      | some ms =>
        rw [e] at h; cases h
        cases r
        obtain ⟨h1, h2⟩ := reps_ints t e
        exact ⟨by rw [h1]; rfl, by rw [h2]; rfl⟩
    | _ => simp [intsOf] at h
noncomputable def maxI : List Int → Int
  | [] => 0
  | n :: r => r.foldl max n
noncomputable def minI : List Int → Int
  | [] => 0
  | n :: r => r.foldl min n
theorem foldl_max : ∀ (r : List Int) (n : Int), (r.foldl max n = n ∨ r.foldl max n ∈ r) ∧ n ≤ r.foldl max n ∧ ∀ y ∈ r, y ≤ r.foldl max n
  | [], n => ⟨.inl rfl, Int.le_refl _, fun y h => by cases h⟩
  | m :: r, n => by
    obtain ⟨h1, h2, h3⟩ := foldl_max r (max n m)
    rw [List.foldl_cons]
    have e1 : n ≤ max n m := Int.le_max_left ..
    have e2 : m ≤ max n m := Int.le_max_right ..
    refine ⟨?_, Int.le_trans e1 h2, fun y hy => ?_⟩
    · rcases h1 with h1 | h1
      · by_cases z : n ≤ m
        · rw [h1]; rw [show max n m = m by omega]; exact .inr List.mem_cons_self
        · rw [h1]; exact .inl (by omega)
      · exact .inr (List.mem_cons_of_mem _ h1)
    · rcases List.mem_cons.mp hy with rfl | hy
      · exact Int.le_trans e2 h2
      · exact h3 y hy
theorem maxI_mem {n : Int} {r : List Int} : maxI (n :: r) ∈ n :: r := by
  obtain ⟨h1, _, _⟩ := foldl_max r n
  show r.foldl max n ∈ _
  rcases h1 with h1 | h1
  · rw [h1]; exact List.mem_cons_self
  · exact List.mem_cons_of_mem _ h1
theorem maxI_ge {n : Int} {r : List Int} : ∀ y ∈ n :: r, y ≤ maxI (n :: r) := fun y hy => by
  obtain ⟨_, h2, h3⟩ := foldl_max r n
  rcases List.mem_cons.mp hy with rfl | hy
  · exact h2
  · exact h3 y hy
noncomputable def dMax : List D → Option D
  | [.int i, .int j] => some (.int (max i j))
  | [.lst ds] => match intsOf ds with
    | some (n :: r) => some (.int (maxI (n :: r)))
    | _ => none
  | _ => none
noncomputable def dMin : List D → Option D
  | [.int i, .int j] => some (.int (min i j))
  | [.lst ds] => match intsOf ds with
    | some (n :: r) => some (.int (minI (n :: r)))
    | _ => none
  | _ => none
noncomputable def rMaxX (K : PySem.W.Frag) : List V → Hp → VK → Prop := fun xs H Q => (∃ i j, xs = [.int i, .int j] ∧ Q (.int (if j > i then j else i)) H) ∨ rMax K xs H Q
theorem call_maxX (hc : X.calm = true) : CallR X (.builtin "max") (rMaxX X.K) := (call_max2 hc).or (cr_max hc)
theorem f_max {K : PySem.W.Frag} : CallS K (rMaxX K) dMax := by
  intro H xs ds c r h
  unfold dMax at h
  split at h
  · rename_i i j
    obtain ⟨v, v', rfl, r1, r2⟩ := reps2 r
    cases r1; cases r2; cases h
    refine ⟨_, rfl, fun Q q => .inl ⟨_, _, rfl, ?_⟩⟩
    have e : (if j > i then j else i) = max i j := by split <;> omega
    rw [e]; exact q
  · obtain ⟨v, rfl, r1⟩ := reps1 r
    cases r1 with
    | @lst a vs ds s t =>
      split at h
      · rename_i n rr e
        cases h
        obtain ⟨h1, h2⟩ := reps_ints t e
        subst h1
        refine ⟨_, rfl, fun Q q => .inr ⟨a, n :: rr, rfl, .inl s, by simp, fun m hm hge => ?_⟩⟩
        have e : m = maxI (n :: rr) := Int.le_antisymm (maxI_ge m hm) (hge _ maxI_mem)
        rw [e]; exact q
      · cases h
  · cases h
/-- the bools of a list -/
noncomputable def boolsOf : List D → Option (List Bool)
  | [] => some []
  | .bl b :: r => (boolsOf r).map (b :: ·)
  | _ => none
theorem reps_bools {K : PySem.W.Frag} {F : Hp} : ∀ {ds : List D} {vs : List V} {ns : List Bool}, Reps K F vs ds → boolsOf ds = some ns → vs = ns.map V.bl
  | [], _, _, .nil, h => by cases h; rfl
  | d :: ds, _, ns, .cons r t, h => by
    cases d with
    | bl i =>
      rw [boolsOf] at h
      cases e : boolsOf ds with
      | none => rw [e] at h; cases h
      | some ms =>
        rw [e] at h; cases h
        cases r
        rw [reps_bools t e]; rfl
    | _ => simp [boolsOf] at h
noncomputable def dAll : List D → Option D
  | [.lst ds] => (boolsOf ds).map fun bs => .bl (bs.all id)
  | _ => none
theorem f_all {K : PySem.W.Frag} : CallS K (rAll K) dAll := by
  intro H xs ds c r h
  unfold dAll at h
  split at h
  · obtain ⟨v, rfl, r1⟩ := reps1 r
    cases r1 with
    | @lst a vs ds s t =>
      obtain ⟨ns, e, h⟩ := Option.map_eq_some_iff.mp h
      cases h
      have h1 := reps_bools t e
      subst h1
      exact ⟨_, rfl, fun Q q => ⟨a, ns, rfl, .inl s, q⟩⟩
  · cases h
end
end DL
namespace DL
open PySem PySem.Spec L2
open PyProof.Rows (IntsAre seqObj)
noncomputable def IsIT (h : Heap) (v : Value) (ns : List Int) : Prop := ∃ a o its n, v = .ref a ∧ h.get? a = some o ∧ o.cls = .type "tuple" ∧ o.data = .seq its n ∧ IntsAre its.toList ns
theorem IsIT.keeps {h h' : Heap} {v : Value} {ns : List Int} (p : IsIT h v ns) (k : ∀ b o, h.get? b = some o → o.cls = .type "tuple" → h'.get? b = some o) : IsIT h' v ns := by
  obtain ⟨a, o, its, n, e, ho, hc, hd⟩ := p
  exact ⟨a, o, its, n, e, k _ _ ho hc, hc, hd⟩
end DL
namespace DL
open PySem PySem.Spec L2
noncomputable def D.isA (d : D) (n : String) : Option Bool :=
  match d with
  | .non => some false
  | .bl _ => some (n == "bool" || n == "int")
  | .int _ => some (n == "int")
  | .str _ => some (n == "str")
  | .tup _ => some (n == "tuple")
  | .ktu _ => some (n == "tuple")
  | .lst _ => some (n == "list")
  | .scr _ => some (n == "list")
  | .dic false _ _ => some (n == "dict")
  | _ => none
noncomputable def tyName (n : String) : Bool := n == "bool" || n == "int" || n == "str" || n == "tuple" || n == "list" || n == "dict"
noncomputable def dIsi : List D → Option D
  | [d, .ty n] => if tyName n = true then (d.isA n).map .bl else none
  | _ => none
theorem kitB_all : ∀ n ∈ ["bool", "int", "str", "tuple", "list", "dict"], kitB "NoneType" n = some false ∧ kitB "bool" n = some (n == "bool" || n == "int") ∧ kitB "int" n = some (n == "int") ∧ kitB "str" n = some (n == "str") ∧
    kitB "tuple" n = some (n == "tuple") ∧ kitB "list" n = some (n == "list") ∧ kitB "dict" n = some (n == "dict") := by decide +kernel
theorem kitB_is {n : String} (h : tyName n = true) : kitB "NoneType" n = some false ∧ kitB "bool" n = some (n == "bool" || n == "int") ∧ kitB "int" n = some (n == "int") ∧ kitB "str" n = some (n == "str") ∧
    kitB "tuple" n = some (n == "tuple") ∧ kitB "list" n = some (n == "list") ∧ kitB "dict" n = some (n == "dict") := by
  refine kitB_all n ?_
  unfold tyName at h
  simp only [Bool.or_eq_true, beq_iff_eq] at h
  simp only [List.mem_cons, List.not_mem_nil, or_false]
  rcases h with ((((h | h) | h) | h) | h) | h <;> simp [h]
theorem tyx_tup {K : PySem.W.Frag} {H : Hp} {a : Addr} {xs : List V} (h : SqT K H a xs) : TyX K H (.ref a) (.type "tuple") := by
  rcases h with (h | ⟨o, h⟩) | ⟨o, its, n, h1, h2, _⟩
  · exact .base (.tup h)
  · exact .fTuple h
  · exact .kTuple h1 h2
theorem tyx_lst {K : PySem.W.Frag} {H : Hp} {a : Addr} {xs : List V} (h : SqL K H a xs) : TyX K H (.ref a) (.type "list") := by
  rcases h with (h | ⟨o, h⟩) | ⟨o, its, n, h1, h2, _⟩
  · exact .base (.lst h)
  · exact .base (.frz h)
  · exact .kList h1 h2
theorem f_isi {K : PySem.W.Frag} : CallS K (rIsi K) dIsi := by
  intro H xs ds c r h
  unfold dIsi at h
  split at h
  · rename_i d n
    obtain ⟨v, v', rfl, r1, r2⟩ := reps2 r
    cases r2
    split at h
    · rename_i hn
      obtain ⟨b, e, h⟩ := Option.map_eq_some_iff.mp h
      subst h
      obtain ⟨k0, k1, k2, k3, k4, k5, k6⟩ := kitB_is hn
      refine ⟨.bl b, rfl, fun Q q => ?_⟩
      have go : ∀ {t : String}, TyX K H v (.type t) → kitB t n = some b → rIsi K [v, .ty n] H Q := fun ht hk => ⟨v, .ty n, _, _, b, rfl, .ty n, ht, kit_ty hk, q⟩
      cases r1 with
      | non => exact go (.base .non) (by rw [k0]; exact e)
      | bl x => exact go (.base (.bl x)) (by rw [k1]; exact e)
      | int x => exact go (.base (.int x)) (by rw [k2]; exact e)
      | str x => exact go (.base (.str x)) (by rw [k3]; exact e)
      | ty x => cases e
      | cls x => cases e
      | tup s t => exact go (tyx_tup (.inl (.inl s))) (by rw [k4]; exact e)
      | ktu s t => exact go (tyx_tup s) (by rw [k4]; exact e)
      | lst s t => exact go (tyx_lst (.inl s)) (by rw [k5]; exact e)
      | scr s => exact go (tyx_lst s) (by rw [k5]; exact e)
      | dicK s t =>
        rcases s with s | ⟨o, s⟩
        · exact go (.base (.dK s)) (by rw [k6]; exact e)
        · exact go (.fDict s) (by rw [k6]; exact e)
      | dicT s t => cases e
      | ins s t => cases e
      | exc _ _ _ _ => cases e
    · cases h
  · cases h
section
variable {X : Cx} {pv : List V} {W : WX} {p q k l : Bool} {e a b c : Expr} {es : List Expr} {pos : Pos}
/-- a built-in class's name -/
theorem dx_ty {x : Str} {T : String} {pp : Pos} (hg : Gl X x) (hm : X.mg x = none) (hv : bootBuiltins x = some (.type T)) (hn : x ≠ "__name__" := by decide) (hd : (x == ("__debug__" : Str)) = false := by decide) : DX X pv W true true (.Name x pp) (mC (.ty T)) :=
  dx_c (pe_bltn (v := .ty T) hg hm hv rfl hn hd) fun _ => .ty T
/-- a constant of the module -/
theorem dx_glob {x : Str} {v : V} {d : D} {u : Value} {pp : Pos} (hg : Gl X x) (hm : X.mg x = some u) (r : RelV v u) (hr : ∀ F, Rep X.K F v d) (hd : (x == ("__debug__" : Str)) = false := by decide) : DX X pv W true true (.Name x pp) (mC d) :=
  dx_c (pe_glob hg hm r hd) hr
noncomputable def dIx : D → D → Option D
  | .lst xs, .int i => atI xs i
  | .tup xs, .int i => atI xs i
  | .ktu xs, .int i => atI xs i
  | .scr ns, .int i => (atI ns i).map .int
  | .str z, .int i => if z.length ≤ 16777216 then (atI z.cps.toList i).map fun c => .str ⟨#[c]⟩ else none
  | _, _ => none
theorem reps_at {K : PySem.W.Frag} {F : Hp} {vs : List V} {ds : List D} {i : Int} {d : D} (r : Reps K F vs ds) (h : atI ds i = some d) : ∃ v, atI vs i = some v ∧ Rep K F v d := by
  unfold atI at h ⊢
  rw [r.length]
  cases e : ixN ds.length i with
  | none => rw [e] at h; cases h
  | some j =>
    rw [e] at h
    exact r.get h
theorem ix_go {K : PySem.W.Frag} {F H : Hp} {x y : V} {a b c : D} (hF : Same F H) (ra : Rep K F x a) (rb : Rep K H y b) (h : dIx a b = some c) : ∃ v, Rep K F v c ∧ ∀ Q : VK, Q v H → rIx K x y H Q := by
  unfold dIx at h
  split at h
  · cases rb
    cases ra with
    | lst s t =>
      obtain ⟨v, h1, h2⟩ := reps_at t h
      exact ⟨v, h2, fun Q q => .inl ⟨_, _, _, v, rfl, rfl, hF.seq (.inl s), h1, q⟩⟩
  · cases rb
    cases ra with
    | tup s t =>
      obtain ⟨v, h1, h2⟩ := reps_at t h
      exact ⟨v, h2, fun Q q => .inr (.inl ⟨_, _, _, v, rfl, rfl, .inl (.inl (hF _ _ s)), h1, q⟩)⟩
  · cases rb
    cases ra with
    | ktu s t =>
      obtain ⟨v, h1, h2⟩ := reps_at t h
      exact ⟨v, h2, fun Q q => .inr (.inl ⟨_, _, _, v, rfl, rfl, Same.sqt hF s, h1, q⟩)⟩
  · cases rb
    cases ra with
    | scr s =>
      obtain ⟨n, e, h⟩ := Option.map_eq_some_iff.mp h
      subst h
      exact ⟨_, .int n, fun Q q => .inl ⟨_, _, _, .int n, rfl, rfl, hF.seq s, by unfold atI at e ⊢; rw [List.length_map]; cases e2 : ixN _ _ with
        | none => rw [e2] at e; cases e
        | some j => rw [e2] at e; show (List.map V.int _)[j]? = _; rw [List.getElem?_map]; have e : _[j]? = some n := e; rw [e]; rfl, q⟩⟩
  · cases rb
    cases ra
    split at h
    · rename_i hl
      obtain ⟨c', e, h⟩ := Option.map_eq_some_iff.mp h
      subst h
      exact ⟨_, .str _, fun Q q => .inr (.inr ⟨_, _, c', rfl, rfl, by rw [sizeLine_eq]; exact hl, e, q⟩)⟩
    · cases h
  · cases h
theorem dx_ix {ma mb : SD → ER D} (ha : DX X pv W p k a ma) (hb : DX X pv W q l b mb) (hk : (k || q) = true := by rfl) (hs : PlainIx b := by exact fun _ _ => rfl) : DX X pv W (p && q) k (.Subscript a b pos) (mOp dIx ma mb) := by
  obtain ⟨ta, a1, a2⟩ := ha
  obtain ⟨tb, b1, b2⟩ := hb
  refine ⟨_, pe_ix ix_seq a1 b1 hs, fun G F sd σ H Q s => ?_⟩
  refine Meets.bind (a2 G F sd σ H _ s) fun x F1 H1 dx sd1 s1 s2 s3 s4 => ?_
  refine Meets.bindL (b2 G F1 sd1 σ H1 _ s2) fun y F2 H2 dy sd2 t1 t2 t3 t4 => ?_
  cases e : dIx dx dy with
  | none => exact True.intro
  | some c =>
    cases k with
    | true =>
      obtain ⟨v, h1, h2⟩ := ix_go t2.fh (Rep.mono t1 (show Rep X.K F1 x dx from s3)) (RSx.see t3 t2) e
      exact Meets.here t2 (show RSx X.K true G F2 sd2 H2 σ v c from h1) (h2 Q)
    | false =>
      obtain ⟨v, h1, h2⟩ := ix_go (Same.refl H2) (Rep.mono (t4 (by simpa using hk)).1 (show Rep X.K H1 x dx from s3)) (RSx.see t3 t2) e
      exact Meets.here t2 (show RSx X.K false G F2 sd2 H2 σ v c from h1) (h2 Q)
noncomputable def RSq (K : PySem.W.Frag) (k : Bool) : RSt V (List D) := fun _ F _ H _ v ds => ∃ a vs, v = .ref a ∧ Rd (if k = true then F else H) a (.lst vs) ∧ Reps K F vs ds
noncomputable def TrQ (K : PySem.W.Frag) (pv : List V) (W : WX) (p k : Bool) (te : TE) (m : SD → ER (List D)) : Prop := ∀ G F sd σ H Q, StR K pv G F sd σ H → Meets K pv W G σ (RSq K k) p sd F H (m sd) Q (te σ H Q)
structure DQ (X : Cx) (pv : List V) (W : WX) (p k : Bool) (e : Expr) (m : SD → ER (List D)) : Prop where
  ex : ∃ te, PE X e te ∧ TrQ X.K pv W p k te m
noncomputable def qFz (a : SD → ER D) : SD → ER (List D) := fun sd => (a sd).bind fun x sd1 => match x with
  | .lst ds => .ok ds sd1
  | _ => .bad
/-- the items, if they are all frozen -/
noncomputable def fzOf : List OT → Option (List D)
  | [] => some []
  | .fz d :: r => (fzOf r).map (d :: ·)
  | _ => none
theorem fzOf_map : ∀ ds : List D, fzOf (ds.map OT.fz) = some ds
  | [] => rfl
  | d :: ds => by rw [List.map_cons, fzOf, fzOf_map ds]; rfl
theorem fzOf_eq : ∀ {ts : List OT} {ds : List D}, fzOf ts = some ds → ts = ds.map OT.fz
  | [], ds, h => by cases h; rfl
  | .fz d :: r, ds, h => by
    rw [fzOf] at h
    obtain ⟨es, e, h⟩ := Option.map_eq_some_iff.mp h
    subst h
    rw [fzOf_eq e]; rfl
  | .ol _ :: _, _, h => by simp [fzOf] at h
  | .od _ _ _ :: _, _, h => by simp [fzOf] at h
  | .oi _ _ _ :: _, _, h => by simp [fzOf] at h
  | .ot _ :: _, _, h => by simp [fzOf] at h
noncomputable def SD.tree (sd : SD) (i : Nat) : Option OT := match sd.sl[i]? with
  | some (.ow t) => some t
  | some (.pa j) => sd.pa[j]?
  | _ => none
noncomputable def OT.items : OT → Option (List D)
  | .ol ts => fzOf ts
  | .fz (.lst ds) => some ds
  | _ => none
noncomputable def qSee (i : Nat) : SD → ER (List D) := fun sd => ER.opt ((sd.tree i).bind OT.items) sd
noncomputable def qNew (a : SD → ER OT) : SD → ER (List D) := fun sd => (a sd).bind fun t sd1 => ER.opt t.items sd1
theorem items_rep {K : PySem.W.Frag} {F H : Hp} {t : OT} {v : V} {P : Addr → Prop} {ds : List D} (hF : Same F H) (r : RepO K F H t v P) (h : t.items = some ds) : ∃ a vs, v = .ref a ∧ Rd H a (.lst vs) ∧ Reps K F vs ds := by
  cases t with
  | ol ts =>
    have h : fzOf ts = some ds := h
    have e := fzOf_eq h
    subst e
    unfold RepO at r
    obtain ⟨a, vs, rfl, _, h1, h2⟩ := r
    exact ⟨a, vs, rfl, .inl h1, repOs_fz h2⟩
  | fz d =>
    unfold RepO at r
    cases d with
    | lst es =>
      have h : some es = some ds := h
      cases h
      cases r with
      | lst s t => exact ⟨_, _, rfl, Same.rd hF s, t⟩
    | _ => cases h
  | od _ _ _ => cases h
  | oi _ _ _ => cases h
  | ot _ => cases h
theorem StR.tree {K : PySem.W.Frag} {G F H : Hp} {sd : SD} {σ : L2.St} {i : Nat} {t : OT} (s : StR K pv G F sd σ H) (h : sd.tree i = some t) : ∃ v P, σ[i]? = some (some v) ∧ RepO K F H t v P := by
  obtain ⟨o, w⟩ := s
  unfold SD.tree at h
  split at h
  · rename_i t' e
    cases h
    obtain ⟨v, h1, h2⟩ := w.sl i _ e
    exact ⟨v, _, h1, h2⟩
  · rename_i j e
    obtain ⟨v, h1, h2⟩ := w.sp i j e
    obtain ⟨v', h3, h4⟩ := w.pr j t h
    rw [h1] at h3; cases h3
    exact ⟨v, _, h2, h4⟩
  · cases h
theorem DX.dq {m : SD → ER D} (h : DX X pv W p true e m) : DQ X pv W p true e (qFz m) := by
  obtain ⟨te, h1, h2⟩ := h
  refine ⟨te, h1, fun G F sd σ H Q s => ?_⟩
  have z := h2 G F sd σ H Q s
  unfold qFz
  revert z
  cases m sd with
  | bad => exact id
  | rz x sd1 => exact id
  | ok d sd1 =>
    intro z
    cases d with
    | lst ds =>
      intro hQ
      refine z fun v F1 H1 s1 s2 s3 s4 => hQ v F1 H1 s1 s2 ?_ s4
      have s3 : Rep X.K F1 v (.lst ds) := s3
      cases s3 with
      | lst s t => exact ⟨_, _, rfl, s, t⟩
    | _ => exact True.intro
theorem dq_see {i : Nat} {x : Str} {pp : Pos} (h : PE X (.Name x pp) (tVar i)) : DQ X pv W true false (.Name x pp) (qSee i) := by
  refine ⟨_, h, fun G F sd σ H Q s => ?_⟩
  unfold qSee
  cases e : sd.tree i with
  | none => exact True.intro
  | some t =>
    cases e2 : t.items with
    | none =>
      show Meets X.K pv W G σ (RSq X.K false) true sd F H (ER.opt (t.items) sd) Q _
      rw [e2]; exact True.intro
    | some ds =>
      show Meets X.K pv W G σ (RSq X.K false) true sd F H (ER.opt (t.items) sd) Q _
      rw [e2]
      obtain ⟨v, P, h1, h2⟩ := s.tree e
      exact Meets.here s (show RSq X.K false G F sd H σ v ds from items_rep s.fh h2 e2) fun q => ⟨v, h1, q⟩
theorem DO.dq {m : SD → ER OT} (h : DO X pv W p e m) : DQ X pv W p false e (qNew m) := by
  obtain ⟨te, h1, h2⟩ := h
  refine ⟨te, h1, fun G F sd σ H Q s => ?_⟩
  have z := h2 G F sd σ H Q s
  unfold qNew
  revert z
  cases m sd with
  | bad => exact id
  | rz x sd1 => exact id
  | ok t sd1 =>
    intro z
    show Meets X.K pv W G σ (RSq X.K false) p sd F H (ER.opt t.items sd1) Q _
    cases e2 : t.items with
    | none => exact True.intro
    | some ds =>
      intro hQ
      refine z fun v F1 H1 s1 s2 s3 s4 => hQ v F1 H1 s1 s2 ?_ s4
      obtain ⟨o, P, w, r, _⟩ := s3
      exact items_rep w.fh r e2
theorem RSq.see {K : PySem.W.Frag} {k : Bool} {G F H : Hp} {sd : SD} {σ : L2.St} {v : V} {ds : List D} (r : RSq K k G F sd H σ v ds) (s : StR K pv G F sd σ H) : ∃ a vs, v = .ref a ∧ Rd H a (.lst vs) ∧ Reps K F vs ds := by
  obtain ⟨a, vs, e, h1, h2⟩ := r
  refine ⟨a, vs, e, ?_, h2⟩
  cases k with
  | true => exact Same.rd s.fh h1
  | false => exact h1
/-- carried on to a later heap -/
theorem RSq.on {K : PySem.W.Frag} {k q : Bool} {G F H F2 H2 : Hp} {sd sd2 sd3 : SD} {σ : L2.St} {v : V} {ds : List D} (r : RSq K k G F sd H σ v ds) (hk : (k || q) = true) (t1 : Same F F2) (t2 : StR K pv G F2 sd2 σ H2) (t4 : q = true → Same H H2 ∧ sd2 = sd3) : ∃ a vs, v = .ref a ∧ Rd H2 a (.lst vs) ∧ Reps K F2 vs ds := by
  obtain ⟨a, vs, e, h1, h2⟩ := r
  refine ⟨a, vs, e, ?_, h2.mono t1⟩
  cases k with
  | true => exact Same.rd t2.fh (Same.rd t1 h1)
  | false => exact Same.rd (t4 (by simpa using hk)).1 h1
/-- l[i] -/
noncomputable def mAt (a : SD → ER (List D)) (b : SD → ER D) : SD → ER D := fun sd => (a sd).bind fun ds sd1 => (b sd1).bind fun y sd2 => match y with
  | .int i => ER.opt (atI ds i) sd2
  | _ => .bad
theorem dx_at {ma : SD → ER (List D)} {mb : SD → ER D} (ha : DQ X pv W p k a ma) (hb : DX X pv W q l b mb) (hk : (k || q) = true := by rfl) (hs : PlainIx b := by exact fun _ _ => rfl) : DX X pv W (p && q) true (.Subscript a b pos) (mAt ma mb) := by
  obtain ⟨ta, a1, a2⟩ := ha
  obtain ⟨tb, b1, b2⟩ := hb
  refine ⟨_, pe_ix ix_list a1 b1 hs, fun G F sd σ H Q s => ?_⟩
  refine Meets.bind (a2 G F sd σ H _ s) fun x F1 H1 ds sd1 s1 s2 s3 s4 => ?_
  refine Meets.bindL (b2 G F1 sd1 σ H1 _ s2) fun y F2 H2 dy sd2 t1 t2 t3 t4 => ?_
  have r := RSx.see t3 t2
  cases dy with
  | int i =>
    cases r
    show Meets X.K pv W G σ (RSx X.K true) true sd2 F2 H2 (ER.opt (atI ds i) sd2) Q _
    cases e : atI ds i with
    | none => exact True.intro
    | some c =>
      obtain ⟨aa, vs, rfl, h1, h2⟩ := s3.on hk t1 t2 t4
      obtain ⟨v, h3, h4⟩ := reps_at h2 e
      exact Meets.here t2 (show RSx X.K true G F2 sd2 H2 σ v c from h4) fun q => ⟨aa, vs, i, v, rfl, rfl, .inl h1, h3, q⟩
  | _ => exact True.intro
/-- l + m, a new list -/
noncomputable def mCat (a b : SD → ER (List D)) : SD → ER OT := fun sd => (a sd).bind fun xs sd1 => (b sd1).bind fun ys sd2 => if xs.length + ys.length ≤ 16777216 then .ok (.ol ((xs ++ ys).map .fz)) sd2 else .bad
end
end DL
namespace DL
open PySem PySem.Spec L2
open PyProof.Rows (Subscript_ tail_any)
section
variable {X : Cx} {pv : List V} {W : WX} {p q k l : Bool} {e a b c : Expr} {es : List Expr} {pos : Pos}
/-- a list's object by what may be read -/
theorem rd_list {pins : List (Addr × Obj)} {σ : L2.St} {H : Hp} {s : Shared} {a : Addr} {xs : List V} (I : Inv X pins σ H s) (h : Rd H a (.lst xs)) :
    xs.length ≤ sizeLine ∧ ∃ (its : List Value) (n : Nat), Vals xs its ∧ xs.length = its.length ∧ s.heap.get? a = some { cls := .type "list", data := .seq its.toArray n } := by
  obtain ⟨z, its, n, r, e⟩ := (show ObjOk X.prog X.w H s.heap a (.lst xs) from h.ok I.hok)
  exact ⟨z, its, n, r, r.length, e⟩
noncomputable def rCatR : R2 := fun x y H Q => ∃ l b xs zs, x = .ref l ∧ y = .ref b ∧ Rd H l (.lst xs) ∧ Rd H b (.lst zs) ∧ xs.length + zs.length ≤ sizeLine ∧ ∀ p, H p = none → Q (.ref p) (upd H p (.lst (xs ++ zs)))
theorem op_catR : OpR X (binaryOp .Add) rCatR := by
  intro pins s σ H x y v u Q I rx ry h
  obtain ⟨l, b, xs, zs, rfl, rfl, hH, hB, hz, q⟩ := h
  cases rx
  cases ry
  obtain ⟨z, its, n, r, hl, e⟩ := rd_list I hH
  obtain ⟨z2, its2, n2, r2, hl2, e2⟩ := rd_list I hB
  refine PySem.P.add_list e e2 ?_ (by rw [List.size_toArray, List.size_toArray]; omega)
  have ea : its.toArray ++ its2.toArray = (its ++ its2).toArray := by simp
  rw [ea]
  exact ⟨.ref _, _, I.lnew (t' := s.toks) (r.append r2) (by rw [List.length_append]; omega), rfl, q _ I.fresh⟩
theorem tr_cat {ta tb : TE} {ma mb : SD → ER (List D)} (ha : TrQ X.K pv W p k ta ma) (hb : TrQ X.K pv W q l tb mb) (hk : (k || q) = true) : TrO X.K pv W (p && q) (tOp rCatR ta tb) (mCat ma mb) := by
  intro G F sd σ H Q s
  refine Meets.bind (ha G F sd σ H _ s) fun x F1 H1 xs sd1 s1 s2 s3 s4 => ?_
  refine Meets.bindL (hb G F1 sd1 σ H1 _ s2) fun y F2 H2 ys sd2 t1 t2 t3 t4 => ?_
  split
  · rename_i hz
    intro hQ
    obtain ⟨aa, vs, rfl, h1, h2⟩ := s3.on hk t1 t2 t4
    obtain ⟨bb, ws, rfl, h3, h4⟩ := t3.see t2
    refine ⟨aa, bb, vs, ws, rfl, rfl, h1, h3, by rw [h2.length, h4.length, sizeLine_eq]; exact hz, fun p hp => ?_⟩
    have z := t2.newL hp (h2.append h4)
    exact hQ _ _ _ (Same.refl _) z.drop z fun _ => ⟨Same.upd hp, rfl⟩
  · exact True.intro
theorem do_cat {ma mb : SD → ER (List D)} (ha : DQ X pv W p k a ma) (hb : DQ X pv W q l b mb) (hk : (k || q) = true := by rfl) : DO X pv W (p && q) (.BinOp a .Add b pos) (mCat ma mb) := by
  obtain ⟨ta, a1, a2⟩ := ha
  obtain ⟨tb, b1, b2⟩ := hb
  exact ⟨_, pe_op op_catR a1 b1, tr_cat a2 b2 hk⟩
noncomputable def TrP (K : PySem.W.Frag) (pv : List V) (W : WX) (p : Bool) (to : TO) (m : SD → ER (Option Int)) : Prop := ∀ G F sd σ H Q, StR K pv G F sd σ H → Meets K pv W G σ (fun _ _ _ _ _ (v d : Option Int) => v = d) p sd F H (m sd) Q (to σ H Q)
structure DP (X : Cx) (pv : List V) (W : WX) (p : Bool) (e : Option Expr) (m : SD → ER (Option Int)) : Prop where
  ex : ∃ to, PO X e to ∧ TrP X.K pv W p to m
noncomputable def oNone : SD → ER (Option Int) := fun sd => .ok none sd
noncomputable def oSome (a : SD → ER D) : SD → ER (Option Int) := fun sd => (a sd).bind fun x sd1 => match x with
  | .int i => .ok (some i) sd1
  | _ => .bad
theorem dp_none : DP X pv W true none oNone := ⟨_, po_none, fun G F sd σ H Q s => Meets.here s rfl id⟩
theorem dp_some {m : SD → ER D} (h : DX X pv W p k e m) : DP X pv W p (some e) (oSome m) := by
  obtain ⟨te, a1, a2⟩ := h
  refine ⟨_, po_some a1, fun G F sd σ H Q s => ?_⟩
  refine Meets.bindL (a2 G F sd σ H _ s) fun x F1 H1 dx sd1 s1 s2 s3 s4 => ?_
  have r := RSx.see s3 s2
  cases dx with
  | int i =>
    cases r
    exact Meets.here s2 rfl fun q => ⟨i, rfl, q⟩
  | _ => exact True.intro
noncomputable def cutL {α : Type} (xs : List α) (lo hi : Option Int) : List α := (xs.drop (HT.sIx xs.length 0 lo)).take (HT.sIx xs.length xs.length hi - HT.sIx xs.length 0 lo)
theorem reps_cut {K : PySem.W.Frag} {F : Hp} {vs : List V} {ds : List D} (lo hi : Option Int) (r : Reps K F vs ds) : Reps K F (cutV vs lo hi) (cutL ds lo hi) := by
  unfold cutV cutL
  rw [r.length]
  exact (r.drop _).take _
/-- l[lo:hi], a new list -/
noncomputable def mCut (a : SD → ER (List D)) (lo hi : SD → ER (Option Int)) : SD → ER OT := fun sd => (a sd).bind fun xs sd1 => (lo sd1).bind fun i sd2 => (hi sd2).bind fun j sd3 => .ok (.ol ((cutL xs i j).map .fz)) sd3
theorem do_cut {lo hi : Option Expr} {p2 : Pos} {ma : SD → ER (List D)} {ml mh : SD → ER (Option Int)} {q1 q2 : Bool} (ha : DQ X pv W p k a ma) (hl : DP X pv W q1 lo ml) (hh : DP X pv W q2 hi mh) (hk : (k || (q1 && q2)) = true := by rfl) :
    DO X pv W (p && (q1 && q2)) (.Subscript a (.Slice lo hi none p2) pos) (mCut ma ml mh) := by
  obtain ⟨ta, a1, a2⟩ := ha
  obtain ⟨tl, b1, b2⟩ := hl
  obtain ⟨th, c1, c2⟩ := hh
  refine ⟨_, pe_slice sl_list a1 b1 c1, fun G F sd σ H Q s => ?_⟩
  refine Meets.bind (a2 G F sd σ H _ s) fun x F1 H1 xs sd1 s1 s2 s3 s4 => ?_
  refine Meets.bind (b2 G F1 sd1 σ H1 _ s2) fun i F2 H2 i' sd2 t1 t2 t3 t4 => ?_
  refine Meets.bindL (c2 G F2 sd2 σ H2 _ t2) fun j F3 H3 j' sd3 u1 u2 u3 u4 => ?_
  have t3 : i = i' := t3
  have u3 : j = j' := u3
  subst t3 u3
  intro hQ
  have s34 : (q1 && q2) = true → Same H1 H3 ∧ sd3 = sd1 := fun z => by
    rw [Bool.and_eq_true] at z
    obtain ⟨x1, x2⟩ := t4 z.1
    obtain ⟨y1, y2⟩ := u4 z.2
    exact ⟨x1.trans y1, y2.trans x2⟩
  obtain ⟨aa, vs, rfl, h1, h2⟩ := s3.on hk (t1.trans u1) u2 s34
  refine ⟨aa, vs, rfl, .inl h1, fun p hp => ?_⟩
  have z := u2.newL hp (reps_cut i j h2)
  exact hQ _ _ _ (Same.refl _) z.drop z fun _ => ⟨Same.upd hp, rfl⟩
/-- t[lo:hi] of a frozen list, a tuple, a text -/
noncomputable def mCutX (a : SD → ER D) (lo hi : SD → ER (Option Int)) : SD → ER D := fun sd => (a sd).bind fun x sd1 => (lo sd1).bind fun i sd2 => (hi sd2).bind fun j sd3 => match x with
  | .lst xs => .ok (.lst (cutL xs i j)) sd3
  | .tup xs => .ok (.tup (cutL xs i j)) sd3
  | .ktu xs => if HT.sIx xs.length 0 i = 0 ∧ HT.sIx xs.length xs.length j = xs.length then .bad else .ok (.tup (cutL xs i j)) sd3
  | .str z => if z.length ≤ 16777216 then .ok (.str (cutS z i j)) sd3 else .bad
  | _ => .bad
theorem cut_whole {α : Type} {xs : List α} {lo hi : Option Int} (h : HT.sIx xs.length 0 lo = 0 ∧ HT.sIx xs.length xs.length hi = xs.length) : cutL xs lo hi = xs := by
  unfold cutL
  rw [h.1, h.2]
  simp
theorem sl_any : SlR X (fun x lo hi H Q => rSlL X.K x lo hi H Q ∨ (rSlA X.K x lo hi H Q ∨ rSlS x lo hi H Q)) := sl_list.or (sl_tupA.or sl_str)
theorem dx_cut {lo hi : Option Expr} {p2 : Pos} {ma : SD → ER D} {ml mh : SD → ER (Option Int)} {q1 q2 : Bool} (ha : DX X pv W p true a ma) (hl : DP X pv W q1 lo ml) (hh : DP X pv W q2 hi mh) :
    DX X pv W (p && (q1 && q2)) true (.Subscript a (.Slice lo hi none p2) pos) (mCutX ma ml mh) := by
  obtain ⟨ta, a1, a2⟩ := ha
  obtain ⟨tl, b1, b2⟩ := hl
  obtain ⟨th, c1, c2⟩ := hh
  refine ⟨_, pe_slice sl_any a1 b1 c1, fun G F sd σ H Q s => ?_⟩
  refine Meets.bind (a2 G F sd σ H _ s) fun x F1 H1 dx sd1 s1 s2 s3 s4 => ?_
  refine Meets.bind (b2 G F1 sd1 σ H1 _ s2) fun i F2 H2 i' sd2 t1 t2 t3 t4 => ?_
  refine Meets.bindL (c2 G F2 sd2 σ H2 _ t2) fun j F3 H3 j' sd3 u1 u2 u3 u4 => ?_
  have t3 : i = i' := t3
  have u3 : j = j' := u3
  subst t3 u3
  have rx : Rep X.K F3 x dx := Rep.mono (t1.trans u1) (show Rep X.K F1 x dx from s3)
  cases dx with
  | lst xs =>
    intro hQ
    cases rx with
    | @lst aa vs _ h1 h2 =>
      refine .inl ⟨aa, vs, rfl, .inl (Same.rd u2.fh h1), fun p hp => ?_⟩
      exact hQ _ _ _ (u2.sameNew hp) (u2.new hp) (.lst (.inl upd_same) ((reps_cut i j h2).mono (u2.sameNew hp))) fun _ => ⟨Same.upd hp, rfl⟩
  | tup xs =>
    intro hQ
    cases rx with
    | @tup aa vs _ h1 h2 =>
      refine .inr (.inl ⟨aa, vs, rfl, .inl (.inl (u2.fh _ _ h1)), fun hw => ?_, fun hw p hp => ?_⟩)
      · refine hQ _ _ _ (Same.refl _) u2 ?_ fun _ => ⟨Same.refl _, rfl⟩
        rw [h2.length] at hw
        rw [cut_whole hw]
        exact .tup h1 h2
      · exact hQ _ _ _ (u2.sameNew hp) (u2.new hp) (.tup upd_same ((reps_cut i j h2).mono (u2.sameNew hp))) fun _ => ⟨Same.upd hp, rfl⟩
  | ktu xs =>
    show Meets X.K pv W G σ (RSx X.K true) true sd3 F3 H3 (if HT.sIx xs.length 0 i = 0 ∧ HT.sIx xs.length xs.length j = xs.length then .bad else .ok (.tup (cutL xs i j)) sd3) Q _
    split
    · exact True.intro
    · rename_i hnw
      intro hQ
      cases rx with
      | @ktu aa vs _ h1 h2 =>
        refine .inr (.inl ⟨aa, vs, rfl, Same.sqt u2.fh h1, fun hw => absurd (by rw [h2.length] at hw; exact hw) hnw, fun hw p hp => ?_⟩)
        exact hQ _ _ _ (u2.sameNew hp) (u2.new hp) (.tup upd_same ((reps_cut i j h2).mono (u2.sameNew hp))) fun _ => ⟨Same.upd hp, rfl⟩
  | str z =>
    cases rx
    show Meets X.K pv W G σ (RSx X.K true) true sd3 F3 H3 (if z.length ≤ 16777216 then .ok (.str (cutS z i j)) sd3 else .bad) Q _
    split
    · rename_i hz
      exact Meets.here u2 (show RSx X.K true G F3 sd3 H3 σ _ _ from .str _) fun q => .inr (.inr ⟨z, rfl, by rw [sizeLine_eq]; exact hz, q⟩)
    · exact True.intro
  | _ => exact True.intro
end
end DL
namespace DL
open PySem PySem.Spec L2
noncomputable def Wants (K : PySem.W.Frag) (pv : List V) (W : WX) (G F : Hp) (r : Fl) (D : Ends) : Prop :=
  match r with
  | .nx sd' => ∀ F' σ' H', Same F F' → StR K pv G F' sd' σ' H' → D.nx σ' H'
  | .rt t sd' => ∀ v F' σ' H', Same F F' → StR1 K pv G F' sd' σ' H' v t → D.rt v H'
  | .bk sd' => ∀ F' σ' H', Same F F' → StR K pv G F' sd' σ' H' → D.bk σ' H'
  | .ct sd' => ∀ F' σ' H', Same F F' → StR K pv G F' sd' σ' H' → D.ct σ' H'
  | .rz x sd' => ∀ cls dd F' σ' H', Same F F' → StR K pv G F' sd' σ' H' → RepX K F' cls dd x → W cls dd σ' H'
  | .bad => False
section
variable {K : PySem.W.Frag} {pv : List V} {W : WX} {G F F1 : Hp} {r : Fl} {D : Ends} {P : Prop}
theorem meetsS_of (h : Wants K pv W G F r D → P) : MeetsS K pv W G F r D P := by
  cases r with
  | bad => exact True.intro
  | _ => exact h
theorem MeetsS.get (h : MeetsS K pv W G F r D P) (w : Wants K pv W G F r D) : P := by
  cases r with
  | bad => exact w.elim
  | _ => exact h w
theorem Wants.mono (e : Same F F1) (w : Wants K pv W G F r D) : Wants K pv W G F1 r D := by
  cases r with
  | bad => exact w
  | nx sd => exact fun F' σ' H' s => w F' σ' H' (e.trans s)
  | bk sd => exact fun F' σ' H' s => w F' σ' H' (e.trans s)
  | ct sd => exact fun F' σ' H' s => w F' σ' H' (e.trans s)
  | rt t sd => exact fun v F' σ' H' s => w v F' σ' H' (e.trans s)
  | rz x sd => exact fun c d F' σ' H' s => w c d F' σ' H' (e.trans s)
end
noncomputable def wipeS (l : List S) : List Nat → List S
  | [] => l
  | v :: vs => (wipeS l vs).set v .un
noncomputable def SD.wipe (sd : SD) (vs : List Nat) : SD := { sd with sl := wipeS sd.sl vs }
noncomputable def backS (l orig : List S) : List Nat → List S
  | [] => l
  | v :: vs => (backS l orig vs).set v ((orig[v]?).getD .un)
noncomputable def SD.back (sd orig : SD) (vs : List Nat) : SD := { sd with sl := backS sd.sl orig.sl vs }
theorem wipeS_length (l : List S) : ∀ vs : List Nat, (wipeS l vs).length = l.length
  | [] => rfl
  | v :: vs => by unfold wipeS; rw [List.length_set, wipeS_length l vs]
theorem backS_length (l o : List S) : ∀ vs : List Nat, (backS l o vs).length = l.length
  | [] => rfl
  | v :: vs => by unfold backS; rw [List.length_set, backS_length l o vs]
theorem wipeS_in {l : List S} {i : Nat} : ∀ {vs : List Nat}, i ∈ vs → i < l.length → (wipeS l vs)[i]? = some .un
  | v :: vs, h, hl => by
    unfold wipeS
    by_cases e : v = i
    · subst e
      rw [List.getElem?_set_self (by rw [wipeS_length]; exact hl)]
    · rw [List.getElem?_set_ne e]
      exact wipeS_in ((List.mem_cons.mp h).resolve_left (fun z => e z.symm)) hl
theorem wipeS_out {l : List S} {i : Nat} : ∀ {vs : List Nat}, i ∉ vs → (wipeS l vs)[i]? = l[i]?
  | [], _ => rfl
  | v :: vs, h => by
    unfold wipeS
    rw [List.getElem?_set_ne (fun z => h (by rw [z]; exact List.mem_cons_self))]
    exact wipeS_out fun z => h (List.mem_cons_of_mem _ z)
theorem backS_in {l o : List S} {i : Nat} : ∀ {vs : List Nat}, i ∈ vs → i < l.length → (backS l o vs)[i]? = some ((o[i]?).getD .un)
  | v :: vs, h, hl => by
    unfold backS
    by_cases e : v = i
    · subst e
      rw [List.getElem?_set_self (by rw [backS_length]; exact hl)]
    · rw [List.getElem?_set_ne e]
      exact backS_in ((List.mem_cons.mp h).resolve_left (fun z => e z.symm)) hl
theorem backS_out {l o : List S} {i : Nat} : ∀ {vs : List Nat}, i ∉ vs → (backS l o vs)[i]? = l[i]?
  | [], _ => rfl
  | v :: vs, h => by
    unfold backS
    rw [List.getElem?_set_ne (fun z => h (by rw [z]; exact List.mem_cons_self))]
    exact backS_out fun z => h (List.mem_cons_of_mem _ z)
theorem wipeS_set {l : List S} {i : Nat} {x : S} {vs : List Nat} (h : i ∈ vs) : wipeS (l.set i x) vs = wipeS l vs := by
  refine List.ext_getElem? fun j => ?_
  by_cases hj : j ∈ vs
  · by_cases hl : j < l.length
    · rw [wipeS_in hj (by rw [List.length_set]; exact hl), wipeS_in hj hl]
    · rw [List.getElem?_eq_none (by rw [wipeS_length, List.length_set]; omega), List.getElem?_eq_none (by rw [wipeS_length]; omega)]
  · rw [wipeS_out hj, wipeS_out hj, List.getElem?_set_ne (fun z => hj (by rw [← z]; exact h))]
theorem wipe_set {σ : L2.St} {i : Nat} {v : Option V} : ∀ {vs : List Nat}, i ∈ vs → wipe (σ.set i v) vs = wipe σ vs
  | [], h => by cases h
  | j :: vs, h => by
    unfold wipe
    by_cases hj : i ∈ vs
    · rw [wipe_set hj]
    · have e : i = j := by
        rcases List.mem_cons.mp h with e | h
        · exact e
        · exact absurd h hj
      subst e
      have go : ∀ (us : List Nat), i ∉ us → wipe (σ.set i v) us = (wipe σ us).set i v := fun us => by
        induction us with
        | nil => intro _; rfl
        | cons u us ih =>
          intro hn
          unfold wipe
          rw [ih fun z => hn (List.mem_cons_of_mem _ z), List.set_comm _ _ (fun z => hn (by rw [z]; exact List.mem_cons_self))]
      rw [go vs hj, List.set_set]
structure DG (X : Cx) (is : List Nat) (tg : Expr) (g : D → SD → Option SD) : Prop where
  ex : ∃ t, PG X tg t ∧ ∀ (pv : List V) (G F : Hp) (sd : SD) (σ : L2.St) (H : Hp) (x : V) (d : D) (sd' : SD), StR X.K pv G F sd σ H → Rep X.K F x d → g d sd = some sd' →
    ∃ σ', StR X.K pv G F sd' σ' H ∧ (∀ vs : List Nat, (∀ i ∈ is, i ∈ vs) → wipe σ' vs = wipe σ vs) ∧ ∀ Q : L2.St → Hp → Prop, Q σ' H → t x σ H Q
  wip : ∀ (vs : List Nat), (∀ i ∈ is, i ∈ vs) → ∀ d sd sd', g d sd = some sd' → SD.wipe sd' vs = SD.wipe sd vs
structure DGs (X : Cx) (is : List Nat) (tgs : List Expr) (g : List D → SD → Option SD) : Prop where
  ex : ∃ t, PGs X tgs t ∧ ∀ (pv : List V) (G F : Hp) (sd : SD) (σ : L2.St) (H : Hp) (xs : List V) (ds : List D) (sd' : SD), StR X.K pv G F sd σ H → Reps X.K F xs ds → g ds sd = some sd' →
    ∃ σ', StR X.K pv G F sd' σ' H ∧ (∀ vs : List Nat, (∀ i ∈ is, i ∈ vs) → wipe σ' vs = wipe σ vs) ∧ ∀ Q : L2.St → Hp → Prop, Q σ' H → t xs σ H Q
  wip : ∀ (vs : List Nat), (∀ i ∈ is, i ∈ vs) → ∀ d sd sd', g d sd = some sd' → SD.wipe sd' vs = SD.wipe sd vs
noncomputable def SD.putFz (sd : SD) (i : Nat) (d : D) : Option SD := if i < sd.sl.length then some { sd with sl := sd.sl.set i (.ow (.fz d)) } else none
noncomputable def tgN (i : Nat) : D → SD → Option SD := fun d sd => sd.putFz i d
noncomputable def tgNil : List D → SD → Option SD := fun ds sd => match ds with
  | [] => some sd
  | _ => none
noncomputable def tgCons (g : D → SD → Option SD) (h : List D → SD → Option SD) : List D → SD → Option SD := fun ds sd => match ds with
  | d :: r => (g d sd).bind fun sd1 => h r sd1
  | [] => none
noncomputable def tgT (n : Nat) (h : List D → SD → Option SD) : D → SD → Option SD := fun d sd => match d with
  | .tup ds => if ds.length = n then h ds sd else none
  | .ktu ds => if ds.length = n then h ds sd else none
  | _ => none
section
variable {X : Cx} {pos : Pos}
theorem dg_name {i : Nat} {x : Str} (hN : X.N.Nodup) (hi : X.N[i]? = some x) (hx : Loc X.env.scope x) (hf : X.fn x = true ∨ X.env.scope.names.lookup x = some .local := by first | exact .inl rfl | exact .inr rfl | assumption) : DG X [i] (.Name x pos) (tgN i) := by
  refine ⟨⟨_, pg_name hN hi hx hf, fun pv G F sd σ H x d sd' s r e => ?_⟩, fun vs h d sd sd' e => ?_⟩
  · unfold tgN SD.putFz at e
    split at e
    · rename_i hl
      cases e
      exact ⟨_, (StR1.fz s r).store hl, fun vs h => wipe_set (h i List.mem_cons_self), fun Q q => q⟩
    · cases e
  · unfold tgN SD.putFz at e
    split at e
    · cases e
      show SD.mk (wipeS (sd.sl.set i _) vs) sd.pa = SD.mk (wipeS sd.sl vs) sd.pa
      rw [wipeS_set (h i List.mem_cons_self)]
    · cases e
theorem dgs_nil : DGs X [] [] tgNil := by
  refine ⟨⟨_, pgs_nil, fun pv G F sd σ H xs ds sd' s r e => ?_⟩, fun vs h d sd sd' e => ?_⟩
  · unfold tgNil at e
    cases r with
    | nil => cases e; exact ⟨σ, s, fun _ _ => rfl, fun Q q => ⟨rfl, q⟩⟩
    | cons _ _ => cases e
  · unfold tgNil at e
    cases d with
    | nil => cases e; rfl
    | cons _ _ => cases e
theorem dgs_cons {is js : List Nat} {e : Expr} {es : List Expr} {g : D → SD → Option SD} {h : List D → SD → Option SD} (h1 : DG X is e g) (h2 : DGs X js es h)
    (hs : (assignEach (e :: es) X.env).map (·.2) = assign e X.env :: (assignEach es X.env).map (·.2) := by rfl) : DGs X (is ++ js) (e :: es) (tgCons g h) := by
  obtain ⟨⟨t, a1, a2⟩, a3⟩ := h1
  obtain ⟨⟨u, b1, b2⟩, b3⟩ := h2
  refine ⟨⟨_, pgs_cons a1 b1 hs, fun pv G F sd σ H xs ds sd' s r e => ?_⟩, fun vs hv d sd sd' e => ?_⟩
  · cases r with
    | nil => cases e
    | cons r rr =>
      obtain ⟨sd1, e1, e2⟩ := Option.bind_eq_some_iff.mp e
      obtain ⟨σ1, s1, w1, k1⟩ := a2 pv G F sd σ H _ _ sd1 s r e1
      obtain ⟨σ2, s2, w2, k2⟩ := b2 pv G F sd1 σ1 H _ _ sd' s1 rr e2
      exact ⟨σ2, s2, fun vs hv => (w2 vs fun i hi => hv i (List.mem_append_right _ hi)).trans (w1 vs fun i hi => hv i (List.mem_append_left _ hi)), fun Q q => ⟨_, _, rfl, k1 _ (k2 Q q)⟩⟩
  · cases d with
    | nil => cases e
    | cons d ds =>
      obtain ⟨sd1, e1, e2⟩ := Option.bind_eq_some_iff.mp e
      rw [b3 vs (fun i hi => hv i (List.mem_append_right _ hi)) _ _ _ e2, a3 vs (fun i hi => hv i (List.mem_append_left _ hi)) _ _ _ e1]
theorem dg_tup {is : List Nat} {es : List Expr} {kk n : Nat} {h : List D → SD → Option SD} (hc : X.calm = true) (h1 : DGs X is es h)
    (hn : (assignEach es X.env).length = n := by rfl) (hst : (assignEach es X.env).findIdx? (·.1) = none := by rfl) : DG X is (.Tuple es kk pos) (tgT n h) := by
  obtain ⟨⟨t, a1, a2⟩, a3⟩ := h1
  refine ⟨⟨_, pg_tup hc a1 hn hst, fun pv G F sd σ H x d sd' s r e => ?_⟩, fun vs hv d sd sd' e => ?_⟩
  · unfold tgT at e
    cases d with
    | tup ds =>
      have e : (if ds.length = n then h ds sd else none) = some sd' := e
      split at e
      · rename_i hl
        cases r with
        | @tup a vs _ q rr =>
          obtain ⟨σ1, s1, w1, k1⟩ := a2 pv G F sd σ H _ _ sd' s rr e
          exact ⟨σ1, s1, w1, fun Q q' => ⟨a, vs, rfl, .inl (.inl (s.fh _ _ q)), by rw [rr.length]; exact hl, k1 Q q'⟩⟩
      · cases e
    | ktu ds =>
      have e : (if ds.length = n then h ds sd else none) = some sd' := e
      split at e
      · rename_i hl
        cases r with
        | @ktu a vs _ q rr =>
          obtain ⟨σ1, s1, w1, k1⟩ := a2 pv G F sd σ H _ _ sd' s rr e
          exact ⟨σ1, s1, w1, fun Q q' => ⟨a, vs, rfl, Same.sqt s.fh q, by rw [rr.length]; exact hl, k1 Q q'⟩⟩
      · cases e
    | _ => cases e
  · unfold tgT at e
    cases d with
    | tup ds =>
      have e : (if ds.length = n then h ds sd else none) = some sd' := e
      split at e
      · exact a3 vs hv _ _ _ e
      · cases e
    | ktu ds =>
      have e : (if ds.length = n then h ds sd else none) = some sd' := e
      split at e
      · exact a3 vs hv _ _ _ e
      · cases e
    | _ => cases e
end
structure Walk (K : PySem.W.Frag) (J : It) (F : Hp) (ds : List D) : Prop where
  stop : ∀ F' H', Same F F' → Same F' H' → J.stop ds.length H'
  go : ∀ F' H' i d, Same F F' → Same F' H' → ds[i]? = some d → J.go i H'
  yld : ∀ F' H' i d x H'', Same F F' → Same F' H' → ds[i]? = some d → J.yld i H' x H'' → (H'' = H' ∧ Rep K F' x d) ∨ ∃ T vs es, x = .ref T ∧ d = .tup es ∧ H' T = none ∧ H'' = upd H' T (.tup vs) ∧ Reps K F' vs es
noncomputable def RSw (K : PySem.W.Frag) : RSt It (List D) := fun _ F _ _ _ J ds => Walk K J F ds
noncomputable def TrI (K : PySem.W.Frag) (pv : List V) (W : WX) (p : Bool) (wi : TI) (m : SD → ER (List D)) : Prop := ∀ G F sd σ H R, StR K pv G F sd σ H → Meets K pv W G σ (RSw K) p sd F H (m sd) R (wi σ H R)
structure DI (X : Cx) (pv : List V) (W : WX) (p : Bool) (tg iter : Expr) (m : SD → ER (List D)) : Prop where
  ex : ∃ wi, PI X tg iter wi ∧ TrI X.K pv W p wi m
noncomputable def iLst (a : SD → ER D) : SD → ER (List D) := fun sd => (a sd).bind fun x sd1 => match x with
  | .lst ds => .ok ds sd1
  | .scr ns => .ok (ns.map .int) sd1
  | _ => .bad
noncomputable def iTuP (a : SD → ER D) : SD → ER (List D) := fun sd => (a sd).bind fun x sd1 => match x with
  | .tup ds => .ok ds sd1
  | _ => .bad
noncomputable def rangeD (lo : Int) (n : Nat) : List D := (List.range n).map fun (i : Nat) => D.int (lo + (i : Int))
noncomputable def iRange1 (a : SD → ER (List D)) : SD → ER (List D) := fun sd => (a sd).bind fun xs sd1 => match xs with
  | [.int j] => if -(2 ^ 62) ≤ j ∧ j < 2 ^ 62 then .ok (rangeD 0 j.toNat) sd1 else .bad
  | _ => .bad
noncomputable def iRange2 (a : SD → ER (List D)) : SD → ER (List D) := fun sd => (a sd).bind fun xs sd1 => match xs with
  | [.int i, .int j] => if -(2 ^ 62) ≤ i ∧ i < 2 ^ 62 ∧ -(2 ^ 62) ≤ j ∧ j < 2 ^ 62 then .ok (rangeD i (j - i).toNat) sd1 else .bad
  | _ => .bad
noncomputable def iZip2 (a : SD → ER (List D)) : SD → ER (List D) := fun sd => (a sd).bind fun xs sd1 => match xs with
  | [.lst xs, .lst ys] => .ok ((xs.zip ys).map fun p => .tup [p.1, p.2]) sd1
  | _ => .bad
noncomputable def iEnumL (a : SD → ER (List D)) : SD → ER (List D) := fun sd => (a sd).bind fun xs sd1 => match xs with
  | [.lst xs] => .ok (xs.zipIdx.map fun p => .tup [.int (p.2 : Int), p.1]) sd1
  | _ => .bad
section
variable {K : PySem.W.Frag} {F H : Hp}
theorem walk_list {a : Addr} {vs : List V} {ds : List D} (h : SqL K F a vs) (r : Reps K F vs ds) : Walk K (Itl K a) F ds where
  stop := fun F' H' e1 e2 => ⟨vs, (e1.trans e2).seq h, by rw [r.length]; exact Nat.le_refl _⟩
  go := fun F' H' i d e1 e2 hd => by
    obtain ⟨v, h1, _⟩ := r.get hd
    exact ⟨vs, v, (e1.trans e2).seq h, h1⟩
  yld := fun F' H' i d x H'' e1 e2 hd ⟨hH, hx⟩ => by
    obtain ⟨v, h1, h2⟩ := r.get hd
    have := hx vs ((e1.trans e2).seq h)
    rw [h1] at this; cases this
    exact .inl ⟨hH, h2.mono e1⟩
theorem walk_tup {a : Addr} {vs : List V} {ds : List D} (h : SqT K F a vs) (r : Reps K F vs ds) : Walk K (Itt K a) F ds where
  stop := fun F' H' e1 e2 => ⟨vs, Same.sqt (e1.trans e2) h, by rw [r.length]; exact Nat.le_refl _⟩
  go := fun F' H' i d e1 e2 hd => by
    obtain ⟨v, h1, _⟩ := r.get hd
    exact ⟨vs, v, Same.sqt (e1.trans e2) h, h1⟩
  yld := fun F' H' i d x H'' e1 e2 hd ⟨hH, hx⟩ => by
    obtain ⟨v, h1, h2⟩ := r.get hd
    have := hx vs (Same.sqt (e1.trans e2) h)
    rw [h1] at this; cases this
    exact .inl ⟨hH, h2.mono e1⟩
theorem rangeD_get {lo : Int} {n i : Nat} {d : D} (h : (rangeD lo n)[i]? = some d) : i < n ∧ d = .int (lo + i) := by
  unfold rangeD at h
  rw [List.getElem?_map] at h
  obtain ⟨j, h1, h2⟩ := Option.map_eq_some_iff.mp h
  obtain ⟨hi, e⟩ := List.getElem?_eq_some_iff.mp h1
  rw [List.getElem_range] at e
  rw [List.length_range] at hi
  subst e
  exact ⟨hi, h2.symm⟩
theorem rangeD_length (lo : Int) (n : Nat) : (rangeD lo n).length = n := by unfold rangeD; rw [List.length_map, List.length_range]
theorem walk_range (lo : Int) (n : Nat) : Walk K (Itr lo n) F (rangeD lo n) where
  stop := fun F' H' _ _ => by rw [rangeD_length]; exact Nat.le_refl n
  go := fun F' H' i d _ _ hd => (rangeD_get hd).1
  yld := fun F' H' i d x H'' _ _ hd ⟨hH, hx⟩ => by
    rw [hx, (rangeD_get hd).2]
    exact .inl ⟨hH, .int _⟩
theorem walk_enum {a : Addr} {vs : List V} {ds : List D} (h : SqL K F a vs) (r : Reps K F vs ds) : Walk K (Ite K a) F (ds.zipIdx.map fun p => .tup [.int (p.2 : Int), p.1]) where
  stop := fun F' H' e1 e2 => ⟨vs, (e1.trans e2).seq h, by rw [List.length_map, List.length_zipIdx, r.length]; exact Nat.le_refl _⟩
  go := fun F' H' i d e1 e2 hd => by
    rw [List.getElem?_map] at hd
    obtain ⟨⟨d1, j⟩, h1, _⟩ := Option.map_eq_some_iff.mp hd
    rw [List.getElem?_zipIdx] at h1
    obtain ⟨d', h2, _⟩ := Option.map_eq_some_iff.mp h1
    obtain ⟨v, k1, _⟩ := r.get h2
    exact ⟨vs, v, (e1.trans e2).seq h, k1⟩
  yld := fun F' H' i d x H'' e1 e2 hd ⟨T, y, hx, hT, hH, q⟩ => by
    rw [List.getElem?_map] at hd
    obtain ⟨⟨d1, j⟩, h1, hd⟩ := Option.map_eq_some_iff.mp hd
    rw [List.getElem?_zipIdx] at h1
    obtain ⟨d', h2, h3⟩ := Option.map_eq_some_iff.mp h1
    cases h3
    obtain ⟨v, k1, k3⟩ := r.get h2
    have a1 := q vs ((e1.trans e2).seq h)
    rw [k1] at a1; cases a1
    refine .inr ⟨T, [.int (i : Nat), y], [.int (i : Nat), d1], hx, ?_, hT, hH, .cons (.int _) (.cons (k3.mono e1) .nil)⟩
    rw [← hd]; simp
end
section
variable {X : Cx} {pv : List V} {W : WX} {p q k l : Bool} {tg e a b c : Expr} {es : List Expr} {pos pp : Pos}
theorem di_list {m : SD → ER D} (h : DX X pv W p true e m) : DI X pv W p tg e (iLst m) := by
  obtain ⟨te, a1, a2⟩ := h
  refine ⟨_, pi_list a1, fun G F sd σ H R s => ?_⟩
  refine Meets.bindL (a2 G F sd σ H _ s) fun x F1 H1 dx sd1 s1 s2 s3 s4 => ?_
  have s3 : Rep X.K F1 x dx := s3
  cases dx with
  | lst ds =>
    cases s3 with
    | @lst aa vs _ h1 h2 =>
      exact Meets.here s2 (show RSw X.K G F1 sd1 H1 σ (Itl X.K aa) ds from walk_list (.inl h1) h2) fun q => ⟨aa, rfl, ⟨vs, .inl (Same.rd s2.fh h1)⟩, q⟩
  | scr ns =>
    cases s3 with
    | @scr aa _ h1 =>
      exact Meets.here s2 (show RSw X.K G F1 sd1 H1 σ (Itl X.K aa) (ns.map .int) from walk_list h1 (Reps.ints ns)) fun q => ⟨aa, rfl, ⟨_, s2.fh.seq h1⟩, q⟩
  | _ => exact True.intro
theorem di_tup {m : SD → ER D} (h : DX X pv W p true e m) : DI X pv W p tg e (iTuP m) := by
  obtain ⟨te, a1, a2⟩ := h
  refine ⟨_, pi_tup a1, fun G F sd σ H R s => ?_⟩
  refine Meets.bindL (a2 G F sd σ H _ s) fun x F1 H1 dx sd1 s1 s2 s3 s4 => ?_
  have s3 : Rep X.K F1 x dx := s3
  cases dx with
  | tup ds =>
    cases s3 with
    | @tup aa vs _ h1 h2 =>
      exact Meets.here s2 (show RSw X.K G F1 sd1 H1 σ (Itt X.K aa) ds from walk_tup (.inl (.inl h1)) h2) fun q => ⟨aa, rfl, ⟨vs, .inl (.inl (s2.fh _ _ h1))⟩, q⟩
  | _ => exact True.intro
theorem di_range1 {m : SD → ER (List D)} (hg : Gl X "range") (hm : X.mg "range" = none) (ha : DA X pv W p k [a] m) (hs : starEach [a] X.env = [(false, eval a X.env)] := by rfl) : DI X pv W p tg (.Call (.Name "range" pp) [a] [] pos) (iRange1 m) := by
  obtain ⟨ta, a1, a2⟩ := ha
  refine ⟨_, pi_range1 hg hm a1 hs, fun G F sd σ H R s => ?_⟩
  refine Meets.bindL (a2 G F sd σ H _ s) fun xs F1 H1 ds sd1 s1 s2 s3 s4 => ?_
  have r := RSl.see s3 s2
  split
  · rename_i j
    obtain ⟨v, rfl, r1⟩ := reps1 r
    cases r1
    split
    · rename_i hj
      exact Meets.here s2 (show RSw X.K G F1 sd1 H1 σ _ _ from walk_range 0 j.toNat) fun q => ⟨j, rfl, hj.1, hj.2, q⟩
    · exact True.intro
  · exact True.intro
theorem di_enum {elts : List Expr} {kk : Nat} {tpos : Pos} {m : SD → ER (List D)} (hg : Gl X "enumerate") (hm : X.mg "enumerate" = none) (ha : DA X pv W p true [a] m)
    (hs : starEach [a] X.env = [(false, eval a X.env)] := by rfl) : DI X pv W p (.Tuple elts kk tpos) (.Call (.Name "enumerate" pp) [a] [] pos) (iEnumL m) := by
  obtain ⟨ta, a1, a2⟩ := ha
  refine ⟨_, pi_enum hg hm a1 hs, fun G F sd σ H R s => ?_⟩
  refine Meets.bindL (a2 G F sd σ H _ s) fun xs F1 H1 ds sd1 s1 s2 s3 s4 => ?_
  have r : Reps X.K F1 xs ds := s3
  split
  · obtain ⟨v, rfl, r1⟩ := reps1 r
    cases r1 with
    | @lst aa vs _ h1 h2 =>
      exact Meets.here s2 (show RSw X.K G F1 sd1 H1 σ _ _ from walk_enum (.inl h1) h2) fun q => ⟨aa, vs, rfl, .inl (Same.rd s2.fh h1), q⟩
  · exact True.intro
end
noncomputable def goFor (g : D → SD → Option SD) (body : SD → Fl) : List D → SD → Fl
  | [], sd => .nx sd
  | d :: ds, sd => match g d sd with
    | none => .bad
    | some sd1 => match body sd1 with
      | .nx sd2 => goFor g body ds sd2
      | .ct sd2 => goFor g body ds sd2
      | .bk sd2 => .nx sd2
      | r => r
noncomputable def sFor (it : SD → ER (List D)) (g : D → SD → Option SD) (body : SD → Fl) : SD → Fl := fun sd => (it sd).stm fun ds sd1 => goFor g body ds sd1
section
variable {X : Cx} {pv : List V} {W : WX} {p q k l : Bool} {pos : Pos}
theorem drop_at {α : Type} {l : List α} {i : Nat} {x : α} (h : l[i]? = some x) : l.drop i = x :: l.drop (i + 1) := by
  obtain ⟨hi, e⟩ := List.getElem?_eq_some_iff.mp h
  rw [← e]
  exact List.drop_eq_getElem_cons hi
theorem ds_for {is : List Nat} {tg iter : Expr} {body : List Stmt} {mi : SD → ER (List D)} {g : D → SD → Option SD} {mb : SD → Fl} (hp : PassesOwn (model X.prog X.w) X.A X.env X.xe) (hc : X.calm = true) (hi : DI X pv W p tg iter mi) (hg : DG X is tg g) (hb : DSs X pv W body mb)
    (hs : ∀ x, foldedSetIterable iter X.env x = pure x := by intro _; rfl) : DS X pv W (.For tg iter body [] pos) (sFor mi g mb) := by
  obtain ⟨wi, a1, a2⟩ := hi
  obtain ⟨⟨t, b1, b2⟩, _⟩ := hg
  obtain ⟨tb, c1, c2⟩ := hb
  refine ⟨_, ps_for hp hc a1 b1 c1 hs, fun G F sd σ H D s => ?_⟩
  refine Meets.stm (a2 G F sd σ H _ s) fun J F1 H1 ds sd1 s1 s2 s3 => ?_
  refine meetsS_of fun w => ?_
  have wk : Walk X.K J F1 ds := s3
  refine ⟨fun i m σ H => m = ds.length - i ∧ i ≤ ds.length ∧ ∃ F' sd', Same F1 F' ∧ StR X.K pv G F' sd' σ H ∧ Wants X.K pv W G F' (goFor g mb (ds.drop i) sd') D, ⟨ds.length, by simp, Nat.zero_le _, F1, sd1, Same.refl _, s2, w⟩, ?_⟩
  rintro i m σ H ⟨rfl, hi, F', sd', f1, st, wt⟩
  by_cases hlt : i < ds.length
  · have hd : ds[i]? = some ds[i] := by simp [hlt]
    refine .inr ⟨wk.go F' H i _ f1 st.fh hd, fun σ' H' => ∃ F'' sd'', Same F1 F'' ∧ StR X.K pv G F'' sd'' σ' H' ∧ Wants X.K pv W G F'' (goFor g mb (ds.drop (i + 1)) sd'') D, fun σ' H' q => ⟨ds.length - (i + 1), by omega, rfl, hlt, q⟩, fun x H' y => ?_⟩
    rw [drop_at hd] at wt
    have main : ∀ F2 H2, Same F' F2 → StR X.K pv G F2 sd' σ H2 → Rep X.K F2 x ds[i] → t x σ H2 fun σ2 H2 => tb { D with nx := fun σ' H' => ∃ F'' sd'', Same F1 F'' ∧ StR X.K pv G F'' sd'' σ' H' ∧ Wants X.K pv W G F'' (goFor g mb (ds.drop (i + 1)) sd'') D, ct := fun σ' H' => ∃ F'' sd'', Same F1 F'' ∧ StR X.K pv G F'' sd'' σ' H' ∧ Wants X.K pv W G F'' (goFor g mb (ds.drop (i + 1)) sd'') D, bk := D.nx } σ2 H2 := fun F2 H2 f2 st2 rx => by
      rw [goFor] at wt
      cases eg : g ds[i] sd' with
      | none => rw [eg] at wt; exact wt.elim
      | some sd2 =>
        rw [eg] at wt
        dsimp only at wt
        obtain ⟨σ2, k1, _, k2⟩ := b2 pv G F2 sd' σ H2 x _ sd2 st2 rx eg
        refine k2 _ (MeetsS.get (c2 G F2 sd2 σ2 H2 _ k1) ?_)
        have wt := wt.mono f2
        revert wt
        cases mb sd2 with
        | bad => exact id
        | nx sd3 => exact fun wt F3 σ3 H3 e3 st3 => ⟨F3, sd3, (f1.trans f2).trans e3, st3, wt.mono e3⟩
        | ct sd3 => exact fun wt F3 σ3 H3 e3 st3 => ⟨F3, sd3, (f1.trans f2).trans e3, st3, wt.mono e3⟩
        | bk sd3 => exact id
        | rt tt sd3 => exact id
        | rz y sd3 => exact id
    rcases wk.yld F' H i _ x H' f1 st.fh hd y with ⟨rfl, rx⟩ | ⟨T, vs, es, rfl, ed, hT, rfl, rr⟩
    · exact main F' H' (Same.refl _) st rx
    · refine main _ _ (st.sameNew hT) (st.new (u := .tup vs) hT) ?_
      rw [ed]
      exact .tup upd_same (rr.mono (st.sameNew hT))
  · have e : i = ds.length := by omega
    subst e
    refine .inl ⟨wk.stop F' H f1 st.fh, ?_⟩
    rw [List.drop_length, goFor] at wt
    exact wt F' σ H (Same.refl _) st
noncomputable def goWhile (c : SD → ER Bool) (body : SD → Fl) : Nat → SD → Fl
  | 0, _ => .bad
  | n + 1, sd => (c sd).stm fun b sd1 => if b = true then (match body sd1 with
      | .nx sd2 => goWhile c body n sd2
      | .ct sd2 => goWhile c body n sd2
      | .bk sd2 => .nx sd2
      | r => r) else .nx sd1
noncomputable def sWhile (fuel : SD → Nat) (c : SD → ER Bool) (body : SD → Fl) : SD → Fl := fun sd => goWhile c body (fuel sd) sd
theorem ds_while {c : Expr} {body : List Stmt} {mc : SD → ER Bool} {mb : SD → Fl} (fuel : SD → Nat) (hp : PassesOwn (model X.prog X.w) X.A X.env X.xe) (hc : DT X pv W p c mc) (hb : DSs X pv W body mb) : DS X pv W (.While c body [] pos) (sWhile fuel mc mb) := by
  obtain ⟨tc, a1, a2⟩ := hc
  obtain ⟨tb, c1, c2⟩ := hb
  refine ⟨_, ps_while hp a1 c1, fun G F sd σ H D s => ?_⟩
  refine meetsS_of fun w => ?_
  refine ⟨fun m σ H => ∃ F' sd', Same F F' ∧ StR X.K pv G F' sd' σ H ∧ Wants X.K pv W G F' (goWhile mc mb m sd') D, ⟨fuel sd, F, sd, Same.refl _, s, w⟩, ?_⟩
  rintro m σ H ⟨F', sd', f1, st, wt⟩
  cases m with
  | zero => exact wt.elim
  | succ m =>
    rw [goWhile] at wt
    refine MeetsS.get (D := D) (Meets.stm (a2 G F' sd' σ H _ st) (f := fun b sd1 => if b = true then (match mb sd1 with
      | .nx sd2 => goWhile mc mb m sd2
      | .ct sd2 => goWhile mc mb m sd2
      | .bk sd2 => .nx sd2
      | r => r) else .nx sd1) fun x F1 H1 dx sd1 s1 s2 s3 => ?_) wt
    have s3 : x = dx := s3
    subst s3
    refine meetsS_of fun wt => ?_
    cases x with
    | false =>
      rw [if_neg (by decide)] at wt ⊢
      exact wt F1 σ H1 (Same.refl _) s2
    | true =>
      rw [if_pos rfl] at wt ⊢
      refine ⟨fun σ' H' => ∃ F'' sd'', Same F F'' ∧ StR X.K pv G F'' sd'' σ' H' ∧ Wants X.K pv W G F'' (goWhile mc mb m sd'') D, fun σ' H' q => ⟨m, Nat.lt_succ_self m, q⟩, ?_⟩
      refine MeetsS.get (c2 G F1 sd1 σ H1 _ s2) ?_
      revert wt
      cases mb sd1 with
      | bad => exact id
      | nx sd3 => exact fun wt F3 σ3 H3 e3 st3 => ⟨F3, sd3, (f1.trans s1).trans e3, st3, wt.mono e3⟩
      | ct sd3 => exact fun wt F3 σ3 H3 e3 st3 => ⟨F3, sd3, (f1.trans s1).trans e3, st3, wt.mono e3⟩
      | bk sd3 => exact id
      | rt tt sd3 => exact id
      | rz y sd3 => exact id
end
end DL
namespace DL
open PySem PySem.Spec L2
theorem wipe_in {σ : L2.St} {i : Nat} : ∀ {vs : List Nat}, i ∉ vs → (wipe σ vs)[i]? = σ[i]?
  | [], _ => rfl
  | v :: vs, h => by
    unfold wipe
    rw [List.getElem?_set_ne (fun z => h (by rw [z]; exact List.mem_cons_self))]
    exact wipe_in fun z => h (List.mem_cons_of_mem _ z)
theorem back_self {sd sd1 : SD} {vs : List Nat} (h : sd.wipe vs = sd1.wipe vs) : sd.back sd1 vs = sd1 := by
  obtain ⟨l, pa⟩ := sd
  obtain ⟨l1, pa1⟩ := sd1
  have h1 : wipeS l vs = wipeS l1 vs := congrArg SD.sl h
  have h2 : pa = pa1 := congrArg SD.pa h
  subst h2
  have hl : l.length = l1.length := by rw [← wipeS_length l vs, h1, wipeS_length]
  show SD.mk (backS l l1 vs) pa = SD.mk l1 pa
  congr 1
  refine List.ext_getElem? fun i => ?_
  by_cases hi : i ∈ vs
  · by_cases hl2 : i < l.length
    · rw [backS_in hi hl2]
      have : l1[i]? = some l1[i] := by simp [hl ▸ hl2]
      rw [this]; rfl
    · rw [List.getElem?_eq_none (by rw [backS_length]; omega), List.getElem?_eq_none (by omega)]
  · rw [backS_out hi, ← wipeS_out (l := l) hi, h1, wipeS_out hi]
section
variable {K : PySem.W.Frag} {pv : List V} {G F H : Hp} {sd : SD} {σ : L2.St}
theorem wiped_at {vs : List Nat} {i : Nat} {x : S} (h : (wipeS sd.sl vs)[i]? = some x) (hx : x ≠ .un) : i ∉ vs ∧ sd.sl[i]? = some x := by
  by_cases hi : i ∈ vs
  · by_cases hl : i < sd.sl.length
    · rw [wipeS_in hi hl] at h
      exact absurd (Option.some.inj h).symm hx
    · rw [List.getElem?_eq_none (by rw [wipeS_length]; omega)] at h
      cases h
  · exact ⟨hi, by rw [← wipeS_out hi]; exact h⟩
theorem StR.wipe (vs : List Nat) (s : StR K pv G F sd σ H) : StR K pv G F (sd.wipe vs) (L2.wipe σ vs) H := by
  obtain ⟨o, W⟩ := s
  refine ⟨o, W.fh, W.gh, W.fg, W.oh, W.oo, by show _ = (wipeS sd.sl vs).length; rw [L2.wipe_length, wipeS_length]; exact W.len, fun i t e => ?_, fun i j e => ?_, W.pr, W.tf⟩
  · obtain ⟨h1, h2⟩ := wiped_at e (by intro z; cases z)
    rw [wipe_in h1]
    exact W.sl i t h2
  · obtain ⟨h1, h2⟩ := wiped_at e (by intro z; cases z)
    rw [wipe_in h1]
    exact W.sp i j h2
/-- a block is entered: its own names' trees are put aside -/
theorem StR.block (vs : List Nat) (s : StR K pv G F sd σ H) : ∃ G', (∀ a, H a = none → G' a = none) ∧ StR K pv G' F (sd.wipe vs) (L2.wipe σ vs) H ∧
    ∀ (F' : Hp) (sd' : SD) (H' : Hp) (v : V) (t : OT), Same F F' → StR1 K pv G' F' (sd'.wipe vs) (L2.wipe σ vs) H' v t → StR1 K pv G F' (sd'.back sd vs) σ H' v t := by
  classical
  obtain ⟨o, W⟩ := s
  let P : Addr → Prop := fun a => ∃ i ∈ vs, o (.inl i) a
  have gp : ∀ a, P a → G a = none := fun a ⟨i, _, h⟩ => (W.oh _ a h).2.2
  refine ⟨fun a => if P a then H a else G a, fun a ha => ?_, ⟨fun x a => o x a ∧ ∀ i ∈ vs, x ≠ .inl i, W.fh, fun a u e => ?_, fun a ha => ?_, fun x a ⟨q1, q2⟩ => ?_, fun x y a q q' => W.oo x y a q.1 q'.1, by show _ = (wipeS sd.sl vs).length; rw [L2.wipe_length, wipeS_length]; exact W.len, fun i t e => ?_, fun i j e => ?_, fun j t e => ?_, W.tf⟩, fun F' sd' H' v t f ⟨o1, P1, W1, r1, k1⟩ => ?_⟩
  · show (if P a then H a else G a) = none
    by_cases z : P a
    · rw [if_pos z]; exact ha
    · rw [if_neg z]; exact W.gh.free ha
  · have e : (if P a then H a else G a) = some u := e
    by_cases z : P a
    · rw [if_pos z] at e; exact e
    · rw [if_neg z] at e; exact W.gh a u e
  · show (if P a then H a else G a) = none
    by_cases z : P a
    · obtain ⟨i, _, h⟩ := z
      exact absurd (W.oh _ a h).2.1 ha
    · rw [if_neg z]; exact W.fg a ha
  · obtain ⟨h1, h2, h3⟩ := W.oh x a q1
    refine ⟨h1, h2, ?_⟩
    show (if P a then H a else G a) = none
    rw [if_neg fun ⟨i, hi, h⟩ => q2 i hi (W.oo _ _ a q1 h)]
    exact h3
  · obtain ⟨h1, h2⟩ := wiped_at e (by intro z; cases z)
    rw [wipe_in h1]
    obtain ⟨v, a1, a2⟩ := W.sl i t h2
    exact ⟨v, a1, a2.mono (Same.refl _) fun x hx => ⟨⟨hx, fun j hj z => h1 (by rw [Sum.inl.inj z]; exact hj)⟩, rfl⟩⟩
  · obtain ⟨h1, h2⟩ := wiped_at e (by intro z; cases z)
    rw [wipe_in h1]
    exact W.sp i j h2
  · obtain ⟨v, a1, a2⟩ := W.pr j t e
    exact ⟨v, a1, a2.mono (Same.refl _) fun x hx => ⟨⟨hx, fun j hj z => by cases z⟩, rfl⟩⟩
  · have hP : ∀ a, P a → H' a = H a := fun a z => by
      have hn : H a ≠ none := by
        obtain ⟨i, _, h⟩ := z
        exact (W.oh _ a h).1
      cases e : H a with
      | none => exact absurd e hn
      | some u => exact W1.gh a u (by show (if P a then H a else G a) = some u; rw [if_pos z]; exact e)
    have hG : ∀ a, (if P a then H a else G a) = none → ¬ P a ∧ G a = none := fun a z => by
      by_cases y : P a
      · rw [if_pos y] at z
        obtain ⟨i, _, h⟩ := y
        exact absurd z (W.oh _ a h).1
      · rw [if_neg y] at z
        exact ⟨y, z⟩
    have hF : ∀ a, P a → F' a = none := fun a z => by
      cases e : F' a with
      | none => rfl
      | some u => exact absurd z (hG a (W1.fg a (by rw [e]; simp))).1
    have len1 : sd'.sl.length = sd.sl.length := by
      have := W1.len
      have e2 : (wipeS sd'.sl vs).length = sd'.sl.length := wipeS_length _ _
      have : (L2.wipe σ vs).length = (wipeS sd'.sl vs).length := this
      rw [L2.wipe_length, e2, W.len] at this
      exact this.symm
    refine ⟨fun x a => match x with
      | .inl i => if i ∈ vs then o (.inl i) a else o1 (.inl i) a
      | .inr j => o1 (.inr j) a, P1, ⟨W1.fh, fun a u e => ?_, fun a ha => (hG a (W1.fg a ha)).2, fun x a q => ?_, fun x y a q q' => ?_, ?_, fun i t e => ?_, fun i j e => ?_, fun j t e => ?_, W1.tf⟩, r1, fun a z => ?_⟩
    · by_cases z : P a
      · rw [gp a z] at e; cases e
      · exact W1.gh a u (by show (if P a then H a else G a) = some u; rw [if_neg z]; exact e)
    · cases x with
      | inl i =>
        by_cases hi : i ∈ vs
        · have q : o (.inl i) a := by simpa [hi] using q
          have z : P a := ⟨i, hi, q⟩
          exact ⟨by rw [hP a z]; exact (W.oh _ a q).1, hF a z, gp a z⟩
        · have q : o1 (.inl i) a := by simpa [hi] using q
          obtain ⟨h1, h2, h3⟩ := W1.oh _ a q
          exact ⟨h1, h2, (hG a h3).2⟩
      | inr j =>
        obtain ⟨h1, h2, h3⟩ := W1.oh _ a q
        exact ⟨h1, h2, (hG a h3).2⟩
    · have old : ∀ (x : Nat ⊕ Nat), (match x with
        | .inl i => if i ∈ vs then o (.inl i) a else o1 (.inl i) a
        | .inr j => o1 (.inr j) a) → (∃ i, x = .inl i ∧ i ∈ vs ∧ o (.inl i) a ∧ P a) ∨ (o1 x a ∧ ¬ P a) := fun x q => by
        cases x with
        | inl i =>
          by_cases hi : i ∈ vs
          · have q : o (.inl i) a := by simpa [hi] using q
            exact .inl ⟨i, rfl, hi, q, i, hi, q⟩
          · have q : o1 (.inl i) a := by simpa [hi] using q
            exact .inr ⟨q, (hG a (W1.oh _ a q).2.2).1⟩
        | inr j => exact .inr ⟨q, (hG a (W1.oh _ a q).2.2).1⟩
      rcases old x q with ⟨i, rfl, _, q1, q2⟩ | ⟨q1, q2⟩
      · rcases old y q' with ⟨j, rfl, _, q3, _⟩ | ⟨_, q4⟩
        · exact W.oo _ _ a q1 q3
        · exact absurd q2 q4
      · rcases old y q' with ⟨j, rfl, _, _, q4⟩ | ⟨q3, _⟩
        · exact absurd q4 q2
        · exact W1.oo _ _ a q1 q3
    · show σ.length = (backS sd'.sl sd.sl vs).length
      rw [backS_length, len1]
      exact W.len
    · have e : (backS sd'.sl sd.sl vs)[i]? = some (S.ow t) := e
      by_cases hi : i ∈ vs
      · by_cases hl : i < sd'.sl.length
        · rw [backS_in hi hl] at e
          have hl2 : i < sd.sl.length := by omega
          have e2 : sd.sl[i]? = some sd.sl[i] := by simp [hl2]
          rw [e2] at e
          have e : some sd.sl[i] = some (S.ow t) := e
          rw [e] at e2
          obtain ⟨v, a1, a2⟩ := W.sl i t e2
          refine ⟨v, a1, a2.mono f fun x hx => ⟨by simpa [hi] using hx, hP x ⟨i, hi, hx⟩⟩⟩
        · rw [List.getElem?_eq_none (by rw [backS_length]; omega)] at e
          cases e
      · rw [backS_out hi, ← wipeS_out (l := sd'.sl) hi] at e
        obtain ⟨v, a1, a2⟩ := W1.sl i t e
        rw [wipe_in hi] at a1
        exact ⟨v, a1, a2.mono (Same.refl _) fun x hx => ⟨by simpa [hi] using hx, rfl⟩⟩
    · have e : (backS sd'.sl sd.sl vs)[i]? = some (S.pa j) := e
      by_cases hi : i ∈ vs
      · by_cases hl : i < sd'.sl.length
        · rw [backS_in hi hl] at e
          have hl2 : i < sd.sl.length := by omega
          have e2 : sd.sl[i]? = some sd.sl[i] := by simp [hl2]
          rw [e2] at e
          have e : some sd.sl[i] = some (S.pa j) := e
          rw [e] at e2
          exact W.sp i j e2
        · rw [List.getElem?_eq_none (by rw [backS_length]; omega)] at e
          cases e
      · rw [backS_out hi, ← wipeS_out (l := sd'.sl) hi] at e
        obtain ⟨v, a1, a2⟩ := W1.sp i j e
        rw [wipe_in hi] at a2
        exact ⟨v, a1, a2⟩
    · obtain ⟨v, a1, a2⟩ := W1.pr j t e
      exact ⟨v, a1, a2⟩
    · obtain ⟨h1, h2, h3, h4⟩ := k1 a z
      refine ⟨h1, h2, (hG a h3).2, fun x q => ?_⟩
      cases x with
      | inl i =>
        by_cases hi : i ∈ vs
        · have q : o (.inl i) a := by simpa [hi] using q
          exact (hG a h3).1 ⟨i, hi, q⟩
        · have q : o1 (.inl i) a := by simpa [hi] using q
          exact h4 _ q
      | inr j => exact h4 _ q
/-- a list that nobody but we know -/
theorem StR.lay {L : Addr} {xs : List V} (s : StR K pv G F sd σ H) (hD : H L = none) : StR K pv (upd G L (.lst xs)) F sd σ (upd H L (.lst xs)) := by
  obtain ⟨o, W⟩ := s
  obtain ⟨f0, g0, n0⟩ := W.fresh hD
  have W' := W.grow (Same.upd (o := .lst xs) hD) (Same.refl F) (fun a u e => by rw [upd_ne (ne_of_none e f0)]; exact W.fh a u e) fun a ha => .inl ha
  refine ⟨o, W'.fh, fun a u e => ?_, fun a ha => ?_, fun i a q => ?_, W'.oo, W'.len, W'.sl, W'.sp, W'.pr, W'.tf⟩
  · by_cases h : a = L
    · subst h; rw [upd_same] at e ⊢; exact e
    · rw [upd_ne h] at e; exact W'.gh a u e
  · have h : a ≠ L := fun z => ha (by rw [z]; exact f0)
    rw [upd_ne h]; exact W'.fg a ha
  · obtain ⟨h1, h2, h3⟩ := W'.oh i a q
    have h : a ≠ L := fun z => n0 i (by rw [← z]; exact q)
    exact ⟨h1, h2, by rw [upd_ne h]; exact h3⟩
theorem StR.relay {L : Addr} {xs ys : List V} (s : StR K pv (upd G L (.lst xs)) F sd σ H) : StR K pv (upd G L (.lst ys)) F sd σ (upd H L (.lst ys)) := by
  obtain ⟨o, W⟩ := s
  have gL : (upd G L (HO.lst xs)) L = some (.lst xs) := upd_same
  have f0 : F L = none := by
    cases e : F L with
    | none => rfl
    | some u =>
      have := W.fg L (by rw [e]; simp)
      rw [gL] at this; cases this
  have n0 : ∀ i, ¬ o i L := fun i q => by
    have := (W.oh i L q).2.2
    rw [gL] at this; cases this
  have cell : ∀ i x, o i x → upd H L (.lst ys) x = H x := fun i x q => upd_ne fun z => n0 i (by rw [← z]; exact q)
  refine ⟨o, fun a u e => ?_, fun a u e => ?_, fun a ha => ?_, fun i a q => ?_, W.oo, W.len, fun i t e => ?_, W.sp, fun j t e => ?_, fun a xs e => W.tf a xs (nt_upd (by intro _ z; cases z) a xs e)⟩
  · rw [upd_ne (ne_of_none e f0)]; exact W.fh a u e
  · by_cases h : a = L
    · subst h; rw [upd_same] at e ⊢; exact e
    · rw [upd_ne h] at e ⊢; exact W.gh a u (by rw [upd_ne h]; exact e)
  · have h : a ≠ L := fun z => ha (by rw [z]; exact f0)
    have := W.fg a ha
    rw [upd_ne h] at this ⊢; exact this
  · obtain ⟨h1, h2, h3⟩ := W.oh i a q
    have h : a ≠ L := fun z => n0 i (by rw [← z]; exact q)
    rw [upd_ne h] at h3
    exact ⟨by rw [upd_ne h]; exact h1, h2, by rw [upd_ne h]; exact h3⟩
  · obtain ⟨v, h1, h2⟩ := W.sl i t e
    exact ⟨v, h1, h2.mono (Same.refl _) fun x hx => ⟨hx, cell _ x hx⟩⟩
  · obtain ⟨v, h1, h2⟩ := W.pr j t e
    exact ⟨v, h1, h2.mono (Same.refl _) fun x hx => ⟨hx, cell _ x hx⟩⟩
theorem StR.unlay {L : Addr} {xs : List V} {ds : List D} (s : StR K pv (upd G L (.lst xs)) F sd σ H) (gL : G L = none) (r : Reps K F xs ds) : StR1 K pv G F sd σ H (.ref L) (.ol (ds.map .fz)) := by
  obtain ⟨o, W⟩ := s
  have gU : (upd G L (HO.lst xs)) L = some (.lst xs) := upd_same
  have f0 : F L = none := by
    cases e : F L with
    | none => rfl
    | some u =>
      have := W.fg L (by rw [e]; simp)
      rw [gU] at this; cases this
  have n0 : ∀ i, ¬ o i L := fun i q => by
    have := (W.oh i L q).2.2
    rw [gU] at this; cases this
  refine ⟨o, fun a => a = L, ⟨W.fh, fun a u e => W.gh a u (by rw [upd_ne (ne_of_none e gL)]; exact e), fun a ha => ?_, fun i a q => ?_, W.oo, W.len, W.sl, W.sp, W.pr, W.tf⟩, ?_, fun a ha => ?_⟩
  · have h : a ≠ L := fun z => ha (by rw [z]; exact f0)
    have := W.fg a ha
    rw [upd_ne h] at this; exact this
  · obtain ⟨h1, h2, h3⟩ := W.oh i a q
    have h : a ≠ L := fun z => n0 i (by rw [← z]; exact q)
    rw [upd_ne h] at h3
    exact ⟨h1, h2, h3⟩
  · unfold RepO
    exact ⟨L, xs, rfl, rfl, W.gh L _ gU, repOs_of _ r⟩
  · subst ha
    exact ⟨by rw [W.gh a _ gU]; simp, f0, gL, n0⟩
theorem StR.at_lay {L : Addr} {xs : List V} (s : StR K pv (upd G L (.lst xs)) F sd σ H) : H L = some (.lst xs) := by
  obtain ⟨o, W⟩ := s
  exact W.gh L _ upd_same
end
/-- raising is not told here -/
noncomputable def ER.calm {α : Type} (r : ER α) : ER α :=
  match r with
  | .rz _ _ => .bad
  | r => r
noncomputable def goComp (g : D → SD → Option SD) (c : SD → ER Bool) (elt : SD → ER D) (vs : List Nat) : List D → List D → SD → ER (List D)
  | [], acc, sd => .ok acc sd
  | d :: ds, acc, sd => match g d (sd.wipe vs) with
    | none => .bad
    | some sd1 => (c sd1).calm.bind fun b sd2 => if b = true then ((elt sd2).calm.bind fun y sd3 => if acc.length < 16777216 then goComp g c elt vs ds (acc ++ [y]) sd3 else .bad) else goComp g c elt vs ds acc sd2
noncomputable def mComp (it : SD → ER (List D)) (g : D → SD → Option SD) (c : SD → ER Bool) (elt : SD → ER D) (vs : List Nat) : SD → ER OT := fun sd => (it sd).bind fun ds sd1 => (goComp g c elt vs ds [] sd1).bind fun res sd2 => .ok (.ol (res.map .fz)) (sd2.back sd1 vs)
noncomputable def mYes : SD → ER Bool := fun sd => .ok true sd
/-- no wish -/
noncomputable abbrev W0 : WX := fun _ _ _ _ => False
theorem goComp_calm {g : D → SD → Option SD} {c : SD → ER Bool} {elt : SD → ER D} {vs : List Nat} : ∀ (ds acc : List D) (sd : SD) (x : Exn) (s : SD), goComp g c elt vs ds acc sd ≠ .rz x s
  | [], acc, sd, x, s => by rw [goComp]; intro h; cases h
  | d :: ds, acc, sd, x, s => by
    rw [goComp]
    cases g d (sd.wipe vs) with
    | none => intro h; cases h
    | some sd1 =>
      show (c sd1).calm.bind _ ≠ _
      cases c sd1 with
      | bad => intro h; cases h
      | rz _ _ => intro h; cases h
      | ok b sd2 =>
        show (if b = true then _ else _) ≠ _
        split
        · cases elt sd2 with
          | bad => intro h; cases h
          | rz _ _ => intro h; cases h
          | ok y sd3 =>
            show (if acc.length < 16777216 then _ else _) ≠ _
            split
            · exact goComp_calm ds _ sd3 x s
            · intro h; cases h
        · exact goComp_calm ds acc sd2 x s
section
variable {K : PySem.W.Frag} {pv : List V} {W : WX} {p q pc pe : Bool}
theorem wipe_wipe {vs vs1 : List Nat} (h : ∀ i ∈ vs1, i ∈ vs) (sd : SD) : (sd.wipe vs1).wipe vs = sd.wipe vs := by
  show SD.mk (wipeS (wipeS sd.sl vs1) vs) sd.pa = SD.mk (wipeS sd.sl vs) sd.pa
  congr 1
  refine List.ext_getElem? fun i => ?_
  by_cases hi : i ∈ vs
  · by_cases hl : i < sd.sl.length
    · rw [wipeS_in hi (by rw [wipeS_length]; exact hl), wipeS_in hi hl]
    · rw [List.getElem?_eq_none (by rw [wipeS_length, wipeS_length]; omega), List.getElem?_eq_none (by rw [wipeS_length]; omega)]
  · rw [wipeS_out hi, wipeS_out hi, wipeS_out fun z => hi (h i z)]
theorem wipe_one {σ : L2.St} {i : Nat} : ∀ {us : List Nat}, i ∈ us → (wipe σ us)[i]? = if i < σ.length then some none else none
  | u :: us, h => by
    unfold wipe
    by_cases e : u = i
    · subst e
      by_cases hl : u < σ.length
      · rw [List.getElem?_set_self (by rw [wipe_length]; exact hl), if_pos hl]
      · rw [List.getElem?_eq_none (by rw [List.length_set, wipe_length]; omega), if_neg hl]
    · rw [List.getElem?_set_ne e]
      exact wipe_one ((List.mem_cons.mp h).resolve_left fun z => e z.symm)
theorem wipe_wipeV {vs vs1 : List Nat} (h : ∀ i ∈ vs1, i ∈ vs) (σ : L2.St) : wipe (wipe σ vs1) vs = wipe σ vs := by
  refine List.ext_getElem? fun i => ?_
  by_cases hi : i ∈ vs
  · rw [wipe_one hi, wipe_one hi, wipe_length]
  · rw [wipe_in hi, wipe_in hi, wipe_in fun z => hi (h i z)]
/-- the loop of a comprehension, by values: acc0 is there already -/
theorem comp_go {J : It} {t : TG} {tt : TT} {te : TE} {g : D → SD → Option SD} {c : SD → ER Bool} {elt : SD → ER D} {vs is : List Nat} {G F1 H1 : Hp} {sd1 : SD} {σ : L2.St} {ds acc0 : List D} {xs0 : List V} {L : Addr} {Q : Hp → Prop} {res : List D} {sdr : SD}
    (his : ∀ i ∈ is, i ∈ vs)
    (hg : ∀ (pv : List V) (G F : Hp) (sd : SD) (σ : L2.St) (H : Hp) (x : V) (d : D) (sd' : SD), StR K pv G F sd σ H → Rep K F x d → g d sd = some sd' → ∀ Q : L2.St → Hp → Prop, (∀ σ', StR K pv G F sd' σ' H → (∀ vs : List Nat, (∀ i ∈ is, i ∈ vs) → wipe σ' vs = wipe σ vs) → Q σ' H) → t x σ H Q)
    (hgw : ∀ d sd sd', g d sd = some sd' → sd'.wipe vs = sd.wipe vs)
    (hc : TrT K pv W0 pc tt c) (he : TrX K pv W0 pe true te elt) (wk : Walk K J F1 ds) (s1 : StR K pv (upd G L (.lst xs0)) F1 (sd1.wipe vs) (wipe σ vs) H1) (ra0 : Reps K F1 xs0 acc0) (e : goComp g c elt vs ds acc0 sd1 = .ok res sdr)
    (hQ : ∀ F' H' xs, Same F1 F' → StR K pv (upd G L (.lst xs)) F' (sdr.wipe vs) (wipe σ vs) H' → Reps K F' xs res → ((pc && pe) = true → (∀ a u, a ≠ L → H1 a = some u → H' a = some u) ∧ sdr.wipe vs = sd1.wipe vs) → Q H') :
    ∃ W : Nat → Nat → Hp → Prop, (∃ m, W 0 m H1) ∧ ∀ i m H, W i m H → (J.stop i H ∧ Q H) ∨ (J.go i H ∧ ∃ Nx : Hp → Prop, (∀ H', Nx H' → ∃ m', m' < m ∧ W (i + 1) m' H') ∧ ∀ x H', J.yld i H x H' → t x (wipe σ vs) H' fun σ2 H2 => wipe σ2 vs = wipe σ vs ∧ tt σ2 H2 fun b H3 =>
      if b = true then te σ2 H3 fun y H4 => ∃ acc, H4 L = some (.lst acc) ∧ acc.length < sizeLine ∧ Nx (upd H4 L (.lst (acc ++ [y]))) else Nx H3) := by
  have ww : ∀ (sd : SD) , (sd.wipe vs).wipe vs = sd.wipe vs := fun sd => wipe_wipe (fun i h => h) sd
  have sw : wipe (wipe σ vs) vs = wipe σ vs := wipe_wipeV (fun i h => h) σ
  let Inv : Nat → Hp → Prop := fun i H => ∃ F' sd' acc xs, Same F1 F' ∧ StR K pv (upd G L (.lst xs)) F' (sd'.wipe vs) (wipe σ vs) H ∧ Reps K F' xs acc ∧ goComp g c elt vs (ds.drop i) acc sd' = .ok res sdr ∧ ((pc && pe) = true → (∀ a u, a ≠ L → H1 a = some u → H a = some u) ∧ sd'.wipe vs = sd1.wipe vs)
  refine ⟨fun i m H => m = ds.length - i ∧ i ≤ ds.length ∧ Inv i H, ⟨ds.length, by simp, Nat.zero_le _, F1, sd1, acc0, xs0, Same.refl _, s1, ra0, e, fun _ => ⟨fun a u _ h => h, rfl⟩⟩, ?_⟩
  rintro i m H ⟨rfl, hi, F', sd', acc, xs, f1, st, ra, eg, pu⟩
  by_cases hlt : i < ds.length
  · have hd : ds[i]? = some ds[i] := by simp [hlt]
    refine .inr ⟨wk.go F' H i _ f1 st.fh hd, Inv (i + 1), fun H' q => ⟨ds.length - (i + 1), by omega, rfl, hlt, q⟩, fun x H' y => ?_⟩
    rw [drop_at hd, goComp] at eg
    cases e1 : g ds[i] (sd'.wipe vs) with
    | none => rw [e1] at eg; cases eg
    | some sda =>
      rw [e1] at eg
      dsimp only at eg
      have main : ∀ F2 H2, Same F' F2 → StR K pv (upd G L (.lst xs)) F2 (sd'.wipe vs) (wipe σ vs) H2 → Rep K F2 x ds[i] → ((pc && pe) = true → ∀ a u, a ≠ L → H1 a = some u → H2 a = some u) → t x (wipe σ vs) H2 fun σ2 H2 => wipe σ2 vs = wipe σ vs ∧ tt σ2 H2 fun b H3 =>
          if b = true then te σ2 H3 fun y H4 => ∃ acc, H4 L = some (.lst acc) ∧ acc.length < sizeLine ∧ Inv (i + 1) (upd H4 L (.lst (acc ++ [y]))) else Inv (i + 1) H3 := fun F2 H2 f2 st2 rx pu2 => by
        refine hg pv _ F2 _ _ H2 x _ sda st2 rx e1 _ fun σ2 k1 k2 => ?_
        have w2 : wipe σ2 vs = wipe σ vs := (k2 vs his).trans sw
        have pw : (pc && pe) = true → sda.wipe vs = sd1.wipe vs := fun z => by rw [hgw _ _ _ e1, ww, (pu z).2]
        refine ⟨w2, ?_⟩
        have z := hc (upd G L (.lst xs)) F2 sda σ2 H2 (fun b H3 => if b = true then te σ2 H3 fun y H4 => ∃ acc, H4 L = some (.lst acc) ∧ acc.length < sizeLine ∧ Inv (i + 1) (upd H4 L (.lst (acc ++ [y]))) else Inv (i + 1) H3) k1
        revert eg z
        cases c sda with
        | bad => intro eg; cases eg
        | rz _ _ => intro eg; cases eg
        | ok b sdb =>
          intro eg z
          refine z fun b' F3 H3 u1 u2 u3 u4 => ?_
          have u3 : b' = b := u3
          subst u3
          have eg : (if b' = true then ((elt sdb).calm.bind fun y sd3 => if acc.length < 16777216 then goComp g c elt vs (ds.drop (i + 1)) (acc ++ [y]) sd3 else .bad) else goComp g c elt vs (ds.drop (i + 1)) acc sdb) = .ok res sdr := eg
          cases b' with
          | false =>
            rw [if_neg (by decide)] at eg
            refine iteF ?_
            refine ⟨F3, sdb, acc, xs, (f1.trans f2).trans u1, ?_, ra.mono (f2.trans u1), eg, fun zz => ?_⟩
            · have q := u2.wipe vs
              rw [w2] at q; exact q
            · have zc : pc = true := (Bool.and_eq_true _ _ ▸ zz : pc = true ∧ pe = true).1
              obtain ⟨v1, v2⟩ := u4 zc
              exact ⟨fun a u n h => v1 a u (pu2 zz a u n h), by rw [v2]; exact pw zz⟩
          | true =>
            rw [if_pos rfl] at eg
            refine iteT ?_
            have z2 := he (upd G L (.lst xs)) F3 sdb σ2 H3 (fun y H4 => ∃ acc, H4 L = some (.lst acc) ∧ acc.length < sizeLine ∧ Inv (i + 1) (upd H4 L (.lst (acc ++ [y])))) u2
            revert eg z2
            cases elt sdb with
            | bad => intro eg; cases eg
            | rz _ _ => intro eg; cases eg
            | ok d sdc =>
              intro eg z2
              have eg : (if acc.length < 16777216 then goComp g c elt vs (ds.drop (i + 1)) (acc ++ [d]) sdc else .bad) = .ok res sdr := eg
              split at eg
              · rename_i hz
                refine z2 fun y F4 H4 v1 v2 v3 v4 => ?_
                have r4 : Reps K F4 xs acc := ra.mono ((f2.trans u1).trans v1)
                refine ⟨xs, v2.at_lay, by rw [r4.length, sizeLine_eq]; exact hz, F4, sdc, acc ++ [d], xs ++ [y], ((f1.trans f2).trans u1).trans v1, ?_, r4.append (.one v3), eg, fun zz => ?_⟩
                · have q := (v2.relay (ys := xs ++ [y])).wipe vs
                  rw [w2] at q; exact q
                · have zce : pc = true ∧ pe = true := (Bool.and_eq_true _ _ ▸ zz : pc = true ∧ pe = true)
                  obtain ⟨a1, a2⟩ := u4 zce.1
                  obtain ⟨b1, b2⟩ := v4 zce.2
                  exact ⟨fun a u n h => by
                    rw [upd_ne n]
                    exact b1 a u (a1 a u (pu2 zz a u n h)), by rw [b2, a2]; exact pw zz⟩
              · cases eg
      rcases wk.yld F' H i _ x H' f1 st.fh hd y with ⟨rfl, rx⟩ | ⟨T, us, es, rfl, ed, hT, rfl, rr⟩
      · exact main F' H' (Same.refl _) st rx fun z => (pu z).1
      · refine main _ _ (st.sameNew hT) (st.new (u := .tup us) hT) ?_ fun z a u n h => ?_
        · rw [ed]
          exact .tup upd_same (rr.mono (st.sameNew hT))
        · have := (pu z).1 a u n h
          rw [upd_ne (ne_of_none this hT)]; exact this
  · have e2 : i = ds.length := by omega
    subst e2
    rw [List.drop_length, goComp] at eg
    cases eg
    exact .inl ⟨wk.stop F' H f1 st.fh, hQ F' H xs f1 st ra pu⟩
/-- .. from the start -/
theorem comp_run {J : It} {t : TG} {tt : TT} {te : TE} {g : D → SD → Option SD} {c : SD → ER Bool} {elt : SD → ER D} {vs is : List Nat} {G F1 H1 : Hp} {sd1 : SD} {σ : L2.St} {ds : List D} {L : Addr} {Q : Hp → Prop} {res : List D} {sdr : SD}
    (his : ∀ i ∈ is, i ∈ vs)
    (hg : ∀ (pv : List V) (G F : Hp) (sd : SD) (σ : L2.St) (H : Hp) (x : V) (d : D) (sd' : SD), StR K pv G F sd σ H → Rep K F x d → g d sd = some sd' → ∀ Q : L2.St → Hp → Prop, (∀ σ', StR K pv G F sd' σ' H → (∀ vs : List Nat, (∀ i ∈ is, i ∈ vs) → wipe σ' vs = wipe σ vs) → Q σ' H) → t x σ H Q)
    (hgw : ∀ d sd sd', g d sd = some sd' → sd'.wipe vs = sd.wipe vs)
    (hc : TrT K pv W0 pc tt c) (he : TrX K pv W0 pe true te elt) (wk : Walk K J F1 ds) (s1 : StR K pv G F1 (sd1.wipe vs) (wipe σ vs) H1) (hL : H1 L = none) (e : goComp g c elt vs ds [] sd1 = .ok res sdr)
    (hQ : ∀ F' H' xs, Same F1 F' → StR K pv (upd G L (.lst xs)) F' (sdr.wipe vs) (wipe σ vs) H' → Reps K F' xs res → ((pc && pe) = true → Same H1 H' ∧ sdr.wipe vs = sd1.wipe vs) → Q H') :
    ∃ W : Nat → Nat → Hp → Prop, (∃ m, W 0 m (upd H1 L (.lst []))) ∧ ∀ i m H, W i m H → (J.stop i H ∧ Q H) ∨ (J.go i H ∧ ∃ Nx : Hp → Prop, (∀ H', Nx H' → ∃ m', m' < m ∧ W (i + 1) m' H') ∧ ∀ x H', J.yld i H x H' → t x (wipe σ vs) H' fun σ2 H2 => wipe σ2 vs = wipe σ vs ∧ tt σ2 H2 fun b H3 =>
      if b = true then te σ2 H3 fun y H4 => ∃ acc, H4 L = some (.lst acc) ∧ acc.length < sizeLine ∧ Nx (upd H4 L (.lst (acc ++ [y]))) else Nx H3) :=
  comp_go his hg hgw hc he wk (s1.lay hL) .nil e fun F' H' xs f1 st r pu => hQ F' H' xs f1 st r fun z => ⟨fun a u h => (pu z).1 a u (ne_of_none h hL) (by rw [upd_ne (ne_of_none h hL)]; exact h), (pu z).2⟩
end
section
variable {X : Cx} {pv : List V} {W : WX} {p q k l pc pe : Bool} {tg iter elt : Expr} {ifs : List Expr} {scope : Scope} {pos : Pos}
theorem comp_tr {own : List (Str × Nat)} {is : List Nat} {wi : TI} {t : TG} {tt : TT} {te : TE} {mi : SD → ER (List D)} {g : D → SD → Option SD} {mc : SD → ER Bool} {me : SD → ER D} (hi : TrI X.K pv W p wi mi)
    (hg : ∀ (pv : List V) (G F : Hp) (sd : SD) (σ : L2.St) (H : Hp) (x : V) (d : D) (sd' : SD), StR X.K pv G F sd σ H → Rep X.K F x d → g d sd = some sd' → ∀ Q : L2.St → Hp → Prop, (∀ σ', StR X.K pv G F sd' σ' H → (∀ vs : List Nat, (∀ i ∈ is, i ∈ vs) → wipe σ' vs = wipe σ vs) → Q σ' H) → t x σ H Q)
    (hgw : ∀ (vs : List Nat), (∀ i ∈ is, i ∈ vs) → ∀ d sd sd', g d sd = some sd' → SD.wipe sd' vs = SD.wipe sd vs) (hc : TrT X.K pv W0 pc tt mc) (he : TrX X.K pv W0 pe true te me) (his : ∀ i ∈ is, i ∈ own.map (·.2)) :
    TrO X.K pv W (p && (pc && pe)) (tLc wi t tt te (own.map (·.2))) (mComp mi g mc me (own.map (·.2))) := by
  intro G F sd σ H Q s
  refine Meets.bind (hi G F sd σ H _ s) fun J F1 H1 ds sd1 s1 s2 s3 s4 => ?_
  cases e : goComp g mc me (own.map (·.2)) ds [] sd1 with
  | bad => exact True.intro
  | rz x sr => exact absurd e (goComp_calm ds [] sd1 x sr)
  | ok res sdr =>
    intro hQ L hL
    obtain ⟨G', g1, g2, g3⟩ := s2.block (own.map (·.2))
    refine comp_run his hg (hgw _ his) hc he s3 g2 hL e fun F' H' xs f1 st r pu => ?_
    have z := st.unlay (g1 L hL) r
    have z2 := g3 F' sdr H' _ _ f1 z
    exact hQ _ F' H' f1 z2.drop z2 fun zz => ⟨(pu zz).1, back_self (pu zz).2⟩
end
noncomputable def Cond {α β : Type} (K : PySem.W.Frag) (pv : List V) (W : WX) (G : Hp) (σ : L2.St) (RS : RSt β α) (p : Bool) (sd : SD) (F H : Hp) (r : ER α) (Q : β → Hp → Prop) : Prop :=
  match r with
  | .ok a sd' => ∀ v F' H', Same F F' → StR K pv G F' sd' σ H' → RS G F' sd' H' σ v a → (p = true → Same H H' ∧ sd' = sd) → Q v H'
  | .rz x sd' => ∀ cls dd F' H', Same F F' → StR K pv G F' sd' σ H' → RepX K F' cls dd x → W cls dd σ H'
  | .bad => False
theorem meets_of {α β : Type} {K : PySem.W.Frag} {pv : List V} {W : WX} {G F H : Hp} {σ : L2.St} {RS : RSt β α} {p : Bool} {sd : SD} {r : ER α} {Q : β → Hp → Prop} {P : Prop} (h : Cond K pv W G σ RS p sd F H r Q → P) : Meets K pv W G σ RS p sd F H r Q P := by
  cases r with
  | bad => exact True.intro
  | _ => exact h
theorem Meets.get {α β : Type} {K : PySem.W.Frag} {pv : List V} {W : WX} {G F H : Hp} {σ : L2.St} {RS : RSt β α} {p : Bool} {sd : SD} {r : ER α} {Q : β → Hp → Prop} {P : Prop} (h : Meets K pv W G σ RS p sd F H r Q P) (c : Cond K pv W G σ RS p sd F H r Q) : P := by
  cases r with
  | bad => exact c.elim
  | _ => exact h c
noncomputable def canX (K : PySem.W.Frag) (pv : List V) (W : WX) (p k : Bool) (m : SD → ER D) : TE := fun σ H Q => ∃ G F sd, StR K pv G F sd σ H ∧ Cond K pv W G σ (RSx K k) p sd F H (m sd) Q
noncomputable def canT (K : PySem.W.Frag) (pv : List V) (W : WX) (p : Bool) (m : SD → ER Bool) : TT := fun σ H Q => ∃ G F sd, StR K pv G F sd σ H ∧ Cond K pv W G σ RSb p sd F H (m sd) Q
noncomputable def canG (K : PySem.W.Frag) (is : List Nat) (g : D → SD → Option SD) : TG := fun x σ H Q => ∃ (pv : List V) (G F : Hp) (sd : SD) (d : D) (sd' : SD), StR K pv G F sd σ H ∧ Rep K F x d ∧ g d sd = some sd' ∧
  ∀ σ', StR K pv G F sd' σ' H → (∀ vs : List Nat, (∀ i ∈ is, i ∈ vs) → wipe σ' vs = wipe σ vs) → Q σ' H
noncomputable def canI (K : PySem.W.Frag) (pv : List V) (W : WX) (p : Bool) (m : SD → ER (List D)) : TI := fun σ H R => ∃ G F sd, StR K pv G F sd σ H ∧ Cond K pv W G σ (RSw K) p sd F H (m sd) R
section
variable {X : Cx} {pv : List V} {W : WX} {p q k l pc pe : Bool} {e tg iter elt : Expr} {ifs : List Expr} {scope : Scope} {pos : Pos}
theorem DX.can {m : SD → ER D} (h : DX X pv W p k e m) : PE X e (canX X.K pv W p k m) := by
  obtain ⟨te, h1, h2⟩ := h
  exact ⟨fun pins s σ H Q I ⟨G, F, sd, st, c⟩ => h1.run pins s σ H Q I ((h2 G F sd σ H Q st).get c)⟩
theorem canX_tr {K : PySem.W.Frag} {m : SD → ER D} : TrX K pv W p k (canX K pv W p k m) m := fun G F sd σ H Q s => meets_of fun c => ⟨G, F, sd, s, c⟩
theorem DT.can {m : SD → ER Bool} (h : DT X pv W p e m) : PT X e (canT X.K pv W p m) := by
  obtain ⟨te, h1, h2⟩ := h
  exact ⟨fun pins s σ H Q I ⟨G, F, sd, st, c⟩ => h1.run pins s σ H Q I ((h2 G F sd σ H Q st).get c)⟩
theorem canT_tr {K : PySem.W.Frag} {m : SD → ER Bool} : TrT K pv W p (canT K pv W p m) m := fun G F sd σ H Q s => meets_of fun c => ⟨G, F, sd, s, c⟩
theorem DI.can {m : SD → ER (List D)} (h : DI X pv W p tg iter m) : PI X tg iter (canI X.K pv W p m) := by
  obtain ⟨te, h1, h2⟩ := h
  exact ⟨fun pins s σ H Q I ⟨G, F, sd, st, c⟩ => h1.run pins s σ H Q I ((h2 G F sd σ H Q st).get c)⟩
theorem DG.can {is : List Nat} {g : D → SD → Option SD} (h : DG X is tg g) : PG X tg (canG X.K is g) := by
  obtain ⟨⟨t, h1, h2⟩, _⟩ := h
  refine ⟨fun pins s σ H v u Q I r ⟨pv, G, F, sd, d, sd', st, rd, e, hq⟩ => ?_⟩
  obtain ⟨σ', k1, k2, k3⟩ := h2 pv G F sd σ H v d sd' st rd e
  exact h1.run pins s σ H v u Q I r (k3 Q (hq σ' k1 k2))
/-- the tests of a clause -/
structure DTs (X : Cx) (pv : List V) (W : WX) (p : Bool) (ifs : List Expr) (m : SD → ER Bool) : Prop where
  run : PTs X ifs (canT X.K pv W p m)
theorem dts_nil : DTs X pv W true [] mYes := ⟨⟨fun pins s σ H Q I ⟨G, F, sd, st, c⟩ => (pts_nil (X := X)).run pins s σ H Q I (c true F H (Same.refl _) st rfl fun _ => ⟨Same.refl _, rfl⟩)⟩⟩
theorem dts_one {c : Expr} {m : SD → ER Bool} (h : DT X pv W p c m) : DTs X pv W p [c] m := ⟨pts_one h.can⟩
theorem canG_run {K : PySem.W.Frag} {is : List Nat} {g : D → SD → Option SD} (pv : List V) (G F : Hp) (sd : SD) (σ : L2.St) (H : Hp) (x : V) (d : D) (sd' : SD) (s : StR K pv G F sd σ H) (r : Rep K F x d) (e : g d sd = some sd') (Q : L2.St → Hp → Prop)
    (hQ : ∀ σ', StR K pv G F sd' σ' H → (∀ vs : List Nat, (∀ i ∈ is, i ∈ vs) → wipe σ' vs = wipe σ vs) → Q σ' H) : canG K is g x σ H Q := ⟨pv, G, F, sd, d, sd', s, r, e, hQ⟩
/-- [elt for tg in iter if ..] as a value -/
theorem do_comp {own : List (Str × Nat)} {is : List Nat} {mi : SD → ER (List D)} {g : D → SD → Option SD} {mc : SD → ER Bool} {me : SD → ER D} (hc : X.calm = true) (hN : X.N.Nodup) (hi : DI X pv W p tg iter mi) (ok : BlkOk X.N X.env.scope scope own)
    (hg : ∀ (s : Shared) (H : Hp) (C : Addr) (cl : List (Str × Addr)) (fp : List Addr), DG (X.blk s H scope (compEnvC scope cl C X.env) fp) is tg g)
    (ht : ∀ (s : Shared) (H : Hp) (C : Addr) (cl : List (Str × Addr)) (fp : List Addr), DTs (X.blk s H scope (compEnvC scope cl C X.env) fp) pv W0 pc ifs mc)
    (he : ∀ (s : Shared) (H : Hp) (C : Addr) (cl : List (Str × Addr)) (fp : List Addr), DX (X.blk s H scope (compEnvC scope cl C X.env) fp) pv W0 pe true elt me) (his : ∀ i ∈ is, i ∈ own.map (·.2))
    (wip : ∀ (vs : List Nat), (∀ i ∈ is, i ∈ vs) → ∀ d sd sd', g d sd = some sd' → SD.wipe sd' vs = SD.wipe sd vs)
    (hs : ∀ x, foldedSetIterable iter X.env x = pure x := by intro _; rfl) :
    DO X pv W (p && (pc && pe)) (.ListComp elt [⟨tg, iter, ifs, 0⟩] scope pos) (mComp mi g mc me (own.map (·.2))) := by
  obtain ⟨wi, a1, a2⟩ := hi
  exact ⟨_, pe_lc hc hN a1 ok (fun s H C cl fp => (hg s H C cl fp).can) (fun s H C cl fp => (ht s H C cl fp).run) (fun s H C cl fp => (he s H C cl fp).can) hs, comp_tr a2 canG_run wip canT_tr canX_tr his⟩
end
end DL
namespace DL
open PySem PySem.Spec L2
section
variable {K : PySem.W.Frag} {pv : List V} {W : WX} {p q pc pe pi1 pc1 : Bool}
/-- by values -/
noncomputable abbrev TgRun (K : PySem.W.Frag) (is : List Nat) (t : TG) (g : D → SD → Option SD) : Prop := ∀ (pv : List V) (G F : Hp) (sd : SD) (σ : L2.St) (H : Hp) (x : V) (d : D) (sd' : SD), StR K pv G F sd σ H → Rep K F x d → g d sd = some sd' → ∀ Q : L2.St → Hp → Prop, (∀ σ', StR K pv G F sd' σ' H → (∀ vs : List Nat, (∀ i ∈ is, i ∈ vs) → wipe σ' vs = wipe σ vs) → Q σ' H) → t x σ H Q
end
end DL
namespace DL
open PySem PySem.Spec L2
noncomputable def SD.put (sd : SD) (i : Nat) (t : OT) : SD := match sd.sl[i]? with
  | some (.ow _) => { sd with sl := sd.sl.set i (.ow t) }
  | some (.pa j) => { sd with pa := sd.pa.set j t }
  | _ => sd
section
variable {K : PySem.W.Frag} {pv : List V} {G F F' H H' : Hp} {sd : SD} {σ : L2.St} {o : Nat ⊕ Nat → Addr → Prop}
theorem Own.put {i : Nat} {t : OT} (W : Own K pv G F sd σ H o) (h : sd.tree i = some t) : ∃ (src : Nat ⊕ Nat) (v : V), σ[i]? = some (some v) ∧ RepO K F H t v (o src) ∧
    ∀ (F' H' : Hp) (o2 : Nat ⊕ Nat → Addr → Prop) (t' : OT), Same F F' → Same F' H' → Same G H' → (∀ a, F' a ≠ none → G a = none) → (∀ x a, o2 x a → H' a ≠ none ∧ F' a = none ∧ G a = none) → (∀ x y a, o2 x a → o2 y a → x = y) →
      (∀ x, x ≠ src → ∀ a, o x a → o2 x a ∧ H' a = H a) → RepO K F' H' t' v (o2 src) → (nt : ∀ a xs, H' a = some (.tup xs) → F' a = some (.tup xs)) → Own K pv G F' (sd.put i t') σ H' o2 := by
  unfold SD.tree at h
  split at h
  · rename_i t0 e
    cases h
    obtain ⟨v, h1, h2⟩ := W.sl i _ e
    refine ⟨.inl i, v, h1, h2, fun F' H' o2 t' f fh gh fg oh oo ho r nt => ?_⟩
    have ep : sd.put i t' = { sd with sl := sd.sl.set i (.ow t') } := by unfold SD.put; rw [e]
    have hi : i < sd.sl.length := (List.getElem?_eq_some_iff.mp e).1
    rw [ep]
    refine ⟨fh, gh, fg, oh, oo, by simpa using W.len, fun j t1 e1 => ?_, fun j l e1 => ?_, fun j t1 e1 => ?_, nt⟩
    · have e1 : (sd.sl.set i (S.ow t'))[j]? = some (S.ow t1) := e1
      by_cases z : i = j
      · subst z
        rw [List.getElem?_set_self hi] at e1
        cases e1
        exact ⟨v, h1, r⟩
      · rw [List.getElem?_set_ne z] at e1
        obtain ⟨w, k1, k2⟩ := W.sl j t1 e1
        refine ⟨w, k1, k2.mono f fun x hx => ho (.inl j) (fun y => z (Sum.inl.inj y).symm) x hx⟩
    · have e1 : (sd.sl.set i (S.ow t'))[j]? = some (S.pa l) := e1
      by_cases z : i = j
      · subst z
        rw [List.getElem?_set_self hi] at e1
        cases e1
      · rw [List.getElem?_set_ne z] at e1
        exact W.sp j l e1
    · obtain ⟨w, k1, k2⟩ := W.pr j t1 e1
      exact ⟨w, k1, k2.mono f fun x hx => ho (.inr j) (fun y => by cases y) x hx⟩
  · rename_i j e
    obtain ⟨v, h1, h2⟩ := W.sp i j e
    obtain ⟨v', h3, h4⟩ := W.pr j t h
    rw [h1] at h3; cases h3
    refine ⟨.inr j, v, h2, h4, fun F' H' o2 t' f fh gh fg oh oo ho r nt => ?_⟩
    have ep : sd.put i t' = { sd with pa := sd.pa.set j t' } := by unfold SD.put; rw [e]
    have hj : j < sd.pa.length := (List.getElem?_eq_some_iff.mp h).1
    rw [ep]
    refine ⟨fh, gh, fg, oh, oo, W.len, fun l t1 e1 => ?_, W.sp, fun l t1 e1 => ?_, nt⟩
    · obtain ⟨w, k1, k2⟩ := W.sl l t1 e1
      exact ⟨w, k1, k2.mono f fun x hx => ho (.inl l) (fun y => by cases y) x hx⟩
    · have e1 : (sd.pa.set j t')[l]? = some t1 := e1
      by_cases z : j = l
      · subst z
        rw [List.getElem?_set_self hj] at e1
        cases e1
        exact ⟨v, h1, r⟩
      · rw [List.getElem?_set_ne z] at e1
        obtain ⟨w, k1, k2⟩ := W.pr l t1 e1
        exact ⟨w, k1, k2.mono f fun x hx => ho (.inr l) (fun y => z (Sum.inr.inj y).symm) x hx⟩
  · cases h
/-- the tree of a name is changed, another tree may become a part of it -/
theorem StR1.mut {i : Nat} {t t2 : OT} {v2 : V} (s : StR1 K pv G F sd σ H v2 t2) (h : sd.tree i = some t) : ∃ (v : V) (P P2 : Addr → Prop), σ[i]? = some (some v) ∧ RepO K F H t v P ∧ RepO K F H t2 v2 P2 ∧ (∀ a, P a → ¬ P2 a) ∧
    (∀ a, P a → H a ≠ none) ∧ (∀ a, P2 a → H a ≠ none) ∧
    ∀ (H' : Hp) (t' : OT), (∀ a, ¬ P a → ∀ u, H a = some u → H' a = some u) → (∀ a, P a → H' a ≠ none) → RepO K F H' t' v (fun a => P a ∨ P2 a) → (nt : ∀ a xs, H' a = some (.tup xs) → H a = some (.tup xs) := by first | exact nt_upd (by intro _ z; cases z) | exact nt_upd2 (by intro _ z; cases z) (by intro _ z; cases z)) → StR K pv G F (sd.put i t') σ H' := by
  classical
  obtain ⟨o, P2, W, r2, k2⟩ := s
  obtain ⟨src, v, h1, h2, h3⟩ := W.put h
  refine ⟨v, o src, P2, h1, h2, r2, fun a q q2 => (k2 a q2).2.2.2 src q, fun a q => (W.oh _ a q).1, fun a q => (k2 a q).1, fun H' t' hH hP r nt => ?_⟩
  have keep : ∀ a, ¬ o src a → H a ≠ none → H' a = H a := fun a n hn => by
    cases e : H a with
    | none => exact absurd e hn
    | some u => exact hH a n u e
  refine ⟨fun x a => if x = src then o src a ∨ P2 a else o x a, h3 F H' _ t' (Same.refl _) (fun a u e => ?_) (fun a u e => ?_) W.fg (fun x a q => ?_) (fun x y a q q' => ?_) (fun x n a q => ?_) ?_ fun a xs e => W.tf a xs (nt a xs e)⟩
  · exact hH a (fun z => by rw [(W.oh _ a z).2.1] at e; cases e) u (W.fh a u e)
  · exact hH a (fun z => by rw [(W.oh _ a z).2.2] at e; cases e) u (W.gh a u e)
  · by_cases z : x = src
    · rw [if_pos z] at q
      rcases q with q | q
      · exact ⟨hP a q, (W.oh _ a q).2⟩
      · obtain ⟨k1, k3, k4, k5⟩ := k2 a q
        exact ⟨by rw [keep a (k5 _) k1]; exact k1, k3, k4⟩
    · rw [if_neg z] at q
      obtain ⟨k1, k3, k4⟩ := W.oh x a q
      exact ⟨by rw [keep a (fun q' => z (W.oo _ _ a q q')) k1]; exact k1, k3, k4⟩
  · by_cases z : x = src
    · rw [if_pos z] at q
      by_cases y' : y = src
      · rw [z, y']
      · rw [if_neg y'] at q'
        rcases q with q | q
        · exact absurd (W.oo _ _ a q q').symm y'
        · exact absurd q' ((k2 a q).2.2.2 y)
    · rw [if_neg z] at q
      by_cases y' : y = src
      · rw [if_pos y'] at q'
        rcases q' with q' | q'
        · exact absurd (W.oo _ _ a q q') z
        · exact absurd q ((k2 a q').2.2.2 x)
      · rw [if_neg y'] at q'
        exact W.oo _ _ a q q'
  · have k1 := (W.oh x a q).1
    exact ⟨by rw [if_neg n]; exact q, keep a (fun q' => n (W.oo _ _ a q q')) k1⟩
  · show RepO K F H' t' v (fun a => if src = src then o src a ∨ P2 a else o src a)
    exact r.mono (Same.refl _) fun x hx => ⟨by rw [if_pos rfl]; exact hx, rfl⟩
/-- .. alone -/
theorem StR.mut {i : Nat} {t : OT} (s : StR K pv G F sd σ H) (h : sd.tree i = some t) : ∃ (v : V) (P : Addr → Prop), σ[i]? = some (some v) ∧ RepO K F H t v P ∧ (∀ a, P a → H a ≠ none) ∧
    ∀ (H' : Hp) (t' : OT), (∀ a, ¬ P a → ∀ u, H a = some u → H' a = some u) → (∀ a, P a → H' a ≠ none) → RepO K F H' t' v P → (nt : ∀ a xs, H' a = some (.tup xs) → H a = some (.tup xs) := by first | exact nt_upd (by intro _ z; cases z) | exact nt_upd2 (by intro _ z; cases z) (by intro _ z; cases z)) → StR K pv G F (sd.put i t') σ H' := by
  obtain ⟨v, P, P2, h1, h2, _, _, h5, _, h6⟩ := (StR1.fz s (.non)).mut h
  exact ⟨v, P, h1, h2, h5, fun H' t' a b r nt => h6 H' t' a b (r.mono (Same.refl _) fun x hx => ⟨.inl hx, rfl⟩) nt⟩
theorem repOs_app : ∀ {ts : List OT} {vs : List V} {P P2 : Addr → Prop} {t2 : OT} {v2 : V}, RepOs K F H ts vs P → RepO K F H t2 v2 P2 → (∀ a, P a → ¬ P2 a) → RepOs K F H (ts ++ [t2]) (vs ++ [v2]) (fun a => P a ∨ P2 a)
  | [], vs, P, P2, t2, v2, r, r2, d => by
    unfold RepOs at r
    subst r
    rw [List.nil_append, List.nil_append]
    unfold RepOs
    refine ⟨v2, [], P2, fun _ => False, rfl, fun x h => .inr h, fun x h => h.elim, r2, ?_⟩
    unfold RepOs; rfl
  | t :: ts, vs, P, P2, t2, v2, r, r2, d => by
    unfold RepOs at r
    obtain ⟨v, ws, Q1, Q2, rfl, h1, h2, r1, rr⟩ := r
    rw [List.cons_append, List.cons_append]
    unfold RepOs
    refine ⟨v, ws ++ [v2], Q1, fun a => Q2 a ∨ P2 a, rfl, fun x h => .inl (h1 x h), fun x h => ?_, r1, repOs_app rr r2 fun a q => d a (h2 a q).1⟩
    rcases h with h | h
    · exact ⟨.inl (h2 x h).1, (h2 x h).2⟩
    · exact ⟨.inr h, fun q => d x (h1 x q) h⟩
theorem repOs_set : ∀ {ts : List OT} {vs : List V} {P P2 : Addr → Prop} {t2 : OT} {v2 : V} (k : Nat), RepOs K F H ts vs P → RepO K F H t2 v2 P2 → (∀ a, P a → ¬ P2 a) → RepOs K F H (ts.set k t2) (vs.set k v2) (fun a => P a ∨ P2 a)
  | [], vs, P, P2, t2, v2, k, r, r2, d => by
    unfold RepOs at r
    subst r
    rw [List.set_nil, List.set_nil]
    unfold RepOs; rfl
  | t :: ts, vs, P, P2, t2, v2, 0, r, r2, d => by
    unfold RepOs at r
    obtain ⟨v, ws, Q1, Q2, rfl, h1, h2, r1, rr⟩ := r
    rw [List.set_cons_zero, List.set_cons_zero]
    unfold RepOs
    exact ⟨v2, ws, P2, Q2, rfl, fun x h => .inr h, fun x h => ⟨.inl (h2 x h).1, d x (h2 x h).1⟩, r2, rr⟩
  | t :: ts, vs, P, P2, t2, v2, k + 1, r, r2, d => by
    unfold RepOs at r
    obtain ⟨v, ws, Q1, Q2, rfl, h1, h2, r1, rr⟩ := r
    rw [List.set_cons_succ, List.set_cons_succ]
    unfold RepOs
    refine ⟨v, ws.set k v2, Q1, fun a => Q2 a ∨ P2 a, rfl, fun x h => .inl (h1 x h), fun x h => ?_, r1, repOs_set k rr r2 fun a q => d a (h2 a q).1⟩
    rcases h with h | h
    · exact ⟨.inl (h2 x h).1, (h2 x h).2⟩
    · exact ⟨.inr h, fun q => d x (h1 x q) h⟩
/-- a list of a name: its items anew -/
theorem StR1.lset {i : Nat} {ts : List OT} {t2 : OT} {v2 : V} (s : StR1 K pv G F sd σ H v2 t2) (h : sd.tree i = some (.ol ts)) : ∃ (a : Addr) (vs : List V), σ[i]? = some (some (.ref a)) ∧ H a = some (.lst vs) ∧ vs.length = ts.length ∧
    StR K pv G F (sd.put i (.ol (ts ++ [t2]))) σ (upd H a (.lst (vs ++ [v2]))) ∧ ∀ k, StR K pv G F (sd.put i (.ol (ts.set k t2))) σ (upd H a (.lst (vs.set k v2))) := by
  obtain ⟨v, P, P2, h1, h2, r2, d, hn, hn2, go⟩ := s.mut h
  unfold RepO at h2
  obtain ⟨a, vs, rfl, pa, ha, r⟩ := h2
  have main : ∀ (us : List V) (ts' : List OT), RepOs K F H ts' us (fun x => (P x ∧ x ≠ a) ∨ P2 x) → StR K pv G F (sd.put i (.ol ts')) σ (upd H a (.lst us)) := fun us ts' rr => by
    refine go _ _ (fun x hx u e => by rw [upd_ne (fun z => hx (by rw [z]; exact pa))]; exact e) (fun x hx => ?_) ?_
    · by_cases z : x = a
      · rw [z, upd_same]; simp
      · rw [upd_ne z]; exact hn x hx
    · unfold RepO
      refine ⟨a, us, rfl, .inl pa, upd_same, rr.mono (Same.refl _) fun x hx => ?_⟩
      have ne : x ≠ a := by
        rcases hx with hx | hx
        · exact hx.2
        · exact fun z => d a pa (by rw [← z]; exact hx)
      exact ⟨⟨hx.imp And.left id, ne⟩, upd_ne ne⟩
  exact ⟨a, vs, h1, ha, r.length, main _ _ (repOs_app r r2 fun x q => d x q.1), fun k => main _ _ (repOs_set k r r2 fun x q => d x q.1)⟩
end
/-- what happens while a tree is put aside -/
theorem Meets.unhide {α β : Type} {K : PySem.W.Frag} {pv : List V} {W : WX} {G G' F H : Hp} {σ : L2.St} {RS : RSt β α} {p : Bool} {sd : SD} {r : ER α} {Q : β → Hp → Prop} {P : Prop} {v : V} {t : OT} (h : Meets K pv W G' σ RS p sd F H r Q P)
    (g : ∀ (F' : Hp) (sd' : SD) (σ' : L2.St) (H' : Hp), Same F F' → StR K pv G' F' sd' σ' H' → StR1 K pv G F' sd' σ' H' v t) :
    Meets K pv W G σ (fun _ F' sd' H' σ w a => StR1 K pv G F' sd' σ H' v t ∧ RS G' F' sd' H' σ w a) p sd F H r Q P := by
  cases r with
  | bad => exact True.intro
  | rz x sd' => exact fun z => h fun cls dd F' H' s1 s2 s3 => z cls dd F' H' s1 (g F' sd' σ H' s1 s2).drop s3
  | ok a sd' => exact fun z => h fun w F' H' s1 s2 s3 s4 => z w F' H' s1 (g F' sd' σ H' s1 s2).drop ⟨g F' sd' σ H' s1 s2, s3⟩ s4
noncomputable def sApp (i : Nat) (m : SD → ER OT) : SD → Fl := fun sd => match sd.tree i with
  | some (.ol _) => (m sd).stm fun t sd1 => match sd1.tree i with
    | some (.ol ts) => if ts.length < 16777216 then .nx (sd1.put i (.ol (ts ++ [t]))) else .bad
    | _ => .bad
  | _ => .bad
noncomputable def setEnd (i : Nat) (t : OT) (d : D) (sd : SD) : Fl := match d, sd.tree i with
  | .int k, some (.ol ts) => match ixN ts.length k with
    | some j => .nx (sd.put i (.ol (ts.set j t)))
    | none => .bad
  | _, _ => .bad
noncomputable def sSetAt (i : Nat) (mk : SD → ER D) (m : SD → ER OT) : SD → Fl := fun sd => (m sd).stm fun t sd1 => match sd1.tree i with
  | some (.ol _) => (mk sd1).stm (setEnd i t)
  | _ => .bad
noncomputable def sAug (i : Nat) (f : D → D → Option D) (m : SD → ER D) : SD → Fl := fun sd => match sd.sl[i]? with
  | some (.ow (.fz d)) => (m sd).stm fun y sd1 => match f d y with
    | some c => if i < sd1.sl.length then .nx { sd1 with sl := sd1.sl.set i (.ow (.fz c)) } else .bad
    | none => .bad
  | _ => .bad
noncomputable def sAsg (m : SD → ER D) (g : D → SD → Option SD) : SD → Fl := fun sd => (m sd).stm fun d sd1 => match g d sd1 with
  | some sd2 => .nx sd2
  | none => .bad
noncomputable def sPar (i j : Nat) (ma mb : SD → ER OT) : SD → Fl := fun sd => (ma sd).stm fun t sd1 => (mb sd1).stm fun u sd2 => if i < sd2.sl.length ∧ j < sd2.sl.length then .nx { sd2 with sl := (sd2.sl.set i (.ow t)).set j (.ow u) } else .bad
section
variable {X : Cx} {pv : List V} {W : WX} {p q k l : Bool} {e a b c : Expr} {es : List Expr} {pos : Pos}
theorem ol_at {K : PySem.W.Frag} {G F H : Hp} {sd : SD} {σ : L2.St} {i : Nat} {ts : List OT} (s : StR K pv G F sd σ H) (h : sd.tree i = some (.ol ts)) : ∃ a vs, σ[i]? = some (some (.ref a)) ∧ H a = some (.lst vs) := by
  obtain ⟨v, P, h1, h2⟩ := s.tree h
  unfold RepO at h2
  obtain ⟨a, vs, rfl, _, ha, _⟩ := h2
  exact ⟨a, vs, h1, ha⟩
theorem ds_app {i : Nat} {x : Str} {pp apos cpos : Pos} {m : SD → ER OT} (hx : PE X (.Name x pp) (tVar i)) (he : DO X pv W p e m)
    (hline : (apos.endLine == cpos.line) = true := by rfl) (hs : swapsWith (.Call (.Attribute (.Name x pp) "append" apos) [e] [] cpos) none pos.line X.env = pure false := by rfl)
    (hbase : attributeBase (.Name x pp) "append" X.env (eval (.Name x pp) X.env) = eval (.Name x pp) X.env := by rfl)
    (hfew : ((backTo cpos (starEach [e] X.env)).all (fun x => !x.1) && (backToKw cpos (keywordEach [] X.env)).all (fun x => x.1.isSome)
      && decide ([e].length + ([] : List Keyword).length + (if ([] : List Keyword).isEmpty then 0 else 1) < 30)) = true := by rfl)
    (hse : starEach [e] X.env = (false, eval e X.env) :: starEach [] X.env := by rfl) (hplain : (backTo cpos (starEach [] X.env)).any (·.1) = false := by rfl) :
    DS X pv W (.Expr (.Call (.Attribute (.Name x pp) "append" apos) [e] [] cpos) pos) (sApp i m) := by
  obtain ⟨te, a1, a2⟩ := he
  refine ⟨_, ps_expr (pe_bm PySem.F.plainAttrs_list PySem.F.slot_list_append PySem.F.type_list_append mt_append hx (pa_cons a1 pa_nil hse) hbase hfew hline hse hplain) hs, fun G F sd σ H D s => ?_⟩
  unfold sApp
  split
  · rename_i ts0 e0
    obtain ⟨a, vs0, h0, hH0⟩ := ol_at s e0
    refine MeetsS.imp (Meets.stm (a2 G F sd σ H (fun v H1 => rAppend (.ref a) [v] H1 fun _ H2 => D.nx σ H2) s) (f := fun t sd1 => match sd1.tree i with
      | some (.ol ts) => if ts.length < 16777216 then .nx (sd1.put i (.ol (ts ++ [t]))) else .bad
      | _ => .bad) (D := D) fun v F1 H1 t sd1 s1 s2 s3 => ?_) fun z => ⟨_, h0, .inl ⟨rfl, vs0, .inl (.inl hH0)⟩, z⟩
    split
    · rename_i ts e1
      split
      · rename_i hl
        intro hQ
        obtain ⟨l, vs, h1, h2, h3, h4, _⟩ := s3.lset e1
        rw [h0] at h1; cases h1
        exact ⟨_, vs, v, rfl, rfl, h2, by rw [h3, sizeLine_eq]; exact hl, hQ F1 σ _ (Same.refl _) h4⟩
      · exact True.intro
    · exact True.intro
  · exact True.intro
theorem ds_setAt {i : Nat} {x : Str} {pp sp : Pos} {mk : SD → ER D} {m : SD → ER OT} (hx : PE X (.Name x pp) (tVar i)) (hk : DX X pv W true l b mk) (he : DO X pv W p e m)
    (ha : ∀ v, assign (.Subscript (.Name x pp) b sp) X.env v = (do
      let ov ← holding [v] (eval (.Name x pp) X.env)
      let iv ← holding [v, ov] (eval b X.env)
      standAt sp
      holding [v, ov, iv] (setItem ov iv v)
      release [v, ov, iv] []) := by intro _; rfl)
    (hs : swapsWithSole [.Subscript (.Name x pp) b sp] e pos.line X.env = pure false := by rfl) (hw : swappedStores [.Subscript (.Name x pp) b sp] e X.env = pure none := by rfl)
    (h1 : (assignEach [.Subscript (.Name x pp) b sp] X.env).map (·.2) = [assign (.Subscript (.Name x pp) b sp) X.env] := by rfl) :
    DS X pv W (.Assign [.Subscript (.Name x pp) b sp] e pos) (sSetAt i mk m) := by
  obtain ⟨te, a1, a2⟩ := he
  obtain ⟨tk, b1, b2⟩ := hk
  refine ⟨_, ps_asg a1 (pg_sub hx b1 set_list ha) hs hw h1, fun G F sd σ H D s => ?_⟩
  refine Meets.stm (a2 G F sd σ H _ s) fun v F1 H1 t sd1 s1 s2 s3 => ?_
  split
  · rename_i ts0 e0
    obtain ⟨a, vs0, h0, hH0⟩ := ol_at s2 e0
    obtain ⟨G', g1, g2, g3⟩ := s3.hide
    have z := (b2 G' F1 sd1 σ H1 (fun y H2 => rSetL (.ref a) y v H2 fun H3 => D.nx σ H3) g2).unhide g3
    refine MeetsS.imp (Meets.stm z (f := setEnd i t) (D := D) fun y F2 H2 dk sd2 t1 t2 t3 => ?_) fun z => ⟨_, h0, z⟩
    obtain ⟨t3, t4⟩ := t3
    unfold setEnd
    split
    · rename_i k ts e2
      have r : Rep X.K H2 y (.int k) := (show RSx X.K l G F2 sd2 H2 σ y (.int k) from t4).see t2
      cases r
      split
      · rename_i j hj
        intro hQ
        obtain ⟨l, vs, h1, h2, h3, _, h4⟩ := t3.lset e2
        rw [h0] at h1; cases h1
        exact ⟨_, vs, k, j, rfl, rfl, h2, by rw [h3]; exact hj, hQ F2 σ _ (Same.refl _) (h4 j)⟩
      · exact True.intro
    · exact True.intro
  · exact True.intro
theorem ds_asg {tg : Expr} {is : List Nat} {m : SD → ER D} {g : D → SD → Option SD} (he : DX X pv W p true e m) (hg : DG X is tg g) (hs : swapsWithSole [tg] e pos.line X.env = pure false := by rfl) (hw : swappedStores [tg] e X.env = pure none := by rfl)
    (h1 : (assignEach [tg] X.env).map (·.2) = [assign tg X.env] := by rfl) : DS X pv W (.Assign [tg] e pos) (sAsg m g) := by
  obtain ⟨te, a1, a2⟩ := he
  obtain ⟨⟨t, b1, b2⟩, _⟩ := hg
  refine ⟨_, ps_asg a1 b1 hs hw h1, fun G F sd σ H D s => ?_⟩
  refine Meets.stm (a2 G F sd σ H _ s) fun v F1 H1 d sd1 s1 s2 s3 => ?_
  split
  · rename_i sd2 e2
    intro hQ
    obtain ⟨σ', k1, _, k3⟩ := b2 pv G F1 sd1 σ H1 v d sd2 s2 s3 e2
    exact k3 D.nx (hQ F1 σ' H1 (Same.refl _) k1)
  · exact True.intro
theorem ds_aug {i : Nat} {x : Str} {op : Operator} {r : R2} {f : D → D → Option D} {pos' : Pos} {m : SD → ER D} (hN : X.N.Nodup) (hi : X.N[i]? = some x) (hx : Loc X.env.scope x) (ho : OpR X (inplaceOp op) r) (hf : Op2S X.K r f) (he : DX X pv W p k e m)
    (hl : X.fn x = true ∨ X.env.scope.names.lookup x = some .local := by first | exact .inl rfl | exact .inr rfl | assumption) : DS X pv W (.AugAssign (.Name x pos') op e pos) (sAug i f m) := by
  obtain ⟨te, a1, a2⟩ := he
  refine ⟨_, ps_aug hN hi hx a1 (show PIp X op r from ho) hl, fun G F sd σ H D s => ?_⟩
  unfold sAug
  split
  · rename_i d e0
    obtain ⟨o, w⟩ := id s
    obtain ⟨v, h1, h2⟩ := w.sl i _ e0
    unfold RepO at h2
    refine MeetsS.imp (Meets.stm (a2 G F sd σ H (fun y H1 => r v y H1 fun z H2 => D.nx (σ.set i (some z)) H2) s) (f := fun y sd1 => match f d y with
      | some c => if i < sd1.sl.length then .nx { sd1 with sl := sd1.sl.set i (.ow (.fz c)) } else .bad
      | none => .bad) (D := D) fun y F1 H1 dy sd1 s1 s2 s3 => ?_) fun z => ⟨v, h1, z⟩
    split
    · rename_i c ec
      obtain ⟨vc, c1, c2⟩ := hf H1 v y d dy c (Rep.mono s2.fh (Rep.mono s1 h2)) (RSx.see s3 s2) ec
      split
      · rename_i hi
        exact fun hQ => c2 _ (hQ F1 _ H1 (Same.refl _) ((StR1.fz s2 (Rep.sc c1)).store hi))
      · exact True.intro
    · exact True.intro
  · exact True.intro
theorem ds_par {i j : Nat} {x y : Str} {px py pt pt2 : Pos} {kt k2 : Nat} {ma mb : SD → ER OT} (hc : X.calm = true) (hN : X.N.Nodup) (hi : X.N[i]? = some x) (hj : X.N[j]? = some y) (hij : i ≠ j)
    (hx : X.env.scope.names.lookup x = some .local) (hy : X.env.scope.names.lookup y = some .local) (ha : DO X pv W p a ma) (hb : DO X pv W q b mb)
    (hw : swappedStores [.Tuple [.Name x px, .Name y py] kt pt] (.Tuple [a, b] k2 pt2) X.env = pure (some [x, y]))
    (hs : swapsWithSole [.Tuple [.Name x px, .Name y py] kt pt] (.Tuple [a, b] k2 pt2) pos.line X.env = pure false := by rfl)
    (hs1 : starEach [a, b] X.env = (false, eval a X.env) :: starEach [b] X.env := by rfl) (hs2 : starEach [b] X.env = (false, eval b X.env) :: starEach [] X.env := by rfl) :
    DS X pv W (.Assign [.Tuple [.Name x px, .Name y py] kt pt] (.Tuple [a, b] k2 pt2) pos) (sPar i j ma mb) := by
  obtain ⟨ta, a1, a2⟩ := ha
  obtain ⟨tb, b1, b2⟩ := hb
  refine ⟨_, ps_par hc hN hi hj hij hx hy (pa_cons a1 (pa_cons b1 pa_nil hs2) hs1) hw hs, fun G F sd σ H D s => ?_⟩
  refine Meets.stm (a2 G F sd σ H _ s) fun v F1 H1 t sd1 s1 s2 s3 => ?_
  obtain ⟨G', g1, g2, g3⟩ := StR1.hide s3
  have z := (b2 G' F1 sd1 σ H1 (fun w H2 => ∃ a b, [v, w] = [a, b] ∧ D.nx ((σ.set i (some a)).set j (some b)) H2) g2).unhide g3
  refine MeetsS.imp (Meets.stm z (f := fun u sd2 => if i < sd2.sl.length ∧ j < sd2.sl.length then .nx { sd2 with sl := (sd2.sl.set i (.ow t)).set j (.ow u) } else .bad) (D := D) fun w F2 H2 u sd2 t1 t2 t3 => ?_) ?_
  · obtain ⟨t3, t4⟩ := t3
    split
    · rename_i hl
      intro hQ
      have t4 : StR1 X.K pv G' F2 sd2 σ H2 w u := t4
      have q1 := t4.store hl.2
      have q2 := g3 F2 _ _ H2 t1 q1
      have q3 := q2.store (i := i) (by show i < (sd2.sl.set j (S.ow u)).length; rw [List.length_set]; exact hl.1)
      rw [List.set_comm _ _ (Ne.symm hij), List.set_comm _ _ (Ne.symm hij)] at q3
      exact ⟨v, w, rfl, hQ F2 _ H2 (Same.refl _) q3⟩
    · exact True.intro
  · exact id
end
end DL
namespace DL
open PySem PySem.Spec L2
section
variable {K : PySem.W.Frag} {pv : List V} {G F H : Hp} {sd : SD} {σ : L2.St}
/-- a name's tree is taken away from it -/
theorem StR.take {i : Nat} {t : OT} (s : StR K pv G F sd σ H) (h : sd.sl[i]? = some (.ow t)) : ∃ v, σ[i]? = some (some v) ∧ StR1 K pv G F { sd with sl := sd.sl.set i .un } σ H v t := by
  obtain ⟨o, W⟩ := s
  obtain ⟨v, h1, h2⟩ := W.sl i t h
  have hi : i < sd.sl.length := (List.getElem?_eq_some_iff.mp h).1
  refine ⟨v, h1, fun x a => o x a ∧ x ≠ .inl i, o (.inl i), ⟨W.fh, W.gh, W.fg, fun x a q => W.oh x a q.1, fun x y a q q' => W.oo x y a q.1 q'.1, by simpa using W.len, fun j t' e => ?_, fun j l e => ?_, fun j t' e => ?_, W.tf⟩, h2, fun a z => ⟨(W.oh _ a z).1, (W.oh _ a z).2.1, (W.oh _ a z).2.2, fun x q => q.2 (W.oo _ _ a q.1 z)⟩⟩
  · have e : (sd.sl.set i S.un)[j]? = some (S.ow t') := e
    by_cases z : i = j
    · subst z; rw [List.getElem?_set_self hi] at e; cases e
    · rw [List.getElem?_set_ne z] at e
      obtain ⟨w, k1, k2⟩ := W.sl j t' e
      exact ⟨w, k1, k2.mono (Same.refl _) fun x hx => ⟨⟨hx, fun y => z (Sum.inl.inj y).symm⟩, rfl⟩⟩
  · have e : (sd.sl.set i S.un)[j]? = some (S.pa l) := e
    by_cases z : i = j
    · subst z; rw [List.getElem?_set_self hi] at e; cases e
    · rw [List.getElem?_set_ne z] at e
      exact W.sp j l e
  · obtain ⟨w, k1, k2⟩ := W.pr j t' e
    exact ⟨w, k1, k2.mono (Same.refl _) fun x hx => ⟨⟨hx, fun y => by cases y⟩, rfl⟩⟩
/-- a frozen value in a slot that nothing is known of -/
theorem StR.know {i : Nat} {v : V} {d : D} (s : StR K pv G F sd σ H) (h : σ[i]? = some (some v)) (r : Rep K F v d) : StR K pv G F { sd with sl := sd.sl.set i (.ow (.fz d)) } σ H := by
  have hl : i < sd.sl.length := by
    obtain ⟨o, W⟩ := s
    rw [← W.len]
    exact (List.getElem?_eq_some_iff.mp h).1
  have z := (StR1.fz s r).store hl
  have e : σ.set i (some v) = σ := by
    refine List.ext_getElem? fun j => ?_
    by_cases hj : i = j
    · subst hj
      rw [h, List.getElem?_set_self (List.getElem?_eq_some_iff.mp h).1]
    · rw [List.getElem?_set_ne hj]
  rw [e] at z
  exact z
end
section
variable {X : Cx} {pv : List V} {W : WX} {p q k l : Bool} {e a b c : Expr} {es : List Expr} {pos : Pos}
theorem do_take {i : Nat} {x : Str} {pos : Pos} (h : PE X (.Name x pos) (tVar i)) : DO X pv W false (.Name x pos) (mTake i) := by
  refine ⟨_, h, fun G F sd σ H Q s => ?_⟩
  unfold mTake
  split
  · rename_i t e
    obtain ⟨v, h1, h2⟩ := s.take e
    exact fun hQ => ⟨v, h1, hQ v F H (Same.refl _) h2.drop h2 (fun z => by cases z)⟩
  · exact True.intro
theorem dx_frz {i : Nat} {x : Str} {pos : Pos} (h : PE X (.Name x pos) (tVar i)) : DX X pv W false true (.Name x pos) (mFrz i) := by
  refine ⟨_, h, fun G F sd σ H Q s => ?_⟩
  unfold mFrz
  split
  · rename_i t e
    obtain ⟨v, h1, h2⟩ := s.take e
    obtain ⟨F', f1, f2, f3⟩ := h2.frz
    have z := f2.know h1 f3
    rw [List.set_set] at z
    exact fun hQ => ⟨v, h1, hQ v F' H f1 z f3 (fun z => by cases z)⟩
  · exact True.intro
inductive Arg where
  | fz (d : D)
  | sl (i : Nat)
inductive RepsR (K : PySem.W.Frag) (F : Hp) (σ : L2.St) : List V → List Arg → Prop
  | nil : RepsR K F σ [] []
  | fz {v : V} {vs : List V} {d : D} {r : List Arg} : Rep K F v d → RepsR K F σ vs r → RepsR K F σ (v :: vs) (.fz d :: r)
  | sl {v : V} {vs : List V} {i : Nat} {r : List Arg} : σ[i]? = some (some v) → RepsR K F σ vs r → RepsR K F σ (v :: vs) (.sl i :: r)
theorem RepsR.mono {K : PySem.W.Frag} {F F' : Hp} {σ : L2.St} (e : Same F F') : ∀ {vs : List V} {r : List Arg}, RepsR K F σ vs r → RepsR K F' σ vs r
  | _, _, .nil => .nil
  | _, _, .fz h r => .fz (h.mono e) (r.mono e)
  | _, _, .sl h r => .sl h (r.mono e)
theorem RepsR.length {K : PySem.W.Frag} {F : Hp} {σ : L2.St} : ∀ {vs : List V} {r : List Arg}, RepsR K F σ vs r → vs.length = r.length
  | _, _, .nil => rfl
  | _, _, .fz h r => by rw [List.length_cons, List.length_cons, r.length]
  | _, _, .sl h r => by rw [List.length_cons, List.length_cons, r.length]
noncomputable def TrR (K : PySem.W.Frag) (pv : List V) (W : WX) (ta : TA) (m : SD → ER (List Arg)) : Prop := ∀ G F sd σ H Q, StR K pv G F sd σ H → Meets K pv W G σ (fun _ F _ _ σ vs r => RepsR K F σ vs r) false sd F H (m sd) Q (ta σ H Q)
structure DR (X : Cx) (pv : List V) (W : WX) (es : List Expr) (m : SD → ER (List Arg)) : Prop where
  ex : ∃ ta, PA X es ta ∧ TrR X.K pv W ta m
noncomputable def rNil : SD → ER (List Arg) := fun sd => .ok [] sd
noncomputable def rSlot (i : Nat) (r : SD → ER (List Arg)) : SD → ER (List Arg) := fun sd => match sd.tree i with
  | some _ => (r sd).bind fun xs sd2 => .ok (.sl i :: xs) sd2
  | none => .bad
noncomputable def rFz (a : SD → ER D) (r : SD → ER (List Arg)) : SD → ER (List Arg) := fun sd => (a sd).bind fun d sd1 => (r sd1).bind fun xs sd2 => .ok (.fz d :: xs) sd2
theorem Meets.weak {α β : Type} {K : PySem.W.Frag} {G F H : Hp} {σ : L2.St} {RS : RSt β α} {sd : SD} {r : ER α} {Q : β → Hp → Prop} {P : Prop} (h : Meets K pv W G σ RS p sd F H r Q P) : Meets K pv W G σ RS false sd F H r Q P := by
  cases r with
  | bad => exact True.intro
  | rz x sd' => exact h
  | ok a sd' => exact fun z => h fun v F' H' s1 s2 s3 _ => z v F' H' s1 s2 s3 fun w => by cases w
theorem dr_nil : DR X pv W [] rNil := ⟨_, pa_nil, fun G F sd σ H Q s => (Meets.here (p := true) s .nil id).weak⟩
theorem dr_slot {i : Nat} {x : Str} {pp : Pos} {mr : SD → ER (List Arg)} (hx : PE X (.Name x pp) (tVar i)) (hr : DR X pv W es mr) (hs : starEach (.Name x pp :: es) X.env = (false, eval (.Name x pp) X.env) :: starEach es X.env := by rfl) : DR X pv W (.Name x pp :: es) (rSlot i mr) := by
  obtain ⟨tr, b1, b2⟩ := hr
  refine ⟨_, pa_cons hx b1 hs, fun G F sd σ H Q s => ?_⟩
  unfold rSlot
  split
  · rename_i t e
    obtain ⟨v, P, h1, h2⟩ := s.tree e
    refine Meets.to (P := tr σ H fun xs H2 => Q (v :: xs) H2) ?_ fun z => ⟨v, h1, z⟩
    refine (Meets.bindL (b2 G F sd σ H (fun xs H2 => Q (v :: xs) H2) s) fun xs F1 H1 rs sd1 s1 s2 s3 s4 => ?_)
    exact Meets.here s2 (.sl h1 s3) id
  · exact True.intro
theorem dr_fz {ma : SD → ER D} {mr : SD → ER (List Arg)} (ha : DX X pv W p true e ma) (hr : DR X pv W es mr) (hs : starEach (e :: es) X.env = (false, eval e X.env) :: starEach es X.env := by rfl) : DR X pv W (e :: es) (rFz ma mr) := by
  obtain ⟨te, a1, a2⟩ := ha
  obtain ⟨tr, b1, b2⟩ := hr
  refine ⟨_, pa_cons a1 b1 hs, fun G F sd σ H Q s => ?_⟩
  refine Meets.weak (p := p && false) (Meets.bind (a2 G F sd σ H _ s) fun x F1 H1 dx sd1 s1 s2 s3 s4 => ?_)
  refine (Meets.bindL (b2 G F1 sd1 σ H1 _ s2) fun xs F2 H2 rs sd2 t1 t2 t3 t4 => ?_)
  exact Meets.here t2 (.fz (Rep.mono t1 (show Rep X.K F1 x dx from s3)) t3) id
end
noncomputable def treesOf (sd : SD) : List Arg → Option (List OT)
  | [] => some []
  | .fz d :: r => (treesOf sd r).map (.fz d :: ·)
  | .sl i :: r => (sd.tree i).bind fun t => (treesOf sd r).map (t :: ·)
noncomputable def noSlot : List Arg → Bool
  | [] => true
  | .fz _ :: r => noSlot r
  | .sl _ :: _ => false
noncomputable def oneSlot : List Arg → Option (Nat × Nat)
  | [] => none
  | .fz _ :: r => (oneSlot r).map fun p => (p.1 + 1, p.2)
  | .sl i :: r => if noSlot r = true then some (0, i) else none
section
variable {K : PySem.W.Frag} {pv : List V} {G F H : Hp} {sd : SD} {σ : L2.St}
theorem args_no {F : Hp} : ∀ {vs : List V} {r : List Arg} {ts : List OT}, RepsR K F σ vs r → treesOf sd r = some ts → noSlot r = true → vs.length = ts.length ∧ ∀ (k : Nat) (t : OT), ts[k]? = some t → ∃ v d, vs[k]? = some v ∧ t = .fz d ∧ Rep K F v d
  | _, _, ts, .nil, h, _ => by
    unfold treesOf at h
    cases h
    exact ⟨rfl, fun k t e => by simp at e⟩
  | _, _, ts, .fz (r := r) h1 h2, h, hn => by
    unfold treesOf at h
    cases e : treesOf sd r with
    | none => rw [e] at h; cases h
    | some us =>
      rw [e] at h; cases h
      obtain ⟨l1, l2⟩ := args_no h2 e hn
      refine ⟨by rw [List.length_cons, List.length_cons, l1], fun k t et => ?_⟩
      cases k with
      | zero => simp at et; subst et; exact ⟨_, _, rfl, rfl, h1⟩
      | succ k =>
        obtain ⟨v, d, q1, q2, q3⟩ := l2 k t (by simpa using et)
        exact ⟨v, d, by simpa using q1, q2, q3⟩
  | _, _, ts, .sl h1 h2, h, hn => by cases hn
theorem args_one {F : Hp} : ∀ {vs : List V} {r : List Arg} {ts : List OT} {m i : Nat}, RepsR K F σ vs r → treesOf sd r = some ts → oneSlot r = some (m, i) → vs.length = ts.length ∧ (∃ t, ts[m]? = some t ∧ sd.tree i = some t) ∧ (∃ v, vs[m]? = some v ∧ σ[i]? = some (some v)) ∧
    ∀ (k : Nat) (t : OT), ts[k]? = some t → k ≠ m → ∃ v d, vs[k]? = some v ∧ t = .fz d ∧ Rep K F v d
  | _, _, ts, m, i, .nil, h, ho => by cases ho
  | _, _, ts, m, i, .fz (r := r) h1 h2, h, ho => by
    unfold treesOf at h
    unfold oneSlot at ho
    cases e : treesOf sd r with
    | none => rw [e] at h; cases h
    | some us =>
      rw [e] at h; cases h
      cases e2 : oneSlot r with
      | none => rw [e2] at ho; cases ho
      | some p =>
        rw [e2] at ho; cases ho
        obtain ⟨m', i'⟩ := p
        obtain ⟨l1, ⟨t, l2, l3⟩, ⟨v, l4, l5⟩, l6⟩ := args_one h2 e e2
        refine ⟨by rw [List.length_cons, List.length_cons, l1], ⟨t, by simpa using l2, l3⟩, ⟨v, by simpa using l4, l5⟩, fun k t et hk => ?_⟩
        cases k with
        | zero => simp at et; subst et; exact ⟨_, _, rfl, rfl, h1⟩
        | succ k =>
          obtain ⟨v, d, q1, q2, q3⟩ := l6 k t (by simpa using et) (fun z => hk (by show k + 1 = m' + 1; rw [z]))
          exact ⟨v, d, by simpa using q1, q2, q3⟩
  | _, _, ts, m, i, .sl (r := r) h1 h2, h, ho => by
    unfold treesOf at h
    unfold oneSlot at ho
    split at ho
    · rename_i hn
      cases ho
      cases e0 : sd.tree i with
      | none => rw [e0] at h; cases h
      | some t =>
        rw [e0] at h
        have h : (treesOf sd r).map (t :: ·) = some ts := h
        cases e : treesOf sd r with
        | none => rw [e] at h; cases h
        | some us =>
          rw [e] at h; cases h
          obtain ⟨l1, l2⟩ := args_no h2 e hn
          refine ⟨by rw [List.length_cons, List.length_cons, l1], ⟨t, rfl, rfl⟩, ⟨_, rfl, h1⟩, fun k t et hk => ?_⟩
          cases k with
          | zero => exact absurd rfl hk
          | succ k =>
            obtain ⟨v, d, q1, q2, q3⟩ := l2 k t (by simpa using et)
            exact ⟨v, d, by simpa using q1, q2, q3⟩
    · cases ho
/-- one tree is handed over -/
theorem StR.give1 {ts : List OT} {vs : List V} {m i : Nat} {t : OT} {v : V} (s : StR K pv G F sd σ H) (hl : vs.length = ts.length) (hm : ts[m]? = some t) (ht : sd.tree i = some t) (hv : vs[m]? = some v) (hs : σ[i]? = some (some v))
    (hr : ∀ (k : Nat) (t : OT), ts[k]? = some t → k ≠ m → ∃ v d, vs[k]? = some v ∧ t = .fz d ∧ Rep K F v d) :
    ∃ G', StR K vs G' F ⟨[], ts⟩ [] H ∧ (∀ (F' H' : Hp) (w : V) (u t' : OT) (sd1 : SD), Same F F' → StR1 K vs G' F' sd1 [] H' w u → sd1.pa[m]? = some t' → StR1 K pv G F' (sd.put i t') σ H' w u) ∧
      (∀ (F' H' : Hp) (t' : OT) (sd1 : SD), Same F F' → StR K vs G' F' sd1 [] H' → sd1.pa[m]? = some t' → StR K pv G F' (sd.put i t') σ H') := by
  classical
  obtain ⟨o, W⟩ := s
  obtain ⟨src, v0, h1, h2, h3⟩ := W.put ht
  rw [hs] at h1; cases h1
  let G' : Hp := fun a => if F a = none ∧ ¬ o src a then H a else none
  have g0 : ∀ a, F a = none → ¬ o src a → G' a = H a := fun a x y => if_pos ⟨x, y⟩
  have gn : ∀ a, G' a = none → F a ≠ none ∨ o src a ∨ H a = none := fun a z => by
    by_cases f : F a = none
    · by_cases q : o src a
      · exact .inr (.inl q)
      · rw [g0 a f q] at z; exact .inr (.inr z)
    · exact .inl f
  have back : ∀ (F' H' : Hp) (o' : Nat ⊕ Nat → Addr → Prop) (sd1 : SD) (t' : OT), Same F F' → Own K vs G' F' sd1 [] H' o' → sd1.pa[m]? = some t' → Own K pv G F' (sd.put i t') σ H' (fun x a => if x = src then o' (.inr m) a else o x a) ∧ ∀ x a, x ≠ src → o x a → G' a ≠ none := fun F' H' o' sd1 t' f W' et => by
    have ne : ∀ x a, x ≠ src → o x a → G' a = H a ∧ H a ≠ none := fun x a n q => by
      obtain ⟨k1, k2, k3⟩ := W.oh x a q
      exact ⟨g0 a k2 fun z => n (W.oo _ _ a q z), k1⟩
    have keep : ∀ x a, x ≠ src → o x a → H' a = H a := fun x a n q => by
      obtain ⟨k1, k2⟩ := ne x a n q
      cases e : H a with
      | none => exact absurd e k2
      | some u => exact W'.gh a u (by rw [k1]; exact e)
    have gG : ∀ a, G' a = none → F' a = none → G a = none := fun a z fa => by
      rcases gn a z with q | q | q
      · exact absurd (f.free fa) q
      · exact (W.oh _ a q).2.2
      · exact W.gh.free q
    refine ⟨?_, fun x a n q => by obtain ⟨k1, k2⟩ := ne x a n q; rw [k1]; exact k2⟩
    obtain ⟨v1, q1, q2⟩ := W'.pr m t' et
    rw [hv] at q1; cases q1
    refine h3 F' H' _ t' f W'.fh (fun a u e => ?_) (fun a ha => ?_) (fun x a q => ?_) (fun x y a q q' => ?_) (fun x n a q => ⟨by rw [if_neg n]; exact q, keep x a n q⟩) ?_ W'.tf
    · have hu := W.gh a u e
      have fa : F a = none := by
        cases e2 : F a with
        | none => rfl
        | some u2 => have := W.fg a (by rw [e2]; simp); rw [e] at this; cases this
      exact W'.gh a u (by rw [g0 a fa fun z => by rw [(W.oh _ a z).2.2] at e; cases e]; exact hu)
    · cases e : G a with
      | none => rfl
      | some u =>
        have hu := W.gh a u e
        have fa : F a = none := by
          cases e2 : F a with
          | none => rfl
          | some u2 => have := W.fg a (by rw [e2]; simp); rw [e] at this; cases this
        have := W'.fg a ha
        rw [g0 a fa (fun z => by rw [(W.oh _ a z).2.2] at e; cases e), hu] at this
        cases this
    · by_cases z : x = src
      · rw [if_pos z] at q
        obtain ⟨k1, k2, k3⟩ := W'.oh _ a q
        exact ⟨k1, k2, gG a k3 k2⟩
      · rw [if_neg z] at q
        obtain ⟨k1, k2⟩ := ne x a z q
        refine ⟨by rw [keep x a z q]; exact k2, ?_, (W.oh x a q).2.2⟩
        cases e : F' a with
        | none => rfl
        | some u =>
          have := W'.fg a (by rw [e]; simp)
          rw [k1] at this
          exact absurd this k2
    · by_cases z : x = src
      · rw [if_pos z] at q
        by_cases y' : y = src
        · rw [z, y']
        · rw [if_neg y'] at q'
          obtain ⟨k1, k2⟩ := ne y a y' q'
          exact absurd (W'.oh _ a q).2.2 (by rw [k1]; exact k2)
      · rw [if_neg z] at q
        by_cases y' : y = src
        · rw [if_pos y'] at q'
          obtain ⟨k1, k2⟩ := ne x a z q
          exact absurd (W'.oh _ a q').2.2 (by rw [k1]; exact k2)
        · rw [if_neg y'] at q'
          exact W.oo _ _ a q q'
    · exact q2.mono (Same.refl _) fun x hx => ⟨by show (if src = src then o' (.inr m) x else o src x); rw [if_pos rfl]; exact hx, rfl⟩
  refine ⟨G', ⟨fun x a => x = .inr m ∧ o src a, W.fh, fun a u e => ?_, fun a ha => ?_, fun x a q => ?_, fun x y a q q' => q.1.trans q'.1.symm, rfl, fun i t e => by simp at e, fun i j e => by simp at e, fun j t1 e => ?_, W.tf⟩, fun F' H' w u t' sd1 f ⟨o', P, W', r, k⟩ et => ?_, fun F' H' t' sd1 f ⟨o', W'⟩ et => ?_⟩
  · have e : (if F a = none ∧ ¬ o src a then H a else none) = some u := e
    split at e
    · exact e
    · cases e
  · exact if_neg fun z => ha z.1
  · obtain ⟨k1, k2, k3⟩ := W.oh _ a q.2
    exact ⟨k1, k2, if_neg fun z => z.2 q.2⟩
  · have e : ts[j]? = some t1 := e
    by_cases z : j = m
    · subst z
      rw [hm] at e; cases e
      exact ⟨_, hv, h2.mono (Same.refl _) fun x hx => ⟨⟨rfl, hx⟩, rfl⟩⟩
    · obtain ⟨v1, d, q1, q2, q3⟩ := hr j t1 e z
      subst q2
      refine ⟨v1, q1, ?_⟩
      unfold RepO
      exact q3
  · obtain ⟨W2, nn⟩ := back F' H' o' sd1 t' f W' et
    refine ⟨_, P, W2, r, fun a z => ?_⟩
    obtain ⟨k1, k2, k3, k4⟩ := k a z
    refine ⟨k1, k2, ?_, fun x q => ?_⟩
    · rcases gn a k3 with q | q | q
      · exact absurd (f.free k2) q
      · exact (W.oh _ a q).2.2
      · exact W.gh.free q
    · by_cases y : x = src
      · rw [if_pos y] at q; exact k4 _ q
      · rw [if_neg y] at q; exact nn x a y q k3
  · obtain ⟨W2, nn⟩ := back F' H' o' sd1 t' f W' et
    exact ⟨_, W2⟩
end
noncomputable def mCall1 (f : List OT → ER OT) (a : SD → ER (List Arg)) : SD → ER OT := fun sd => (a sd).bind fun args sd1 => match oneSlot args, treesOf sd1 args with
  | some (m, i), some ts => match f ts with
    | .ok t sd' => match sd'.pa[m]? with
      | some t' => .ok t (sd1.put i t')
      | none => .bad
    | .rz x sd' => match sd'.pa[m]? with
      | some t' => .rz x (sd1.put i t')
      | none => .bad
    | .bad => .bad
  | _, _ => .bad
section
variable {X : Cx} {pv : List V} {W : WX} {p q k l : Bool} {e a b : Expr} {es : List Expr}
theorem tr_call1 {n : Nat} {f : List OT → ER OT} {ta : TA} {mm : SD → ER (List Arg)} (hn : ∀ sd ds sd1, mm sd = .ok ds sd1 → ds.length = n) (h : TrR X.K pv W ta mm) :
    TrO X.K pv W false (fun σ H Q => ta σ H fun vs H1 => spD X.K n f vs H1 Q (WE W σ)) (mCall1 f mm) := by
  intro G F sd σ H Q s
  have z := h G F sd σ H (fun vs H1 => spD X.K n f vs H1 Q (WE W σ)) s
  unfold mCall1
  have hn := hn sd
  revert z hn
  cases mm sd with
  | bad => exact fun _ _ => True.intro
  | rz x sd1 => exact fun z _ => z
  | ok args sd1 =>
    intro z hn
    have hn := hn args sd1 rfl
    show Meets X.K pv W G σ (RSo X.K pv) false sd F H (match oneSlot args, treesOf sd1 args with
      | some (m, i), some ts => match f ts with
        | .ok t sd' => match sd'.pa[m]? with
          | some t' => .ok t (sd1.put i t')
          | none => .bad
        | .rz x sd' => match sd'.pa[m]? with
          | some t' => .rz x (sd1.put i t')
          | none => .bad
        | .bad => .bad
      | _, _ => .bad) Q _
    cases e1 : oneSlot args with
    | none => exact True.intro
    | some p =>
      obtain ⟨m, i⟩ := p
      cases e2 : treesOf sd1 args with
      | none => exact True.intro
      | some ts =>
        have main : ∀ vs F1 H1, Same F F1 → StR X.K pv G F1 sd1 σ H1 → RepsR X.K F1 σ vs args → vs.length = n ∧ ts.length = n ∧ ∃ G', StR X.K vs G' F1 ⟨[], ts⟩ [] H1 ∧ (∀ (F' H' : Hp) (w : V) (u t' : OT) (sd' : SD), Same F1 F' → StR1 X.K vs G' F' sd' [] H' w u → sd'.pa[m]? = some t' → StR1 X.K pv G F' (sd1.put i t') σ H' w u) ∧
            (∀ (F' H' : Hp) (t' : OT) (sd' : SD), Same F1 F' → StR X.K vs G' F' sd' [] H' → sd'.pa[m]? = some t' → StR X.K pv G F' (sd1.put i t') σ H') := fun vs F1 H1 s1 s2 s3 => by
          obtain ⟨l1, ⟨t, l2, l3⟩, ⟨v, l4, l5⟩, l6⟩ := args_one s3 e2 e1
          have la : vs.length = args.length := s3.length
          exact ⟨by omega, by omega, s2.give1 l1 l2 l3 l4 l5 l6⟩
        show Meets X.K pv W G σ (RSo X.K pv) false sd F H (match f ts with
          | .ok t sd' => match sd'.pa[m]? with
            | some t' => .ok t (sd1.put i t')
            | none => .bad
          | .rz x sd' => match sd'.pa[m]? with
            | some t' => .rz x (sd1.put i t')
            | none => .bad
          | .bad => .bad) Q _
        cases e : f ts with
        | bad => exact True.intro
        | rz x s' =>
          show Meets X.K pv W G σ (RSo X.K pv) false sd F H (match s'.pa[m]? with
            | some t' => .rz x (sd1.put i t')
            | none => .bad) Q _
          cases e3 : s'.pa[m]? with
          | none => exact True.intro
          | some t' =>
            intro hW
            refine z fun vs F1 H1 s1 s2 s3 s4 => ?_
            obtain ⟨a1, a2, G', g1, g2, g3⟩ := main vs F1 H1 s1 s2 s3
            refine ⟨a1, G', F1, ts, a2, g1, ?_⟩
            rw [e]
            exact fun cls dd F2 H2 t1 t2 t3 => hW cls dd F2 H2 (s1.trans t1) (g3 F2 H2 t' s' t1 t2 e3) t3
        | ok t s' =>
          show Meets X.K pv W G σ (RSo X.K pv) false sd F H (match s'.pa[m]? with
            | some t' => .ok t (sd1.put i t')
            | none => .bad) Q _
          cases e3 : s'.pa[m]? with
          | none => exact True.intro
          | some t' =>
            intro hQ
            refine z fun vs F1 H1 s1 s2 s3 s4 => ?_
            obtain ⟨a1, a2, G', g1, g2, g3⟩ := main vs F1 H1 s1 s2 s3
            refine ⟨a1, G', F1, ts, a2, g1, ?_⟩
            rw [e]
            exact fun v F2 H2 t1 t2 => hQ v F2 H2 (s1.trans t1) (g2 F2 H2 v t t' s' t1 t2 e3).drop (g2 F2 H2 v t t' s' t1 t2 e3) fun w => by cases w
theorem lenr_nil : ∀ sd ds sd1, rNil sd = .ok ds sd1 → ds.length = 0 := fun sd ds sd1 h => by cases h; rfl
theorem lenr_fz {ma : SD → ER D} {mr : SD → ER (List Arg)} {n : Nat} (h : ∀ sd ds sd1, mr sd = .ok ds sd1 → ds.length = n) : ∀ sd ds sd1, rFz ma mr sd = .ok ds sd1 → ds.length = n + 1 := fun sd ds sd1 e => by
  unfold rFz at e
  cases e1 : ma sd with
  | bad => rw [e1] at e; cases e
  | rz x s => rw [e1] at e; cases e
  | ok d s =>
    rw [e1] at e
    have e : (mr s).bind (fun xs sd2 => ER.ok (.fz d :: xs) sd2) = .ok ds sd1 := e
    cases e2 : mr s with
    | bad => rw [e2] at e; cases e
    | rz x s2 => rw [e2] at e; cases e
    | ok ys s2 =>
      rw [e2] at e
      cases e
      rw [List.length_cons, h s ys _ e2]
theorem lenr_slot {i : Nat} {mr : SD → ER (List Arg)} {n : Nat} (h : ∀ sd ds sd1, mr sd = .ok ds sd1 → ds.length = n) : ∀ sd ds sd1, rSlot i mr sd = .ok ds sd1 → ds.length = n + 1 := fun sd ds sd1 e => by
  unfold rSlot at e
  split at e
  · cases e2 : mr sd with
    | bad => rw [e2] at e; cases e
    | rz x s2 => rw [e2] at e; cases e
    | ok ys s2 =>
      rw [e2] at e
      cases e
      rw [List.length_cons, h sd ys _ e2]
  · cases e
theorem do_call1 {n j : Nat} {f : Addr} {fd : FuncData} {ps : List Str} {x : Str} {pp pos : Pos} {g : List OT → ER OT} {m : SD → ER (List Arg)} (F : FnG X.prog X.w X.K X.mg X.base (L2.CX X.prog X.w) j f fd ps (spD X.K n g)) (hr : RoomG j X.A) (hg : Gl X x)
    (hm : X.mg x = some (.ref f)) (hk : PySem.W.keepIn X.K (.ref f) = true) (hb : Binds X.K fd ps []) (tk : Takes X W) (ha : DR X pv W (e :: es) m) (hn : ∀ sd ds sd1, m sd = .ok ds sd1 → ds.length = n)
    (hdb : (x == ("__debug__" : Str)) = false := by decide) (he : starEach (e :: es) X.env = (false, eval e X.env) :: starEach es X.env := by rfl) (hpl : (backTo pos (starEach es X.env)).any (·.1) = false := by rfl) :
    DO X pv W false (.Call (.Name x pp) (e :: es) [] pos) (mCall1 g m) := by
  obtain ⟨ta, a1, a2⟩ := ha
  exact ⟨_, pe_callG F hr hg hm hk hb tk a1 hdb he hpl, tr_call1 hn a2⟩
end
end DL
namespace DL
open PySem PySem.Spec L2
noncomputable def mFz (m : SD → ER OT) : SD → ER OT := mOwn (mView m)
theorem tr_fz {K : PySem.W.Frag} {pv : List V} {W : WX} {p : Bool} {te : TE} {m : SD → ER OT} (h : TrO K pv W p te m) : TrO K pv W p te (mFz m) := by
  intro G F sd σ H Q s
  refine Meets.imp (f := fun t => OT.fz t.view) (h G F sd σ H Q s) id ?_ fun v F1 H1 t sd1 _ s1 s2 s3 s4 hQ => ?_
  · unfold mFz mOwn mView
    cases m sd <;> rfl
  · obtain ⟨F2, t1, t2, t3⟩ := StR1.frz s3
    exact hQ v F2 H1 t1 t2 (StR1.fz t2 t3) (Same.refl _)
section
variable {X : Cx} {pv : List V} {W : WX} {p q k l pc pe pi1 pc1 : Bool} {e tg iter tg1 iter1 elt : Expr} {ifs ifs1 : List Expr} {scope : Scope} {pos : Pos}
theorem DO.fz {m : SD → ER OT} (h : DO X pv W p e m) : DO X pv W p e (mFz m) := by
  obtain ⟨te, h1, h2⟩ := h
  exact ⟨te, h1, tr_fz h2⟩
theorem ds_setCompF {own : List (Str × Nat)} {is : List Nat} {i : Nat} {y : Str} {py spos : Pos} {mi : SD → ER (List D)} {g : D → SD → Option SD} {mc : SD → ER Bool} {me : SD → ER D} (hc : X.calm = true) (hN : X.N.Nodup) (hy : X.N[i]? = some y) (hyl : X.env.scope.names.lookup y = some .local)
    (hsw : swapsWith (.ListComp elt [⟨tg, iter, ifs, 0⟩] scope pos) (some (.Name y py)) spos.line X.env = pure true) (hi : DI X pv W p tg iter mi) (ok : BlkOk X.N X.env.scope scope own)
    (hg : ∀ (s : Shared) (H : Hp) (C : Addr) (cl : List (Str × Addr)) (fp : List Addr), DG (X.blk s H scope (compEnvC scope cl C X.env) fp) is tg g)
    (ht : ∀ (s : Shared) (H : Hp) (C : Addr) (cl : List (Str × Addr)) (fp : List Addr), DTs (X.blk s H scope (compEnvC scope cl C X.env) fp) pv W0 pc ifs mc)
    (he : ∀ (s : Shared) (H : Hp) (C : Addr) (cl : List (Str × Addr)) (fp : List Addr), DX (X.blk s H scope (compEnvC scope cl C X.env) fp) pv W0 pe true elt me) (his : ∀ i ∈ is, i ∈ own.map (·.2))
    (wip : ∀ (vs : List Nat), (∀ i ∈ is, i ∈ vs) → ∀ d sd sd', g d sd = some sd' → SD.wipe sd' vs = SD.wipe sd vs)
    (hs : ∀ x, foldedSetIterable iter X.env x = pure x := by intro _; rfl) :
    DS X pv W (.Assign [.Name y py] (.ListComp elt [⟨tg, iter, ifs, 0⟩] scope pos) spos) (sSet i (mFz (mComp mi g mc me (own.map (·.2))))) := by
  obtain ⟨wi, a1, a2⟩ := hi
  exact ⟨_, ps_setLc hc hN hy hyl hsw a1 ok (fun s H C cl fp => (hg s H C cl fp).can) (fun s H C cl fp => (ht s H C cl fp).run) (fun s H C cl fp => (he s H C cl fp).can) hs, tr_set (tr_fz (comp_tr a2 canG_run wip canT_tr canX_tr his))⟩
/-- what holds of targets in any context -/
theorem tgN_wip {i : Nat} : ∀ (vs : List Nat), (∀ j ∈ [i], j ∈ vs) → ∀ d sd sd', tgN i d sd = some sd' → SD.wipe sd' vs = SD.wipe sd vs := fun vs h d sd sd' e => by
  unfold tgN SD.putFz at e
  split at e
  · cases e
    show SD.mk (wipeS (sd.sl.set i _) vs) sd.pa = SD.mk (wipeS sd.sl vs) sd.pa
    rw [wipeS_set (h i List.mem_cons_self)]
  · cases e
noncomputable abbrev Wip (is : List Nat) (g : D → SD → Option SD) : Prop := ∀ (vs : List Nat), (∀ j ∈ is, j ∈ vs) → ∀ d sd sd', g d sd = some sd' → SD.wipe sd' vs = SD.wipe sd vs
noncomputable abbrev Wips (is : List Nat) (g : List D → SD → Option SD) : Prop := ∀ (vs : List Nat), (∀ j ∈ is, j ∈ vs) → ∀ d sd sd', g d sd = some sd' → SD.wipe sd' vs = SD.wipe sd vs
theorem wip_name {i : Nat} : Wip [i] (tgN i) := tgN_wip
theorem wip_nil : Wips [] tgNil := fun vs h d sd sd' e => by
  unfold tgNil at e
  cases d with
  | nil => cases e; rfl
  | cons _ _ => cases e
theorem wip_cons {is js : List Nat} {g : D → SD → Option SD} {h : List D → SD → Option SD} (a : Wip is g) (b : Wips js h) : Wips (is ++ js) (tgCons g h) := fun vs hv d sd sd' e => by
  cases d with
  | nil => cases e
  | cons d ds =>
    obtain ⟨sd1, e1, e2⟩ := Option.bind_eq_some_iff.mp e
    rw [b vs (fun i hi => hv i (List.mem_append_right _ hi)) _ _ _ e2, a vs (fun i hi => hv i (List.mem_append_left _ hi)) _ _ _ e1]
theorem wip_tup {is : List Nat} {n : Nat} {h : List D → SD → Option SD} (a : Wips is h) : Wip is (tgT n h) := fun vs hv d sd sd' e => by
  unfold tgT at e
  cases d with
  | tup ds =>
    have e : (if ds.length = n then h ds sd else none) = some sd' := e
    split at e
    · exact a vs hv _ _ _ e
    · cases e
  | ktu ds =>
    have e : (if ds.length = n then h ds sd else none) = some sd' := e
    split at e
    · exact a vs hv _ _ _ e
    · cases e
  | _ => cases e
end
/-- a def at its name -/
structure Fd (K : PySem.W.Frag) (mg : Str → Option Value) (x : Str) (st : Stmt) (f : Addr) (fd : FuncData) (ps : List Str) : Prop where
  F : Fun K x x st f fd
  g : mg x = some (.ref f)
  b : Binds K fd ps []
theorem bo_all : bootBuiltins "all" = some (.builtin "all") := by decide +kernel
theorem bo_isinstance : bootBuiltins "isinstance" = some (.builtin "isinstance") := by decide +kernel
theorem bo_len : bootBuiltins "len" = some (.builtin "len") := by decide +kernel
theorem bo_max : bootBuiltins "max" = some (.builtin "max") := by decide +kernel
theorem bo_int : bootBuiltins "int" = some (.type "int") := by decide +kernel
theorem bo_str : bootBuiltins "str" = some (.type "str") := by decide +kernel
theorem bo_tuple : bootBuiltins "tuple" = some (.type "tuple") := by decide +kernel
theorem iop_addX {X : Cx} : OpR X (inplaceOp .Add) rAddX := iop_add.or iop_add_str
end DL
namespace DL
open PySem PySem.Spec L2
theorem law_sp {K : PySem.W.Frag} {H : Hp} {a : Addr} {ns : List Int} {m : List OT → ER OT} (hS : SqL K H a (ns.map V.int)) (h : ∃ sd, m [.fz (.scr ns)] = .ok (.fz (.bl true)) sd) : spD K 1 m [.ref a] H (fun v _ => v = .bl true) fun _ _ _ => False := by
  obtain ⟨sd, h⟩ := h
  have st : StR K [.ref a] (fun _ => none) H ⟨[], [.fz (.scr ns)]⟩ [] H := by
    refine ⟨fun _ _ => False, Same.refl _, fun b u e => ?_, fun _ _ => rfl, fun i b q => False.elim q, fun i j b q => False.elim q, rfl, fun i t e => ?_, fun i j e => ?_, fun j t e => ?_, fun _ _ e => e⟩
    · exact nomatch (show (none : Option HO) = some u from e)
    · have e : ([] : List S)[i]? = some (.ow t) := e
      simp at e
    · have e : ([] : List S)[i]? = some (.pa j) := e
      simp at e
    · have e : [OT.fz (.scr ns)][j]? = some t := e
      cases j with
      | zero =>
        have e : some (OT.fz (.scr ns)) = some t := e
        cases e
        refine ⟨_, rfl, ?_⟩
        unfold RepO
        exact .scr hS
      | succ j => simp at e
  refine ⟨rfl, fun _ => none, H, [.fz (.scr ns)], rfl, st, ?_⟩
  rw [h]
  intro v F' H' _ s
  obtain ⟨o, P, W, r, _⟩ := s
  unfold RepO at r
  cases r
  rfl
end DL
namespace DL
open PySem PySem.Spec L2
theorem goComp_of {α : Type} {g : D → SD → Option SD} {c : SD → ER Bool} {elt : SD → ER D} {vs : List Nat} {w : SD} (e : α → D) (b : α → Bool) (f : α → D) : ∀ (xs : List α) (acc : List D) (sd : SD), sd.wipe vs = w → acc.length + xs.length ≤ 16777216 →
    (∀ x ∈ xs, ∃ sda, g (e x) w = some sda ∧ sda.wipe vs = w ∧ c sda = .ok (b x) sda ∧ (b x = true → elt sda = .ok (f x) sda)) →
    ∃ sd', goComp g c elt vs (xs.map e) acc sd = .ok (acc ++ (xs.filter b).map f) sd' ∧ sd'.wipe vs = w
  | [], acc, sd, hw, _, _ => ⟨sd, by rw [List.map_nil, goComp]; simp, hw⟩
  | x :: xs, acc, sd, hw, hl, h => by
    obtain ⟨sda, h1, h2, h3, h4⟩ := h x List.mem_cons_self
    rw [List.map_cons, goComp, hw, h1]
    dsimp only
    rw [h3]
    have hl' : acc.length + (xs.length + 1) ≤ 16777216 := hl
    cases hb : b x with
    | false =>
      obtain ⟨sd', q1, q2⟩ := goComp_of e b f xs acc sda h2 (by omega) fun y hy => h y (List.mem_cons_of_mem _ hy)
      refine ⟨sd', ?_, q2⟩
      simp only [ER.calm, ER.bind, Bool.false_eq_true, if_false]
      rw [q1, List.filter_cons, hb]
      rfl
    | true =>
      obtain ⟨sd', q1, q2⟩ := goComp_of e b f xs (acc ++ [f x]) sda h2 (by rw [List.length_append]; show acc.length + 1 + xs.length ≤ _; omega) fun y hy => h y (List.mem_cons_of_mem _ hy)
      refine ⟨sd', ?_, q2⟩
      simp only [ER.calm, ER.bind, if_true, h4 hb]
      rw [if_pos (by omega), q1, List.filter_cons, hb, if_pos rfl, List.map_cons, List.append_assoc]
      rfl
theorem mComp_of {α : Type} {mi : SD → ER (List D)} {g : D → SD → Option SD} {c : SD → ER Bool} {elt : SD → ER D} {vs : List Nat} {sd sd1 : SD} (xs : List α) (e : α → D) (b : α → Bool) (f : α → D) (hi : mi sd = .ok (xs.map e) sd1) (hl : xs.length ≤ 16777216)
    (h : ∀ x ∈ xs, ∃ sda, g (e x) (sd1.wipe vs) = some sda ∧ sda.wipe vs = sd1.wipe vs ∧ c sda = .ok (b x) sda ∧ (b x = true → elt sda = .ok (f x) sda)) :
    mComp mi g c elt vs sd = .ok (.ol (((xs.filter b).map f).map .fz)) sd1 := by
  obtain ⟨sd', q1, q2⟩ := goComp_of e b f xs [] sd1 rfl (by simpa using hl) h
  unfold mComp
  rw [hi]
  show (goComp g c elt vs (xs.map e) [] sd1).bind _ = _
  rw [q1]
  show ER.ok (OT.ol (([] ++ (xs.filter b).map f).map .fz)) (sd'.back sd1 vs) = _
  rw [back_self q2, List.nil_append]
/-- no test -/
theorem mComp_map {α : Type} {mi : SD → ER (List D)} {g : D → SD → Option SD} {elt : SD → ER D} {vs : List Nat} {sd sd1 : SD} (xs : List α) (e : α → D) (f : α → D) (hi : mi sd = .ok (xs.map e) sd1) (hl : xs.length ≤ 16777216)
    (h : ∀ x ∈ xs, ∃ sda, g (e x) (sd1.wipe vs) = some sda ∧ sda.wipe vs = sd1.wipe vs ∧ elt sda = .ok (f x) sda) :
    mComp mi g mYes elt vs sd = .ok (.ol ((xs.map f).map .fz)) sd1 := by
  have z := mComp_of (mi := mi) (c := mYes) xs e (fun _ => true) f hi hl fun x hx => by
    obtain ⟨sda, h1, h2, h3⟩ := h x hx
    exact ⟨sda, h1, h2, rfl, fun _ => h3⟩
  rw [List.filter_eq_self.mpr fun _ _ => rfl] at z
  exact z
/-- a loop by an invariant over what is still to come -/
theorem goFor_inv {α : Type} {g : D → SD → Option SD} {body : SD → Fl} (e : α → D) (I : List α → SD → Prop) (h : ∀ x r sd, I (x :: r) sd → ∃ sda sdb, g (e x) sd = some sda ∧ (body sda = .nx sdb ∨ body sda = .ct sdb) ∧ I r sdb) : ∀ (xs : List α) (sd : SD), I xs sd → ∃ sd', goFor g body (xs.map e) sd = .nx sd' ∧ I [] sd'
  | [], sd, hi => ⟨sd, by rw [List.map_nil, goFor], hi⟩
  | x :: xs, sd, hi => by
    obtain ⟨sda, sdb, h1, h2, h3⟩ := h x xs sd hi
    obtain ⟨sd', q1, q2⟩ := goFor_inv e I h xs sdb h3
    refine ⟨sd', ?_, q2⟩
    rw [List.map_cons, goFor, h1]
    dsimp only
    rcases h2 with h2 | h2 <;> rw [h2] <;> exact q1
theorem sFor_inv {α : Type} {it : SD → ER (List D)} {g : D → SD → Option SD} {body : SD → Fl} {sd sd1 : SD} (xs : List α) (e : α → D) (I : List α → SD → Prop) (hi : it sd = .ok (xs.map e) sd1) (h0 : I xs sd1) (h : ∀ x r sd, I (x :: r) sd → ∃ sda sdb, g (e x) sd = some sda ∧ (body sda = .nx sdb ∨ body sda = .ct sdb) ∧ I r sdb) :
    ∃ sd', sFor it g body sd = .nx sd' ∧ I [] sd' := by
  unfold sFor
  rw [hi]
  exact goFor_inv e I h xs sd1 h0
theorem seq_nx {a b : SD → Fl} {sd sd1 : SD} {r : Fl} (h : a sd = .nx sd1) (h2 : b sd1 = r) : sSeq a b sd = r := by
  unfold sSeq
  rw [h]
  exact h2
/-- slices -/
theorem cut_from1 {α : Type} (xs : List α) : cutL xs (some 1) none = xs.drop 1 := by
  unfold cutL
  rw [show HT.sIx xs.length 0 (some 1) = min 1 xs.length from HT.sIx_nat _ _ 1, show HT.sIx xs.length xs.length none = xs.length from rfl]
  cases xs with
  | nil => rfl
  | cons a r => simp
theorem cut_to1 {α : Type} (xs : List α) : cutL xs none (some 1) = xs.take 1 := by
  unfold cutL
  rw [show HT.sIx xs.length xs.length (some 1) = min 1 xs.length from HT.sIx_nat _ _ 1, show HT.sIx xs.length 0 none = 0 from rfl]
  cases xs with
  | nil => rfl
  | cons a r => simp
end DL
namespace DL
open PySem PySem.Spec L2
noncomputable def callFz (f : List OT → ER OT) (ds : List D) (sd : SD) : ER OT := match f (ds.map .fz) with
  | .ok t _ => .ok t sd
  | .rz x _ => .rz x sd
  | .bad => .bad
section
variable {K : PySem.W.Frag} {pv : List V} {W : WX} {G F H : Hp} {σ : L2.St} {sd : SD}
theorem meets_call {n : Nat} {f : List OT → ER OT} {vs : List V} {ds : List D} {Q : VK} (s : StR K pv G F sd σ H) (r : Reps K F vs ds) (hn : ds.length = n) : Meets K pv W G σ (RSo K pv) true sd F H (callFz f ds sd) Q (spD K n f vs H Q (WE W σ)) := by
  obtain ⟨G', g1, g2, g3⟩ := s.give (ts := ds.map .fz) (vs := vs) ⟨by rw [map_view_fz]; exact r, all_fz ds⟩
  unfold callFz
  cases e : f (ds.map .fz) with
  | bad => exact True.intro
  | rz x s' =>
    intro hW
    refine ⟨by rw [r.length, hn], G', F, ds.map .fz, by rw [List.length_map, hn], g1, ?_⟩
    rw [e]
    intro cls dd F2 H2 t1 t2 t3
    obtain ⟨u1, u2⟩ := g3 F2 H2 s' t1 t2
    exact hW cls dd F2 H2 t1 u1 t3
  | ok t s' =>
    intro hQ
    refine ⟨by rw [r.length, hn], G', F, ds.map .fz, by rw [List.length_map, hn], g1, ?_⟩
    rw [e]
    intro v F2 H2 t1 t2
    obtain ⟨u1, u2⟩ := g2 F2 H2 v t s' t1 t2
    exact hQ v F2 H2 t1 u1.drop u1 fun _ => ⟨u2, rfl⟩
end
noncomputable def mMake (C : Addr) (f : List OT → ER OT) (a : SD → ER (List D)) : SD → ER OT := fun sd => (a sd).bind fun ds sd1 => match f (.oi C [] [] :: ds.map .fz) with
  | .ok (.fz .non) sd' => match sd'.pa[0]? with
    | some t => .ok t sd1
    | none => .bad
  | .rz x sd' => match sd'.pa[0]? with
    | some _ => .rz x sd1
    | none => .bad
  | _ => .bad
section
variable {X : Cx} {pv : List V} {W : WX} {p q k l : Bool} {e a b : Expr} {es : List Expr} {pos : Pos}
theorem run_makeS {C f : Addr} {fd : FuncData} {ps : List Str} {sp : Sp} {E : L2.St → XK} {k : Nat} {pins : List (Addr × Obj)} {σ : L2.St} {H : Hp} {s : Shared} {Q : VK} {us : List Value} {vs : List V} (M : Mk X.K C f) (F : FnG X.prog X.w X.K X.mg X.base (L2.CX X.prog X.w) k f fd ps sp) (hr : RoomG (k + 1) X.A) (hb : Binds X.K fd ps [])
    (hx : PassesAt (L2.CX X.prog X.w) X σ (E σ)) (I : Inv X pins σ H s) (r : Vals vs us)
    (h : ∀ x dx, H x = none → H dx = none → dx ≠ x → sp (.ref x :: vs) (upd (upd H dx (.own x)) x (.ins C dx [])) (fun v H2 => v = .non ∧ Q (.ref x) H2) (E σ)) :
    wpAny (model X.prog X.w) X.A (call (.ref C) us) (EP X pins σ Q) X.xe s := by
  have hq := h (s.heap.objs.size + 1) s.heap.objs.size (I.hok.fresh (Nat.le_succ _)) (I.hok.fresh (Nat.le_refl _)) (Nat.ne_of_lt (Nat.lt_succ_self _))
  have I2 := Inv.made (C := C) I
  have r2 : Vals (V.ref (s.heap.objs.size + 1) :: vs) (Value.ref (s.heap.objs.size + 1) :: us) := .cons rfl r
  have hl : (Value.ref (s.heap.objs.size + 1) :: us).length = ps.length := by
    have e := r2.length
    rw [F.len _ _ _ _ hq] at e
    exact e.symm
  have hb1 := hb _ (Value.ref (s.heap.objs.size + 1) :: us) I2.kIn (by rw [List.append_nil]; exact hl)
  rw [List.append_nil] at hb1
  refine wpAny_call (make_map (f := f) I.kIn M.makes M.init (beq_iff_eq.mp M.fn) (codeAny_mono (F.run _ X.stack _ _ ⟨Value.ref (s.heap.objs.size + 1) :: us, []⟩ (Value.ref (s.heap.objs.size + 1) :: us) _ _ (E σ) (hr.make C us [])
    (I2.env0.make C us []) hb1 r2 hq) fun r s' hq' => ?_))
  cases r with
  | error e => exact hx pins _ _ e s' I2 hq'
  | ok fl =>
    cases fl with
    | ret u =>
      obtain ⟨v, H', I3, rv, ev, q3⟩ := I2.after hq'
      subst ev
      exact ⟨rv, ⟨V.ref (s.heap.objs.size + 1), H', I3, rfl, q3⟩⟩
    | next => exact False.elim hq'
    | brk => exact False.elim hq'
    | cont => exact False.elim hq'
end
theorem cx_none {P : Program} {w : World} {outer : List Env} {H : Hp} {s s' : Shared} {e : Value} (z : L2.CX P w outer H s (fun _ _ _ => False) e s') : False := by
  obtain ⟨_, _, _, _, _, _, _, _, _, _, _, _, q⟩ := z
  exact q
section
variable {X : Cx} {f : Addr} {fd : FuncData} {ps : List Str} {sp : Sp} {j : Nat} {pins : List (Addr × Obj)} {σ : L2.St} {H : Hp} {s : Shared} {Q : VK} {E : Value → Shared → Prop} {us : List Value} {vs : List V}
theorem code_at {A : Around} (F : FnG X.prog X.w X.K X.mg X.base (L2.CX X.prog X.w) j f fd ps sp) (hr : RoomG j A) (he : Env0 X.prog X.w X.K X.mg X.base A X.stack s H) (hb : Binds X.K fd ps []) (I : Inv X pins σ H s) (r : Vals vs us) (h : sp vs H Q fun _ _ _ => False) :
    codeAny (model X.prog X.w) A (.call (.ref f) ⟨us, []⟩) (wants (EP X pins σ Q) E) s := by
  have hl : (us ++ []).length = ps.length := by rw [List.append_nil, ← r.length, F.len _ _ _ _ h]
  have b := hb s us I.kIn hl
  rw [List.append_nil] at b
  refine codeAny_mono (F.run A X.stack s H ⟨us, []⟩ us vs Q _ hr he b r h) fun res s2 hq => ?_
  cases res with
  | error e => exact (cx_none hq).elim
  | ok fl =>
    cases fl with
    | ret u => exact I.after hq
    | next => exact hq.elim
    | brk => exact hq.elim
    | cont => exact hq.elim
theorem run_0 (F : FnG X.prog X.w X.K X.mg X.base (L2.CX X.prog X.w) j f fd ps sp) (hr : RoomG j X.A) (hb : Binds X.K fd ps []) (I : Inv X pins σ H s) (r : Vals vs us) (h : sp vs H Q fun _ _ _ => False) : wpAny (model X.prog X.w) X.A (call (.ref f) us) (EP X pins σ Q) E s := wpAny_call (code_at F hr I.env0 hb I r h)
theorem run_1 (F : FnG X.prog X.w X.K X.mg X.base (L2.CX X.prog X.w) j f fd ps sp) (hr : RoomG (j + 1) X.A) (hb : Binds X.K fd ps []) (I : Inv X pins σ H s) (r : Vals vs us) (h : sp vs H Q fun _ _ _ => False) : wpAny (model X.prog X.w) X.A.in1 (call (.ref f) us) (EP X pins σ Q) E s := wpAny_call (code_at F hr.in1 I.env0.in1 hb I r h)
end
end DL
namespace DL
open PySem PySem.Spec L2
noncomputable def fldD {α : Type} (f : Str) : List Str → List α → Option α
  | n :: ns, v :: vs => if n = f then some v else fldD f ns vs
  | _, _ => none
theorem lookup_head {α : Type} {f g : Str} {v : α} {r : List (Str × α)} : List.lookup f ((g, v) :: r) = if g = f then some v else List.lookup f r := by
  by_cases h : g = f
  · subst h
    rw [if_pos rfl]
    simp [List.lookup]
  · rw [if_neg h]
    have : (f == g) = false := by simpa using fun z : f = g => h z.symm
    simp [List.lookup, this]
theorem fldD_rep {K : PySem.W.Frag} {F : Hp} {f : Str} {d : D} : ∀ {fs : List (Str × V)} {vs : List D}, Reps K F (fs.map (·.2)) vs → fldD f (fs.map (·.1)) vs = some d → ∃ v, fs.lookup f = some v ∧ Rep K F v d
  | [], vs, r, h => by
    cases r
    cases h
  | (n, v) :: fs, vs, r, h => by
    cases r with
    | cons r1 r2 =>
      rw [List.map_cons, fldD] at h
      rw [lookup_head]
      by_cases e : n = f
      · rw [if_pos e] at h ⊢
        cases h
        exact ⟨v, rfl, r1⟩
      · rw [if_neg e] at h ⊢
        exact fldD_rep r2 h
noncomputable def mFld (ok : Addr → Bool) (f : Str) (a : SD → ER D) : SD → ER D := fun sd => (a sd).bind fun x sd1 => match x with
  | .ins C ns vs => if ok C = true then ER.opt (fldD f ns vs) sd1 else .bad
  | _ => .bad
/-- the place of a name -/
noncomputable def idxN (f : Str) : List Str → Option Nat
  | [] => none
  | n :: ns => if n = f then some 0 else (idxN f ns).map (· + 1)
noncomputable def putO (C : Addr) (f : Str) (t : OT) (ns : List Str) (ts : List OT) : OT := match idxN f ns with
  | some k => .oi C ns (ts.set k t)
  | none => .oi C (ns ++ [f]) (ts ++ [t])
theorem putF_some {f : Str} {y : V} : ∀ {fs : List (Str × V)} {k : Nat}, idxN f (fs.map (·.1)) = some k → (putF f y fs).map (·.1) = fs.map (·.1) ∧ (putF f y fs).map (·.2) = (fs.map (·.2)).set k y
  | [], k, h => by cases h
  | (n, v) :: fs, k, h => by
    rw [List.map_cons, idxN] at h
    unfold putF
    by_cases e : n = f
    · rw [if_pos e] at h ⊢
      cases h
      subst e
      exact ⟨rfl, rfl⟩
    · rw [if_neg e] at h ⊢
      obtain ⟨j, e1, e2⟩ := Option.map_eq_some_iff.mp h
      subst e2
      obtain ⟨h1, h2⟩ := putF_some (y := y) e1
      exact ⟨by rw [List.map_cons, h1]; rfl, by rw [List.map_cons, h2]; rfl⟩
theorem putF_none {f : Str} {y : V} : ∀ {fs : List (Str × V)}, idxN f (fs.map (·.1)) = none → (putF f y fs).map (·.1) = fs.map (·.1) ++ [f] ∧ (putF f y fs).map (·.2) = fs.map (·.2) ++ [y]
  | [], h => ⟨rfl, rfl⟩
  | (n, v) :: fs, h => by
    rw [List.map_cons, idxN] at h
    unfold putF
    by_cases e : n = f
    · rw [if_pos e] at h; cases h
    · rw [if_neg e] at h ⊢
      have e1 : idxN f (fs.map (·.1)) = none := by
        cases e2 : idxN f (fs.map (·.1)) with
        | none => rfl
        | some j => rw [e2] at h; cases h
      obtain ⟨h1, h2⟩ := putF_none (y := y) e1
      exact ⟨by rw [List.map_cons, h1]; rfl, by rw [List.map_cons, h2]; rfl⟩
section
variable {K : PySem.W.Frag} {pv : List V} {G F H : Hp} {sd : SD} {σ : L2.St}
theorem StR1.fset {i : Nat} {C : Addr} {ns : List Str} {ts : List OT} {t2 : OT} {v2 : V} (s : StR1 K pv G F sd σ H v2 t2) (h : sd.tree i = some (.oi C ns ts)) : ∃ (a dx : Addr) (fs : List (Str × V)), σ[i]? = some (some (.ref a)) ∧ H a = some (.ins C dx fs) ∧ fs.map (·.1) = ns ∧ fs.length = ns.length ∧
    ∀ f, StR K pv G F (sd.put i (putO C f t2 ns ts)) σ (upd H a (.ins C dx (putF f v2 fs))) := by
  obtain ⟨v, P, P2, h1, h2, r2, d, hn, hn2, go⟩ := s.mut h
  unfold RepO at h2
  obtain ⟨a, dx, fs, rfl, pa, ha, hns, r⟩ := h2
  have main : ∀ (gs : List (Str × V)) (ns' : List Str) (ts' : List OT), gs.map (·.1) = ns' → RepOs K F H ts' (gs.map (·.2)) (fun x => (P x ∧ x ≠ a) ∨ P2 x) → StR K pv G F (sd.put i (.oi C ns' ts')) σ (upd H a (.ins C dx gs)) := fun gs ns' ts' hg rr => by
    refine go _ _ (fun x hx u e => by rw [upd_ne (fun z => hx (by rw [z]; exact pa))]; exact e) (fun x hx => ?_) ?_
    · by_cases z : x = a
      · rw [z, upd_same]; simp
      · rw [upd_ne z]; exact hn x hx
    · unfold RepO
      refine ⟨a, dx, gs, rfl, .inl pa, upd_same, hg.symm, rr.mono (Same.refl _) fun x hx => ?_⟩
      have ne : x ≠ a := by
        rcases hx with hx | hx
        · exact hx.2
        · exact fun z => d a pa (by rw [← z]; exact hx)
      exact ⟨⟨hx.imp And.left id, ne⟩, upd_ne ne⟩
  refine ⟨a, dx, fs, h1, ha, hns.symm, by rw [hns, List.length_map], fun f => ?_⟩
  unfold putO
  subst hns
  cases e : idxN f (fs.map (·.1)) with
  | some k =>
    obtain ⟨q1, q2⟩ := putF_some (y := v2) e
    exact main _ _ _ q1 (by rw [q2]; exact repOs_set k r r2 fun x q => d x q.1)
  | none =>
    obtain ⟨q1, q2⟩ := putF_none (y := v2) e
    exact main _ _ _ q1 (by rw [q2]; exact repOs_app r r2 fun x q => d x q.1)
end
noncomputable def sFldSet (ok : Addr → Bool) (i : Nat) (f : Str) (m : SD → ER OT) : SD → Fl := fun sd => (m sd).stm fun t sd1 => match sd1.tree i with
  | some (.oi C ns ts) => if ok C = true ∧ ns.length < 1000 then .nx (sd1.put i (putO C f t ns ts)) else .bad
  | _ => .bad
section
variable {X : Cx} {pv : List V} {W : WX} {p q k l : Bool} {e a b : Expr} {es : List Expr} {pos : Pos}
theorem dx_fld {ok : Addr → Bool} {f : Str} {m : SD → ER D} (h : DX X pv W p k e m) (hf : ∀ C, ok C = true → Cls X.K C ∧ NoAttr X.K C f) (hb : attributeBase e f X.env (eval e X.env) = eval e X.env := by rfl) : DX X pv W p k (.Attribute e f pos) (mFld ok f m) := by
  obtain ⟨te, a1, a2⟩ := h
  refine ⟨_, pe_fld a1 hb, fun G F sd σ H Q s => ?_⟩
  refine Meets.bindL (a2 G F sd σ H _ s) fun x F1 H1 dx sd1 s1 s2 s3 s4 => ?_
  split
  · rename_i C ns vs
    split
    · rename_i hok
      obtain ⟨c1, c2⟩ := hf C hok
      cases e1 : fldD f ns vs with
      | none => exact True.intro
      | some d =>
        have main : ∀ Fz : Hp, Same Fz H1 → Rep X.K Fz x (.ins C ns vs) → ∃ a dx fs v, x = .ref a ∧ H1 a = some (.ins C dx fs) ∧ fs.lookup f = some v ∧ Rep X.K Fz v d := fun Fz hs r => by
          cases r with
          | @ins a C dx fs _ ha rr =>
            obtain ⟨v, k1, k2⟩ := fldD_rep rr e1
            exact ⟨a, dx, fs, v, rfl, hs _ _ ha, k1, k2⟩
        cases k with
        | true =>
          obtain ⟨a, dx, fs, v, k1, k2, k3, k4⟩ := main F1 s2.fh s3
          exact Meets.here s2 (show RSx X.K true G F1 sd1 H1 σ v d from k4) fun q => ⟨a, C, dx, fs, v, k1, k2, c1, c2, k3, q⟩
        | false =>
          obtain ⟨a, dx, fs, v, k1, k2, k3, k4⟩ := main H1 (Same.refl _) s3
          exact Meets.here s2 (show RSx X.K false G F1 sd1 H1 σ v d from k4) fun q => ⟨a, C, dx, fs, v, k1, k2, c1, c2, k3, q⟩
    · exact True.intro
  · exact True.intro
theorem ds_fld {ok : Addr → Bool} {f : Str} {i : Nat} {x : Str} {pp ap : Pos} {m : SD → ER OT} (hx : PE X (.Name x pp) (tVar i)) (he : DO X pv W p e m) (hf : ∀ C, ok C = true → Cls X.K C ∧ NoAttr X.K C f)
    (hs : swapsWith e (some (.Attribute (.Name x pp) f ap)) pos.line X.env = pure false := by rfl) : DS X pv W (.Assign [.Attribute (.Name x pp) f ap] e pos) (sFldSet ok i f m) := by
  obtain ⟨te, a1, a2⟩ := he
  refine ⟨_, ps_fld hx a1 hs, fun G F sd σ H D s => ?_⟩
  refine Meets.stm (a2 G F sd σ H _ s) fun v F1 H1 t sd1 s1 s2 s3 => ?_
  split
  · rename_i C ns ts e1
    split
    · rename_i hok
      obtain ⟨c1, c2⟩ := hf C hok.1
      obtain ⟨a, dx, fs, k1, k2, k3, k4, k5⟩ := s3.fset e1
      intro hQ
      exact ⟨_, k1, a, C, dx, fs, rfl, k2, c1, c2, by rw [k4]; exact hok.2, hQ F1 σ _ (Same.refl _) (k5 f)⟩
    · exact True.intro
  · exact True.intro
noncomputable def callFzQ (f : List OT → ER OT) (ds : List D) (sd : SD) : ER OT := match f (ds.map .fz) with
  | .ok t _ => .ok t sd
  | _ => .bad
theorem meets_callQ {K : PySem.W.Frag} {G F H : Hp} {σ : L2.St} {sd : SD} {n : Nat} {f : List OT → ER OT} {vs : List V} {ds : List D} {Q : VK} (s : StR K pv G F sd σ H) (r : Reps K F vs ds) (hn : ds.length = n) : Meets K pv W G σ (RSo K pv) true sd F H (callFzQ f ds sd) Q (spD K n f vs H Q fun _ _ _ => False) := by
  have z := meets_call (W := fun _ _ _ _ => False) (f := f) (Q := Q) s r hn
  unfold callFz at z
  unfold callFzQ
  revert z
  cases f (ds.map .fz) with
  | bad => exact fun _ => True.intro
  | rz x s' => exact fun _ => True.intro
  | ok t s' => exact id
noncomputable def mProp (C0 : Addr) (g : List OT → ER OT) (a : SD → ER D) : SD → ER OT := fun sd => (a sd).bind fun x sd1 => match x with
  | .ins C ns vs => if C = C0 then callFzQ g [.ins C ns vs] sd1 else .bad
  | _ => .bad
theorem pe_propG {C pa g : Addr} {f : Str} {fd : FuncData} {ps : List Str} {sp : Sp} {j : Nat} {te : TE} (he : PE X e te) (c : Cls X.K C) (hp : PropOf X.K C f pa g) (F : FnG X.prog X.w X.K X.mg X.base (L2.CX X.prog X.w) j g fd ps sp) (hr : RoomG (j + 1) X.A) (hb : Binds X.K fd ps [])
    (hbase : attributeBase e f X.env (eval e X.env) = eval e X.env) : PE X (.Attribute e f pos) (fun σ H Q => te σ H fun x H1 => ∃ a dx fs, x = .ref a ∧ H1 a = some (.ins C dx fs) ∧ sp [.ref a] H1 Q fun _ _ _ => False) := by
  refine ⟨fun pins s σ H Q I h => attr_of hbase (thn (he.run pins s σ H _ I h) fun u s1 ⟨x, H1, I1, rx, a, dx, fs, ex, ea, q⟩ => ?_)⟩
  subst ex
  cases (show u = Value.ref a from rx)
  obtain ⟨mA, O, _⟩ := ins_get I1.hok ea
  obtain ⟨od, J, _⟩ := O.look
  obtain ⟨rest, hrec⟩ := hp.rec_
  have isC : (PySem.W.clsIn X.K C).isSome = true := by
    obtain ⟨cd, hcd, _⟩ := PySem.W.any_some c.hd
    rw [hcd]; rfl
  have I2 := I1.tok (s1.toks + 1)
  refine PySem.W.get_bind I1.kIn J (PySem.W.plainGet_of (c.get f)).1 (PySem.W.findObj_data isC hp.at_ hp.get hp.tak) (PySem.W.plainGet_of (c.get f)).2 (wpAny_call (PySem.W.prop_get (s := { s1 with toks := s1.toks + 1 }) I1.kIn hrec ?_))
  refine codeAny_mono (code_at (E := fun _ _ => False) (us := [.ref a]) (vs := [.ref a]) F hr.in1 I2.env0.in1 hb I2 (.cons rfl .nil) q) fun r s2 z => ?_
  cases r with
  | error er => exact False.elim z
  | ok fl =>
    cases fl with
    | ret u =>
      obtain ⟨v, H2, I3, rv, q3⟩ := z
      show wpAny _ _ (handedOut u) _ _ _
      rw [PySem.W.handedOut_of (handed_of rv)]
      exact wpAny_pure ⟨v, H2, I3, rv, q3⟩
    | next => exact z
    | brk => exact z
    | cont => exact z
theorem do_prop {C pa g : Addr} {f : Str} {fd : FuncData} {ps : List Str} {j : Nat} {gm : List OT → ER OT} {m : SD → ER D} (h : DX X pv W p true e m) (c : Cls X.K C) (hp : PropOf X.K C f pa g) (F : FnG X.prog X.w X.K X.mg X.base (L2.CX X.prog X.w) j g fd ps (spD X.K 1 gm)) (hr : RoomG (j + 1) X.A) (hb : Binds X.K fd ps [])
    (hbase : attributeBase e f X.env (eval e X.env) = eval e X.env := by rfl) : DO X pv W p (.Attribute e f pos) (mProp C gm m) := by
  obtain ⟨te, a1, a2⟩ := h
  refine ⟨_, pe_propG a1 c hp F hr hb hbase, fun G Fz sd σ H Q s => ?_⟩
  refine Meets.bindL (a2 G Fz sd σ H _ s) fun x F1 H1 dx sd1 s1 s2 s3 s4 => ?_
  have s3 : Rep X.K F1 x dx := s3
  split
  · rename_i C' ns vs
    split
    · rename_i hC
      subst hC
      refine Meets.to (meets_callQ s2 (.one s3) rfl) fun z => ?_
      cases s3 with
      | @ins a _ dx fs _ ha rr => exact ⟨a, dx, fs, rfl, s2.fh _ _ ha, z⟩
    · exact True.intro
  · exact True.intro
noncomputable def mMeth (C0 : Addr) (f : Str) (g : List OT → ER OT) (o : SD → ER D) (a : SD → ER (List D)) : SD → ER OT := fun sd => (o sd).bind fun x sd1 => match x with
  | .ins C ns vs => if C = C0 ∧ f ∉ ns then (a sd1).bind fun ds sd2 => callFz g (.ins C ns vs :: ds) sd2 else .bad
  | _ => .bad
end
end DL
namespace DL
open PySem PySem.Spec L2
noncomputable def mOwn2 (c : D → D → Bool) (g : List OT → ER OT) (a b : SD → ER D) : SD → ER OT := fun sd => (a sd).bind fun x sd1 => (b sd1).bind fun y sd2 => if c x y = true then callFz g [x, y] sd2 else .bad
/-- an instance of C -/
noncomputable def InsR (C : Addr) (x : V) (H : Hp) : Prop := ∃ a dx fs, x = .ref a ∧ H a = some (.ins C dx fs)
noncomputable def D.isIns (C : Addr) : D → Bool
  | .ins C' _ _ => C' == C
  | _ => false
theorem isIns_rep {K : PySem.W.Frag} {F H : Hp} {C : Addr} {x : V} {d : D} (e : Same F H) (r : Rep K F x d) (h : d.isIns C = true) : InsR C x H := by
  cases r with
  | @ins a C' dx fs _ ha rr =>
    have h : (C' == C) = true := h
    have h := beq_iff_eq.mp h
    subst h
    exact ⟨a, dx, fs, rfl, e _ _ ha⟩
  | _ => cases h
noncomputable def D.isInt : D → Bool
  | .int _ => true
  | _ => false
noncomputable def cSame (C : Addr) : D → D → Bool := fun x y => x.isIns C && y.isIns C
noncomputable def cInt (C : Addr) : D → D → Bool := fun x y => x.isIns C && y.isInt
section
variable {X : Cx} {pv : List V} {W : WX} {p q k l : Bool} {e a b : Expr} {es : List Expr} {pos : Pos}
theorem ins_at {pins : List (Addr × Obj)} {σ : L2.St} {H : Hp} {s : Shared} {a C dx : Addr} {fs : List (Str × V)} (I : Inv X pins σ H s) (h : H a = some (.ins C dx fs)) : ∃ ox od, PySem.W.InstAt s.heap a ox C od := by
  obtain ⟨mA, O, _⟩ := ins_get I.hok h
  obtain ⟨od, J, _⟩ := O.look
  exact ⟨_, _, J⟩
/-- -x -/
noncomputable def mOwn1 (C : Addr) (g : List OT → ER OT) (a : SD → ER D) : SD → ER OT := fun sd => (a sd).bind fun x sd1 => if x.isIns C = true then callFz g [x] sd1 else .bad
end
end DL
namespace PySem.W
open PySem PySem.Calls PyProof.Rows
end PySem.W
namespace DL
open PySem PySem.Spec L2
/-- what of an own class is asked for isinstance, == -/
structure CF (K : PySem.W.Frag) (C : Addr) : Prop where
  cl : Cls K C
  ha : PySem.W.findIn K (.ref C) "__class__" = some (some (.builtin "object.__class__"))
  hn : PySem.W.specialIn K (.builtin "object.__class__") "__get__" = some (some (.builtin "getset_descriptor.__get__"))
  ht : PySem.W.takesIn K (.builtin "object.__class__") = some true
  hm : PySem.W.mroIn K C (.type "object") = some true
noncomputable def D.tyv (ok : Addr → Bool) : D → Option Value
  | .non => some (.type "NoneType")
  | .bl _ => some (.type "bool")
  | .int _ => some (.type "int")
  | .str _ => some (.type "str")
  | .tup _ => some (.type "tuple")
  | .ktu _ => some (.type "tuple")
  | .lst _ => some (.type "list")
  | .scr _ => some (.type "list")
  | .dic false _ _ => some (.type "dict")
  | .ins C _ _ => if ok C = true then some (.ref C) else none
  | _ => none
noncomputable def bltTys : List String := ["NoneType", "bool", "int", "str", "tuple", "list", "dict"]
theorem tyv_rep {K : PySem.W.Frag} {H : Hp} {ok : Addr → Bool} {v : V} {d : D} {t : Value} (hC : ∀ C, ok C = true → CF K C) (r : Rep K H v d) (h : d.tyv ok = some t) : TyX K H v t := by
  cases r with
  | non => cases h; exact .base .non
  | bl x => cases h; exact .base (.bl x)
  | int x => cases h; exact .base (.int x)
  | str x => cases h; exact .base (.str x)
  | ty x => cases h
  | cls x => cases h
  | tup s r => cases h; exact tyx_tup (.inl (.inl s))
  | ktu s r => cases h; exact tyx_tup s
  | lst s r => cases h; exact tyx_lst (.inl s)
  | scr s => cases h; exact tyx_lst s
  | dicK s r =>
    cases h
    rcases s with s | ⟨o, s⟩
    · exact .base (.dK s)
    · exact .fDict s
  | dicT s r => cases h
  | @ins a C dx fs _ s r =>
    have h : (if ok C = true then some (Value.ref C) else none) = some t := h
    split at h
    · rename_i hok
      cases h
      have c := hC C hok
      exact .base (.ins s c.cl c.ha c.hn c.ht c.hm)
    · cases h
  | exc _ _ _ _ => cases h
theorem tyv_of {ok : Addr → Bool} {d : D} {t : Value} (h : d.tyv ok = some t) : (∃ n ∈ bltTys, t = .type n) ∨ ∃ C, ok C = true ∧ t = .ref C ∧ d.isIns C = true := by
  cases d with
  | ins C ns vs =>
    have h : (if ok C = true then some (Value.ref C) else none) = some t := h
    split at h
    · rename_i hok
      cases h
      exact .inr ⟨C, hok, rfl, by show (C == C) = true; simp⟩
    · cases h
  | ty _ => cases h
  | cls _ => cases h
  | exc _ _ _ => cases h
  | dic tk ks vs =>
    cases tk with
    | false => cases h; exact .inl ⟨_, by decide, rfl⟩
    | true => cases h
  | _ => cases h; exact .inl ⟨_, by decide, rfl⟩
structure IsF (K : PySem.W.Frag) (ok : Addr → Bool) (C : Addr) : Prop where
  b : ∀ n ∈ bltTys, PySem.W.kitOne K (.type n) (.ref C) = some false
  o : ∀ C', ok C' = true → PySem.W.kitOne K (.ref C') (.ref C) = some (C' == C)
noncomputable def dIsO (ok : Addr → Bool) (C : Addr) : List D → Option D
  | [d, .cls C'] => if C' = C then (d.tyv ok).map fun _ => .bl (d.isIns C) else none
  | _ => none
theorem f_isO {K : PySem.W.Frag} {ok : Addr → Bool} {C : Addr} (hC : ∀ C, ok C = true → CF K C) (f : IsF K ok C) : CallS K (rIsi K) (dIsO ok C) := by
  intro H xs ds c r h
  unfold dIsO at h
  split at h
  · rename_i d C'
    obtain ⟨v, v', rfl, r1, r2⟩ := reps2 r
    cases r2
    split at h
    · rename_i hC'
      subst hC'
      obtain ⟨t, e, h⟩ := Option.map_eq_some_iff.mp h
      subst h
      refine ⟨_, rfl, fun Q q => ⟨v, _, t, _, _, rfl, .own _, tyv_rep hC r1 e, ?_, q⟩⟩
      rcases tyv_of e with ⟨n, hn, rfl⟩ | ⟨C2, hok, rfl, hi⟩
      · have : d.isIns C' = false := by
          cases d with
          | ins C3 _ _ =>
            have e : (if ok C3 = true then some (Value.ref C3) else none) = some (.type n) := e
            split at e <;> cases e
          | _ => rfl
        rw [this]
        exact f.b n hn
      · cases d with
        | ins C3 _ _ =>
          have hi : (C3 == C2) = true := hi
          have hi := beq_iff_eq.mp hi
          subst hi
          exact f.o _ hok
        | _ => cases hi
    · cases h
  · cases h
structure EqF (K : PySem.W.Frag) (ok : Addr → Bool) (C g : Addr) : Prop where
  at_ : PySem.W.findIn K (.ref C) "__eq__" = some (some (.ref g))
  fn : PySem.W.isFn K (.ref g) = true
  ne : PySem.W.findIn K (.ref C) "__ne__" = some (some (.builtin "object.__ne__"))
  ob : PySem.W.subIn K (.ref C) (.type "object") = some true
  b : ∀ n ∈ bltTys, PySem.W.notFirst K C (.type n) = true
  o : ∀ C', ok C' = true → PySem.W.notFirst K C (.ref C') = true
/-- a def that gives True or False for two values -/
noncomputable def rB2 (K : PySem.W.Frag) (C : Addr) (g : List OT → ER OT) (neg : Bool) : R2 := fun x y H Q => InsR C x H ∧ (∃ t, TyX K H y t ∧ PySem.W.notFirst K C t = true) ∧ spD K 2 g [x, y] H (fun v H' => ∃ r, v = .bl r ∧ Q (.bl (r != neg)) H') fun _ _ _ => False
noncomputable def mB2 (ok : Addr → Bool) (C : Addr) (g : List OT → ER OT) (neg : Bool) (a b : SD → ER D) : SD → ER D := fun sd => (a sd).bind fun x sd1 => (b sd1).bind fun y sd2 => if x.isIns C = true ∧ (y.tyv ok).isSome = true then (match g [.fz x, .fz y] with
  | .ok (.fz (.bl r)) _ => .ok (.bl (r != neg)) sd2
  | _ => .bad) else .bad
section
variable {X : Cx} {pv : List V} {W : WX} {p q k l : Bool} {e a b : Expr} {es : List Expr} {pos : Pos}
theorem op_eqO {ok : Addr → Bool} {C g : Addr} {fd : FuncData} {ps : List Str} {j : Nat} {gm : List OT → ER OT} (h : EqF X.K ok C g) (F : FnG X.prog X.w X.K X.mg X.base (L2.CX X.prog X.w) j g fd ps (spD X.K 2 gm)) (hr : RoomG j X.A) (hb : Binds X.K fd ps []) : OpR X (compareOp .Eq) (rB2 X.K C gm false) := by
  intro pins s σ H x y v u Q I rx ry ⟨⟨xa, dx, fs, ex, eh⟩, ⟨t, ty, hn⟩, q⟩
  subst ex
  cases (show v = Value.ref xa from rx)
  obtain ⟨ox, od, J⟩ := ins_at I eh
  obtain ⟨m, hF⟩ := I.fr
  obtain ⟨P, Z, hp, _⟩ := kit_of I ry ty
  refine PySem.W.cmp_ofEq (PySem.W.cmp_K (op := .Eq) (tb := t) hr.units0 hF I.ok.mod.kin J (Z.ty _ _ I.kIn hp) hn h.at_ h.fn ?_)
  refine wpAny_mono (run_0 (us := [.ref xa, u]) (vs := [.ref xa, y]) F hr hb I (.cons rfl (.cons ry .nil)) q) (fun w s' z => ?_) fun _ _ x => x
  obtain ⟨z', H', I', rz, r, ez, qz⟩ := z
  subst ez
  refine SlX.cmpback rz ⟨.bl r, H', I', rz, ?_⟩
  have e : (r != false) = r := by cases r <;> rfl
  rw [e] at qz
  exact qz
theorem tr_b2 {ok : Addr → Bool} {C g : Addr} {gm : List OT → ER OT} {neg : Bool} {ta tb : TE} {ma mb : SD → ER D} (hC : ∀ C, ok C = true → CF X.K C) (h : EqF X.K ok C g) (ha : TrX X.K pv W p true ta ma) (hb : TrX X.K pv W q true tb mb) : TrX X.K pv W (p && q) true (tOp (rB2 X.K C gm neg) ta tb) (mB2 ok C gm neg ma mb) := by
  intro G F sd σ H Q s
  refine Meets.bind (ha G F sd σ H _ s) fun x F1 H1 dx sd1 s1 s2 s3 s4 => ?_
  refine Meets.bindL (hb G F1 sd1 σ H1 _ s2) fun y F2 H2 dy sd2 t1 t2 t3 t4 => ?_
  have s3 : Rep X.K F2 x dx := (show Rep X.K F1 x dx from s3).mono t1
  have t3 : Rep X.K F2 y dy := t3
  split
  · rename_i hc
    have z := meets_callQ (pv := pv) (W := W) (K := X.K) (f := gm) (Q := fun v H' => ∃ r, v = .bl r ∧ Q (.bl (r != neg)) H') t2 (.cons s3 (.one t3)) rfl
    unfold callFzQ at z
    have e0 : ([dx, dy] : List D).map OT.fz = [.fz dx, .fz dy] := rfl
    rw [e0] at z
    revert z
    cases e : gm [.fz dx, .fz dy] with
    | bad => exact fun _ => True.intro
    | rz _ _ => exact fun _ => True.intro
    | ok t s' =>
      cases t with
      | fz d =>
        cases d with
        | bl r =>
          intro z hQ
          obtain ⟨tt, et⟩ := Option.isSome_iff_exists.mp hc.2
          refine ⟨isIns_rep t2.fh s3 hc.1, ⟨tt, tyv_rep hC (t3.mono t2.fh) et, ?_⟩, z fun v F' H' s1 s2 s3 s4 => ?_⟩
          · rcases tyv_of et with ⟨n, hn, rfl⟩ | ⟨C2, hok, rfl, _⟩
            · exact h.b n hn
            · exact h.o _ hok
          · obtain ⟨o, P, w, rr, _⟩ := (show StR1 X.K pv G F' sd2 σ H' v (.fz (.bl r)) from s3)
            unfold RepO at rr
            cases rr
            exact ⟨r, rfl, hQ (.bl (r != neg)) F' H' s1 s2 (.bl _) s4⟩
        | _ => exact fun _ => True.intro
      | _ => exact fun _ => True.intro
  · exact True.intro
theorem dx_eqO {ok : Addr → Bool} {C g : Addr} {fd : FuncData} {ps : List Str} {j : Nat} {gm : List OT → ER OT} {ma mb : SD → ER D} (hC : ∀ C, ok C = true → CF X.K C) (h : EqF X.K ok C g) (F : FnG X.prog X.w X.K X.mg X.base (L2.CX X.prog X.w) j g fd ps (spD X.K 2 gm)) (hr : RoomG j X.A) (hb : Binds X.K fd ps [])
    (h1 : DX X pv W p true a ma) (h2 : DX X pv W q true b mb) : DX X pv W (p && q) true (.Compare a [.Eq] [b] pos) (mB2 ok C gm false ma mb) := by
  obtain ⟨ta, a1, a2⟩ := h1
  obtain ⟨tb, b1, b2⟩ := h2
  exact ⟨_, pe_cmpR (op_eqO h F hr hb) a1 b1 (nomark _), tr_b2 hC h a2 b2⟩
end
end DL
namespace DL
open PySem PySem.Spec L2
section
variable {X : Cx} {pv : List V} {W : WX} {p q k l : Bool} {e a b : Expr} {es : List Expr} {pos : Pos}
noncomputable def rLenO (K : PySem.W.Frag) (C : Addr) (g : List OT → ER OT) : List V → Hp → VK → Prop := fun xs H Q => ∃ x, xs = [x] ∧ InsR C x H ∧ spD K 1 g [x] H (fun v H' => ∃ n : Int, v = .int n ∧ 0 ≤ n ∧ n < 2 ^ 63 ∧ Q (.int n) H') fun _ _ _ => False
theorem call_lenO {C g : Addr} {fd : FuncData} {ps : List Str} {j : Nat} {gm : List OT → ER OT} (at_ : PySem.W.findIn X.K (.ref C) "__len__" = some (some (.ref g))) (fn : PySem.W.isFn X.K (.ref g) = true) (F : FnG X.prog X.w X.K X.mg X.base (L2.CX X.prog X.w) j g fd ps (spD X.K 1 gm)) (hr : RoomG (j + 1) X.A) (hb : Binds X.K fd ps []) :
    CallR X (.builtin "len") (rLenO X.K C gm) := by
  intro pins s σ H xs us Q I rv ⟨x, exs, ⟨xa, dx, fs, ex, eh⟩, q⟩
  subst exs
  subst ex
  obtain ⟨u, rfl, ru⟩ := rv.one
  cases (show u = Value.ref xa from ru)
  obtain ⟨ox, od, J⟩ := ins_at I eh
  obtain ⟨m, hF⟩ := I.fr
  refine PySem.W.len_K hF I.ok.mod.kin J at_ fn ?_
  refine wpAny_mono (run_1 (us := [.ref xa]) (vs := [.ref xa]) F hr hb I (.cons rfl .nil) q) (fun w s' z => ?_) fun _ _ x => x
  obtain ⟨z', H', I', rz, n, ez, h0, h1, qz⟩ := z
  subst ez
  obtain ⟨t, rfl⟩ := (show ∃ t, w = Value.int n t from rz)
  exact ⟨⟨h0, h1⟩, .int n, H', I'.tok _, ⟨_, rfl⟩, qz⟩
noncomputable def mLenO (C : Addr) (g : List OT → ER OT) (a : SD → ER (List D)) : SD → ER D := fun sd => (a sd).bind fun xs sd1 => match xs with
  | [x] => if x.isIns C = true then (match g [.fz x] with
    | .ok (.fz (.int n)) _ => if 0 ≤ n ∧ n < 2 ^ 63 then .ok (.int n) sd1 else .bad
    | _ => .bad) else .bad
  | _ => .bad
theorem dx_lenO {C g : Addr} {fd : FuncData} {ps : List Str} {j : Nat} {gm : List OT → ER OT} {pp : Pos} {m : SD → ER (List D)} (at_ : PySem.W.findIn X.K (.ref C) "__len__" = some (some (.ref g))) (fn : PySem.W.isFn X.K (.ref g) = true) (F : FnG X.prog X.w X.K X.mg X.base (L2.CX X.prog X.w) j g fd ps (spD X.K 1 gm)) (hr : RoomG (j + 1) X.A) (hb : Binds X.K fd ps [])
    (hg : Gl X "len") (hm : X.mg "len" = none) (ha : DA X pv W p true (e :: es) m)
    (he : starEach (e :: es) X.env = (false, eval e X.env) :: starEach es X.env := by rfl) (hpl : (backTo pos (starEach es X.env)).any (·.1) = false := by rfl) : DX X pv W p true (.Call (.Name "len" pp) (e :: es) [] pos) (mLenO C gm m) := by
  obtain ⟨ta, a1, a2⟩ := ha
  refine ⟨_, pe_callB (call_lenO at_ fn F hr hb) hg hm bo_len a1 (by decide) (by decide) he hpl, fun G Fz sd σ H Q s => ?_⟩
  refine Meets.bindL (a2 G Fz sd σ H _ s) fun xs F1 H1 ds sd1 s1 s2 s3 s4 => ?_
  have s3 : Reps X.K F1 xs ds := s3
  split
  · rename_i x _
    obtain ⟨v, rfl, r1⟩ := reps1 s3
    split
    · rename_i hc
      have z := meets_callQ (pv := pv) (W := W) (K := X.K) (f := gm) (Q := fun v H' => ∃ n : Int, v = .int n ∧ 0 ≤ n ∧ n < 2 ^ 63 ∧ Q (.int n) H') s2 (.one r1) rfl
      unfold callFzQ at z
      have e0 : ([x] : List D).map OT.fz = [.fz x] := rfl
      rw [e0] at z
      revert z
      cases e : gm [.fz x] with
      | bad => exact fun _ => True.intro
      | rz _ _ => exact fun _ => True.intro
      | ok t s' =>
        cases t with
        | fz d =>
          cases d with
          | int n =>
            intro z
            show Meets X.K pv W G σ (RSx X.K true) true sd1 F1 H1 (if 0 ≤ n ∧ n < 2 ^ 63 then .ok (.int n) sd1 else .bad) Q _
            split
            · rename_i hn
              intro hQ
              refine ⟨v, rfl, isIns_rep s2.fh r1 hc, z fun w F' H' s1 s2 s3 s4 => ?_⟩
              obtain ⟨o, P, ww, rr, _⟩ := (show StR1 X.K pv G F' sd1 σ H' w (.fz (.int n)) from s3)
              unfold RepO at rr
              cases rr
              exact ⟨n, rfl, hn.1, hn.2, hQ (.int n) F' H' s1 s2 (.int _) s4⟩
            · exact True.intro
          | _ => exact fun _ => True.intro
        | _ => exact fun _ => True.intro
    · exact True.intro
  · exact True.intro
noncomputable def mCallIns (C : Addr) (g : List OT → ER OT) (o : SD → ER D) (a : SD → ER (List D)) : SD → ER OT := fun sd => (o sd).bind fun x sd1 => if x.isIns C = true then (a sd1).bind fun ds sd2 => callFz g (x :: ds) sd2 else .bad
end
end DL
namespace DL
open PySem PySem.Spec L2
end DL
namespace DL
open PySem PySem.Spec L2
/-- a method as it stands in its class -/
structure Fm (K : PySem.W.Frag) (x q : Str) (st : Stmt) (f : Addr) (fd : FuncData) (ps : List Str) : Prop where
  F : Fun K x q st f fd
  b : Binds K fd ps []
noncomputable def rInt1 : List V → Hp → VK → Prop := fun xs H Q => (∃ i, xs = [.int i] ∧ Q (.int i) H) ∨ ∃ k, xs = [.bl k] ∧ Q (.int (if k then 1 else 0)) H
theorem call_int1X {X : Cx} : CallR X (.type "int") rInt1 := call_int1
noncomputable def sPar3 (i j l : Nat) (ma mb mc : SD → ER OT) : SD → Fl := fun sd => (ma sd).stm fun t sd1 => (mb sd1).stm fun u sd2 => (mc sd2).stm fun w sd3 => if i < sd3.sl.length ∧ j < sd3.sl.length ∧ l < sd3.sl.length then .nx { sd3 with sl := ((sd3.sl.set i (.ow t)).set j (.ow u)).set l (.ow w) } else .bad
section
variable {X : Cx} {pv : List V} {W : WX} {p q r k l : Bool} {e a b c : Expr} {es : List Expr} {pos : Pos}
theorem ds_par3 {i j l : Nat} {x y z : Str} {px py pz pt pt2 : Pos} {kt k2 : Nat} {ma mb mc : SD → ER OT} (hc : X.calm = true) (hN : X.N.Nodup) (hi : X.N[i]? = some x) (hj : X.N[j]? = some y) (hl : X.N[l]? = some z) (hij : i ≠ j) (hil : i ≠ l) (hjl : j ≠ l)
    (hx : X.env.scope.names.lookup x = some .local) (hy : X.env.scope.names.lookup y = some .local) (hz : X.env.scope.names.lookup z = some .local) (ha : DO X pv W p a ma) (hb : DO X pv W q b mb) (hd : DO X pv W r c mc)
    (hw : swappedStores [.Tuple [.Name x px, .Name y py, .Name z pz] kt pt] (.Tuple [a, b, c] k2 pt2) X.env = pure (some [x, y, z]))
    (hs : swapsWithSole [.Tuple [.Name x px, .Name y py, .Name z pz] kt pt] (.Tuple [a, b, c] k2 pt2) pos.line X.env = pure false := by rfl)
    (hs1 : starEach [a, b, c] X.env = (false, eval a X.env) :: starEach [b, c] X.env := by rfl) (hs2 : starEach [b, c] X.env = (false, eval b X.env) :: starEach [c] X.env := by rfl) (hs3 : starEach [c] X.env = (false, eval c X.env) :: starEach [] X.env := by rfl) :
    DS X pv W (.Assign [.Tuple [.Name x px, .Name y py, .Name z pz] kt pt] (.Tuple [a, b, c] k2 pt2) pos) (sPar3 i j l ma mb mc) := by
  obtain ⟨ta, a1, a2⟩ := ha
  obtain ⟨tb, b1, b2⟩ := hb
  obtain ⟨tc, c1, c2⟩ := hd
  refine ⟨_, ps_par3 hc hN hi hj hl hij hil hjl hx hy hz (pa_cons a1 (pa_cons b1 (pa_cons c1 pa_nil hs3) hs2) hs1) hw hs, fun G F sd σ H D s => ?_⟩
  refine Meets.stm (a2 G F sd σ H _ s) fun v F1 H1 t sd1 s1 s2 s3 => ?_
  obtain ⟨G', g1, g2, g3⟩ := StR1.hide s3
  have z := (b2 G' F1 sd1 σ H1 (fun w H2 => tc σ H2 fun y H3 => ∃ a b c, [v, w, y] = [a, b, c] ∧ D.nx (((σ.set i (some a)).set j (some b)).set l (some c)) H3) g2).unhide g3
  refine MeetsS.imp (Meets.stm z (f := fun u sd2 => (mc sd2).stm fun w sd3 => if i < sd3.sl.length ∧ j < sd3.sl.length ∧ l < sd3.sl.length then .nx { sd3 with sl := ((sd3.sl.set i (.ow t)).set j (.ow u)).set l (.ow w) } else .bad) (D := D) fun w F2 H2 u sd2 t1 t2 t3 => ?_) id
  obtain ⟨t3, t4⟩ := t3
  have t4 : StR1 X.K pv G' F2 sd2 σ H2 w u := t4
  obtain ⟨G2, k1, k2, k3⟩ := StR1.hide t4
  have z2 := ((c2 G2 F2 sd2 σ H2 (fun y H3 => ∃ a b c, [v, w, y] = [a, b, c] ∧ D.nx (((σ.set i (some a)).set j (some b)).set l (some c)) H3) k2).unhide k3).unhide (G := G) (v := v) (t := t) fun F' sd' σ' H' f st => g3 F' sd' σ' H' (t1.trans f) st
  refine Meets.stm z2 fun y F3 H3 x3 sd3 u1 u2 u3 => ?_
  obtain ⟨u3, u4, u5⟩ := u3
  have u5 : StR1 X.K pv G2 F3 sd3 σ H3 y x3 := u5
  split
  · rename_i hl
    intro hQ
    have q1 := u5.store hl.2.2
    have q2 := (k3 F3 _ _ H3 u1 q1).store (i := j) (by show j < (sd3.sl.set l (S.ow x3)).length; rw [List.length_set]; exact hl.2.1)
    have q3 := (g3 F3 _ _ H3 (t1.trans u1) q2).store (i := i) (by show i < ((sd3.sl.set l (S.ow x3)).set j (S.ow u)).length; rw [List.length_set, List.length_set]; exact hl.1)
    have e1 : ((sd3.sl.set l (S.ow x3)).set j (S.ow u)).set i (S.ow t) = ((sd3.sl.set i (S.ow t)).set j (S.ow u)).set l (S.ow x3) := by
      rw [List.set_comm _ _ (Ne.symm hjl), List.set_comm _ _ (Ne.symm hil), List.set_comm _ _ (Ne.symm hij)]
    have e2 : (((σ.set l (some y)).set j (some w)).set i (some v) : L2.St) = ((σ.set i (some v)).set j (some w)).set l (some y) := by
      rw [List.set_comm _ _ (Ne.symm hjl), List.set_comm _ _ (Ne.symm hil), List.set_comm _ _ (Ne.symm hij)]
    have q3 : StR X.K pv G F3 { sd3 with sl := ((sd3.sl.set l (S.ow x3)).set j (S.ow u)).set i (S.ow t) } (((σ.set l (some y)).set j (some w)).set i (some v)) H3 := q3
    rw [e1, e2] at q3
    exact ⟨v, w, y, rfl, hQ F3 _ H3 (Same.refl _) q3⟩
  · exact True.intro
/-- a constant of the module -/
theorem dx_const {x : Str} {v : V} {d : D} {pp : Pos} (hg : Gl X x) (hm : ∃ u, X.mg x = some u ∧ RelV v u) (hr : ∀ F, Rep X.K F v d) (hd : (x == ("__debug__" : Str)) = false := by decide) : DX X pv W true true (.Name x pp) (mC d) := by
  obtain ⟨u, h1, h2⟩ := hm
  exact dx_glob hg h1 h2 hr hd
/-- an own class by its name -/
theorem dx_cls {x : Str} {C : Addr} {pp : Pos} (hg : Gl X x) (hm : X.mg x = some (.ref C)) (hd : (x == ("__debug__" : Str)) = false := by decide) : DX X pv W true true (.Name x pp) (mC (.cls C)) := dx_glob hg hm (v := .ref C) rfl (fun _ => .cls C) hd
end
theorem kit_sub {K : PySem.W.Frag} {C : Addr} {n : String} (h1 : PySem.W.isClsIn K C = true) (h2 : PySem.W.typeIn K (.ref C) = some (.type "type")) (h3 : PySem.W.subIn K (.type n) (.ref C) = some false) : PySem.W.kitOne K (.type n) (.ref C) = some false := by
  have e : (Value.type n == Value.ref C) = false := Bool.eq_false_iff.mpr fun q => by cases beq_iff_eq.mp q
  have h1 : (PySem.W.clsIn K C).isSome = true := h1
  unfold PySem.W.kitOne PySem.W.kitCls
  rw [e]
  simp [h1, h2, h3]
theorem kit_self {K : PySem.W.Frag} {C : Addr} : PySem.W.kitOne K (.ref C) (.ref C) = some true := by
  unfold PySem.W.kitOne
  rw [if_pos (by simp)]
end DL
namespace DL
open PySem PySem.Spec L2
noncomputable def tI (ns : List Int) : D := .tup (ns.map .int)
theorem pys_int : ∀ ns : List Int, D.pys (ns.map D.int) = some (ns.map PyData.int)
  | [] => rfl
  | n :: r => by rw [List.map_cons, D.pys, pys_int r]; rfl
theorem lay_int : ∀ ns : List Int, PyData.canLayAll0 (ns.map PyData.int) = true
  | [] => rfl
  | n :: r => by rw [List.map_cons, PyData.canLayAll0, lay_int r]; rfl
theorem dep_int : ∀ ns : List Int, PyData.depthAll (ns.map PyData.int) = 0
  | [] => rfl
  | n :: r => by rw [List.map_cons, PyData.depthAll, dep_int r]; rfl
theorem eqv_int : ∀ ns ms : List Int, PyData.eqvAll (ns.map PyData.int) (ms.map PyData.int) = decide (ns = ms)
  | [], [] => by simp [PyData.eqvAll]
  | [], _ :: _ => by simp [PyData.eqvAll]
  | _ :: _, [] => by simp [PyData.eqvAll]
  | n :: ns, m :: ms => by
    rw [List.map_cons, List.map_cons, PyData.eqvAll, eqv_int ns ms, PyData.eqv]
    by_cases h : n = m <;> simp [h]
theorem tI_py (ns : List Int) : (tI ns).py = some (.tuple (ns.map PyData.int)) := by
  unfold tI
  rw [D.py, pys_int]
  rfl
theorem tI_shaped (ns : List Int) : SeqAt.shaped (.tuple (ns.map PyData.int)) = true := by
  have h1 : PyData.canLay0 (.tuple (ns.map PyData.int)) = true := lay_int ns
  have h2 : PyData.depth (.tuple (ns.map PyData.int)) = 1 := by rw [PyData.depth, dep_int]
  unfold SeqAt.shaped
  rw [h1, h2]
  rfl
theorem eq_tI (ns ms : List Int) : dEqB (tI ns) (tI ms) = some (decide (ns = ms)) := by
  have z : dEqB (tI ns) (tI ms) = match (tI ns).py, (tI ms).py with
    | some p, some q => if (SeqAt.shaped p && SeqAt.shaped q) = true then some (PyData.eqv p q) else none
    | _, _ => none := rfl
  rw [z, tI_py, tI_py]
  dsimp only
  rw [tI_shaped, tI_shaped]
  show some (PyData.eqvAll _ _) = _
  rw [eqv_int]
theorem eqB_int (i j : Int) : dEqB (.int i) (.int j) = some (decide (i = j)) := rfl
theorem eqB_str (i j : Str) : dEqB (.str i) (.str j) = some (decide (i = j)) := rfl
theorem eqB_bl (i j : Bool) : dEqB (.bl i) (.bl j) = some (decide (i = j)) := rfl
theorem eq_2 (a b c d : Int) : dEqB (.tup [.int a, .int b]) (.tup [.int c, .int d]) = some (decide (a = c) && decide (b = d)) := by
  have := eq_tI [a, b] [c, d]
  simpa [tI] using this
theorem eq_3 (a b c d e f : Int) : dEqB (.tup [.int a, .int b, .int c]) (.tup [.int d, .int e, .int f]) = some (decide (a = d) && (decide (b = e) && decide (c = f))) := by
  have := eq_tI [a, b, c] [d, e, f]
  simpa [tI] using this
end DL
namespace DL
open PySem PySem.Spec L2 PyProof.Rows
end DL
namespace DL
open PySem PySem.Spec L2 PyProof.Rows
set_option maxHeartbeats 3200000
end DL
set_option maxHeartbeats 3200000
namespace DL
open PySem PySem.Spec L2 PyProof.Rows
end DL
namespace DL
open PySem PySem.Spec L2 PyProof.Rows
/-- the different ones, in order -/
noncomputable def dd : List Int → List Int
  | [] => []
  | x :: r => if x ∈ dd r then dd r else x :: dd r
end DL
namespace DL
open PySem PySem.Spec L2 PyProof.Rows
noncomputable def CallM (K : PySem.W.Frag) (r : V → List V → Hp → VK → Prop) (f : D → List D → Option D) : Prop := ∀ H x xs d ds c, Rep K H x d → Reps K H xs ds → f d ds = some c → ∃ v, c.sc = some v ∧ ∀ Q : VK, Q v H → r x xs H Q
noncomputable def TyD (K : PySem.W.Frag) (T : String) (t : D → Bool) : Prop := ∀ H x d, Rep K H x d → t d = true → tyV K T x H
noncomputable def mBm (t : D → Bool) (f : D → List D → Option D) (a : SD → ER D) (b : SD → ER (List D)) : SD → ER D := fun sd => (a sd).bind fun d sd1 => if t d = true then (b sd1).bind fun ds sd2 => ER.opt (f d ds) sd2 else .bad
noncomputable def D.isL : D → Bool
  | .lst _ => true
  | _ => false
noncomputable def D.isS : D → Bool
  | .str _ => true
  | _ => false
theorem ty_lst {K : PySem.W.Frag} : TyD K "list" D.isL := fun H x d r h => by
  cases r with
  | lst s t => exact .inl ⟨rfl, _, .inl s⟩
  | _ => cases h
theorem ty_str {K : PySem.W.Frag} : TyD K "str" D.isS := fun H x d r h => by
  cases r with
  | str => exact (rfl : "str" = "str")
  | _ => cases h
section
variable {X : Cx} {pv : List V} {W : WX} {p q k l : Bool} {o e a b : Expr} {es : List Expr} {apos cpos pos : Pos} {name : Str} {T id : String}
theorem tr_bm {r : V → List V → Hp → VK → Prop} {t : D → Bool} {f : D → List D → Option D} {to : TE} {ta : TA} {mo : SD → ER D} {ma : SD → ER (List D)} (ht : TyD X.K T t) (hf : CallM X.K r f) (ho : TrX X.K pv W p k to mo) (ha : TrA X.K pv W q l ta ma) (hk : (k || q) = true) :
    TrX X.K pv W (p && q) true (tBM X.K T r to ta) (mBm t f mo ma) := by
  intro G F sd σ H Q s
  refine Meets.bind (ho G F sd σ H _ s) fun x F1 H1 d sd1 s1 s2 s3 s4 => ?_
  have hq : q = (q && true) := by cases q <;> rfl
  rw [hq]
  by_cases tt : t d = true
  · rw [if_pos tt]
    have ty := ht H1 x d (RSx.see s3 s2) tt
    refine Meets.to ?_ fun z => ⟨ty, z⟩
    refine Meets.bind (ha G F1 sd1 σ H1 _ s2) fun xs F2 H2 ds sd2 t1 t2 t3 t4 => ?_
    have rx : Rep X.K H2 x d := by
      cases k with
      | true => exact Rep.mono t2.fh (Rep.mono t1 s3)
      | false => exact Rep.mono (t4 (by simpa using hk)).1 s3
    cases e : f d ds with
    | none => exact True.intro
    | some c =>
      obtain ⟨v, h1, h2⟩ := hf H2 x xs d ds c rx (RSl.see t3 t2) e
      exact Meets.here t2 (show RSx X.K true G F2 sd2 H2 σ v c from Rep.sc h1) (h2 Q)
  · rw [if_neg tt]
    exact True.intro
theorem dx_bm {r : V → List V → Hp → VK → Prop} {t : D → Bool} {f : D → List D → Option D} {mo : SD → ER D} {ma : SD → ER (List D)} (pa : PlainAttrs T) (slot : Slot T name id) (hty : typeOf (.builtin id) = pure (.type "method_descriptor")) (hm : MtR X id r) (ht : TyD X.K T t) (hf : CallM X.K r f) (ho : DX X pv W p k o mo) (ha : DA X pv W q l (e :: es) ma) (hk : (k || q) = true := by rfl)
    (hbase : attributeBase o name X.env (eval o X.env) = eval o X.env := by rfl)
    (hfew : ((backTo cpos (starEach (e :: es) X.env)).all (fun x => !x.1) && (backToKw cpos (keywordEach [] X.env)).all (fun x => x.1.isSome) && decide ((e :: es).length + ([] : List Keyword).length + (if ([] : List Keyword).isEmpty then 0 else 1) < 30)) = true := by rfl)
    (hline : (apos.endLine == cpos.line) = true := by rfl) (hs : starEach (e :: es) X.env = (false, eval e X.env) :: starEach es X.env := by rfl) (hplain : (backTo cpos (starEach es X.env)).any (·.1) = false := by rfl) :
    DX X pv W (p && q) true (.Call (.Attribute o name apos) (e :: es) [] cpos) (mBm t f mo ma) := by
  obtain ⟨to, o1, o2⟩ := ho
  obtain ⟨ta, a1, a2⟩ := ha
  exact ⟨_, pe_bm pa slot hty hm o1 a1 hbase hfew hline hs hplain, tr_bm ht hf o2 a2 hk⟩
end
end DL
namespace DL
open PySem PySem.Spec L2
noncomputable def mAtS (i : Nat) (b : SD → ER D) : SD → ER D := fun sd => match sd.tree i with
  | some _ => (b sd).bind fun y sd1 => match y with
    | .int k => ER.opt (((sd1.tree i).bind OT.items).bind fun ds => atI ds k) sd1
    | _ => .bad
  | none => .bad
end DL
namespace DL
open PySem PySem.Spec L2
theorem cut_toN {α : Type} (xs : List α) (n : Nat) : cutL xs none (some (n : Int)) = xs.take n := by
  unfold cutL
  rw [show HT.sIx xs.length xs.length (some (n : Int)) = min n xs.length from HT.sIx_nat _ _ n, show HT.sIx xs.length 0 none = 0 from rfl]
  rw [List.drop_zero, Nat.sub_zero]
  by_cases h : n ≤ xs.length
  · rw [Nat.min_eq_left h]
  · rw [Nat.min_eq_right (by omega), List.take_of_length_le (Nat.le_refl _), List.take_of_length_le (by omega)]
theorem atI_of {α : Type} {xs : List α} {k : Nat} {v : α} (h : xs[k]? = some v) : atI xs (k : Int) = some v := by
  have hk := (List.getElem?_eq_some_iff.mp h).1
  unfold atI ixN
  rw [if_pos (by omega), if_pos (by omega)]
  exact h
theorem log2_lt {n k : Nat} (h : n < 2 ^ k) : n.log2 < k + 1 := by
  by_cases e : n = 0
  · subst e; rw [Nat.log2_zero]; omega
  · have := (Nat.log2_lt e).mpr h; omega
end DL
namespace DL
open PySem PySem.Spec L2
noncomputable def ins {α : Type} (le : α → α → Bool) (a : α) : List α → List α
  | [] => [a]
  | b :: r => if le a b = true then a :: b :: r else b :: ins le a r
end DL
namespace DL
open PySem PySem.Spec L2
noncomputable def strsOf : List D → Option (List Str)
  | [] => some []
  | .str x :: r => (strsOf r).map (x :: ·)
  | _ => none
theorem reps_strs {K : PySem.W.Frag} {F : Hp} : ∀ {ds : List D} {vs : List V} {ys : List Str}, Reps K F vs ds → strsOf ds = some ys → vs = ys.map V.str ∧ ds = ys.map D.str
  | [], _, _, .nil, h => by cases h; exact ⟨rfl, rfl⟩
  | d :: ds, _, ys, .cons r t, h => by
    cases d with
    | str x =>
      obtain ⟨zs, e, h⟩ := Option.map_eq_some_iff.mp h
      subst h
      obtain ⟨h1, h2⟩ := reps_strs t e
      cases r
      rw [h1, h2]
      exact ⟨rfl, rfl⟩
    | _ => cases h
theorem Reps.strs {K : PySem.W.Frag} {F : Hp} : ∀ ys : List Str, Reps K F (ys.map V.str) (ys.map D.str)
  | [] => .nil
  | y :: r => .cons (.str y) (Reps.strs r)
noncomputable def seqOf : D → Option (List D)
  | .lst ds => some ds
  | .tup ds => some ds
  | .ktu ds => some ds
  | _ => none
/-- a list or a tuple that stands there -/
theorem seq_rep {K : PySem.W.Frag} {F : Hp} {v : V} {d : D} {ds : List D} (r : Rep K F v d) (h : seqOf d = some ds) : ∃ a vs, v = .ref a ∧ (SqL K F a vs ∨ SqT K F a vs) ∧ Reps K F vs ds := by
  cases r with
  | lst s t => cases h; exact ⟨_, _, rfl, .inl (.inl s), t⟩
  | tup s t => cases h; exact ⟨_, _, rfl, .inr (.inl (.inl s)), t⟩
  | ktu s t => cases h; exact ⟨_, _, rfl, .inr s, t⟩
  | _ => cases h
noncomputable def rJoin (K : PySem.W.Frag) : V → List V → Hp → VK → Prop := fun x xs H Q => ∃ a p, ∃ ys : List Str, x = .str a ∧ xs = [.ref p] ∧ (SqL K H p (ys.map V.str) ∨ SqT K H p (ys.map V.str)) ∧ (ys.map (·.length)).sum + ys.length * a.length ≤ 16777216 ∧ Q (.str (Txt.join a ys)) H
noncomputable def dJoin : D → List D → Option D
  | .str a, [d] => (seqOf d).bind fun ds => (strsOf ds).bind fun ys => if (ys.map (·.length)).sum + ys.length * a.length ≤ 16777216 then some (.str (Txt.join a ys)) else none
  | _, _ => none
theorem f_join {K : PySem.W.Frag} : CallM K (rJoin K) dJoin := by
  intro H x xs d ds c r rs h
  unfold dJoin at h
  split at h
  · rename_i a e
    obtain ⟨zs, e1, h⟩ := Option.bind_eq_some_iff.mp h
    obtain ⟨ys, e2, h⟩ := Option.bind_eq_some_iff.mp h
    split at h
    · rename_i hl
      cases h
      obtain ⟨v, rfl, r1⟩ := reps1 rs
      obtain ⟨p, vs, rfl, sq, rr⟩ := seq_rep r1 e1
      obtain ⟨h1, _⟩ := reps_strs rr e2
      subst h1
      cases r
      exact ⟨_, rfl, fun Q q => ⟨a, p, ys, rfl, rfl, sq, hl, q⟩⟩
    · cases h
  · cases h
noncomputable def CallML (K : PySem.W.Frag) (r : V → List V → Hp → VK → Prop) (f : D → List D → Option (List D)) : Prop := ∀ F H x xs d ds cs, Same F H → Rep K F x d → Reps K F xs ds → f d ds = some cs → ∀ Q : VK, (∀ p vs, H p = none → Reps K F vs cs → Q (.ref p) (upd H p (.lst vs))) → r x xs H Q
noncomputable def mBmL (t : D → Bool) (f : D → List D → Option (List D)) (a : SD → ER D) (b : SD → ER (List D)) : SD → ER OT := fun sd => (a sd).bind fun d sd1 => if t d = true then (b sd1).bind fun ds sd2 => ER.opt ((f d ds).map fun cs => .ol (cs.map .fz)) sd2 else .bad
noncomputable def dSplit : D → List D → Option (List D)
  | .str a, [.str b] => if (b.length == 0) = false ∧ a.length + 2 ≤ 16777216 then some ((Txt.split a b).map .str) else none
  | _, _ => none
noncomputable def rSplit : V → List V → Hp → VK → Prop := fun x xs H Q => ∃ a b, x = .str a ∧ xs = [.str b] ∧ (b.length == 0) = false ∧ a.length + 2 ≤ sizeLine ∧ rNewStrs (Txt.split a b) H Q
theorem f_split {K : PySem.W.Frag} : CallML K rSplit dSplit := by
  intro F H x xs d ds cs hF r rs h Q hQ
  unfold dSplit at h
  split at h
  · rename_i a b
    split at h
    · rename_i hl
      cases h
      obtain ⟨v, rfl, r1⟩ := reps1 rs
      cases r1
      cases r
      exact ⟨a, b, rfl, rfl, hl.1, by rw [sizeLine_eq]; exact hl.2, fun p hp => hQ p _ hp (Reps.strs _)⟩
    · cases h
  · cases h
noncomputable def dStr1 : List D → Option D
  | [.int i] => if i.natAbs.log2 < 1920 then some (.str (toString i)) else none
  | [.str a] => some (.str a)
  | _ => none
noncomputable def rStr1 : List V → Hp → VK → Prop := fun xs H Q => (∃ i, xs = [.int i] ∧ i.natAbs.log2 < 1920 ∧ Q (.str (toString i)) H) ∨ ∃ a, xs = [.str a] ∧ Q (.str a) H
theorem call_str1 {X : Cx} : CallR X (.type "str") rStr1 := call_str_int.or SkE.call_str_str
theorem f_str1 {K : PySem.W.Frag} : CallS K rStr1 dStr1 := by
  intro H xs ds c rs h
  unfold dStr1 at h
  split at h
  · split at h
    · rename_i i hl
      cases h
      obtain ⟨v, rfl, r1⟩ := reps1 rs
      cases r1
      exact ⟨_, rfl, fun Q q => .inl ⟨_, rfl, hl, q⟩⟩
    · cases h
  · cases h
    obtain ⟨v, rfl, r1⟩ := reps1 rs
    cases r1
    exact ⟨_, rfl, fun Q q => .inr ⟨_, rfl, q⟩⟩
  · cases h
noncomputable def dInt2 : List D → Option D
  | [.int i] => some (.int i)
  | [.bl b] => some (.int (if b then 1 else 0))
  | [.str a] => if a.length ≤ 640 then (PySem.intText? a).map .int else none
  | _ => none
noncomputable def rInt2 : List V → Hp → VK → Prop := fun xs H Q => rInt1 xs H Q ∨ ∃ a n, xs = [.str a] ∧ PySem.intText? a = some n ∧ a.length ≤ 640 ∧ Q (.int n) H
theorem call_int2 {X : Cx} : CallR X (.type "int") rInt2 := call_int1X.or call_int_str
theorem f_int2 {K : PySem.W.Frag} : CallS K rInt2 dInt2 := by
  intro H xs ds c rs h
  unfold dInt2 at h
  split at h
  · cases h
    obtain ⟨v, rfl, r1⟩ := reps1 rs
    cases r1
    exact ⟨_, rfl, fun Q q => .inl (.inl ⟨_, rfl, q⟩)⟩
  · cases h
    obtain ⟨v, rfl, r1⟩ := reps1 rs
    cases r1
    exact ⟨_, rfl, fun Q q => .inl (.inr ⟨_, rfl, q⟩)⟩
  · split at h
    · rename_i a hl
      obtain ⟨n, e, h⟩ := Option.map_eq_some_iff.mp h
      subst h
      obtain ⟨v, rfl, r1⟩ := reps1 rs
      cases r1
      exact ⟨_, rfl, fun Q q => .inr ⟨a, n, rfl, e, hl, q⟩⟩
    · cases h
  · cases h
noncomputable def D.fl : D → Option V
  | .non => some .non
  | .bl b => some (.bl b)
  | .int i => some (.int i)
  | .str x => some (.str x)
  | _ => none
noncomputable def flsOf : List D → Option (List V)
  | [] => some []
  | d :: r => d.fl.bind fun v => (flsOf r).map (v :: ·)
theorem fl_rep {K : PySem.W.Frag} {F : Hp} {v w : V} {d : D} (r : Rep K F v d) (h : d.fl = some w) : v = w ∧ flatV v = true := by
  cases r <;> simp only [D.fl, Option.some.injEq, reduceCtorEq] at h <;> subst h <;> exact ⟨rfl, rfl⟩
theorem fls_rep {K : PySem.W.Frag} {F : Hp} : ∀ {ds : List D} {vs ws : List V}, Reps K F vs ds → flsOf ds = some ws → vs = ws ∧ vs.all flatV = true
  | [], _, _, .nil, h => by cases h; exact ⟨rfl, rfl⟩
  | d :: ds, _, ws, .cons r t, h => by
    obtain ⟨w, e1, h⟩ := Option.bind_eq_some_iff.mp h
    obtain ⟨us, e2, h⟩ := Option.map_eq_some_iff.mp h
    subst h
    obtain ⟨h1, h2⟩ := fl_rep r e1
    obtain ⟨k1, k2⟩ := fls_rep t e2
    subst h1 k1
    refine ⟨rfl, ?_⟩
    rw [List.all_cons, h2, k2]; rfl
/-- a text in another one; of one sign: by the signs -/
noncomputable def inS (x z : Str) : Bool := match x with
  | ⟨⟨[c]⟩⟩ => decide (c ∈ z.cps.toList)
  | x => !(Builtin.Str.occurrences z x 0 z.length 1).isEmpty
noncomputable def dIn (neg : Bool) : D → D → Option D
  | .str i, .str j => some (.bl (inS i j != neg))
  | x, d => x.fl.bind fun v => (seqOf d).bind fun ds => (flsOf ds).map fun vs => .bl (inV v vs != neg)
noncomputable def rIn2S (K : PySem.W.Frag) : R2 := fun x y H Q => (∃ (c : Nat) (z : Str), x = .str ⟨#[c]⟩ ∧ y = .str z ∧ Q (.bl (decide (c ∈ z.cps.toList))) H) ∨ ((∃ i j, x = .str i ∧ y = .str j ∧ Q (.bl (!(Builtin.Str.occurrences j i 0 j.length 1).isEmpty)) H) ∨ rIn K false x y H Q)
noncomputable def rNotIn2S (K : PySem.W.Frag) : R2 := fun x y H Q => (∃ (c : Nat) (z : Str), x = .str ⟨#[c]⟩ ∧ y = .str z ∧ Q (.bl (!decide (c ∈ z.cps.toList))) H) ∨ ((∃ i j, x = .str i ∧ y = .str j ∧ Q (.bl (!(!(Builtin.Str.occurrences j i 0 j.length 1).isEmpty))) H) ∨ rIn K true x y H Q)
theorem op_in2 {X : Cx} : OpR X (compareOp .In) (rIn2S X.K) := op_in_sign.or (op_in_str.or op_in_seq)
theorem op_notIn2 {X : Cx} : OpR X (compareOp .NotIn) (rNotIn2S X.K) := op_notIn_sign.or (op_notIn_str.or op_notIn_seq)
theorem in_go {K : PySem.W.Frag} {H : Hp} {x y : V} {a b c : D} {neg : Bool} (ra : Rep K H x a) (rb : Rep K H y b) (h : dIn neg a b = some c) : (∃ i j, x = .str i ∧ y = .str j ∧ c = .bl (inS i j != neg)) ∨ ∃ p xs, y = .ref p ∧ (SqL K H p xs ∨ SqT K H p xs) ∧ flatV x = true ∧ xs.all flatV = true ∧ c = .bl (inV x xs != neg) := by
  have gen : (a.fl.bind fun v => (seqOf b).bind fun ds => (flsOf ds).map fun vs => D.bl (inV v vs != neg)) = some c → ∃ p xs, y = .ref p ∧ (SqL K H p xs ∨ SqT K H p xs) ∧ flatV x = true ∧ xs.all flatV = true ∧ c = .bl (inV x xs != neg) := fun h => by
    obtain ⟨v, e1, h⟩ := Option.bind_eq_some_iff.mp h
    obtain ⟨ds, e2, h⟩ := Option.bind_eq_some_iff.mp h
    obtain ⟨vs, e3, h⟩ := Option.map_eq_some_iff.mp h
    obtain ⟨h1, h2⟩ := fl_rep ra e1
    obtain ⟨p, ws, rfl, sq, rr⟩ := seq_rep rb e2
    obtain ⟨k1, k2⟩ := fls_rep rr e3
    subst h1 k1
    exact ⟨p, ws, rfl, sq, h2, k2, h.symm⟩
  unfold dIn at h
  split at h
  · cases h
    cases ra
    cases rb
    exact .inl ⟨_, _, rfl, rfl, rfl⟩
  · exact .inr (gen h)
theorem inS_cases (x z : Str) : (∃ c, x = ⟨#[c]⟩ ∧ inS x z = decide (c ∈ z.cps.toList)) ∨ inS x z = !(Builtin.Str.occurrences z x 0 z.length 1).isEmpty := by
  unfold inS
  split
  · exact .inl ⟨_, rfl, rfl⟩
  · exact .inr rfl
theorem f_in2 {K : PySem.W.Frag} : Op2S K (rIn2S K) (dIn false) := by
  intro H x y a b c ra rb h
  rcases in_go ra rb h with ⟨i, j, rfl, rfl, rfl⟩ | ⟨p, xs, rfl, sq, f1, f2, rfl⟩
  · refine ⟨_, rfl, fun Q q => ?_⟩
    rw [Bool.bne_false] at q
    rcases inS_cases i j with ⟨k, rfl, e⟩ | e
    · rw [e] at q; exact .inl ⟨k, j, rfl, rfl, q⟩
    · rw [e] at q; exact .inr (.inl ⟨i, j, rfl, rfl, q⟩)
  · refine ⟨_, rfl, fun Q q => .inr (.inr ⟨p, xs, rfl, sq, f1, f2, ?_⟩)⟩
    rw [Bool.bne_false] at q
    exact q
theorem f_notIn2 {K : PySem.W.Frag} : Op2S K (rNotIn2S K) (dIn true) := by
  intro H x y a b c ra rb h
  rcases in_go ra rb h with ⟨i, j, rfl, rfl, rfl⟩ | ⟨p, xs, rfl, sq, f1, f2, rfl⟩
  · refine ⟨_, rfl, fun Q q => ?_⟩
    rw [Bool.bne_true] at q
    rcases inS_cases i j with ⟨k, rfl, e⟩ | e
    · rw [e] at q; exact .inl ⟨k, j, rfl, rfl, q⟩
    · rw [e] at q; exact .inr (.inl ⟨i, j, rfl, rfl, q⟩)
  · refine ⟨_, rfl, fun Q q => .inr (.inr ⟨p, xs, rfl, sq, f1, f2, ?_⟩)⟩
    rw [Bool.bne_true] at q
    exact q
noncomputable def CallT (K : PySem.W.Frag) (r : List V → Hp → VK → Prop) (f : List D → Option (List D)) : Prop := ∀ F H xs ds cs, Same F H → Reps K F xs ds → f ds = some cs → ∀ Q : VK, (∀ p vs, H p = none → Reps K F vs cs → Q (.ref p) (upd H p (.tup vs))) → r xs H Q
noncomputable def mCallT (f : List D → Option (List D)) (a : SD → ER (List D)) : SD → ER D := fun sd => (a sd).bind fun xs sd1 => ER.opt ((f xs).map .tup) sd1
noncomputable def dTupOf : List D → Option (List D)
  | [.lst ds] => some ds
  | _ => none
noncomputable def rTupOf (K : PySem.W.Frag) : List V → Hp → VK → Prop := fun xs H Q => ∃ p ys, xs = [.ref p] ∧ ((SqL K H p ys ∧ ∀ l, H l = none → Q (.ref l) (upd H l (.tup ys))) ∨ (SqT K H p ys ∧ Q (.ref p) H))
theorem f_tupOf {K : PySem.W.Frag} : CallT K (rTupOf K) dTupOf := by
  intro F H xs ds cs hF rs h Q hQ
  unfold dTupOf at h
  split at h
  · cases h
    obtain ⟨v, rfl, r1⟩ := reps1 rs
    cases r1 with
    | lst s t => exact ⟨_, _, rfl, .inl ⟨.inl (Same.rd hF s), fun l hl => hQ l _ hl t⟩⟩
  · cases h
section
variable {X : Cx} {pv : List V} {W : WX} {p q k l : Bool} {tg o e a b : Expr} {es : List Expr} {apos cpos pos pp : Pos} {name : Str} {T id : String}
theorem tr_callT {r : List V → Hp → VK → Prop} {f : List D → Option (List D)} {ta : TA} {m : SD → ER (List D)} (hf : CallT X.K r f) (h : TrA X.K pv W p true ta m) : TrX X.K pv W p true (tCB r ta) (mCallT f m) := by
  intro G F sd σ H Q s
  refine Meets.bindL (h G F sd σ H _ s) fun xs F1 H1 ds sd1 s1 s2 s3 s4 => ?_
  cases e : f ds with
  | none => exact True.intro
  | some cs =>
    intro hQ
    refine hf F1 H1 xs ds cs s2.fh s3 e Q fun p vs hp hr => ?_
    exact hQ _ _ _ (s2.sameNew hp) (s2.new hp) (.tup upd_same (hr.mono (s2.sameNew hp))) fun _ => ⟨Same.upd hp, rfl⟩
theorem dx_callTyT {x : Str} {T : String} {pp : Pos} {r : List V → Hp → VK → Prop} {f : List D → Option (List D)} {m : SD → ER (List D)} (hc : CallR X (.type T) r) (hf : CallT X.K r f) (hg : Gl X x) (hm : X.mg x = none) (hv : bootBuiltins x = some (.type T)) (ha : DA X pv W p true (e :: es) m)
    (hn : x ≠ "__name__" := by decide) (hdb : (x == ("__debug__" : Str)) = false := by decide) (he : starEach (e :: es) X.env = (false, eval e X.env) :: starEach es X.env := by rfl) (hpl : (backTo pos (starEach es X.env)).any (·.1) = false := by rfl) :
    DX X pv W p true (.Call (.Name x pp) (e :: es) [] pos) (mCallT f m) := by
  obtain ⟨ta, a1, a2⟩ := ha
  exact ⟨_, pe_callTy hc hg hm hv a1 hn hdb he hpl, tr_callT hf a2⟩
theorem tr_bmL {r : V → List V → Hp → VK → Prop} {t : D → Bool} {f : D → List D → Option (List D)} {to : TE} {ta : TA} {mo : SD → ER D} {ma : SD → ER (List D)} (ht : TyD X.K T t) (hf : CallML X.K r f) (ho : TrX X.K pv W p true to mo) (ha : TrA X.K pv W q true ta ma) :
    TrO X.K pv W (p && q) (tBM X.K T r to ta) (mBmL t f mo ma) := by
  intro G F sd σ H Q s
  refine Meets.bind (ho G F sd σ H _ s) fun x F1 H1 d sd1 s1 s2 s3 s4 => ?_
  have hq : q = (q && true) := by cases q <;> rfl
  rw [hq]
  by_cases tt : t d = true
  · rw [if_pos tt]
    have ty := ht H1 x d (RSx.see s3 s2) tt
    refine Meets.to ?_ fun z => ⟨ty, z⟩
    refine Meets.bind (ha G F1 sd1 σ H1 _ s2) fun xs F2 H2 ds sd2 t1 t2 t3 t4 => ?_
    cases e : f d ds with
    | none => exact True.intro
    | some cs =>
      intro hQ
      refine hf F2 H2 x xs d ds cs t2.fh (Rep.mono t1 s3) t3 e Q fun p vs hp hr => ?_
      have z := t2.newL hp hr
      exact hQ _ _ _ (Same.refl _) z.drop z fun _ => ⟨Same.upd hp, rfl⟩
  · rw [if_neg tt]
    exact True.intro
theorem do_split {mo : SD → ER D} {ma : SD → ER (List D)} (ho : DX X pv W p true o mo) (ha : DA X pv W q true [e] ma) (hbase : attributeBase o "split" X.env (eval o X.env) = eval o X.env := by rfl)
    (hfew : ((backTo cpos (starEach [e] X.env)).all (fun x => !x.1) && (backToKw cpos (keywordEach [] X.env)).all (fun x => x.1.isSome) && decide ([e].length + ([] : List Keyword).length + (if ([] : List Keyword).isEmpty then 0 else 1) < 30)) = true := by rfl)
    (hline : (apos.endLine == cpos.line) = true := by rfl) (hs : starEach [e] X.env = (false, eval e X.env) :: starEach [] X.env := by rfl) (hplain : (backTo cpos (starEach [] X.env)).any (·.1) = false := by rfl) :
    DO X pv W (p && q) (.Call (.Attribute o "split" apos) [e] [] cpos) (mBmL D.isS dSplit mo ma) := by
  obtain ⟨to, o1, o2⟩ := ho
  obtain ⟨ta, a1, a2⟩ := ha
  exact ⟨_, pe_bm PySem.F.plainAttrs_str PySem.F.slot_str_split PySem.F.type_str_split mt_split o1 a1 hbase hfew hline hs hplain, tr_bmL ty_str f_split o2 a2⟩
theorem dx_join {mo : SD → ER D} {ma : SD → ER (List D)} (ho : DX X pv W p k o mo) (ha : DA X pv W q l [e] ma) (hk : (k || q) = true := by rfl) (hbase : attributeBase o "join" X.env (eval o X.env) = eval o X.env := by rfl)
    (hfew : ((backTo cpos (starEach [e] X.env)).all (fun x => !x.1) && (backToKw cpos (keywordEach [] X.env)).all (fun x => x.1.isSome) && decide ([e].length + ([] : List Keyword).length + (if ([] : List Keyword).isEmpty then 0 else 1) < 30)) = true := by rfl)
    (hline : (apos.endLine == cpos.line) = true := by rfl) (hs : starEach [e] X.env = (false, eval e X.env) :: starEach [] X.env := by rfl) (hplain : (backTo cpos (starEach [] X.env)).any (·.1) = false := by rfl) :
    DX X pv W (p && q) true (.Call (.Attribute o "join" apos) [e] [] cpos) (mBm D.isS dJoin mo ma) :=
  dx_bm PySem.F.plainAttrs_str PySem.F.slot_str_join PySem.F.type_str_join mt_join ty_str f_join ho ha hk hbase hfew hline hs hplain
noncomputable def iStrD (a : SD → ER D) : SD → ER (List D) := fun sd => (a sd).bind fun x sd1 => match x with
  | .str x => .ok (x.cps.toList.map fun c => .str ⟨#[c]⟩) sd1
  | _ => .bad
theorem walk_str {K : PySem.W.Frag} {F : Hp} {x : Str} : Walk K (Its x) F (x.cps.toList.map fun c => .str ⟨#[c]⟩) where
  stop := fun F' H' e1 e2 => by
    show x.cps.size ≤ _
    rw [List.length_map, Array.length_toList]
    exact Nat.le_refl _
  go := fun F' H' i d e1 e2 hd => by
    rw [List.getElem?_map] at hd
    obtain ⟨c, h1, _⟩ := Option.map_eq_some_iff.mp hd
    have := (List.getElem?_eq_some_iff.mp h1).1
    rwa [Array.length_toList] at this
  yld := fun F' H' i d z H'' e1 e2 hd ⟨hH, c, hc, hz⟩ => by
    rw [List.getElem?_map, Array.getElem?_toList, hc] at hd
    cases hd
    subst hz
    exact .inl ⟨hH, .str _⟩
theorem di_str {m : SD → ER D} (h : DX X pv W p true e m) : DI X pv W p tg e (iStrD m) := by
  obtain ⟨te, a1, a2⟩ := h
  refine ⟨_, pi_str a1, fun G F sd σ H R s => ?_⟩
  refine Meets.bindL (a2 G F sd σ H _ s) fun x F1 H1 dx sd1 s1 s2 s3 s4 => ?_
  have s3 : Rep X.K F1 x dx := s3
  cases dx with
  | str z =>
    cases s3
    exact Meets.here s2 (show RSw X.K G F1 sd1 H1 σ (Its z) _ from walk_str) fun q => ⟨z, rfl, q⟩
  | _ => exact True.intro
end
theorem fn_bad {P : Program} {w : World} {K : PySem.W.Frag} {mg : Str → Option Value} {base : Heap} {k n : Nat} {f : Addr} {fd : FuncData} {ps : List Str} : FnG P w K mg base (L2.CX P w) k f fd ps (spD K n fun _ => .bad) where
  len := fun vs H Q E h => by
    obtain ⟨_, _, _, _, _, _, h⟩ := h
    exact h.elim
  run := fun A out s H args us vs Q E x e0 bd rel h => by
    obtain ⟨_, _, _, _, _, _, h⟩ := h
    exact h.elim
end DL
namespace DL
open PySem PySem.Spec L2
end DL
namespace DL
open PySem PySem.Spec L2
theorem fldO_rep {K : PySem.W.Frag} {F H : Hp} {f : Str} {d : D} : ∀ {fs : List (Str × V)} {ts : List OT} {P : Addr → Prop}, RepOs K F H ts (fs.map (·.2)) P → fldD f (fs.map (·.1)) ts = some (.fz d) → ∃ v, fs.lookup f = some v ∧ Rep K F v d
  | [], ts, P, _, h => by cases ts <;> cases h
  | (n, v) :: fs, [], P, r, _ => by
    unfold RepOs at r
    cases r
  | (n, v) :: fs, t :: ts, P, r, h => by
    unfold RepOs at r
    obtain ⟨v', ws, P1, P2, e, _, _, r1, r2⟩ := r
    rw [List.map_cons] at e
    injection e with e1 e2
    subst e1 e2
    rw [List.map_cons, fldD] at h
    rw [lookup_head]
    by_cases q : n = f
    · rw [if_pos q] at h ⊢
      cases h
      unfold RepO at r1
      exact ⟨_, rfl, r1⟩
    · rw [if_neg q] at h ⊢
      exact fldO_rep r2 h
noncomputable def mFldO (ok : Addr → Bool) (i : Nat) (f : Str) : SD → ER D := fun sd => match sd.tree i with
  | some (.oi C ns ts) => if ok C = true then (match fldD f ns ts with
    | some (.fz d) => .ok d sd
    | _ => .bad) else .bad
  | _ => .bad
section
variable {X : Cx} {pv : List V} {W : WX}
theorem dx_fldO {ok : Addr → Bool} {f x : Str} {i : Nat} {pp pos : Pos} (hx : PE X (.Name x pp) (tVar i)) (hf : ∀ C, ok C = true → Cls X.K C ∧ NoAttr X.K C f) (hb : attributeBase (.Name x pp) f X.env (eval (.Name x pp) X.env) = eval (.Name x pp) X.env := by rfl) : DX X pv W true true (.Attribute (.Name x pp) f pos) (mFldO ok i f) := by
  refine ⟨_, pe_fld hx hb, fun G F sd σ H Q s => ?_⟩
  unfold mFldO
  split
  · rename_i C ns ts e0
    split
    · rename_i hok
      obtain ⟨c1, c2⟩ := hf C hok
      split
      · rename_i d e1
        obtain ⟨v, P, h1, h2⟩ := s.tree e0
        unfold RepO at h2
        obtain ⟨a, dx, fvs, rfl, _, ha, rfl, r⟩ := h2
        obtain ⟨u, k1, k2⟩ := fldO_rep r e1
        exact Meets.here s (show RSx X.K true G F sd H σ u d from k2) fun q => ⟨.ref a, h1, a, C, dx, fvs, u, rfl, ha, c1, c2, k1, q⟩
      · exact True.intro
    · exact True.intro
  · exact True.intro
end
end DL
namespace DL
open PySem PySem.Spec L2
end DL
namespace DL
open PySem PySem.Spec L2 PyProof.Rows
end DL
namespace DL
open PySem PySem.Spec L2 PyProof.Rows
end DL
namespace DL
open PySem PySem.Spec L2 PyProof.Rows
noncomputable def dIndexD : D → List D → Option D
  | .lst ds, [d] => (D.pys ds).bind fun ps => d.py.bind fun p => if (SeqAt.shaped (.list ps) && SeqAt.shaped p) = true then (ps.findIdx? (fun z => PyData.eqv z p)).map fun j => .int (j : Nat) else none
  | _, _ => none
theorem f_indexD {K : PySem.W.Frag} : CallM K (rIndexD K) dIndexD := by
  intro H x xs d ds c r rs h
  unfold dIndexD at h
  split at h
  · rename_i es d1
    obtain ⟨ps, e1, h⟩ := Option.bind_eq_some_iff.mp h
    obtain ⟨p, e2, h⟩ := Option.bind_eq_some_iff.mp h
    split at h
    · rename_i hc
      rw [Bool.and_eq_true] at hc
      obtain ⟨j, e3, h⟩ := Option.map_eq_some_iff.mp h
      subst h
      obtain ⟨v, rfl, r1⟩ := reps1 rs
      have rd : Dp K H x (.list ps) := Rep.dp r (by rw [D.py, e1]; rfl)
      obtain ⟨hj, hz, hno⟩ := List.findIdx?_eq_some_iff_getElem.mp e3
      cases r with
      | @lst a vs _ s t =>
        refine ⟨_, rfl, fun Q q => ⟨a, v, p, ps, j, ps[j], rfl, rfl, rd, Rep.dp r1 e2, hc.1, hc.2, List.getElem?_eq_getElem hj, hz, fun m z' hm hz' => ?_, q⟩⟩
        have hml : m < ps.length := by omega
        rw [List.getElem?_eq_getElem hml] at hz'
        cases hz'
        exact Bool.eq_false_iff.mpr (hno m hm)
    · cases h
  · cases h
section
variable {X : Cx} {pv : List V} {W : WX} {p q k l : Bool} {o e : Expr} {apos cpos pos : Pos}
theorem dx_indexD {mo : SD → ER D} {ma : SD → ER (List D)} (hu : X.A.units + 65 < cLine) (ho : DX X pv W p k o mo) (ha : DA X pv W q l [e] ma) (hk : (k || q) = true := by rfl) (hbase : attributeBase o "index" X.env (eval o X.env) = eval o X.env := by rfl)
    (hfew : ((backTo cpos (starEach [e] X.env)).all (fun x => !x.1) && (backToKw cpos (keywordEach [] X.env)).all (fun x => x.1.isSome) && decide ([e].length + ([] : List Keyword).length + (if ([] : List Keyword).isEmpty then 0 else 1) < 30)) = true := by rfl)
    (hline : (apos.endLine == cpos.line) = true := by rfl) (hs : starEach [e] X.env = (false, eval e X.env) :: starEach [] X.env := by rfl) (hplain : (backTo cpos (starEach [] X.env)).any (·.1) = false := by rfl) :
    DX X pv W (p && q) true (.Call (.Attribute o "index" apos) [e] [] cpos) (mBm D.isL dIndexD mo ma) :=
  dx_bm PySem.F.plainAttrs_list PySem.F.slot_list_index PySem.F.type_list_index (mt_indexD hu) ty_lst f_indexD ho ha hk hbase hfew hline hs hplain
end
end DL
namespace DL
open PySem PySem.Spec L2 PyProof.Rows
end DL
namespace PySem.W
open PySem PySem.Spec PySem.Calls PyProof.Rows
end PySem.W
namespace DL
open PySem PySem.Spec L2
end DL
namespace DL
open PySem PySem.Spec L2 GenW
section
variable {X : Cx}
/-- the iterator's own objects: what does not change in the loop -/
noncomputable def Free (X : Cx) (S : Addr) (ip : List (Addr × Obj)) (b : Addr) : Prop :=
  b ≠ X.env.locals ∧ b ∉ X.fs ∧ (b ∈ X.ex ∨ X.s_0.heap.objs.size ≤ b) ∧ (∀ x c, X.env.cells.lookup x = some c → c ≠ b) ∧ (∀ p ∈ X.pn, p.1 ≠ b) ∧ S ≠ b ∧ ∀ p ∈ ip, p.1 ≠ b
theorem Free.ok {X : Cx} {S : Addr} {o : Obj} {ip : List (Addr × Obj)} {H : Hp} {b : Addr} (h : Free X S ip b) (hn : H b = none) : FpOk X ((S, o) :: ip) H b := by
  obtain ⟨a, b', c, d, e, f, g⟩ := h
  refine ⟨hn, a, b', c, d, fun p hp => ?_⟩
  rcases List.mem_append.mp hp with k | k
  · exact e p k
  · rcases List.mem_cons.mp k with k | k
    · rw [k]; exact f
    · exact g p k
end
end DL
namespace DL
open PySem PySem.Spec L2 PyProof.Rows
end DL
namespace DL
open PySem PySem.Spec L2 PyProof.Rows
end DL
namespace DL
open PySem PySem.Spec L2 PyProof.Rows
section
variable {K : PySem.W.Frag} {pv : List V} {G F F' H H' : Hp} {sd : SD} {σ : L2.St}
theorem repOs_last : ∀ {ts : List OT} {t : OT} {vs : List V} {P : Addr → Prop}, RepOs K F H (ts ++ [t]) vs P → ∃ (ws : List V) (v : V) (P1 P2 : Addr → Prop), vs = ws ++ [v] ∧ (∀ x, P1 x → P x) ∧ (∀ x, P2 x → P x ∧ ¬ P1 x) ∧ RepOs K F H ts ws P1 ∧ RepO K F H t v P2
  | [], t, vs, P, r => by
    rw [List.nil_append] at r
    unfold RepOs at r
    obtain ⟨v, ws, Q1, Q2, rfl, h1, h2, r1, rr⟩ := r
    unfold RepOs at rr
    subst rr
    refine ⟨[], v, fun _ => False, Q1, rfl, fun x h => h.elim, fun x h => ⟨h1 x h, id⟩, ?_, r1⟩
    unfold RepOs; rfl
  | t0 :: ts, t, vs, P, r => by
    rw [List.cons_append] at r
    unfold RepOs at r
    obtain ⟨v, ws, Q1, Q2, rfl, h1, h2, r1, rr⟩ := r
    obtain ⟨us, u, P1, P2, rfl, k1, k2, k3, k4⟩ := repOs_last rr
    refine ⟨v :: us, u, fun x => Q1 x ∨ P1 x, P2, rfl, fun x h => h.elim (h1 x) fun h => (h2 x (k1 x h)).1, fun x h => ⟨(h2 x (k2 x h).1).1, fun z => z.elim (h2 x (k2 x h).1).2 (k2 x h).2⟩, ?_, k4⟩
    unfold RepOs
    exact ⟨v, us, Q1, P1, rfl, fun x h => .inl h, fun x h => ⟨.inr h, (h2 x (k1 x h)).2⟩, r1, k3⟩
theorem StR.lpop {i : Nat} {ts : List OT} {t : OT} (s : StR K pv G F sd σ H) (h : sd.tree i = some (.ol (ts ++ [t]))) : ∃ (a : Addr) (ws : List V) (v : V), σ[i]? = some (some (.ref a)) ∧ H a = some (.lst (ws ++ [v])) ∧
    StR1 K pv G F (sd.put i (.ol ts)) σ (upd H a (.lst ws)) v t := by
  classical
  obtain ⟨o, W⟩ := s
  obtain ⟨src, v0, h1, h2, h3⟩ := W.put h
  unfold RepO at h2
  obtain ⟨a, vs, rfl, pa, ha, r⟩ := h2
  obtain ⟨ws, v, P1, P2, rfl, k1, k2, k3, k4⟩ := repOs_last r
  have nF : ∀ b u, F b = some u → b ≠ a := fun b u e z => by rw [z, (W.oh _ a pa).2.1] at e; cases e
  have nG : ∀ b u, G b = some u → b ≠ a := fun b u e z => by rw [z, (W.oh _ a pa).2.2] at e; cases e
  have nz : ∀ b, H b ≠ none → upd H a (.lst ws) b ≠ none := fun b hb => by
    by_cases z : b = a
    · rw [z, upd_same]; simp
    · rw [upd_ne z]; exact hb
  have sub : ∀ x b, (if x = src then b = a ∨ P1 b else o x b) → o x b := fun x b q => by
    by_cases z : x = src
    · rw [if_pos z] at q
      rw [z]
      rcases q with q | q
      · rw [q]; exact pa
      · exact (k1 b q).1
    · rw [if_neg z] at q; exact q
  refine ⟨a, ws, v, h1, ha, fun x b => if x = src then b = a ∨ P1 b else o x b, P2, h3 F _ _ _ (Same.refl _) (fun b u e => ?_) (fun b u e => ?_) W.fg (fun x b q => ?_) (fun x y b q q' => W.oo x y b (sub x b q) (sub y b q')) (fun x n b q => ?_) ?_ fun c xs e => W.tf c xs (nt_upd (by intro _ z; cases z) c xs e), ?_, fun b q => ?_⟩
  · rw [upd_ne (nF b u e)]; exact W.fh b u e
  · rw [upd_ne (nG b u e)]; exact W.gh b u e
  · obtain ⟨m1, m2⟩ := W.oh x b (sub x b q)
    exact ⟨nz b m1, m2⟩
  · have ne : b ≠ a := fun z => n (W.oo x src b q (by rw [z]; exact pa))
    exact ⟨by rw [if_neg n]; exact q, upd_ne ne⟩
  · show RepO K F (upd H a (.lst ws)) (.ol ts) (.ref a) (fun b => if src = src then b = a ∨ P1 b else o src b)
    unfold RepO
    have e : ∀ b, (if src = src then b = a ∨ P1 b else o src b) = (b = a ∨ P1 b) := fun b => if_pos rfl
    refine ⟨a, ws, rfl, (e a).mpr (.inl rfl), upd_same, k3.mono (Same.refl _) fun x hx => ⟨⟨(e x).mpr (.inr hx), (k1 x hx).2⟩, upd_ne (k1 x hx).2⟩⟩
  · exact k4.mono (Same.refl _) fun x hx => ⟨hx, upd_ne (k2 x hx).1.2⟩
  · obtain ⟨m1, m2⟩ := k2 b q
    obtain ⟨n1, n2, n3⟩ := W.oh src b m1.1
    refine ⟨nz b n1, n2, n3, fun x q' => ?_⟩
    have q' : if x = src then b = a ∨ P1 b else o x b := q'
    by_cases z : x = src
    · rw [if_pos z] at q'
      exact q'.elim m1.2 m2
    · rw [if_neg z] at q'
      exact z (W.oo x src b q' m1.1)
end
noncomputable def mPop (i : Nat) : SD → ER OT := fun sd => match sd.tree i with
  | some (.ol ts) => match ts.getLast? with
    | some t => .ok t (sd.put i (.ol ts.dropLast))
    | none => .bad
  | _ => .bad
section
variable {X : Cx} {pv : List V} {W : WX}
theorem do_pop {i : Nat} {x : Str} {pp apos cpos : Pos} (hx : PE X (.Name x pp) (tVar i)) (hline : (apos.endLine == cpos.line) = true := by rfl)
    (hbase : attributeBase (.Name x pp) "pop" X.env (eval (.Name x pp) X.env) = eval (.Name x pp) X.env := by rfl) : DO X pv W false (.Call (.Attribute (.Name x pp) "pop" apos) [] [] cpos) (mPop i) := by
  refine ⟨_, pe_bm0 PySem.F.plainAttrs_list PySem.F.slot_list_pop PySem.F.type_list_pop mt_pop hx hbase hline, fun G F sd σ H Q s => ?_⟩
  unfold mPop
  split
  · rename_i ts0 e0
    split
    · rename_i t e1
      obtain ⟨ts, rfl⟩ := List.getLast?_eq_some_iff.mp e1
      rw [List.dropLast_concat]
      obtain ⟨a, ws, v, h1, h2, h3⟩ := s.lpop e0
      intro hQ
      have hd : (ws ++ [v]).dropLast = ws := List.dropLast_concat
      refine ⟨_, h1, .inl ⟨rfl, _, .inl (.inl h2)⟩, a, ws ++ [v], v, rfl, rfl, h2, by simp, ?_⟩
      rw [hd]
      exact hQ v F _ (Same.refl _) h3.drop h3 fun z => by cases z
    · exact True.intro
  · exact True.intro
end
end DL
namespace DL
open PySem PySem.Spec L2 PyProof.Rows
end DL
namespace DL
open PySem PySem.Spec L2 PyProof.Rows
end DL
namespace DL
open PySem PySem.Spec L2 PyProof.Rows
end DL
namespace DL
open PySem PySem.Spec L2 PyProof.Rows
end DL
namespace DL
open PySem PySem.Spec L2
end DL
namespace DL
open PySem PySem.Spec L2
@[elab_as_elim] theorem ul0 {α : Type} {us : List α} {P : List α → Prop} (h : us.length = 0) (hp : P []) : P us := by
  cases us with
  | nil => exact hp
  | cons _ _ => cases h
theorem ulS {α : Type} {us : List α} {n : Nat} {P : List α → Prop} (h : us.length = n + 1) (hp : ∀ a r, r.length = n → P (a :: r)) : P us := by
  cases us with
  | nil => cases h
  | cons a r => exact hp a r (Nat.succ.inj h)
@[elab_as_elim] theorem ul1 {α : Type} {us : List α} {P : List α → Prop} (h : us.length = 1) (hp : ∀ a, P [a]) : P us := ulS h fun a r h => ul0 (P := fun r => P (a :: r)) h (hp a)
@[elab_as_elim] theorem ul2 {α : Type} {us : List α} {P : List α → Prop} (h : us.length = 2) (hp : ∀ a b, P [a, b]) : P us := ulS h fun a r h => ul1 (P := fun r => P (a :: r)) h (hp a)
@[elab_as_elim] theorem ul3 {α : Type} {us : List α} {P : List α → Prop} (h : us.length = 3) (hp : ∀ a b c, P [a, b, c]) : P us := ulS h fun a r h => ul2 (P := fun r => P (a :: r)) h (hp a)
@[elab_as_elim] theorem ul4 {α : Type} {us : List α} {P : List α → Prop} (h : us.length = 4) (hp : ∀ a b c d, P [a, b, c, d]) : P us := ulS h fun a r h => ul3 (P := fun r => P (a :: r)) h (hp a)
@[elab_as_elim] theorem ul5 {α : Type} {us : List α} {P : List α → Prop} (h : us.length = 5) (hp : ∀ a b c d e, P [a, b, c, d, e]) : P us := ulS h fun a r h => ul4 (P := fun r => P (a :: r)) h (hp a)
section
variable {X : Cx} {pv : List V} {W : WX} {p q k l : Bool} {e a b : Expr} {es : List Expr} {pos : Pos}
noncomputable def mCutS (a : SD → ER D) (lo hi : SD → ER (Option Int)) : SD → ER OT := fun sd => (a sd).bind fun x sd1 => (lo sd1).bind fun i sd2 => (hi sd2).bind fun j sd3 => match x with
  | .scr ns => .ok (.ol ((cutL (ns.map D.int) i j).map .fz)) sd3
  | _ => .bad
theorem do_cutS {lo hi : Option Expr} {p2 : Pos} {ma : SD → ER D} {ml mh : SD → ER (Option Int)} {q1 q2 : Bool} (ha : DX X pv W p true a ma) (hl : DP X pv W q1 lo ml) (hh : DP X pv W q2 hi mh) :
    DO X pv W (p && (q1 && q2)) (.Subscript a (.Slice lo hi none p2) pos) (mCutS ma ml mh) := by
  obtain ⟨ta, a1, a2⟩ := ha
  obtain ⟨tl, b1, b2⟩ := hl
  obtain ⟨th, c1, c2⟩ := hh
  refine ⟨_, pe_slice sl_list a1 b1 c1, fun G F sd σ H Q s => ?_⟩
  refine Meets.bind (a2 G F sd σ H _ s) fun x F1 H1 dx sd1 s1 s2 s3 s4 => ?_
  refine Meets.bind (b2 G F1 sd1 σ H1 _ s2) fun i F2 H2 i' sd2 t1 t2 t3 t4 => ?_
  refine Meets.bindL (c2 G F2 sd2 σ H2 _ t2) fun j F3 H3 j' sd3 u1 u2 u3 u4 => ?_
  have t3 : i = i' := t3
  have u3 : j = j' := u3
  subst t3 u3
  have rx : Rep X.K F3 x dx := Rep.mono (t1.trans u1) (show Rep X.K F1 x dx from s3)
  cases dx with
  | scr ns =>
    intro hQ
    cases rx with
    | @scr aa _ h1 =>
      refine ⟨aa, ns.map V.int, rfl, u2.fh.seq h1, fun hp hp2 => ?_⟩
      have z := u2.newL hp2 (reps_cut i j (Reps.ints ns))
      exact hQ _ _ _ (Same.refl _) z.drop z fun _ => ⟨Same.upd hp2, rfl⟩
  | _ => exact True.intro
end
end DL
namespace DL
open PySem PySem.Spec L2 PyProof.Rows
end DL
namespace DL
open PySem PySem.Spec L2 PyProof.Rows
end DL
namespace DL
open PySem PySem.Spec L2 PyProof.Rows
end DL
namespace DL
namespace BigSet
open PySem PySem.Spec L2 PyProof.Rows
noncomputable def wk : Nat → Nat
  | 0 => 0
  | n + 1 => wk n * 5 + 1
theorem wk_add (n : Nat) : ∀ k, wk (n + k) = wk n * (4 * wk k + 1) + wk k
  | 0 => by show wk n = _; simp [wk]
  | k + 1 => by
    show wk (n + k) * 5 + 1 = wk n * (4 * (wk k * 5 + 1) + 1) + (wk k * 5 + 1)
    rw [wk_add n k]
    have e1 : wk n * (4 * (wk k * 5 + 1) + 1) = wk n * (4 * wk k + 1) * 5 := by
      rw [Nat.mul_assoc]; congr 1; omega
    rw [e1, Nat.add_mul]; omega
theorem wk_pow : ∀ K, ∃ o, wk (2 ^ K) = 2 ^ K * (2 * o + 1)
  | 0 => ⟨0, rfl⟩
  | K + 1 => by
    obtain ⟨o, e⟩ := wk_pow K
    have e2 : 2 ^ (K + 1) = 2 ^ K + 2 ^ K := by rw [Nat.pow_succ]; omega
    refine ⟨o * (2 * wk (2 ^ K) + 1) + wk (2 ^ K), ?_⟩
    rw [e2, wk_add]
    generalize hw : wk (2 ^ K) = W at e ⊢
    have e3 : W * (4 * W + 1) + W = 2 * (W * (2 * W + 1)) := by grind
    rw [e3]
    have e5 : W * (2 * W + 1) = 2 ^ K * ((2 * o + 1) * (2 * W + 1)) := by
      conv => lhs; lhs; rw [e]
      rw [Nat.mul_assoc]
    rw [e5]
    generalize 2 ^ K = P
    grind
theorem mod_step {P x j o : Nat} (hP : 0 < P) (h : x % P = j % P) : x % (P * 2) = j % (P * 2) ∨ (x + P * (2 * o + 1)) % (P * 2) = j % (P * 2) := by
  have h1 : (x + P * (2 * o + 1)) % P = x % P := Nat.add_mul_mod_self_left _ _ _
  have h2 : (x + P * (2 * o + 1)) / P = x / P + (2 * o + 1) := Nat.add_mul_div_left _ _ hP
  rw [Nat.mod_mul, Nat.mod_mul, Nat.mod_mul, h1, h2, h]
  rcases Nat.mod_two_eq_zero_or_one (x / P) with a | a <;> rcases Nat.mod_two_eq_zero_or_one (j / P) with b | b
  · left; rw [a, b]
  · right
    have c : (x / P + (2 * o + 1)) % 2 = 1 := by omega
    rw [c, b]
  · right
    have c : (x / P + (2 * o + 1)) % 2 = 0 := by omega
    rw [c, b]
  · left; rw [a, b]
theorem wk_all : ∀ (K j : Nat), ∃ n, n < 2 ^ K ∧ wk n % 2 ^ K = j % 2 ^ K
  | 0, j => ⟨0, by decide, by rw [Nat.pow_zero, Nat.mod_one, Nat.mod_one]⟩
  | K + 1, j => by
    obtain ⟨n, h1, h2⟩ := wk_all K j
    obtain ⟨o, e⟩ := wk_pow K
    have hP : 0 < 2 ^ K := Nat.pow_pos (by decide)
    have e2 : wk (n + 2 ^ K) = wk n + 2 ^ K * (2 * (4 * o * wk n + 2 * wk n + o) + 1) := by
      rw [wk_add, e]
      generalize 2 ^ K = P
      generalize wk n = W
      have q : W * (4 * (P * (2 * o + 1)) + 1) = W + P * ((2 * o + 1) * (4 * W)) := by
        rw [Nat.mul_add, Nat.mul_one, Nat.add_comm]
        congr 1
        rw [← Nat.mul_assoc 4 P, Nat.mul_comm 4 P, Nat.mul_assoc P 4, ← Nat.mul_assoc W P, Nat.mul_comm W P, Nat.mul_assoc P W]
        congr 1
        rw [Nat.mul_comm W, Nat.mul_comm 4 (2 * o + 1), Nat.mul_assoc]
      rw [q, Nat.add_assoc, ← Nat.mul_add]
      congr 2
      rw [Nat.add_mul, Nat.one_mul]
      have z : 2 * o * (4 * W) = 2 * (4 * o * W) := by
        rw [Nat.mul_assoc, ← Nat.mul_assoc o 4, Nat.mul_comm o 4]
      rw [z]; omega
    rw [Nat.pow_succ]
    rcases mod_step (o := 4 * o * wk n + 2 * wk n + o) hP h2 with c | c
    · exact ⟨n, by omega, c⟩
    · exact ⟨n + 2 ^ K, by omega, by rw [e2]; exact c⟩
/-- a mask: one less than a power of two -/
noncomputable def Msk (m : Nat) : Prop := ∃ K, m + 1 = 2 ^ K
theorem lcgN_wk (m : Nat) : ∀ n, lcgN m n = wk n % (m + 1)
  | 0 => (Nat.zero_mod _).symm
  | n + 1 => by
    show (lcgN m n * 5 + 1) % (m + 1) = (wk n * 5 + 1) % (m + 1)
    rw [lcgN_wk m n, Nat.add_mod, Nat.mul_mod, Nat.mod_mod, ← Nat.mul_mod, ← Nat.add_mod]
theorem around {m : Nat} (hm : Msk m) (b : Nat) : lcgN m (m + 1 + b) = lcgN m b := by
  obtain ⟨K, e⟩ := hm
  rw [lcgN_wk, lcgN_wk, e, Nat.add_comm, wk_add]
  obtain ⟨o, e2⟩ := wk_pow K
  rw [e2]
  have q : wk b * (4 * (2 ^ K * (2 * o + 1)) + 1) + 2 ^ K * (2 * o + 1) = wk b + 2 ^ K * (wk b * (4 * (2 * o + 1)) + (2 * o + 1)) := by
    generalize 2 ^ K = P
    generalize wk b = W
    generalize 2 * o + 1 = O
    rw [Nat.mul_add, Nat.mul_one, Nat.mul_add P, ← Nat.add_assoc]
    congr 1
    rw [Nat.add_comm]
    congr 1
    rw [← Nat.mul_assoc 4 P, Nat.mul_comm 4 P, Nat.mul_assoc P 4, ← Nat.mul_assoc W P, Nat.mul_comm W P, Nat.mul_assoc P W]
  rw [q, Nat.add_mul_mod_self_left]
/-- from each slot to each slot in less than a round -/
theorem full {m : Nat} (hm : Msk m) {i j : Nat} (hi : i ≤ m) (hj : j ≤ m) : ∃ k, k ≤ m ∧ lcgI m i k = j := by
  have at_ : ∀ x, x ≤ m → ∃ a, a ≤ m ∧ lcgN m a = x := fun x hx => by
    have ⟨K, e⟩ := hm
    obtain ⟨n, h1, h2⟩ := wk_all K x
    refine ⟨n, by omega, ?_⟩
    rw [lcgN_wk, e, h2]
    exact Nat.mod_eq_of_lt (by omega)
  obtain ⟨a, ha, ea⟩ := at_ i hi
  obtain ⟨b, hb, eb⟩ := at_ j hj
  by_cases c : a ≤ b
  · exact ⟨b - a, by omega, by rw [← ea, lcgN_add, show a + (b - a) = b by omega, eb]⟩
  · exact ⟨m + 1 + b - a, by omega, by rw [← ea, lcgN_add, show a + (m + 1 + b - a) = m + 1 + b by omega, around hm, eb]⟩
theorem met {m : Nat} (hm : Msk m) (h : Int) {j : Nat} (hj : j ≤ m) : ∃ n, n ≤ 12 + m ∧ runI m (SetTable.bits h) n = j := by
  obtain ⟨k, hk, e⟩ := full hm (runI_le m (SetTable.bits h) 12) hj
  refine ⟨12 + k, Nat.add_le_add_left hk _, ?_⟩
  rw [runI_tail (bits_lt h), e]
theorem met' {m : Nat} (hm : Msk m) (h : Int) {j : Nat} (hj : j ≤ m) : ∃ k, k < 10 * SetTable.turns m ∧ way m h k = j := by
  obtain ⟨n, hn, e⟩ := met hm h hj
  obtain ⟨k, hk, e2⟩ := run_nth m (SetTable.bits h) n
  have t : SetTable.turns m = m + 15 := rfl
  exact ⟨k, by omega, (congrArg SetTable.Probe.j e2).trans e⟩
theorem way_in (m : Nat) (h : Int) (k : Nat) : way m h k ≤ m := by
  have hi : SetTable.bits h % (m + 1) < m + 1 := Nat.mod_lt _ (Nat.succ_pos _)
  have r := runEnd_bd (Nat.le_of_lt_succ hi)
  have z : (runAt m (SetTable.bits h % (m + 1)) (SetTable.bits h)).j + (runAt m (SetTable.bits h % (m + 1)) (SetTable.bits h)).more ≤ m := by
    simp only [runAt]; omega
  have q := nth_in k _ z
  exact Nat.le_trans (Nat.le_add_right _ _) q
end BigSet
end DL
namespace DL
namespace BigSet
open PySem PySem.Spec L2 PyProof.Rows
/-- the slot j is the one at which the way of the hash h ends, all earlier ones being taken -/
noncomputable def Rch (m : Nat) (S : List Nat) (x : Int × Nat) : Prop := ∃ k, way m x.1 k = x.2 ∧ ∀ c, c < k → way m x.1 c ∈ S
theorem Rch.mono {m : Nat} {S S' : List Nat} {x : Int × Nat} (r : Rch m S x) (h : ∀ j ∈ S, j ∈ S') : Rch m S' x := by
  obtain ⟨k, e, q⟩ := r
  exact ⟨k, e, fun c hc => h _ (q c hc)⟩
structure Tb (t : SetTable) (hs : List Int) : Prop where
  ris : Ris t.place.toList
  dm : t.dummies = #[]
  len : t.place.toList.length = hs.length
  msk : Msk t.mask
  big : 7 ≤ t.mask ∧ t.mask ≤ 8191
  rch : ∀ x ∈ hs.zip t.place.toList, Rch t.mask t.place.toList x
theorem hole {m : Nat} (hm : Msk m) (S : List Nat) (hl : S.length ≤ m) (h : Int) : ∃ n K, n < SetTable.turns m ∧ K ≤ off m (SetTable.bits h % (m + 1)) (SetTable.bits h) n ∧ K < 10 * SetTable.turns m ∧ way m h K ∉ S ∧ ∀ c, c < K → way m h c ∈ S := by
  obtain ⟨j, hj, hn⟩ := st_missing S (m + 1) (Nat.lt_succ_of_le hl)
  obtain ⟨n, h1, h2⟩ := met hm h (Nat.le_of_lt_succ hj)
  have ew : way m h (off m (SetTable.bits h % (m + 1)) (SetTable.bits h) n) = j := by
    show (nth m (runAt m _ _) _).j = j
    rw [nth_off, itL_run]; exact h2
  obtain ⟨k2, g1, g2⟩ := met' hm h (Nat.le_of_lt_succ hj)
  obtain ⟨K, a1, a2, a3⟩ := st_least (p := fun k => way m h k ∉ S) (off m (SetTable.bits h % (m + 1)) (SetTable.bits h) n) (by show way m h _ ∉ S; rw [ew]; exact hn)
  have a4 : K ≤ k2 := Nat.le_of_not_lt fun c => a3 k2 c (by show way m h k2 ∉ S; rw [g2]; exact hn)
  have t : SetTable.turns m = m + 15 := rfl
  exact ⟨n, K, by omega, a1, by omega, a2, fun c hc => Classical.not_not.mp (a3 c hc)⟩
theorem Tb.put {t : SetTable} {hs : List Int} (T : Tb t hs) {h : Int} {K : Nat} (hK : way t.mask h K ∉ t.place.toList) (hb : ∀ k, k < K → way t.mask h k ∈ t.place.toList) :
    SetTable.below t.place (way t.mask h K) ≤ hs.length ∧ Tb (t.put (way t.mask h K)).1 (hs.take (SetTable.below t.place (way t.mask h K)) ++ h :: hs.drop (SetTable.below t.place (way t.mask h K))) ∧ (t.put (way t.mask h K)).1.fill = hs.length + 1 := by
  generalize ej : way t.mask h K = j at hK ⊢
  have c1 : SetTable.below t.place j ≤ t.place.toList.length := by rw [Array.length_toList]; exact (below_cut T.ris j).1
  have c2 : SetTable.below t.place j ≤ hs.length := T.len ▸ c1
  have np : t.place[SetTable.below t.place j]? ≠ some j := fun e => hK (List.mem_of_getElem? ((Array.getElem?_toList).trans e))
  have pp := put_place t j
  have up : ∀ x ∈ t.place.toList, x ∈ (t.put j).1.place.toList := fun x hx => by rw [pp]; exact mem_ins.2 (.inr hx)
  have dm' := put_dm T.dm j
  have ln : (t.put j).1.place.toList.length = hs.length + 1 := by rw [pp, len_ins _ c1, T.len]
  refine ⟨c2, ⟨ris_insert T.ris np, dm', ?_, T.msk, T.big, ?_⟩, ?_⟩
  · rw [ln, len_ins _ c2]
  · intro x hx
    have lt : (hs.take (SetTable.below t.place j)).length = (t.place.toList.take (SetTable.below t.place j)).length := by
      rw [List.length_take, List.length_take, T.len]
    rw [pp, List.zip_append lt, List.mem_append, List.zip_cons_cons, List.mem_cons] at hx
    have old : x ∈ hs.zip t.place.toList → Rch t.mask (t.put j).1.place.toList x := fun z => (T.rch x z).mono up
    show Rch t.mask (t.put j).1.place.toList x
    rcases hx with z | z | z
    · refine old ?_
      rw [List.zip, ← List.take_zipWith] at z
      exact List.mem_of_mem_take z
    · rw [z]
      exact ⟨K, ej, fun c hc => up _ (hb c hc)⟩
    · refine old ?_
      rw [List.zip, ← List.drop_zipWith] at z
      exact List.mem_of_mem_drop z
  · unfold SetTable.fill
    rw [dm', ← Array.length_toList, ln]; rfl
structure Lay (m : Nat) (hs : List Int) (ow : Array (Option Nat)) (js : List Nat) : Prop where
  sz : ow.size = m + 1
  len : js.length = hs.length
  nd : js.Nodup
  le : ∀ j ∈ js, j ≤ m
  own : ∀ j k, j ≤ m → (oAt ow j = some k ↔ js[k]? = some j)
  rch : ∀ x ∈ hs.zip js, Rch m js x
theorem Lay.none {m : Nat} {hs : List Int} {ow : Array (Option Nat)} {js : List Nat} (W : Lay m hs ow js) {j : Nat} (hj : j ≤ m) : oAt ow j = Option.none ↔ j ∉ js := by
  constructor
  · intro e hm
    obtain ⟨k, hk⟩ := List.getElem?_of_mem hm
    rw [(W.own j k hj).2 hk] at e
    cases e
  · intro hn
    cases e : oAt ow j with
    | none => rfl
    | some k => exact absurd (List.mem_of_getElem? ((W.own j k hj).1 e)) hn
theorem Lay.step {m : Nat} (hm : Msk m) {hs : List Int} {ow : Array (Option Nat)} {js : List Nat} (W : Lay m hs ow js) (hl : hs.length ≤ m) (h : Int) :
    ∃ j, SetTable.layClean.free m ow (SetTable.turns m) (SetTable.bits h % (m + 1)) (SetTable.bits h) = some j ∧ Lay m (hs ++ [h]) (ow.setIfInBounds j (some hs.length)) (js ++ [j]) := by
  obtain ⟨n, K, n1, n2, _, n4, n5⟩ := hole hm js (W.len ▸ hl) h
  have wl : ∀ c, way m h c ≤ m := fun c => way_in m h c
  refine ⟨way m h K, free_spec m ow _ n _ _ K n1 n2 (fun c hc => ?_) ?_, ?_⟩
  · have z := mt (W.none (wl c)).1 (fun q => q (n5 c hc))
    cases e : oAt ow (nth m (runAt m (SetTable.bits h % (m + 1)) (SetTable.bits h)) c).j with
    | none => exact absurd e z
    | some _ => rfl
  · have z : oAt ow (nth m (runAt m (SetTable.bits h % (m + 1)) (SetTable.bits h)) K).j = Option.none := (W.none (wl K)).2 n4
    rw [z]; rfl
  · generalize ej : way m h K = j at n4 ⊢
    have jm : j ≤ m := ej ▸ wl K
    have js1 : j < ow.size := by rw [W.sz]; omega
    have sub : ∀ x ∈ js, x ∈ js ++ [j] := fun x hx => List.mem_append_left _ hx
    refine ⟨by rw [Array.size_setIfInBounds]; exact W.sz, by simp [W.len], ?_, ?_, ?_, ?_⟩
    · rw [List.nodup_append]
      exact ⟨W.nd, by simp, fun a ha b hb e => n4 (by rw [← List.mem_singleton.mp hb, ← e]; exact ha)⟩
    · intro x hx
      rcases List.mem_append.mp hx with z | z
      · exact W.le x z
      · rw [List.mem_singleton.mp z]; exact jm
    · intro x k hx
      by_cases c : x = j
      · subst c
        rw [oAt_set_self _ js1]
        constructor
        · intro e; cases e
          rw [← W.len, List.getElem?_append_right (Nat.le_refl _), Nat.sub_self]; rfl
        · intro e
          rcases Nat.lt_or_ge k js.length with q | q
          · rw [List.getElem?_append_left q] at e
            exact absurd (List.mem_of_getElem? e) n4
          · have hk : k < (js ++ [x]).length := (List.getElem?_eq_some_iff.mp e).1
            rw [List.length_append, List.length_singleton] at hk
            rw [← W.len, show k = js.length by omega]
      · rw [oAt_set_ne _ c, W.own x k hx]
        rcases Nat.lt_or_ge k js.length with q | q
        · rw [List.getElem?_append_left q]
        · constructor
          · intro e; exact absurd (List.getElem?_eq_some_iff.mp e).1 (by omega)
          · intro e
            have e2 := e
            rw [List.getElem?_append_right q] at e2
            exact absurd (List.mem_singleton.mp (List.mem_of_getElem? e2)) c
    · intro x hx
      rw [List.zip_append W.len.symm, List.mem_append] at hx
      rcases hx with z | z
      · exact (W.rch x z).mono sub
      · rw [List.mem_singleton.mp z]
        exact ⟨K, ej, fun c hc => sub _ (n5 c hc)⟩
theorem Lay.fold {m : Nat} (hm : Msk m) : ∀ (r hs : List Int) (ow : Array (Option Nat)) (js : List Nat), Lay m hs ow js → hs.length + r.length ≤ m →
    ∃ ow' js', r.foldl (stepF m) (some (ow, hs.length)) = some (ow', (hs ++ r).length) ∧ Lay m (hs ++ r) ow' js'
  | [], hs, ow, js, W, _ => ⟨ow, js, by rw [List.append_nil]; rfl, by rw [List.append_nil]; exact W⟩
  | h :: r, hs, ow, js, W, hl => by
    have hl' : hs.length + (r.length + 1) ≤ m := hl
    obtain ⟨j, e, W1⟩ := W.step hm (by omega) h
    obtain ⟨ow', js', f, W2⟩ := Lay.fold hm r (hs ++ [h]) _ _ W1 (by simp; omega)
    refine ⟨ow', js', ?_, by simpa using W2⟩
    rw [List.foldl_cons, stepF_some e]
    simpa using f
theorem laid_anew (t : SetTable) {hs : Array Int} {wanted M : Nat} (hw : SetTable.sizeAbove wanted - 1 = M) (hM : Msk M) (hb : 7 ≤ M ∧ M ≤ 8191) (hn : hs.size ≤ M) :
    ∃ t' order, t.relaid hs wanted = some (t', order) ∧ order.toList.Perm (List.range hs.size) ∧ Tb t' (order.toList.map fun i => hs.getD i 0) ∧ t'.mask = M ∧ t'.led = t.led ∧ t'.plain = t.plain := by
  have W0 : Lay M [] (Array.replicate (M + 1) Option.none) [] := ⟨by simp, rfl, List.nodup_nil, fun j hj => (nomatch hj), fun j k hj => by rw [oAt_init hj]; simp, fun x hx => (nomatch hx)⟩
  obtain ⟨ow, js, f, W⟩ := Lay.fold hM hs.toList [] _ _ W0 (by simpa using hn)
  rw [List.nil_append] at W
  have el : SetTable.layClean M hs = some ow := by
    rw [layClean_eq]
    have f' : hs.toList.foldl (stepF M) (some (Array.replicate (M + 1) Option.none, 0)) = _ := f
    rw [f']; rfl
  have lv : ∀ x, x ∈ liveOf M ow ↔ js[x.2]? = some x.1 := fun x => by
    rw [show x = (x.1, x.2) from rfl, mem_live W.sz]
    constructor
    · intro z; exact (W.own _ _ z.1).1 z.2
    · intro z
      have q := W.le _ (List.mem_of_getElem? z)
      exact ⟨q, (W.own _ _ q).2 z⟩
  have r1 : Ris ((liveOf M ow).map (·.1)) := (ris_live (fun j => ow.getD j Option.none) (List.range (M + 1)) (by unfold Ris; exact List.pairwise_lt_range)).1
  have nl : js.length = hs.size := by rw [W.len, Array.length_toList]
  refine ⟨tabOf t M ow, ((liveOf M ow).map (·.2)).toArray, by rw [relaid_eq, hw, el]; rfl, ?_, ⟨r1, rfl, ?_, hM, hb, ?_⟩, rfl, rfl, rfl⟩
  · show ((liveOf M ow).map (·.2)).Perm _
    have n2 : ((liveOf M ow).map (·.2)).Nodup := by
      refine List.pairwise_map.mpr (List.Pairwise.imp_of_mem (fun {a b} ha hb hlt e => ?_) (List.pairwise_map.mp r1))
      have h1 := (lv a).1 ha
      have h2 := (lv b).1 hb
      rw [e, h2] at h1
      have q := Option.some.inj h1
      have l2 : a.1 < b.1 := hlt
      omega
    refine (List.perm_ext_iff_of_nodup n2 List.nodup_range).mpr fun k => ?_
    rw [List.mem_range, List.mem_map]
    constructor
    · rintro ⟨x, hx, rfl⟩
      rw [← nl]
      exact (List.getElem?_eq_some_iff.mp ((lv x).1 hx)).1
    · intro hk
      rw [← nl] at hk
      exact ⟨(js[k], k), (lv _).2 (List.getElem?_eq_getElem hk), rfl⟩
  · show ((liveOf M ow).map (·.1)).length = _
    simp
  · intro x hx
    have hx' : x ∈ (((liveOf M ow).map (·.2)).map fun i => hs.getD i 0).zip ((liveOf M ow).map (·.1)) := hx
    rw [List.map_map, List.zip_map'] at hx'
    obtain ⟨y, hy, rfl⟩ := List.mem_map.mp hx'
    have hj := (lv y).1 hy
    have hk : y.2 < hs.size := by rw [← nl]; exact (List.getElem?_eq_some_iff.mp hj).1
    have hz : (hs.getD y.2 0, y.1) ∈ hs.toList.zip js := by
      refine List.mem_of_getElem? (i := y.2) ?_
      rw [List.getElem?_zip_eq_some]
      exact ⟨by simp [Array.getD_eq_getD_getElem?, hk], hj⟩
    refine (W.rch _ hz).mono fun j hj' => ?_
    show j ∈ (liveOf M ow).map (·.1)
    obtain ⟨k, e⟩ := List.getElem?_of_mem hj'
    exact List.mem_map.mpr ⟨(j, k), (lv _).2 e, rfl⟩
theorem go_size (n : Nat) : ∀ (f a : Nat), n < 2 ^ (a + f) → ∃ b, SetTable.sizeAbove.go n f (2 ^ a) = 2 ^ b ∧ a ≤ b ∧ n < 2 ^ b ∧ (2 ^ b ≤ 2 * n ∨ b = a)
  | 0, a, h => ⟨a, rfl, Nat.le_refl _, h, .inr rfl⟩
  | f + 1, a, h => by
    unfold SetTable.sizeAbove.go
    split
    · rename_i c
      rw [← Nat.pow_succ]
      obtain ⟨b, e, h1, h2, h3⟩ := go_size n f (a + 1) (by rw [show a + 1 + f = a + (f + 1) by omega]; exact h)
      refine ⟨b, e, by omega, h2, ?_⟩
      rcases h3 with z | z
      · exact .inl z
      · left; rw [z, Nat.pow_succ]; omega
    · exact ⟨a, rfl, Nat.le_refl _, by omega, .inr rfl⟩
theorem size_of {n : Nat} (h1 : 1 ≤ n) (h2 : n ≤ 1024) : ∃ M, SetTable.sizeAbove (SetTable.grown n) - 1 = M ∧ Msk M ∧ 7 ≤ M ∧ M ≤ 8191 ∧ SetTable.sizeAbove (SetTable.grown n) = M + 1 ∧ 4 * n ≤ M := by
  have g : SetTable.grown n = n * 4 := by unfold SetTable.grown; rw [if_neg (by omega)]
  rw [g]
  obtain ⟨b, e, c1, c2, c3⟩ := go_size (n * 4) 64 3 (by omega)
  have e' : SetTable.sizeAbove (n * 4) = 2 ^ b := e
  rw [e']
  have p : 8 ≤ 2 ^ b := by
    have := Nat.pow_le_pow_right (n := 2) (by decide) c1
    exact this
  have p2 : 2 ^ b ≤ 8192 := by
    rcases c3 with z | z
    · omega
    · rw [z]; decide
  exact ⟨2 ^ b - 1, rfl, ⟨b, by omega⟩, by omega, by omega, by omega, by omega⟩
end BigSet
end DL
namespace DL
namespace BigSet
open PySem PySem.Spec L2 PyProof.Rows
section
variable {P : Program} {w : World} {A : Around} {E : Value → Shared → Prop} {s : Shared}
/-- the set at a holds the tuples L -/
structure BigS (P : Program) (w : World) (h : Heap) (a : Addr) (L : List (Addr × List Int)) (es : Array (Int × Value)) (ep : Nat) (t : SetTable) : Prop where
  ob : ∃ o, h.get? a = some o ∧ o.ExactSet ∧ o.data = .set es ep t
  rows : es.toList = rowsOf P w L
  tab : Tb t (L.map fun p => thash P w p.2)
  nd : (L.map (·.2)).Nodup
  tup : ∀ p ∈ L, IsT P w h p.2 p.1
  plain : t.plain = true
  led : w.params.followText "set-order" = true ∨ t.led = true
  room : L.length * 5 < t.mask * 3
  few : L.length ≤ 1000
variable {a : Addr} {L : List (Addr × List Int)} {es : Array (Int × Value)} {ep : Nat} {t : SetTable}
theorem rows_len {es : Array (Int × Value)} {L : List (Addr × List Int)} (h : es.toList = rowsOf P w L) : es.size = L.length := by
  have q := congrArg List.length h
  rwa [Array.length_toList, rowsOf, List.length_map] at q
theorem rows_at {es : Array (Int × Value)} {L : List (Addr × List Int)} (h : es.toList = rowsOf P w L) {i : Nat} {p : Addr × List Int} (e : L[i]? = some p) : es[i]? = some (thash P w p.2, Value.ref p.1) := by
  rw [← Array.getElem?_toList, h, rowsOf, List.getElem?_map, e]; rfl
theorem Tb.fits {t : SetTable} {hs : List Int} (T : Tb t hs) {n : Nat} (e : hs.length = n) (hm : n ≤ t.mask) : t.fits n = true := by
  have l := T.len
  rw [Array.length_toList] at l
  unfold SetTable.fits SetTable.fill
  rw [T.dm]
  simp only [Bool.and_eq_true, beq_iff_eq, decide_eq_true_eq, List.size_toArray, List.length_nil]
  omega
theorem BigS.fits (R : BigS P w s.heap a L es ep t) : t.fits es.size = true := by
  have r := R.room
  exact R.tab.fits (by rw [List.length_map, rows_len R.rows]) (by rw [rows_len R.rows]; omega)
end
end BigSet
end DL
namespace DL
namespace BigSet
open PySem PySem.Spec L2 PyProof.Rows
section
variable {P : Program} {w : World} {A : Around} {E : Value → Shared → Prop} {s : Shared} {a : Addr} {L : List (Addr × List Int)} {es : Array (Int × Value)} {ep : Nat} {t : SetTable}
theorem getD_some {α : Type} {xs : Array α} {i : Nat} {x d : α} (h : xs[i]? = some x) : xs.getD i d = x := by
  rw [Array.getD_eq_getD_getElem?, h]; rfl
/-- the rows in the new order -/
theorem reorder (hr : es.toList = rowsOf P w L) : ∀ {l : List Nat}, (∀ i ∈ l, i < L.length) →
    l.filterMap (es[·]?) = rowsOf P w (l.filterMap (L[·]?)) ∧ (l.filterMap (L[·]?)).map (fun p => thash P w p.2) = l.map fun i => (es.map (·.1)).getD i 0
  | [], _ => ⟨rfl, rfl⟩
  | i :: l, h => by
    obtain ⟨e1, e2⟩ := reorder hr (l := l) fun j hj => h j (List.mem_cons_of_mem _ hj)
    have iL := List.getElem?_eq_getElem (h i List.mem_cons_self)
    have ie := rows_at hr iL
    rw [List.filterMap_cons_some ie, List.filterMap_cons_some iL, e1]
    refine ⟨rfl, ?_⟩
    rw [List.map_cons, List.map_cons, e2]
    congr 1
    have z : (es.map (·.1))[i]? = some (thash P w (L[i]'(h i List.mem_cons_self)).2) := by rw [Array.getElem?_map, ie]; rfl
    exact (getD_some z).symm
theorem range_back {α : Type} (L : List α) : (List.range L.length).filterMap (L[·]?) = L := by
  have key : ∀ n, n ≤ L.length → (List.range n).filterMap (L[·]?) = L.take n := by
    intro n
    induction n with
    | zero => intro _; rfl
    | succ n ih =>
      intro h
      rw [List.range_succ, List.filterMap_append, ih (by omega), List.take_add_one]
      congr 1 <;> (rw [List.filterMap_cons, List.getElem?_eq_getElem h]; try rfl)
  rw [key _ (Nat.le_refl _), List.take_length]
theorem relay {o : Obj} (ho : s.heap.get? a = some o) (hex : o.ExactSet) (hd : o.data = .set es ep t) (hr : es.toList = rowsOf P w L) (T : Tb t (L.map fun p => thash P w p.2)) (fit : L.length ≤ t.mask)
    (nd : (L.map (·.2)).Nodup) (tup : ∀ p ∈ L, IsT P w s.heap p.2 p.1) (pl : t.plain = true) (ld : w.params.followText "set-order" = true ∨ t.led = true) (few : L.length ≤ 1000) (one : 1 ≤ L.length)
    {Q : Unit → Shared → Prop} (hQ : ∀ h' L' es' ep' t', Heap.SameBut a s.heap h' → BigS P w h' a L' es' ep' t' → L'.Perm L → Q () { s with heap := h' }) : wpAny (model P w) A (setRelay a (SetTable.grown L.length)) Q E s := by
  have sz := rows_len hr
  obtain ⟨M, m1, m2, m3, m4, m5, m6⟩ := size_of one (by omega)
  obtain ⟨t', od, e, pm, T', tm, tl, tp⟩ := laid_anew t (hs := es.map (·.1)) m1 m2 ⟨m3, m4⟩ (by rw [Array.size_map, sz]; omega)
  rw [Array.size_map, sz] at pm
  obtain ⟨r1, r2⟩ := reorder hr (l := od.toList) fun i hi => List.mem_range.mp (pm.mem_iff.mp hi)
  have pL : (od.toList.filterMap (L[·]?)).Perm L := by
    have z := pm.filterMap (L[·]?)
    rwa [range_back] at z
  rw [← r2] at T'
  generalize eL : od.toList.filterMap (L[·]?) = L' at r1 pL T'
  have r0 : (od.filterMap (es[·]?)).toList = rowsOf P w L' := by rw [Array.toList_filterMap]; exact r1
  have s0 : (od.filterMap (es[·]?)).size = L.length := (rows_len r0).trans pL.length_eq
  have ln : L'.length = L.length := pL.length_eq
  rw [setRelay_eq]
  refine wpAny_bind (wpAny_setState_of ho hd (T.fits (by rw [List.length_map, sz]) (by rw [sz]; exact fit)) ?_)
  dsimp only
  refine wp_if_neg (by rw [m5, sizeLine_eq]; omega) ?_
  try refine wpAny_bind (wpAny_pure ?_)
  rw [e]
  dsimp only
  refine wpAny_bind ?_
  refine wp_if_neg (by rw [s0, sz]; simp) ?_
  try refine wpAny_bind (wpAny_pure ?_)
  refine wpAny_pure ?_
  dsimp only
  refine wpAny_storeSet_of ho hd ?_ (by rw [s0, sizeLine_eq]; omega)
  have sb : Heap.SameBut a s.heap (s.heap.update a (Obj.putSet (od.filterMap (es[·]?)) t')) := Heap.SameBut.update ..
  refine hQ _ L' _ (ep + 1) t' sb ⟨⟨_, store_at ho hd, ⟨hex.1, hex.2.1, hex.2.2⟩, rfl⟩, r0, T', (pL.map (·.2)).nodup_iff.mpr nd, fun p hp => isT_same (tup p (pL.mem_iff.mp hp)) ho hd sb, tp ▸ pl, tl ▸ ld, ?_, by omega⟩ pL
  rw [ln, tm]; omega
end
end BigSet
end DL
namespace DL
end DL
set_option maxHeartbeats 3200000
namespace DL
end DL
namespace DL
open PySem PySem.Spec L2 PyProof.Rows
noncomputable abbrev AL := List (List Int × D)
noncomputable def tkey (ns : List Int) : List Key := ns.map Sum.inl
noncomputable def dicT (al : AL) : D := .dic true (al.map fun p => .t (tkey p.1)) (al.map fun p => p.2)
/-- what is done to it -/
noncomputable def aGet (al : AL) (k : List Int) : Option D := (al.find? fun p => decide (p.1 = k)).map (·.2)
noncomputable def aPut (al : AL) (k : List Int) (d : D) : AL := if (al.any fun p => decide (p.1 = k)) = true then al.map (fun p => if p.1 = k then (p.1, d) else p) else al ++ [(k, d)]
noncomputable def aDrop (al : AL) (k : List Int) : AL := al.filter fun p => decide (p.1 ≠ k)
/-- the two lists -/
noncomputable def RAL (K : PySem.W.Frag) (F : Hp) (kvs : List (List Key × V)) (al : AL) : Prop := Paired (fun (p : List Key × V) (q : List Int × D) => p.1 = tkey q.1 ∧ Rep K F p.2 q.2) kvs al
theorem tkey_inj : ∀ {a b : List Int}, tkey a = tkey b → a = b
  | [], [], _ => rfl
  | [], _ :: _, h => by cases h
  | _ :: _, [], h => by cases h
  | x :: a, y :: b, h => by
    have h1 := List.cons.inj h
    rw [Sum.inl.inj h1.1, tkey_inj h1.2]
section
variable {K : PySem.W.Frag} {F F' : Hp} {kvs : List (List Key × V)} {al : AL}
theorem RAL.mono (e : Same F F') : ∀ {kvs : List (List Key × V)} {al : AL}, RAL K F kvs al → RAL K F' kvs al
  | _, _, .nil => .nil
  | _, _, .cons h r => .cons ⟨h.1, h.2.mono e⟩ (RAL.mono e r)
theorem RAL.keys : ∀ {kvs : List (List Key × V)} {al : AL}, RAL K F kvs al → al.map (fun p => DKey.t (tkey p.1)) = kvs.map (fun p => DKey.t p.1)
  | _, _, .nil => rfl
  | _, _, .cons h r => by rw [List.map_cons, List.map_cons, RAL.keys r, h.1]
theorem RAL.reps : ∀ {kvs : List (List Key × V)} {al : AL}, RAL K F kvs al → Reps K F (kvs.map (·.2)) (al.map fun p => p.2)
  | _, _, .nil => .nil
  | _, _, .cons h r => .cons h.2 (RAL.reps r)
theorem RAL.length : ∀ {kvs : List (List Key × V)} {al : AL}, RAL K F kvs al → kvs.length = al.length
  | _, _, .nil => rfl
  | _, _, .cons _ r => by rw [List.length_cons, List.length_cons, RAL.length r]
theorem RAL.get (k : List Int) : ∀ {kvs : List (List Key × V)} {al : AL}, RAL K F kvs al → (aGet al k = none ∧ valV kvs (tkey k) = none) ∨ ∃ d v, aGet al k = some d ∧ valV kvs (tkey k) = some v ∧ Rep K F v d
  | _, _, .nil => .inl ⟨rfl, rfl⟩
  | p :: kvs, q :: al, .cons h r => by
    by_cases e : q.1 = k
    · have e2 : p.1 = tkey k := by rw [h.1, e]
      exact .inr ⟨q.2, p.2, by simp [aGet, e], valV_pos e2, h.2⟩
    · have e2 : ¬ p.1 = tkey k := fun z => e (tkey_inj (h.1.symm.trans z))
      rw [valV_neg e2]
      have e3 : aGet (q :: al) k = aGet al k := by simp [aGet, e]
      rw [e3]
      exact RAL.get k r
theorem RAL.any (k : List Int) : ∀ {kvs : List (List Key × V)} {al : AL}, RAL K F kvs al → (kvs.any fun p => decide (p.1 = tkey k)) = al.any fun p => decide (p.1 = k)
  | _, _, .nil => rfl
  | p :: kvs, q :: al, .cons h r => by
    rw [List.any_cons, List.any_cons, RAL.any k r]
    congr 1
    by_cases e : q.1 = k
    · rw [decide_eq_true e, decide_eq_true (by rw [h.1, e])]
    · rw [decide_eq_false e, decide_eq_false fun z => e (tkey_inj (h.1.symm.trans z))]
theorem RAL.repl (k : List Int) {v : V} {d : D} (rd : Rep K F v d) : ∀ {kvs : List (List Key × V)} {al : AL}, RAL K F kvs al → RAL K F (kvs.map fun p => if p.1 = tkey k then (tkey k, v) else p) (al.map fun p => if p.1 = k then (p.1, d) else p)
  | _, _, .nil => .nil
  | p :: kvs, q :: al, .cons h r => by
    refine .cons ?_ (RAL.repl k rd r)
    show (if p.1 = tkey k then (tkey k, v) else p).1 = tkey (if q.1 = k then (q.1, d) else q).1 ∧ Rep K F (if p.1 = tkey k then (tkey k, v) else p).2 (if q.1 = k then (q.1, d) else q).2
    by_cases e : q.1 = k
    · have e2 : p.1 = tkey k := by rw [h.1, e]
      rw [if_pos e, if_pos e2]
      exact ⟨by rw [e], rd⟩
    · have e2 : ¬ p.1 = tkey k := fun z => e (tkey_inj (h.1.symm.trans z))
      rw [if_neg e, if_neg e2]
      exact h
theorem paired_app {α β : Type} {R : α → β → Prop} : ∀ {a : List α} {b : List β} {c : List α} {d : List β}, Paired R a b → Paired R c d → Paired R (a ++ c) (b ++ d)
  | _, _, _, _, .nil, h => h
  | _, _, _, _, .cons x r, h => .cons x (paired_app r h)
theorem RAL.put (r : RAL K F kvs al) (k : List Int) {v : V} {d : D} (rd : Rep K F v d) : RAL K F (putK kvs (tkey k) v) (aPut al k d) := by
  have e := RAL.any k r
  unfold putK aPut
  by_cases c : (al.any fun p => decide (p.1 = k)) = true
  · rw [if_pos c]
    rw [c] at e
    first
      | (rw [if_pos e]
         have z := RAL.repl k rd r
         refine (show RAL K F _ _ from ?_)
         have m : (kvs.map fun p => if p.1 = tkey k then (tkey k, v) else p) = kvs.map fun p => if p.1 = tkey k then (p.1, v) else p := List.map_congr_left fun p _ => by
           by_cases q : p.1 = tkey k
           · rw [if_pos q, if_pos q, q]
           · rw [if_neg q, if_neg q]
         first | exact z | (rw [← m]; exact z))
  · rw [if_neg c]
    have c' : (kvs.any fun p => decide (p.1 = tkey k)) = false := by
      rw [e]; exact Bool.eq_false_iff.mpr c
    rw [if_neg (by rw [c']; decide)]
    exact paired_app r (.cons ⟨rfl, rd⟩ .nil)
theorem RAL.drop (k : List Int) : ∀ {kvs : List (List Key × V)} {al : AL}, RAL K F kvs al → RAL K F (dropK kvs (tkey k)) (aDrop al k)
  | _, _, .nil => .nil
  | p :: kvs, q :: al, .cons h r => by
    have ih := RAL.drop k r
    by_cases e : q.1 = k
    · have e2 : p.1 = tkey k := by rw [h.1, e]
      have l : dropK (p :: kvs) (tkey k) = dropK kvs (tkey k) := by
        unfold dropK; rw [List.filter_cons_of_neg (by simp [e2])]
      have l2 : aDrop (q :: al) k = aDrop al k := by
        unfold aDrop; rw [List.filter_cons_of_neg (by simp [e])]
      rw [l, l2]; exact ih
    · have e2 : ¬ p.1 = tkey k := fun z => e (tkey_inj (h.1.symm.trans z))
      have l : dropK (p :: kvs) (tkey k) = p :: dropK kvs (tkey k) := by
        unfold dropK; rw [List.filter_cons_of_pos (by simpa using e2)]
      have l2 : aDrop (q :: al) k = q :: aDrop al k := by
        unfold aDrop; rw [List.filter_cons_of_pos (by simpa using e)]
      rw [l, l2]; exact .cons h ih
end
section
variable {X : Cx} {pv : List V} {W : WX} {p q k l : Bool} {e f : Expr}
theorem RAL.getD {K : PySem.W.Frag} {F : Hp} {kvs : List (List Key × V)} {al : AL} (r : RAL K F kvs al) (ns : List Int) {z : V} {dz : D} (rz : Rep K F z dz) : Rep K F ((valV kvs (tkey ns)).getD z) ((aGet al ns).getD dz) := by
  rcases r.get ns with ⟨h1, h2⟩ | ⟨d, v, h1, h2, h3⟩
  · rw [h1, h2]; exact rz
  · rw [h1, h2]; exact h3
end
end DL
set_option maxHeartbeats 3200000
namespace DL
open PySem PySem.Spec L2 PyProof.Rows
namespace BigSet
section
variable {P : Program} {w : World} {H : Hp} {h : Heap} {a : Addr} {L : List (Addr × List Int)}
/-- the set at a, but for the tuples -/
noncomputable def Big0 (P : Program) (w : World) (h : Heap) (a : Addr) (L : List (Addr × List Int)) : Prop := ∃ (es : Array (Int × Value)) (ep : Nat) (t : SetTable), (∃ o, h.get? a = some o ∧ o.ExactSet ∧ o.data = .set es ep t) ∧ es.toList = rowsOf P w L ∧ Tb t (L.map fun p => thash P w p.2) ∧ (L.map (·.2)).Nodup ∧
  t.plain = true ∧ (w.params.followText "set-order" = true ∨ t.led = true) ∧ L.length * 5 < t.mask * 3 ∧ L.length ≤ 1000
theorem BigS.bare {es : Array (Int × Value)} {ep : Nat} {t : SetTable} (R : BigS P w h a L es ep t) : Big0 P w h a L := ⟨es, ep, t, R.ob, R.rows, R.tab, R.nd, R.plain, R.led, R.room, R.few⟩
end
end BigSet
end DL
set_option maxHeartbeats 3200000
namespace DL
open PySem PySem.Spec L2 PyProof.Rows
end DL
namespace DL
open PySem PySem.Spec L2 PyProof.Rows
end DL
set_option maxHeartbeats 3200000
namespace DL
open PySem PySem.Spec L2 PyProof.Rows
section
variable {K : PySem.W.Frag} {pv : List V} {W : WX} {G F H : Hp} {sd : SD} {σ : L2.St} {p q : Bool}
theorem StR.layT {L : Addr} {u : HO} (nt : ∀ xs, u ≠ .tup xs) (s : StR K pv G F sd σ H) (hL : H L = none) : StR K pv (upd G L u) F sd σ (upd H L u) := by
  obtain ⟨o, W⟩ := s
  obtain ⟨f0, g0, n0⟩ := W.fresh hL
  have W' := W.grow (Same.upd (o := u) hL) (Same.refl F) (fun a x e => by rw [upd_ne (ne_of_none e f0)]; exact W.fh a x e) (fun a ha => .inl ha) fun a xs e => .inl (nt_upd nt a xs e)
  have away : ∀ a, F a ≠ none → a ≠ L := fun a ha z => ha (by rw [z]; exact f0)
  refine ⟨o, W'.fh, fun a x e => ?_, fun a ha => by rw [upd_ne (away a ha)]; exact W'.fg a ha, fun i a q => ?_, W'.oo, W'.len, W'.sl, W'.sp, W'.pr, W'.tf⟩
  · by_cases h : a = L
    · rw [h, upd_same] at e ⊢; exact e
    · rw [upd_ne h] at e; exact W'.gh a x e
  · obtain ⟨h1, h2, h3⟩ := W'.oh i a q
    exact ⟨h1, h2, by rw [upd_ne fun z => n0 i (by rw [← z]; exact q)]; exact h3⟩
theorem StR.offT {L : Addr} {u : HO} (s : StR K pv (upd G L u) F sd σ H) : F L = none ∧ H L = some u ∧ ∀ o, Own K pv (upd G L u) F sd σ H o → ∀ i, ¬ o i L := by
  obtain ⟨o, W⟩ := s
  have gL : (upd G L u) L = some u := upd_same
  refine ⟨?_, W.gh L u gL, fun o' W' i q => ?_⟩
  · cases e : F L with
    | none => rfl
    | some x =>
      have := W.fg L (by rw [e]; simp)
      rw [gL] at this; cases this
  · have := (W'.oh i L q).2.2
    rw [gL] at this; cases this
theorem StR.relayT {L : Addr} {u w : HO} (nt : ∀ xs, w ≠ .tup xs) (s : StR K pv (upd G L u) F sd σ H) : StR K pv (upd G L w) F sd σ (upd H L w) := by
  obtain ⟨f0, _, off⟩ := s.offT
  obtain ⟨o, W⟩ := s
  have n0 := off o W
  have cell : ∀ i x, o i x → upd H L w x = H x := fun i x q => upd_ne fun z => n0 i (by rw [← z]; exact q)
  refine ⟨o, fun a x e => ?_, fun a x e => ?_, fun a ha => ?_, fun i a q => ?_, W.oo, W.len, fun i t e => ?_, W.sp, fun j t e => ?_, fun a xs e => W.tf a xs (nt_upd nt a xs e)⟩
  · rw [upd_ne (ne_of_none e f0)]; exact W.fh a x e
  · by_cases h : a = L
    · rw [h, upd_same] at e ⊢; exact e
    · rw [upd_ne h] at e ⊢; exact W.gh a x (by rw [upd_ne h]; exact e)
  · have h : a ≠ L := fun z => ha (by rw [z]; exact f0)
    have := W.fg a ha
    rw [upd_ne h] at this ⊢; exact this
  · obtain ⟨h1, h2, h3⟩ := W.oh i a q
    have h : a ≠ L := fun z => n0 i (by rw [← z]; exact q)
    rw [upd_ne h] at h3
    exact ⟨by rw [upd_ne h]; exact h1, h2, by rw [upd_ne h]; exact h3⟩
  · obtain ⟨v, h1, h2⟩ := W.sl i t e
    exact ⟨v, h1, h2.mono (Same.refl _) fun x hx => ⟨hx, cell _ x hx⟩⟩
  · obtain ⟨v, h1, h2⟩ := W.pr j t e
    exact ⟨v, h1, h2.mono (Same.refl _) fun x hx => ⟨hx, cell _ x hx⟩⟩
end
end DL
namespace DL
open PySem PySem.Spec L2 PyProof.Rows
end DL
namespace DL
theorem un1 {n : Nat} (h : n + 64 < PySem.cLine) : n + 1 < PySem.cLine := by omega
theorem un0 {n : Nat} (h : n + 64 < PySem.cLine) : n < PySem.cLine := by omega
end DL
namespace DL
open PySem PySem.Spec L2 PyProof.Rows
end DL
set_option maxHeartbeats 1600000
namespace DL.Two
open PySem PySem.Spec PySem.W L2 PyProof.Rows
end DL.Two
namespace DL
open PySem PySem.Spec L2 PyProof.Rows
end DL
set_option maxHeartbeats 1600000
namespace DL
open PySem PySem.Spec L2 PyProof.Rows
mutual
noncomputable def D.nl : D → Bool
  | .tup ds => D.nls ds
  | .ktu ds => D.nls ds
  | .dic _ _ ds => D.nls ds
  | .ins _ _ ds => D.nls ds
  | .lst _ => false
  | .scr _ => false
  | .exc _ _ _ => false
  | _ => true
noncomputable def D.nls : List D → Bool
  | [] => true
  | d :: r => d.nl && D.nls r
end
section
variable {K : PySem.W.Frag} {F F' F'' G H H' : Hp} {a : Addr} {ws : List V}
mutual
theorem nl_rep (ha : F' a = some (.lst ws)) (e : ∀ b, b ≠ a → F'' b = F' b) : ∀ {v : V} {d : D}, Rep K F' v d → d.nl = true → Rep K F'' v d
  | _, _, .non, _ => .non
  | _, _, .bl b, _ => .bl b
  | _, _, .int i, _ => .int i
  | _, _, .str x, _ => .str x
  | _, _, .ty n, _ => .ty n
  | _, _, .cls C, _ => .cls C
  | _, _, .tup (a := b) h r, n => .tup (by
      rw [e b fun z => by rw [z, ha] at h; cases h]
      exact h) (nls_rep ha e r (by rw [D.nl] at n; exact n))
  | _, _, .ktu (a := b) h r, n => .ktu (by
      rcases h with (h | ⟨o, h⟩) | h
      · exact .inl (.inl (by rw [e b fun z => by rw [z, ha] at h; cases h]; exact h))
      · exact .inl (.inr ⟨o, by rw [e b fun z => by rw [z, ha] at h; cases h]; exact h⟩)
      · exact .inr h) (nls_rep ha e r (by rw [D.nl] at n; exact n))
  | _, _, .lst _ _, n => by rw [D.nl] at n; cases n
  | _, _, .scr _, n => by rw [D.nl] at n; cases n
  | _, _, .dicK (a := b) h r, n => .dicK (by
      rcases h with h | ⟨o, h⟩
      · exact .inl (by rw [e b fun z => by rw [z, ha] at h; cases h]; exact h)
      · exact .inr ⟨o, by rw [e b fun z => by rw [z, ha] at h; cases h]; exact h⟩) (nls_rep ha e r (by rw [D.nl] at n; exact n))
  | _, _, .dicT (a := b) h r, n => .dicT (by
      rcases h with h | ⟨o, h⟩
      · exact .inl (by rw [e b fun z => by rw [z, ha] at h; cases h]; exact h)
      · exact .inr ⟨o, by rw [e b fun z => by rw [z, ha] at h; cases h]; exact h⟩) (nls_rep ha e r (by rw [D.nl] at n; exact n))
  | _, _, .ins (a := b) h r, n => .ins (by
      rw [e b fun z => by rw [z, ha] at h; cases h]
      exact h) (nls_rep ha e r (by rw [D.nl] at n; exact n))
  | _, _, .exc _ _ _ _, n => by rw [D.nl] at n; cases n
theorem nls_rep (ha : F' a = some (.lst ws)) (e : ∀ b, b ≠ a → F'' b = F' b) : ∀ {vs : List V} {ds : List D}, Reps K F' vs ds → D.nls ds = true → Reps K F'' vs ds
  | _, _, .nil, _ => .nil
  | _, _, .cons r rs, n => by
    rw [D.nls, Bool.and_eq_true] at n
    exact .cons (nl_rep ha e r n.1) (nls_rep ha e rs n.2)
end
mutual
theorem RepO.mix (fh : Same F H) (fh' : Same F' H') (e : Same F F'') (eh : Same H H') : ∀ {t : OT} {v : V} {P P' : Addr → Prop}, RepO K F H t v P → RepO K F' H' t v P' → RepO K F'' H' t v P'
  | .fz d, v, P, P', h, k => by
    unfold RepO at h ⊢
    exact h.mono e
  | .ol ts, v, P, P', h, k => by
    unfold RepO at h k ⊢
    obtain ⟨a, vs, rfl, pa, ha, r⟩ := h
    obtain ⟨b, us, e1, pb, hb, r'⟩ := k
    cases e1
    have z := eh _ _ ha
    rw [hb] at z
    cases z
    exact ⟨a, vs, rfl, pb, hb, RepOs.mix fh fh' e eh r r'⟩
  | .od tk ks ts, v, P, P', h, k => by
    unfold RepO at h k ⊢
    obtain ⟨a, rfl, pa, h⟩ := h
    obtain ⟨b, e1, pb, k⟩ := k
    cases e1
    refine ⟨a, rfl, pb, ?_⟩
    rcases h with ⟨e0, kvs, ha, hk, r⟩ | ⟨e0, kvs, ha, hk, r⟩ <;> rcases k with ⟨e2, kvs', hb, hk', r'⟩ | ⟨e2, kvs', hb, hk', r'⟩
    · have z := eh _ _ ha
      rw [hb] at z
      cases z
      exact .inl ⟨e0, kvs, hb, hk', RepOs.mix fh fh' e eh r r'⟩
    · rw [e0] at e2; cases e2
    · rw [e0] at e2; cases e2
    · have z := eh _ _ ha
      rw [hb] at z
      cases z
      exact .inr ⟨e0, kvs, hb, hk', RepOs.mix fh fh' e eh r r'⟩
  | .oi C ns ts, v, P, P', h, k => by
    unfold RepO at h k ⊢
    obtain ⟨a, dx, fvs, rfl, pa, ha, hn, r⟩ := h
    obtain ⟨b, dy, fvs', e1, pb, hb, hn', r'⟩ := k
    cases e1
    have z := eh _ _ ha
    rw [hb] at z
    cases z
    exact ⟨a, dx, fvs, rfl, pb, hb, hn, RepOs.mix fh fh' e eh r r'⟩
  | .ot ts, v, P, P', h, k => by
    unfold RepO at h k ⊢
    obtain ⟨a, vs, rfl, fa, r⟩ := h
    obtain ⟨b, us, e1, fb, r'⟩ := k
    cases e1
    have z := eh _ _ (fh _ _ fa)
    rw [fh' _ _ fb] at z
    cases z
    exact ⟨a, vs, rfl, e _ _ fa, RepOs.mix fh fh' e eh r r'⟩
theorem RepOs.mix (fh : Same F H) (fh' : Same F' H') (e : Same F F'') (eh : Same H H') : ∀ {ts : List OT} {vs : List V} {P P' : Addr → Prop}, RepOs K F H ts vs P → RepOs K F' H' ts vs P' → RepOs K F'' H' ts vs P'
  | [], vs, P, P', h, k => by
    unfold RepOs at h ⊢
    exact h
  | t :: ts, vs, P, P', h, k => by
    unfold RepOs at h k ⊢
    obtain ⟨v, ws, P1, P2, rfl, h1, h2, r1, r2⟩ := h
    obtain ⟨v', ws', Q1, Q2, e1, k1, k2, q1, q2⟩ := k
    cases e1
    exact ⟨v, ws, Q1, Q2, rfl, k1, k2, RepO.mix fh fh' e eh r1 q1, RepOs.mix fh fh' e eh r2 q2⟩
end
end
end DL
set_option maxHeartbeats 1600000
namespace DL
open PySem PySem.Spec L2 PyProof.Rows
section
variable {K : PySem.W.Frag} {pv : List V} {G F H : Hp} {sd : SD} {σ : L2.St}
/-- a tree that no name reaches is handed over as the first parameter -/
theorem Own.giveX {o : Nat ⊕ Nat → Addr → Prop} {P : Addr → Prop} {v : V} {t : OT} {vs : List V} {ds : List D} (W : Own K pv G F sd σ H o) (r : RepO K F H t v P) (k : ∀ a, P a → H a ≠ none ∧ F a = none ∧ G a = none ∧ ∀ i, ¬ o i a) (hr : Reps K F vs ds) :
    ∃ G', StR K (v :: vs) G' F ⟨[], t :: ds.map .fz⟩ [] H ∧ (∀ (F' H' : Hp) (t' : OT) (sd1 : SD), Same F F' → StR K (v :: vs) G' F' sd1 [] H' → sd1.pa[0]? = some t' → StR1 K pv G F' sd σ H' v t' ∧ ∀ b u, H b = some u → ¬ P b → H' b = some u) := by
  classical
  let G' : Hp := fun a => if F a = none ∧ ¬ P a then H a else none
  have g0 : ∀ a, F a = none → ¬ P a → G' a = H a := fun a x y => if_pos ⟨x, y⟩
  have gn : ∀ a, G' a = none → F a ≠ none ∨ P a ∨ H a = none := fun a z => by
    by_cases f : F a = none
    · by_cases q : P a
      · exact .inr (.inl q)
      · rw [g0 a f q] at z; exact .inr (.inr z)
    · exact .inl f
  refine ⟨G', ⟨fun x a => x = .inr 0 ∧ P a, W.fh, fun a u e => ?_, fun a ha => ?_, fun x a q => ?_, fun x y a q q' => q.1.trans q'.1.symm, rfl, fun i t e => ?_, fun i j e => ?_, fun j t1 e => ?_, W.tf⟩, fun F' H' t' sd1 f ⟨o', W'⟩ et => ?_⟩
  · have e : (if F a = none ∧ ¬ P a then H a else none) = some u := e
    split at e
    · exact e
    · cases e
  · exact if_neg fun z => ha z.1
  · obtain ⟨k1, k2, k3, k4⟩ := k a q.2
    exact ⟨k1, k2, if_neg fun z => z.2 q.2⟩
  · have e : ([] : List S)[i]? = some (.ow t) := e
    simp at e
  · have e : ([] : List S)[i]? = some (.pa j) := e
    simp at e
  · have e : (t :: ds.map OT.fz)[j]? = some t1 := e
    cases j with
    | zero =>
      cases e
      exact ⟨v, rfl, r.mono (Same.refl _) fun x hx => ⟨⟨rfl, hx⟩, rfl⟩⟩
    | succ j =>
      have e : (ds.map OT.fz)[j]? = some t1 := e
      rw [List.getElem?_map] at e
      obtain ⟨d, e1, e2⟩ := Option.map_eq_some_iff.mp e
      subst e2
      obtain ⟨w, h1, h2⟩ := hr.get e1
      refine ⟨w, h1, ?_⟩
      unfold RepO
      exact h2
  · have ne : ∀ x a, o x a → G' a = H a ∧ H a ≠ none := fun x a q => by
      obtain ⟨k1, k2, k3⟩ := W.oh x a q
      exact ⟨g0 a k2 fun z => (k a z).2.2.2 x q, k1⟩
    have keep : ∀ x a, o x a → H' a = H a := fun x a q => by
      obtain ⟨k1, k2⟩ := ne x a q
      cases e : H a with
      | none => exact absurd e k2
      | some u => exact W'.gh a u (by rw [k1]; exact e)
    have gG : ∀ a, G' a = none → F' a = none → G a = none := fun a z fa => by
      rcases gn a z with q | q | q
      · exact absurd (f.free fa) q
      · exact (k a q).2.2.1
      · exact W.gh.free q
    obtain ⟨v1, q1, q2⟩ := W'.pr 0 t' et
    cases q1
    have fa : ∀ a u, G a = some u → F a = none := fun a u e => by
      cases e2 : F a with
      | none => rfl
      | some u2 => have := W.fg a (by rw [e2]; simp); rw [e] at this; cases this
    have np : ∀ a u, G a = some u → ¬ P a := fun a u e z => by rw [(k a z).2.2.1] at e; cases e
    refine ⟨⟨o, o' (.inr 0), ⟨W'.fh, fun a u e => W'.gh a u (by rw [g0 a (fa a u e) (np a u e)]; exact W.gh a u e), fun a ha => ?_, fun x a q => ?_, W.oo, W.len, fun i t e => ?_, W.sp, fun j t e => ?_, W'.tf⟩, q2, fun a q => ?_⟩, fun b u e np => ?_⟩
    · cases e : G a with
      | none => rfl
      | some u =>
        have := W'.fg a ha
        rw [g0 a (fa a u e) (np a u e), W.gh a u e] at this
        cases this
    · obtain ⟨k1, k2⟩ := ne x a q
      refine ⟨by rw [keep x a q]; exact k2, ?_, (W.oh x a q).2.2⟩
      cases e : F' a with
      | none => rfl
      | some u =>
        have := W'.fg a (by rw [e]; simp)
        rw [k1] at this
        exact absurd this k2
    · obtain ⟨w, h1, h2⟩ := W.sl i t e
      exact ⟨w, h1, h2.mono f fun x hx => ⟨hx, keep _ x hx⟩⟩
    · obtain ⟨w, h1, h2⟩ := W.pr j t e
      exact ⟨w, h1, h2.mono f fun x hx => ⟨hx, keep _ x hx⟩⟩
    · obtain ⟨k1, k2, k3⟩ := W'.oh _ a q
      exact ⟨k1, k2, gG a k3 k2, fun x q' => by
        obtain ⟨m1, m2⟩ := ne x a q'
        rw [m1] at k3
        exact m2 k3⟩
    · cases e2 : F b with
      | none => exact W'.gh b u (by rw [g0 b e2 np]; exact e)
      | some u2 =>
        have h1 := W.fh b u2 e2
        rw [e] at h1; cases h1
        exact W'.fh b u (f b u e2)
theorem StR.makeX {x dx C : Addr} {vs : List V} {ds : List D} (s : StR K pv G F sd σ H) (hx : H x = none) (hdx : H dx = none) (hne : dx ≠ x) (hr : Reps K F vs ds) :
    ∃ G', StR K (V.ref x :: vs) G' F ⟨[], .oi C [] [] :: ds.map .fz⟩ [] (upd (upd H dx (.own x)) x (.ins C dx [])) ∧ (∀ (F' H' : Hp) (t' : OT) (sd1 : SD), Same F F' → StR K (V.ref x :: vs) G' F' sd1 [] H' → sd1.pa[0]? = some t' → StR1 K pv G F' sd σ H' (.ref x) t' ∧ Same H H') := by
  obtain ⟨o, W⟩ := s
  have n := W.fresh hx
  have sm : Same H (upd (upd H dx (.own x)) x (.ins C dx [])) := fun a u e => by
    rw [upd_ne (ne_of_none e hx), upd_ne (ne_of_none e hdx)]; exact e
  have W2 := W.grow sm (Same.refl _) (W.fh.trans sm) fun a ha => .inl ha
  obtain ⟨G', g1, g2⟩ := Own.giveX (P := fun a => a = x) (v := .ref x) (t := .oi C [] []) W2 (by
    unfold RepO
    refine ⟨x, dx, [], rfl, rfl, upd_same, rfl, ?_⟩
    unfold RepOs
    rfl) (fun a ha => by
    subst ha
    exact ⟨by rw [upd_same]; simp, n.1, n.2.1, n.2.2⟩) hr
  refine ⟨G', g1, fun F' H' t' sd1 f s2 et => ?_⟩
  obtain ⟨a1, a2⟩ := g2 F' H' t' sd1 f s2 et
  exact ⟨a1, fun b u e => a2 b u (sm b u e) (ne_of_none e hx)⟩
end
theorem Meets.bindP {α β γ δ : Type} {K : PySem.W.Frag} {pv : List V} {W : WX} {G F H : Hp} {σ : L2.St} {sd : SD} {p : Bool} {RS : RSt β α} {RS' : RSt δ γ} {r : ER α} {f : α → SD → ER γ} {Q : δ → Hp → Prop} {k : β → Hp → Prop} {P : Prop} (h : Meets K pv W G σ RS p sd F H r k P)
    (g : ∀ v F1 H1 a sd1, r = .ok a sd1 → Same F F1 → StR K pv G F1 sd1 σ H1 → RS G F1 sd1 H1 σ v a → Meets K pv W G σ RS' true sd1 F1 H1 (f a sd1) Q (k v H1)) :
    Meets K pv W G σ RS' p sd F H (r.bind f) Q P := by
  cases r with
  | bad => exact True.intro
  | rz x sd' => exact h
  | ok a sd1 =>
    show Meets K pv W G σ RS' p sd F H (f a sd1) Q P
    have h' : (∀ v F' H', Same F F' → StR K pv G F' sd1 σ H' → RS G F' sd1 H' σ v a → (p = true → Same H H' ∧ sd1 = sd) → k v H') → P := h
    have g' := fun v F1 H1 s1 s2 s3 => g v F1 H1 a sd1 rfl s1 s2 s3
    revert g'
    cases f a sd1 with
    | bad => exact fun _ => True.intro
    | rz x sd2 => exact fun g' hW => h' fun v F1 H1 s1 s2 s3 s4 => g' v F1 H1 s1 s2 s3 fun cls dd F2 H2 t1 t2 t3 => hW cls dd F2 H2 (s1.trans t1) t2 t3
    | ok c sd2 => exact fun g' hQ => h' fun v F1 H1 s1 s2 s3 s4 => g' v F1 H1 s1 s2 s3 fun w F2 H2 t1 t2 t3 t4 => hQ w F2 H2 (s1.trans t1) t2 t3 fun z => ⟨(s4 z).1.trans (t4 rfl).1, (t4 rfl).2.trans (s4 z).2⟩
section
variable {X : Cx} {pv : List V} {W : WX} {p q k l : Bool} {e a b : Expr} {es : List Expr} {pos : Pos}
theorem do_makeP {C f : Addr} {fd : FuncData} {ps : List Str} {x : Str} {pp : Pos} {n j : Nat} {g : List OT → ER OT} {m : SD → ER (List D)} (M : Mk X.K C f) (F : FnG X.prog X.w X.K X.mg X.base (L2.CX X.prog X.w) j f fd ps (spD X.K (n + 1) g)) (hr : RoomG (j + 1) X.A) (hg : Gl X x)
    (hm : X.mg x = some (.ref C)) (hb : Binds X.K fd ps []) (tk : Takes X W) (ha : DA X pv W p true (e :: es) m) (hn : ∀ sd ds sd1, m sd = .ok ds sd1 → ds.length = n)
    (hdb : (x == ("__debug__" : Str)) = false := by decide) (he : starEach (e :: es) X.env = (false, eval e X.env) :: starEach es X.env := by rfl) (hpl : (backTo pos (starEach es X.env)).any (·.1) = false := by rfl) :
    DO X pv W p (.Call (.Name x pp) (e :: es) [] pos) (mMake C g m) := by
  obtain ⟨ta, a1, a2⟩ := ha
  refine ⟨fun σ H Q => ta σ H fun vs H1 => ∀ x dx, H1 x = none → H1 dx = none → dx ≠ x → spD X.K (n + 1) g (.ref x :: vs) (upd (upd H1 dx (.own x)) x (.ins C dx [])) (fun v H2 => v = .non ∧ Q (.ref x) H2) (WE W σ), ⟨fun pins s σ H Q I h => ?_⟩, fun G Fz sd σ H Q s => ?_⟩
  · refine wpAny_Call_Name_kw (ld_glob I hg hm ?_ hdb)
    refine PySem.W.callWith_K (h₀ := X.base) I.ok.mod.kin M.kp (thn (a1.run pos pins s σ H _ I h) fun us s1 ⟨vs, H1, I1, r, q⟩ => ⟨I1.kIn, ?_⟩) he hpl
    exact run_makeS (E := WE W) M F hr hb (passAt tk σ) I1 r q
  · refine Meets.bindP (a2 G Fz sd σ H _ s) fun vs F1 H1 ds sd1 hmm s1 s2 s3 => ?_
    have s3 : Reps X.K F1 vs ds := s3
    have hnn := hn sd ds sd1 hmm
    have key : ∀ x dx, H1 x = none → H1 dx = none → dx ≠ x → ∃ G', StR X.K (V.ref x :: vs) G' F1 ⟨[], .oi C [] [] :: ds.map .fz⟩ [] (upd (upd H1 dx (.own x)) x (.ins C dx [])) ∧
        (∀ (F' H' : Hp) (t' : OT) (sdx : SD), Same F1 F' → StR X.K (V.ref x :: vs) G' F' sdx [] H' → sdx.pa[0]? = some t' → StR1 X.K pv G F' sd1 σ H' (.ref x) t' ∧ Same H1 H') := fun x dx h1 h2 h3 => s2.makeX (C := C) h1 h2 h3 s3
    have len1 : ∀ (x : Addr), (V.ref x :: vs).length = n + 1 := fun x => by rw [List.length_cons, s3.length, hnn]
    have len2 : (OT.oi C [] [] :: ds.map OT.fz).length = n + 1 := by rw [List.length_cons, List.length_map, hnn]
    split
    · rename_i sd' e1
      split
      · rename_i t et
        intro hQ x dx h1 h2 h3
        obtain ⟨G', g1, g2⟩ := key x dx h1 h2 h3
        refine ⟨len1 x, G', F1, _, len2, g1, ?_⟩
        rw [e1]
        intro v F' H' t1 t2
        refine ⟨?_, hQ (.ref x) F' H' t1 (g2 F' H' t sd' t1 t2.drop et).1.drop (g2 F' H' t sd' t1 t2.drop et).1 fun _ => ⟨(g2 F' H' t sd' t1 t2.drop et).2, rfl⟩⟩
        obtain ⟨o, P, w, r, _⟩ := t2
        unfold RepO at r
        cases r
        rfl
      · exact True.intro
    · rename_i x1 sd' e1
      split
      · rename_i t et
        intro hW x dx h1 h2 h3
        obtain ⟨G', g1, g2⟩ := key x dx h1 h2 h3
        refine ⟨len1 x, G', F1, _, len2, g1, ?_⟩
        rw [e1]
        exact fun cls dd F' H' t1 t2 t3 => hW cls dd F' H' t1 (g2 F' H' t sd' t1 t2 et).1.drop t3
      · exact True.intro
    · exact True.intro
end
end DL
set_option maxHeartbeats 1600000
namespace DL
open PySem PySem.Spec L2 PyProof.Rows
section
variable {K : PySem.W.Frag} {pv vs ws : List V} {G F H : Hp} {sd : SD} {σ : L2.St}
theorem StR.pre {v w : V} {d : D} {t : OT} (s : StR K [v] G F ⟨[], [t]⟩ [] H) (r : Rep K F w d) : StR K [w, v] G F ⟨[], [.fz d, t]⟩ [] H := by
  obtain ⟨o, W⟩ := s
  refine ⟨fun x a => x = .inr 1 ∧ o (.inr 0) a, W.fh, W.gh, W.fg, fun x a q => W.oh _ a q.2, fun x y a q q' => q.1.trans q'.1.symm, rfl, fun i t e => by simp at e, fun i j e => by simp at e, fun j t1 e => ?_, W.tf⟩
  match j with
  | 0 =>
    cases e
    refine ⟨w, rfl, ?_⟩
    unfold RepO
    exact r
  | 1 =>
    cases e
    obtain ⟨v', k1, k2⟩ := W.pr 0 t rfl
    cases k1
    exact ⟨v, rfl, k2.mono (Same.refl _) fun x hx => ⟨⟨rfl, hx⟩, rfl⟩⟩
  | n + 2 => simp at e
end
end DL
set_option maxHeartbeats 1600000
namespace DL
open PySem PySem.Spec L2 PyProof.Rows
end DL
set_option maxHeartbeats 3200000
namespace DL
open PySem PySem.Spec L2 PyProof.Rows
noncomputable abbrev SL := List (Str × D)
noncomputable def skey (x : Str) : Key := .inr x
theorem skey_inj {a b : Str} (h : skey a = skey b) : a = b := Sum.inr.inj h
noncomputable def odS (al : SL) : OT := .od false (al.map fun p => .k (skey p.1)) (al.map fun p => .fz p.2)
noncomputable def dicS (al : SL) : D := .dic false (al.map fun p => .k (skey p.1)) (al.map fun p => p.2)
noncomputable def unKS : List DKey → List D → Option SL
  | [], [] => some []
  | .k (.inr x) :: ks, d :: ds => (unKS ks ds).map ((x, d) :: ·)
  | _, _ => none
noncomputable def unS : D → Option SL
  | .dic false ks ds => unKS ks ds
  | _ => none
theorem unKS_al : ∀ al : SL, unKS (al.map fun p => .k (skey p.1)) (al.map fun p => p.2) = some al
  | [] => rfl
  | p :: r => by
    show (unKS (r.map fun p => .k (skey p.1)) (r.map fun p => p.2)).map _ = _
    rw [unKS_al r]
    rfl
theorem unS_dicS (al : SL) : unS (dicS al) = some al := unKS_al al
theorem view_odS (al : SL) : (odS al).view = dicS al := by
  unfold odS dicS
  rw [OT.view]
  have e : (al.map fun p => OT.fz p.2) = (al.map fun p => p.2).map OT.fz := by rw [List.map_map]; rfl
  rw [e, views_fz]
theorem unKS_eq : ∀ {ks : List DKey} {ds : List D} {al : SL}, unKS ks ds = some al → ks = al.map (fun p => .k (skey p.1)) ∧ ds = al.map fun p => p.2
  | [], [], al, h => by cases h; exact ⟨rfl, rfl⟩
  | [], _ :: _, al, h => by cases h
  | .t _ :: _, _, al, h => by unfold unKS at h; cases h
  | .k (.inl _) :: _, _, al, h => by unfold unKS at h; cases h
  | .k (.inr x) :: _, [], al, h => by unfold unKS at h; cases h
  | .k (.inr x) :: ks, d :: ds, al, h => by
    have h : (unKS ks ds).map ((x, d) :: ·) = some al := h
    obtain ⟨bl, e, h⟩ := Option.map_eq_some_iff.mp h
    subst h
    obtain ⟨h1, h2⟩ := unKS_eq e
    exact ⟨by rw [List.map_cons, ← h1]; rfl, by rw [List.map_cons, ← h2]⟩
theorem unS_eq {d : D} {al : SL} (h : unS d = some al) : d = dicS al := by
  unfold unS at h
  split at h
  · obtain ⟨h1, h2⟩ := unKS_eq h
    subst h1 h2
    rfl
  · cases h
noncomputable def sGet (al : SL) (k : Str) : Option D := (al.find? fun p => decide (p.1 = k)).map (·.2)
noncomputable def sPutA (al : SL) (k : Str) (d : D) : SL := if (al.any fun p => decide (p.1 = k)) = true then al.map (fun p => if p.1 = k then (p.1, d) else p) else al ++ [(k, d)]
noncomputable def strIs : D → Option Str
  | .str x => some x
  | _ => none
noncomputable def RSL (K : PySem.W.Frag) (F : Hp) (kvs : List (Key × V)) (al : SL) : Prop := Paired (fun (p : Key × V) (q : Str × D) => p.1 = skey q.1 ∧ Rep K F p.2 q.2) kvs al
section
variable {K : PySem.W.Frag} {F F' : Hp} {kvs : List (Key × V)} {al : SL}
theorem RSL.mono (e : Same F F') : ∀ {kvs : List (Key × V)} {al : SL}, RSL K F kvs al → RSL K F' kvs al
  | _, _, .nil => .nil
  | _, _, .cons h r => .cons ⟨h.1, h.2.mono e⟩ (RSL.mono e r)
theorem RSL.of_reps : ∀ {kvs : List (Key × V)} {al : SL}, al.map (fun p => DKey.k (skey p.1)) = kvs.map (fun p => DKey.k p.1) → Reps K F (kvs.map (·.2)) (al.map fun p => p.2) → RSL K F kvs al
  | [], [], _, _ => .nil
  | [], _ :: _, h, _ => by cases h
  | _ :: _, [], h, _ => by cases h
  | p :: kvs, q :: al, h, r => by
    have h1 := List.cons.inj h
    cases r with
    | cons r1 r2 => exact .cons ⟨(DKey.k.inj h1.1).symm, r1⟩ (RSL.of_reps h1.2 r2)
theorem RSL.keys : ∀ {kvs : List (Key × V)} {al : SL}, RSL K F kvs al → al.map (fun p => DKey.k (skey p.1)) = kvs.map (fun p => DKey.k p.1)
  | _, _, .nil => rfl
  | _, _, .cons h r => by rw [List.map_cons, List.map_cons, RSL.keys r, h.1]
theorem RSL.reps : ∀ {kvs : List (Key × V)} {al : SL}, RSL K F kvs al → Reps K F (kvs.map (·.2)) (al.map fun p => p.2)
  | _, _, .nil => .nil
  | _, _, .cons h r => .cons h.2 (RSL.reps r)
theorem RSL.length : ∀ {kvs : List (Key × V)} {al : SL}, RSL K F kvs al → kvs.length = al.length
  | _, _, .nil => rfl
  | _, _, .cons _ r => by rw [List.length_cons, List.length_cons, RSL.length r]
theorem RSL.get (k : Str) : ∀ {kvs : List (Key × V)} {al : SL}, RSL K F kvs al → (sGet al k = none ∧ valV kvs (skey k) = none) ∨ ∃ d v, sGet al k = some d ∧ valV kvs (skey k) = some v ∧ Rep K F v d
  | _, _, .nil => .inl ⟨rfl, rfl⟩
  | p :: kvs, q :: al, .cons h r => by
    by_cases e : q.1 = k
    · have e2 : p.1 = skey k := by rw [h.1, e]
      exact .inr ⟨q.2, p.2, by simp [sGet, e], valV_pos e2, h.2⟩
    · have e2 : ¬ p.1 = skey k := fun z => e (skey_inj (h.1.symm.trans z))
      rw [valV_neg e2]
      have e3 : sGet (q :: al) k = sGet al k := by simp [sGet, e]
      rw [e3]
      exact RSL.get k r
theorem RSL.any (k : Str) : ∀ {kvs : List (Key × V)} {al : SL}, RSL K F kvs al → (kvs.any fun p => decide (p.1 = skey k)) = al.any fun p => decide (p.1 = k)
  | _, _, .nil => rfl
  | p :: kvs, q :: al, .cons h r => by
    rw [List.any_cons, List.any_cons, RSL.any k r]
    congr 1
    by_cases e : q.1 = k
    · rw [decide_eq_true e, decide_eq_true (by rw [h.1, e])]
    · rw [decide_eq_false e, decide_eq_false fun z => e (skey_inj (h.1.symm.trans z))]
theorem RSL.repl (k : Str) {v : V} {d : D} (rd : Rep K F v d) : ∀ {kvs : List (Key × V)} {al : SL}, RSL K F kvs al → RSL K F (kvs.map fun p => if p.1 = skey k then (skey k, v) else p) (al.map fun p => if p.1 = k then (p.1, d) else p)
  | _, _, .nil => .nil
  | p :: kvs, q :: al, .cons h r => by
    refine .cons ?_ (RSL.repl k rd r)
    show (if p.1 = skey k then (skey k, v) else p).1 = skey (if q.1 = k then (q.1, d) else q).1 ∧ Rep K F (if p.1 = skey k then (skey k, v) else p).2 (if q.1 = k then (q.1, d) else q).2
    by_cases e : q.1 = k
    · have e2 : p.1 = skey k := by rw [h.1, e]
      rw [if_pos e, if_pos e2]
      exact ⟨by rw [e], rd⟩
    · have e2 : ¬ p.1 = skey k := fun z => e (skey_inj (h.1.symm.trans z))
      rw [if_neg e, if_neg e2]
      exact h
theorem RSL.put (r : RSL K F kvs al) (k : Str) {v : V} {d : D} (rd : Rep K F v d) : RSL K F (putK kvs (skey k) v) (sPutA al k d) := by
  have e := RSL.any k r
  unfold putK sPutA
  by_cases c : (al.any fun p => decide (p.1 = k)) = true
  · rw [if_pos c]
    rw [c] at e
    first
      | (rw [if_pos e]
         have z := RSL.repl k rd r
         refine (show RSL K F _ _ from ?_)
         have m : (kvs.map fun p => if p.1 = skey k then (skey k, v) else p) = kvs.map fun p => if p.1 = skey k then (p.1, v) else p := List.map_congr_left fun p _ => by
           by_cases q : p.1 = skey k
           · rw [if_pos q, if_pos q, q]
           · rw [if_neg q, if_neg q]
         first | exact z | (rw [← m]; exact z))
  · rw [if_neg c]
    have c' : (kvs.any fun p => decide (p.1 = skey k)) = false := by
      rw [e]; exact Bool.eq_false_iff.mpr c
    rw [if_neg (by rw [c']; decide)]
    exact paired_app r (.cons ⟨rfl, rd⟩ .nil)
end
section
variable {K : PySem.W.Frag} {pv : List V} {G F H : Hp} {sd : SD} {σ : L2.St}
theorem repO_odS_of {al : SL} {a : Addr} {kvs : List (Key × V)} {P : Addr → Prop} (pa : P a) (ha : H a = some (.dK kvs)) (r : RSL K F kvs al) : RepO K F H (odS al) (.ref a) P := by
  unfold odS
  unfold RepO
  refine ⟨a, rfl, pa, .inl ⟨rfl, kvs, ha, r.keys, ?_⟩⟩
  have z := repOs_of (H := H) (fun x => P x ∧ x ≠ a) r.reps
  rw [List.map_map] at z
  exact z
end
theorem rep_skey {K : PySem.W.Frag} {F : Hp} {v : V} {d : D} {x : Str} (r : Rep K F v d) (h : strIs d = some x) : v = kV (skey x) := by
  unfold strIs at h
  split at h
  · cases h; cases r; rfl
  · cases h
section
variable {K : PySem.W.Frag} {pv : List V} {W : WX} {G F H : Hp} {sd : SD} {σ : L2.St} {p q : Bool}
theorem StR.unlayS {L : Addr} {kvs : List (Key × V)} {al : SL} (s : StR K pv (upd G L (.dK kvs)) F sd σ H) (gL : G L = none) (r : RSL K F kvs al) : StR1 K pv G F sd σ H (.ref L) (odS al) := by
  obtain ⟨f0, hL, off⟩ := s.offT
  obtain ⟨o, W⟩ := s
  have n0 := off o W
  refine ⟨o, fun a => a = L, ⟨W.fh, fun a x e => W.gh a x (by rw [upd_ne (ne_of_none e gL)]; exact e), fun a ha => ?_, fun i a q => ?_, W.oo, W.len, W.sl, W.sp, W.pr, W.tf⟩, repO_odS_of rfl hL r, fun a ha => ?_⟩
  · have h : a ≠ L := fun z => ha (by rw [z]; exact f0)
    have := W.fg a ha
    rw [upd_ne h] at this; exact this
  · obtain ⟨h1, h2, h3⟩ := W.oh i a q
    rw [upd_ne fun z => n0 i (by rw [← z]; exact q)] at h3
    exact ⟨h1, h2, h3⟩
  · subst ha
    exact ⟨by rw [hL]; simp, f0, gL, n0⟩
noncomputable def goDs (g : D → SD → Option SD) (mk mv : SD → ER D) (vs : List Nat) : List D → SL → SD → ER SL
  | [], acc, sd => .ok acc sd
  | d :: ds, acc, sd => match g d (sd.wipe vs) with
    | none => .bad
    | some sd1 => (mk sd1).calm.bind fun y sd2 => (mv sd2).calm.bind fun z sd3 => match strIs y with
      | some ns => if acc.length < 16777216 then goDs g mk mv vs ds (sPutA acc ns z) sd3 else .bad
      | none => .bad
noncomputable def mDcS (it : SD → ER (List D)) (g : D → SD → Option SD) (mk mv : SD → ER D) (vs : List Nat) : SD → ER OT := fun sd => (it sd).bind fun ds sd1 => (goDs g mk mv vs ds [] sd1).bind fun res sd2 => .ok (odS res) (sd2.back sd1 vs)
theorem goDs_calm {g : D → SD → Option SD} {mk mv : SD → ER D} {vs : List Nat} : ∀ (ds : List D) (acc : SL) (sd : SD) (x : Exn) (s : SD), goDs g mk mv vs ds acc sd ≠ .rz x s
  | [], acc, sd, x, s => by rw [goDs]; intro h; cases h
  | d :: ds, acc, sd, x, s => by
    rw [goDs]
    intro h
    split at h
    · cases h
    · rename_i sd1 _
      cases e1 : (mk sd1).calm with
      | bad => rw [e1] at h; cases h
      | rz a b => cases e : mk sd1 <;> rw [e] at e1 <;> cases e1
      | ok y sd2 =>
        rw [e1] at h
        rw [ER.bind_ok] at h
        cases e2 : (mv sd2).calm with
        | bad => rw [e2] at h; cases h
        | rz a b => cases e : mv sd2 <;> rw [e] at e2 <;> cases e2
        | ok z sd3 =>
          rw [e2, ER.bind_ok] at h
          split at h
          · split at h
            · exact goDs_calm ds _ _ x s h
            · cases h
          · cases h
theorem yes_if {a b : Prop} (h : a) : if true = true then a else b := by rw [if_pos rfl]; exact h
theorem dcS_run {J : It} {t : TG} {tk tv : TE} {g : D → SD → Option SD} {mk mv : SD → ER D} {pk pe : Bool} {vs is : List Nat} {F1 H1 : Hp} {sd1 : SD} {ds : List D} {L : Addr} {Q : Hp → Prop} {res : SL} {sdr : SD} (his : ∀ i ∈ is, i ∈ vs)
    (hg : TgRun K is t g) (hgw : ∀ d sd sd', g d sd = some sd' → sd'.wipe vs = sd.wipe vs)
    (hk : TrX K pv W0 pk true tk mk) (hv : TrX K pv W0 pe true tv mv) (wk : Walk K J F1 ds) (s1 : StR K pv G F1 (sd1.wipe vs) (wipe σ vs) H1) (hL : H1 L = none) (e : goDs g mk mv vs ds [] sd1 = .ok res sdr)
    (hQ : ∀ F' H' kvs, Same F1 F' → StR K pv (upd G L (.dK kvs)) F' (sdr.wipe vs) (wipe σ vs) H' → RSL K F' kvs res → Q H') :
    ∃ W : Nat → Nat → Hp → Prop, (∃ m, W 0 m (upd H1 L (.dK []))) ∧ ∀ i m H, W i m H → (J.stop i H ∧ Q H) ∨ (J.go i H ∧ ∃ Nx : Hp → Prop, (∀ H', Nx H' → ∃ m', m' < m ∧ W (i + 1) m' H') ∧ ∀ x H', J.yld i H x H' → t x (wipe σ vs) H' fun σ2 H2 => wipe σ2 vs = wipe σ vs ∧ tYes σ2 H2 fun b H2 => if b = true then
      tk σ2 H2 fun y H3 => tv σ2 H3 fun z H4 => ∃ kvs k, y = kV k ∧ H4 L = some (.dK kvs) ∧ kvs.length < sizeLine ∧ Nx (upd H4 L (.dK (putK kvs k z))) else Nx H2) := by
  have ww : ∀ sd : SD, (sd.wipe vs).wipe vs = sd.wipe vs := fun sd => wipe_wipe (fun i h => h) sd
  have sw : wipe (wipe σ vs) vs = wipe σ vs := wipe_wipeV (fun i h => h) σ
  let Iv : Nat → Hp → Prop := fun i H => ∃ F' sd' acc kvs, Same F1 F' ∧ StR K pv (upd G L (.dK kvs)) F' (sd'.wipe vs) (wipe σ vs) H ∧ RSL K F' kvs acc ∧ goDs g mk mv vs (ds.drop i) acc sd' = .ok res sdr
  refine ⟨fun i m H => m = ds.length - i ∧ i ≤ ds.length ∧ Iv i H, ⟨ds.length, by simp, Nat.zero_le _, F1, sd1, [], [], Same.refl _, s1.layT (by intro _ z; cases z) hL, .nil, e⟩, ?_⟩
  rintro i m H ⟨rfl, hi, F', sd', acc, kvs, f1, st, ra, eg⟩
  by_cases hlt : i < ds.length
  · have hd : ds[i]? = some ds[i] := List.getElem?_eq_getElem hlt
    rw [List.drop_eq_getElem_cons hlt, goDs] at eg
    refine .inr ⟨wk.go F' H i _ f1 st.fh hd, Iv (i + 1), fun H' q => ⟨ds.length - (i + 1), by omega, rfl, hlt, q⟩, fun x H' y => ?_⟩
    have main : ∀ (F2 H2 : Hp), Same F' F2 → StR K pv (upd G L (.dK kvs)) F2 (sd'.wipe vs) (wipe σ vs) H2 → Rep K F2 x ds[i] → t x (wipe σ vs) H2 fun σ2 H2 => wipe σ2 vs = wipe σ vs ∧ tYes σ2 H2 fun b H2 => if b = true then
        tk σ2 H2 fun y H3 => tv σ2 H3 fun z H4 => ∃ kvs k, y = kV k ∧ H4 L = some (.dK kvs) ∧ kvs.length < sizeLine ∧ Iv (i + 1) (upd H4 L (.dK (putK kvs k z))) else Iv (i + 1) H2 := fun F2 H2 f2 st2 rx => by
      revert eg
      cases eq1 : g ds[i] (sd'.wipe vs) with
      | none => intro eg; cases eg
      | some sda =>
        intro eg
        refine hg pv _ F2 _ _ H2 x _ sda st2 rx eq1 _ fun σ2 st3 wp => ⟨by rw [wp vs his, sw], ?_⟩
        refine @yes_if _ (Iv (i + 1) H2) ?_
        have eg : ((mk sda).calm.bind fun y sd2 => (mv sd2).calm.bind fun z sd3 => match strIs y with
          | some ns => if acc.length < 16777216 then goDs g mk mv vs (ds.drop (i + 1)) (sPutA acc ns z) sd3 else .bad
          | none => .bad) = .ok res sdr := eg
        have zk := hk (upd G L (.dK kvs)) F2 sda σ2 H2 (fun y H3 => tv σ2 H3 fun z H4 => ∃ kvs k, y = kV k ∧ H4 L = some (.dK kvs) ∧ kvs.length < sizeLine ∧ Iv (i + 1) (upd H4 L (.dK (putK kvs k z)))) st3
        revert eg zk
        cases mk sda with
        | bad => intro eg; cases eg
        | rz _ _ => intro eg; cases eg
        | ok dy sdb =>
          intro eg zk
          have eg : ((mv sdb).calm.bind fun z sd3 => match strIs dy with
            | some ns => if acc.length < 16777216 then goDs g mk mv vs (ds.drop (i + 1)) (sPutA acc ns z) sd3 else .bad
            | none => .bad) = .ok res sdr := eg
          refine zk fun y F3 H3 u1 u2 u3 u4 => ?_
          have u3 : Rep K F3 y dy := u3
          have zv := hv (upd G L (.dK kvs)) F3 sdb σ2 H3 (fun z H4 => ∃ kvs k, y = kV k ∧ H4 L = some (.dK kvs) ∧ kvs.length < sizeLine ∧ Iv (i + 1) (upd H4 L (.dK (putK kvs k z)))) u2
          revert eg zv
          cases mv sdb with
          | bad => intro eg; cases eg
          | rz _ _ => intro eg; cases eg
          | ok dz sdc =>
            intro eg zv
            have eg : (match strIs dy with
              | some ns => if acc.length < 16777216 then goDs g mk mv vs (ds.drop (i + 1)) (sPutA acc ns dz) sdc else .bad
              | none => .bad) = .ok res sdr := eg
            split at eg
            · rename_i ns en
              split at eg
              · rename_i hz
                refine zv fun z F4 H4 v1 v2 v3 v4 => ?_
                have ek := rep_skey (u3.mono v1) en
                have r4 := ra.mono ((f2.trans u1).trans v1)
                refine ⟨kvs, skey ns, ek, v2.offT.2.1, by rw [r4.length, sizeLine_eq]; exact hz, F4, sdc, _, _, ((f1.trans f2).trans u1).trans v1, ?_, r4.put ns v3, eg⟩
                have q := (v2.relayT (w := .dK (putK kvs (skey ns) z)) (by intro _ z; cases z)).wipe vs
                rw [wp vs his, sw] at q
                exact q
              · cases eg
            · cases eg
    rcases wk.yld F' H i _ x H' f1 st.fh hd y with ⟨rfl, rx⟩ | ⟨T, us, es, rfl, ed, hT, rfl, rr⟩
    · exact main F' H' (Same.refl _) st rx
    · refine main _ _ (st.sameNew hT) (st.new (u := .tup us) hT) ?_
      rw [ed]
      exact .tup upd_same (rr.mono (st.sameNew hT))
  · have e2 : i = ds.length := by omega
    subst e2
    rw [List.drop_length, goDs] at eg
    cases eg
    exact .inl ⟨wk.stop F' H f1 st.fh, hQ F' H kvs f1 st ra⟩
end
section
variable {X : Cx} {pv : List V} {W : WX} {p q k l pk pe : Bool} {tg iter kx vx : Expr} {scope : Scope} {pos : Pos}
theorem do_dcS {own : List (Str × Nat)} {is : List Nat} {mi : SD → ER (List D)} {g : D → SD → Option SD} {mk mv : SD → ER D} (hu : X.A.units < cLine) (hc : X.calm = true) (hN : X.N.Nodup) (hi : DI X pv W p tg iter mi) (ok : BlkOk X.N X.env.scope scope own)
    (hg : ∀ (s : Shared) (H : Hp) (C : Addr) (cl : List (Str × Addr)) (fp : List Addr), DG (X.blk s H scope (compEnvC scope cl C X.env) fp) is tg g)
    (hk : ∀ (s : Shared) (H : Hp) (C : Addr) (cl : List (Str × Addr)) (fp : List Addr), DX (X.blk s H scope (compEnvC scope cl C X.env) fp) pv W0 pk true kx mk)
    (hv : ∀ (s : Shared) (H : Hp) (C : Addr) (cl : List (Str × Addr)) (fp : List Addr), DX (X.blk s H scope (compEnvC scope cl C X.env) fp) pv W0 pe true vx mv) (his : ∀ i ∈ is, i ∈ own.map (·.2))
    (wip : ∀ (vs : List Nat), (∀ i ∈ is, i ∈ vs) → ∀ d sd sd', g d sd = some sd' → SD.wipe sd' vs = SD.wipe sd vs)
    (hs : ∀ x, foldedSetIterable iter X.env x = pure x := by intro _; rfl) :
    DO X pv W false (.DictComp kx vx [⟨tg, iter, [], 0⟩] scope pos) (mDcS mi g mk mv (own.map (·.2))) := by
  obtain ⟨wi, a1, a2⟩ := hi
  refine ⟨_, pe_dc (g := canG X.K is g) (tt := tYes) (tk := canX X.K pv W0 pk true mk) (tv := canX X.K pv W0 pe true mv) hc hN a1 ok (fun s H C cl fp => (hg s H C cl fp).can) (fun _ _ _ _ _ => pts_nil) (fun s H C cl fp => (hk s H C cl fp).can) (fun s H C cl fp => (hv s H C cl fp).can) hs, fun G F sd σ H Q s => ?_⟩
  refine Meets.weak (p := p && false) (Meets.bind (a2 G F sd σ H _ s) fun J F1 H1 ds sd1 s1 s2 s3 s4 => ?_)
  cases e : goDs g mk mv (own.map (·.2)) ds [] sd1 with
  | bad => exact True.intro
  | rz x sr => exact absurd e (goDs_calm ds [] sd1 x sr)
  | ok res sdr =>
    intro hQ L hL
    obtain ⟨G', g1, g2, g3⟩ := s2.block (own.map (·.2))
    refine dcS_run his canG_run (wip _ his) canX_tr canX_tr s3 g2 hL e fun F' H' kvs f1 st r => ?_
    have z := st.unlayS (g1 L hL) r
    have z2 := g3 F' sdr H' _ _ f1 z
    exact hQ _ F' H' f1 z2.drop z2 fun zz => by cases zz
theorem rep_dicS {K : PySem.W.Frag} {F : Hp} {v : V} {al : SL} (r : Rep K F v (dicS al)) : ∃ a kvs, v = .ref a ∧ Rd F a (.dK kvs) ∧ RSL K F kvs al := by
  unfold dicS at r
  generalize e1 : (al.map fun p => DKey.k (skey p.1)) = ks at r
  generalize e2 : (al.map fun p => p.2) = ds at r
  cases r with
  | dicK q rr => subst e2; exact ⟨_, _, rfl, q, RSL.of_reps e1 rr⟩
noncomputable def mSItem (mo mk : SD → ER D) : SD → ER D := fun sd => (mo sd).bind fun x sd1 => (mk sd1).bind fun y sd2 => match unS x, strIs y with
  | some al, some ns => ER.opt (sGet al ns) sd2
  | _, _ => .bad
theorem dx_sitem {o e : Expr} {mo mk : SD → ER D} (hu : X.A.units + 1 < cLine) (ho : DX X pv W p true o mo) (he : DX X pv W q true e mk) (hs : NoSl e := by exact fun _ _ => rfl) : DX X pv W (p && q) true (.Subscript o e pos) (mSItem mo mk) := by
  obtain ⟨to, o1, o2⟩ := ho
  obtain ⟨te, a1, a2⟩ := he
  refine ⟨_, pe_dget hu o1 a1 hs, fun G F sd σ H Q s => ?_⟩
  refine Meets.bind (o2 G F sd σ H _ s) fun x F1 H1 dx sd1 s1 s2 s3 s4 => ?_
  have r1 : Rep X.K F1 x dx := s3
  refine Meets.bindL (a2 G F1 sd1 σ H1 _ s2) fun y F2 H2 dy sd2 t1 t2 t3 t4 => ?_
  split
  · rename_i al ns e1 e2
    rw [unS_eq e1] at r1
    obtain ⟨ad, kvs, rfl, rd, ral⟩ := rep_dicS (r1.mono t1)
    have ey := rep_skey (show Rep X.K F2 y dy from t3) e2
    subst ey
    rcases ral.get ns with ⟨h1, _⟩ | ⟨dd, v, h1, h2, h4⟩
    · rw [h1]; exact True.intro
    · rw [h1]
      intro hQ
      exact ⟨ad, v, rfl, .inl ⟨kvs, skey ns, Same.rd t2.fh rd, rfl, h2.symm⟩, hQ v F2 H2 (Same.refl _) t2 h4 fun _ => ⟨Same.refl _, rfl⟩⟩
  · exact True.intro
end
end DL
set_option maxHeartbeats 3200000
namespace DL
open PySem PySem.Spec L2 PyProof.Rows
section
variable {X : Cx} {pv : List V} {W : WX} {p q k l pk pe : Bool} {tg iter kx vx : Expr} {scope : Scope} {pos : Pos}
/-- the store is part of the comprehension -/
theorem swD {kx vx : Expr} {gens : List Comprehension} {sco : Scope} {pd pn : Pos} {nm : Str} {line : Nat} {en : Env} (kf : en.scope.kind = .function) (loc : en.scope.names.lookup nm = some .local) (same : (pn.line == pd.line) = true)
    (none : (sco.names.any fun (n, k) => n == nm && (k == .local || k == .cell)) = false) : swapsWith (.DictComp kx vx gens sco pd) (some (.Name nm pn)) line en = pure true := by
  have b1 : en.kindOf nm = some .local := loc
  have b2 : en.blockKind = .function := by
    unfold Env.blockKind
    rw [kf]
    rfl
  unfold swapsWith
  simp only [b1, b2, none, Expr.pos, same]
  rfl
theorem ps_setDc {own : List (Str × Nat)} {i : Nat} {nm : Str} {pn sp : Pos} {wi : TI} {g : TG} {tt : TT} {tk tv : TE} (calm : X.calm = true) (nd : X.N.Nodup) (at_ : X.N[i]? = some nm) (loc : X.env.scope.names.lookup nm = some .local)
    (sw : swapsWith (.DictComp kx vx [⟨tg, iter, [], 0⟩] scope pos) (some (.Name nm pn)) sp.line X.env = pure true) (pi : PI X tg iter wi) (blk : BlkOk X.N X.env.scope scope own)
    (pg : ∀ (s : Shared) (H : Hp) (C : Addr) (cl : List (Str × Addr)) (fp : List Addr), PG (X.blk s H scope (compEnvC scope cl C X.env) fp) tg g)
    (pt : ∀ (s : Shared) (H : Hp) (C : Addr) (cl : List (Str × Addr)) (fp : List Addr), PTs (X.blk s H scope (compEnvC scope cl C X.env) fp) [] tt)
    (pk : ∀ (s : Shared) (H : Hp) (C : Addr) (cl : List (Str × Addr)) (fp : List Addr), PE (X.blk s H scope (compEnvC scope cl C X.env) fp) kx tk)
    (pv : ∀ (s : Shared) (H : Hp) (C : Addr) (cl : List (Str × Addr)) (fp : List Addr), PE (X.blk s H scope (compEnvC scope cl C X.env) fp) vx tv) (fold : ∀ x, foldedSetIterable iter X.env x = pure x) :
    PS X (.Assign [.Name nm pn] (.DictComp kx vx [⟨tg, iter, [], 0⟩] scope pos) sp) (tAsg (tDc wi g tt tk tv (own.map (·.2))) (gName i)) := by
  refine ⟨fun pins s σ H D I want => ?_⟩
  rw [exec_Assign_Name_used _ _ _ _ sw]
  refine wpAny_bind (wpAny_standAt (wpAny_bind ?_))
  have want : tDc wi g tt tk tv (own.map (·.2)) σ H (fun x H1 => gName i x σ H1 D.nx) := want
  show wpAny _ X.A (do let _ ← comprehension (.DictComp kx vx [⟨tg, iter, [], 0⟩] scope pos) scope X.env _ newDict false (eval iter X.env) (some (assign (.Name nm pn) X.env))) _ _ s
  have core := dc_core (pos := pos) (Qf := fun _ s' => SP X pins D .next s') (use := some (assign (.Name nm pn) X.env)) (pos' := firstIterPos [⟨tg, iter, [], 0⟩] pos) calm nd I pi blk pg pt pk pv fold want fun L C s2 m H2 I2 qq hn fr => by
    obtain ⟨r0, r1, r2, r3, r4, r5⟩ := fr
    show wpAny _ _ (assign (.Name nm pn) X.env (.ref L)) _ _ _
    refine wpAny_assign_Name (store_ok2 (v := V.ref L) I2 nd at_ (.inl loc) rfl (fun s3 I3 ⟨a, sb, ha⟩ => ?_) (.inr loc))
    have far : C ≠ a := ha.elim (fun z => z ▸ r1) fun z e => r4 nm a z e.symm
    exact ⟨m, hn.sameBut sb far, fun h3 sb3 => ⟨_, H2, I3.turned (t' := s3.toks) (fun b o hb e => (sb3.2 b hb).trans e) r0 r1 r3 r4 r5, qq⟩⟩
  exact wpAny_bind (thn core fun _ s3 done => wpAny_pure (wpAny_pure done))
theorem dcS_tr {own : List (Str × Nat)} {is : List Nat} {wi : TI} {mi : SD → ER (List D)} {tt : TT} {tg0 : Expr} {g : D → SD → Option SD} {mk mv : SD → ER D} (a2 : TrI X.K pv W p wi mi) (his : ∀ i ∈ is, i ∈ own.map (·.2)) (wip : ∀ (vs : List Nat), (∀ i ∈ is, i ∈ vs) → ∀ d sd sd', g d sd = some sd' → SD.wipe sd' vs = SD.wipe sd vs) :
    TrO X.K pv W false (tDc wi (canG X.K is g) tYes (canX X.K pv W0 pk true mk) (canX X.K pv W0 pe true mv) (own.map (·.2))) (mDcS mi g mk mv (own.map (·.2))) := by
  intro G F sd σ H Q s
  refine Meets.weak (p := p && false) (Meets.bind (a2 G F sd σ H _ s) fun J F1 H1 ds sd1 s1 s2 s3 s4 => ?_)
  cases e : goDs g mk mv (own.map (·.2)) ds [] sd1 with
  | bad => exact True.intro
  | rz x sr => exact absurd e (goDs_calm ds [] sd1 x sr)
  | ok res sdr =>
    intro hQ L hL
    obtain ⟨G', g1, g2, g3⟩ := s2.block (own.map (·.2))
    refine dcS_run his canG_run (wip _ his) canX_tr canX_tr s3 g2 hL e fun F' H' kvs f1 st r => ?_
    have z := st.unlayS (g1 L hL) r
    have z2 := g3 F' sdr H' _ _ f1 z
    exact hQ _ F' H' f1 z2.drop z2 fun zz => by cases zz
theorem ds_setDcS {own : List (Str × Nat)} {is : List Nat} {i : Nat} {nm : Str} {pn sp : Pos} {mi : SD → ER (List D)} {g : D → SD → Option SD} {mk mv : SD → ER D} (calm : X.calm = true) (nd : X.N.Nodup) (at_ : X.N[i]? = some nm) (loc : X.env.scope.names.lookup nm = some .local)
    (sw : swapsWith (.DictComp kx vx [⟨tg, iter, [], 0⟩] scope pos) (some (.Name nm pn)) sp.line X.env = pure true) (hi : DI X pv W p tg iter mi) (ok : BlkOk X.N X.env.scope scope own)
    (hg : ∀ (s : Shared) (H : Hp) (C : Addr) (cl : List (Str × Addr)) (fp : List Addr), DG (X.blk s H scope (compEnvC scope cl C X.env) fp) is tg g)
    (hk : ∀ (s : Shared) (H : Hp) (C : Addr) (cl : List (Str × Addr)) (fp : List Addr), DX (X.blk s H scope (compEnvC scope cl C X.env) fp) pv W0 pk true kx mk)
    (hv : ∀ (s : Shared) (H : Hp) (C : Addr) (cl : List (Str × Addr)) (fp : List Addr), DX (X.blk s H scope (compEnvC scope cl C X.env) fp) pv W0 pe true vx mv) (his : ∀ i ∈ is, i ∈ own.map (·.2))
    (wip : ∀ (vs : List Nat), (∀ i ∈ is, i ∈ vs) → ∀ d sd sd', g d sd = some sd' → SD.wipe sd' vs = SD.wipe sd vs)
    (fold : ∀ x, foldedSetIterable iter X.env x = pure x := by intro _; rfl) :
    DS X pv W (.Assign [.Name nm pn] (.DictComp kx vx [⟨tg, iter, [], 0⟩] scope pos) sp) (sSet i (mFz (mDcS mi g mk mv (own.map (·.2))))) := by
  obtain ⟨wi, a1, a2⟩ := hi
  exact ⟨_, ps_setDc calm nd at_ loc sw a1 ok (fun s H C cl fp => (hg s H C cl fp).can) (fun _ _ _ _ _ => pts_nil) (fun s H C cl fp => (hk s H C cl fp).can) (fun s H C cl fp => (hv s H C cl fp).can) fold, tr_set (tr_fz (dcS_tr (tt := tYes) (tg0 := tg) a2 his wip))⟩
/-- k in d as a test, d a dict that stays -/
noncomputable def mInSB (mk mo : SD → ER D) : SD → ER Bool := fun sd => (mk sd).bind fun y sd1 => (mo sd1).bind fun x sd2 => match strIs y, unS x with
  | some ns, some al => .ok (sGet al ns).isSome sd2
  | _, _ => .bad
theorem dt_inS {a b : Expr} {mk mo : SD → ER D} (hu : X.A.units + 1 < cLine) (he : DX X pv W p true a mk) (ho : DX X pv W q true b mo) (hm : behindInMarks .In b = false := by rfl) : DT X pv W (p && q) (.Compare a [.In] [b] pos) (mInSB mk mo) := by
  obtain ⟨te, a1, a2⟩ := he
  obtain ⟨to, o1, o2⟩ := ho
  refine ⟨_, pt_cmp (pc_din hu a1 o1) hm, fun G F sd σ H Q s => ?_⟩
  refine Meets.bind (a2 G F sd σ H _ s) fun y F1 H1 dy sd1 s1 s2 s3 s4 => ?_
  have r1 : Rep X.K F1 y dy := s3
  refine Meets.bindL (o2 G F1 sd1 σ H1 _ s2) fun x F2 H2 dx sd2 t1 t2 t3 t4 => ?_
  split
  · rename_i ns al e1 e2
    have r2 : Rep X.K F2 x dx := t3
    rw [unS_eq e2] at r2
    obtain ⟨ad, kvs, rfl, rd, ral⟩ := rep_dicS r2
    have ey := rep_skey (r1.mono t1) e1
    subst ey
    intro hQ
    refine ⟨ad, _, rfl, .inl ⟨kvs, skey ns, Same.rd t2.fh rd, rfl, rfl⟩, ?_⟩
    have es : (valV kvs (skey ns)).isSome = (sGet al ns).isSome := by
      rcases ral.get ns with ⟨h1, h2⟩ | ⟨d, v, h1, h2, _⟩ <;> rw [h1, h2] <;> rfl
    rw [es]
    exact ⟨_, rfl, hQ (sGet al ns).isSome F2 H2 (Same.refl _) t2 rfl fun _ => ⟨Same.refl _, rfl⟩⟩
  · exact True.intro
end
end DL
set_option maxHeartbeats 3200000
namespace DL
open PySem PySem.Spec L2 PyProof.Rows
noncomputable def mPairO (i j : Nat) : SD → ER OT := fun sd => match sd.sl[i]?, sd.sl[j]? with
  | some (.ow t), some (.ow u) => if i = j then .bad else .ok (.ot [t, u]) { sd with sl := (sd.sl.set i .un).set j .un }
  | _, _ => .bad
noncomputable def mPart (k : Int) (m : SD → ER OT) : SD → ER OT := fun sd => (m sd).bind fun t sd1 => match t with
  | .ot ts => ER.opt (atI ts k) sd1
  | _ => .bad
section
variable {K : PySem.W.Frag} {pv : List V} {G F H : Hp} {sd : SD} {σ : L2.St}
theorem StR.takePair {i j : Nat} {t u : OT} (s : StR K pv G F sd σ H) (h1 : sd.sl[i]? = some (.ow t)) (h2 : sd.sl[j]? = some (.ow u)) (ne : i ≠ j) : ∃ v w, σ[i]? = some (some v) ∧ σ[j]? = some (some w) ∧ ∀ p, H p = none → StR K pv G (upd F p (.tup [v, w])) { sd with sl := (sd.sl.set i .un).set j .un } σ (upd H p (.tup [v, w])) ∧
    StR1 K pv G (upd F p (.tup [v, w])) { sd with sl := (sd.sl.set i .un).set j .un } σ (upd H p (.tup [v, w])) (.ref p) (.ot [t, u]) := by
  obtain ⟨v, e1, r1⟩ : ∃ v, σ[i]? = some (some v) ∧ True := by
    obtain ⟨o, W⟩ := s
    obtain ⟨v, e1, _⟩ := W.sl i t h1
    exact ⟨v, e1, True.intro⟩
  obtain ⟨w, e2, r2⟩ : ∃ w, σ[j]? = some (some w) ∧ True := by
    obtain ⟨o, W⟩ := s
    obtain ⟨w, e2, _⟩ := W.sl j u h2
    exact ⟨w, e2, True.intro⟩
  refine ⟨v, w, e1, e2, fun p hp => ?_⟩
  have s' : StR K pv G (upd F p (.tup [v, w])) sd σ (upd H p (.tup [v, w])) := s.new hp
  obtain ⟨o, W⟩ := s'
  obtain ⟨v', q1, r1⟩ := W.sl i t h1
  obtain ⟨w', q2, r2⟩ := W.sl j u h2
  rw [e1] at q1; cases q1
  rw [e2] at q2; cases q2
  have ow : Own K pv G (upd F p (.tup [v, w])) { sd with sl := (sd.sl.set i .un).set j .un } σ (upd H p (.tup [v, w])) (fun x a => o x a ∧ x ≠ .inl i ∧ x ≠ .inl j) := by
    have back : ∀ (k : Nat) (S1 : S), ((sd.sl.set i S.un).set j S.un)[k]? = some S1 → S1 ≠ .un → sd.sl[k]? = some S1 ∧ k ≠ i ∧ k ≠ j := fun k S1 e nu => by
      have kj : k ≠ j := fun z => by
        subst z
        have hl : k < (sd.sl.set i S.un).length := by rw [List.length_set]; exact (List.getElem?_eq_some_iff.mp h2).1
        rw [List.getElem?_set_self hl] at e
        exact nu (Option.some.inj e).symm
      rw [List.getElem?_set_ne (fun z => kj z.symm)] at e
      have ki : k ≠ i := fun z => by
        subst z
        rw [List.getElem?_set_self (List.getElem?_eq_some_iff.mp h1).1] at e
        exact nu (Option.some.inj e).symm
      rw [List.getElem?_set_ne (fun z => ki z.symm)] at e
      exact ⟨e, ki, kj⟩
    refine ⟨W.fh, W.gh, W.fg, fun x a q => W.oh x a q.1, fun x y a q q' => W.oo x y a q.1 q'.1, by simpa using W.len, fun k t' e => ?_, fun k l e => ?_, fun k t' e => ?_, W.tf⟩
    · obtain ⟨e, ki, kj⟩ := back k _ e (by intro z; cases z)
      obtain ⟨x, k1, k2⟩ := W.sl k t' e
      exact ⟨x, k1, k2.mono (Same.refl _) fun x hx => ⟨⟨hx, fun y => ki (Sum.inl.inj y), fun y => kj (Sum.inl.inj y)⟩, rfl⟩⟩
    · obtain ⟨e, _, _⟩ := back k _ e (by intro z; cases z)
      exact W.sp k l e
    · obtain ⟨x, k1, k2⟩ := W.pr k t' e
      exact ⟨x, k1, k2.mono (Same.refl _) fun x hx => ⟨⟨hx, (by intro y; cases y), (by intro y; cases y)⟩, rfl⟩⟩
  refine ⟨⟨_, ow⟩, _, fun a => o (.inl i) a ∨ o (.inl j) a, ow, ?_, fun a z => ?_⟩
  · unfold RepO
    refine ⟨p, [v, w], rfl, upd_same, ?_⟩
    unfold RepOs
    refine ⟨v, [w], o (.inl i), o (.inl j), rfl, fun x hx => .inl hx, fun x hx => ⟨.inr hx, fun y => ne (Sum.inl.inj (W.oo _ _ x y hx))⟩, r1, ?_⟩
    unfold RepOs
    refine ⟨w, [], o (.inl j), fun _ => False, rfl, fun x hx => hx, fun x hx => hx.elim, r2, ?_⟩
    unfold RepOs
    rfl
  · rcases z with z | z
    · exact ⟨(W.oh _ a z).1, (W.oh _ a z).2.1, (W.oh _ a z).2.2, fun x q => q.2.1 (W.oo _ _ a q.1 z)⟩
    · exact ⟨(W.oh _ a z).1, (W.oh _ a z).2.1, (W.oh _ a z).2.2, fun x q => q.2.2 (W.oo _ _ a q.1 z)⟩
theorem RepOs.nth : ∀ {ts : List OT} {vs : List V} {P : Addr → Prop} {k : Nat} {t : OT}, RepOs K F H ts vs P → ts[k]? = some t → ∃ v P', vs[k]? = some v ∧ (∀ x, P' x → P x) ∧ RepO K F H t v P'
  | [], _, _, _, _, _, h => by simp at h
  | t :: ts, vs, P, 0, t', r, h => by
    unfold RepOs at r
    obtain ⟨v, ws, P1, P2, rfl, h1, h2, r1, r2⟩ := r
    have h : some t = some t' := h
    cases h
    exact ⟨v, P1, rfl, h1, r1⟩
  | t :: ts, vs, P, k + 1, t', r, h => by
    unfold RepOs at r
    obtain ⟨v, ws, P1, P2, rfl, h1, h2, r1, r2⟩ := r
    obtain ⟨v', P', e, q, r⟩ := RepOs.nth r2 (show ts[k]? = some t' from h)
    exact ⟨v', P', e, fun x hx => (h2 x (q x hx)).1, r⟩
theorem StR1.part {v : V} {ts : List OT} {k : Int} {t : OT} (s : StR1 K pv G F sd σ H v (.ot ts)) (h : atI ts k = some t) : ∃ a vs w, v = .ref a ∧ F a = some (.tup vs) ∧ atI vs k = some w ∧ StR1 K pv G F sd σ H w t := by
  obtain ⟨o, P, W, r, q⟩ := s
  unfold RepO at r
  obtain ⟨a, vs, rfl, fa, r⟩ := r
  unfold atI at h
  cases e : ixN ts.length k with
  | none => rw [e] at h; cases h
  | some n =>
    rw [e] at h
    obtain ⟨w, P', e2, sub, r'⟩ := r.nth h
    refine ⟨a, vs, w, rfl, fa, ?_, o, P', W, r', fun x hx => q x (sub x hx)⟩
    unfold atI
    rw [r.length, e]
    exact e2
end
section
variable {X : Cx} {pv : List V} {W : WX} {p q k l : Bool} {e : Expr} {pos : Pos}
theorem do_pairO {i j : Nat} {x y : Str} {px py : Pos} {x1 : Nat} (h1 : PE X (.Name x px) (tVar i)) (h2 : PE X (.Name y py) (tVar j)) (ne : i ≠ j) (n1 : starEach [.Name x px, .Name y py] X.env = (false, eval (.Name x px) X.env) :: starEach [.Name y py] X.env := by rfl) (n2 : starEach [.Name y py] X.env = (false, eval (.Name y py) X.env) :: starEach [] X.env := by rfl) :
    DO X pv W false (.Tuple [.Name x px, .Name y py] x1 pos) (mPairO i j) := by
  refine ⟨_, pe_tup (pa_cons h1 (pa_cons h2 pa_nil n2) n1), fun G F sd σ H Q s => ?_⟩
  unfold mPairO
  split
  · rename_i t u e1 e2
    rw [if_neg ne]
    obtain ⟨v, w, q1, q2, go⟩ := s.takePair e1 e2 ne
    intro hQ
    refine ⟨v, q1, w, q2, ?_⟩
    refine ⟨by rw [sizeLine_eq]; show 2 ≤ 16777216; decide, fun p hp => ?_⟩
    obtain ⟨g1, g2⟩ := go p hp
    exact hQ _ _ _ (s.sameNew hp) g1 g2 (fun z => by cases z)
  · exact True.intro
theorem do_part {n : Int} {j : Nat} {cp : Pos} {m : SD → ER OT} (h : DO X pv W p e m) (hs : PlainIx (.Constant (.int n) j cp) := by exact fun _ _ => rfl) : DO X pv W p (.Subscript e (.Constant (.int n) j cp) pos) (mPart n m) := by
  obtain ⟨te, a1, a2⟩ := h
  refine ⟨_, pe_ix ix_tup a1 pe_int hs, fun G F sd σ H Q s => ?_⟩
  refine Meets.bindL (a2 G F sd σ H _ s) fun x F1 H1 t sd1 s1 s2 s3 s4 => ?_
  cases t with
  | ot ts =>
    show Meets X.K pv W G σ (RSo X.K pv) true sd1 F1 H1 (ER.opt (atI ts n) sd1) Q _
    cases e : atI ts n with
    | none => exact True.intro
    | some u =>
      obtain ⟨a, vs, w, rfl, fa, ea, r⟩ := StR1.part (show StR1 X.K pv G F1 sd1 σ H1 x (.ot ts) from s3) e
      exact Meets.here s2 (show RSo X.K pv G F1 sd1 H1 σ w u from r) fun q => ⟨a, vs, n, w, rfl, rfl, .inl (.inl (s2.fh _ _ fa)), ea, q⟩
  | _ => exact True.intro
end
end DL
set_option maxHeartbeats 3200000
namespace DL
open PySem PySem.Spec L2 PyProof.Rows
/-- the state in which our list, the name i, is lent -/
noncomputable def lentO (sd : SD) (i : Nat) (ds : List D) : SD := ⟨sd.sl.set i (.ow (.fz (.lst ds))), sd.pa⟩
section
variable {K : PySem.W.Frag} {pv : List V} {G F H : Hp} {sd : SD} {σ : L2.St}
theorem StR.lendO {i : Nat} {ds : List D} (s : StR K pv G F sd σ H) (hi : sd.sl[i]? = some (.ow (.ol (ds.map .fz)))) :
    ∃ (a : Addr) (vs : List V), StR K pv G (upd F a (.lst vs)) (lentO sd i ds) σ H ∧ F a = none ∧
      ∀ F' H', Same (upd F a (.lst vs)) F' → StR K pv G F' (lentO sd i ds) σ H' → Same H H' → StR K pv G (fun b => if b = a then none else F' b) sd σ H' := by
  classical
  obtain ⟨o, W⟩ := s
  obtain ⟨v, q2, p2⟩ := W.sl i _ hi
  unfold RepO at p2
  obtain ⟨a, vs, rfl, pa, ha, r⟩ := p2
  have rr : Reps K F vs ds := repOs_fz r
  obtain ⟨h0, fa, ga⟩ := W.oh _ a pa
  have up : Same F (upd F a (.lst vs)) := Same.upd fa
  have li : i < sd.sl.length := (List.getElem?_eq_some_iff.mp hi).1
  have rep : Rep K (upd F a (.lst vs)) (.ref a) (.lst ds) := .lst (.inl upd_same) (Reps.mono up rr)
  refine ⟨a, vs, ⟨fun x b => x ≠ .inl i ∧ o x b, ⟨fun b u e => ?_, W.gh, fun b hb => ?_, fun x b q => ?_, fun x y b q q' => W.oo x y b q.2 q'.2, ?_, fun k t e => ?_, fun k l e => ?_, fun k t e => ?_, fun b xs e => ?_⟩⟩, fa, fun F' H' f ⟨o', W'⟩ eh => ?_⟩
  · by_cases z : b = a
    · subst z
      rw [upd_same] at e; cases e
      exact ha
    · rw [upd_ne z] at e
      exact W.fh b u e
  · by_cases z : b = a
    · rw [z]; exact ga
    · rw [upd_ne z] at hb
      exact W.fg b hb
  · obtain ⟨k1, k2, k3⟩ := W.oh x b q.2
    refine ⟨k1, ?_, k3⟩
    rw [upd_ne fun z => q.1 (W.oo x _ b q.2 (by rw [z]; exact pa))]
    exact k2
  · show σ.length = (sd.sl.set i _).length
    rw [List.length_set]; exact W.len
  · have e : (sd.sl.set i (.ow (.fz (.lst ds))))[k]? = some (.ow t) := e
    by_cases z : i = k
    · subst z
      rw [List.getElem?_set_self li] at e
      cases e
      refine ⟨_, q2, ?_⟩
      unfold RepO
      exact rep
    · rw [List.getElem?_set_ne z] at e
      obtain ⟨w, k1, k2⟩ := W.sl k t e
      exact ⟨w, k1, k2.mono up fun x hx => ⟨⟨(fun y => z (Sum.inl.inj y).symm), hx⟩, rfl⟩⟩
  · have e : (sd.sl.set i (.ow (.fz (.lst ds))))[k]? = some (.pa l) := e
    by_cases z : i = k
    · subst z
      rw [List.getElem?_set_self li] at e
      cases e
    · rw [List.getElem?_set_ne z] at e
      exact W.sp k l e
  · obtain ⟨w, k1, k2⟩ := W.pr k t e
    exact ⟨w, k1, k2.mono up fun x hx => ⟨⟨(fun y => by cases y), hx⟩, rfl⟩⟩
  · have e2 := W.tf b xs e
    rw [upd_ne fun z => by rw [z, fa] at e2; cases e2]
    exact e2
  · have fa' : F' a = some (.lst vs) := f a _ upd_same
    have sub : Same F (fun b => if b = a then none else F' b) := fun b u e => by
      have nb : b ≠ a := fun z => by rw [z, fa] at e; cases e
      show (if b = a then none else F' b) = some u
      rw [if_neg nb]
      exact f b u (by rw [upd_ne nb]; exact e)
    refine ⟨fun x b => (x = .inl i ∧ b = a) ∨ (x ≠ .inl i ∧ o' x b), fun b u e => ?_, W'.gh, fun b hb => ?_, fun x b q => ?_, fun x y b q q' => ?_, W.len, fun k t e => ?_, W.sp, fun k t e => ?_, fun b xs e => ?_⟩
    · have e : (if b = a then none else F' b) = some u := e
      split at e
      · cases e
      · exact W'.fh b u e
    · have hb : (if b = a then none else F' b) ≠ none := hb
      split at hb
      · exact absurd rfl hb
      · exact W'.fg b hb
    · rcases q with ⟨rfl, rfl⟩ | ⟨n, q⟩
      · exact ⟨by rw [W'.fh _ _ fa']; simp, if_pos rfl, ga⟩
      · obtain ⟨k1, k2, k3⟩ := W'.oh x b q
        refine ⟨k1, ?_, k3⟩
        show (if b = a then none else F' b) = none
        split
        · rfl
        · exact k2
    · rcases q with ⟨rfl, rfl⟩ | ⟨n, q⟩ <;> rcases q' with ⟨h1, h2⟩ | ⟨n', q'⟩
      · exact h1.symm
      · have := (W'.oh y _ q').2.1
        rw [fa'] at this; cases this
      · have := (W'.oh x b q).2.1
        rw [h2, fa'] at this; cases this
      · exact W'.oo x y b q q'
    · by_cases z : i = k
      · subst z
        rw [hi] at e; cases e
        refine ⟨_, q2, ?_⟩
        unfold RepO
        exact ⟨a, vs, rfl, .inl ⟨rfl, rfl⟩, W'.fh _ _ fa', repOs_of _ (Reps.mono sub rr)⟩
      · obtain ⟨w, k1, k2⟩ := W.sl k t e
        obtain ⟨w', m1, m2⟩ := W'.sl k t (show (sd.sl.set i _)[k]? = _ by rw [List.getElem?_set_ne z]; exact e)
        rw [k1] at m1; cases m1
        exact ⟨w, k1, (RepO.mix W.fh W'.fh sub eh k2 m2).mono (Same.refl _) fun x hx => ⟨.inr ⟨fun y => z (Sum.inl.inj y).symm, hx⟩, rfl⟩⟩
    · obtain ⟨w, k1, k2⟩ := W.pr k t e
      obtain ⟨w', m1, m2⟩ := W'.pr k t e
      rw [k1] at m1; cases m1
      exact ⟨w, k1, (RepO.mix W.fh W'.fh sub eh k2 m2).mono (Same.refl _) fun x hx => ⟨.inr ⟨(fun y => by cases y), hx⟩, rfl⟩⟩
    · have e2 := W'.tf b xs e
      show (if b = a then none else F' b) = _
      rw [if_neg fun z => by rw [z, fa'] at e2; cases e2]
      exact e2
end
/-- e, with the list of the name i lent -/
noncomputable def mLendO (i : Nat) (m : SD → ER D) : SD → ER D := fun sd => match sd.sl[i]? with
  | some (.ow (.ol ts)) => match fzOf ts with
    | some ds => match m (lentO sd i ds) with
      | .ok d _ => if d.nl = true then .ok d sd else .bad
      | _ => .bad
    | none => .bad
  | _ => .bad
section
variable {X : Cx} {pv : List V} {W : WX} {p q k l : Bool} {e f : Expr} {es : List Expr} {pos : Pos}
theorem dx_lendO {i : Nat} {m : SD → ER D} (h : DX X pv W true true e m) : DX X pv W true true e (mLendO i m) := by
  obtain ⟨te, a1, a2⟩ := h
  refine ⟨te, a1, fun G F sd σ H Q s => ?_⟩
  unfold mLendO
  split
  · rename_i ts hi
    split
    · rename_i ds hd
      · have et := fzOf_eq hd
        subst et
        obtain ⟨a, vs, s1, fa, back⟩ := s.lendO hi
        have z := a2 G (upd F a (.lst vs)) (lentO sd i ds) σ H Q s1
        revert z
        cases em : m (lentO sd i ds) with
        | bad => exact fun _ => True.intro
        | rz x sd1 => exact fun _ => True.intro
        | ok d sd1 =>
          intro z
          show Meets X.K pv W G σ (RSx X.K true) true sd F H (if d.nl = true then .ok d sd else .bad) Q _
          split
          · rename_i hn
            intro hQ
            refine z fun v F' H' t1 t2 t3 t4 => ?_
            obtain ⟨u1, rfl⟩ := t4 rfl
            have fa' : F' a = some (.lst vs) := t1 a _ upd_same
            refine hQ v (fun b => if b = a then none else F' b) H' (fun b u eb => ?_) (back F' H' t1 t2 u1) ?_ fun _ => ⟨u1, rfl⟩
            · have nb : b ≠ a := fun z => by rw [z, fa] at eb; cases eb
              show (if b = a then none else F' b) = some u
              rw [if_neg nb]
              exact t1 b u (by rw [upd_ne nb]; exact eb)
            · show Rep X.K (fun b => if b = a then none else F' b) v d
              exact nl_rep fa' (fun b nb => if_neg nb) t3 hn
          · exact True.intro
    · exact True.intro
  · exact True.intro
end
end DL
namespace Lw
open PySem PySem.Spec L2 DL
/-- the classes of which instances are made -/
noncomputable def okC (cs : Nat → Addr) (C : Addr) : Bool := C == cs 0
/-- the classes are different ones -/
noncomputable def CsOk (cs : Nat → Addr) : Prop := True
noncomputable def m__law_bag_1 (cs : Nat → Addr) : SD → Fl := sRet (mLst (mCons (mCall dMax (mCons (mC (.int 0)) (mCons (mOp dSub (mVar 0) (mOp dPow (mC (.int 10)) (mC (.int 18)))) (mNil)))) (mCons (mVar 0) (mCons (mC (.int 0)) (mNil)))))
noncomputable def m__law_bag (cs : Nat → Addr) : List OT → ER OT := asDef 1 (
    (m__law_bag_1 cs))
noncomputable def m__law_pick_1 (cs : Nat → Addr) : SD → Fl := sSetAt 0 (mC (.int 2)) (mOwn (mOp dAdd (mAt (qSee 0) (mC (.int 2))) (mC (.int 1))))
noncomputable def m__law_pick_2 (cs : Nat → Addr) : SD → Fl := sSet 2 (mOwn (mOp dMod (mAt (qSee 0) (mC (.int 0))) (mVar 1)))
noncomputable def m__law_pick_3 (cs : Nat → Addr) : SD → Fl := sSetAt 0 (mC (.int 0)) (mOwn (mOp dDiv (mAt (qSee 0) (mC (.int 0))) (mVar 1)))
noncomputable def m__law_pick_4 (cs : Nat → Addr) : SD → Fl := sRet (mOwn (mVar 2))
noncomputable def m__law_pick_5 (cs : Nat → Addr) : SD → Fl := sIf (mTest (mOp dGt (mAt (qSee 0) (mC (.int 0))) (mC (.int 0)))) (sSeq ((m__law_pick_2 cs)) (sSeq ((m__law_pick_3 cs)) ((m__law_pick_4 cs)))) (sNil)
noncomputable def m__law_pick_6 (cs : Nat → Addr) : SD → Fl := sSet 3 (mOwn (mOp dMod (mOp dAdd (mOp dAdd (mOp dMul (mOp dMod (mAt (qSee 0) (mC (.int 1))) (mC (.int 2147483629))) (mC (.int 48271))) (mOp dMul (mAt (qSee 0) (mC (.int 2))) (mC (.int 69621)))) (mC (.int 12345))) (mC (.int 2147483647))))
noncomputable def m__law_pick_7 (cs : Nat → Addr) : SD → Fl := sSet 4 (mOwn (mOp dMod (mOp dAdd (mOp dMul (mVar 3) (mVar 3)) (mOp dMul (mAt (qSee 0) (mC (.int 2))) (mC (.int 40692)))) (mC (.int 2147483587))))
noncomputable def m__law_pick_8 (cs : Nat → Addr) : SD → Fl := sRet (mOwn (mOp dMod (mOp dDiv (mOp dAdd (mOp dMul (mVar 3) (mC (.int 2147483587))) (mVar 4)) (mC (.int 32))) (mVar 1)))
noncomputable def m__law_pick (cs : Nat → Addr) : List OT → ER OT := asDef 5 (
    sSeq ((m__law_pick_1 cs))
    (sSeq ((m__law_pick_5 cs))
    (sSeq ((m__law_pick_6 cs))
    (sSeq ((m__law_pick_7 cs))
    ((m__law_pick_8 cs))))))
noncomputable def m__law_names_1 (cs : Nat → Addr) : SD → Fl := sSet 2 (mLst (mNil))
noncomputable def m__law_names_2 (cs : Nat → Addr) : SD → Fl := sSet 3 (mOwn (mOp dAdd (mC (.int 2)) (mView (mCall1 (m__law_pick cs) (rSlot 0 (rFz (mC (.int 7)) (rNil)))))))
noncomputable def m__law_names_c1 (cs : Nat → Addr) : SD → ER OT := mComp (iRange1 (mCons (mVar 3) (mNil))) (tgN 5) (mYes) (mOp dIx (mC (.str "abcdefghijklmnopqrstuvwxyz")) (mView (mCall1 (m__law_pick cs) (rSlot 0 (rFz (mOp dIx (mView (mLst (mCons (mC (.int 3)) (mCons (mC (.int 26)) (mNil))))) (mView (mCall1 (m__law_pick cs) (rSlot 0 (rFz (mC (.int 2)) (rNil)))))) (rNil)))))) [5]
noncomputable def m__law_names_3 (cs : Nat → Addr) : SD → Fl := sSet 4 (mOwn (mBm D.isS dJoin (mC (.str "")) (mCons (mView ((m__law_names_c1 cs))) (mNil))))
noncomputable def m__law_names_4 (cs : Nat → Addr) : SD → Fl := sApp 2 (mOwn (mVar 4))
noncomputable def m__law_names_5 (cs : Nat → Addr) : SD → Fl := sIf (mTest (mOp (dIn true) (mVar 4) (mSee 2))) ((m__law_names_4 cs)) (sNil)
noncomputable def m__law_names_b1 (cs : Nat → Addr) : SD → Fl := sSeq ((m__law_names_2 cs)) (sSeq ((m__law_names_3 cs)) ((m__law_names_5 cs)))
noncomputable def m__law_names_6 (cs : Nat → Addr) : SD → Fl := sWhile (fun _ => 2 ^ 80) (mTest (mOp dLt (mCall dLen (mCons (mSee 2) (mNil))) (mVar 1))) ((m__law_names_b1 cs))
noncomputable def m__law_names_7 (cs : Nat → Addr) : SD → Fl := sRet (mTake 2)
noncomputable def m__law_names (cs : Nat → Addr) : List OT → ER OT := asDef 6 (
    sSeq ((m__law_names_1 cs))
    (sSeq ((m__law_names_6 cs))
    ((m__law_names_7 cs))))
noncomputable def m__law_number_1 (cs : Nat → Addr) : SD → Fl := sRet (mOwn (mCall dStr1 (mCons (mOp dAdd (mC (.int 2)) (mView (mCall1 (m__law_pick cs) (rSlot 0 (rFz (mOp dIx (mView (mLst (mCons (mC (.int 2)) (mCons (mC (.int 3)) (mCons (mC (.int 9)) (mCons (mC (.int 60)) (mCons (mOp dSub (mOp dPow (mC (.int 10)) (mC (.int 30))) (mC (.int 1))) (mNil)))))))) (mView (mCall1 (m__law_pick cs) (rSlot 0 (rFz (mOp dAdd (mC (.int 2)) (mOp dMul (mC (.int 3)) (mVar 1))) (rNil)))))) (rNil)))))) (mNil))))
noncomputable def m__law_number (cs : Nat → Addr) : List OT → ER OT := asDef 2 (
    (m__law_number_1 cs))
noncomputable def m__law_words_1 (cs : Nat → Addr) (rec : List OT → ER OT) : SD → Fl := sSet 5 (mLst (mNil))
noncomputable def m__law_words_2 (cs : Nat → Addr) (rec : List OT → ER OT) : SD → Fl := sSet 6 (mOwn (mOp dAdd (mC (.int 1)) (mView (mCall1 (m__law_pick cs) (rSlot 0 (rFz (mVar 1) (rNil)))))))
noncomputable def m__law_words_3 (cs : Nat → Addr) (rec : List OT → ER OT) : SD → Fl := sSet 7 (mFz (mCall1 (m__law_pick cs) (rSlot 0 (rFz (mC (.int 5)) (rNil)))))
noncomputable def m__law_words_4 (cs : Nat → Addr) (rec : List OT → ER OT) : SD → Fl := sSet 8 (mOwn (mOp dSub (mVar 6) (mCall dLen (mCons (mSee 5) (mNil)))))
noncomputable def m__law_words_5 (cs : Nat → Addr) (rec : List OT → ER OT) : SD → Fl := sSet 9 (mFz (mCall1 (rec) (rSlot 0 (rFz (mOp dSub (mVar 8) (mC (.int 2))) (rFz (mOp dSub (mVar 2) (mC (.int 1))) (rFz (mVar 3) (rFz (mVar 4) (rNil))))))))
noncomputable def m__law_words_6 (cs : Nat → Addr) (rec : List OT → ER OT) : SD → Fl := sSet 5 (mCat (qFz (mView (mCat (qNew (mCat (qSee 5) (qNew (mLst (mCons (mC (.str "(")) (mNil)))))) (qFz (mVar 9))))) (qNew (mLst (mCons (mOp dAdd (mC (.str ")")) (mView (mCall1 (m__law_number cs) (rSlot 0 (rFz (mVar 4) (rNil)))))) (mNil)))))
noncomputable def m__law_words_7 (cs : Nat → Addr) (rec : List OT → ER OT) : SD → Fl := sApp 5 (mOwn (mOp dAdd (mOp dIx (mVar 3) (mView (mCall1 (m__law_pick cs) (rSlot 0 (rFz (mCall dLen (mCons (mVar 3) (mNil))) (rNil)))))) (mOp dIx (mView (mLst (mCons (mC (.str "")) (mCons (mView (mCall1 (m__law_number cs) (rSlot 0 (rFz (mVar 4) (rNil))))) (mNil))))) (mCall dInt2 (mCons (mOp dEq (mVar 7) (mC (.int 1))) (mNil))))))
noncomputable def m__law_words_8 (cs : Nat → Addr) (rec : List OT → ER OT) : SD → Fl := sIf (mAnd (mTest (mOp dEq (mVar 7) (mC (.int 0)))) (mAnd (mTest (mOp dGt (mVar 2) (mC (.int 0)))) (mTest (mOp dGt (mVar 8) (mC (.int 2)))))) (sSeq ((m__law_words_5 cs rec)) ((m__law_words_6 cs rec))) ((m__law_words_7 cs rec))
noncomputable def m__law_words_b1 (cs : Nat → Addr) (rec : List OT → ER OT) : SD → Fl := sSeq ((m__law_words_3 cs rec)) (sSeq ((m__law_words_4 cs rec)) ((m__law_words_8 cs rec)))
noncomputable def m__law_words_9 (cs : Nat → Addr) (rec : List OT → ER OT) : SD → Fl := sWhile (fun _ => 100000) (mTest (mOp dLt (mCall dLen (mCons (mSee 5) (mNil))) (mVar 6))) ((m__law_words_b1 cs rec))
noncomputable def m__law_words_10 (cs : Nat → Addr) (rec : List OT → ER OT) : SD → Fl := sRet (mTake 5)
noncomputable def m__law_words_r (cs : Nat → Addr) (rec : List OT → ER OT) : List OT → ER OT := asDef 10 (
    sSeq ((m__law_words_1 cs rec))
    (sSeq ((m__law_words_2 cs rec))
    (sSeq ((m__law_words_9 cs rec))
    ((m__law_words_10 cs rec)))))
noncomputable def m__law_words (cs : Nat → Addr) : Nat → List OT → ER OT
  | 0 => fun _ => .bad
  | n + 1 => m__law_words_r cs (m__law_words cs n)
noncomputable def m__law_source_1 (cs : Nat → Addr) : SD → Fl := sSet 3 (mFz (mCall1 (m__law_pick cs) (rSlot 0 (rFz (mOp dAdd (mC (.int 1)) (mVar 1)) (rNil)))))
noncomputable def m__law_source_2 (cs : Nat → Addr) : SD → Fl := sPar 4 5 (mFz (mCall1 (m__law_names cs) (rSlot 0 (rFz (mVar 3) (rNil))))) (mLst (mNil))
noncomputable def m__law_source_3 (cs : Nat → Addr) : SD → Fl := sSet 7 (mCall1 (m__law_words cs 16) (rSlot 0 (rFz (mOp dIx (mView (mLst (mCons (mC (.int 3)) (mCons (mC (.int 9)) (mNil))))) (mView (mCall1 (m__law_pick cs) (rSlot 0 (rFz (mC (.int 2)) (rNil)))))) (rFz (mC (.int 2)) (rFz (mC (.str "fblrud")) (rFz (mVar 2) (rNil)))))))
noncomputable def m__law_source_4 (cs : Nat → Addr) : SD → Fl := sSet 9 (mFz (mCall1 (m__law_pick cs) (rSlot 0 (rFz (mCall dLen (mCons (mSee 7) (mNil))) (rNil)))))
noncomputable def m__law_source_5 (cs : Nat → Addr) : SD → Fl := sSetAt 7 (mVar 9) (mOwn (mOp dIx (mVar 4) (mView (mCall1 (m__law_pick cs) (rSlot 0 (rFz (mVar 6) (rNil)))))))
noncomputable def m__law_source_6 (cs : Nat → Addr) : SD → Fl := sIf (mAnd (mTest (mOp dNe (mAt (qSee 7) (mVar 9)) (mC (.str "(")))) (mTest (mOp dNe (mOp dIx (mAt (qSee 7) (mVar 9)) (mC (.int 0))) (mC (.str ")"))))) ((m__law_source_5 cs)) (sNil)
noncomputable def m__law_source_b1 (cs : Nat → Addr) : SD → Fl := sSeq ((m__law_source_4 cs)) ((m__law_source_6 cs))
noncomputable def m__law_source_7 (cs : Nat → Addr) : SD → Fl := sFor (iRange1 (mCons (mOp dMul (mView (mCall1 (m__law_pick cs) (rSlot 0 (rFz (mC (.int 4)) (rNil))))) (mCall dInt2 (mCons (mOp dGt (mVar 6) (mC (.int 0))) (mNil)))) (mNil))) (tgN 8) ((m__law_source_b1 cs))
noncomputable def m__law_source_8 (cs : Nat → Addr) : SD → Fl := sApp 5 (mOwn (mFrz 7))
noncomputable def m__law_source_b2 (cs : Nat → Addr) : SD → Fl := sSeq ((m__law_source_3 cs)) (sSeq ((m__law_source_7 cs)) ((m__law_source_8 cs)))
noncomputable def m__law_source_9 (cs : Nat → Addr) : SD → Fl := sFor (iRange1 (mCons (mOp dAdd (mVar 3) (mC (.int 1))) (mNil))) (tgN 6) ((m__law_source_b2 cs))
noncomputable def m__law_source_10 (cs : Nat → Addr) : SD → Fl := sSetAt 5 (mUn dNeg (mC (.int 1))) (mLst (mNil))
noncomputable def m__law_source_11 (cs : Nat → Addr) : SD → Fl := sIf (mTest (mOp dEq (mView (mCall1 (m__law_pick cs) (rSlot 0 (rFz (mC (.int 9)) (rNil))))) (mC (.int 0)))) ((m__law_source_10 cs)) (sNil)
noncomputable def m__law_source_12 (cs : Nat → Addr) : SD → Fl := sRet (mOwn (mTup (mCons (mVar 4) (mCons (mFrz 5) (mNil)))))
noncomputable def m__law_source (cs : Nat → Addr) : List OT → ER OT := asDef 10 (
    sSeq ((m__law_source_1 cs))
    (sSeq ((m__law_source_2 cs))
    (sSeq ((m__law_source_9 cs))
    (sSeq ((m__law_source_11 cs))
    ((m__law_source_12 cs))))))
noncomputable def m_Program___eq___1 (cs : Nat → Addr) : SD → Fl := sRet (mOwn (mAndV (mCall (dIsO (okC cs) (cs 0)) (mCons (mVar 1) (mCons (mC (.cls (cs 0))) (mNil)))) (mOp dEq (mFld (fun C => C == cs 0) "own_text" (mVar 0)) (mFld (fun C => C == cs 0) "own_text" (mVar 1)))))
noncomputable def m_Program___eq__ (cs : Nat → Addr) : List OT → ER OT := asDef 2 (
    (m_Program___eq___1 cs))
noncomputable def m__law_text_c1 (cs : Nat → Addr) : SD → ER OT := mComp (iEnumL (mCons (mVar 0) (mNil))) (tgT 2 (tgCons (tgN 3) (tgCons (tgN 4) (tgNil)))) (mYes) (mOp dAdd (mOp dAdd (mVar 4) (mC (.str ": "))) (mBm D.isS dJoin (mC (.str " ")) (mCons (mOp dIx (mVar 1) (mVar 3)) (mNil)))) [3, 4]
noncomputable def m__law_text_1 (cs : Nat → Addr) : SD → Fl := sSet 2 (mFz ((m__law_text_c1 cs)))
noncomputable def m__law_text_2 (cs : Nat → Addr) : SD → Fl := sRet (mOwn (mBm D.isS dJoin (mC (.str "\n")) (mCons (mView (mCat (qFz (mVar 2)) (qNew (mLst (mCons (mBm D.isS dJoin (mC (.str " ")) (mCons (mOp dIx (mVar 1) (mUn dNeg (mC (.int 1)))) (mNil))) (mNil)))))) (mNil))))
noncomputable def m__law_text (cs : Nat → Addr) : List OT → ER OT := asDef 5 (
    sSeq ((m__law_text_1 cs))
    ((m__law_text_2 cs)))
noncomputable def m__law_written_1 (cs : Nat → Addr) : SD → Fl := sSet 3 (mLst (mNil))
noncomputable def m__law_written_2 (cs : Nat → Addr) : SD → Fl := sSet 5 (mFz (mLst (mNil)))
noncomputable def m__law_written_3 (cs : Nat → Addr) : SD → Fl := sSet 7 (mFz (mLst (mCons (mVar 6) (mNil))))
noncomputable def m__law_written_4 (cs : Nat → Addr) : SD → Fl := sSet 7 (mOwn (mAt (qSee 3) (mBm D.isL dIndexD (mVar 0) (mCons (mVar 6) (mNil)))))
noncomputable def m__law_written_5 (cs : Nat → Addr) : SD → Fl := sIf (mTest (mOp (dIn false) (mVar 6) (mVar 0))) ((m__law_written_4 cs)) (sNil)
noncomputable def m__law_written_6 (cs : Nat → Addr) : SD → Fl := sSet 5 (mOwn (mIf (mOr (mTest (mOp dIsN (mVar 5) (mC .non))) (mOr (mTest (mOp dIsN (mVar 7) (mC .non))) (mTest (mOp dGt (mOp dAdd (mCall dLen (mCons (mVar 5) (mNil))) (mCall dLen (mCons (mVar 7) (mNil)))) (mVar 2))))) (mC .non) (mView (mCat (qFz (mVar 5)) (qFz (mVar 7))))))
noncomputable def m__law_written_b1 (cs : Nat → Addr) : SD → Fl := sSeq ((m__law_written_3 cs)) (sSeq ((m__law_written_5 cs)) ((m__law_written_6 cs)))
noncomputable def m__law_written_7 (cs : Nat → Addr) : SD → Fl := sFor (iLst (mVar 4)) (tgN 6) ((m__law_written_b1 cs))
noncomputable def m__law_written_8 (cs : Nat → Addr) : SD → Fl := sApp 3 (mOwn (mVar 5))
noncomputable def m__law_written_b2 (cs : Nat → Addr) : SD → Fl := sSeq ((m__law_written_2 cs)) (sSeq ((m__law_written_7 cs)) ((m__law_written_8 cs)))
noncomputable def m__law_written_9 (cs : Nat → Addr) : SD → Fl := sFor (iLst (mVar 1)) (tgN 4) ((m__law_written_b2 cs))
noncomputable def m__law_written_10 (cs : Nat → Addr) : SD → Fl := sRet (mTake 3)
noncomputable def m__law_written (cs : Nat → Addr) : List OT → ER OT := asDef 8 (
    sSeq ((m__law_written_1 cs))
    (sSeq ((m__law_written_9 cs))
    ((m__law_written_10 cs))))
noncomputable def m_words_of_1 (cs : Nat → Addr) : SD → Fl := sRet (mOwn (mIf (mTest (mOp dNe (mVar 0) (mC (.str "")))) (mView (mBmL D.isS dSplit (mVar 0) (mCons (mC (.str " ")) (mNil)))) (mView (mLst (mNil)))))
noncomputable def m_words_of (cs : Nat → Addr) : List OT → ER OT := asDef 1 (
    (m_words_of_1 cs))
noncomputable def m_is_number_1 (cs : Nat → Addr) : SD → Fl := sRet (mOwn (mC (.bl false)))
noncomputable def m_is_number_2 (cs : Nat → Addr) : SD → Fl := sIf (mOr (mNot (mTest (mChain dLe dLe (mC (.int 1)) (mCall dLen (mCons (mVar 0) (mNil))) (mC (.int 31))))) (mTest (mOp dEq (mOp dIx (mVar 0) (mC (.int 0))) (mC (.str "0"))))) ((m_is_number_1 cs)) (sNil)
noncomputable def m_is_number_c1 (cs : Nat → Addr) : SD → ER OT := mComp (iStrD (mVar 0)) (tgN 1) (mYes) (mOp (dIn false) (mVar 1) (mC (.str "0123456789"))) [1]
noncomputable def m_is_number_3 (cs : Nat → Addr) : SD → Fl := sRet (mOwn (mAndV (mCall dAll (mCons (mView ((m_is_number_c1 cs))) (mNil))) (mChain dLe dLe (mC (.int 2)) (mCall dInt2 (mCons (mVar 0) (mNil))) (mC (.int 1000000000000000000000000000000)))))
noncomputable def m_is_number (cs : Nat → Addr) : List OT → ER OT := asDef 2 (
    sSeq ((m_is_number_2 cs))
    ((m_is_number_3 cs)))
noncomputable def m_is_step_word_1 (cs : Nat → Addr) : SD → Fl := sRet (mOwn (mAndV (mOp dNe (mCutX (mVar 0) (oNone) (oSome (mC (.int 1)))) (mC (.str ""))) (mAndV (mOp (dIn false) (mCutX (mVar 0) (oNone) (oSome (mC (.int 1)))) (mC (.str "fblrud"))) (mOrV (mOp dEq (mCall dLen (mCons (mVar 0) (mNil))) (mC (.int 1))) (mView (mCall0 (m_is_number cs) (mCons (mCutX (mVar 0) (oSome (mC (.int 1))) (oNone)) (mNil))))))))
noncomputable def m_is_step_word (cs : Nat → Addr) : List OT → ER OT := asDef 1 (
    (m_is_step_word_1 cs))
noncomputable def m_first_wrong_1 (cs : Nat → Addr) : SD → Fl := sSet 2 (mOwn (mC (.int 0)))
noncomputable def m_first_wrong_2 (cs : Nat → Addr) : SD → Fl := sSet 3 (mOwn (mC (.bl false)))
noncomputable def m_first_wrong_3 (cs : Nat → Addr) : SD → Fl := sSet 2 (mOwn (mOp dAdd (mVar 2) (mC (.int 1))))
noncomputable def m_first_wrong_4 (cs : Nat → Addr) : SD → Fl := sSet 3 (mOwn (mC (.bl true)))
noncomputable def m_first_wrong_5 (cs : Nat → Addr) : SD → Fl := sRet (mOwn (mVar 4))
noncomputable def m_first_wrong_6 (cs : Nat → Addr) : SD → Fl := sIf (mTest (mOp dGt (mVar 2) (mC (.int 12)))) ((m_first_wrong_5 cs)) (sNil)
noncomputable def m_first_wrong_7 (cs : Nat → Addr) : SD → Fl := sRet (mOwn (mVar 4))
noncomputable def m_first_wrong_8 (cs : Nat → Addr) : SD → Fl := sIf (mOr (mTest (mOp dEq (mVar 2) (mC (.int 0)))) (mOr (mTest (mVar 3)) (mNot (mTest (mView (mCall0 (m_is_number cs) (mCons (mCutX (mVar 5) (oSome (mC (.int 1))) (oNone)) (mNil)))))))) ((m_first_wrong_7 cs)) (sNil)
noncomputable def m_first_wrong_9 (cs : Nat → Addr) : SD → Fl := sSet 2 (mOwn (mOp dSub (mVar 2) (mC (.int 1))))
noncomputable def m_first_wrong_10 (cs : Nat → Addr) : SD → Fl := sSet 3 (mOwn (mC (.bl false)))
noncomputable def m_first_wrong_11 (cs : Nat → Addr) : SD → Fl := sRet (mOwn (mVar 4))
noncomputable def m_first_wrong_12 (cs : Nat → Addr) : SD → Fl := sIf (mOr (mTest (mView (mCall0 (m_is_step_word cs) (mCons (mVar 5) (mNil))))) (mTest (mOp (dIn false) (mVar 5) (mVar 1)))) ((m_first_wrong_10 cs)) ((m_first_wrong_11 cs))
noncomputable def m_first_wrong_13 (cs : Nat → Addr) : SD → Fl := sIf (mTest (mOp dEq (mCutX (mVar 5) (oNone) (oSome (mC (.int 1)))) (mC (.str ")")))) (sSeq ((m_first_wrong_8 cs)) ((m_first_wrong_9 cs))) ((m_first_wrong_12 cs))
noncomputable def m_first_wrong_14 (cs : Nat → Addr) : SD → Fl := sIf (mTest (mOp dEq (mVar 5) (mC (.str "(")))) (sSeq ((m_first_wrong_3 cs)) (sSeq ((m_first_wrong_4 cs)) ((m_first_wrong_6 cs)))) ((m_first_wrong_13 cs))
noncomputable def m_first_wrong_15 (cs : Nat → Addr) : SD → Fl := sRet (mOwn (mVar 4))
noncomputable def m_first_wrong_16 (cs : Nat → Addr) : SD → Fl := sIf (mTest (mOp dGt (mOp dAdd (mOp dAdd (mOp dAdd (mVar 4) (mC (.int 1))) (mVar 2)) (mCall dInt2 (mCons (mVar 3) (mNil)))) (mC (.int 1000)))) ((m_first_wrong_15 cs)) (sNil)
noncomputable def m_first_wrong_b1 (cs : Nat → Addr) : SD → Fl := sSeq ((m_first_wrong_14 cs)) ((m_first_wrong_16 cs))
noncomputable def m_first_wrong_17 (cs : Nat → Addr) : SD → Fl := sFor (iEnumL (mCons (mVar 0) (mNil))) (tgT 2 (tgCons (tgN 4) (tgCons (tgN 5) (tgNil)))) ((m_first_wrong_b1 cs))
noncomputable def m_first_wrong_18 (cs : Nat → Addr) : SD → Fl := sRet (mOwn (mIf (mTest (mOp dEq (mVar 2) (mC (.int 0)))) (mC .non) (mCall dLen (mCons (mVar 0) (mNil)))))
noncomputable def m_first_wrong (cs : Nat → Addr) : List OT → ER OT := asDef 6 (
    sSeq ((m_first_wrong_1 cs))
    (sSeq ((m_first_wrong_2 cs))
    (sSeq ((m_first_wrong_17 cs))
    ((m_first_wrong_18 cs)))))
noncomputable def m_is_title_1 (cs : Nat → Addr) : SD → Fl := sSet 2 (mOwn (mCutX (mVar 0) (oNone) (oSome (mUn dNeg (mC (.int 1))))))
noncomputable def m_is_title_2 (cs : Nat → Addr) : SD → Fl := sRet (mOwn (mC (.bl false)))
noncomputable def m_is_title_3 (cs : Nat → Addr) : SD → Fl := sIf (mOr (mTest (mOp dNe (mCutX (mVar 0) (oSome (mUn dNeg (mC (.int 1)))) (oNone)) (mC (.str ":")))) (mOr (mNot (mTest (mChain dLe dLe (mC (.int 2)) (mCall dLen (mCons (mVar 2) (mNil))) (mC (.int 8))))) (mTest (mOp (dIn false) (mVar 2) (mVar 1))))) ((m_is_title_2 cs)) (sNil)
noncomputable def m_is_title_c1 (cs : Nat → Addr) : SD → ER OT := mComp (iStrD (mVar 2)) (tgN 3) (mYes) (mOp (dIn false) (mVar 3) (mC (.str "abcdefghijklmnopqrstuvwxyz"))) [3]
noncomputable def m_is_title_4 (cs : Nat → Addr) : SD → Fl := sRet (mOwn (mCall dAll (mCons (mView ((m_is_title_c1 cs))) (mNil))))
noncomputable def m_is_title (cs : Nat → Addr) : List OT → ER OT := asDef 4 (
    sSeq ((m_is_title_1 cs))
    (sSeq ((m_is_title_3 cs))
    ((m_is_title_4 cs))))
noncomputable def m_wrong_word_1 (cs : Nat → Addr) : SD → Fl := sRet (mCall0 (m_first_wrong cs) (mCons (mVar 0) (mCons (mVar 1) (mNil))))
noncomputable def m_wrong_word_2 (cs : Nat → Addr) : SD → Fl := sIf (mTest (mVar 2)) ((m_wrong_word_1 cs)) (sNil)
noncomputable def m_wrong_word_3 (cs : Nat → Addr) : SD → Fl := sRet (mOwn (mC (.int 0)))
noncomputable def m_wrong_word_4 (cs : Nat → Addr) : SD → Fl := sIf (mOr (mTest (mOp dEq (mVar 0) (mView (mLst (mNil))))) (mNot (mTest (mView (mCall0 (m_is_title cs) (mCons (mOp dIx (mVar 0) (mC (.int 0))) (mCons (mVar 1) (mNil)))))))) ((m_wrong_word_3 cs)) (sNil)
noncomputable def m_wrong_word_5 (cs : Nat → Addr) : SD → Fl := sRet (mOwn (mC (.int 1)))
noncomputable def m_wrong_word_6 (cs : Nat → Addr) : SD → Fl := sIf (mTest (mOp dEq (mCall dLen (mCons (mVar 0) (mNil))) (mC (.int 1)))) ((m_wrong_word_5 cs)) (sNil)
noncomputable def m_wrong_word_7 (cs : Nat → Addr) : SD → Fl := sSet 3 (mFz (mCall0 (m_first_wrong cs) (mCons (mCutX (mVar 0) (oSome (mC (.int 1))) (oNone)) (mCons (mVar 1) (mNil)))))
noncomputable def m_wrong_word_8 (cs : Nat → Addr) : SD → Fl := sRet (mOwn (mIf (mTest (mOp dIsN (mVar 3) (mC .non))) (mC .non) (mOp dAdd (mVar 3) (mC (.int 1)))))
noncomputable def m_wrong_word (cs : Nat → Addr) : List OT → ER OT := asDef 4 (
    sSeq ((m_wrong_word_2 cs))
    (sSeq ((m_wrong_word_4 cs))
    (sSeq ((m_wrong_word_6 cs))
    (sSeq ((m_wrong_word_7 cs))
    ((m_wrong_word_8 cs))))))
noncomputable def m_lines_in_1 (cs : Nat → Addr) : SD → Fl := sNever
noncomputable def m_lines_in_2 (cs : Nat → Addr) : SD → Fl := sIf (mNot (mTest (mCall dIsi (mCons (mVar 0) (mCons (mC (.ty "str")) (mNil)))))) ((m_lines_in_1 cs)) (sNil)
noncomputable def m_lines_in_3 (cs : Nat → Addr) : SD → Fl := sSet 1 (mFz (mBmL D.isS dSplit (mVar 0) (mCons (mC (.str "\n")) (mNil))))
noncomputable def m_lines_in_4 (cs : Nat → Addr) : SD → Fl := sSet 2 (mLst (mNil))
noncomputable def m_lines_in_5 (cs : Nat → Addr) : SD → Fl := sSet 3 (mLst (mNil))
noncomputable def m_lines_in_6 (cs : Nat → Addr) : SD → Fl := sNever
noncomputable def m_lines_in_7 (cs : Nat → Addr) : SD → Fl := sIf (mTest (mOp dEq (mVar 4) (mC (.int 20)))) ((m_lines_in_6 cs)) (sNil)
noncomputable def m_lines_in_8 (cs : Nat → Addr) : SD → Fl := sSet 6 (mFz (mCall0 (m_words_of cs) (mCons (mVar 5) (mNil))))
noncomputable def m_lines_in_9 (cs : Nat → Addr) : SD → Fl := sSet 7 (mOwn (mOp dEq (mVar 4) (mOp dSub (mCall dLen (mCons (mVar 1) (mNil))) (mC (.int 1)))))
noncomputable def m_lines_in_10 (cs : Nat → Addr) : SD → Fl := sSet 8 (mFz (mOwn (mLendO 2 (mView (mCall0 (m_wrong_word cs) (mCons (mVar 6) (mCons (mVar 2) (mCons (mVar 7) (mNil)))))))))
noncomputable def m_lines_in_11 (cs : Nat → Addr) : SD → Fl := sNever
noncomputable def m_lines_in_12 (cs : Nat → Addr) : SD → Fl := sIf (mTest (mOp dNotN (mVar 8) (mC .non))) ((m_lines_in_11 cs)) (sNil)
noncomputable def m_lines_in_13 (cs : Nat → Addr) : SD → Fl := sApp 2 (mOwn (mCutX (mOp dIx (mVar 6) (mC (.int 0))) (oNone) (oSome (mUn dNeg (mC (.int 1))))))
noncomputable def m_lines_in_14 (cs : Nat → Addr) : SD → Fl := sSet 6 (mFz (mCut (qFz (mVar 6)) (oSome (mC (.int 1))) (oNone)))
noncomputable def m_lines_in_15 (cs : Nat → Addr) : SD → Fl := sIf (mNot (mTest (mVar 7))) (sSeq ((m_lines_in_13 cs)) ((m_lines_in_14 cs))) (sNil)
noncomputable def m_lines_in_16 (cs : Nat → Addr) : SD → Fl := sApp 3 (mOwn (mVar 6))
noncomputable def m_lines_in_b1 (cs : Nat → Addr) : SD → Fl := sSeq ((m_lines_in_7 cs)) (sSeq ((m_lines_in_8 cs)) (sSeq ((m_lines_in_9 cs)) (sSeq ((m_lines_in_10 cs)) (sSeq ((m_lines_in_12 cs)) (sSeq ((m_lines_in_15 cs)) ((m_lines_in_16 cs)))))))
noncomputable def m_lines_in_17 (cs : Nat → Addr) : SD → Fl := sFor (iEnumL (mCons (mVar 1) (mNil))) (tgT 2 (tgCons (tgN 4) (tgCons (tgN 5) (tgNil)))) ((m_lines_in_b1 cs))
noncomputable def m_lines_in_18 (cs : Nat → Addr) : SD → Fl := sRet (mPairO 2 3)
noncomputable def m_lines_in (cs : Nat → Addr) : List OT → ER OT := asDef 9 (
    sSeq ((m_lines_in_2 cs))
    (sSeq ((m_lines_in_3 cs))
    (sSeq ((m_lines_in_4 cs))
    (sSeq ((m_lines_in_5 cs))
    (sSeq ((m_lines_in_17 cs))
    ((m_lines_in_18 cs)))))))
noncomputable def m_names_of_1 (cs : Nat → Addr) : SD → Fl := sRet (mPart 0 (mCall0 (m_lines_in cs) (mCons (mVar 0) (mNil))))
noncomputable def m_names_of (cs : Nat → Addr) : List OT → ER OT := asDef 1 (
    (m_names_of_1 cs))
noncomputable def m_Program_text_1 (cs : Nat → Addr) : SD → Fl := sRet (mOwn (mFld (fun C => C == cs 0) "own_text" (mVar 0)))
noncomputable def m_Program_text (cs : Nat → Addr) : List OT → ER OT := asDef 1 (
    (m_Program_text_1 cs))
noncomputable def m_sizes_in_1 (cs : Nat → Addr) : SD → Fl := sSet 2 (mLst (mNil))
noncomputable def m_sizes_in_2 (cs : Nat → Addr) : SD → Fl := sSet 3 (mLst (mNil))
noncomputable def m_sizes_in_c1 (cs : Nat → Addr) : SD → ER OT := mDcS (iEnumL (mCons (mVar 0) (mNil))) (tgT 2 (tgCons (tgN 5) (tgCons (tgN 6) (tgNil)))) (mVar 6) (mVar 5) [5, 6]
noncomputable def m_sizes_in_3 (cs : Nat → Addr) : SD → Fl := sSet 4 (mFz ((m_sizes_in_c1 cs)))
noncomputable def m_sizes_in_4 (cs : Nat → Addr) : SD → Fl := sSet 8 (mOwn (mC (.int 0)))
noncomputable def m_sizes_in_5 (cs : Nat → Addr) : SD → Fl := sSet 9 (mOwn (mC (.int 0)))
noncomputable def m_sizes_in_6 (cs : Nat → Addr) : SD → Fl := sSet 10 (mOwn (mC (.int 0)))
noncomputable def m_sizes_in_7 (cs : Nat → Addr) : SD → Fl := sAug 8 dAdd (mAt (qSee 2) (mSItem (mVar 4) (mVar 11)))
noncomputable def m_sizes_in_8 (cs : Nat → Addr) : SD → Fl := sSet 10 (mOwn (mCall dMax (mCons (mVar 10) (mCons (mOp dAdd (mVar 9) (mAt (qSee 3) (mSItem (mVar 4) (mVar 11)))) (mNil)))))
noncomputable def m_sizes_in_9 (cs : Nat → Addr) : SD → Fl := sAug 8 dAdd (mC (.int 1))
noncomputable def m_sizes_in_10 (cs : Nat → Addr) : SD → Fl := sAug 9 dAdd (mOp dSub (mCall dInt2 (mCons (mOp dEq (mVar 11) (mC (.str "("))) (mNil))) (mCall dInt2 (mCons (mOp dEq (mOp dIx (mVar 11) (mC (.int 0))) (mC (.str ")"))) (mNil))))
noncomputable def m_sizes_in_11 (cs : Nat → Addr) : SD → Fl := sSet 10 (mOwn (mCall dMax (mCons (mVar 10) (mCons (mVar 9) (mNil)))))
noncomputable def m_sizes_in_12 (cs : Nat → Addr) : SD → Fl := sIf (mInSB (mVar 11) (mVar 4)) (sSeq ((m_sizes_in_7 cs)) ((m_sizes_in_8 cs))) (sSeq ((m_sizes_in_9 cs)) (sSeq ((m_sizes_in_10 cs)) ((m_sizes_in_11 cs))))
noncomputable def m_sizes_in_b1 (cs : Nat → Addr) : SD → Fl := (m_sizes_in_12 cs)
noncomputable def m_sizes_in_13 (cs : Nat → Addr) : SD → Fl := sFor (iLst (mVar 7)) (tgN 11) ((m_sizes_in_b1 cs))
noncomputable def m_sizes_in_14 (cs : Nat → Addr) : SD → Fl := sApp 2 (mOwn (mVar 8))
noncomputable def m_sizes_in_15 (cs : Nat → Addr) : SD → Fl := sApp 3 (mOwn (mVar 10))
noncomputable def m_sizes_in_b2 (cs : Nat → Addr) : SD → Fl := sSeq ((m_sizes_in_4 cs)) (sSeq ((m_sizes_in_5 cs)) (sSeq ((m_sizes_in_6 cs)) (sSeq ((m_sizes_in_13 cs)) (sSeq ((m_sizes_in_14 cs)) ((m_sizes_in_15 cs))))))
noncomputable def m_sizes_in_16 (cs : Nat → Addr) : SD → Fl := sFor (iLst (mVar 1)) (tgN 7) ((m_sizes_in_b2 cs))
noncomputable def m_sizes_in_17 (cs : Nat → Addr) : SD → Fl := sRet (mOwn (mTup (mCons (mFrz 2) (mCons (mFrz 3) (mNil)))))
noncomputable def m_sizes_in (cs : Nat → Addr) : List OT → ER OT := asDef 12 (
    sSeq ((m_sizes_in_1 cs))
    (sSeq ((m_sizes_in_2 cs))
    (sSeq ((m_sizes_in_3 cs))
    (sSeq ((m_sizes_in_16 cs))
    ((m_sizes_in_17 cs))))))
noncomputable def m_nodes_from_1 (cs : Nat → Addr) (rec : List OT → ER OT) : SD → Fl := sSet 2 (mLst (mNil))
noncomputable def m_nodes_from_2 (cs : Nat → Addr) (rec : List OT → ER OT) : SD → Fl := sSet 3 (mOwn (mOp dIx (mVar 0) (mVar 1)))
noncomputable def m_nodes_from_3 (cs : Nat → Addr) (rec : List OT → ER OT) : SD → Fl := sAsg (mView (mCall0 (rec) (mCons (mVar 0) (mCons (mOp dAdd (mVar 1) (mC (.int 1))) (mNil))))) (tgT 2 (tgCons (tgN 4) (tgCons (tgN 1) (tgNil))))
noncomputable def m_nodes_from_4 (cs : Nat → Addr) (rec : List OT → ER OT) : SD → Fl := sApp 2 (mOwn (mTup (mCons (mVar 4) (mCons (mCall dInt2 (mCons (mCutX (mOp dIx (mVar 0) (mVar 1)) (oSome (mC (.int 1))) (oNone)) (mNil))) (mNil)))))
noncomputable def m_nodes_from_5 (cs : Nat → Addr) (rec : List OT → ER OT) : SD → Fl := sApp 2 (mOwn (mTup (mCons (mOp dIx (mVar 3) (mC (.int 0))) (mCons (mIf (mTest (mOp dGt (mCall dLen (mCons (mVar 3) (mNil))) (mC (.int 1)))) (mCall dInt2 (mCons (mCutX (mVar 3) (oSome (mC (.int 1))) (oNone)) (mNil))) (mC (.int 1))) (mNil)))))
noncomputable def m_nodes_from_6 (cs : Nat → Addr) (rec : List OT → ER OT) : SD → Fl := sIf (mTest (mOp dEq (mVar 3) (mC (.str "(")))) (sSeq ((m_nodes_from_3 cs rec)) ((m_nodes_from_4 cs rec))) ((m_nodes_from_5 cs rec))
noncomputable def m_nodes_from_7 (cs : Nat → Addr) (rec : List OT → ER OT) : SD → Fl := sSet 1 (mOwn (mOp dAdd (mVar 1) (mC (.int 1))))
noncomputable def m_nodes_from_b1 (cs : Nat → Addr) (rec : List OT → ER OT) : SD → Fl := sSeq ((m_nodes_from_2 cs rec)) (sSeq ((m_nodes_from_6 cs rec)) ((m_nodes_from_7 cs rec)))
noncomputable def m_nodes_from_8 (cs : Nat → Addr) (rec : List OT → ER OT) : SD → Fl := sWhile (fun _ => 100000) (mAnd (mTest (mOp dLt (mVar 1) (mCall dLen (mCons (mVar 0) (mNil))))) (mTest (mOp dNe (mOp dIx (mOp dIx (mVar 0) (mVar 1)) (mC (.int 0))) (mC (.str ")"))))) ((m_nodes_from_b1 cs rec))
noncomputable def m_nodes_from_9 (cs : Nat → Addr) (rec : List OT → ER OT) : SD → Fl := sRet (mOwn (mTup (mCons (mCallT dTupOf (mCons (mFrz 2) (mNil))) (mCons (mVar 1) (mNil)))))
noncomputable def m_nodes_from_r (cs : Nat → Addr) (rec : List OT → ER OT) : List OT → ER OT := asDef 5 (
    sSeq ((m_nodes_from_1 cs rec))
    (sSeq ((m_nodes_from_8 cs rec))
    ((m_nodes_from_9 cs rec))))
noncomputable def m_nodes_from (cs : Nat → Addr) : Nat → List OT → ER OT
  | 0 => fun _ => .bad
  | n + 1 => m_nodes_from_r cs (m_nodes_from cs n)
noncomputable def m_nodes_in_1 (cs : Nat → Addr) : SD → Fl := sRet (mOwn (mOp dIx (mView (mCall0 (m_nodes_from cs 16) (mCons (mVar 0) (mCons (mC (.int 0)) (mNil))))) (mC (.int 0))))
noncomputable def m_nodes_in (cs : Nat → Addr) : List OT → ER OT := asDef 1 (
    (m_nodes_in_1 cs))
noncomputable def m_length_in_1 (cs : Nat → Addr) (rec : List OT → ER OT) : SD → Fl := sSet 1 (mOwn (mC (.int 0)))
noncomputable def m_length_in_2 (cs : Nat → Addr) (rec : List OT → ER OT) : SD → Fl := sSet 1 (mOwn (mOp dAdd (mVar 1) (mOp dMul (mVar 3) (mIf (mTest (mCall dIsi (mCons (mVar 2) (mCons (mC (.ty "str")) (mNil))))) (mC (.int 1)) (mView (mCall0 (rec) (mCons (mVar 2) (mNil))))))))
noncomputable def m_length_in_b1 (cs : Nat → Addr) (rec : List OT → ER OT) : SD → Fl := (m_length_in_2 cs rec)
noncomputable def m_length_in_3 (cs : Nat → Addr) (rec : List OT → ER OT) : SD → Fl := sFor (iTuP (mVar 0)) (tgT 2 (tgCons (tgN 2) (tgCons (tgN 3) (tgNil)))) ((m_length_in_b1 cs rec))
noncomputable def m_length_in_4 (cs : Nat → Addr) (rec : List OT → ER OT) : SD → Fl := sRet (mOwn (mVar 1))
noncomputable def m_length_in_r (cs : Nat → Addr) (rec : List OT → ER OT) : List OT → ER OT := asDef 4 (
    sSeq ((m_length_in_1 cs rec))
    (sSeq ((m_length_in_3 cs rec))
    ((m_length_in_4 cs rec))))
noncomputable def m_length_in (cs : Nat → Addr) : Nat → List OT → ER OT
  | 0 => fun _ => .bad
  | n + 1 => m_length_in_r cs (m_length_in cs n)
noncomputable def m_depth_in_c1 (cs : Nat → Addr) (rec : List OT → ER OT) : SD → ER OT := mComp (iTuP (mVar 0)) (tgT 2 (tgCons (tgN 1) (tgCons (tgN 2) (tgNil)))) (mNot (mTest (mCall dIsi (mCons (mVar 1) (mCons (mC (.ty "str")) (mNil)))))) (mOp dAdd (mC (.int 1)) (mView (mCall0 (rec) (mCons (mVar 1) (mNil))))) [1, 2]
noncomputable def m_depth_in_1 (cs : Nat → Addr) (rec : List OT → ER OT) : SD → Fl := sRet (mOwn (mCall dMax (mCons (mView (mCat (qNew (mLst (mCons (mC (.int 0)) (mNil)))) (qNew ((m_depth_in_c1 cs rec))))) (mNil))))
noncomputable def m_depth_in_r (cs : Nat → Addr) (rec : List OT → ER OT) : List OT → ER OT := asDef 3 (
    (m_depth_in_1 cs rec))
noncomputable def m_depth_in (cs : Nat → Addr) : Nat → List OT → ER OT
  | 0 => fun _ => .bad
  | n + 1 => m_depth_in_r cs (m_depth_in cs n)
noncomputable def m_Program___init___1 (cs : Nat → Addr) : SD → Fl := sNever
noncomputable def m_Program___init___2 (cs : Nat → Addr) : SD → Fl := sIf (mNot (mTest (mCall dIsi (mCons (mVar 1) (mCons (mC (.ty "str")) (mNil)))))) ((m_Program___init___1 cs)) (sNil)
noncomputable def m_Program___init___3 (cs : Nat → Addr) : SD → Fl := sSet 2 (mFz (mCall0 (m_words_of cs) (mCons (mVar 1) (mNil))))
noncomputable def m_Program___init___4 (cs : Nat → Addr) : SD → Fl := sSet 3 (mFz (mCall0 (m_first_wrong cs) (mCons (mVar 2) (mCons (mView (mLst (mNil))) (mNil)))))
noncomputable def m_Program___init___5 (cs : Nat → Addr) : SD → Fl := sNever
noncomputable def m_Program___init___6 (cs : Nat → Addr) : SD → Fl := sIf (mTest (mOp dNotN (mVar 3) (mC .non))) ((m_Program___init___5 cs)) (sNil)
noncomputable def m_Program___init___7 (cs : Nat → Addr) : SD → Fl := sFldSet (fun C => C == cs 0) 0 "own_text" (mOwn (mVar 1))
noncomputable def m_Program___init___8 (cs : Nat → Addr) : SD → Fl := sFldSet (fun C => C == cs 0) 0 "own_words" (mOwn (mCallT dTupOf (mCons (mVar 2) (mNil))))
noncomputable def m_Program___init___9 (cs : Nat → Addr) : SD → Fl := sFldSet (fun C => C == cs 0) 0 "own_nodes" (mFz (mCall0 (m_nodes_in cs) (mCons (mVar 2) (mNil))))
noncomputable def m_Program___init___10 (cs : Nat → Addr) : SD → Fl := sFldSet (fun C => C == cs 0) 0 "own_length" (mFz (mCall0 (m_length_in cs 16) (mCons (mFldO (fun C => C == cs 0) 0 "own_nodes") (mNil))))
noncomputable def m_Program___init___11 (cs : Nat → Addr) : SD → Fl := sFldSet (fun C => C == cs 0) 0 "own_depth" (mFz (mCall0 (m_depth_in cs 16) (mCons (mFldO (fun C => C == cs 0) 0 "own_nodes") (mNil))))
noncomputable def m_Program___init__ (cs : Nat → Addr) : List OT → ER OT := asDef 4 (
    sSeq ((m_Program___init___2 cs))
    (sSeq ((m_Program___init___3 cs))
    (sSeq ((m_Program___init___4 cs))
    (sSeq ((m_Program___init___6 cs))
    (sSeq ((m_Program___init___7 cs))
    (sSeq ((m_Program___init___8 cs))
    (sSeq ((m_Program___init___9 cs))
    (sSeq ((m_Program___init___10 cs))
    ((m_Program___init___11 cs))))))))))
noncomputable def m_text_of_c1 (cs : Nat → Addr) (rec : List OT → ER OT) : SD → ER OT := mDcS (iEnumL (mCons (mVar 0) (mNil))) (tgT 2 (tgCons (tgN 4) (tgCons (tgN 5) (tgNil)))) (mVar 5) (mVar 4) [4, 5]
noncomputable def m_text_of_1 (cs : Nat → Addr) (rec : List OT → ER OT) : SD → Fl := sSet 3 (mOwn (mView ((m_text_of_c1 cs rec))))
noncomputable def m_text_of_c2 (cs : Nat → Addr) (rec : List OT → ER OT) : SD → ER OT := mComp (iLst (mOp dIx (mVar 1) (mVar 2))) (tgN 7) (mYes) (mIf (mInSB (mVar 7) (mVar 3)) (mView (mCall0 (rec) (mCons (mVar 0) (mCons (mVar 1) (mCons (mSItem (mVar 3) (mVar 7)) (mNil)))))) (mVar 7)) [7]
noncomputable def m_text_of_2 (cs : Nat → Addr) (rec : List OT → ER OT) : SD → Fl := sSet 6 (mFz ((m_text_of_c2 cs rec)))
noncomputable def m_text_of_c3 (cs : Nat → Addr) (rec : List OT → ER OT) : SD → ER OT := mComp (iLst (mVar 6)) (tgN 8) (mTest (mOp dNe (mVar 8) (mC (.str "")))) (mVar 8) [8]
noncomputable def m_text_of_3 (cs : Nat → Addr) (rec : List OT → ER OT) : SD → Fl := sRet (mOwn (mBm D.isS dJoin (mC (.str " ")) (mCons (mView ((m_text_of_c3 cs rec))) (mNil))))
noncomputable def m_text_of_r (cs : Nat → Addr) (rec : List OT → ER OT) : List OT → ER OT := asDef 9 (
    sSeq ((m_text_of_1 cs rec))
    (sSeq ((m_text_of_2 cs rec))
    ((m_text_of_3 cs rec))))
noncomputable def m_text_of (cs : Nat → Addr) : Nat → List OT → ER OT
  | 0 => fun _ => .bad
  | n + 1 => m_text_of_r cs (m_text_of cs n)
noncomputable def m_program_of_1 (cs : Nat → Addr) : SD → Fl := sAsg (mView (mCall0 (m_sizes_in cs) (mCons (mVar 0) (mCons (mVar 1) (mNil))))) (tgT 2 (tgCons (tgN 3) (tgCons (tgN 4) (tgNil))))
noncomputable def m_program_of_2 (cs : Nat → Addr) : SD → Fl := sNever
noncomputable def m_program_of_3 (cs : Nat → Addr) : SD → Fl := sIf (mTest (mOp dGt (mOp dIx (mVar 3) (mVar 2)) (mC (.int 1000)))) ((m_program_of_2 cs)) (sNil)
noncomputable def m_program_of_4 (cs : Nat → Addr) : SD → Fl := sNever
noncomputable def m_program_of_5 (cs : Nat → Addr) : SD → Fl := sIf (mTest (mOp dGt (mOp dIx (mVar 4) (mVar 2)) (mC (.int 12)))) ((m_program_of_4 cs)) (sNil)
noncomputable def m_program_of_6 (cs : Nat → Addr) : SD → Fl := sRet (mMake (cs 0) (m_Program___init__ cs) (mCons (mView (mCall0 (m_text_of cs 32) (mCons (mVar 0) (mCons (mVar 1) (mCons (mVar 2) (mNil)))))) (mNil)))
noncomputable def m_program_of (cs : Nat → Addr) : List OT → ER OT := asDef 5 (
    sSeq ((m_program_of_1 cs))
    (sSeq ((m_program_of_3 cs))
    (sSeq ((m_program_of_5 cs))
    ((m_program_of_6 cs)))))
noncomputable def m_read_source_1 (cs : Nat → Addr) : SD → Fl := sAsg (mView (mCall0 (m_lines_in cs) (mCons (mVar 0) (mNil)))) (tgT 2 (tgCons (tgN 1) (tgCons (tgN 2) (tgNil))))
noncomputable def m_read_source_2 (cs : Nat → Addr) : SD → Fl := sRet (mCall0 (m_program_of cs) (mCons (mVar 1) (mCons (mVar 2) (mCons (mOp dSub (mCall dLen (mCons (mVar 2) (mNil))) (mC (.int 1))) (mNil)))))
noncomputable def m_read_source (cs : Nat → Addr) : List OT → ER OT := asDef 3 (
    sSeq ((m_read_source_1 cs))
    ((m_read_source_2 cs)))
noncomputable def m__law_depth_1 (cs : Nat → Addr) : SD → Fl := sAsg (mTup (mCons (mC (.int 0)) (mCons (mC (.int 0)) (mNil)))) (tgT 2 (tgCons (tgN 1) (tgCons (tgN 2) (tgNil))))
noncomputable def m__law_depth_2 (cs : Nat → Addr) : SD → Fl := sSet 1 (mOwn (mOp dSub (mOp dAdd (mVar 1) (mCall dInt2 (mCons (mOp dEq (mVar 3) (mC (.str "("))) (mNil)))) (mCall dInt2 (mCons (mOp dEq (mOp dIx (mVar 3) (mC (.int 0))) (mC (.str ")"))) (mNil)))))
noncomputable def m__law_depth_3 (cs : Nat → Addr) : SD → Fl := sSet 2 (mOwn (mCall dMax (mCons (mVar 2) (mCons (mVar 1) (mNil)))))
noncomputable def m__law_depth_b1 (cs : Nat → Addr) : SD → Fl := sSeq ((m__law_depth_2 cs)) ((m__law_depth_3 cs))
noncomputable def m__law_depth_4 (cs : Nat → Addr) : SD → Fl := sFor (iLst (mVar 0)) (tgN 3) ((m__law_depth_b1 cs))
noncomputable def m__law_depth_5 (cs : Nat → Addr) : SD → Fl := sRet (mOwn (mVar 2))
noncomputable def m__law_depth (cs : Nat → Addr) : List OT → ER OT := asDef 4 (
    sSeq ((m__law_depth_1 cs))
    (sSeq ((m__law_depth_4 cs))
    ((m__law_depth_5 cs))))
noncomputable def m_routine_1 (cs : Nat → Addr) : SD → Fl := sAsg (mView (mCall0 (m_lines_in cs) (mCons (mVar 0) (mNil)))) (tgT 2 (tgCons (tgN 2) (tgCons (tgN 3) (tgNil))))
noncomputable def m_routine_2 (cs : Nat → Addr) : SD → Fl := sNever
noncomputable def m_routine_3 (cs : Nat → Addr) : SD → Fl := sIf (mOr (mNot (mTest (mCall dIsi (mCons (mVar 1) (mCons (mC (.ty "str")) (mNil)))))) (mTest (mOp (dIn true) (mVar 1) (mVar 2)))) ((m_routine_2 cs)) (sNil)
noncomputable def m_routine_4 (cs : Nat → Addr) : SD → Fl := sRet (mCall0 (m_program_of cs) (mCons (mVar 2) (mCons (mVar 3) (mCons (mBm D.isL dIndexD (mVar 2) (mCons (mVar 1) (mNil))) (mNil)))))
noncomputable def m_routine (cs : Nat → Addr) : List OT → ER OT := asDef 4 (
    sSeq ((m_routine_1 cs))
    (sSeq ((m_routine_3 cs))
    ((m_routine_4 cs))))
noncomputable def m_Program_length_1 (cs : Nat → Addr) : SD → Fl := sRet (mOwn (mFld (fun C => C == cs 0) "own_length" (mVar 0)))
noncomputable def m_Program_length (cs : Nat → Addr) : List OT → ER OT := asDef 1 (
    (m_Program_length_1 cs))
noncomputable def m__law_length_1 (cs : Nat → Addr) : SD → Fl := sSet 1 (mLst (mCons (mC (.int 0)) (mNil)))
noncomputable def m__law_length_2 (cs : Nat → Addr) : SD → Fl := sApp 1 (mOwn (mC (.int 0)))
noncomputable def m__law_length_3 (cs : Nat → Addr) : SD → Fl := sSet 3 (mFz (mPop 1))
noncomputable def m__law_length_4 (cs : Nat → Addr) : SD → Fl := sSetAt 1 (mUn dNeg (mC (.int 1))) (mOwn (mOp dAdd (mAt (qSee 1) (mUn dNeg (mC (.int 1)))) (mOp dMul (mVar 3) (mCall dInt2 (mCons (mCutX (mVar 2) (oSome (mC (.int 1))) (oNone)) (mNil))))))
noncomputable def m__law_length_5 (cs : Nat → Addr) : SD → Fl := sSetAt 1 (mUn dNeg (mC (.int 1))) (mOwn (mOp dAdd (mOp dAdd (mAt (qSee 1) (mUn dNeg (mC (.int 1)))) (mCall dInt2 (mCons (mOp dAdd (mC (.str "0")) (mCutX (mVar 2) (oSome (mC (.int 1))) (oNone))) (mNil)))) (mCall dInt2 (mCons (mOp dEq (mCall dLen (mCons (mVar 2) (mNil))) (mC (.int 1))) (mNil)))))
noncomputable def m__law_length_6 (cs : Nat → Addr) : SD → Fl := sIf (mTest (mOp dEq (mOp dIx (mVar 2) (mC (.int 0))) (mC (.str ")")))) (sSeq ((m__law_length_3 cs)) ((m__law_length_4 cs))) ((m__law_length_5 cs))
noncomputable def m__law_length_7 (cs : Nat → Addr) : SD → Fl := sIf (mTest (mOp dEq (mVar 2) (mC (.str "(")))) ((m__law_length_2 cs)) ((m__law_length_6 cs))
noncomputable def m__law_length_b1 (cs : Nat → Addr) : SD → Fl := (m__law_length_7 cs)
noncomputable def m__law_length_8 (cs : Nat → Addr) : SD → Fl := sFor (iLst (mVar 0)) (tgN 2) ((m__law_length_b1 cs))
noncomputable def m__law_length_9 (cs : Nat → Addr) : SD → Fl := sRet (mOwn (mAt (qSee 1) (mC (.int 0))))
noncomputable def m__law_length (cs : Nat → Addr) : List OT → ER OT := asDef 4 (
    sSeq ((m__law_length_1 cs))
    (sSeq ((m__law_length_8 cs))
    ((m__law_length_9 cs))))
noncomputable def m_Program___len___1 (cs : Nat → Addr) : SD → Fl := sRet (mOwn (mCall dLen (mCons (mFld (fun C => C == cs 0) "own_words" (mVar 0)) (mNil))))
noncomputable def m_Program___len__ (cs : Nat → Addr) : List OT → ER OT := asDef 1 (
    (m_Program___len___1 cs))
noncomputable def m_law_1 (cs : Nat → Addr) : SD → Fl := sSet 2 (mCall0 (m__law_bag cs) (mCons (mVar 1) (mNil)))
noncomputable def m_law_2 (cs : Nat → Addr) : SD → Fl := sAsg (mView (mCall1 (m__law_source cs) (rSlot 2 (rFz (mOp dIx (mView (mLst (mCons (mC (.int 3)) (mCons (mC (.int 19)) (mNil))))) (mView (mCall1 (m__law_pick cs) (rSlot 2 (rFz (mC (.int 2)) (rNil)))))) (rFz (mC (.int 1)) (rNil)))))) (tgT 2 (tgCons (tgN 3) (tgCons (tgN 4) (tgNil))))
noncomputable def m_law_3 (cs : Nat → Addr) : SD → Fl := sPar 5 6 (mFz (mCall0 (m__law_text cs) (mCons (mVar 3) (mCons (mVar 4) (mNil))))) (mFz (mCall0 (m__law_written cs) (mCons (mVar 3) (mCons (mVar 4) (mCons (mC (.int 1000)) (mNil))))))
noncomputable def m_law_4 (cs : Nat → Addr) : SD → Fl := sPar3 3 4 6 (mFz (mLst (mNil))) (mFz (mCut (qFz (mVar 4)) (oNone) (oSome (mC (.int 1))))) (mFz (mCut (qFz (mVar 6)) (oNone) (oSome (mC (.int 1)))))
noncomputable def m_law_5 (cs : Nat → Addr) : SD → Fl := sSet 5 (mFz (mCall0 (m__law_text cs) (mCons (mVar 3) (mCons (mVar 4) (mNil)))))
noncomputable def m_law_6 (cs : Nat → Addr) : SD → Fl := sIf (mTest (mOp dGt (mCall dLen (mCons (mVar 5) (mNil))) (mC (.int 3900)))) (sSeq ((m_law_4 cs)) ((m_law_5 cs))) (sNil)
noncomputable def m_law_7 (cs : Nat → Addr) : SD → Fl := sSet 8 (mCall0 (m_names_of cs) (mCons (mVar 5) (mNil)))
noncomputable def m_law_8 (cs : Nat → Addr) : SD → Fl := sRet (mOwn (mC (.bl false)))
noncomputable def m_law_9 (cs : Nat → Addr) : SD → Fl := sIf (mTest (mOp dNe (mSee 8) (mVar 3))) ((m_law_8 cs)) (sNil)
noncomputable def m_law_10 (cs : Nat → Addr) : SD → Fl := sApp 8 (mOwn (mC .non))
noncomputable def m_law_b1 (cs : Nat → Addr) : SD → Fl := sSeq ((m_law_7 cs)) (sSeq ((m_law_9 cs)) ((m_law_10 cs)))
noncomputable def m_law_11 (cs : Nat → Addr) : SD → Fl := sFor (iRange1 (mCons (mC (.int 2)) (mNil))) (tgN 7) ((m_law_b1 cs))
noncomputable def m_law_12 (cs : Nat → Addr) : SD → Fl := sSet 10 (mOwn (mIf (mTest (mOp dEq (mVar 9) (mCall dLen (mCons (mVar 3) (mNil))))) (mView (mCall0 (m_read_source cs) (mCons (mVar 5) (mNil)))) (mView (mCall0 (m_routine cs) (mCons (mVar 5) (mCons (mOp dIx (mVar 3) (mVar 9)) (mNil)))))))
noncomputable def m_law_13 (cs : Nat → Addr) : SD → Fl := sRet (mOwn (mC (.bl false)))
noncomputable def m_law_14 (cs : Nat → Addr) : SD → Fl := sIf (mOr (mNot (mTest (mCall (dIsO (okC cs) (cs 0)) (mCons (mVar 10) (mCons (mC (.cls (cs 0))) (mNil)))))) (mTest (mOp dNe (mView (mProp (cs 0) (m_Program_text cs) (mVar 10))) (mBm D.isS dJoin (mC (.str " ")) (mCons (mOp dIx (mVar 6) (mVar 9)) (mNil)))))) ((m_law_13 cs)) (sNil)
noncomputable def m_law_15 (cs : Nat → Addr) : SD → Fl := sRet (mOwn (mC (.bl false)))
noncomputable def m_law_16 (cs : Nat → Addr) : SD → Fl := sIf (mOr (mTest (mOp dNe (mView (mProp (cs 0) (m_Program_length cs) (mVar 10))) (mView (mCall0 (m__law_length cs) (mCons (mOp dIx (mVar 6) (mVar 9)) (mNil)))))) (mTest (mOp dNe (mLenO (cs 0) (m_Program___len__ cs) (mCons (mVar 10) (mNil))) (mCall dLen (mCons (mOp dIx (mVar 6) (mVar 9)) (mNil)))))) ((m_law_15 cs)) (sNil)
noncomputable def m_law_17 (cs : Nat → Addr) : SD → Fl := sIf (mAnd (mTest (mOp dNotN (mOp dIx (mVar 6) (mVar 9)) (mC .non))) (mTest (mOp dLt (mView (mCall0 (m__law_depth cs) (mCons (mOp dIx (mVar 6) (mVar 9)) (mNil)))) (mC (.int 13))))) (sSeq ((m_law_12 cs)) (sSeq ((m_law_14 cs)) ((m_law_16 cs)))) (sNil)
noncomputable def m_law_b2 (cs : Nat → Addr) : SD → Fl := (m_law_17 cs)
noncomputable def m_law_18 (cs : Nat → Addr) : SD → Fl := sFor (iRange1 (mCons (mOp dAdd (mCall dLen (mCons (mVar 3) (mNil))) (mC (.int 1))) (mNil))) (tgN 9) ((m_law_b2 cs))
noncomputable def m_law_b3 (cs : Nat → Addr) : SD → Fl := sSeq ((m_law_1 cs)) (sSeq ((m_law_2 cs)) (sSeq ((m_law_3 cs)) (sSeq ((m_law_6 cs)) (sSeq ((m_law_11 cs)) ((m_law_18 cs))))))
noncomputable def m_law_19 (cs : Nat → Addr) : SD → Fl := sFor (iLst (mView (mCat (qNew (mCutS (mVar 0) (oNone) (oSome (mC (.int 12))))) (qNew (mLst (mCons (mC (.int 0)) (mNil))))))) (tgN 1) ((m_law_b3 cs))
noncomputable def m_law_20 (cs : Nat → Addr) : SD → Fl := sSet 11 (mOwn (mC (.str "side: f2 l\nroom: ( side )4\nroom u f3 d room")))
noncomputable def m_law_21 (cs : Nat → Addr) : SD → Fl := sRet (mOwn (mAndV (mOp dEq (mView (mProp (cs 0) (m_Program_text cs) (mView (mCall0 (m_read_source cs) (mCons (mVar 11) (mNil)))))) (mC (.str "( f2 l )4 u f3 d ( f2 l )4"))) (mB2 (okC cs) (cs 0) (m_Program___eq__ cs) false (mView (mCall0 (m_read_source cs) (mCons (mC (.str "")) (mNil)))) (mView (mMake (cs 0) (m_Program___init__ cs) (mCons (mC (.str "")) (mNil)))))))
noncomputable def m_law (cs : Nat → Addr) : List OT → ER OT := asDef 12 (
    sSeq ((m_law_19 cs))
    (sSeq ((m_law_20 cs))
    ((m_law_21 cs))))
noncomputable def top (i : Nat) : Stmt := PySem.Challenge.pw_plotpens_k07_sources_read.main.body.getD i (.Pass ⟨0, 0, 0, 0⟩)
noncomputable abbrev s__law_bag : Stmt := top 45
noncomputable abbrev sc__law_bag_N : List Str := ["cell"]
theorem sc__law_bag : FnScope ["cell"] ["cell"] (defScope s__law_bag) := ⟨rfl, rfl, rfl, by decide +kernel, rfl, by decide +kernel, by decide +kernel⟩
noncomputable abbrev s__law_pick : Stmt := top 46
noncomputable abbrev sc__law_pick_N : List Str := ["bag", "many", "told", "first", "second"]
theorem sc__law_pick : FnScope ["bag", "many", "told", "first", "second"] ["bag", "many"] (defScope s__law_pick) := ⟨rfl, rfl, rfl, by decide +kernel, rfl, by decide +kernel, by decide +kernel⟩
noncomputable abbrev s__law_names : Stmt := top 52
noncomputable abbrev sc__law_names_N : List Str := ["bag", "many", "found", "size", "name", "k"]
theorem sc__law_names : FnScope ["bag", "many", "found", "size", "name", "k"] ["bag", "many"] (defScope s__law_names) := ⟨rfl, rfl, rfl, by decide +kernel, rfl, by decide +kernel, by decide +kernel⟩
noncomputable abbrev s__law_number : Stmt := top 47
noncomputable abbrev sc__law_number_N : List Str := ["bag", "far"]
theorem sc__law_number : FnScope ["bag", "far"] ["bag", "far"] (defScope s__law_number) := ⟨rfl, rfl, rfl, by decide +kernel, rfl, by decide +kernel, by decide +kernel⟩
noncomputable abbrev s__law_words : Stmt := top 48
noncomputable abbrev sc__law_words_N : List Str := ["bag", "most", "deep", "letters", "far", "found", "many", "way", "room", "part"]
theorem sc__law_words : FnScope ["bag", "most", "deep", "letters", "far", "found", "many", "way", "room", "part"] ["bag", "most", "deep", "letters", "far"] (defScope s__law_words) := ⟨rfl, rfl, rfl, by decide +kernel, rfl, by decide +kernel, by decide +kernel⟩
noncomputable abbrev s__law_source : Stmt := top 53
noncomputable abbrev sc__law_source_N : List Str := ["bag", "most", "far", "many", "names", "lines", "k", "words", "turn", "at"]
theorem sc__law_source : FnScope ["bag", "most", "far", "many", "names", "lines", "k", "words", "turn", "at"] ["bag", "most", "far"] (defScope s__law_source) := ⟨rfl, rfl, rfl, by decide +kernel, rfl, by decide +kernel, by decide +kernel⟩
noncomputable abbrev s_Program___eq__ : Stmt := inClass (top 31) 5
noncomputable abbrev sc_Program___eq___N : List Str := ["self", "other"]
theorem sc_Program___eq__ : FnScope ["self", "other"] ["self", "other"] (defScope s_Program___eq__) := ⟨rfl, rfl, rfl, by decide +kernel, rfl, by decide +kernel, by decide +kernel⟩
noncomputable abbrev s__law_text : Stmt := top 54
noncomputable abbrev sc__law_text_N : List Str := ["names", "lines", "rows", "k", "name"]
theorem sc__law_text : FnScope ["names", "lines", "rows", "k", "name"] ["names", "lines"] (defScope s__law_text) := ⟨rfl, rfl, rfl, by decide +kernel, rfl, by decide +kernel, by decide +kernel⟩
noncomputable abbrev s__law_written : Stmt := top 55
noncomputable abbrev sc__law_written_N : List Str := ["names", "lines", "limit", "found", "words", "row", "word", "part"]
theorem sc__law_written : FnScope ["names", "lines", "limit", "found", "words", "row", "word", "part"] ["names", "lines", "limit"] (defScope s__law_written) := ⟨rfl, rfl, rfl, by decide +kernel, rfl, by decide +kernel, by decide +kernel⟩
noncomputable abbrev s_words_of : Stmt := top 23
noncomputable abbrev sc_words_of_N : List Str := ["text"]
theorem sc_words_of : FnScope ["text"] ["text"] (defScope s_words_of) := ⟨rfl, rfl, rfl, by decide +kernel, rfl, by decide +kernel, by decide +kernel⟩
noncomputable abbrev s_is_number : Stmt := top 21
noncomputable abbrev sc_is_number_N : List Str := ["signs", "sign"]
theorem sc_is_number : FnScope ["signs", "sign"] ["signs"] (defScope s_is_number) := ⟨rfl, rfl, rfl, by decide +kernel, rfl, by decide +kernel, by decide +kernel⟩
noncomputable abbrev s_is_step_word : Stmt := top 22
noncomputable abbrev sc_is_step_word_N : List Str := ["word"]
theorem sc_is_step_word : FnScope ["word"] ["word"] (defScope s_is_step_word) := ⟨rfl, rfl, rfl, by decide +kernel, rfl, by decide +kernel, by decide +kernel⟩
noncomputable abbrev s_first_wrong : Stmt := top 24
noncomputable abbrev sc_first_wrong_N : List Str := ["words", "names", "depth", "empty", "index", "word"]
theorem sc_first_wrong : FnScope ["words", "names", "depth", "empty", "index", "word"] ["words", "names"] (defScope s_first_wrong) := ⟨rfl, rfl, rfl, by decide +kernel, rfl, by decide +kernel, by decide +kernel⟩
noncomputable abbrev s_is_title : Stmt := top 35
noncomputable abbrev sc_is_title_N : List Str := ["word", "names", "name", "sign"]
theorem sc_is_title : FnScope ["word", "names", "name", "sign"] ["word", "names"] (defScope s_is_title) := ⟨rfl, rfl, rfl, by decide +kernel, rfl, by decide +kernel, by decide +kernel⟩
noncomputable abbrev s_wrong_word : Stmt := top 36
noncomputable abbrev sc_wrong_word_N : List Str := ["words", "names", "is_last", "wrong"]
theorem sc_wrong_word : FnScope ["words", "names", "is_last", "wrong"] ["words", "names", "is_last"] (defScope s_wrong_word) := ⟨rfl, rfl, rfl, by decide +kernel, rfl, by decide +kernel, by decide +kernel⟩
noncomputable abbrev s_lines_in : Stmt := top 37
noncomputable abbrev sc_lines_in_N : List Str := ["source", "rows", "names", "found", "number", "row", "words", "is_last", "wrong"]
theorem sc_lines_in : FnScope ["source", "rows", "names", "found", "number", "row", "words", "is_last", "wrong"] ["source"] (defScope s_lines_in) := ⟨rfl, rfl, rfl, by decide +kernel, rfl, by decide +kernel, by decide +kernel⟩
noncomputable abbrev s_names_of : Stmt := top 43
noncomputable abbrev sc_names_of_N : List Str := ["source"]
theorem sc_names_of : FnScope ["source"] ["source"] (defScope s_names_of) := ⟨rfl, rfl, rfl, by decide +kernel, rfl, by decide +kernel, by decide +kernel⟩
noncomputable abbrev s_Program_text : Stmt := inClass (top 31) 1
noncomputable abbrev sc_Program_text_N : List Str := ["self"]
theorem sc_Program_text : FnScope ["self"] ["self"] (defScope s_Program_text) := ⟨rfl, rfl, rfl, by decide +kernel, rfl, by decide +kernel, by decide +kernel⟩
noncomputable abbrev s_sizes_in : Stmt := top 38
noncomputable abbrev sc_sizes_in_N : List Str := ["names", "found", "sizes", "depths", "places", "index", "name", "words", "size", "depth", "deepest", "word"]
theorem sc_sizes_in : FnScope ["names", "found", "sizes", "depths", "places", "index", "name", "words", "size", "depth", "deepest", "word"] ["names", "found"] (defScope s_sizes_in) := ⟨rfl, rfl, rfl, by decide +kernel, rfl, by decide +kernel, by decide +kernel⟩
noncomputable abbrev s_nodes_from : Stmt := top 25
noncomputable abbrev sc_nodes_from_N : List Str := ["words", "place", "found", "word", "body"]
theorem sc_nodes_from : FnScope ["words", "place", "found", "word", "body"] ["words", "place"] (defScope s_nodes_from) := ⟨rfl, rfl, rfl, by decide +kernel, rfl, by decide +kernel, by decide +kernel⟩
noncomputable abbrev s_nodes_in : Stmt := top 26
noncomputable abbrev sc_nodes_in_N : List Str := ["words"]
theorem sc_nodes_in : FnScope ["words"] ["words"] (defScope s_nodes_in) := ⟨rfl, rfl, rfl, by decide +kernel, rfl, by decide +kernel, by decide +kernel⟩
noncomputable abbrev s_length_in : Stmt := top 27
noncomputable abbrev sc_length_in_N : List Str := ["nodes", "found", "body", "number"]
theorem sc_length_in : FnScope ["nodes", "found", "body", "number"] ["nodes"] (defScope s_length_in) := ⟨rfl, rfl, rfl, by decide +kernel, rfl, by decide +kernel, by decide +kernel⟩
noncomputable abbrev s_depth_in : Stmt := top 28
noncomputable abbrev sc_depth_in_N : List Str := ["nodes", "body", "number"]
theorem sc_depth_in : FnScope ["nodes", "body", "number"] ["nodes"] (defScope s_depth_in) := ⟨rfl, rfl, rfl, by decide +kernel, rfl, by decide +kernel, by decide +kernel⟩
noncomputable abbrev s_Program___init__ : Stmt := inClass (top 31) 0
noncomputable abbrev sc_Program___init___N : List Str := ["self", "text", "words", "wrong"]
theorem sc_Program___init__ : FnScope ["self", "text", "words", "wrong"] ["self", "text"] (defScope s_Program___init__) := ⟨rfl, rfl, rfl, by decide +kernel, rfl, by decide +kernel, by decide +kernel⟩
noncomputable abbrev s_text_of : Stmt := top 39
noncomputable abbrev sc_text_of_N : List Str := ["names", "found", "line", "places", "index", "name", "parts", "word", "part"]
theorem sc_text_of : FnScope ["names", "found", "line", "places", "index", "name", "parts", "word", "part"] ["names", "found", "line"] (defScope s_text_of) := ⟨rfl, rfl, rfl, by decide +kernel, rfl, by decide +kernel, by decide +kernel⟩
noncomputable abbrev s_program_of : Stmt := top 40
noncomputable abbrev sc_program_of_N : List Str := ["names", "found", "line", "sizes", "depths"]
theorem sc_program_of : FnScope ["names", "found", "line", "sizes", "depths"] ["names", "found", "line"] (defScope s_program_of) := ⟨rfl, rfl, rfl, by decide +kernel, rfl, by decide +kernel, by decide +kernel⟩
noncomputable abbrev s_read_source : Stmt := top 41
noncomputable abbrev sc_read_source_N : List Str := ["source", "names", "found"]
theorem sc_read_source : FnScope ["source", "names", "found"] ["source"] (defScope s_read_source) := ⟨rfl, rfl, rfl, by decide +kernel, rfl, by decide +kernel, by decide +kernel⟩
noncomputable abbrev s__law_depth : Stmt := top 56
noncomputable abbrev sc__law_depth_N : List Str := ["words", "here", "deepest", "word"]
theorem sc__law_depth : FnScope ["words", "here", "deepest", "word"] ["words"] (defScope s__law_depth) := ⟨rfl, rfl, rfl, by decide +kernel, rfl, by decide +kernel, by decide +kernel⟩
noncomputable abbrev s_routine : Stmt := top 42
noncomputable abbrev sc_routine_N : List Str := ["source", "name", "names", "found"]
theorem sc_routine : FnScope ["source", "name", "names", "found"] ["source", "name"] (defScope s_routine) := ⟨rfl, rfl, rfl, by decide +kernel, rfl, by decide +kernel, by decide +kernel⟩
noncomputable abbrev s_Program_length : Stmt := inClass (top 31) 2
noncomputable abbrev sc_Program_length_N : List Str := ["self"]
theorem sc_Program_length : FnScope ["self"] ["self"] (defScope s_Program_length) := ⟨rfl, rfl, rfl, by decide +kernel, rfl, by decide +kernel, by decide +kernel⟩
noncomputable abbrev s__law_length : Stmt := top 49
noncomputable abbrev sc__law_length_N : List Str := ["words", "totals", "word", "one"]
theorem sc__law_length : FnScope ["words", "totals", "word", "one"] ["words"] (defScope s__law_length) := ⟨rfl, rfl, rfl, by decide +kernel, rfl, by decide +kernel, by decide +kernel⟩
noncomputable abbrev s_Program___len__ : Stmt := inClass (top 31) 4
noncomputable abbrev sc_Program___len___N : List Str := ["self"]
theorem sc_Program___len__ : FnScope ["self"] ["self"] (defScope s_Program___len__) := ⟨rfl, rfl, rfl, by decide +kernel, rfl, by decide +kernel, by decide +kernel⟩
noncomputable abbrev s_law : Stmt := top 57
noncomputable abbrev sc_law_N : List Str := ["script", "cell", "bag", "names", "lines", "text", "rows", "again", "found", "k", "told", "same"]
theorem sc_law : FnScope ["script", "cell", "bag", "names", "lines", "text", "rows", "again", "found", "k", "told", "same"] ["script"] (defScope s_law) := ⟨rfl, rfl, rfl, by decide +kernel, rfl, by decide +kernel, by decide +kernel⟩
/-- what the top has written -/
structure Tx (K : PySem.W.Frag) (mg : Str → Option Value) (ad : Nat → Addr) (fs : Nat → FuncData) (cs : Nat → Addr) : Prop where
  f__law_bag : Fd K mg "_law_bag" s__law_bag (ad 0) (fs 0) ["cell"]
  f__law_pick : Fd K mg "_law_pick" s__law_pick (ad 1) (fs 1) ["bag", "many"]
  f__law_names : Fd K mg "_law_names" s__law_names (ad 2) (fs 2) ["bag", "many"]
  f__law_number : Fd K mg "_law_number" s__law_number (ad 3) (fs 3) ["bag", "far"]
  f__law_words : Fd K mg "_law_words" s__law_words (ad 4) (fs 4) ["bag", "most", "deep", "letters", "far"]
  f__law_source : Fd K mg "_law_source" s__law_source (ad 5) (fs 5) ["bag", "most", "far"]
  f_Program___eq__ : Fm K "__eq__" "Program.__eq__" s_Program___eq__ (ad 6) (fs 6) ["self", "other"]
  f__law_text : Fd K mg "_law_text" s__law_text (ad 7) (fs 7) ["names", "lines"]
  f__law_written : Fd K mg "_law_written" s__law_written (ad 8) (fs 8) ["names", "lines", "limit"]
  f_words_of : Fd K mg "words_of" s_words_of (ad 9) (fs 9) ["text"]
  f_is_number : Fd K mg "is_number" s_is_number (ad 10) (fs 10) ["signs"]
  f_is_step_word : Fd K mg "is_step_word" s_is_step_word (ad 11) (fs 11) ["word"]
  f_first_wrong : Fd K mg "first_wrong" s_first_wrong (ad 12) (fs 12) ["words", "names"]
  f_is_title : Fd K mg "is_title" s_is_title (ad 13) (fs 13) ["word", "names"]
  f_wrong_word : Fd K mg "wrong_word" s_wrong_word (ad 14) (fs 14) ["words", "names", "is_last"]
  f_lines_in : Fd K mg "lines_in" s_lines_in (ad 15) (fs 15) ["source"]
  f_names_of : Fd K mg "names_of" s_names_of (ad 16) (fs 16) ["source"]
  f_Program_text : Fm K "text" "Program.text" s_Program_text (ad 17) (fs 17) ["self"]
  f_sizes_in : Fd K mg "sizes_in" s_sizes_in (ad 18) (fs 18) ["names", "found"]
  f_nodes_from : Fd K mg "nodes_from" s_nodes_from (ad 19) (fs 19) ["words", "place"]
  f_nodes_in : Fd K mg "nodes_in" s_nodes_in (ad 20) (fs 20) ["words"]
  f_length_in : Fd K mg "length_in" s_length_in (ad 21) (fs 21) ["nodes"]
  f_depth_in : Fd K mg "depth_in" s_depth_in (ad 22) (fs 22) ["nodes"]
  f_Program___init__ : Fm K "__init__" "Program.__init__" s_Program___init__ (ad 23) (fs 23) ["self", "text"]
  f_text_of : Fd K mg "text_of" s_text_of (ad 24) (fs 24) ["names", "found", "line"]
  f_program_of : Fd K mg "program_of" s_program_of (ad 25) (fs 25) ["names", "found", "line"]
  f_read_source : Fd K mg "read_source" s_read_source (ad 26) (fs 26) ["source"]
  f__law_depth : Fd K mg "_law_depth" s__law_depth (ad 27) (fs 27) ["words"]
  f_routine : Fd K mg "routine" s_routine (ad 28) (fs 28) ["source", "name"]
  f_Program_length : Fm K "length" "Program.length" s_Program_length (ad 29) (fs 29) ["self"]
  f__law_length : Fd K mg "_law_length" s__law_length (ad 30) (fs 30) ["words"]
  f_Program___len__ : Fm K "__len__" "Program.__len__" s_Program___len__ (ad 31) (fs 31) ["self"]
  f_law : Fd K mg "law" s_law (ad 32) (fs 32) ["script"]
  z_all : mg "all" = none
  z_enumerate : mg "enumerate" = none
  z_int : mg "int" = none
  z_isinstance : mg "isinstance" = none
  z_len : mg "len" = none
  z_max : mg "max" = none
  z_range : mg "range" = none
  z_str : mg "str" = none
  z_tuple : mg "tuple" = none
  v_DIGITS : ∃ u, mg "DIGITS" = some u ∧ RelV (.str "0123456789") u
  v_LETTERS : ∃ u, mg "LETTERS" = some u ∧ RelV (.str "fblrud") u
  v_MOST_DEPTH : ∃ u, mg "MOST_DEPTH" = some u ∧ RelV (.int 12) u
  v_MOST_DIGITS : ∃ u, mg "MOST_DIGITS" = some u ∧ RelV (.int 31) u
  v_MOST_LINES : ∃ u, mg "MOST_LINES" = some u ∧ RelV (.int 20) u
  v_MOST_TIMES : ∃ u, mg "MOST_TIMES" = some u ∧ RelV (.int 1000000000000000000000000000000) u
  v_MOST_WORDS : ∃ u, mg "MOST_WORDS" = some u ∧ RelV (.int 1000) u
  v_SMALL : ∃ u, mg "SMALL" = some u ∧ RelV (.str "abcdefghijklmnopqrstuvwxyz") u
  g_Program : mg "Program" = some (.ref (cs 0))
  c_Program : CF K (cs 0)
  m_Program : Mk K (cs 0) (ad 23)
  n_Program_own_depth : NoAttr K (cs 0) "own_depth"
  n_Program_own_length : NoAttr K (cs 0) "own_length"
  n_Program_own_nodes : NoAttr K (cs 0) "own_nodes"
  n_Program_own_text : NoAttr K (cs 0) "own_text"
  n_Program_own_words : NoAttr K (cs 0) "own_words"
  a_Program___eq__ : PySem.W.findIn K (.ref (cs 0)) "__eq__" = some (some (.ref (ad 6)))
  i_Program___eq__ : PySem.W.isFn K (.ref (ad 6)) = true
  p_Program_text : ∃ pa, PropOf K (cs 0) "text" pa (ad 17)
  a_Program___init__ : PySem.W.findIn K (.ref (cs 0)) "__init__" = some (some (.ref (ad 23)))
  i_Program___init__ : PySem.W.isFn K (.ref (ad 23)) = true
  p_Program_length : ∃ pa, PropOf K (cs 0) "length" pa (ad 29)
  a_Program___len__ : PySem.W.findIn K (.ref (cs 0)) "__len__" = some (some (.ref (ad 31)))
  i_Program___len__ : PySem.W.isFn K (.ref (ad 31)) = true
  is_Program : IsF K (okC cs) (cs 0)
  e_Program : EqF K (okC cs) (cs 0) (ad 6)
theorem Tx.cf {K : PySem.W.Frag} {mg : Str → Option Value} {ad : Nat → Addr} {fs : Nat → FuncData} {cs : Nat → Addr} (T : Tx K mg ad fs cs) : ∀ C, okC cs C = true → CF K C := fun C h => by
  simp only [okC, Bool.or_eq_true, beq_iff_eq, or_assoc] at h
  rcases h with rfl
  exact T.c_Program
section
variable {P : Program} {w : World} {K : PySem.W.Frag} {mg : Str → Option Value} {base : Heap} {ad : Nat → Addr} {fs : Nat → FuncData} {cs : Nat → Addr}
theorem k__law_bag_ (T : Tx K mg ad fs cs) : FnG P w K mg base (L2.CX P w) 1 (ad 0) (fs 0) ["cell"] (spD K 1 (m__law_bag cs)) := by
  refine fn_mirror (N := sc__law_bag_N) T.f__law_bag.F sc__law_bag fun X pvs W cdv A outer s H E hX tk hr => ?_
  subst hX
  have hu := hr.units
  exact (dss_one (ds_ret (do_lst (da_cons (dx_callB (call_maxX rfl) f_max (by rfl) T.z_max bo_max (da_cons dx_int (da_cons (dx_op2 op_sub f_sub (dx_var (pv 0)) (dx_op2 op_powX f_pow dx_int dx_int)) da_nil))) (da_cons (dx_var (pv 0)) (da_cons dx_int da_nil))))))
theorem k__law_pick_ (T : Tx K mg ad fs cs) : FnG P w K mg base (L2.CX P w) 1 (ad 1) (fs 1) ["bag", "many"] (spD K 2 (m__law_pick cs)) := by
  refine fn_mirror (N := sc__law_pick_N) T.f__law_pick.F sc__law_pick fun X pvs W cdv A outer s H E hX tk hr => ?_
  subst hX
  have hu := hr.units
  exact (dss_cons (ds_setAt (pv 0) dx_int (DX.own (dx_op2 op_addX f_add (dx_at (dq_see (pv 0)) dx_int) dx_int)))
    (dss_cons (ds_if (dt_cmp op_gt f_gt (dx_at (dq_see (pv 0)) dx_int) dx_int (nomark _)) (dss_cons (ds_set (i := 2) sc__law_pick.nd rfl (by first | exact Or.inl rfl | exact Or.inr rfl) (DX.own (dx_op2 op_modN f_mod (dx_at (dq_see (pv 0)) dx_int) (dx_var (pv 1))))) (dss_cons (ds_setAt (pv 0) dx_int (DX.own (dx_op2 op_divX f_div (dx_at (dq_see (pv 0)) dx_int) (dx_var (pv 1))))) (dss_one (ds_ret (DX.own (dx_var (pv 2))))))) dss_nil)
    (dss_cons (ds_set (i := 3) sc__law_pick.nd rfl (by first | exact Or.inl rfl | exact Or.inr rfl) (DX.own (dx_op2 op_modN f_mod (dx_op2 op_addX f_add (dx_op2 op_addX f_add (dx_op2 op_mulW f_mul (dx_op2 op_modN f_mod (dx_at (dq_see (pv 0)) dx_int) dx_int) dx_int) (dx_op2 op_mulW f_mul (dx_at (dq_see (pv 0)) dx_int) dx_int)) dx_int) dx_int)))
    (dss_cons (ds_set (i := 4) sc__law_pick.nd rfl (by first | exact Or.inl rfl | exact Or.inr rfl) (DX.own (dx_op2 op_modN f_mod (dx_op2 op_addX f_add (dx_op2 op_mulW f_mul (dx_var (pv 3)) (dx_var (pv 3))) (dx_op2 op_mulW f_mul (dx_at (dq_see (pv 0)) dx_int) dx_int)) dx_int)))
    (dss_one (ds_ret (DX.own (dx_op2 op_modN f_mod (dx_op2 op_divX f_div (dx_op2 op_addX f_add (dx_op2 op_mulW f_mul (dx_var (pv 3)) dx_int) (dx_var (pv 4))) dx_int) (dx_var (pv 1))))))))))
theorem k__law_names_ (T : Tx K mg ad fs cs) : FnG P w K mg base (L2.CX P w) 2 (ad 2) (fs 2) ["bag", "many"] (spD K 2 (m__law_names cs)) := by
  refine fn_mirror (N := sc__law_names_N) T.f__law_names.F sc__law_names fun X pvs W cdv A outer s H E hX tk hr => ?_
  subst hX
  have hu := hr.units
  have k__law_pick := k__law_pick_ (P := P) (w := w) (base := base) T
  exact (dss_cons (ds_set (i := 2) sc__law_names.nd rfl (by first | exact Or.inl rfl | exact Or.inr rfl) (do_lst da_nil))
    (dss_cons (ds_while (fun _ => 2 ^ 80) (passes_of rfl) (dt_cmp op_ltX f_lt (dx_callB call_len f_len (by rfl) T.z_len bo_len (da_cons (dx_see (pv 2)) da_nil)) (dx_var (pv 1)) (nomark _)) (dss_cons (ds_set (i := 3) sc__law_names.nd rfl (by first | exact Or.inl rfl | exact Or.inr rfl) (DX.own (dx_op2 op_addX f_add dx_int (DO.frz (do_call1 k__law_pick (hr.mono (by decide)) (by rfl) T.f__law_pick.g T.f__law_pick.F.kp T.f__law_pick.b tk (dr_slot (pv 0) (dr_fz dx_int dr_nil)) (lenr_slot (lenr_fz lenr_nil))))))) (dss_cons (ds_set (i := 4) sc__law_names.nd rfl (by first | exact Or.inl rfl | exact Or.inr rfl) (DX.own (dx_join dx_str (da_cons (DO.frz (do_comp (own := [("k", 5)]) rfl sc__law_names.nd (di_range1 (by rfl) T.z_range (da_cons (dx_var (pv 3)) da_nil)) (blkOk_by (N := sc__law_names_N) (sc := defScope s__law_names) (own := [("k", 5)]) (by decide +kernel)) (fun _ _ _ _ _ => (dg_name (i := 5) sc__law_names.nd rfl (by first | exact Or.inl rfl | exact Or.inr rfl))) (fun _ _ _ _ _ => dts_nil) (fun _ _ _ _ _ => (dx_ix dx_str (DO.frz (do_call1 k__law_pick (hr.mono (by decide)) (by rfl) T.f__law_pick.g T.f__law_pick.F.kp T.f__law_pick.b takes0 (dr_slot (pv 0) (dr_fz (dx_ix (DO.frz (do_lst (da_cons dx_int (da_cons dx_int da_nil)))) (DO.frz (do_call1 k__law_pick (hr.mono (by decide)) (by rfl) T.f__law_pick.g T.f__law_pick.F.kp T.f__law_pick.b takes0 (dr_slot (pv 0) (dr_fz dx_int dr_nil)) (lenr_slot (lenr_fz lenr_nil))))) dr_nil)) (lenr_slot (lenr_fz lenr_nil)))))) (by decide) (wip_name))) da_nil)))) (dss_one (ds_if (dt_cmp op_notIn2 f_notIn2 (dx_var (pv 4)) (dx_see (pv 2)) (by with_unfolding_all rfl)) (dss_one (ds_app (pv 2) (DX.own (dx_var (pv 4))))) dss_nil)))))
    (dss_one (ds_ret (do_take (pv 2))))))
theorem k__law_number_ (T : Tx K mg ad fs cs) : FnG P w K mg base (L2.CX P w) 2 (ad 3) (fs 3) ["bag", "far"] (spD K 2 (m__law_number cs)) := by
  refine fn_mirror (N := sc__law_number_N) T.f__law_number.F sc__law_number fun X pvs W cdv A outer s H E hX tk hr => ?_
  subst hX
  have hu := hr.units
  have k__law_pick := k__law_pick_ (P := P) (w := w) (base := base) T
  exact (dss_one (ds_ret (DX.own (dx_callTy call_str1 f_str1 (by rfl) T.z_str bo_str (da_cons (dx_op2 op_addX f_add dx_int (DO.frz (do_call1 k__law_pick (hr.mono (by decide)) (by rfl) T.f__law_pick.g T.f__law_pick.F.kp T.f__law_pick.b tk (dr_slot (pv 0) (dr_fz (dx_ix (DO.frz (do_lst (da_cons dx_int (da_cons dx_int (da_cons dx_int (da_cons dx_int (da_cons (dx_op2 op_sub f_sub (dx_op2 op_powX f_pow dx_int dx_int) dx_int) da_nil))))))) (DO.frz (do_call1 k__law_pick (hr.mono (by decide)) (by rfl) T.f__law_pick.g T.f__law_pick.F.kp T.f__law_pick.b tk (dr_slot (pv 0) (dr_fz (dx_op2 op_addX f_add dx_int (dx_op2 op_mulW f_mul dx_int (dx_var (pv 1)))) dr_nil)) (lenr_slot (lenr_fz lenr_nil))))) dr_nil)) (lenr_slot (lenr_fz lenr_nil))))) da_nil)))))
theorem k__law_words_ (T : Tx K mg ad fs cs) : ∀ n : Nat, FnG P w K mg base (L2.CX P w) (n + 3) (ad 4) (fs 4) ["bag", "most", "deep", "letters", "far"] (spD K 5 (m__law_words cs n))
  | 0 => fn_bad
  | n + 1 => by
    have k__law_words := k__law_words_ T n
    refine fn_mirror (N := sc__law_words_N) T.f__law_words.F sc__law_words fun X pvs W cdv A outer s H E hX tk hr => ?_
    subst hX
    have hu := hr.units
    have k__law_pick := k__law_pick_ (P := P) (w := w) (base := base) T
    have k__law_number := k__law_number_ (P := P) (w := w) (base := base) T
    exact (dss_cons (ds_set (i := 5) sc__law_words.nd rfl (by first | exact Or.inl rfl | exact Or.inr rfl) (do_lst da_nil))
      (dss_cons (ds_set (i := 6) sc__law_words.nd rfl (by first | exact Or.inl rfl | exact Or.inr rfl) (DX.own (dx_op2 op_addX f_add dx_int (DO.frz (do_call1 k__law_pick (hr.mono (by omega)) (by rfl) T.f__law_pick.g T.f__law_pick.F.kp T.f__law_pick.b tk (dr_slot (pv 0) (dr_fz (dx_var (pv 1)) dr_nil)) (lenr_slot (lenr_fz lenr_nil)))))))
      (dss_cons (ds_while (fun _ => 100000) (passes_of rfl) (dt_cmp op_ltX f_lt (dx_callB call_len f_len (by rfl) T.z_len bo_len (da_cons (dx_see (pv 5)) da_nil)) (dx_var (pv 6)) (nomark _)) (dss_cons (ds_set (i := 7) sc__law_words.nd rfl (by first | exact Or.inl rfl | exact Or.inr rfl) (DO.fz (do_call1 k__law_pick (hr.mono (by omega)) (by rfl) T.f__law_pick.g T.f__law_pick.F.kp T.f__law_pick.b tk (dr_slot (pv 0) (dr_fz dx_int dr_nil)) (lenr_slot (lenr_fz lenr_nil))))) (dss_cons (ds_set (i := 8) sc__law_words.nd rfl (by first | exact Or.inl rfl | exact Or.inr rfl) (DX.own (dx_op2 op_sub f_sub (dx_var (pv 6)) (dx_callB call_len f_len (by rfl) T.z_len bo_len (da_cons (dx_see (pv 5)) da_nil))))) (dss_one (ds_if (DW.dt (dw_and (dt_cmp (op_eqX hu) f_eq (dx_var (pv 7)) dx_int (nomark _)) (dw_and (dt_cmp op_gt f_gt (dx_var (pv 2)) dx_int (nomark _)) (dw_and1 (dt_cmp op_gt f_gt (dx_var (pv 8)) dx_int (nomark _)))))) (dss_cons (ds_set (i := 9) sc__law_words.nd rfl (by first | exact Or.inl rfl | exact Or.inr rfl) (DO.fz (do_call1 k__law_words (hr.mono (by omega)) (by rfl) T.f__law_words.g T.f__law_words.F.kp T.f__law_words.b tk (dr_slot (pv 0) (dr_fz (dx_op2 op_sub f_sub (dx_var (pv 8)) dx_int) (dr_fz (dx_op2 op_sub f_sub (dx_var (pv 2)) dx_int) (dr_fz (dx_var (pv 3)) (dr_fz (dx_var (pv 4)) dr_nil))))) (lenr_slot (lenr_fz (lenr_fz (lenr_fz (lenr_fz lenr_nil)))))))) (dss_one (ds_set (i := 5) sc__law_words.nd rfl (by first | exact Or.inl rfl | exact Or.inr rfl) (do_cat (DX.dq (DO.frz (do_cat (DO.dq (do_cat (dq_see (pv 5)) (DO.dq (do_lst (da_cons dx_str da_nil))))) (DX.dq (dx_var (pv 9)))))) (DO.dq (do_lst (da_cons (dx_op2 op_addX f_add dx_str (DO.frz (do_call1 k__law_number (hr.mono (by omega)) (by rfl) T.f__law_number.g T.f__law_number.F.kp T.f__law_number.b tk (dr_slot (pv 0) (dr_fz (dx_var (pv 4)) dr_nil)) (lenr_slot (lenr_fz lenr_nil))))) da_nil))))))) (dss_one (ds_app (pv 5) (DX.own (dx_op2 op_addX f_add (dx_ix (dx_var (pv 3)) (DO.frz (do_call1 k__law_pick (hr.mono (by omega)) (by rfl) T.f__law_pick.g T.f__law_pick.F.kp T.f__law_pick.b tk (dr_slot (pv 0) (dr_fz (dx_callB call_len f_len (by rfl) T.z_len bo_len (da_cons (dx_var (pv 3)) da_nil)) dr_nil)) (lenr_slot (lenr_fz lenr_nil))))) (dx_ix (DO.frz (do_lst (da_cons dx_str (da_cons (DO.frz (do_call1 k__law_number (hr.mono (by omega)) (by rfl) T.f__law_number.g T.f__law_number.F.kp T.f__law_number.b tk (dr_slot (pv 0) (dr_fz (dx_var (pv 4)) dr_nil)) (lenr_slot (lenr_fz lenr_nil)))) da_nil)))) (dx_callTy call_int2 f_int2 (by rfl) T.z_int bo_int (da_cons (dx_cmp (op_eqX hu) f_eq (dx_var (pv 7)) dx_int (nomark _)) da_nil))))))))))))
      (dss_one (ds_ret (do_take (pv 5)))))))
theorem k__law_source_ (T : Tx K mg ad fs cs) : FnG P w K mg base (L2.CX P w) 20 (ad 5) (fs 5) ["bag", "most", "far"] (spD K 3 (m__law_source cs)) := by
  refine fn_mirror (N := sc__law_source_N) T.f__law_source.F sc__law_source fun X pvs W cdv A outer s H E hX tk hr => ?_
  subst hX
  have hu := hr.units
  have k__law_pick := k__law_pick_ (P := P) (w := w) (base := base) T
  have k__law_names := k__law_names_ (P := P) (w := w) (base := base) T
  have k__law_words := k__law_words_ (P := P) (w := w) (base := base) T 16
  exact (dss_cons (ds_set (i := 3) sc__law_source.nd rfl (by first | exact Or.inl rfl | exact Or.inr rfl) (DO.fz (do_call1 k__law_pick (hr.mono (by decide)) (by rfl) T.f__law_pick.g T.f__law_pick.F.kp T.f__law_pick.b tk (dr_slot (pv 0) (dr_fz (dx_op2 op_addX f_add dx_int (dx_var (pv 1))) dr_nil)) (lenr_slot (lenr_fz lenr_nil)))))
    (dss_cons (ds_par (i := 4) (j := 5) rfl sc__law_source.nd rfl rfl (by decide) rfl rfl (DO.fz (do_call1 k__law_names (hr.mono (by decide)) (by rfl) T.f__law_names.g T.f__law_names.F.kp T.f__law_names.b tk (dr_slot (pv 0) (dr_fz (dx_var (pv 3)) dr_nil)) (lenr_slot (lenr_fz lenr_nil)))) (do_lst da_nil) rfl)
    (dss_cons (ds_for (passes_of rfl) rfl (di_range1 (by rfl) T.z_range (da_cons (dx_op2 op_addX f_add (dx_var (pv 3)) dx_int) da_nil)) (dg_name (i := 6) sc__law_source.nd rfl (by first | exact Or.inl rfl | exact Or.inr rfl)) (dss_cons (ds_set (i := 7) sc__law_source.nd rfl (by first | exact Or.inl rfl | exact Or.inr rfl) (do_call1 k__law_words (hr.mono (by decide)) (by rfl) T.f__law_words.g T.f__law_words.F.kp T.f__law_words.b tk (dr_slot (pv 0) (dr_fz (dx_ix (DO.frz (do_lst (da_cons dx_int (da_cons dx_int da_nil)))) (DO.frz (do_call1 k__law_pick (hr.mono (by decide)) (by rfl) T.f__law_pick.g T.f__law_pick.F.kp T.f__law_pick.b tk (dr_slot (pv 0) (dr_fz dx_int dr_nil)) (lenr_slot (lenr_fz lenr_nil))))) (dr_fz dx_int (dr_fz dx_str (dr_fz (dx_var (pv 2)) dr_nil))))) (lenr_slot (lenr_fz (lenr_fz (lenr_fz (lenr_fz lenr_nil))))))) (dss_cons (ds_for (passes_of rfl) rfl (di_range1 (by rfl) T.z_range (da_cons (dx_op2 op_mulW f_mul (DO.frz (do_call1 k__law_pick (hr.mono (by decide)) (by rfl) T.f__law_pick.g T.f__law_pick.F.kp T.f__law_pick.b tk (dr_slot (pv 0) (dr_fz dx_int dr_nil)) (lenr_slot (lenr_fz lenr_nil)))) (dx_callTy call_int2 f_int2 (by rfl) T.z_int bo_int (da_cons (dx_cmp op_gt f_gt (dx_var (pv 6)) dx_int (nomark _)) da_nil))) da_nil)) (dg_name (i := 8) sc__law_source.nd rfl (by first | exact Or.inl rfl | exact Or.inr rfl)) (dss_cons (ds_set (i := 9) sc__law_source.nd rfl (by first | exact Or.inl rfl | exact Or.inr rfl) (DO.fz (do_call1 k__law_pick (hr.mono (by decide)) (by rfl) T.f__law_pick.g T.f__law_pick.F.kp T.f__law_pick.b tk (dr_slot (pv 0) (dr_fz (dx_callB call_len f_len (by rfl) T.z_len bo_len (da_cons (dx_see (pv 7)) da_nil)) dr_nil)) (lenr_slot (lenr_fz lenr_nil))))) (dss_one (ds_if (DW.dt (dw_and (dt_cmp (op_neX hu) f_ne (dx_at (dq_see (pv 7)) (dx_var (pv 9))) dx_str (nomark _)) (dw_and1 (dt_cmp (op_neX hu) f_ne (dx_ix (dx_at (dq_see (pv 7)) (dx_var (pv 9))) dx_int) dx_str (nomark _))))) (dss_one (ds_setAt (pv 7) (dx_var (pv 9)) (DX.own (dx_ix (dx_var (pv 4)) (DO.frz (do_call1 k__law_pick (hr.mono (by decide)) (by rfl) T.f__law_pick.g T.f__law_pick.F.kp T.f__law_pick.b tk (dr_slot (pv 0) (dr_fz (dx_var (pv 6)) dr_nil)) (lenr_slot (lenr_fz lenr_nil)))))))) dss_nil)))) (dss_one (ds_app (pv 5) (DX.own (dx_frz (pv 7))))))))
    (dss_cons (ds_if (dt_cmp (op_eqX hu) f_eq (DO.frz (do_call1 k__law_pick (hr.mono (by decide)) (by rfl) T.f__law_pick.g T.f__law_pick.F.kp T.f__law_pick.b tk (dr_slot (pv 0) (dr_fz dx_int dr_nil)) (lenr_slot (lenr_fz lenr_nil)))) dx_int (nomark _)) (dss_one (ds_setAt (pv 5) (dx_neg dx_int) (do_lst da_nil))) dss_nil)
    (dss_one (ds_ret (DX.own (dx_tup (da_cons (dx_var (pv 4)) (da_cons (dx_frz (pv 5)) da_nil))))))))))
theorem k_Program___eq___ (T : Tx K mg ad fs cs) : FnG P w K mg base (L2.CX P w) 1 (ad 6) (fs 6) ["self", "other"] (spD K 2 (m_Program___eq__ cs)) := by
  refine fn_mirror (N := sc_Program___eq___N) T.f_Program___eq__.F sc_Program___eq__ fun X pvs W cdv A outer s H E hX tk hr => ?_
  subst hX
  have hu := hr.units
  exact (dss_one (ds_ret (DX.own (dx_and (dx_callB call_isi (f_isO T.cf T.is_Program) (by rfl) T.z_isinstance bo_isinstance (da_cons (dx_var (pv 1)) (da_cons (dx_cls (by rfl) T.g_Program) da_nil))) (dx_and1 (dx_cmp (op_eqX hu) f_eq (dx_fld (ok := (fun C => C == cs 0)) (dx_var (pv 0)) (fun C h => by cases beq_iff_eq.mp h; exact ⟨T.c_Program.cl, T.n_Program_own_text⟩)) (dx_fld (ok := (fun C => C == cs 0)) (dx_var (pv 1)) (fun C h => by cases beq_iff_eq.mp h; exact ⟨T.c_Program.cl, T.n_Program_own_text⟩)) (nomark _)))))))
theorem k__law_text_ (T : Tx K mg ad fs cs) : FnG P w K mg base (L2.CX P w) 1 (ad 7) (fs 7) ["names", "lines"] (spD K 2 (m__law_text cs)) := by
  refine fn_mirror (N := sc__law_text_N) T.f__law_text.F sc__law_text fun X pvs W cdv A outer s H E hX tk hr => ?_
  subst hX
  have hu := hr.units
  exact (dss_cons (ds_setCompF (i := 2) (own := [("k", 3), ("name", 4)]) rfl sc__law_text.nd rfl rfl (sw_true rfl rfl rfl (by decide +kernel)) (di_enum (by rfl) T.z_enumerate (da_cons (dx_var (pv 0)) da_nil)) (blkOk_by (N := sc__law_text_N) (sc := defScope s__law_text) (own := [("k", 3), ("name", 4)]) (by decide +kernel)) (fun _ _ _ _ _ => (dg_tup rfl (dgs_cons (dg_name (i := 3) sc__law_text.nd rfl (by first | exact Or.inl rfl | exact Or.inr rfl)) (dgs_cons (dg_name (i := 4) sc__law_text.nd rfl (by first | exact Or.inl rfl | exact Or.inr rfl)) dgs_nil)))) (fun _ _ _ _ _ => dts_nil) (fun _ _ _ _ _ => (dx_op2 op_addX f_add (dx_op2 op_addX f_add (dx_var (pv 4)) dx_str) (dx_join dx_str (da_cons (dx_ix (dx_var (pv 1)) (dx_var (pv 3))) da_nil)))) (by decide) (wip_tup (wip_cons (wip_name) (wip_cons (wip_name) wip_nil))))
    (dss_one (ds_ret (DX.own (dx_join dx_str (da_cons (DO.frz (do_cat (DX.dq (dx_var (pv 2))) (DO.dq (do_lst (da_cons (dx_join dx_str (da_cons (dx_ix (dx_var (pv 1)) (dx_neg dx_int)) da_nil)) da_nil))))) da_nil))))))
theorem k__law_written_ (T : Tx K mg ad fs cs) : FnG P w K mg base (L2.CX P w) 1 (ad 8) (fs 8) ["names", "lines", "limit"] (spD K 3 (m__law_written cs)) := by
  refine fn_mirror (N := sc__law_written_N) T.f__law_written.F sc__law_written fun X pvs W cdv A outer s H E hX tk hr => ?_
  subst hX
  have hu := hr.units
  exact (dss_cons (ds_set (i := 3) sc__law_written.nd rfl (by first | exact Or.inl rfl | exact Or.inr rfl) (do_lst da_nil))
    (dss_cons (ds_for (passes_of rfl) rfl (di_list (dx_var (pv 1))) (dg_name (i := 4) sc__law_written.nd rfl (by first | exact Or.inl rfl | exact Or.inr rfl)) (dss_cons (ds_set (i := 5) sc__law_written.nd rfl (by first | exact Or.inl rfl | exact Or.inr rfl) (DO.fz (do_lst da_nil))) (dss_cons (ds_for (passes_of rfl) rfl (di_list (dx_var (pv 4))) (dg_name (i := 6) sc__law_written.nd rfl (by first | exact Or.inl rfl | exact Or.inr rfl)) (dss_cons (ds_set (i := 7) sc__law_written.nd rfl (by first | exact Or.inl rfl | exact Or.inr rfl) (DO.fz (do_lst (da_cons (dx_var (pv 6)) da_nil)))) (dss_cons (ds_if (dt_cmp op_in2 f_in2 (dx_var (pv 6)) (dx_var (pv 0)) (by with_unfolding_all rfl)) (dss_one (ds_set (i := 7) sc__law_written.nd rfl (by first | exact Or.inl rfl | exact Or.inr rfl) (DX.own (dx_at (dq_see (pv 3)) (dx_indexD (by have := hr.un; omega) (dx_var (pv 0)) (da_cons (dx_var (pv 6)) da_nil)))))) dss_nil) (dss_one (ds_set (i := 5) sc__law_written.nd rfl (by first | exact Or.inl rfl | exact Or.inr rfl) (DX.own (dx_if (DW.dt (dw_or (dt_cmp op_isN f_isN (dx_var (pv 5)) dx_non (nomark _)) (dw_or (dt_cmp op_isN f_isN (dx_var (pv 7)) dx_non (nomark _)) (dw_or1 (dt_cmp op_gt f_gt (dx_op2 op_addX f_add (dx_callB call_len f_len (by rfl) T.z_len bo_len (da_cons (dx_var (pv 5)) da_nil)) (dx_callB call_len f_len (by rfl) T.z_len bo_len (da_cons (dx_var (pv 7)) da_nil))) (dx_var (pv 2)) (nomark _)))))) dx_non (DO.frz (do_cat (DX.dq (dx_var (pv 5))) (DX.dq (dx_var (pv 7)))))))))))) (dss_one (ds_app (pv 3) (DX.own (dx_var (pv 5))))))))
    (dss_one (ds_ret (do_take (pv 3))))))
theorem k_words_of_ (T : Tx K mg ad fs cs) : FnG P w K mg base (L2.CX P w) 1 (ad 9) (fs 9) ["text"] (spD K 1 (m_words_of cs)) := by
  refine fn_mirror (N := sc_words_of_N) T.f_words_of.F sc_words_of fun X pvs W cdv A outer s H E hX tk hr => ?_
  subst hX
  have hu := hr.units
  exact (dss_one (ds_ret (DX.own (dx_if (dt_cmp (op_neX hu) f_ne (dx_var (pv 0)) dx_str (nomark _)) (DO.frz (do_split (dx_var (pv 0)) (da_cons dx_str da_nil))) (DO.frz (do_lst da_nil))))))
theorem k_is_number_ (T : Tx K mg ad fs cs) : FnG P w K mg base (L2.CX P w) 1 (ad 10) (fs 10) ["signs"] (spD K 1 (m_is_number cs)) := by
  refine fn_mirror (N := sc_is_number_N) T.f_is_number.F sc_is_number fun X pvs W cdv A outer s H E hX tk hr => ?_
  subst hX
  have hu := hr.units
  exact (dss_cons (ds_if (DW.dt (dw_or (dt_not (dt_chain op_le op_le f_le f_le dx_int (dx_callB call_len f_len (by rfl) T.z_len bo_len (da_cons (dx_var (pv 0)) da_nil)) (dx_const (v := .int 31) (by rfl) T.v_MOST_DIGITS fun _ => .int _))) (dw_or1 (dt_cmp (op_eqX hu) f_eq (dx_ix (dx_var (pv 0)) dx_int) dx_str (nomark _))))) (dss_one (ds_ret (DX.own dx_bl))) dss_nil)
    (dss_one (ds_ret (DX.own (dx_and (dx_callB (cr_all rfl) f_all (by rfl) T.z_all bo_all (da_cons (DO.frz (do_comp (own := [("sign", 1)]) rfl sc_is_number.nd (di_str (dx_var (pv 0))) (blkOk_by (N := sc_is_number_N) (sc := defScope s_is_number) (own := [("sign", 1)]) (by decide +kernel)) (fun _ _ _ _ _ => (dg_name (i := 1) sc_is_number.nd rfl (by first | exact Or.inl rfl | exact Or.inr rfl))) (fun _ _ _ _ _ => dts_nil) (fun _ _ _ _ _ => (dx_cmp op_in2 f_in2 (dx_var (pv 1)) (dx_const (v := .str "0123456789") (by rfl) T.v_DIGITS fun _ => .str _) (by with_unfolding_all rfl))) (by decide) (wip_name))) da_nil)) (dx_and1 (dx_chain op_le op_le f_le f_le dx_int (dx_callTy call_int2 f_int2 (by rfl) T.z_int bo_int (da_cons (dx_var (pv 0)) da_nil)) (dx_const (v := .int 1000000000000000000000000000000) (by rfl) T.v_MOST_TIMES fun _ => .int _))))))))
theorem k_is_step_word_ (T : Tx K mg ad fs cs) : FnG P w K mg base (L2.CX P w) 2 (ad 11) (fs 11) ["word"] (spD K 1 (m_is_step_word cs)) := by
  refine fn_mirror (N := sc_is_step_word_N) T.f_is_step_word.F sc_is_step_word fun X pvs W cdv A outer s H E hX tk hr => ?_
  subst hX
  have hu := hr.units
  have k_is_number := k_is_number_ (P := P) (w := w) (base := base) T
  exact (dss_one (ds_ret (DX.own (dx_and (dx_cmp (op_neX hu) f_ne (dx_cut (dx_var (pv 0)) dp_none (dp_some dx_int)) dx_str (nomark _)) (dx_and (dx_cmp op_in2 f_in2 (dx_cut (dx_var (pv 0)) dp_none (dp_some dx_int)) (dx_const (v := .str "fblrud") (by rfl) T.v_LETTERS fun _ => .str _) (by with_unfolding_all rfl)) (dx_and1 (dx_or (dx_cmp (op_eqX hu) f_eq (dx_callB call_len f_len (by rfl) T.z_len bo_len (da_cons (dx_var (pv 0)) da_nil)) dx_int (nomark _)) (dx_or1 (DO.frz (do_call0 k_is_number (hr.mono (by decide)) (by rfl) T.f_is_number.g T.f_is_number.F.kp T.f_is_number.b tk (da_cons (dx_cut (dx_var (pv 0)) (dp_some dx_int) dp_none) da_nil) (len_cons len_nil)))))))))))
theorem k_first_wrong_ (T : Tx K mg ad fs cs) : FnG P w K mg base (L2.CX P w) 3 (ad 12) (fs 12) ["words", "names"] (spD K 2 (m_first_wrong cs)) := by
  refine fn_mirror (N := sc_first_wrong_N) T.f_first_wrong.F sc_first_wrong fun X pvs W cdv A outer s H E hX tk hr => ?_
  subst hX
  have hu := hr.units
  have k_is_step_word := k_is_step_word_ (P := P) (w := w) (base := base) T
  have k_is_number := k_is_number_ (P := P) (w := w) (base := base) T
  exact (dss_cons (ds_set (i := 2) sc_first_wrong.nd rfl (by first | exact Or.inl rfl | exact Or.inr rfl) (DX.own dx_int))
    (dss_cons (ds_set (i := 3) sc_first_wrong.nd rfl (by first | exact Or.inl rfl | exact Or.inr rfl) (DX.own dx_bl))
    (dss_cons (ds_for (passes_of rfl) rfl (di_enum (by rfl) T.z_enumerate (da_cons (dx_var (pv 0)) da_nil)) (dg_tup rfl (dgs_cons (dg_name (i := 4) sc_first_wrong.nd rfl (by first | exact Or.inl rfl | exact Or.inr rfl)) (dgs_cons (dg_name (i := 5) sc_first_wrong.nd rfl (by first | exact Or.inl rfl | exact Or.inr rfl)) dgs_nil))) (dss_cons (ds_if (dt_cmp (op_eqX hu) f_eq (dx_var (pv 5)) dx_str (nomark _)) (dss_cons (ds_set (i := 2) sc_first_wrong.nd rfl (by first | exact Or.inl rfl | exact Or.inr rfl) (DX.own (dx_op2 op_addX f_add (dx_var (pv 2)) dx_int))) (dss_cons (ds_set (i := 3) sc_first_wrong.nd rfl (by first | exact Or.inl rfl | exact Or.inr rfl) (DX.own dx_bl)) (dss_one (ds_if (dt_cmp op_gt f_gt (dx_var (pv 2)) (dx_const (v := .int 12) (by rfl) T.v_MOST_DEPTH fun _ => .int _) (nomark _)) (dss_one (ds_ret (DX.own (dx_var (pv 4))))) dss_nil)))) (dss_one (ds_if (dt_cmp (op_eqX hu) f_eq (dx_cut (dx_var (pv 5)) dp_none (dp_some dx_int)) dx_str (nomark _)) (dss_cons (ds_if (DW.dt (dw_or (dt_cmp (op_eqX hu) f_eq (dx_var (pv 2)) dx_int (nomark _)) (dw_or (dt_val (dx_var (pv 3))) (dw_or1 (dt_not (dt_val (DO.frz (do_call0 k_is_number (hr.mono (by decide)) (by rfl) T.f_is_number.g T.f_is_number.F.kp T.f_is_number.b tk (da_cons (dx_cut (dx_var (pv 5)) (dp_some dx_int) dp_none) da_nil) (len_cons len_nil))))))))) (dss_one (ds_ret (DX.own (dx_var (pv 4))))) dss_nil) (dss_one (ds_set (i := 2) sc_first_wrong.nd rfl (by first | exact Or.inl rfl | exact Or.inr rfl) (DX.own (dx_op2 op_sub f_sub (dx_var (pv 2)) dx_int))))) (dss_one (ds_if (DW.dt (dw_or (dt_val (DO.frz (do_call0 k_is_step_word (hr.mono (by decide)) (by rfl) T.f_is_step_word.g T.f_is_step_word.F.kp T.f_is_step_word.b tk (da_cons (dx_var (pv 5)) da_nil) (len_cons len_nil)))) (dw_or1 (dt_cmp op_in2 f_in2 (dx_var (pv 5)) (dx_var (pv 1)) (by with_unfolding_all rfl))))) (dss_one (ds_set (i := 3) sc_first_wrong.nd rfl (by first | exact Or.inl rfl | exact Or.inr rfl) (DX.own dx_bl))) (dss_one (ds_ret (DX.own (dx_var (pv 4)))))))))) (dss_one (ds_if (dt_cmp op_gt f_gt (dx_op2 op_addX f_add (dx_op2 op_addX f_add (dx_op2 op_addX f_add (dx_var (pv 4)) dx_int) (dx_var (pv 2))) (dx_callTy call_int2 f_int2 (by rfl) T.z_int bo_int (da_cons (dx_var (pv 3)) da_nil))) (dx_const (v := .int 1000) (by rfl) T.v_MOST_WORDS fun _ => .int _) (nomark _)) (dss_one (ds_ret (DX.own (dx_var (pv 4))))) dss_nil))))
    (dss_one (ds_ret (DX.own (dx_if (dt_cmp (op_eqX hu) f_eq (dx_var (pv 2)) dx_int (nomark _)) dx_non (dx_callB call_len f_len (by rfl) T.z_len bo_len (da_cons (dx_var (pv 0)) da_nil)))))))))
theorem k_is_title_ (T : Tx K mg ad fs cs) : FnG P w K mg base (L2.CX P w) 1 (ad 13) (fs 13) ["word", "names"] (spD K 2 (m_is_title cs)) := by
  refine fn_mirror (N := sc_is_title_N) T.f_is_title.F sc_is_title fun X pvs W cdv A outer s H E hX tk hr => ?_
  subst hX
  have hu := hr.units
  exact (dss_cons (ds_set (i := 2) sc_is_title.nd rfl (by first | exact Or.inl rfl | exact Or.inr rfl) (DX.own (dx_cut (dx_var (pv 0)) dp_none (dp_some (dx_neg dx_int)))))
    (dss_cons (ds_if (DW.dt (dw_or (dt_cmp (op_neX hu) f_ne (dx_cut (dx_var (pv 0)) (dp_some (dx_neg dx_int)) dp_none) dx_str (nomark _)) (dw_or (dt_not (dt_chain op_le op_le f_le f_le dx_int (dx_callB call_len f_len (by rfl) T.z_len bo_len (da_cons (dx_var (pv 2)) da_nil)) dx_int)) (dw_or1 (dt_cmp op_in2 f_in2 (dx_var (pv 2)) (dx_var (pv 1)) (by with_unfolding_all rfl)))))) (dss_one (ds_ret (DX.own dx_bl))) dss_nil)
    (dss_one (ds_ret (DX.own (dx_callB (cr_all rfl) f_all (by rfl) T.z_all bo_all (da_cons (DO.frz (do_comp (own := [("sign", 3)]) rfl sc_is_title.nd (di_str (dx_var (pv 2))) (blkOk_by (N := sc_is_title_N) (sc := defScope s_is_title) (own := [("sign", 3)]) (by decide +kernel)) (fun _ _ _ _ _ => (dg_name (i := 3) sc_is_title.nd rfl (by first | exact Or.inl rfl | exact Or.inr rfl))) (fun _ _ _ _ _ => dts_nil) (fun _ _ _ _ _ => (dx_cmp op_in2 f_in2 (dx_var (pv 3)) (dx_const (v := .str "abcdefghijklmnopqrstuvwxyz") (by rfl) T.v_SMALL fun _ => .str _) (by with_unfolding_all rfl))) (by decide) (wip_name))) da_nil)))))))
theorem k_wrong_word_ (T : Tx K mg ad fs cs) : FnG P w K mg base (L2.CX P w) 4 (ad 14) (fs 14) ["words", "names", "is_last"] (spD K 3 (m_wrong_word cs)) := by
  refine fn_mirror (N := sc_wrong_word_N) T.f_wrong_word.F sc_wrong_word fun X pvs W cdv A outer s H E hX tk hr => ?_
  subst hX
  have hu := hr.units
  have k_first_wrong := k_first_wrong_ (P := P) (w := w) (base := base) T
  have k_is_title := k_is_title_ (P := P) (w := w) (base := base) T
  exact (dss_cons (ds_if (dt_val (dx_var (pv 2))) (dss_one (ds_ret (do_call0 k_first_wrong (hr.mono (by decide)) (by rfl) T.f_first_wrong.g T.f_first_wrong.F.kp T.f_first_wrong.b tk (da_cons (dx_var (pv 0)) (da_cons (dx_var (pv 1)) da_nil)) (len_cons (len_cons len_nil))))) dss_nil)
    (dss_cons (ds_if (DW.dt (dw_or (dt_cmp (op_eqX hu) f_eq (dx_var (pv 0)) (DO.frz (do_lst da_nil)) (nomark _)) (dw_or1 (dt_not (dt_val (DO.frz (do_call0 k_is_title (hr.mono (by decide)) (by rfl) T.f_is_title.g T.f_is_title.F.kp T.f_is_title.b tk (da_cons (dx_ix (dx_var (pv 0)) dx_int) (da_cons (dx_var (pv 1)) da_nil)) (len_cons (len_cons len_nil))))))))) (dss_one (ds_ret (DX.own dx_int))) dss_nil)
    (dss_cons (ds_if (dt_cmp (op_eqX hu) f_eq (dx_callB call_len f_len (by rfl) T.z_len bo_len (da_cons (dx_var (pv 0)) da_nil)) dx_int (nomark _)) (dss_one (ds_ret (DX.own dx_int))) dss_nil)
    (dss_cons (ds_set (i := 3) sc_wrong_word.nd rfl (by first | exact Or.inl rfl | exact Or.inr rfl) (DO.fz (do_call0 k_first_wrong (hr.mono (by decide)) (by rfl) T.f_first_wrong.g T.f_first_wrong.F.kp T.f_first_wrong.b tk (da_cons (dx_cut (dx_var (pv 0)) (dp_some dx_int) dp_none) (da_cons (dx_var (pv 1)) da_nil)) (len_cons (len_cons len_nil)))))
    (dss_one (ds_ret (DX.own (dx_if (dt_cmp op_isN f_isN (dx_var (pv 3)) dx_non (nomark _)) dx_non (dx_op2 op_addX f_add (dx_var (pv 3)) dx_int)))))))))
theorem k_lines_in_ (T : Tx K mg ad fs cs) : FnG P w K mg base (L2.CX P w) 5 (ad 15) (fs 15) ["source"] (spD K 1 (m_lines_in cs)) := by
  refine fn_mirror (N := sc_lines_in_N) T.f_lines_in.F sc_lines_in fun X pvs W cdv A outer s H E hX tk hr => ?_
  subst hX
  have hu := hr.units
  have k_words_of := k_words_of_ (P := P) (w := w) (base := base) T
  have k_wrong_word := k_wrong_word_ (P := P) (w := w) (base := base) T
  exact (dss_cons (ds_if (dt_not (dt_val (dx_callB call_isi f_isi (by rfl) T.z_isinstance bo_isinstance (da_cons (dx_var (pv 0)) (da_cons (dx_ty (by rfl) T.z_str bo_str) da_nil))))) (dss_one ds_never) dss_nil)
    (dss_cons (ds_set (i := 1) sc_lines_in.nd rfl (by first | exact Or.inl rfl | exact Or.inr rfl) (DO.fz (do_split (dx_var (pv 0)) (da_cons dx_str da_nil))))
    (dss_cons (ds_set (i := 2) sc_lines_in.nd rfl (by first | exact Or.inl rfl | exact Or.inr rfl) (do_lst da_nil))
    (dss_cons (ds_set (i := 3) sc_lines_in.nd rfl (by first | exact Or.inl rfl | exact Or.inr rfl) (do_lst da_nil))
    (dss_cons (ds_for (passes_of rfl) rfl (di_enum (by rfl) T.z_enumerate (da_cons (dx_var (pv 1)) da_nil)) (dg_tup rfl (dgs_cons (dg_name (i := 4) sc_lines_in.nd rfl (by first | exact Or.inl rfl | exact Or.inr rfl)) (dgs_cons (dg_name (i := 5) sc_lines_in.nd rfl (by first | exact Or.inl rfl | exact Or.inr rfl)) dgs_nil))) (dss_cons (ds_if (dt_cmp (op_eqX hu) f_eq (dx_var (pv 4)) (dx_const (v := .int 20) (by rfl) T.v_MOST_LINES fun _ => .int _) (nomark _)) (dss_one ds_never) dss_nil) (dss_cons (ds_set (i := 6) sc_lines_in.nd rfl (by first | exact Or.inl rfl | exact Or.inr rfl) (DO.fz (do_call0 k_words_of (hr.mono (by decide)) (by rfl) T.f_words_of.g T.f_words_of.F.kp T.f_words_of.b tk (da_cons (dx_var (pv 5)) da_nil) (len_cons len_nil)))) (dss_cons (ds_set (i := 7) sc_lines_in.nd rfl (by first | exact Or.inl rfl | exact Or.inr rfl) (DX.own (dx_cmp (op_eqX hu) f_eq (dx_var (pv 4)) (dx_op2 op_sub f_sub (dx_callB call_len f_len (by rfl) T.z_len bo_len (da_cons (dx_var (pv 1)) da_nil)) dx_int) (nomark _)))) (dss_cons (ds_set (i := 8) sc_lines_in.nd rfl (by first | exact Or.inl rfl | exact Or.inr rfl) (DO.fz (DX.own (dx_lendO (DO.frz (do_call0 k_wrong_word (hr.mono (by decide)) (by rfl) T.f_wrong_word.g T.f_wrong_word.F.kp T.f_wrong_word.b tk (da_cons (dx_var (pv 6)) (da_cons (dx_var (pv 2)) (da_cons (dx_var (pv 7)) da_nil))) (len_cons (len_cons (len_cons len_nil))))))))) (dss_cons (ds_if (dt_cmp op_notN f_notN (dx_var (pv 8)) dx_non (nomark _)) (dss_one ds_never) dss_nil) (dss_cons (ds_if (dt_not (dt_val (dx_var (pv 7)))) (dss_cons (ds_app (pv 2) (DX.own (dx_cut (dx_ix (dx_var (pv 6)) dx_int) dp_none (dp_some (dx_neg dx_int))))) (dss_one (ds_set (i := 6) sc_lines_in.nd rfl (by first | exact Or.inl rfl | exact Or.inr rfl) (DO.fz (do_cut (DX.dq (dx_var (pv 6))) (dp_some dx_int) dp_none))))) dss_nil) (dss_one (ds_app (pv 3) (DX.own (dx_var (pv 6))))))))))))
    (dss_one (ds_ret (do_pairO (pv 2) (pv 3) (by decide)))))))))
theorem k_names_of_ (T : Tx K mg ad fs cs) : FnG P w K mg base (L2.CX P w) 6 (ad 16) (fs 16) ["source"] (spD K 1 (m_names_of cs)) := by
  refine fn_mirror (N := sc_names_of_N) T.f_names_of.F sc_names_of fun X pvs W cdv A outer s H E hX tk hr => ?_
  subst hX
  have hu := hr.units
  have k_lines_in := k_lines_in_ (P := P) (w := w) (base := base) T
  exact (dss_one (ds_ret (do_part (do_call0 k_lines_in (hr.mono (by decide)) (by rfl) T.f_lines_in.g T.f_lines_in.F.kp T.f_lines_in.b tk (da_cons (dx_var (pv 0)) da_nil) (len_cons len_nil)))))
theorem k_Program_text_ (T : Tx K mg ad fs cs) : FnG P w K mg base (L2.CX P w) 1 (ad 17) (fs 17) ["self"] (spD K 1 (m_Program_text cs)) := by
  refine fn_mirror (N := sc_Program_text_N) T.f_Program_text.F sc_Program_text fun X pvs W cdv A outer s H E hX tk hr => ?_
  subst hX
  have hu := hr.units
  exact (dss_one (ds_ret (DX.own (dx_fld (ok := (fun C => C == cs 0)) (dx_var (pv 0)) (fun C h => by cases beq_iff_eq.mp h; exact ⟨T.c_Program.cl, T.n_Program_own_text⟩)))))
theorem k_sizes_in_ (T : Tx K mg ad fs cs) : FnG P w K mg base (L2.CX P w) 1 (ad 18) (fs 18) ["names", "found"] (spD K 2 (m_sizes_in cs)) := by
  refine fn_mirror (N := sc_sizes_in_N) T.f_sizes_in.F sc_sizes_in fun X pvs W cdv A outer s H E hX tk hr => ?_
  subst hX
  have hu := hr.units
  exact (dss_cons (ds_set (i := 2) sc_sizes_in.nd rfl (by first | exact Or.inl rfl | exact Or.inr rfl) (do_lst da_nil))
    (dss_cons (ds_set (i := 3) sc_sizes_in.nd rfl (by first | exact Or.inl rfl | exact Or.inr rfl) (do_lst da_nil))
    (dss_cons (ds_setDcS (i := 4) (own := [("index", 5), ("name", 6)]) rfl sc_sizes_in.nd rfl rfl (swD rfl rfl rfl (by decide +kernel)) (di_enum (by rfl) T.z_enumerate (da_cons (dx_var (pv 0)) da_nil)) (blkOk_by (N := sc_sizes_in_N) (sc := defScope s_sizes_in) (own := [("index", 5), ("name", 6)]) (by decide +kernel)) (fun _ _ _ _ _ => (dg_tup rfl (dgs_cons (dg_name (i := 5) sc_sizes_in.nd rfl (by first | exact Or.inl rfl | exact Or.inr rfl)) (dgs_cons (dg_name (i := 6) sc_sizes_in.nd rfl (by first | exact Or.inl rfl | exact Or.inr rfl)) dgs_nil)))) (fun _ _ _ _ _ => (dx_var (pv 6))) (fun _ _ _ _ _ => (dx_var (pv 5))) (by decide) (wip_tup (wip_cons (wip_name) (wip_cons (wip_name) wip_nil))))
    (dss_cons (ds_for (passes_of rfl) rfl (di_list (dx_var (pv 1))) (dg_name (i := 7) sc_sizes_in.nd rfl (by first | exact Or.inl rfl | exact Or.inr rfl)) (dss_cons (ds_set (i := 8) sc_sizes_in.nd rfl (by first | exact Or.inl rfl | exact Or.inr rfl) (DX.own dx_int)) (dss_cons (ds_set (i := 9) sc_sizes_in.nd rfl (by first | exact Or.inl rfl | exact Or.inr rfl) (DX.own dx_int)) (dss_cons (ds_set (i := 10) sc_sizes_in.nd rfl (by first | exact Or.inl rfl | exact Or.inr rfl) (DX.own dx_int)) (dss_cons (ds_for (passes_of rfl) rfl (di_list (dx_var (pv 7))) (dg_name (i := 11) sc_sizes_in.nd rfl (by first | exact Or.inl rfl | exact Or.inr rfl)) (dss_one (ds_if (dt_inS (by exact un1 hr.units) (dx_var (pv 11)) (dx_var (pv 4)) (by with_unfolding_all rfl)) (dss_cons (ds_aug (i := 8) sc_sizes_in.nd rfl (by first | exact Or.inl rfl | exact Or.inr rfl) iop_addX f_add (dx_at (dq_see (pv 2)) (dx_sitem (by exact un1 hr.units) (dx_var (pv 4)) (dx_var (pv 11))))) (dss_one (ds_set (i := 10) sc_sizes_in.nd rfl (by first | exact Or.inl rfl | exact Or.inr rfl) (DX.own (dx_callB (call_maxX rfl) f_max (by rfl) T.z_max bo_max (da_cons (dx_var (pv 10)) (da_cons (dx_op2 op_addX f_add (dx_var (pv 9)) (dx_at (dq_see (pv 3)) (dx_sitem (by exact un1 hr.units) (dx_var (pv 4)) (dx_var (pv 11))))) da_nil))))))) (dss_cons (ds_aug (i := 8) sc_sizes_in.nd rfl (by first | exact Or.inl rfl | exact Or.inr rfl) iop_addX f_add dx_int) (dss_cons (ds_aug (i := 9) sc_sizes_in.nd rfl (by first | exact Or.inl rfl | exact Or.inr rfl) iop_addX f_add (dx_op2 op_sub f_sub (dx_callTy call_int2 f_int2 (by rfl) T.z_int bo_int (da_cons (dx_cmp (op_eqX hu) f_eq (dx_var (pv 11)) dx_str (nomark _)) da_nil)) (dx_callTy call_int2 f_int2 (by rfl) T.z_int bo_int (da_cons (dx_cmp (op_eqX hu) f_eq (dx_ix (dx_var (pv 11)) dx_int) dx_str (nomark _)) da_nil)))) (dss_one (ds_set (i := 10) sc_sizes_in.nd rfl (by first | exact Or.inl rfl | exact Or.inr rfl) (DX.own (dx_callB (call_maxX rfl) f_max (by rfl) T.z_max bo_max (da_cons (dx_var (pv 10)) (da_cons (dx_var (pv 9)) da_nil))))))))))) (dss_cons (ds_app (pv 2) (DX.own (dx_var (pv 8)))) (dss_one (ds_app (pv 3) (DX.own (dx_var (pv 10)))))))))))
    (dss_one (ds_ret (DX.own (dx_tup (da_cons (dx_frz (pv 2)) (da_cons (dx_frz (pv 3)) da_nil))))))))))
theorem k_nodes_from_ (T : Tx K mg ad fs cs) : ∀ n : Nat, FnG P w K mg base (L2.CX P w) (n + 1) (ad 19) (fs 19) ["words", "place"] (spD K 2 (m_nodes_from cs n))
  | 0 => fn_bad
  | n + 1 => by
    have k_nodes_from := k_nodes_from_ T n
    refine fn_mirror (N := sc_nodes_from_N) T.f_nodes_from.F sc_nodes_from fun X pvs W cdv A outer s H E hX tk hr => ?_
    subst hX
    have hu := hr.units
    exact (dss_cons (ds_set (i := 2) sc_nodes_from.nd rfl (by first | exact Or.inl rfl | exact Or.inr rfl) (do_lst da_nil))
      (dss_cons (ds_while (fun _ => 100000) (passes_of rfl) (DW.dt (dw_and (dt_cmp op_ltX f_lt (dx_var (pv 1)) (dx_callB call_len f_len (by rfl) T.z_len bo_len (da_cons (dx_var (pv 0)) da_nil)) (nomark _)) (dw_and1 (dt_cmp (op_neX hu) f_ne (dx_ix (dx_ix (dx_var (pv 0)) (dx_var (pv 1))) dx_int) dx_str (nomark _))))) (dss_cons (ds_set (i := 3) sc_nodes_from.nd rfl (by first | exact Or.inl rfl | exact Or.inr rfl) (DX.own (dx_ix (dx_var (pv 0)) (dx_var (pv 1))))) (dss_cons (ds_if (dt_cmp (op_eqX hu) f_eq (dx_var (pv 3)) dx_str (nomark _)) (dss_cons (ds_asg (DO.frz (do_call0 k_nodes_from (hr.mono (by omega)) (by rfl) T.f_nodes_from.g T.f_nodes_from.F.kp T.f_nodes_from.b tk (da_cons (dx_var (pv 0)) (da_cons (dx_op2 op_addX f_add (dx_var (pv 1)) dx_int) da_nil)) (len_cons (len_cons len_nil)))) (dg_tup rfl (dgs_cons (dg_name (i := 4) sc_nodes_from.nd rfl (by first | exact Or.inl rfl | exact Or.inr rfl)) (dgs_cons (dg_name (i := 1) sc_nodes_from.nd rfl (by first | exact Or.inl rfl | exact Or.inr rfl)) dgs_nil)))) (dss_one (ds_app (pv 2) (DX.own (dx_tup (da_cons (dx_var (pv 4)) (da_cons (dx_callTy call_int2 f_int2 (by rfl) T.z_int bo_int (da_cons (dx_cut (dx_ix (dx_var (pv 0)) (dx_var (pv 1))) (dp_some dx_int) dp_none) da_nil)) da_nil))))))) (dss_one (ds_app (pv 2) (DX.own (dx_tup (da_cons (dx_ix (dx_var (pv 3)) dx_int) (da_cons (dx_if (dt_cmp op_gt f_gt (dx_callB call_len f_len (by rfl) T.z_len bo_len (da_cons (dx_var (pv 3)) da_nil)) dx_int (nomark _)) (dx_callTy call_int2 f_int2 (by rfl) T.z_int bo_int (da_cons (dx_cut (dx_var (pv 3)) (dp_some dx_int) dp_none) da_nil)) dx_int) da_nil))))))) (dss_one (ds_set (i := 1) sc_nodes_from.nd rfl (by first | exact Or.inl rfl | exact Or.inr rfl) (DX.own (dx_op2 op_addX f_add (dx_var (pv 1)) dx_int)))))))
      (dss_one (ds_ret (DX.own (dx_tup (da_cons (dx_callTyT call_tuple_of f_tupOf (by rfl) T.z_tuple bo_tuple (da_cons (dx_frz (pv 2)) da_nil)) (da_cons (dx_var (pv 1)) da_nil))))))))
theorem k_nodes_in_ (T : Tx K mg ad fs cs) : FnG P w K mg base (L2.CX P w) 18 (ad 20) (fs 20) ["words"] (spD K 1 (m_nodes_in cs)) := by
  refine fn_mirror (N := sc_nodes_in_N) T.f_nodes_in.F sc_nodes_in fun X pvs W cdv A outer s H E hX tk hr => ?_
  subst hX
  have hu := hr.units
  have k_nodes_from := k_nodes_from_ (P := P) (w := w) (base := base) T 16
  exact (dss_one (ds_ret (DX.own (dx_ix (DO.frz (do_call0 k_nodes_from (hr.mono (by decide)) (by rfl) T.f_nodes_from.g T.f_nodes_from.F.kp T.f_nodes_from.b tk (da_cons (dx_var (pv 0)) (da_cons dx_int da_nil)) (len_cons (len_cons len_nil)))) dx_int))))
theorem k_length_in_ (T : Tx K mg ad fs cs) : ∀ n : Nat, FnG P w K mg base (L2.CX P w) (n + 1) (ad 21) (fs 21) ["nodes"] (spD K 1 (m_length_in cs n))
  | 0 => fn_bad
  | n + 1 => by
    have k_length_in := k_length_in_ T n
    refine fn_mirror (N := sc_length_in_N) T.f_length_in.F sc_length_in fun X pvs W cdv A outer s H E hX tk hr => ?_
    subst hX
    have hu := hr.units
    exact (dss_cons (ds_set (i := 1) sc_length_in.nd rfl (by first | exact Or.inl rfl | exact Or.inr rfl) (DX.own dx_int))
      (dss_cons (ds_for (passes_of rfl) rfl (di_tup (dx_var (pv 0))) (dg_tup rfl (dgs_cons (dg_name (i := 2) sc_length_in.nd rfl (by first | exact Or.inl rfl | exact Or.inr rfl)) (dgs_cons (dg_name (i := 3) sc_length_in.nd rfl (by first | exact Or.inl rfl | exact Or.inr rfl)) dgs_nil))) (dss_one (ds_set (i := 1) sc_length_in.nd rfl (by first | exact Or.inl rfl | exact Or.inr rfl) (DX.own (dx_op2 op_addX f_add (dx_var (pv 1)) (dx_op2 op_mulW f_mul (dx_var (pv 3)) (dx_if (dt_val (dx_callB call_isi f_isi (by rfl) T.z_isinstance bo_isinstance (da_cons (dx_var (pv 2)) (da_cons (dx_ty (by rfl) T.z_str bo_str) da_nil)))) dx_int (DO.frz (do_call0 k_length_in (hr.mono (by omega)) (by rfl) T.f_length_in.g T.f_length_in.F.kp T.f_length_in.b tk (da_cons (dx_var (pv 2)) da_nil) (len_cons len_nil))))))))))
      (dss_one (ds_ret (DX.own (dx_var (pv 1)))))))
theorem k_depth_in_ (T : Tx K mg ad fs cs) : ∀ n : Nat, FnG P w K mg base (L2.CX P w) (n + 1) (ad 22) (fs 22) ["nodes"] (spD K 1 (m_depth_in cs n))
  | 0 => fn_bad
  | n + 1 => by
    have k_depth_in := k_depth_in_ T n
    refine fn_mirror (N := sc_depth_in_N) T.f_depth_in.F sc_depth_in fun X pvs W cdv A outer s H E hX tk hr => ?_
    subst hX
    have hu := hr.units
    exact (dss_one (ds_ret (DX.own (dx_callB (call_maxX rfl) f_max (by rfl) T.z_max bo_max (da_cons (DO.frz (do_cat (DO.dq (do_lst (da_cons dx_int da_nil))) (DO.dq (do_comp (own := [("body", 1), ("number", 2)]) rfl sc_depth_in.nd (di_tup (dx_var (pv 0))) (blkOk_by (N := sc_depth_in_N) (sc := defScope s_depth_in) (own := [("body", 1), ("number", 2)]) (by decide +kernel)) (fun _ _ _ _ _ => (dg_tup rfl (dgs_cons (dg_name (i := 1) sc_depth_in.nd rfl (by first | exact Or.inl rfl | exact Or.inr rfl)) (dgs_cons (dg_name (i := 2) sc_depth_in.nd rfl (by first | exact Or.inl rfl | exact Or.inr rfl)) dgs_nil)))) (fun _ _ _ _ _ => (dts_one (dt_not (dt_val (dx_callB call_isi f_isi (by rfl) T.z_isinstance bo_isinstance (da_cons (dx_var (pv 1)) (da_cons (dx_ty (by rfl) T.z_str bo_str) da_nil))))))) (fun _ _ _ _ _ => (dx_op2 op_addX f_add dx_int (DO.frz (do_call0 k_depth_in (hr.mono (by omega)) (by rfl) T.f_depth_in.g T.f_depth_in.F.kp T.f_depth_in.b takes0 (da_cons (dx_var (pv 1)) da_nil) (len_cons len_nil))))) (by decide) (wip_tup (wip_cons (wip_name) (wip_cons (wip_name) wip_nil))))))) da_nil)))))
theorem k_Program___init___ (T : Tx K mg ad fs cs) : FnG P w K mg base (L2.CX P w) 19 (ad 23) (fs 23) ["self", "text"] (spD K 2 (m_Program___init__ cs)) := by
  refine fn_mirror (N := sc_Program___init___N) T.f_Program___init__.F sc_Program___init__ fun X pvs W cdv A outer s H E hX tk hr => ?_
  subst hX
  have hu := hr.units
  have k_words_of := k_words_of_ (P := P) (w := w) (base := base) T
  have k_first_wrong := k_first_wrong_ (P := P) (w := w) (base := base) T
  have k_nodes_in := k_nodes_in_ (P := P) (w := w) (base := base) T
  have k_length_in := k_length_in_ (P := P) (w := w) (base := base) T 16
  have k_depth_in := k_depth_in_ (P := P) (w := w) (base := base) T 16
  exact (dss_cons (ds_if (dt_not (dt_val (dx_callB call_isi f_isi (by rfl) T.z_isinstance bo_isinstance (da_cons (dx_var (pv 1)) (da_cons (dx_ty (by rfl) T.z_str bo_str) da_nil))))) (dss_one ds_never) dss_nil)
    (dss_cons (ds_set (i := 2) sc_Program___init__.nd rfl (by first | exact Or.inl rfl | exact Or.inr rfl) (DO.fz (do_call0 k_words_of (hr.mono (by decide)) (by rfl) T.f_words_of.g T.f_words_of.F.kp T.f_words_of.b tk (da_cons (dx_var (pv 1)) da_nil) (len_cons len_nil))))
    (dss_cons (ds_set (i := 3) sc_Program___init__.nd rfl (by first | exact Or.inl rfl | exact Or.inr rfl) (DO.fz (do_call0 k_first_wrong (hr.mono (by decide)) (by rfl) T.f_first_wrong.g T.f_first_wrong.F.kp T.f_first_wrong.b tk (da_cons (dx_var (pv 2)) (da_cons (DO.frz (do_lst da_nil)) da_nil)) (len_cons (len_cons len_nil)))))
    (dss_cons (ds_if (dt_cmp op_notN f_notN (dx_var (pv 3)) dx_non (nomark _)) (dss_one ds_never) dss_nil)
    (dss_cons (ds_fld (ok := (fun C => C == cs 0)) (pv 0) (DX.own (dx_var (pv 1))) (fun C h => by cases beq_iff_eq.mp h; exact ⟨T.c_Program.cl, T.n_Program_own_text⟩))
    (dss_cons (ds_fld (ok := (fun C => C == cs 0)) (pv 0) (DX.own (dx_callTyT call_tuple_of f_tupOf (by rfl) T.z_tuple bo_tuple (da_cons (dx_var (pv 2)) da_nil))) (fun C h => by cases beq_iff_eq.mp h; exact ⟨T.c_Program.cl, T.n_Program_own_words⟩))
    (dss_cons (ds_fld (ok := (fun C => C == cs 0)) (pv 0) (DO.fz (do_call0 k_nodes_in (hr.mono (by decide)) (by rfl) T.f_nodes_in.g T.f_nodes_in.F.kp T.f_nodes_in.b tk (da_cons (dx_var (pv 2)) da_nil) (len_cons len_nil))) (fun C h => by cases beq_iff_eq.mp h; exact ⟨T.c_Program.cl, T.n_Program_own_nodes⟩))
    (dss_cons (ds_fld (ok := (fun C => C == cs 0)) (pv 0) (DO.fz (do_call0 k_length_in (hr.mono (by decide)) (by rfl) T.f_length_in.g T.f_length_in.F.kp T.f_length_in.b tk (da_cons (dx_fldO (ok := (fun C => C == cs 0)) (pv 0) (fun C h => by cases beq_iff_eq.mp h; exact ⟨T.c_Program.cl, T.n_Program_own_nodes⟩)) da_nil) (len_cons len_nil))) (fun C h => by cases beq_iff_eq.mp h; exact ⟨T.c_Program.cl, T.n_Program_own_length⟩))
    (dss_one (ds_fld (ok := (fun C => C == cs 0)) (pv 0) (DO.fz (do_call0 k_depth_in (hr.mono (by decide)) (by rfl) T.f_depth_in.g T.f_depth_in.F.kp T.f_depth_in.b tk (da_cons (dx_fldO (ok := (fun C => C == cs 0)) (pv 0) (fun C h => by cases beq_iff_eq.mp h; exact ⟨T.c_Program.cl, T.n_Program_own_nodes⟩)) da_nil) (len_cons len_nil))) (fun C h => by cases beq_iff_eq.mp h; exact ⟨T.c_Program.cl, T.n_Program_own_depth⟩)))))))))))
theorem k_text_of_ (T : Tx K mg ad fs cs) : ∀ n : Nat, FnG P w K mg base (L2.CX P w) (n + 1) (ad 24) (fs 24) ["names", "found", "line"] (spD K 3 (m_text_of cs n))
  | 0 => fn_bad
  | n + 1 => by
    have k_text_of := k_text_of_ T n
    refine fn_mirror (N := sc_text_of_N) T.f_text_of.F sc_text_of fun X pvs W cdv A outer s H E hX tk hr => ?_
    subst hX
    have hu := hr.units
    exact (dss_cons (ds_set (i := 3) sc_text_of.nd rfl (by first | exact Or.inl rfl | exact Or.inr rfl) (DX.own (DO.frz (do_dcS (own := [("index", 4), ("name", 5)]) (un0 hr.units) rfl sc_text_of.nd (di_enum (by rfl) T.z_enumerate (da_cons (dx_var (pv 0)) da_nil)) (blkOk_by (N := sc_text_of_N) (sc := defScope s_text_of) (own := [("index", 4), ("name", 5)]) (by decide +kernel)) (fun _ _ _ _ _ => (dg_tup rfl (dgs_cons (dg_name (i := 4) sc_text_of.nd rfl (by first | exact Or.inl rfl | exact Or.inr rfl)) (dgs_cons (dg_name (i := 5) sc_text_of.nd rfl (by first | exact Or.inl rfl | exact Or.inr rfl)) dgs_nil)))) (fun _ _ _ _ _ => (dx_var (pv 5))) (fun _ _ _ _ _ => (dx_var (pv 4))) (by decide) (wip_tup (wip_cons (wip_name) (wip_cons (wip_name) wip_nil)))))))
      (dss_cons (ds_setCompF (i := 6) (own := [("word", 7)]) rfl sc_text_of.nd rfl rfl (sw_true rfl rfl rfl (by decide +kernel)) (di_list (dx_ix (dx_var (pv 1)) (dx_var (pv 2)))) (blkOk_by (N := sc_text_of_N) (sc := defScope s_text_of) (own := [("word", 7)]) (by decide +kernel)) (fun _ _ _ _ _ => (dg_name (i := 7) sc_text_of.nd rfl (by first | exact Or.inl rfl | exact Or.inr rfl))) (fun _ _ _ _ _ => dts_nil) (fun _ _ _ _ _ => (dx_if (dt_inS (by exact un1 hr.units) (dx_var (pv 7)) (dx_var (pv 3)) (by with_unfolding_all rfl)) (DO.frz (do_call0 k_text_of (hr.mono (by omega)) (by rfl) T.f_text_of.g T.f_text_of.F.kp T.f_text_of.b takes0 (da_cons (dx_var (pv 0)) (da_cons (dx_var (pv 1)) (da_cons (dx_sitem (by exact un1 hr.units) (dx_var (pv 3)) (dx_var (pv 7))) da_nil))) (len_cons (len_cons (len_cons len_nil))))) (dx_var (pv 7)))) (by decide) (wip_name))
      (dss_one (ds_ret (DX.own (dx_join dx_str (da_cons (DO.frz (do_comp (own := [("part", 8)]) rfl sc_text_of.nd (di_list (dx_var (pv 6))) (blkOk_by (N := sc_text_of_N) (sc := defScope s_text_of) (own := [("part", 8)]) (by decide +kernel)) (fun _ _ _ _ _ => (dg_name (i := 8) sc_text_of.nd rfl (by first | exact Or.inl rfl | exact Or.inr rfl))) (fun _ _ _ _ _ => (dts_one (dt_cmp (op_neX hu) f_ne (dx_var (pv 8)) dx_str (nomark _)))) (fun _ _ _ _ _ => (dx_var (pv 8))) (by decide) (wip_name))) da_nil)))))))
theorem k_program_of_ (T : Tx K mg ad fs cs) : FnG P w K mg base (L2.CX P w) 35 (ad 25) (fs 25) ["names", "found", "line"] (spD K 3 (m_program_of cs)) := by
  refine fn_mirror (N := sc_program_of_N) T.f_program_of.F sc_program_of fun X pvs W cdv A outer s H E hX tk hr => ?_
  subst hX
  have hu := hr.units
  have k_sizes_in := k_sizes_in_ (P := P) (w := w) (base := base) T
  have k_Program___init__ := k_Program___init___ (P := P) (w := w) (base := base) T
  have k_text_of := k_text_of_ (P := P) (w := w) (base := base) T 32
  exact (dss_cons (ds_asg (DO.frz (do_call0 k_sizes_in (hr.mono (by decide)) (by rfl) T.f_sizes_in.g T.f_sizes_in.F.kp T.f_sizes_in.b tk (da_cons (dx_var (pv 0)) (da_cons (dx_var (pv 1)) da_nil)) (len_cons (len_cons len_nil)))) (dg_tup rfl (dgs_cons (dg_name (i := 3) sc_program_of.nd rfl (by first | exact Or.inl rfl | exact Or.inr rfl)) (dgs_cons (dg_name (i := 4) sc_program_of.nd rfl (by first | exact Or.inl rfl | exact Or.inr rfl)) dgs_nil))))
    (dss_cons (ds_if (dt_cmp op_gt f_gt (dx_ix (dx_var (pv 3)) (dx_var (pv 2))) (dx_const (v := .int 1000) (by rfl) T.v_MOST_WORDS fun _ => .int _) (nomark _)) (dss_one ds_never) dss_nil)
    (dss_cons (ds_if (dt_cmp op_gt f_gt (dx_ix (dx_var (pv 4)) (dx_var (pv 2))) (dx_const (v := .int 12) (by rfl) T.v_MOST_DEPTH fun _ => .int _) (nomark _)) (dss_one ds_never) dss_nil)
    (dss_one (ds_ret (do_makeP T.m_Program k_Program___init__ (hr.mono (by decide)) (by rfl) T.g_Program T.f_Program___init__.b tk (da_cons (DO.frz (do_call0 k_text_of (hr.mono (by decide)) (by rfl) T.f_text_of.g T.f_text_of.F.kp T.f_text_of.b tk (da_cons (dx_var (pv 0)) (da_cons (dx_var (pv 1)) (da_cons (dx_var (pv 2)) da_nil))) (len_cons (len_cons (len_cons len_nil))))) da_nil) (len_cons len_nil)))))))
theorem k_read_source_ (T : Tx K mg ad fs cs) : FnG P w K mg base (L2.CX P w) 36 (ad 26) (fs 26) ["source"] (spD K 1 (m_read_source cs)) := by
  refine fn_mirror (N := sc_read_source_N) T.f_read_source.F sc_read_source fun X pvs W cdv A outer s H E hX tk hr => ?_
  subst hX
  have hu := hr.units
  have k_lines_in := k_lines_in_ (P := P) (w := w) (base := base) T
  have k_program_of := k_program_of_ (P := P) (w := w) (base := base) T
  exact (dss_cons (ds_asg (DO.frz (do_call0 k_lines_in (hr.mono (by decide)) (by rfl) T.f_lines_in.g T.f_lines_in.F.kp T.f_lines_in.b tk (da_cons (dx_var (pv 0)) da_nil) (len_cons len_nil))) (dg_tup rfl (dgs_cons (dg_name (i := 1) sc_read_source.nd rfl (by first | exact Or.inl rfl | exact Or.inr rfl)) (dgs_cons (dg_name (i := 2) sc_read_source.nd rfl (by first | exact Or.inl rfl | exact Or.inr rfl)) dgs_nil))))
    (dss_one (ds_ret (do_call0 k_program_of (hr.mono (by decide)) (by rfl) T.f_program_of.g T.f_program_of.F.kp T.f_program_of.b tk (da_cons (dx_var (pv 1)) (da_cons (dx_var (pv 2)) (da_cons (dx_op2 op_sub f_sub (dx_callB call_len f_len (by rfl) T.z_len bo_len (da_cons (dx_var (pv 2)) da_nil)) dx_int) da_nil))) (len_cons (len_cons (len_cons len_nil)))))))
theorem k__law_depth_ (T : Tx K mg ad fs cs) : FnG P w K mg base (L2.CX P w) 1 (ad 27) (fs 27) ["words"] (spD K 1 (m__law_depth cs)) := by
  refine fn_mirror (N := sc__law_depth_N) T.f__law_depth.F sc__law_depth fun X pvs W cdv A outer s H E hX tk hr => ?_
  subst hX
  have hu := hr.units
  exact (dss_cons (ds_asg (dx_tup (da_cons dx_int (da_cons dx_int da_nil))) (dg_tup rfl (dgs_cons (dg_name (i := 1) sc__law_depth.nd rfl (by first | exact Or.inl rfl | exact Or.inr rfl)) (dgs_cons (dg_name (i := 2) sc__law_depth.nd rfl (by first | exact Or.inl rfl | exact Or.inr rfl)) dgs_nil))))
    (dss_cons (ds_for (passes_of rfl) rfl (di_list (dx_var (pv 0))) (dg_name (i := 3) sc__law_depth.nd rfl (by first | exact Or.inl rfl | exact Or.inr rfl)) (dss_cons (ds_set (i := 1) sc__law_depth.nd rfl (by first | exact Or.inl rfl | exact Or.inr rfl) (DX.own (dx_op2 op_sub f_sub (dx_op2 op_addX f_add (dx_var (pv 1)) (dx_callTy call_int2 f_int2 (by rfl) T.z_int bo_int (da_cons (dx_cmp (op_eqX hu) f_eq (dx_var (pv 3)) dx_str (nomark _)) da_nil))) (dx_callTy call_int2 f_int2 (by rfl) T.z_int bo_int (da_cons (dx_cmp (op_eqX hu) f_eq (dx_ix (dx_var (pv 3)) dx_int) dx_str (nomark _)) da_nil))))) (dss_one (ds_set (i := 2) sc__law_depth.nd rfl (by first | exact Or.inl rfl | exact Or.inr rfl) (DX.own (dx_callB (call_maxX rfl) f_max (by rfl) T.z_max bo_max (da_cons (dx_var (pv 2)) (da_cons (dx_var (pv 1)) da_nil))))))))
    (dss_one (ds_ret (DX.own (dx_var (pv 2)))))))
theorem k_routine_ (T : Tx K mg ad fs cs) : FnG P w K mg base (L2.CX P w) 36 (ad 28) (fs 28) ["source", "name"] (spD K 2 (m_routine cs)) := by
  refine fn_mirror (N := sc_routine_N) T.f_routine.F sc_routine fun X pvs W cdv A outer s H E hX tk hr => ?_
  subst hX
  have hu := hr.units
  have k_lines_in := k_lines_in_ (P := P) (w := w) (base := base) T
  have k_program_of := k_program_of_ (P := P) (w := w) (base := base) T
  exact (dss_cons (ds_asg (DO.frz (do_call0 k_lines_in (hr.mono (by decide)) (by rfl) T.f_lines_in.g T.f_lines_in.F.kp T.f_lines_in.b tk (da_cons (dx_var (pv 0)) da_nil) (len_cons len_nil))) (dg_tup rfl (dgs_cons (dg_name (i := 2) sc_routine.nd rfl (by first | exact Or.inl rfl | exact Or.inr rfl)) (dgs_cons (dg_name (i := 3) sc_routine.nd rfl (by first | exact Or.inl rfl | exact Or.inr rfl)) dgs_nil))))
    (dss_cons (ds_if (DW.dt (dw_or (dt_not (dt_val (dx_callB call_isi f_isi (by rfl) T.z_isinstance bo_isinstance (da_cons (dx_var (pv 1)) (da_cons (dx_ty (by rfl) T.z_str bo_str) da_nil))))) (dw_or1 (dt_cmp op_notIn2 f_notIn2 (dx_var (pv 1)) (dx_var (pv 2)) (by with_unfolding_all rfl))))) (dss_one ds_never) dss_nil)
    (dss_one (ds_ret (do_call0 k_program_of (hr.mono (by decide)) (by rfl) T.f_program_of.g T.f_program_of.F.kp T.f_program_of.b tk (da_cons (dx_var (pv 2)) (da_cons (dx_var (pv 3)) (da_cons (dx_indexD (by have := hr.un; omega) (dx_var (pv 2)) (da_cons (dx_var (pv 1)) da_nil)) da_nil))) (len_cons (len_cons (len_cons len_nil))))))))
theorem k_Program_length_ (T : Tx K mg ad fs cs) : FnG P w K mg base (L2.CX P w) 1 (ad 29) (fs 29) ["self"] (spD K 1 (m_Program_length cs)) := by
  refine fn_mirror (N := sc_Program_length_N) T.f_Program_length.F sc_Program_length fun X pvs W cdv A outer s H E hX tk hr => ?_
  subst hX
  have hu := hr.units
  exact (dss_one (ds_ret (DX.own (dx_fld (ok := (fun C => C == cs 0)) (dx_var (pv 0)) (fun C h => by cases beq_iff_eq.mp h; exact ⟨T.c_Program.cl, T.n_Program_own_length⟩)))))
theorem k__law_length_ (T : Tx K mg ad fs cs) : FnG P w K mg base (L2.CX P w) 1 (ad 30) (fs 30) ["words"] (spD K 1 (m__law_length cs)) := by
  refine fn_mirror (N := sc__law_length_N) T.f__law_length.F sc__law_length fun X pvs W cdv A outer s H E hX tk hr => ?_
  subst hX
  have hu := hr.units
  exact (dss_cons (ds_set (i := 1) sc__law_length.nd rfl (by first | exact Or.inl rfl | exact Or.inr rfl) (do_lst (da_cons dx_int da_nil)))
    (dss_cons (ds_for (passes_of rfl) rfl (di_list (dx_var (pv 0))) (dg_name (i := 2) sc__law_length.nd rfl (by first | exact Or.inl rfl | exact Or.inr rfl)) (dss_one (ds_if (dt_cmp (op_eqX hu) f_eq (dx_var (pv 2)) dx_str (nomark _)) (dss_one (ds_app (pv 1) (DX.own dx_int))) (dss_one (ds_if (dt_cmp (op_eqX hu) f_eq (dx_ix (dx_var (pv 2)) dx_int) dx_str (nomark _)) (dss_cons (ds_set (i := 3) sc__law_length.nd rfl (by first | exact Or.inl rfl | exact Or.inr rfl) (DO.fz (do_pop (pv 1)))) (dss_one (ds_setAt (pv 1) (dx_neg dx_int) (DX.own (dx_op2 op_addX f_add (dx_at (dq_see (pv 1)) (dx_neg dx_int)) (dx_op2 op_mulW f_mul (dx_var (pv 3)) (dx_callTy call_int2 f_int2 (by rfl) T.z_int bo_int (da_cons (dx_cut (dx_var (pv 2)) (dp_some dx_int) dp_none) da_nil)))))))) (dss_one (ds_setAt (pv 1) (dx_neg dx_int) (DX.own (dx_op2 op_addX f_add (dx_op2 op_addX f_add (dx_at (dq_see (pv 1)) (dx_neg dx_int)) (dx_callTy call_int2 f_int2 (by rfl) T.z_int bo_int (da_cons (dx_op2 op_addX f_add dx_str (dx_cut (dx_var (pv 2)) (dp_some dx_int) dp_none)) da_nil))) (dx_callTy call_int2 f_int2 (by rfl) T.z_int bo_int (da_cons (dx_cmp (op_eqX hu) f_eq (dx_callB call_len f_len (by rfl) T.z_len bo_len (da_cons (dx_var (pv 2)) da_nil)) dx_int (nomark _)) da_nil)))))))))))
    (dss_one (ds_ret (DX.own (dx_at (dq_see (pv 1)) dx_int))))))
theorem k_Program___len___ (T : Tx K mg ad fs cs) : FnG P w K mg base (L2.CX P w) 1 (ad 31) (fs 31) ["self"] (spD K 1 (m_Program___len__ cs)) := by
  refine fn_mirror (N := sc_Program___len___N) T.f_Program___len__.F sc_Program___len__ fun X pvs W cdv A outer s H E hX tk hr => ?_
  subst hX
  have hu := hr.units
  exact (dss_one (ds_ret (DX.own (dx_callB call_len f_len (by rfl) T.z_len bo_len (da_cons (dx_fld (ok := (fun C => C == cs 0)) (dx_var (pv 0)) (fun C h => by cases beq_iff_eq.mp h; exact ⟨T.c_Program.cl, T.n_Program_own_words⟩)) da_nil)))))
theorem k_law_ (T : Tx K mg ad fs cs) : FnG P w K mg base (L2.CX P w) 38 (ad 32) (fs 32) ["script"] (spD K 1 (m_law cs)) := by
  refine fn_mirror (N := sc_law_N) T.f_law.F sc_law fun X pvs W cdv A outer s H E hX tk hr => ?_
  subst hX
  have hu := hr.units
  have k__law_bag := k__law_bag_ (P := P) (w := w) (base := base) T
  have k__law_source := k__law_source_ (P := P) (w := w) (base := base) T
  have k_Program___eq__ := k_Program___eq___ (P := P) (w := w) (base := base) T
  have k__law_text := k__law_text_ (P := P) (w := w) (base := base) T
  have k__law_written := k__law_written_ (P := P) (w := w) (base := base) T
  have k_names_of := k_names_of_ (P := P) (w := w) (base := base) T
  have k_Program_text := k_Program_text_ (P := P) (w := w) (base := base) T
  obtain ⟨pa_Program_text, p_Program_text⟩ := T.p_Program_text
  have k_read_source := k_read_source_ (P := P) (w := w) (base := base) T
  have k_Program___init__ := k_Program___init___ (P := P) (w := w) (base := base) T
  have k__law_pick := k__law_pick_ (P := P) (w := w) (base := base) T
  have k__law_depth := k__law_depth_ (P := P) (w := w) (base := base) T
  have k_routine := k_routine_ (P := P) (w := w) (base := base) T
  have k_Program_length := k_Program_length_ (P := P) (w := w) (base := base) T
  obtain ⟨pa_Program_length, p_Program_length⟩ := T.p_Program_length
  have k__law_length := k__law_length_ (P := P) (w := w) (base := base) T
  have k_Program___len__ := k_Program___len___ (P := P) (w := w) (base := base) T
  exact (dss_cons (ds_for (passes_of rfl) rfl (di_list (DO.frz (do_cat (DO.dq (do_cutS (dx_var (pv 0)) dp_none (dp_some dx_int))) (DO.dq (do_lst (da_cons dx_int da_nil)))))) (dg_name (i := 1) sc_law.nd rfl (by first | exact Or.inl rfl | exact Or.inr rfl)) (dss_cons (ds_set (i := 2) sc_law.nd rfl (by first | exact Or.inl rfl | exact Or.inr rfl) (do_call0 k__law_bag (hr.mono (by decide)) (by rfl) T.f__law_bag.g T.f__law_bag.F.kp T.f__law_bag.b tk (da_cons (dx_var (pv 1)) da_nil) (len_cons len_nil))) (dss_cons (ds_asg (DO.frz (do_call1 k__law_source (hr.mono (by decide)) (by rfl) T.f__law_source.g T.f__law_source.F.kp T.f__law_source.b tk (dr_slot (pv 2) (dr_fz (dx_ix (DO.frz (do_lst (da_cons dx_int (da_cons dx_int da_nil)))) (DO.frz (do_call1 k__law_pick (hr.mono (by decide)) (by rfl) T.f__law_pick.g T.f__law_pick.F.kp T.f__law_pick.b tk (dr_slot (pv 2) (dr_fz dx_int dr_nil)) (lenr_slot (lenr_fz lenr_nil))))) (dr_fz dx_int dr_nil))) (lenr_slot (lenr_fz (lenr_fz lenr_nil))))) (dg_tup rfl (dgs_cons (dg_name (i := 3) sc_law.nd rfl (by first | exact Or.inl rfl | exact Or.inr rfl)) (dgs_cons (dg_name (i := 4) sc_law.nd rfl (by first | exact Or.inl rfl | exact Or.inr rfl)) dgs_nil)))) (dss_cons (ds_par (i := 5) (j := 6) rfl sc_law.nd rfl rfl (by decide) rfl rfl (DO.fz (do_call0 k__law_text (hr.mono (by decide)) (by rfl) T.f__law_text.g T.f__law_text.F.kp T.f__law_text.b tk (da_cons (dx_var (pv 3)) (da_cons (dx_var (pv 4)) da_nil)) (len_cons (len_cons len_nil)))) (DO.fz (do_call0 k__law_written (hr.mono (by decide)) (by rfl) T.f__law_written.g T.f__law_written.F.kp T.f__law_written.b tk (da_cons (dx_var (pv 3)) (da_cons (dx_var (pv 4)) (da_cons dx_int da_nil))) (len_cons (len_cons (len_cons len_nil))))) rfl) (dss_cons (ds_if (dt_cmp op_gt f_gt (dx_callB call_len f_len (by rfl) T.z_len bo_len (da_cons (dx_var (pv 5)) da_nil)) dx_int (nomark _)) (dss_cons (ds_par3 (i := 3) (j := 4) (l := 6) rfl sc_law.nd rfl rfl rfl (by decide) (by decide) (by decide) rfl rfl rfl (DO.fz (do_lst da_nil)) (DO.fz (do_cut (DX.dq (dx_var (pv 4))) dp_none (dp_some dx_int))) (DO.fz (do_cut (DX.dq (dx_var (pv 6))) dp_none (dp_some dx_int))) rfl) (dss_one (ds_set (i := 5) sc_law.nd rfl (by first | exact Or.inl rfl | exact Or.inr rfl) (DO.fz (do_call0 k__law_text (hr.mono (by decide)) (by rfl) T.f__law_text.g T.f__law_text.F.kp T.f__law_text.b tk (da_cons (dx_var (pv 3)) (da_cons (dx_var (pv 4)) da_nil)) (len_cons (len_cons len_nil))))))) dss_nil) (dss_cons (ds_for (passes_of rfl) rfl (di_range1 (by rfl) T.z_range (da_cons dx_int da_nil)) (dg_name (i := 7) sc_law.nd rfl (by first | exact Or.inl rfl | exact Or.inr rfl)) (dss_cons (ds_set (i := 8) sc_law.nd rfl (by first | exact Or.inl rfl | exact Or.inr rfl) (do_call0 k_names_of (hr.mono (by decide)) (by rfl) T.f_names_of.g T.f_names_of.F.kp T.f_names_of.b tk (da_cons (dx_var (pv 5)) da_nil) (len_cons len_nil))) (dss_cons (ds_if (dt_cmp (op_neX hu) f_ne (dx_see (pv 8)) (dx_var (pv 3)) (nomark _)) (dss_one (ds_ret (DX.own dx_bl))) dss_nil) (dss_one (ds_app (pv 8) (DX.own dx_non)))))) (dss_one (ds_for (passes_of rfl) rfl (di_range1 (by rfl) T.z_range (da_cons (dx_op2 op_addX f_add (dx_callB call_len f_len (by rfl) T.z_len bo_len (da_cons (dx_var (pv 3)) da_nil)) dx_int) da_nil)) (dg_name (i := 9) sc_law.nd rfl (by first | exact Or.inl rfl | exact Or.inr rfl)) (dss_one (ds_if (DW.dt (dw_and (dt_cmp op_notN f_notN (dx_ix (dx_var (pv 6)) (dx_var (pv 9))) dx_non (nomark _)) (dw_and1 (dt_cmp op_ltX f_lt (DO.frz (do_call0 k__law_depth (hr.mono (by decide)) (by rfl) T.f__law_depth.g T.f__law_depth.F.kp T.f__law_depth.b tk (da_cons (dx_ix (dx_var (pv 6)) (dx_var (pv 9))) da_nil) (len_cons len_nil))) dx_int (nomark _))))) (dss_cons (ds_set (i := 10) sc_law.nd rfl (by first | exact Or.inl rfl | exact Or.inr rfl) (DX.own (dx_if (dt_cmp (op_eqX hu) f_eq (dx_var (pv 9)) (dx_callB call_len f_len (by rfl) T.z_len bo_len (da_cons (dx_var (pv 3)) da_nil)) (nomark _)) (DO.frz (do_call0 k_read_source (hr.mono (by decide)) (by rfl) T.f_read_source.g T.f_read_source.F.kp T.f_read_source.b tk (da_cons (dx_var (pv 5)) da_nil) (len_cons len_nil))) (DO.frz (do_call0 k_routine (hr.mono (by decide)) (by rfl) T.f_routine.g T.f_routine.F.kp T.f_routine.b tk (da_cons (dx_var (pv 5)) (da_cons (dx_ix (dx_var (pv 3)) (dx_var (pv 9))) da_nil)) (len_cons (len_cons len_nil))))))) (dss_cons (ds_if (DW.dt (dw_or (dt_not (dt_val (dx_callB call_isi (f_isO T.cf T.is_Program) (by rfl) T.z_isinstance bo_isinstance (da_cons (dx_var (pv 10)) (da_cons (dx_cls (by rfl) T.g_Program) da_nil))))) (dw_or1 (dt_cmp (op_neX hu) f_ne (DO.frz (do_prop (dx_var (pv 10)) T.c_Program.cl p_Program_text k_Program_text (hr.mono (by decide)) T.f_Program_text.b)) (dx_join dx_str (da_cons (dx_ix (dx_var (pv 6)) (dx_var (pv 9))) da_nil)) (nomark _))))) (dss_one (ds_ret (DX.own dx_bl))) dss_nil) (dss_one (ds_if (DW.dt (dw_or (dt_cmp (op_neX hu) f_ne (DO.frz (do_prop (dx_var (pv 10)) T.c_Program.cl p_Program_length k_Program_length (hr.mono (by decide)) T.f_Program_length.b)) (DO.frz (do_call0 k__law_length (hr.mono (by decide)) (by rfl) T.f__law_length.g T.f__law_length.F.kp T.f__law_length.b tk (da_cons (dx_ix (dx_var (pv 6)) (dx_var (pv 9))) da_nil) (len_cons len_nil))) (nomark _)) (dw_or1 (dt_cmp (op_neX hu) f_ne (dx_lenO T.a_Program___len__ T.i_Program___len__ k_Program___len__ (hr.mono (by decide)) T.f_Program___len__.b (by rfl) T.z_len (da_cons (dx_var (pv 10)) da_nil)) (dx_callB call_len f_len (by rfl) T.z_len bo_len (da_cons (dx_ix (dx_var (pv 6)) (dx_var (pv 9))) da_nil)) (nomark _))))) (dss_one (ds_ret (DX.own dx_bl))) dss_nil)))) dss_nil))))))))))
    (dss_cons (ds_set (i := 11) sc_law.nd rfl (by first | exact Or.inl rfl | exact Or.inr rfl) (DX.own dx_str))
    (dss_one (ds_ret (DX.own (dx_and (dx_cmp (op_eqX hu) f_eq (DO.frz (do_prop (DO.frz (do_call0 k_read_source (hr.mono (by decide)) (by rfl) T.f_read_source.g T.f_read_source.F.kp T.f_read_source.b tk (da_cons (dx_var (pv 11)) da_nil) (len_cons len_nil))) T.c_Program.cl p_Program_text k_Program_text (hr.mono (by decide)) T.f_Program_text.b)) dx_str (nomark _)) (dx_and1 (dx_eqO T.cf T.e_Program k_Program___eq__ (hr.mono (by decide)) T.f_Program___eq__.b (DO.frz (do_call0 k_read_source (hr.mono (by decide)) (by rfl) T.f_read_source.g T.f_read_source.F.kp T.f_read_source.b tk (da_cons dx_str da_nil) (len_cons len_nil))) (DO.frz (do_makeP T.m_Program k_Program___init__ (hr.mono (by decide)) (by rfl) T.g_Program T.f_Program___init__.b tk (da_cons dx_str da_nil) (len_cons len_nil)))))))))))
end
set_option maxHeartbeats 0 in
theorem all_mk {l : PySem.W.OpenLaw} {w : World} {K : PySem.W.Frag} {h : Heap} {mg : Str → Option Value} {fa f1 f2 f3 f4 f5 f6 f7 f8 f9 f10 f11 f12 f13 f14 f15 f16 f17 f18 f19 f20 f21 f22 f23 f24 f25 f26 f27 f28 f29 f30 f31 f32 f33 C0 : Addr} {tk_DIGITS : Tok} {tk_LETTERS : Tok} {tk_MOST_DEPTH : Tok} {tk_MOST_DIGITS : Tok} {tk_MOST_LINES : Tok} {tk_MOST_TIMES : Tok} {tk_MOST_WORDS : Tok} {tk_SMALL : Tok} {pp18 : Addr} {pr18 : List Value} {pp30 : Addr} {pr30 : List Value} (X : K.In h) (G : h.Ns mainGlobals mg) (hfa : mg "law" = some (.ref fa))
    {od1 an1 od2 an2 od3 an3 od4 an4 od5 an5 od6 an6 od7 an7 od8 an8 od9 an9 od10 an10 od11 an11 od12 an12 od13 an13 od14 an14 od15 an15 od16 an16 od17 an17 od18 an18 od19 an19 od20 an20 od21 an21 od22 an22 od23 an23 od24 an24 od25 an25 od26 an26 od27 an27 od28 an28 od29 an29 od30 an30 od31 an31 od32 an32 od33 an33 : Option Addr} {sl1 sl2 sl3 sl4 sl5 sl6 sl7 sl8 sl9 sl10 sl11 sl12 sl13 sl14 sl15 sl16 sl17 sl18 sl19 sl20 sl21 sl22 sl23 sl24 sl25 sl26 sl27 sl28 sl29 sl30 sl31 sl32 sl33 : Array (Option Value)} {oc1 dc1 pm1 cd1 ct1 kV1 oc2 dc2 pm2 cd2 ct2 kV2 oc3 dc3 pm3 cd3 ct3 kV3 oc4 dc4 pm4 cd4 ct4 kV4 oc5 dc5 pm5 cd5 ct5 kV5 oc6 dc6 pm6 cd6 ct6 kV6 oc7 dc7 pm7 cd7 ct7 kV7 oc8 dc8 pm8 cd8 ct8 kV8 oc9 dc9 pm9 cd9 ct9 kV9 oc10 dc10 pm10 cd10 ct10 kV10 oc11 dc11 pm11 cd11 ct11 kV11 oc12 dc12 pm12 cd12 ct12 kV12 oc13 dc13 pm13 cd13 ct13 kV13 oc14 dc14 pm14 cd14 ct14 kV14 oc15 dc15 pm15 cd15 ct15 kV15 oc16 dc16 pm16 cd16 ct16 kV16 oc17 dc17 pm17 cd17 ct17 kV17 oc18 dc18 pm18 cd18 ct18 kV18 oc19 dc19 pm19 cd19 ct19 kV19 oc20 dc20 pm20 cd20 ct20 kV20 oc21 dc21 pm21 cd21 ct21 kV21 oc22 dc22 pm22 cd22 ct22 kV22 oc23 dc23 pm23 cd23 ct23 kV23 oc24 dc24 pm24 cd24 ct24 kV24 oc25 dc25 pm25 cd25 ct25 kV25 oc26 dc26 pm26 cd26 ct26 kV26 oc27 dc27 pm27 cd27 ct27 kV27 oc28 dc28 pm28 cd28 ct28 kV28 oc29 dc29 pm29 cd29 ct29 kV29 oc30 dc30 pm30 cd30 ct30 kV30 oc31 dc31 pm31 cd31 ct31 kV31 oc32 dc32 pm32 cd32 ct32 kV32 oc33 dc33 pm33 cd33 ct33 kV33 : Value}
    (g_Program : PySem.W.nsIn K mainGlobals "Program" = some (some (.ref C0)))
    (a1 : PySem.W.nsIn K mainGlobals "_law_bag" = some (some (.ref f1)))
    (l1 : K.lookup f1 = some ⟨oc1, od1, .func (PySem.W.fnOf "_law_bag" "_law_bag" (defArgs s__law_bag) (defBody s__law_bag) (defScope s__law_bag) .none kV1 dc1 pm1 an1 cd1 ct1), sl1⟩)
    (c1 : PySem.W.codeIn K cd1 "_law_bag" = true)
    (k1 : PySem.W.keepIn K (.ref f1) = true)
    (a2 : PySem.W.nsIn K mainGlobals "_law_pick" = some (some (.ref f2)))
    (l2 : K.lookup f2 = some ⟨oc2, od2, .func (PySem.W.fnOf "_law_pick" "_law_pick" (defArgs s__law_pick) (defBody s__law_pick) (defScope s__law_pick) .none kV2 dc2 pm2 an2 cd2 ct2), sl2⟩)
    (c2 : PySem.W.codeIn K cd2 "_law_pick" = true)
    (k2 : PySem.W.keepIn K (.ref f2) = true)
    (a3 : PySem.W.nsIn K mainGlobals "_law_names" = some (some (.ref f3)))
    (l3 : K.lookup f3 = some ⟨oc3, od3, .func (PySem.W.fnOf "_law_names" "_law_names" (defArgs s__law_names) (defBody s__law_names) (defScope s__law_names) .none kV3 dc3 pm3 an3 cd3 ct3), sl3⟩)
    (c3 : PySem.W.codeIn K cd3 "_law_names" = true)
    (k3 : PySem.W.keepIn K (.ref f3) = true)
    (a4 : PySem.W.nsIn K mainGlobals "_law_number" = some (some (.ref f4)))
    (l4 : K.lookup f4 = some ⟨oc4, od4, .func (PySem.W.fnOf "_law_number" "_law_number" (defArgs s__law_number) (defBody s__law_number) (defScope s__law_number) .none kV4 dc4 pm4 an4 cd4 ct4), sl4⟩)
    (c4 : PySem.W.codeIn K cd4 "_law_number" = true)
    (k4 : PySem.W.keepIn K (.ref f4) = true)
    (a5 : PySem.W.nsIn K mainGlobals "_law_words" = some (some (.ref f5)))
    (l5 : K.lookup f5 = some ⟨oc5, od5, .func (PySem.W.fnOf "_law_words" "_law_words" (defArgs s__law_words) (defBody s__law_words) (defScope s__law_words) .none kV5 dc5 pm5 an5 cd5 ct5), sl5⟩)
    (c5 : PySem.W.codeIn K cd5 "_law_words" = true)
    (k5 : PySem.W.keepIn K (.ref f5) = true)
    (a6 : PySem.W.nsIn K mainGlobals "_law_source" = some (some (.ref f6)))
    (l6 : K.lookup f6 = some ⟨oc6, od6, .func (PySem.W.fnOf "_law_source" "_law_source" (defArgs s__law_source) (defBody s__law_source) (defScope s__law_source) .none kV6 dc6 pm6 an6 cd6 ct6), sl6⟩)
    (c6 : PySem.W.codeIn K cd6 "_law_source" = true)
    (k6 : PySem.W.keepIn K (.ref f6) = true)
    (a7 : PySem.W.findIn K (.ref C0) "__eq__" = some (some (.ref f7)))
    (i7 : PySem.W.isFn K (.ref f7) = true)
    (l7 : K.lookup f7 = some ⟨oc7, od7, .func (PySem.W.fnOf "__eq__" "Program.__eq__" (defArgs s_Program___eq__) (defBody s_Program___eq__) (defScope s_Program___eq__) .none kV7 dc7 pm7 an7 cd7 ct7), sl7⟩)
    (c7 : PySem.W.codeIn K cd7 "Program.__eq__" = true)
    (k7 : PySem.W.keepIn K (.ref f7) = true)
    (a8 : PySem.W.nsIn K mainGlobals "_law_text" = some (some (.ref f8)))
    (l8 : K.lookup f8 = some ⟨oc8, od8, .func (PySem.W.fnOf "_law_text" "_law_text" (defArgs s__law_text) (defBody s__law_text) (defScope s__law_text) .none kV8 dc8 pm8 an8 cd8 ct8), sl8⟩)
    (c8 : PySem.W.codeIn K cd8 "_law_text" = true)
    (k8 : PySem.W.keepIn K (.ref f8) = true)
    (a9 : PySem.W.nsIn K mainGlobals "_law_written" = some (some (.ref f9)))
    (l9 : K.lookup f9 = some ⟨oc9, od9, .func (PySem.W.fnOf "_law_written" "_law_written" (defArgs s__law_written) (defBody s__law_written) (defScope s__law_written) .none kV9 dc9 pm9 an9 cd9 ct9), sl9⟩)
    (c9 : PySem.W.codeIn K cd9 "_law_written" = true)
    (k9 : PySem.W.keepIn K (.ref f9) = true)
    (a10 : PySem.W.nsIn K mainGlobals "words_of" = some (some (.ref f10)))
    (l10 : K.lookup f10 = some ⟨oc10, od10, .func (PySem.W.fnOf "words_of" "words_of" (defArgs s_words_of) (defBody s_words_of) (defScope s_words_of) .none kV10 dc10 pm10 an10 cd10 ct10), sl10⟩)
    (c10 : PySem.W.codeIn K cd10 "words_of" = true)
    (k10 : PySem.W.keepIn K (.ref f10) = true)
    (a11 : PySem.W.nsIn K mainGlobals "is_number" = some (some (.ref f11)))
    (l11 : K.lookup f11 = some ⟨oc11, od11, .func (PySem.W.fnOf "is_number" "is_number" (defArgs s_is_number) (defBody s_is_number) (defScope s_is_number) .none kV11 dc11 pm11 an11 cd11 ct11), sl11⟩)
    (c11 : PySem.W.codeIn K cd11 "is_number" = true)
    (k11 : PySem.W.keepIn K (.ref f11) = true)
    (a12 : PySem.W.nsIn K mainGlobals "is_step_word" = some (some (.ref f12)))
    (l12 : K.lookup f12 = some ⟨oc12, od12, .func (PySem.W.fnOf "is_step_word" "is_step_word" (defArgs s_is_step_word) (defBody s_is_step_word) (defScope s_is_step_word) .none kV12 dc12 pm12 an12 cd12 ct12), sl12⟩)
    (c12 : PySem.W.codeIn K cd12 "is_step_word" = true)
    (k12 : PySem.W.keepIn K (.ref f12) = true)
    (a13 : PySem.W.nsIn K mainGlobals "first_wrong" = some (some (.ref f13)))
    (l13 : K.lookup f13 = some ⟨oc13, od13, .func (PySem.W.fnOf "first_wrong" "first_wrong" (defArgs s_first_wrong) (defBody s_first_wrong) (defScope s_first_wrong) .none kV13 dc13 pm13 an13 cd13 ct13), sl13⟩)
    (c13 : PySem.W.codeIn K cd13 "first_wrong" = true)
    (k13 : PySem.W.keepIn K (.ref f13) = true)
    (a14 : PySem.W.nsIn K mainGlobals "is_title" = some (some (.ref f14)))
    (l14 : K.lookup f14 = some ⟨oc14, od14, .func (PySem.W.fnOf "is_title" "is_title" (defArgs s_is_title) (defBody s_is_title) (defScope s_is_title) .none kV14 dc14 pm14 an14 cd14 ct14), sl14⟩)
    (c14 : PySem.W.codeIn K cd14 "is_title" = true)
    (k14 : PySem.W.keepIn K (.ref f14) = true)
    (a15 : PySem.W.nsIn K mainGlobals "wrong_word" = some (some (.ref f15)))
    (l15 : K.lookup f15 = some ⟨oc15, od15, .func (PySem.W.fnOf "wrong_word" "wrong_word" (defArgs s_wrong_word) (defBody s_wrong_word) (defScope s_wrong_word) .none kV15 dc15 pm15 an15 cd15 ct15), sl15⟩)
    (c15 : PySem.W.codeIn K cd15 "wrong_word" = true)
    (k15 : PySem.W.keepIn K (.ref f15) = true)
    (a16 : PySem.W.nsIn K mainGlobals "lines_in" = some (some (.ref f16)))
    (l16 : K.lookup f16 = some ⟨oc16, od16, .func (PySem.W.fnOf "lines_in" "lines_in" (defArgs s_lines_in) (defBody s_lines_in) (defScope s_lines_in) .none kV16 dc16 pm16 an16 cd16 ct16), sl16⟩)
    (c16 : PySem.W.codeIn K cd16 "lines_in" = true)
    (k16 : PySem.W.keepIn K (.ref f16) = true)
    (a17 : PySem.W.nsIn K mainGlobals "names_of" = some (some (.ref f17)))
    (l17 : K.lookup f17 = some ⟨oc17, od17, .func (PySem.W.fnOf "names_of" "names_of" (defArgs s_names_of) (defBody s_names_of) (defScope s_names_of) .none kV17 dc17 pm17 an17 cd17 ct17), sl17⟩)
    (c17 : PySem.W.codeIn K cd17 "names_of" = true)
    (k17 : PySem.W.keepIn K (.ref f17) = true)
    (pa18 : PySem.W.findIn K (.ref C0) "text" = some (some (.ref pp18)))
    (pb18 : PySem.W.specialIn K (.ref pp18) "__get__" = some (some (.builtin "property.__get__")))
    (pc18 : PySem.W.takesIn K (.ref pp18) = some true)
    (pd18 : PySem.W.recIn K pp18 "property" = some (.ref f18 :: pr18))
    (l18 : K.lookup f18 = some ⟨oc18, od18, .func (PySem.W.fnOf "text" "Program.text" (defArgs s_Program_text) (defBody s_Program_text) (defScope s_Program_text) .none kV18 dc18 pm18 an18 cd18 ct18), sl18⟩)
    (c18 : PySem.W.codeIn K cd18 "Program.text" = true)
    (k18 : PySem.W.keepIn K (.ref f18) = true)
    (a19 : PySem.W.nsIn K mainGlobals "sizes_in" = some (some (.ref f19)))
    (l19 : K.lookup f19 = some ⟨oc19, od19, .func (PySem.W.fnOf "sizes_in" "sizes_in" (defArgs s_sizes_in) (defBody s_sizes_in) (defScope s_sizes_in) .none kV19 dc19 pm19 an19 cd19 ct19), sl19⟩)
    (c19 : PySem.W.codeIn K cd19 "sizes_in" = true)
    (k19 : PySem.W.keepIn K (.ref f19) = true)
    (a20 : PySem.W.nsIn K mainGlobals "nodes_from" = some (some (.ref f20)))
    (l20 : K.lookup f20 = some ⟨oc20, od20, .func (PySem.W.fnOf "nodes_from" "nodes_from" (defArgs s_nodes_from) (defBody s_nodes_from) (defScope s_nodes_from) .none kV20 dc20 pm20 an20 cd20 ct20), sl20⟩)
    (c20 : PySem.W.codeIn K cd20 "nodes_from" = true)
    (k20 : PySem.W.keepIn K (.ref f20) = true)
    (a21 : PySem.W.nsIn K mainGlobals "nodes_in" = some (some (.ref f21)))
    (l21 : K.lookup f21 = some ⟨oc21, od21, .func (PySem.W.fnOf "nodes_in" "nodes_in" (defArgs s_nodes_in) (defBody s_nodes_in) (defScope s_nodes_in) .none kV21 dc21 pm21 an21 cd21 ct21), sl21⟩)
    (c21 : PySem.W.codeIn K cd21 "nodes_in" = true)
    (k21 : PySem.W.keepIn K (.ref f21) = true)
    (a22 : PySem.W.nsIn K mainGlobals "length_in" = some (some (.ref f22)))
    (l22 : K.lookup f22 = some ⟨oc22, od22, .func (PySem.W.fnOf "length_in" "length_in" (defArgs s_length_in) (defBody s_length_in) (defScope s_length_in) .none kV22 dc22 pm22 an22 cd22 ct22), sl22⟩)
    (c22 : PySem.W.codeIn K cd22 "length_in" = true)
    (k22 : PySem.W.keepIn K (.ref f22) = true)
    (a23 : PySem.W.nsIn K mainGlobals "depth_in" = some (some (.ref f23)))
    (l23 : K.lookup f23 = some ⟨oc23, od23, .func (PySem.W.fnOf "depth_in" "depth_in" (defArgs s_depth_in) (defBody s_depth_in) (defScope s_depth_in) .none kV23 dc23 pm23 an23 cd23 ct23), sl23⟩)
    (c23 : PySem.W.codeIn K cd23 "depth_in" = true)
    (k23 : PySem.W.keepIn K (.ref f23) = true)
    (a24 : PySem.W.findIn K (.ref C0) "__init__" = some (some (.ref f24)))
    (i24 : PySem.W.isFn K (.ref f24) = true)
    (l24 : K.lookup f24 = some ⟨oc24, od24, .func (PySem.W.fnOf "__init__" "Program.__init__" (defArgs s_Program___init__) (defBody s_Program___init__) (defScope s_Program___init__) .none kV24 dc24 pm24 an24 cd24 ct24), sl24⟩)
    (c24 : PySem.W.codeIn K cd24 "Program.__init__" = true)
    (k24 : PySem.W.keepIn K (.ref f24) = true)
    (a25 : PySem.W.nsIn K mainGlobals "text_of" = some (some (.ref f25)))
    (l25 : K.lookup f25 = some ⟨oc25, od25, .func (PySem.W.fnOf "text_of" "text_of" (defArgs s_text_of) (defBody s_text_of) (defScope s_text_of) .none kV25 dc25 pm25 an25 cd25 ct25), sl25⟩)
    (c25 : PySem.W.codeIn K cd25 "text_of" = true)
    (k25 : PySem.W.keepIn K (.ref f25) = true)
    (a26 : PySem.W.nsIn K mainGlobals "program_of" = some (some (.ref f26)))
    (l26 : K.lookup f26 = some ⟨oc26, od26, .func (PySem.W.fnOf "program_of" "program_of" (defArgs s_program_of) (defBody s_program_of) (defScope s_program_of) .none kV26 dc26 pm26 an26 cd26 ct26), sl26⟩)
    (c26 : PySem.W.codeIn K cd26 "program_of" = true)
    (k26 : PySem.W.keepIn K (.ref f26) = true)
    (a27 : PySem.W.nsIn K mainGlobals "read_source" = some (some (.ref f27)))
    (l27 : K.lookup f27 = some ⟨oc27, od27, .func (PySem.W.fnOf "read_source" "read_source" (defArgs s_read_source) (defBody s_read_source) (defScope s_read_source) .none kV27 dc27 pm27 an27 cd27 ct27), sl27⟩)
    (c27 : PySem.W.codeIn K cd27 "read_source" = true)
    (k27 : PySem.W.keepIn K (.ref f27) = true)
    (a28 : PySem.W.nsIn K mainGlobals "_law_depth" = some (some (.ref f28)))
    (l28 : K.lookup f28 = some ⟨oc28, od28, .func (PySem.W.fnOf "_law_depth" "_law_depth" (defArgs s__law_depth) (defBody s__law_depth) (defScope s__law_depth) .none kV28 dc28 pm28 an28 cd28 ct28), sl28⟩)
    (c28 : PySem.W.codeIn K cd28 "_law_depth" = true)
    (k28 : PySem.W.keepIn K (.ref f28) = true)
    (a29 : PySem.W.nsIn K mainGlobals "routine" = some (some (.ref f29)))
    (l29 : K.lookup f29 = some ⟨oc29, od29, .func (PySem.W.fnOf "routine" "routine" (defArgs s_routine) (defBody s_routine) (defScope s_routine) .none kV29 dc29 pm29 an29 cd29 ct29), sl29⟩)
    (c29 : PySem.W.codeIn K cd29 "routine" = true)
    (k29 : PySem.W.keepIn K (.ref f29) = true)
    (pa30 : PySem.W.findIn K (.ref C0) "length" = some (some (.ref pp30)))
    (pb30 : PySem.W.specialIn K (.ref pp30) "__get__" = some (some (.builtin "property.__get__")))
    (pc30 : PySem.W.takesIn K (.ref pp30) = some true)
    (pd30 : PySem.W.recIn K pp30 "property" = some (.ref f30 :: pr30))
    (l30 : K.lookup f30 = some ⟨oc30, od30, .func (PySem.W.fnOf "length" "Program.length" (defArgs s_Program_length) (defBody s_Program_length) (defScope s_Program_length) .none kV30 dc30 pm30 an30 cd30 ct30), sl30⟩)
    (c30 : PySem.W.codeIn K cd30 "Program.length" = true)
    (k30 : PySem.W.keepIn K (.ref f30) = true)
    (a31 : PySem.W.nsIn K mainGlobals "_law_length" = some (some (.ref f31)))
    (l31 : K.lookup f31 = some ⟨oc31, od31, .func (PySem.W.fnOf "_law_length" "_law_length" (defArgs s__law_length) (defBody s__law_length) (defScope s__law_length) .none kV31 dc31 pm31 an31 cd31 ct31), sl31⟩)
    (c31 : PySem.W.codeIn K cd31 "_law_length" = true)
    (k31 : PySem.W.keepIn K (.ref f31) = true)
    (a32 : PySem.W.findIn K (.ref C0) "__len__" = some (some (.ref f32)))
    (i32 : PySem.W.isFn K (.ref f32) = true)
    (l32 : K.lookup f32 = some ⟨oc32, od32, .func (PySem.W.fnOf "__len__" "Program.__len__" (defArgs s_Program___len__) (defBody s_Program___len__) (defScope s_Program___len__) .none kV32 dc32 pm32 an32 cd32 ct32), sl32⟩)
    (c32 : PySem.W.codeIn K cd32 "Program.__len__" = true)
    (k32 : PySem.W.keepIn K (.ref f32) = true)
    (a33 : PySem.W.nsIn K mainGlobals "law" = some (some (.ref f33)))
    (l33 : K.lookup f33 = some ⟨oc33, od33, .func (PySem.W.fnOf "law" "law" (defArgs s_law) (defBody s_law) (defScope s_law) .none kV33 dc33 pm33 an33 cd33 ct33), sl33⟩)
    (c33 : PySem.W.codeIn K cd33 "law" = true)
    (k33 : PySem.W.keepIn K (.ref f33) = true)
    (z_all : PySem.W.nsIn K mainGlobals "all" = some none)
    (z_enumerate : PySem.W.nsIn K mainGlobals "enumerate" = some none)
    (z_int : PySem.W.nsIn K mainGlobals "int" = some none)
    (z_isinstance : PySem.W.nsIn K mainGlobals "isinstance" = some none)
    (z_len : PySem.W.nsIn K mainGlobals "len" = some none)
    (z_max : PySem.W.nsIn K mainGlobals "max" = some none)
    (z_range : PySem.W.nsIn K mainGlobals "range" = some none)
    (z_str : PySem.W.nsIn K mainGlobals "str" = some none)
    (z_tuple : PySem.W.nsIn K mainGlobals "tuple" = some none)
    (v_DIGITS : PySem.W.nsIn K mainGlobals "DIGITS" = some (some (.str "0123456789" tk_DIGITS)))
    (v_LETTERS : PySem.W.nsIn K mainGlobals "LETTERS" = some (some (.str "fblrud" tk_LETTERS)))
    (v_MOST_DEPTH : PySem.W.nsIn K mainGlobals "MOST_DEPTH" = some (some (.int 12 tk_MOST_DEPTH)))
    (v_MOST_DIGITS : PySem.W.nsIn K mainGlobals "MOST_DIGITS" = some (some (.int 31 tk_MOST_DIGITS)))
    (v_MOST_LINES : PySem.W.nsIn K mainGlobals "MOST_LINES" = some (some (.int 20 tk_MOST_LINES)))
    (v_MOST_TIMES : PySem.W.nsIn K mainGlobals "MOST_TIMES" = some (some (.int 1000000000000000000000000000000 tk_MOST_TIMES)))
    (v_MOST_WORDS : PySem.W.nsIn K mainGlobals "MOST_WORDS" = some (some (.int 1000 tk_MOST_WORDS)))
    (v_SMALL : PySem.W.nsIn K mainGlobals "SMALL" = some (some (.str "abcdefghijklmnopqrstuvwxyz" tk_SMALL)))
    (pg_Program : PySem.W.plainGet K C0 Str.empty = true)
    (hd_Program : PySem.W.hasDictIn K C0 = true)
    (po_Program : PySem.W.plainOver K C0 = true)
    (sa_Program : PySem.W.findIn K (.ref C0) "__setattr__" = some (some (.builtin "object.__setattr__")))
    (ha_Program : PySem.W.findIn K (.ref C0) "__class__" = some (some (.builtin "object.__class__")))
    (hn_Program : PySem.W.specialIn K (.builtin "object.__class__") "__get__" = some (some (.builtin "getset_descriptor.__get__")))
    (ht_Program : PySem.W.takesIn K (.builtin "object.__class__") = some true)
    (hm_Program : PySem.W.mroIn K C0 (.type "object") = some true)
    (mk_Program : PySem.W.makesIn K C0 = true)
    (kc_Program : PySem.W.keepIn K (.ref C0) = true)
    (n_Program_own_depth : PySem.W.findIn K (.ref C0) "own_depth" = some none)
    (n_Program_own_length : PySem.W.findIn K (.ref C0) "own_length" = some none)
    (n_Program_own_nodes : PySem.W.findIn K (.ref C0) "own_nodes" = some none)
    (n_Program_own_text : PySem.W.findIn K (.ref C0) "own_text" = some none)
    (n_Program_own_words : PySem.W.findIn K (.ref C0) "own_words" = some none)
    (ic_Program : PySem.W.isClsIn K C0 = true)
    (tc_Program : PySem.W.typeIn K (.ref C0) = some (.type "type"))
    (is_Program_NoneType : PySem.W.subIn K (.type "NoneType") (.ref C0) = some false)
    (is_Program_bool : PySem.W.subIn K (.type "bool") (.ref C0) = some false)
    (is_Program_int : PySem.W.subIn K (.type "int") (.ref C0) = some false)
    (is_Program_str : PySem.W.subIn K (.type "str") (.ref C0) = some false)
    (is_Program_tuple : PySem.W.subIn K (.type "tuple") (.ref C0) = some false)
    (is_Program_list : PySem.W.subIn K (.type "list") (.ref C0) = some false)
    (is_Program_dict : PySem.W.subIn K (.type "dict") (.ref C0) = some false)
    (it_Program_Program : PySem.W.subIn K (.ref C0) (.ref C0) = some true)
    (ne_Program : PySem.W.findIn K (.ref C0) "__ne__" = some (some (.builtin "object.__ne__")))
    (ob_Program : PySem.W.subIn K (.ref C0) (.type "object") = some true)
    (nf_Program_NoneType : PySem.W.notFirst K C0 (.type "NoneType") = true)
    (nf_Program_bool : PySem.W.notFirst K C0 (.type "bool") = true)
    (nf_Program_int : PySem.W.notFirst K C0 (.type "int") = true)
    (nf_Program_str : PySem.W.notFirst K C0 (.type "str") = true)
    (nf_Program_tuple : PySem.W.notFirst K C0 (.type "tuple") = true)
    (nf_Program_list : PySem.W.notFirst K C0 (.type "list") = true)
    (nf_Program_dict : PySem.W.notFirst K C0 (.type "dict") = true)
    (ng_Program_Program : PySem.W.notFirst K C0 (.ref C0) = true) :
    ∃ fd : FuncData, (∀ (s : Shared) (v : Value), BindsTo s fd ⟨[v], []⟩ [("script", v)]) ∧ ∀ base : Heap, K.In base → base.Ns mainGlobals mg → ∃ cs : Nat → Addr, CsOk cs ∧ FnG l.prog w K mg base (L2.CX l.prog w) 38 fa fd ["script"] (spD K 1 (m_law cs)) := by
  have e := hfa.symm.trans (PySem.W.mg_of X G a33)
  cases e
  have F1 := fun_mk (st := s__law_bag) l1 c1 k1
  have b1 := F1.binds (ps := ["cell"]) fun _ _ _ _ _ _ us hl => ul1 hl fun _ => rfl
  have F2 := fun_mk (st := s__law_pick) l2 c2 k2
  have b2 := F2.binds (ps := ["bag", "many"]) fun _ _ _ _ _ _ us hl => ul2 hl fun _ _ => rfl
  have F3 := fun_mk (st := s__law_names) l3 c3 k3
  have b3 := F3.binds (ps := ["bag", "many"]) fun _ _ _ _ _ _ us hl => ul2 hl fun _ _ => rfl
  have F4 := fun_mk (st := s__law_number) l4 c4 k4
  have b4 := F4.binds (ps := ["bag", "far"]) fun _ _ _ _ _ _ us hl => ul2 hl fun _ _ => rfl
  have F5 := fun_mk (st := s__law_words) l5 c5 k5
  have b5 := F5.binds (ps := ["bag", "most", "deep", "letters", "far"]) fun _ _ _ _ _ _ us hl => ul5 hl fun _ _ _ _ _ => rfl
  have F6 := fun_mk (st := s__law_source) l6 c6 k6
  have b6 := F6.binds (ps := ["bag", "most", "far"]) fun _ _ _ _ _ _ us hl => ul3 hl fun _ _ _ => rfl
  have F7 := fun_mk (st := s_Program___eq__) l7 c7 k7
  have b7 := F7.binds (ps := ["self", "other"]) fun _ _ _ _ _ _ us hl => ul2 hl fun _ _ => rfl
  have F8 := fun_mk (st := s__law_text) l8 c8 k8
  have b8 := F8.binds (ps := ["names", "lines"]) fun _ _ _ _ _ _ us hl => ul2 hl fun _ _ => rfl
  have F9 := fun_mk (st := s__law_written) l9 c9 k9
  have b9 := F9.binds (ps := ["names", "lines", "limit"]) fun _ _ _ _ _ _ us hl => ul3 hl fun _ _ _ => rfl
  have F10 := fun_mk (st := s_words_of) l10 c10 k10
  have b10 := F10.binds (ps := ["text"]) fun _ _ _ _ _ _ us hl => ul1 hl fun _ => rfl
  have F11 := fun_mk (st := s_is_number) l11 c11 k11
  have b11 := F11.binds (ps := ["signs"]) fun _ _ _ _ _ _ us hl => ul1 hl fun _ => rfl
  have F12 := fun_mk (st := s_is_step_word) l12 c12 k12
  have b12 := F12.binds (ps := ["word"]) fun _ _ _ _ _ _ us hl => ul1 hl fun _ => rfl
  have F13 := fun_mk (st := s_first_wrong) l13 c13 k13
  have b13 := F13.binds (ps := ["words", "names"]) fun _ _ _ _ _ _ us hl => ul2 hl fun _ _ => rfl
  have F14 := fun_mk (st := s_is_title) l14 c14 k14
  have b14 := F14.binds (ps := ["word", "names"]) fun _ _ _ _ _ _ us hl => ul2 hl fun _ _ => rfl
  have F15 := fun_mk (st := s_wrong_word) l15 c15 k15
  have b15 := F15.binds (ps := ["words", "names", "is_last"]) fun _ _ _ _ _ _ us hl => ul3 hl fun _ _ _ => rfl
  have F16 := fun_mk (st := s_lines_in) l16 c16 k16
  have b16 := F16.binds (ps := ["source"]) fun _ _ _ _ _ _ us hl => ul1 hl fun _ => rfl
  have F17 := fun_mk (st := s_names_of) l17 c17 k17
  have b17 := F17.binds (ps := ["source"]) fun _ _ _ _ _ _ us hl => ul1 hl fun _ => rfl
  have F18 := fun_mk (st := s_Program_text) l18 c18 k18
  have b18 := F18.binds (ps := ["self"]) fun _ _ _ _ _ _ us hl => ul1 hl fun _ => rfl
  have F19 := fun_mk (st := s_sizes_in) l19 c19 k19
  have b19 := F19.binds (ps := ["names", "found"]) fun _ _ _ _ _ _ us hl => ul2 hl fun _ _ => rfl
  have F20 := fun_mk (st := s_nodes_from) l20 c20 k20
  have b20 := F20.binds (ps := ["words", "place"]) fun _ _ _ _ _ _ us hl => ul2 hl fun _ _ => rfl
  have F21 := fun_mk (st := s_nodes_in) l21 c21 k21
  have b21 := F21.binds (ps := ["words"]) fun _ _ _ _ _ _ us hl => ul1 hl fun _ => rfl
  have F22 := fun_mk (st := s_length_in) l22 c22 k22
  have b22 := F22.binds (ps := ["nodes"]) fun _ _ _ _ _ _ us hl => ul1 hl fun _ => rfl
  have F23 := fun_mk (st := s_depth_in) l23 c23 k23
  have b23 := F23.binds (ps := ["nodes"]) fun _ _ _ _ _ _ us hl => ul1 hl fun _ => rfl
  have F24 := fun_mk (st := s_Program___init__) l24 c24 k24
  have b24 := F24.binds (ps := ["self", "text"]) fun _ _ _ _ _ _ us hl => ul2 hl fun _ _ => rfl
  have F25 := fun_mk (st := s_text_of) l25 c25 k25
  have b25 := F25.binds (ps := ["names", "found", "line"]) fun _ _ _ _ _ _ us hl => ul3 hl fun _ _ _ => rfl
  have F26 := fun_mk (st := s_program_of) l26 c26 k26
  have b26 := F26.binds (ps := ["names", "found", "line"]) fun _ _ _ _ _ _ us hl => ul3 hl fun _ _ _ => rfl
  have F27 := fun_mk (st := s_read_source) l27 c27 k27
  have b27 := F27.binds (ps := ["source"]) fun _ _ _ _ _ _ us hl => ul1 hl fun _ => rfl
  have F28 := fun_mk (st := s__law_depth) l28 c28 k28
  have b28 := F28.binds (ps := ["words"]) fun _ _ _ _ _ _ us hl => ul1 hl fun _ => rfl
  have F29 := fun_mk (st := s_routine) l29 c29 k29
  have b29 := F29.binds (ps := ["source", "name"]) fun _ _ _ _ _ _ us hl => ul2 hl fun _ _ => rfl
  have F30 := fun_mk (st := s_Program_length) l30 c30 k30
  have b30 := F30.binds (ps := ["self"]) fun _ _ _ _ _ _ us hl => ul1 hl fun _ => rfl
  have F31 := fun_mk (st := s__law_length) l31 c31 k31
  have b31 := F31.binds (ps := ["words"]) fun _ _ _ _ _ _ us hl => ul1 hl fun _ => rfl
  have F32 := fun_mk (st := s_Program___len__) l32 c32 k32
  have b32 := F32.binds (ps := ["self"]) fun _ _ _ _ _ _ us hl => ul1 hl fun _ => rfl
  have F33 := fun_mk (st := s_law) l33 c33 k33
  have b33 := F33.binds (ps := ["script"]) fun _ _ _ _ _ _ us hl => ul1 hl fun _ => rfl
  have T : Tx K mg (fun i => ([f1, f2, f3, f4, f5, f6, f7, f8, f9, f10, f11, f12, f13, f14, f15, f16, f17, f18, f19, f20, f21, f22, f23, f24, f25, f26, f27, f28, f29, f30, f31, f32, fa] : List Addr).getD i 0) (fun i => ([PySem.W.fnOf "_law_bag" "_law_bag" (defArgs s__law_bag) (defBody s__law_bag) (defScope s__law_bag) .none kV1 dc1 pm1 an1 cd1 ct1, PySem.W.fnOf "_law_pick" "_law_pick" (defArgs s__law_pick) (defBody s__law_pick) (defScope s__law_pick) .none kV2 dc2 pm2 an2 cd2 ct2, PySem.W.fnOf "_law_names" "_law_names" (defArgs s__law_names) (defBody s__law_names) (defScope s__law_names) .none kV3 dc3 pm3 an3 cd3 ct3, PySem.W.fnOf "_law_number" "_law_number" (defArgs s__law_number) (defBody s__law_number) (defScope s__law_number) .none kV4 dc4 pm4 an4 cd4 ct4, PySem.W.fnOf "_law_words" "_law_words" (defArgs s__law_words) (defBody s__law_words) (defScope s__law_words) .none kV5 dc5 pm5 an5 cd5 ct5, PySem.W.fnOf "_law_source" "_law_source" (defArgs s__law_source) (defBody s__law_source) (defScope s__law_source) .none kV6 dc6 pm6 an6 cd6 ct6, PySem.W.fnOf "__eq__" "Program.__eq__" (defArgs s_Program___eq__) (defBody s_Program___eq__) (defScope s_Program___eq__) .none kV7 dc7 pm7 an7 cd7 ct7, PySem.W.fnOf "_law_text" "_law_text" (defArgs s__law_text) (defBody s__law_text) (defScope s__law_text) .none kV8 dc8 pm8 an8 cd8 ct8, PySem.W.fnOf "_law_written" "_law_written" (defArgs s__law_written) (defBody s__law_written) (defScope s__law_written) .none kV9 dc9 pm9 an9 cd9 ct9, PySem.W.fnOf "words_of" "words_of" (defArgs s_words_of) (defBody s_words_of) (defScope s_words_of) .none kV10 dc10 pm10 an10 cd10 ct10, PySem.W.fnOf "is_number" "is_number" (defArgs s_is_number) (defBody s_is_number) (defScope s_is_number) .none kV11 dc11 pm11 an11 cd11 ct11, PySem.W.fnOf "is_step_word" "is_step_word" (defArgs s_is_step_word) (defBody s_is_step_word) (defScope s_is_step_word) .none kV12 dc12 pm12 an12 cd12 ct12, PySem.W.fnOf "first_wrong" "first_wrong" (defArgs s_first_wrong) (defBody s_first_wrong) (defScope s_first_wrong) .none kV13 dc13 pm13 an13 cd13 ct13, PySem.W.fnOf "is_title" "is_title" (defArgs s_is_title) (defBody s_is_title) (defScope s_is_title) .none kV14 dc14 pm14 an14 cd14 ct14, PySem.W.fnOf "wrong_word" "wrong_word" (defArgs s_wrong_word) (defBody s_wrong_word) (defScope s_wrong_word) .none kV15 dc15 pm15 an15 cd15 ct15, PySem.W.fnOf "lines_in" "lines_in" (defArgs s_lines_in) (defBody s_lines_in) (defScope s_lines_in) .none kV16 dc16 pm16 an16 cd16 ct16, PySem.W.fnOf "names_of" "names_of" (defArgs s_names_of) (defBody s_names_of) (defScope s_names_of) .none kV17 dc17 pm17 an17 cd17 ct17, PySem.W.fnOf "text" "Program.text" (defArgs s_Program_text) (defBody s_Program_text) (defScope s_Program_text) .none kV18 dc18 pm18 an18 cd18 ct18, PySem.W.fnOf "sizes_in" "sizes_in" (defArgs s_sizes_in) (defBody s_sizes_in) (defScope s_sizes_in) .none kV19 dc19 pm19 an19 cd19 ct19, PySem.W.fnOf "nodes_from" "nodes_from" (defArgs s_nodes_from) (defBody s_nodes_from) (defScope s_nodes_from) .none kV20 dc20 pm20 an20 cd20 ct20, PySem.W.fnOf "nodes_in" "nodes_in" (defArgs s_nodes_in) (defBody s_nodes_in) (defScope s_nodes_in) .none kV21 dc21 pm21 an21 cd21 ct21, PySem.W.fnOf "length_in" "length_in" (defArgs s_length_in) (defBody s_length_in) (defScope s_length_in) .none kV22 dc22 pm22 an22 cd22 ct22, PySem.W.fnOf "depth_in" "depth_in" (defArgs s_depth_in) (defBody s_depth_in) (defScope s_depth_in) .none kV23 dc23 pm23 an23 cd23 ct23, PySem.W.fnOf "__init__" "Program.__init__" (defArgs s_Program___init__) (defBody s_Program___init__) (defScope s_Program___init__) .none kV24 dc24 pm24 an24 cd24 ct24, PySem.W.fnOf "text_of" "text_of" (defArgs s_text_of) (defBody s_text_of) (defScope s_text_of) .none kV25 dc25 pm25 an25 cd25 ct25, PySem.W.fnOf "program_of" "program_of" (defArgs s_program_of) (defBody s_program_of) (defScope s_program_of) .none kV26 dc26 pm26 an26 cd26 ct26, PySem.W.fnOf "read_source" "read_source" (defArgs s_read_source) (defBody s_read_source) (defScope s_read_source) .none kV27 dc27 pm27 an27 cd27 ct27, PySem.W.fnOf "_law_depth" "_law_depth" (defArgs s__law_depth) (defBody s__law_depth) (defScope s__law_depth) .none kV28 dc28 pm28 an28 cd28 ct28, PySem.W.fnOf "routine" "routine" (defArgs s_routine) (defBody s_routine) (defScope s_routine) .none kV29 dc29 pm29 an29 cd29 ct29, PySem.W.fnOf "length" "Program.length" (defArgs s_Program_length) (defBody s_Program_length) (defScope s_Program_length) .none kV30 dc30 pm30 an30 cd30 ct30, PySem.W.fnOf "_law_length" "_law_length" (defArgs s__law_length) (defBody s__law_length) (defScope s__law_length) .none kV31 dc31 pm31 an31 cd31 ct31, PySem.W.fnOf "__len__" "Program.__len__" (defArgs s_Program___len__) (defBody s_Program___len__) (defScope s_Program___len__) .none kV32 dc32 pm32 an32 cd32 ct32, PySem.W.fnOf "law" "law" (defArgs s_law) (defBody s_law) (defScope s_law) .none kV33 dc33 pm33 an33 cd33 ct33] : List FuncData).getD i (PySem.W.fnOf "_law_bag" "_law_bag" (defArgs s__law_bag) (defBody s__law_bag) (defScope s__law_bag) .none kV1 dc1 pm1 an1 cd1 ct1)) (fun i => ([C0] : List Addr).getD i 0) := by
    constructor
    · exact ⟨F1, PySem.W.mg_of X G a1, b1⟩
    · exact ⟨F2, PySem.W.mg_of X G a2, b2⟩
    · exact ⟨F3, PySem.W.mg_of X G a3, b3⟩
    · exact ⟨F4, PySem.W.mg_of X G a4, b4⟩
    · exact ⟨F5, PySem.W.mg_of X G a5, b5⟩
    · exact ⟨F6, PySem.W.mg_of X G a6, b6⟩
    · exact ⟨F7, b7⟩
    · exact ⟨F8, PySem.W.mg_of X G a8, b8⟩
    · exact ⟨F9, PySem.W.mg_of X G a9, b9⟩
    · exact ⟨F10, PySem.W.mg_of X G a10, b10⟩
    · exact ⟨F11, PySem.W.mg_of X G a11, b11⟩
    · exact ⟨F12, PySem.W.mg_of X G a12, b12⟩
    · exact ⟨F13, PySem.W.mg_of X G a13, b13⟩
    · exact ⟨F14, PySem.W.mg_of X G a14, b14⟩
    · exact ⟨F15, PySem.W.mg_of X G a15, b15⟩
    · exact ⟨F16, PySem.W.mg_of X G a16, b16⟩
    · exact ⟨F17, PySem.W.mg_of X G a17, b17⟩
    · exact ⟨F18, b18⟩
    · exact ⟨F19, PySem.W.mg_of X G a19, b19⟩
    · exact ⟨F20, PySem.W.mg_of X G a20, b20⟩
    · exact ⟨F21, PySem.W.mg_of X G a21, b21⟩
    · exact ⟨F22, PySem.W.mg_of X G a22, b22⟩
    · exact ⟨F23, PySem.W.mg_of X G a23, b23⟩
    · exact ⟨F24, b24⟩
    · exact ⟨F25, PySem.W.mg_of X G a25, b25⟩
    · exact ⟨F26, PySem.W.mg_of X G a26, b26⟩
    · exact ⟨F27, PySem.W.mg_of X G a27, b27⟩
    · exact ⟨F28, PySem.W.mg_of X G a28, b28⟩
    · exact ⟨F29, PySem.W.mg_of X G a29, b29⟩
    · exact ⟨F30, b30⟩
    · exact ⟨F31, PySem.W.mg_of X G a31, b31⟩
    · exact ⟨F32, b32⟩
    · exact ⟨F33, PySem.W.mg_of X G a33, b33⟩
    · exact PySem.W.mg_none_of X G z_all
    · exact PySem.W.mg_none_of X G z_enumerate
    · exact PySem.W.mg_none_of X G z_int
    · exact PySem.W.mg_none_of X G z_isinstance
    · exact PySem.W.mg_none_of X G z_len
    · exact PySem.W.mg_none_of X G z_max
    · exact PySem.W.mg_none_of X G z_range
    · exact PySem.W.mg_none_of X G z_str
    · exact PySem.W.mg_none_of X G z_tuple
    · exact ⟨_, PySem.W.mg_of X G v_DIGITS, _, rfl⟩
    · exact ⟨_, PySem.W.mg_of X G v_LETTERS, _, rfl⟩
    · exact ⟨_, PySem.W.mg_of X G v_MOST_DEPTH, _, rfl⟩
    · exact ⟨_, PySem.W.mg_of X G v_MOST_DIGITS, _, rfl⟩
    · exact ⟨_, PySem.W.mg_of X G v_MOST_LINES, _, rfl⟩
    · exact ⟨_, PySem.W.mg_of X G v_MOST_TIMES, _, rfl⟩
    · exact ⟨_, PySem.W.mg_of X G v_MOST_WORDS, _, rfl⟩
    · exact ⟨_, PySem.W.mg_of X G v_SMALL, _, rfl⟩
    · exact PySem.W.mg_of X G g_Program
    · exact ⟨⟨pg_Program, hd_Program, po_Program, sa_Program⟩, ha_Program, hn_Program, ht_Program, hm_Program⟩
    · exact ⟨mk_Program, a24, i24, kc_Program⟩
    · exact n_Program_own_depth
    · exact n_Program_own_length
    · exact n_Program_own_nodes
    · exact n_Program_own_text
    · exact n_Program_own_words
    · exact a7
    · exact i7
    · exact ⟨_, pa18, pb18, pc18, _, pd18⟩
    · exact a24
    · exact i24
    · exact ⟨_, pa30, pb30, pc30, _, pd30⟩
    · exact a32
    · exact i32
    · exact ⟨fun n hn => by simp only [bltTys, List.mem_cons, List.not_mem_nil, or_false] at hn; rcases hn with rfl | rfl | rfl | rfl | rfl | rfl | rfl; exact kit_sub ic_Program tc_Program is_Program_NoneType; exact kit_sub ic_Program tc_Program is_Program_bool; exact kit_sub ic_Program tc_Program is_Program_int; exact kit_sub ic_Program tc_Program is_Program_str; exact kit_sub ic_Program tc_Program is_Program_tuple; exact kit_sub ic_Program tc_Program is_Program_list; exact kit_sub ic_Program tc_Program is_Program_dict, fun D hD => by simp only [okC, Bool.or_eq_true, beq_iff_eq, or_assoc] at hD; rcases hD with hD <;> rw [hD]; exact (kit_self.trans (show some true = some (C0 == C0) by rw [beq_self_eq_true]))⟩
    · exact ⟨a7, i7, ne_Program, ob_Program, fun n hn => by simp only [bltTys, List.mem_cons, List.not_mem_nil, or_false] at hn; rcases hn with rfl | rfl | rfl | rfl | rfl | rfl | rfl; exact nf_Program_NoneType; exact nf_Program_bool; exact nf_Program_int; exact nf_Program_str; exact nf_Program_tuple; exact nf_Program_list; exact nf_Program_dict, fun D hD => by simp only [okC, Bool.or_eq_true, beq_iff_eq, or_assoc] at hD; rcases hD with hD <;> rw [hD]; exact ng_Program_Program⟩
  exact ⟨PySem.W.fnOf "law" "law" (defArgs s_law) (defBody s_law) (defScope s_law) .none kV33 dc33 pm33 an33 cd33 ct33, fun s v => .of_eq rfl, fun base _ _ => ⟨fun i => ([C0] : List Addr).getD i 0, True.intro, k_law_ (P := l.prog) (w := w) (base := base) T⟩⟩
noncomputable def W (l : List Nat) : Str := ⟨l.toArray⟩
theorem W_cps (l : List Nat) : (W l).cps.toList = l := rfl
theorem W_len (l : List Nat) : (W l).length = l.length := by show l.toArray.size = _; rw [List.size_toArray]
theorem W_iff (l m : List Nat) : (W l = W m) ↔ l = m := ⟨fun h => by have := congrArg (fun s => s.cps.toList) h; exact this, fun h => by rw [h]⟩
theorem cutS_W (l : List Nat) (lo hi : Option Int) : cutS (W l) lo hi = W (cutL l lo hi) := by
  unfold cutS cutL
  rw [W_len]
  rfl
theorem W_tail (l : List Nat) : cutS (W l) (some 1) none = W (l.drop 1) := by rw [cutS_W, cut_from1]
theorem W_head (l : List Nat) : cutS (W l) none (some 1) = W (l.take 1) := by rw [cutS_W, cut_to1]
theorem W_app (l m : List Nat) : W l ++ W m = W (l ++ m) := TL.ext_tl (by rw [TL.tl_append]; rfl)
theorem inS_W (c : Nat) (z : Str) : inS (W [c]) z = decide (c ∈ z.cps.toList) := rfl
theorem lit_ (s : String) (l : List Nat) (h : s.toList.map Char.toNat = l) : (Str.ofString s) = W l := TL.ext_tl (by rw [TL.tl_ofString, h]; rfl)
theorem lit_open : Str.ofString "(" = W [40] := lit_ _ _ rfl
theorem lit_close : Str.ofString ")" = W [41] := lit_ _ _ rfl
theorem lit_0 : Str.ofString "0" = W [48] := lit_ _ _ rfl
theorem lit_nil : Str.ofString "" = W [] := lit_ _ _ rfl
theorem lit_sp : Str.ofString " " = W [32] := lit_ _ _ rfl
theorem lit_dig : Str.ofString "0123456789" = W [48, 49, 50, 51, 52, 53, 54, 55, 56, 57] := lit_ _ _ rfl
theorem mem_dig (c : Nat) : c ∈ ([48, 49, 50, 51, 52, 53, 54, 55, 56, 57] : List Nat) ↔ 48 ≤ c ∧ c ≤ 57 := ⟨fun h => (by decide : ∀ x ∈ ([48, 49, 50, 51, 52, 53, 54, 55, 56, 57] : List Nat), 48 ≤ x ∧ x ≤ 57) c h, fun h => by
  have := (by decide : ∀ k < 10, 48 + k ∈ ([48, 49, 50, 51, 52, 53, 54, 55, 56, 57] : List Nat)) (c - 48) (by omega)
  rwa [show 48 + (c - 48) = c by omega] at this⟩
theorem lit_let : Str.ofString "fblrud" = W [102, 98, 108, 114, 117, 100] := lit_ _ _ rfl
theorem W_str (n : Nat) : (Str.ofString (toString ((n : Nat) : Int))) = W (TL.numL n) := TL.ext_tl (by rw [TL.tl_num]; rfl)
theorem str_num {n : Nat} (h : n < 2 ^ 1000) : dStr1 [.int (n : Int)] = some (.str (W (TL.numL n))) := by
  have h1 := log2_lt h
  show (if ((n : Int)).natAbs.log2 < 1920 then some (D.str (Str.ofString (toString (n : Int)))) else none) = _
  rw [if_pos (by rw [Int.natAbs_natCast]; omega), W_str]
theorem num_head : ∀ n : Nat, ∃ c r, TL.numL n = c :: r ∧ (1 ≤ n → c ≠ 48) := fun n => by
  induction n using Nat.strongRecOn with
  | ind n ih =>
    by_cases h : n < 10
    · exact ⟨_, [], TL.numL_lt h, by omega⟩
    · obtain ⟨c, r, e, q⟩ := ih (n / 10) (by omega)
      refine ⟨c, r ++ [48 + n % 10], by rw [TL.numL_step (by omega), e]; rfl, fun _ => q (by omega)⟩
theorem num_dig (n : Nat) : ∀ c ∈ TL.numL n, 48 ≤ c ∧ c ≤ 57 := fun c hc => by
  have := TL.numL_digits n
  exact this c hc
theorem int_W {n : Nat} (h : n < 10 ^ 600) : dInt2 [.str (W (TL.numL n))] = some (.int n) := by
  have hl := TL.numL_len (n := n) (k := 600) (by decide) h
  show (if (W (TL.numL n)).length ≤ 640 then (PySem.intText? (W (TL.numL n))).map D.int else none) = _
  rw [if_pos (by rw [W_len]; omega), ← W_str, TL.int_num (by omega)]
  rfl
inductive Nd where
  | st (c : Nat) (n : Nat)
  | rp (b : List Nd) (n : Nat)
noncomputable def letters : List Nat := [102, 98, 108, 114, 117, 100]
noncomputable def lw (c n : Nat) : List Nat := c :: if n = 1 then [] else TL.numL n
mutual
noncomputable def wd : Nd → List (List Nat)
  | .st c n => [lw c n]
  | .rp b n => [40] :: (wds b ++ [41 :: TL.numL n])
noncomputable def wds : List Nd → List (List Nat)
  | [] => []
  | a :: r => wd a ++ wds r
end
mutual
noncomputable def enc : Nd → D
  | .st c n => .tup [.str (W [c]), .int n]
  | .rp b n => .tup [.tup (encs b), .int n]
noncomputable def encs : List Nd → List D
  | [] => []
  | a :: r => enc a :: encs r
end
mutual
noncomputable def nlen : Nd → Nat
  | .st _ n => n
  | .rp b n => n * nlens b
noncomputable def nlens : List Nd → Nat
  | [] => 0
  | a :: r => nlen a + nlens r
end
mutual
noncomputable def ndp : Nd → Nat
  | .st _ _ => 0
  | .rp b _ => 1 + ndps b
noncomputable def ndps : List Nd → Nat
  | [] => 0
  | a :: r => max (ndp a) (ndps r)
end
mutual
noncomputable def nok : Nd → Prop
  | .st c n => c ∈ letters ∧ 1 ≤ n ∧ n ≤ 1000000000000000000000000000000
  | .rp b n => b ≠ [] ∧ 2 ≤ n ∧ n ≤ 1000000000000000000000000000000 ∧ noks b
noncomputable def noks : List Nd → Prop
  | [] => True
  | a :: r => nok a ∧ noks r
end
theorem wds_app : ∀ a b : List Nd, wds (a ++ b) = wds a ++ wds b
  | [], b => rfl
  | x :: r, b => by rw [List.cons_append, wds, wds, wds_app r b, List.append_assoc]
theorem ndps_app : ∀ a b : List Nd, ndps (a ++ b) = max (ndps a) (ndps b)
  | [], b => by rw [ndps, List.nil_append]; omega
  | x :: r, b => by rw [List.cons_append, ndps, ndps, ndps_app r b, Nat.max_assoc]
theorem noks_app : ∀ a b : List Nd, noks (a ++ b) ↔ noks a ∧ noks b
  | [], b => by rw [noks, List.nil_append]; simp
  | x :: r, b => by rw [List.cons_append, noks, noks, noks_app r b, and_assoc]
theorem wd_pos : ∀ a : Nd, 1 ≤ (wd a).length
  | .st c n => by rw [wd]; simp
  | .rp b n => by rw [wd]; simp
theorem len_wds : ∀ a : List Nd, a.length ≤ (wds a).length
  | [] => Nat.zero_le _
  | x :: r => by
    have := len_wds r
    have := wd_pos x
    rw [wds, List.length_cons, List.length_append]; omega
mutual
theorem nlen_lt : ∀ a : Nd, nok a → nlen a ≤ 2 ^ (100 * (wd a).length)
  | .st c n, h => by
    rw [nok] at h
    rw [nlen, wd]
    have : (2 : Nat) ^ 100 = 1267650600228229401496703205376 := by decide
    show n ≤ 2 ^ (100 * 1)
    omega
  | .rp b n, h => by
    rw [nok] at h
    have ih := nlens_lt b h.2.2.2
    rw [nlen, wd, List.length_cons, List.length_append, List.length_singleton]
    have e : 100 * ((wds b).length + 1 + 1) = 100 + (100 * (wds b).length + 100) := by omega
    rw [e, Nat.pow_add]
    have h1 : n ≤ 2 ^ 100 := by have : (2 : Nat) ^ 100 = 1267650600228229401496703205376 := by decide
                                omega
    refine Nat.le_trans (Nat.mul_le_mul h1 ih) (Nat.mul_le_mul_left _ ?_)
    exact Nat.pow_le_pow_right (by decide) (by omega)
theorem nlens_lt : ∀ a : List Nd, noks a → nlens a ≤ 2 ^ (100 * (wds a).length)
  | [], _ => by rw [nlens]; exact Nat.zero_le _
  | a :: r, h => by
    rw [noks] at h
    have h1 := nlen_lt a h.1
    have h2 := nlens_lt r h.2
    have hp := wd_pos a
    rw [nlens, wds, List.length_append]
    cases r with
    | nil =>
      rw [nlens, wds, List.length_nil, Nat.add_zero, Nat.add_zero]; exact h1
    | cons b r =>
      have hq := wd_pos b
      have hq2 : 1 ≤ (wds (b :: r)).length := by rw [wds, List.length_append]; omega
      have e1 : 2 ^ (100 * (wd a).length) ≤ 2 ^ (100 * ((wd a).length + (wds (b :: r)).length) - 1) := Nat.pow_le_pow_right (by decide) (by omega)
      have e2 : 2 ^ (100 * (wds (b :: r)).length) ≤ 2 ^ (100 * ((wd a).length + (wds (b :: r)).length) - 1) := Nat.pow_le_pow_right (by decide) (by omega)
      have e3 : 2 ^ (100 * ((wd a).length + (wds (b :: r)).length)) = 2 ^ (100 * ((wd a).length + (wds (b :: r)).length) - 1) * 2 := by
        rw [← Nat.pow_succ]; congr 1; omega
      omega
end
theorem chain_le {a b c : SD → ER D} {sd : SD} {i j k : Int} (h1 : a sd = .ok (.int i) sd) (h2 : b sd = .ok (.int j) sd) (h3 : c sd = .ok (.int k) sd) : mChain dLe dLe a b c sd = .ok (.bl (decide (i ≤ j) && decide (j ≤ k))) sd := by
  unfold mChain
  simp only [h1, h2, h3, ER.bind, dLe, ER.opt]
  by_cases h : i ≤ j <;> simp [h]
theorem bools_map {α : Type} (f : α → Bool) : ∀ l : List α, boolsOf (l.map fun x => D.bl (f x)) = some (l.map f)
  | [] => rfl
  | x :: r => by rw [List.map_cons, boolsOf, bools_map f r]; rfl
theorem is_number_ok (cs : Nat → Addr) {n : Nat} (h1 : 2 ≤ n) (h2 : n ≤ 1000000000000000000000000000000) : m_is_number cs [.fz (.str (W (TL.numL n)))] = .ok (.fz (.bl true)) ⟨[], [.fz (.str (W (TL.numL n)))]⟩ := by
  obtain ⟨c, r, e, hc⟩ := num_head n
  have hl := TL.numL_len (n := n) (k := 31) (by decide) (by omega)
  have hd := num_dig n
  have hi := int_W (n := n) (by
    have : (10 : Nat) ^ 31 ≤ 10 ^ 600 := Nat.pow_le_pow_right (by decide) (by decide)
    omega)
  generalize TL.numL n = l at *
  have hl1 : 1 ≤ l.length := by rw [e]; simp
  have dl : dLen [.str (W l)] = some (.int l.length) := by
    show (if (W l).length ≤ 16777216 then some (D.int (W l).length) else none) = _
    rw [W_len, if_pos (by omega)]
  have d0 : dIx (.str (W l)) (.int 0) = some (.str (W [c])) := by
    show (if (W l).length ≤ 16777216 then (atI l 0).map (fun c => D.str ⟨#[c]⟩) else none) = _
    rw [W_len, if_pos (by omega), e, show atI (c :: r) (0 : Int) = some c from atI_of (k := 0) rfl]
    rfl
  have q0 : dEq (.str (W [c])) (.str (Str.ofString "0")) = some (.bl false) := by
    have : ¬ W [c] = W [48] := fun z => by rw [W_iff] at z; simp at z; exact hc (by omega) z
    rw [lit_0]
    simp [dEq, eqB_str, this]
  have s2 : m_is_number_2 cs ⟨[.ow (.fz (.str (W l))), .un], [.fz (.str (W l))]⟩ = .nx ⟨[.ow (.fz (.str (W l))), .un], [.fz (.str (W l))]⟩ := by
    have ch := chain_le (a := mC (.int 1)) (b := mCall dLen (mCons (mVar 0) mNil)) (c := mC (.int 31)) (sd := ⟨[.ow (.fz (.str (W l))), .un], [.fz (.str (W l))]⟩) (i := 1) (j := l.length) (k := 31) rfl (by simp [mCall, mCons, mVar, mNil, ER.bind, dl, ER.opt]) rfl
    have z1 : (1 : Int) ≤ l.length := by omega
    have z2 : (l.length : Int) ≤ 31 := by omega
    simp only [z1, z2, decide_true, Bool.and_self] at ch
    simp only [m_is_number_2, sIf, mOr, mNot, mTest, ch, ER.bind, Bool.not_true, Bool.false_eq_true, if_false, mOp, mVar, List.getElem?_cons_zero, mC, d0, ER.opt, q0, ER.stm, sNil]
  have c1 : m_is_number_c1 cs ⟨[.ow (.fz (.str (W l))), .un], [.fz (.str (W l))]⟩ = .ok (.ol ((l.map fun _ => D.bl true).map .fz)) ⟨[.ow (.fz (.str (W l))), .un], [.fz (.str (W l))]⟩ :=
    mComp_map l (fun c => D.str (W [c])) (fun _ => D.bl true) rfl (by omega) fun c hc => ⟨⟨[.ow (.fz (.str (W l))), .ow (.fz (.str (W [c])))], [.fz (.str (W l))]⟩, rfl, rfl, by
      have hh := hd c hc
      have q : inS (W [c]) (Str.ofString "0123456789") = true := by
        rw [lit_dig, inS_W, W_cps]
        exact decide_eq_true ((mem_dig c).mpr hh)
      show ER.opt (dIn false (.str (W [c])) (.str (Str.ofString "0123456789"))) _ = _
      show ER.opt (some (D.bl (inS (W [c]) (Str.ofString "0123456789") != false))) _ = _
      rw [q]; rfl⟩
  have v1 : OT.views ((l.map fun _ => D.bl true).map .fz) = l.map fun _ => D.bl true := views_fz _
  have a1 : dAll [.lst (l.map fun _ => D.bl true)] = some (.bl true) := by
    show (boolsOf _).map _ = _
    rw [bools_map (fun _ => true)]
    simp
  have ch := chain_le (a := mC (.int 2)) (b := mCall dInt2 (mCons (mVar 0) mNil)) (c := mC (.int 1000000000000000000000000000000)) (sd := ⟨[.ow (.fz (.str (W l))), .un], [.fz (.str (W l))]⟩) (i := 2) (j := n) (k := 1000000000000000000000000000000) rfl (by simp [mCall, mCons, mVar, mNil, ER.bind, hi, ER.opt]) rfl
  have z1 : (2 : Int) ≤ n := by omega
  have z2 : (n : Int) ≤ 1000000000000000000000000000000 := by omega
  simp only [z1, z2, decide_true, Bool.and_self] at ch
  have s3 : m_is_number_3 cs ⟨[.ow (.fz (.str (W l))), .un], [.fz (.str (W l))]⟩ = .rt (.fz (.bl true)) ⟨[.ow (.fz (.str (W l))), .un], [.fz (.str (W l))]⟩ := by
    have a2 : mCall dAll (mCons (mView (m_is_number_c1 cs)) mNil) ⟨[.ow (.fz (.str (W l))), .un], [.fz (.str (W l))]⟩ = .ok (.bl true) ⟨[.ow (.fz (.str (W l))), .un], [.fz (.str (W l))]⟩ := by
      simp only [mCall, mCons, mView, c1, mNil, ER.bind, OT.view, v1, a1, ER.opt]
    simp only [m_is_number_3, sRet, mOwn, mAndV, a2, ch, ER.bind, ER.stm]
  have ent : entry 2 [.fz (.str (W l))] = ⟨[.ow (.fz (.str (W l))), .un], [.fz (.str (W l))]⟩ := rfl
  simp only [m_is_number, asDef, ent, sSeq, s2, s3, Fl.seq]
theorem step_word_ok (cs : Nat → Addr) {c n : Nat} (hc : c ∈ letters) (h1 : 1 ≤ n) (h2 : n ≤ 1000000000000000000000000000000) : m_is_step_word cs [.fz (.str (W (lw c n)))] = .ok (.fz (.bl true)) ⟨[], [.fz (.str (W (lw c n)))]⟩ := by
  have hh : cutS (W (lw c n)) none (some 1) = W [c] := by rw [W_head]; rfl
  have ht : cutS (W (lw c n)) (some 1) none = W (if n = 1 then [] else TL.numL n) := by rw [W_tail]; rfl
  have hl : (W (lw c n)).length ≤ 16777216 := by
    have hl := TL.numL_len (n := n) (k := 31) (by decide) (by omega)
    rw [W_len]
    unfold lw
    rw [List.length_cons]
    split <;> simp <;> omega
  have q1 : dNe (.str (W [c])) (.str (Str.ofString "")) = some (.bl true) := by
    have : ¬ W [c] = W [] := fun z => by rw [W_iff] at z; simp at z
    rw [lit_nil]
    simp [dNe, eqB_str, this]
  have q2 : dIn false (.str (W [c])) (.str (Str.ofString "fblrud")) = some (.bl true) := by
    show some (D.bl (inS (W [c]) (Str.ofString "fblrud") != false)) = _
    have : inS (W [c]) (Str.ofString "fblrud") = true := by
      rw [lit_let, inS_W, W_cps]
      exact decide_eq_true hc
    rw [this]; rfl
  have q3 : dLen [.str (W (lw c n))] = some (.int (lw c n).length) := by
    show (if (W (lw c n)).length ≤ 16777216 then some (D.int (W (lw c n)).length) else none) = _
    rw [if_pos hl, W_len]
  generalize hw : lw c n = w at *
  by_cases e : n = 1
  · subst e
    have e1 : w.length = 1 := by rw [← hw]; rfl
    rw [e1] at q3
    simp [m_is_step_word, m_is_step_word_1, -List.map_map, -List.map_take, -List.map_drop, -List.map_append, -List.map_reverse, asDef, entry, slotsOf, sSeq, sSet, sRet, sIf, sDrop, sNil, sBreak, sCont, sApp, sSetAt, setEnd, sAug, sAsg, sPar, mVar, mSee, mFrz, mTake, mC, mUn, mOp, mNil, mCons, mCall, mCallL, mTup, mLst, mView, mOwn, mFz, mTest, mAnd, mOr, mNot, mIf, mAndV, mOrV, mNotV, mChain, mAt, qSee, qFz, qNew, oNone, oSome, rNil, rSlot, rFz, mCall0, mCall1, oneSlot, noSlot, treesOf, SD.tree, SD.put, SD.putFz, tgN, tgNil, tgCons, tgT, ER.bind, ER.opt, ER.stm, Fl.seq, OT.view, OT.views, OT.items, fzOf, iLst, iTuP, iRange1, iRange2, iZip2, iEnumL, dIx, atI, ixN, dAdd, dSub, dNeg, dLt, dLe, dGt, dGe, dIsN, dNotN, isNonD, dEq, dNe, eqB_int, eqB_str, eqB_bl, eq_2, eq_3, dLen, dIsi, D.isA, tyName, dMod, dMax, dMin, mAtS, mBm, D.isL, D.isS, mCutX, hl, hh, ht, q1, q2, q3, -dNe, -dLen]
  · rw [if_neg e] at ht
    have e1 : ¬ ((w.length : Int) = 1) := by
      rw [← hw]
      unfold lw
      rw [if_neg e]
      obtain ⟨d, r, z, _⟩ := num_head n
      rw [z]
      simp
      omega
    have num := is_number_ok cs (n := n) (by omega) h2
    have q4 : dEq (.int w.length) (.int 1) = some (.bl false) := by simp [dEq, eqB_int]; omega
    simp [m_is_step_word, m_is_step_word_1, -List.map_map, -List.map_take, -List.map_drop, -List.map_append, -List.map_reverse, asDef, entry, slotsOf, sSeq, sSet, sRet, sIf, sDrop, sNil, sBreak, sCont, sApp, sSetAt, setEnd, sAug, sAsg, sPar, mVar, mSee, mFrz, mTake, mC, mUn, mOp, mNil, mCons, mCall, mCallL, mTup, mLst, mView, mOwn, mFz, mTest, mAnd, mOr, mNot, mIf, mAndV, mOrV, mNotV, mChain, mAt, qSee, qFz, qNew, oNone, oSome, rNil, rSlot, rFz, mCall0, mCall1, oneSlot, noSlot, treesOf, SD.tree, SD.put, SD.putFz, tgN, tgNil, tgCons, tgT, ER.bind, ER.opt, ER.stm, Fl.seq, OT.view, OT.views, OT.items, fzOf, iLst, iTuP, iRange1, iRange2, iZip2, iEnumL, dIx, atI, ixN, dAdd, dSub, dNeg, dLt, dLe, dGt, dGe, dIsN, dNotN, isNonD, dEq, dNe, eqB_int, eqB_str, eqB_bl, eq_2, eq_3, dLen, dIsi, D.isA, tyName, dMod, dMax, dMin, mAtS, mBm, D.isL, D.isS, mCutX, hl, hh, ht, q1, q2, q3, q4, num, -dNe, -dLen, -dEq]
noncomputable def Runs (g : D → SD → Option SD) (body : SD → Fl) (xs : List D) (a b : SD) : Prop := ∀ ys, goFor g body (xs ++ ys) a = goFor g body ys b
theorem Runs.nil {g : D → SD → Option SD} {body : SD → Fl} {a : SD} : Runs g body [] a a := fun _ => rfl
theorem Runs.one {g : D → SD → Option SD} {body : SD → Fl} {d : D} {a a1 b : SD} (h1 : g d a = some a1) (h2 : body a1 = .nx b) : Runs g body [d] a b := fun ys => by
  show (match g d a with
    | none => Fl.bad
    | some sd1 => match body sd1 with
      | .nx sd2 => goFor g body ys sd2
      | .ct sd2 => goFor g body ys sd2
      | .bk sd2 => .nx sd2
      | r => r) = _
  rw [h1]
  dsimp only
  rw [h2]
theorem Runs.app {g : D → SD → Option SD} {body : SD → Fl} {xs ys : List D} {a b c : SD} (h1 : Runs g body xs a b) (h2 : Runs g body ys b c) : Runs g body (xs ++ ys) a c := fun zs => by
  rw [List.append_assoc, h1, h2]
theorem Runs.all {g : D → SD → Option SD} {body : SD → Fl} {xs : List D} {a b : SD} (h : Runs g body xs a b) : goFor g body xs a = .nx b := by
  have := h []
  rw [List.append_nil] at this
  rw [this, goFor]
/-- numbered from i on -/
noncomputable def enD (i : Nat) (ws : List D) : List D := (ws.zipIdx i).map fun p => .tup [.int (p.2 : Int), p.1]
theorem enD_app (i : Nat) (a b : List D) : enD i (a ++ b) = enD i a ++ enD (i + a.length) b := by
  unfold enD
  rw [List.zipIdx_append, List.map_append]
theorem enD_cons (i : Nat) (x : D) (r : List D) : enD i (x :: r) = .tup [.int (i : Int), x] :: enD (i + 1) r := by
  unfold enD
  rw [List.zipIdx_cons]; rfl
noncomputable def WsD (ws : List (List Nat)) : List D := ws.map fun w => .str (W w)
theorem WsD_app (a b : List (List Nat)) : WsD (a ++ b) = WsD a ++ WsD b := List.map_append
theorem WsD_len (a : List (List Nat)) : (WsD a).length = a.length := List.length_map ..
noncomputable def fwSD (ws : D) (d : Nat) (e : Bool) (x4 x5 : S) : SD := ⟨[.ow (.fz ws), .ow (.fz (.lst [])), .ow (.fz (.int d)), .ow (.fz (.bl e)), x4, x5], [.fz ws, .fz (.lst [])]⟩
noncomputable abbrev fwG : D → SD → Option SD := tgT 2 (tgCons (tgN 4) (tgCons (tgN 5) (tgNil)))
theorem eq_W (l m : List Nat) : dEqB (.str (W l)) (.str (W m)) = some (decide (l = m)) := by
  rw [eqB_str]
  congr 1
  exact decide_eq_decide.mpr (W_iff l m)
theorem fw_open (cs : Nat → Addr) {ws : D} {d i : Nat} {e : Bool} (h1 : d + 1 ≤ 12) (h2 : i + 1 + (d + 1) + 1 ≤ 1000) : m_first_wrong_b1 cs (fwSD ws d e (.ow (.fz (.int i))) (.ow (.fz (.str (W [40]))))) = .nx (fwSD ws (d + 1) true (.ow (.fz (.int i))) (.ow (.fz (.str (W [40]))))) := by
  have z1 : ¬ (12 : Int) < (d : Int) + 1 := by omega
  have z2 : ¬ (1000 : Int) < (i : Int) + 1 + ((d : Int) + 1) + 1 := by omega
  have lo := lit_open
  simp [m_first_wrong_b1, m_first_wrong_14, m_first_wrong_3, m_first_wrong_4, m_first_wrong_6, m_first_wrong_16, fwSD, -List.map_map, -List.map_take, -List.map_drop, -List.map_append, -List.map_reverse, asDef, entry, slotsOf, sSeq, sSet, sRet, sIf, sDrop, sNil, sBreak, sCont, sApp, sSetAt, setEnd, sAug, sAsg, sPar, mVar, mSee, mFrz, mTake, mC, mUn, mOp, mNil, mCons, mCall, mCallL, mTup, mLst, mView, mOwn, mFz, mTest, mAnd, mOr, mNot, mIf, mAndV, mOrV, mNotV, mChain, mAt, qSee, qFz, qNew, oNone, oSome, rNil, rSlot, rFz, mCall0, mCall1, oneSlot, noSlot, treesOf, SD.tree, SD.put, SD.putFz, tgN, tgNil, tgCons, tgT, ER.bind, ER.opt, ER.stm, Fl.seq, OT.view, OT.views, OT.items, fzOf, iLst, iTuP, iRange1, iRange2, iZip2, iEnumL, dIx, atI, ixN, dAdd, dSub, dNeg, dLt, dLe, dGt, dGe, dIsN, dNotN, isNonD, dEq, dNe, eqB_int, eqB_str, eqB_bl, eq_2, eq_3, dLen, dIsi, D.isA, tyName, dMod, dMax, dMin, mAtS, mBm, D.isL, D.isS, lo, W_iff, z1, z2, dInt2]
theorem fw_close (cs : Nat → Addr) {ws : D} {d i n : Nat} (hn1 : 2 ≤ n) (hn2 : n ≤ 1000000000000000000000000000000) (h2 : i + 1 + d ≤ 1000) : m_first_wrong_b1 cs (fwSD ws (d + 1) false (.ow (.fz (.int i))) (.ow (.fz (.str (W (41 :: TL.numL n)))))) = .nx (fwSD ws d false (.ow (.fz (.int i))) (.ow (.fz (.str (W (41 :: TL.numL n)))))) := by
  have z1 : ¬ (d : Int) + 1 = 0 := by omega
  have z2 : ¬ (1000 : Int) < (i : Int) + 1 + (d : Int) := by omega
  have z3 : ¬ (1000 : Int) < (i : Int) + 1 + ((d : Int) + 1 - 1) := by omega
  have num := is_number_ok cs hn1 hn2
  have lo := lit_open
  have lc := lit_close
  have hh : cutS (W (41 :: TL.numL n)) none (some 1) = W [41] := by rw [W_head]; rfl
  have ht : cutS (W (41 :: TL.numL n)) (some 1) none = W (TL.numL n) := by rw [W_tail]; rfl
  have hl : (W (41 :: TL.numL n)).length ≤ 16777216 := by
    have hl := TL.numL_len (n := n) (k := 31) (by decide) (by omega)
    rw [W_len, List.length_cons]; omega
  have e1 : (d : Int) + 1 - 1 = d := by omega
  simp [m_first_wrong_b1, m_first_wrong_14, m_first_wrong_13, m_first_wrong_8, m_first_wrong_9, m_first_wrong_16, fwSD, -List.map_map, -List.map_take, -List.map_drop, -List.map_append, -List.map_reverse, asDef, entry, slotsOf, sSeq, sSet, sRet, sIf, sDrop, sNil, sBreak, sCont, sApp, sSetAt, setEnd, sAug, sAsg, sPar, mVar, mSee, mFrz, mTake, mC, mUn, mOp, mNil, mCons, mCall, mCallL, mTup, mLst, mView, mOwn, mFz, mTest, mAnd, mOr, mNot, mIf, mAndV, mOrV, mNotV, mChain, mAt, qSee, qFz, qNew, oNone, oSome, rNil, rSlot, rFz, mCall0, mCall1, oneSlot, noSlot, treesOf, SD.tree, SD.put, SD.putFz, tgN, tgNil, tgCons, tgT, ER.bind, ER.opt, ER.stm, Fl.seq, OT.view, OT.views, OT.items, fzOf, iLst, iTuP, iRange1, iRange2, iZip2, iEnumL, dIx, atI, ixN, dAdd, dSub, dNeg, dLt, dLe, dGt, dGe, dIsN, dNotN, isNonD, dEq, dNe, eqB_int, eqB_str, eqB_bl, eq_2, eq_3, dLen, dIsi, D.isA, tyName, dMod, dMax, dMin, mAtS, mBm, D.isL, D.isS, mCutX, lo, lc, W_iff, z1, z2, z3, dInt2, hh, ht, hl, num, e1]
theorem letter_ne {c : Nat} (h : c ∈ letters) : c ≠ 40 ∧ c ≠ 41 := by
  unfold letters at h
  simp at h
  omega
theorem fw_step (cs : Nat → Addr) {ws : D} {d i c n : Nat} {e : Bool} (hc : c ∈ letters) (hn1 : 1 ≤ n) (hn2 : n ≤ 1000000000000000000000000000000) (h2 : i + 1 + d ≤ 1000) : m_first_wrong_b1 cs (fwSD ws d e (.ow (.fz (.int i))) (.ow (.fz (.str (W (lw c n)))))) = .nx (fwSD ws d false (.ow (.fz (.int i))) (.ow (.fz (.str (W (lw c n)))))) := by
  have z2 : ¬ (1000 : Int) < (i : Int) + 1 + (d : Int) := by omega
  have sw := step_word_ok cs hc hn1 hn2
  have lo := lit_open
  have lc := lit_close
  have hh : cutS (W (lw c n)) none (some 1) = W [c] := by rw [W_head]; rfl
  have hl : (W (lw c n)).length ≤ 16777216 := by
    have hl := TL.numL_len (n := n) (k := 31) (by decide) (by omega)
    rw [W_len]
    unfold lw
    rw [List.length_cons]
    split <;> simp <;> omega
  obtain ⟨c1, c2⟩ := letter_ne hc
  have ne : ¬ lw c n = [40] := fun z => by
    unfold lw at z
    injection z with z1 z3
    exact c1 z1
  simp [m_first_wrong_b1, m_first_wrong_14, m_first_wrong_13, m_first_wrong_12, m_first_wrong_10, m_first_wrong_16, fwSD, -List.map_map, -List.map_take, -List.map_drop, -List.map_append, -List.map_reverse, asDef, entry, slotsOf, sSeq, sSet, sRet, sIf, sDrop, sNil, sBreak, sCont, sApp, sSetAt, setEnd, sAug, sAsg, sPar, mVar, mSee, mFrz, mTake, mC, mUn, mOp, mNil, mCons, mCall, mCallL, mTup, mLst, mView, mOwn, mFz, mTest, mAnd, mOr, mNot, mIf, mAndV, mOrV, mNotV, mChain, mAt, qSee, qFz, qNew, oNone, oSome, rNil, rSlot, rFz, mCall0, mCall1, oneSlot, noSlot, treesOf, SD.tree, SD.put, SD.putFz, tgN, tgNil, tgCons, tgT, ER.bind, ER.opt, ER.stm, Fl.seq, OT.view, OT.views, OT.items, fzOf, iLst, iTuP, iRange1, iRange2, iZip2, iEnumL, dIx, atI, ixN, dAdd, dSub, dNeg, dLt, dLe, dGt, dGe, dIsN, dNotN, isNonD, dEq, dNe, eqB_int, eqB_str, eqB_bl, eq_2, eq_3, dLen, dIsi, D.isA, tyName, dMod, dMax, dMin, mAtS, mBm, D.isL, D.isS, mCutX, lo, lc, W_iff, z2, dInt2, hh, hl, sw, ne, c2]
mutual
theorem fw_nd (cs : Nat → Addr) {ws : D} : ∀ (a : Nd) (i d : Nat) (e : Bool) (x4 x5 : S), nok a → d + ndp a ≤ 12 → i + (wd a).length + d ≤ 1000 → ∃ y4 y5, Runs fwG (m_first_wrong_b1 cs) (enD i (WsD (wd a))) (fwSD ws d e x4 x5) (fwSD ws d false y4 y5)
  | .st c n, i, d, e, x4, x5, h, _, hl => by
    rw [nok] at h
    rw [wd, List.length_singleton] at hl
    rw [wd]
    exact ⟨_, _, .one (a1 := fwSD ws d e (.ow (.fz (.int i))) (.ow (.fz (.str (W (lw c n)))))) rfl (fw_step cs h.1 h.2.1 h.2.2 (by omega))⟩
  | .rp b n, i, d, e, x4, x5, h, hd, hl => by
    rw [nok] at h
    rw [ndp] at hd
    rw [wd, List.length_cons, List.length_append, List.length_singleton] at hl
    rw [wd]
    have hb : 1 ≤ (wds b).length := by
      have := len_wds b
      cases b with
      | nil => exact absurd rfl h.1
      | cons _ _ => rw [List.length_cons] at this; omega
    obtain ⟨y4, y5, r1⟩ := fw_nds cs b (i + 1) (d + 1) true (.ow (.fz (.int i))) (.ow (.fz (.str (W [40])))) h.2.2.2 (by omega) (by omega)
    rw [if_neg h.1] at r1
    have o1 : Runs fwG (m_first_wrong_b1 cs) [.tup [.int (i : Int), .str (W [40])]] (fwSD ws d e x4 x5) (fwSD ws (d + 1) true (.ow (.fz (.int i))) (.ow (.fz (.str (W [40]))))) := .one (a1 := fwSD ws d e (.ow (.fz (.int i))) (.ow (.fz (.str (W [40]))))) rfl (fw_open cs (by omega) (by omega))
    have c1 : Runs fwG (m_first_wrong_b1 cs) [.tup [.int ((i + 1 + (wds b).length : Nat) : Int), .str (W (41 :: TL.numL n))]] (fwSD ws (d + 1) false y4 y5) (fwSD ws d false (.ow (.fz (.int (i + 1 + (wds b).length : Nat)))) (.ow (.fz (.str (W (41 :: TL.numL n)))))) := .one (a1 := fwSD ws (d + 1) false (.ow (.fz (.int (i + 1 + (wds b).length : Nat)))) (.ow (.fz (.str (W (41 :: TL.numL n)))))) rfl (fw_close cs h.2.1 h.2.2.1 (by omega))
    refine ⟨.ow (.fz (.int (i + 1 + (wds b).length : Nat))), .ow (.fz (.str (W (41 :: TL.numL n)))), ?_⟩
    have e0 : enD i (WsD ([40] :: (wds b ++ [41 :: TL.numL n]))) = [.tup [.int (i : Int), .str (W [40])]] ++ (enD (i + 1) (WsD (wds b)) ++ [.tup [.int ((i + 1 + (wds b).length : Nat) : Int), .str (W (41 :: TL.numL n))]]) := by
      show enD i (.str (W [40]) :: WsD (wds b ++ [41 :: TL.numL n])) = _
      rw [enD_cons, WsD_app, enD_app, WsD_len]
      rfl
    rw [e0]
    exact o1.app (r1.app c1)
theorem fw_nds (cs : Nat → Addr) {ws : D} : ∀ (l : List Nd) (i d : Nat) (e : Bool) (x4 x5 : S), noks l → d + ndps l ≤ 12 → i + (wds l).length + d ≤ 1000 → ∃ y4 y5, Runs fwG (m_first_wrong_b1 cs) (enD i (WsD (wds l))) (fwSD ws d e x4 x5) (fwSD ws d (if l = [] then e else false) y4 y5)
  | [], i, d, e, x4, x5, _, _, _ => ⟨x4, x5, by rw [if_pos rfl]; exact .nil⟩
  | a :: r, i, d, e, x4, x5, h, hd, hl => by
    rw [noks] at h
    rw [ndps] at hd
    rw [wds, List.length_append] at hl
    obtain ⟨y4, y5, r1⟩ := fw_nd cs a i d e x4 x5 h.1 (by omega) (by omega)
    obtain ⟨z4, z5, r2⟩ := fw_nds cs r (i + (wd a).length) d false y4 y5 h.2 (by omega) (by omega)
    refine ⟨z4, z5, ?_⟩
    rw [wds, WsD_app, enD_app, WsD_len, if_neg (by simp)]
    have e2 : (if r = [] then false else false) = false := by split <;> rfl
    rw [e2] at r2
    exact r1.app r2
end
theorem first_wrong_ok (cs : Nat → Addr) {l : List Nd} (h : noks l) (hd : ndps l ≤ 12) (hl : (wds l).length ≤ 1000) : m_first_wrong cs [.fz (.lst (WsD (wds l))), .fz (.lst [])] = .ok (.fz .non) ⟨[], [.fz (.lst (WsD (wds l))), .fz (.lst [])]⟩ := by
  obtain ⟨y4, y5, r⟩ := fw_nds cs (ws := .lst (WsD (wds l))) l 0 0 false .un .un h (by omega) (by omega)
  have e2 : (if l = [] then false else false) = false := by split <;> rfl
  rw [e2] at r
  have s1 : m_first_wrong_1 cs ⟨[.ow (.fz (.lst (WsD (wds l)))), .ow (.fz (.lst [])), .un, .un, .un, .un], [.fz (.lst (WsD (wds l))), .fz (.lst [])]⟩ = .nx ⟨[.ow (.fz (.lst (WsD (wds l)))), .ow (.fz (.lst [])), .ow (.fz (.int 0)), .un, .un, .un], [.fz (.lst (WsD (wds l))), .fz (.lst [])]⟩ := rfl
  have s2 : m_first_wrong_2 cs ⟨[.ow (.fz (.lst (WsD (wds l)))), .ow (.fz (.lst [])), .ow (.fz (.int 0)), .un, .un, .un], [.fz (.lst (WsD (wds l))), .fz (.lst [])]⟩ = .nx (fwSD (.lst (WsD (wds l))) 0 false .un .un) := rfl
  have s17 : m_first_wrong_17 cs (fwSD (.lst (WsD (wds l))) 0 false .un .un) = .nx (fwSD (.lst (WsD (wds l))) 0 false y4 y5) := r.all
  have s18 : m_first_wrong_18 cs (fwSD (.lst (WsD (wds l))) 0 false y4 y5) = .rt (.fz .non) (fwSD (.lst (WsD (wds l))) 0 false y4 y5) := by
    simp [m_first_wrong_18, fwSD, -List.map_map, -List.map_take, -List.map_drop, -List.map_append, -List.map_reverse, asDef, entry, slotsOf, sSeq, sSet, sRet, sIf, sDrop, sNil, sBreak, sCont, sApp, sSetAt, setEnd, sAug, sAsg, sPar, mVar, mSee, mFrz, mTake, mC, mUn, mOp, mNil, mCons, mCall, mCallL, mTup, mLst, mView, mOwn, mFz, mTest, mAnd, mOr, mNot, mIf, mAndV, mOrV, mNotV, mChain, mAt, qSee, qFz, qNew, oNone, oSome, rNil, rSlot, rFz, mCall0, mCall1, oneSlot, noSlot, treesOf, SD.tree, SD.put, SD.putFz, tgN, tgNil, tgCons, tgT, ER.bind, ER.opt, ER.stm, Fl.seq, OT.view, OT.views, OT.items, fzOf, iLst, iTuP, iRange1, iRange2, iZip2, iEnumL, dIx, atI, ixN, dAdd, dSub, dNeg, dLt, dLe, dGt, dGe, dIsN, dNotN, isNonD, dEq, dNe, eqB_int, eqB_str, eqB_bl, eq_2, eq_3, dLen, dIsi, D.isA, tyName, dMod, dMax, dMin, mAtS, mBm, D.isL, D.isS]
  have ent : entry 6 [.fz (.lst (WsD (wds l))), .fz (.lst [])] = ⟨[.ow (.fz (.lst (WsD (wds l)))), .ow (.fz (.lst [])), .un, .un, .un, .un], [.fz (.lst (WsD (wds l))), .fz (.lst [])]⟩ := rfl
  simp only [m_first_wrong, asDef, ent, sSeq, s1, s2, s17, s18, Fl.seq]
  rfl
noncomputable def nfSD (ws : List D) (p0 p : Nat) (found : List D) (x3 x4 : S) : SD := ⟨[.ow (.fz (.lst ws)), .ow (.fz (.int p)), .ow (.ol (found.map .fz)), x3, x4], [.fz (.lst ws), .fz (.int p0)]⟩
/-- a while that goes on -/
noncomputable def WGo (c : SD → ER Bool) (body : SD → Fl) (k : Nat) (a b : SD) : Prop := ∀ n, goWhile c body (n + k) a = goWhile c body n b
theorem WGo.nil {c : SD → ER Bool} {body : SD → Fl} {a : SD} : WGo c body 0 a a := fun _ => rfl
theorem WGo.one {c : SD → ER Bool} {body : SD → Fl} {a b : SD} (h1 : c a = .ok true a) (h2 : body a = .nx b) : WGo c body 1 a b := fun n => by
  show (c a).stm _ = _
  rw [h1]
  show (if true = true then (match body a with
      | .nx sd2 => goWhile c body n sd2
      | .ct sd2 => goWhile c body n sd2
      | .bk sd2 => .nx sd2
      | r => r) else .nx a) = _
  rw [if_pos rfl, h2]
theorem WGo.app {c : SD → ER Bool} {body : SD → Fl} {k l : Nat} {a b d : SD} (h1 : WGo c body k a b) (h2 : WGo c body l b d) : WGo c body (l + k) a d := fun n => by
  rw [← Nat.add_assoc, h1, h2]
theorem at_mid (pre : List (List Nat)) (w : List Nat) (post : List (List Nat)) : dIx (.lst (WsD (pre ++ w :: post))) (.int pre.length) = some (.str (W w)) := by
  show atI (WsD (pre ++ w :: post)) (pre.length : Int) = _
  refine atI_of ?_
  unfold WsD
  rw [List.getElem?_map, List.getElem?_append_right (Nat.le_refl _), Nat.sub_self]
  rfl
theorem at_sign (c : Nat) (r : List Nat) (h : r.length ≤ 100) : dIx (.str (W (c :: r))) (.int 0) = some (.str (W [c])) := by
  show (if (W (c :: r)).length ≤ 16777216 then (atI (c :: r) 0).map (fun c => D.str ⟨#[c]⟩) else none) = _
  rw [W_len, if_pos (by rw [List.length_cons]; omega), show atI (c :: r) (0 : Int) = some c from atI_of (k := 0) rfl]
  rfl
theorem lw_len {n : Nat} (h : n ≤ 1000000000000000000000000000000) : (if n = 1 then ([] : List Nat) else TL.numL n).length ≤ 31 := by
  have hl := TL.numL_len (n := n) (k := 31) (by decide) (by omega)
  split
  · simp
  · exact hl
theorem lw_int {n : Nat} (h : n ≤ 1000000000000000000000000000000) : dInt2 [.str (W (TL.numL n))] = some (.int n) := int_W (by
  have : (10 : Nat) ^ 31 ≤ 10 ^ 600 := Nat.pow_le_pow_right (by decide) (by decide)
  omega)
noncomputable abbrev nfC : SD → ER Bool := mAnd (mTest (mOp dLt (mVar 1) (mCall dLen (mCons (mVar 0) (mNil))))) (mTest (mOp dNe (mOp dIx (mOp dIx (mVar 0) (mVar 1)) (mC (.int 0))) (mC (.str ")"))))
theorem nf_cond {pre post : List (List Nat)} {c : Nat} {r : List Nat} {p0 : Nat} {found : List D} {x3 x4 : S} (hc : c ≠ 41) (hr : r.length ≤ 100) : nfC (nfSD (WsD (pre ++ (c :: r) :: post)) p0 pre.length found x3 x4) = .ok true (nfSD (WsD (pre ++ (c :: r) :: post)) p0 pre.length found x3 x4) := by
  have h1 := at_mid pre (c :: r) post
  have h2 := at_sign c r hr
  have h3 : (pre.length : Int) < ((WsD (pre ++ (c :: r) :: post)).length : Int) := by rw [WsD_len, List.length_append, List.length_cons]; omega
  have lc := lit_close
  generalize WsD (pre ++ (c :: r) :: post) = ws at *
  simp [nfC, nfSD, -List.map_map, -List.map_take, -List.map_drop, -List.map_append, -List.map_reverse, asDef, entry, slotsOf, sSeq, sSet, sRet, sIf, sDrop, sNil, sBreak, sCont, sApp, sSetAt, setEnd, sAug, sAsg, sPar, mVar, mSee, mFrz, mTake, mC, mUn, mOp, mNil, mCons, mCall, mCallL, mTup, mLst, mView, mOwn, mFz, mTest, mAnd, mOr, mNot, mIf, mAndV, mOrV, mNotV, mChain, mAt, qSee, qFz, qNew, oNone, oSome, rNil, rSlot, rFz, mCall0, mCall1, oneSlot, noSlot, treesOf, SD.tree, SD.put, SD.putFz, tgN, tgNil, tgCons, tgT, ER.bind, ER.opt, ER.stm, Fl.seq, OT.view, OT.views, OT.items, fzOf, iLst, iTuP, iRange1, iRange2, iZip2, iEnumL, dAdd, dSub, dNeg, dLt, dLe, dGt, dGe, dIsN, dNotN, isNonD, dEq, dNe, eqB_int, eqB_str, eqB_bl, eq_2, eq_3, dLen, dIsi, D.isA, tyName, dMod, dMax, dMin, mAtS, mBm, D.isL, D.isS, h1, h2, h3, lc, W_iff, hc]
theorem nf_stop {pre post : List (List Nat)} {p0 : Nat} {found : List D} {x3 x4 : S} (h : post = [] ∨ ∃ r t, post = (41 :: r) :: t ∧ r.length ≤ 100) : nfC (nfSD (WsD (pre ++ post)) p0 pre.length found x3 x4) = .ok false (nfSD (WsD (pre ++ post)) p0 pre.length found x3 x4) := by
  rcases h with rfl | ⟨r, t, rfl, hr⟩
  · have h3 : ¬ (pre.length : Int) < ((WsD (pre ++ [])).length : Int) := by rw [WsD_len, List.append_nil]; omega
    generalize WsD (pre ++ []) = ws at *
    simp [nfC, nfSD, -List.map_map, -List.map_take, -List.map_drop, -List.map_append, -List.map_reverse, asDef, entry, slotsOf, sSeq, sSet, sRet, sIf, sDrop, sNil, sBreak, sCont, sApp, sSetAt, setEnd, sAug, sAsg, sPar, mVar, mSee, mFrz, mTake, mC, mUn, mOp, mNil, mCons, mCall, mCallL, mTup, mLst, mView, mOwn, mFz, mTest, mAnd, mOr, mNot, mIf, mAndV, mOrV, mNotV, mChain, mAt, qSee, qFz, qNew, oNone, oSome, rNil, rSlot, rFz, mCall0, mCall1, oneSlot, noSlot, treesOf, SD.tree, SD.put, SD.putFz, tgN, tgNil, tgCons, tgT, ER.bind, ER.opt, ER.stm, Fl.seq, OT.view, OT.views, OT.items, fzOf, iLst, iTuP, iRange1, iRange2, iZip2, iEnumL, dAdd, dSub, dNeg, dLt, dLe, dGt, dGe, dIsN, dNotN, isNonD, dEq, dNe, eqB_int, eqB_str, eqB_bl, eq_2, eq_3, dLen, dIsi, D.isA, tyName, dMod, dMax, dMin, mAtS, mBm, D.isL, D.isS, h3]
  · have h1 := at_mid pre (41 :: r) t
    have h2 := at_sign 41 r hr
    have h3 : (pre.length : Int) < ((WsD (pre ++ (41 :: r) :: t)).length : Int) := by rw [WsD_len, List.length_append, List.length_cons]; omega
    have lc := lit_close
    generalize WsD (pre ++ (41 :: r) :: t) = ws at *
    simp [nfC, nfSD, -List.map_map, -List.map_take, -List.map_drop, -List.map_append, -List.map_reverse, asDef, entry, slotsOf, sSeq, sSet, sRet, sIf, sDrop, sNil, sBreak, sCont, sApp, sSetAt, setEnd, sAug, sAsg, sPar, mVar, mSee, mFrz, mTake, mC, mUn, mOp, mNil, mCons, mCall, mCallL, mTup, mLst, mView, mOwn, mFz, mTest, mAnd, mOr, mNot, mIf, mAndV, mOrV, mNotV, mChain, mAt, qSee, qFz, qNew, oNone, oSome, rNil, rSlot, rFz, mCall0, mCall1, oneSlot, noSlot, treesOf, SD.tree, SD.put, SD.putFz, tgN, tgNil, tgCons, tgT, ER.bind, ER.opt, ER.stm, Fl.seq, OT.view, OT.views, OT.items, fzOf, iLst, iTuP, iRange1, iRange2, iZip2, iEnumL, dAdd, dSub, dNeg, dLt, dLe, dGt, dGe, dIsN, dNotN, isNonD, dEq, dNe, eqB_int, eqB_str, eqB_bl, eq_2, eq_3, dLen, dIsi, D.isA, tyName, dMod, dMax, dMin, mAtS, mBm, D.isL, D.isS, h1, h2, h3, lc, W_iff]
theorem nf_st (cs : Nat → Addr) (rec : List OT → ER OT) {pre post : List (List Nat)} {c n p0 : Nat} {found : List D} {x3 x4 : S} (hc : c ∈ letters) (h1 : 1 ≤ n) (h2 : n ≤ 1000000000000000000000000000000) (hf : found.length ≤ 2000) :
    ∃ y3 y4, m_nodes_from_b1 cs rec (nfSD (WsD (pre ++ lw c n :: post)) p0 pre.length found x3 x4) = .nx (nfSD (WsD (pre ++ lw c n :: post)) p0 (pre.length + 1) (found ++ [enc (.st c n)]) y3 y4) := by
  have g1 := at_mid pre (lw c n) post
  have g2 : dIx (.str (W (lw c n))) (.int 0) = some (.str (W [c])) := at_sign c _ (by have := lw_len h2; omega)
  have lo := lit_open
  have hl : (W (lw c n)).length ≤ 16777216 := by
    have := lw_len h2
    rw [W_len]; unfold lw; rw [List.length_cons]; omega
  have dl : dLen [.str (W (lw c n))] = some (.int (lw c n).length) := by
    show (if (W (lw c n)).length ≤ 16777216 then some (D.int (W (lw c n)).length) else none) = _
    rw [if_pos hl, W_len]
  have ht : cutS (W (lw c n)) (some 1) none = W (if n = 1 then [] else TL.numL n) := by rw [W_tail]; rfl
  have ne : ¬ lw c n = [40] := fun z => by
    unfold lw at z
    injection z with z1 z3
    exact (letter_ne hc).1 z1
  have hi := lw_int h2
  have hfl : found.length < 16777216 := by omega
  have hw : 1 < (lw c n).length ↔ n ≠ 1 := by
    unfold lw
    by_cases e : n = 1
    · rw [if_pos e]; simp [e]
    · rw [if_neg e]
      obtain ⟨d, r, z, _⟩ := num_head n
      rw [z]; simp [e]
  have hp : ((pre.length : Int) + 1) = ((pre.length + 1 : Nat) : Int) := by omega
  refine ⟨.ow (.fz (.str (W (lw c n)))), x4, ?_⟩
  rw [enc]
  generalize WsD (pre ++ lw c n :: post) = ws at *
  generalize hww : lw c n = w at *
  generalize pre.length = p at *
  have s2 : m_nodes_from_2 cs rec (nfSD ws p0 p found x3 x4) = .nx (nfSD ws p0 p found (.ow (.fz (.str (W w)))) x4) := by
    simp [m_nodes_from_2, nfSD, -List.map_map, -List.map_take, -List.map_drop, -List.map_append, -List.map_reverse, asDef, entry, slotsOf, sSeq, sSet, sRet, sIf, sDrop, sNil, sBreak, sCont, sApp, sSetAt, setEnd, sAug, sAsg, sPar, mVar, mSee, mFrz, mTake, mC, mUn, mOp, mNil, mCons, mCall, mCallL, mTup, mLst, mView, mOwn, mFz, mTest, mAnd, mOr, mNot, mIf, mAndV, mOrV, mNotV, mChain, mAt, qSee, qFz, qNew, oNone, oSome, rNil, rSlot, rFz, mCall0, mCall1, oneSlot, noSlot, treesOf, SD.tree, SD.put, SD.putFz, tgN, tgNil, tgCons, tgT, ER.bind, ER.opt, ER.stm, Fl.seq, OT.view, OT.views, OT.items, fzOf, iLst, iTuP, iRange1, iRange2, iZip2, iEnumL, dAdd, dSub, dNeg, dLt, dLe, dGt, dGe, dIsN, dNotN, isNonD, dEq, dNe, eqB_int, eqB_str, eqB_bl, eq_2, eq_3, dLen, dIsi, D.isA, tyName, dMod, dMax, dMin, mAtS, mBm, D.isL, D.isS, g1]
  have s7 : m_nodes_from_7 cs rec (nfSD ws p0 p (found ++ [.tup [.str (W [c]), .int n]]) (.ow (.fz (.str (W w)))) x4) = .nx (nfSD ws p0 (p + 1) (found ++ [.tup [.str (W [c]), .int n]]) (.ow (.fz (.str (W w)))) x4) := by
    simp [m_nodes_from_7, nfSD, -List.map_map, -List.map_take, -List.map_drop, -List.map_append, -List.map_reverse, asDef, entry, slotsOf, sSeq, sSet, sRet, sIf, sDrop, sNil, sBreak, sCont, sApp, sSetAt, setEnd, sAug, sAsg, sPar, mVar, mSee, mFrz, mTake, mC, mUn, mOp, mNil, mCons, mCall, mCallL, mTup, mLst, mView, mOwn, mFz, mTest, mAnd, mOr, mNot, mIf, mAndV, mOrV, mNotV, mChain, mAt, qSee, qFz, qNew, oNone, oSome, rNil, rSlot, rFz, mCall0, mCall1, oneSlot, noSlot, treesOf, SD.tree, SD.put, SD.putFz, tgN, tgNil, tgCons, tgT, ER.bind, ER.opt, ER.stm, Fl.seq, OT.view, OT.views, OT.items, fzOf, iLst, iTuP, iRange1, iRange2, iZip2, iEnumL, dAdd, dSub, dNeg, dLt, dLe, dGt, dGe, dIsN, dNotN, isNonD, dEq, dNe, eqB_int, eqB_str, eqB_bl, eq_2, eq_3, dLen, dIsi, D.isA, tyName, dMod, dMax, dMin, mAtS, mBm, D.isL, D.isS]
  have s6 : m_nodes_from_6 cs rec (nfSD ws p0 p found (.ow (.fz (.str (W w)))) x4) = .nx (nfSD ws p0 p (found ++ [.tup [.str (W [c]), .int n]]) (.ow (.fz (.str (W w)))) x4) := by
    by_cases e : n = 1
    · have z : ¬ (1 : Int) < (w.length : Int) := fun z => (hw.mp (by omega)) e
      simp [m_nodes_from_6, m_nodes_from_5, nfSD, -List.map_map, -List.map_take, -List.map_drop, -List.map_append, -List.map_reverse, asDef, entry, slotsOf, sSeq, sSet, sRet, sIf, sDrop, sNil, sBreak, sCont, sApp, sSetAt, setEnd, sAug, sAsg, sPar, mVar, mSee, mFrz, mTake, mC, mUn, mOp, mNil, mCons, mCall, mCallL, mTup, mLst, mView, mOwn, mFz, mTest, mAnd, mOr, mNot, mIf, mAndV, mOrV, mNotV, mChain, mAt, qSee, qFz, qNew, oNone, oSome, rNil, rSlot, rFz, mCall0, mCall1, oneSlot, noSlot, treesOf, SD.tree, SD.put, SD.putFz, tgN, tgNil, tgCons, tgT, ER.bind, ER.opt, ER.stm, Fl.seq, OT.view, OT.views, OT.items, fzOf, iLst, iTuP, iRange1, iRange2, iZip2, iEnumL, dAdd, dSub, dNeg, dLt, dLe, dGt, dGe, dIsN, dNotN, isNonD, dEq, dNe, eqB_int, eqB_str, eqB_bl, eq_2, eq_3, dLen, dIsi, D.isA, tyName, dMod, dMax, dMin, mAtS, mBm, D.isL, D.isS, lo, W_iff, ne, g2, dl, z, -dLen, hfl]
      rw [e, List.map_append]; rfl
    · have z : (1 : Int) < (w.length : Int) := by have := hw.mpr e; omega
      rw [if_neg e] at ht
      simp [m_nodes_from_6, m_nodes_from_5, nfSD, -List.map_map, -List.map_take, -List.map_drop, -List.map_append, -List.map_reverse, asDef, entry, slotsOf, sSeq, sSet, sRet, sIf, sDrop, sNil, sBreak, sCont, sApp, sSetAt, setEnd, sAug, sAsg, sPar, mVar, mSee, mFrz, mTake, mC, mUn, mOp, mNil, mCons, mCall, mCallL, mTup, mLst, mView, mOwn, mFz, mTest, mAnd, mOr, mNot, mIf, mAndV, mOrV, mNotV, mChain, mAt, qSee, qFz, qNew, oNone, oSome, rNil, rSlot, rFz, mCall0, mCall1, oneSlot, noSlot, treesOf, SD.tree, SD.put, SD.putFz, tgN, tgNil, tgCons, tgT, ER.bind, ER.opt, ER.stm, Fl.seq, OT.view, OT.views, OT.items, fzOf, iLst, iTuP, iRange1, iRange2, iZip2, iEnumL, dAdd, dSub, dNeg, dLt, dLe, dGt, dGe, dIsN, dNotN, isNonD, dEq, dNe, eqB_int, eqB_str, eqB_bl, eq_2, eq_3, dLen, dIsi, D.isA, tyName, dMod, dMax, dMin, mAtS, mBm, D.isL, D.isS, mCutX, lo, W_iff, ne, g2, dl, z, -dLen, hfl, ht, hl, hi, -dInt2]
      rw [List.map_append]; rfl
  simp only [m_nodes_from_b1, sSeq, s2, s6, s7, Fl.seq]
theorem nf_rp (cs : Nat → Addr) (rec : List OT → ER OT) {pre post : List (List Nat)} {n p0 q : Nat} {body : D} {found : List D} {x3 x4 : S} {mid : List (List Nat)} {sd : SD} (h2 : n ≤ 1000000000000000000000000000000) (hf : found.length ≤ 2000) (hq : q = (pre ++ [40] :: mid).length)
    (hr : rec [.fz (.lst (WsD (pre ++ [40] :: (mid ++ (41 :: TL.numL n) :: post)))), .fz (.int (pre.length + 1 : Nat))] = .ok (.fz (.tup [body, .int q])) sd) :
    ∃ y3 y4, m_nodes_from_b1 cs rec (nfSD (WsD (pre ++ [40] :: (mid ++ (41 :: TL.numL n) :: post))) p0 pre.length found x3 x4) = .nx (nfSD (WsD (pre ++ [40] :: (mid ++ (41 :: TL.numL n) :: post))) p0 (q + 1) (found ++ [.tup [body, .int n]]) y3 y4) := by
  have g1 := at_mid pre [40] (mid ++ (41 :: TL.numL n) :: post)
  have g2 := at_mid (pre ++ [40] :: mid) (41 :: TL.numL n) post
  rw [← hq] at g2
  rw [show (pre ++ [40] :: mid) ++ (41 :: TL.numL n) :: post = pre ++ [40] :: (mid ++ (41 :: TL.numL n) :: post) by simp] at g2
  have lo := lit_open
  have hl : (W (41 :: TL.numL n)).length ≤ 16777216 := by
    have hl := TL.numL_len (n := n) (k := 31) (by decide) (by omega)
    rw [W_len, List.length_cons]; omega
  have ht : cutS (W (41 :: TL.numL n)) (some 1) none = W (TL.numL n) := by rw [W_tail]; rfl
  have hi := lw_int h2
  have hfl : found.length < 16777216 := by omega
  refine ⟨.ow (.fz (.str (W [40]))), .ow (.fz body), ?_⟩
  have hp : ((pre.length + 1 : Nat) : Int) = (pre.length : Int) + 1 := by omega
  rw [hp] at hr
  generalize WsD (pre ++ [40] :: (mid ++ (41 :: TL.numL n) :: post)) = ws at *
  clear hq
  generalize pre.length = p at *
  have s2 : m_nodes_from_2 cs rec (nfSD ws p0 p found x3 x4) = .nx (nfSD ws p0 p found (.ow (.fz (.str (W [40])))) x4) := by
    simp [m_nodes_from_2, nfSD, -List.map_map, -List.map_take, -List.map_drop, -List.map_append, -List.map_reverse, asDef, entry, slotsOf, sSeq, sSet, sRet, sIf, sDrop, sNil, sBreak, sCont, sApp, sSetAt, setEnd, sAug, sAsg, sPar, mVar, mSee, mFrz, mTake, mC, mUn, mOp, mNil, mCons, mCall, mCallL, mTup, mLst, mView, mOwn, mFz, mTest, mAnd, mOr, mNot, mIf, mAndV, mOrV, mNotV, mChain, mAt, qSee, qFz, qNew, oNone, oSome, rNil, rSlot, rFz, mCall0, mCall1, oneSlot, noSlot, treesOf, SD.tree, SD.put, SD.putFz, tgN, tgNil, tgCons, tgT, ER.bind, ER.opt, ER.stm, Fl.seq, OT.view, OT.views, OT.items, fzOf, iLst, iTuP, iRange1, iRange2, iZip2, iEnumL, dAdd, dSub, dNeg, dLt, dLe, dGt, dGe, dIsN, dNotN, isNonD, dEq, dNe, eqB_int, eqB_str, eqB_bl, eq_2, eq_3, dLen, dIsi, D.isA, tyName, dMod, dMax, dMin, mAtS, mBm, D.isL, D.isS, g1]
  have s3 : m_nodes_from_3 cs rec (nfSD ws p0 p found (.ow (.fz (.str (W [40])))) x4) = .nx (nfSD ws p0 q found (.ow (.fz (.str (W [40])))) (.ow (.fz body))) := by
    simp [m_nodes_from_3, nfSD, -List.map_map, -List.map_take, -List.map_drop, -List.map_append, -List.map_reverse, asDef, entry, slotsOf, sSeq, sSet, sRet, sIf, sDrop, sNil, sBreak, sCont, sApp, sSetAt, setEnd, sAug, sAsg, sPar, mVar, mSee, mFrz, mTake, mC, mUn, mOp, mNil, mCons, mCall, mCallL, mTup, mLst, mView, mOwn, mFz, mTest, mAnd, mOr, mNot, mIf, mAndV, mOrV, mNotV, mChain, mAt, qSee, qFz, qNew, oNone, oSome, rNil, rSlot, rFz, mCall0, mCall1, oneSlot, noSlot, treesOf, SD.tree, SD.put, SD.putFz, tgN, tgNil, tgCons, tgT, ER.bind, ER.opt, ER.stm, Fl.seq, OT.view, OT.views, OT.items, fzOf, iLst, iTuP, iRange1, iRange2, iZip2, iEnumL, dAdd, dSub, dNeg, dLt, dLe, dGt, dGe, dIsN, dNotN, isNonD, dEq, dNe, eqB_int, eqB_str, eqB_bl, eq_2, eq_3, dLen, dIsi, D.isA, tyName, dMod, dMax, dMin, mAtS, mBm, D.isL, D.isS, hr]
  have s4 : m_nodes_from_4 cs rec (nfSD ws p0 q found (.ow (.fz (.str (W [40])))) (.ow (.fz body))) = .nx (nfSD ws p0 q (found ++ [.tup [body, .int n]]) (.ow (.fz (.str (W [40])))) (.ow (.fz body))) := by
    simp [m_nodes_from_4, nfSD, -List.map_map, -List.map_take, -List.map_drop, -List.map_append, -List.map_reverse, asDef, entry, slotsOf, sSeq, sSet, sRet, sIf, sDrop, sNil, sBreak, sCont, sApp, sSetAt, setEnd, sAug, sAsg, sPar, mVar, mSee, mFrz, mTake, mC, mUn, mOp, mNil, mCons, mCall, mCallL, mTup, mLst, mView, mOwn, mFz, mTest, mAnd, mOr, mNot, mIf, mAndV, mOrV, mNotV, mChain, mAt, qSee, qFz, qNew, oNone, oSome, rNil, rSlot, rFz, mCall0, mCall1, oneSlot, noSlot, treesOf, SD.tree, SD.put, SD.putFz, tgN, tgNil, tgCons, tgT, ER.bind, ER.opt, ER.stm, Fl.seq, OT.view, OT.views, OT.items, fzOf, iLst, iTuP, iRange1, iRange2, iZip2, iEnumL, dAdd, dSub, dNeg, dLt, dLe, dGt, dGe, dIsN, dNotN, isNonD, dEq, dNe, eqB_int, eqB_str, eqB_bl, eq_2, eq_3, dLen, dIsi, D.isA, tyName, dMod, dMax, dMin, mAtS, mBm, D.isL, D.isS, mCutX, g2, ht, hl, hi, -dInt2, hfl]
    rw [List.map_append]; rfl
  have s6 : m_nodes_from_6 cs rec (nfSD ws p0 p found (.ow (.fz (.str (W [40])))) x4) = .nx (nfSD ws p0 q (found ++ [.tup [body, .int n]]) (.ow (.fz (.str (W [40])))) (.ow (.fz body))) := by
    have t6 : mTest (mOp dEq (mVar 3) (mC (.str "("))) (nfSD ws p0 p found (.ow (.fz (.str (W [40])))) x4) = .ok true (nfSD ws p0 p found (.ow (.fz (.str (W [40])))) x4) := by
      simp [nfSD, -List.map_map, -List.map_take, -List.map_drop, -List.map_append, -List.map_reverse, asDef, entry, slotsOf, sSeq, sSet, sRet, sIf, sDrop, sNil, sBreak, sCont, sApp, sSetAt, setEnd, sAug, sAsg, sPar, mVar, mSee, mFrz, mTake, mC, mUn, mOp, mNil, mCons, mCall, mCallL, mTup, mLst, mView, mOwn, mFz, mTest, mAnd, mOr, mNot, mIf, mAndV, mOrV, mNotV, mChain, mAt, qSee, qFz, qNew, oNone, oSome, rNil, rSlot, rFz, mCall0, mCall1, oneSlot, noSlot, treesOf, SD.tree, SD.put, SD.putFz, tgN, tgNil, tgCons, tgT, ER.bind, ER.opt, ER.stm, Fl.seq, OT.view, OT.views, OT.items, fzOf, iLst, iTuP, iRange1, iRange2, iZip2, iEnumL, dAdd, dSub, dNeg, dLt, dLe, dGt, dGe, dIsN, dNotN, isNonD, dEq, dNe, eqB_int, eqB_str, eqB_bl, eq_2, eq_3, dLen, dIsi, D.isA, tyName, dMod, dMax, dMin, mAtS, mBm, D.isL, D.isS, lo]
    simp only [m_nodes_from_6, sIf, t6, ER.stm, if_true, sSeq, s3, s4, Fl.seq]
  have s7 : m_nodes_from_7 cs rec (nfSD ws p0 q (found ++ [.tup [body, .int n]]) (.ow (.fz (.str (W [40])))) (.ow (.fz body))) = .nx (nfSD ws p0 (q + 1) (found ++ [.tup [body, .int n]]) (.ow (.fz (.str (W [40])))) (.ow (.fz body))) := by
    simp [m_nodes_from_7, nfSD, -List.map_map, -List.map_take, -List.map_drop, -List.map_append, -List.map_reverse, asDef, entry, slotsOf, sSeq, sSet, sRet, sIf, sDrop, sNil, sBreak, sCont, sApp, sSetAt, setEnd, sAug, sAsg, sPar, mVar, mSee, mFrz, mTake, mC, mUn, mOp, mNil, mCons, mCall, mCallL, mTup, mLst, mView, mOwn, mFz, mTest, mAnd, mOr, mNot, mIf, mAndV, mOrV, mNotV, mChain, mAt, qSee, qFz, qNew, oNone, oSome, rNil, rSlot, rFz, mCall0, mCall1, oneSlot, noSlot, treesOf, SD.tree, SD.put, SD.putFz, tgN, tgNil, tgCons, tgT, ER.bind, ER.opt, ER.stm, Fl.seq, OT.view, OT.views, OT.items, fzOf, iLst, iTuP, iRange1, iRange2, iZip2, iEnumL, dAdd, dSub, dNeg, dLt, dLe, dGt, dGe, dIsN, dNotN, isNonD, dEq, dNe, eqB_int, eqB_str, eqB_bl, eq_2, eq_3, dLen, dIsi, D.isA, tyName, dMod, dMax, dMin, mAtS, mBm, D.isL, D.isS]
  simp only [m_nodes_from_b1, sSeq, s2, s6, s7, Fl.seq]
theorem nf_loop (cs : Nat → Addr) (f : Nat) (ih : ∀ (pre post : List (List Nat)) (l : List Nd), noks l → ndps l < f → (wds l).length ≤ 1000 → (post = [] ∨ ∃ r t, post = (41 :: r) :: t ∧ r.length ≤ 100) → ∃ sd, m_nodes_from cs f [.fz (.lst (WsD (pre ++ (wds l ++ post)))), .fz (.int pre.length)] = .ok (.fz (.tup [.tup (encs l), .int ((pre ++ wds l).length : Nat)])) sd) :
    ∀ (l : List Nd) (pre post : List (List Nat)) (p0 : Nat) (found : List D) (x3 x4 : S), noks l → ndps l < f + 1 → (wds l).length ≤ 1000 → found.length + l.length ≤ 1500 → (post = [] ∨ ∃ r t, post = (41 :: r) :: t ∧ r.length ≤ 100) →
      ∃ y3 y4, WGo nfC (m_nodes_from_b1 cs (m_nodes_from cs f)) l.length (nfSD (WsD (pre ++ (wds l ++ post))) p0 pre.length found x3 x4) (nfSD (WsD (pre ++ (wds l ++ post))) p0 (pre ++ wds l).length (found ++ encs l) y3 y4)
  | [], pre, post, p0, found, x3, x4, _, _, _, _, _ => ⟨x3, x4, by
    rw [wds, encs, List.append_nil, List.append_nil]
    exact .nil⟩
  | .st c n :: r, pre, post, p0, found, x3, x4, h, hd, hl, hf, hp => by
    rw [noks, nok] at h
    rw [ndps] at hd
    rw [wds, wd, List.length_append, List.length_singleton] at hl
    rw [List.length_cons] at hf
    obtain ⟨y3, y4, e⟩ := nf_st cs (m_nodes_from cs f) (pre := pre) (post := wds r ++ post) (p0 := p0) (found := found) (x3 := x3) (x4 := x4) h.1.1 h.1.2.1 h.1.2.2 (by omega)
    have hc := nf_cond (pre := pre) (post := wds r ++ post) (c := c) (r := if n = 1 then [] else TL.numL n) (p0 := p0) (found := found) (x3 := x3) (x4 := x4) (letter_ne h.1.1).2 (by have := lw_len h.1.2.2; omega)
    obtain ⟨z3, z4, g⟩ := nf_loop cs f ih r (pre ++ [lw c n]) post p0 (found ++ [enc (.st c n)]) y3 y4 h.2 (by omega) (by omega) (by rw [List.length_append, List.length_singleton]; omega) hp
    refine ⟨z3, z4, ?_⟩
    have e1 : pre ++ (wds (.st c n :: r) ++ post) = pre ++ lw c n :: (wds r ++ post) := by rw [wds, wd]; simp
    have e2 : (pre ++ [lw c n]) ++ (wds r ++ post) = pre ++ lw c n :: (wds r ++ post) := by simp
    have e3 : (pre ++ [lw c n]) ++ wds r = pre ++ wds (.st c n :: r) := by rw [wds, wd]; simp
    have e4 : (pre ++ [lw c n]).length = pre.length + 1 := by simp
    rw [e2, e3, e4, List.append_assoc] at g
    rw [e1, encs]
    exact (WGo.one hc e).app g
  | .rp b n :: r, pre, post, p0, found, x3, x4, h, hd, hl, hf, hp => by
    rw [noks, nok] at h
    rw [ndps, ndp] at hd
    rw [wds, wd, List.length_append, List.length_cons, List.length_append, List.length_singleton] at hl
    rw [List.length_cons] at hf
    have e1 : pre ++ (wds (.rp b n :: r) ++ post) = pre ++ [40] :: (wds b ++ (41 :: TL.numL n) :: (wds r ++ post)) := by rw [wds, wd]; simp
    have nl : (TL.numL n).length ≤ 100 := by
      have hl := TL.numL_len (n := n) (k := 31) (by decide) (by omega)
      omega
    obtain ⟨sd, hr⟩ := ih (pre ++ [[40]]) ((41 :: TL.numL n) :: (wds r ++ post)) b h.1.2.2.2 (by omega) (by omega) (.inr ⟨_, _, rfl, nl⟩)
    have e2 : (pre ++ [[40]]) ++ (wds b ++ (41 :: TL.numL n) :: (wds r ++ post)) = pre ++ [40] :: (wds b ++ (41 :: TL.numL n) :: (wds r ++ post)) := by simp
    have e3 : (pre ++ [[40]]).length = pre.length + 1 := by simp
    have e4 : (pre ++ [[40]]) ++ wds b = pre ++ [40] :: wds b := by simp
    rw [e2, e3, e4] at hr
    obtain ⟨y3, y4, e⟩ := nf_rp cs (m_nodes_from cs f) (pre := pre) (post := wds r ++ post) (p0 := p0) (mid := wds b) (found := found) (x3 := x3) (x4 := x4) h.1.2.2.1 (by omega) rfl hr
    have hc := nf_cond (pre := pre) (post := wds b ++ (41 :: TL.numL n) :: (wds r ++ post)) (c := 40) (r := []) (p0 := p0) (found := found) (x3 := x3) (x4 := x4) (by decide) (by simp)
    obtain ⟨z3, z4, g⟩ := nf_loop cs f ih r (pre ++ wd (.rp b n)) post p0 (found ++ [enc (.rp b n)]) y3 y4 h.2 (by omega) (by omega) (by rw [List.length_append, List.length_singleton]; omega) hp
    refine ⟨z3, z4, ?_⟩
    have e5 : (pre ++ wd (.rp b n)) ++ (wds r ++ post) = pre ++ [40] :: (wds b ++ (41 :: TL.numL n) :: (wds r ++ post)) := by rw [wd]; simp
    have e6 : (pre ++ wd (.rp b n)) ++ wds r = pre ++ wds (.rp b n :: r) := by rw [wds]; simp
    have e7 : (pre ++ wd (.rp b n)).length = (pre ++ [40] :: wds b).length + 1 := by rw [wd]; simp; omega
    rw [e5, e6, e7, List.append_assoc] at g
    rw [e1, encs]
    rw [enc] at g ⊢
    exact (WGo.one hc e).app g
theorem nodes_from_ok (cs : Nat → Addr) : ∀ (f : Nat) (pre post : List (List Nat)) (l : List Nd), noks l → ndps l < f → (wds l).length ≤ 1000 → (post = [] ∨ ∃ r t, post = (41 :: r) :: t ∧ r.length ≤ 100) → ∃ sd, m_nodes_from cs f [.fz (.lst (WsD (pre ++ (wds l ++ post)))), .fz (.int pre.length)] = .ok (.fz (.tup [.tup (encs l), .int ((pre ++ wds l).length : Nat)])) sd
  | 0, pre, post, l, _, hd, _, _ => by omega
  | f + 1, pre, post, l, h, hd, hl, hp => by
    have hll := len_wds l
    obtain ⟨y3, y4, g⟩ := nf_loop cs f (nodes_from_ok cs f) l pre post pre.length [] .un .un h hd hl (by rw [List.length_nil]; omega) hp
    rw [List.nil_append] at g
    have st := nf_stop (pre := pre ++ wds l) (post := post) (p0 := pre.length) (found := encs l) (x3 := y3) (x4 := y4) hp
    rw [List.append_assoc] at st
    generalize WsD (pre ++ (wds l ++ post)) = ws at *
    have s1 : m_nodes_from_1 cs (m_nodes_from cs f) ⟨[.ow (.fz (.lst ws)), .ow (.fz (.int pre.length)), .un, .un, .un], [.fz (.lst ws), .fz (.int pre.length)]⟩ = .nx (nfSD ws pre.length pre.length [] .un .un) := rfl
    have s8 : m_nodes_from_8 cs (m_nodes_from cs f) (nfSD ws pre.length pre.length [] .un .un) = .nx (nfSD ws pre.length (pre ++ wds l).length (encs l) y3 y4) := by
      show goWhile nfC (m_nodes_from_b1 cs (m_nodes_from cs f)) 100000 _ = _
      have := g (100000 - l.length)
      rw [show 100000 - l.length + l.length = 100000 by omega] at this
      rw [this, show 100000 - l.length = (99999 - l.length) + 1 by omega]
      show (nfC (nfSD ws pre.length (pre ++ wds l).length (encs l) y3 y4)).stm _ = _
      rw [st]
      rfl
    have v9 : OT.views ((encs l).map .fz) = encs l := views_fz _
    have s9 : m_nodes_from_9 cs (m_nodes_from cs f) (nfSD ws pre.length (pre ++ wds l).length (encs l) y3 y4) = .rt (.fz (.tup [.tup (encs l), .int ((pre ++ wds l).length : Nat)])) ⟨[.ow (.fz (.lst ws)), .ow (.fz (.int (pre ++ wds l).length)), .ow (.fz (.lst (encs l))), y3, y4], [.fz (.lst ws), .fz (.int pre.length)]⟩ := by
      simp [m_nodes_from_9, nfSD, -List.map_map, -List.map_take, -List.map_drop, -List.map_append, -List.map_reverse, asDef, entry, slotsOf, sSeq, sSet, sRet, sIf, sDrop, sNil, sBreak, sCont, sApp, sSetAt, setEnd, sAug, sAsg, sPar, mVar, mSee, mFrz, mTake, mC, mUn, mOp, mNil, mCons, mCall, mCallL, mTup, mLst, mView, mOwn, mFz, mTest, mAnd, mOr, mNot, mIf, mAndV, mOrV, mNotV, mChain, mAt, qSee, qFz, qNew, oNone, oSome, rNil, rSlot, rFz, mCall0, mCall1, oneSlot, noSlot, treesOf, SD.tree, SD.put, SD.putFz, tgN, tgNil, tgCons, tgT, ER.bind, ER.opt, ER.stm, Fl.seq, OT.view, OT.views, OT.items, fzOf, iLst, iTuP, iRange1, iRange2, iZip2, iEnumL, dAdd, dSub, dNeg, dLt, dLe, dGt, dGe, dIsN, dNotN, isNonD, dEq, dNe, eqB_int, eqB_str, eqB_bl, eq_2, eq_3, dLen, dIsi, D.isA, tyName, dMod, dMax, dMin, mAtS, mBm, D.isL, D.isS, mFrz, mCallT, dTupOf, v9]
    have ent : entry 5 [.fz (.lst ws), .fz (.int pre.length)] = ⟨[.ow (.fz (.lst ws)), .ow (.fz (.int pre.length)), .un, .un, .un], [.fz (.lst ws), .fz (.int pre.length)]⟩ := rfl
    refine ⟨⟨[], [.fz (.lst ws), .fz (.int pre.length)]⟩, ?_⟩
    show m_nodes_from_r cs (m_nodes_from cs f) _ = _
    simp only [m_nodes_from_r, asDef, ent, sSeq, s1, s8, s9, Fl.seq]
theorem nodes_in_ok (cs : Nat → Addr) {l : List Nd} (h : noks l) (hd : ndps l ≤ 12) (hl : (wds l).length ≤ 1000) : m_nodes_in cs [.fz (.lst (WsD (wds l)))] = .ok (.fz (.tup (encs l))) ⟨[], [.fz (.lst (WsD (wds l)))]⟩ := by
  obtain ⟨sd, e⟩ := nodes_from_ok cs 16 [] [] l h (by omega) hl (.inl rfl)
  rw [List.nil_append, List.append_nil, List.nil_append, List.length_nil] at e
  have e : m_nodes_from cs 16 [.fz (.lst (WsD (wds l))), .fz (.int 0)] = .ok (.fz (.tup [.tup (encs l), .int ((wds l).length : Nat)])) sd := e
  generalize WsD (wds l) = ws at *
  simp [m_nodes_in, m_nodes_in_1, -List.map_map, -List.map_take, -List.map_drop, -List.map_append, -List.map_reverse, asDef, entry, slotsOf, sSeq, sSet, sRet, sIf, sDrop, sNil, sBreak, sCont, sApp, sSetAt, setEnd, sAug, sAsg, sPar, mVar, mSee, mFrz, mTake, mC, mUn, mOp, mNil, mCons, mCall, mCallL, mTup, mLst, mView, mOwn, mFz, mTest, mAnd, mOr, mNot, mIf, mAndV, mOrV, mNotV, mChain, mAt, qSee, qFz, qNew, oNone, oSome, rNil, rSlot, rFz, mCall0, mCall1, oneSlot, noSlot, treesOf, SD.tree, SD.put, SD.putFz, tgN, tgNil, tgCons, tgT, ER.bind, ER.opt, ER.stm, Fl.seq, OT.view, OT.views, OT.items, fzOf, iLst, iTuP, iRange1, iRange2, iZip2, iEnumL, dIx, atI, ixN, dAdd, dSub, dNeg, dLt, dLe, dGt, dGe, dIsN, dNotN, isNonD, dEq, dNe, eqB_int, eqB_str, eqB_bl, eq_2, eq_3, dLen, dIsi, D.isA, tyName, dMod, dMax, dMin, mAtS, mBm, D.isL, D.isS, e]
theorem log2_lt {n k : Nat} (h : n < 2 ^ k) : n.log2 < k + 1 := by
  by_cases e : n = 0
  · subst e; rw [Nat.log2_zero]; omega
  · have := (Nat.log2_lt e).mpr h; omega
theorem mul_ok {i j : Int} {a b : Nat} (hi : i.natAbs < 2 ^ a) (hj : j.natAbs < 2 ^ b) (h : a + b + 1 < 1000000) : dMul (.int i) (.int j) = some (.int (i * j)) := by
  have h1 := log2_lt hi
  have h2 := log2_lt hj
  show (if i.natAbs.log2 + j.natAbs.log2 < 1000000 then some (D.int (i * j)) else none) = _
  rw [if_pos (by omega)]
theorem bits_lt {i : Int} {a : Nat} (hi : i.natAbs < 2 ^ a) : Builtin.Int.intBits i ≤ a + 1 := by
  unfold Builtin.Int.intBits
  have h1 := log2_lt hi
  by_cases e : (i == 0) = true
  · rw [if_pos e]; omega
  · rw [if_neg e]; omega
theorem pow_ok {i : Int} {k a : Nat} (hi : i.natAbs < 2 ^ a) (h : (a + 1) * k ≤ 134217728) : dPow (.int i) (.int k) = some (.int (i ^ k)) := by
  have h1 := bits_lt hi
  have h2 : Builtin.Int.intBits i * k ≤ (a + 1) * k := Nat.mul_le_mul_right k h1
  show (if (0 : Int) ≤ (k : Int) ∧ (Builtin.Int.intBits i : Int) * (k : Int) ≤ 134217728 then some (D.int (i ^ (k : Int).toNat)) else none) = _
  rw [if_pos ⟨Int.natCast_nonneg k, by rw [← Int.natCast_mul]; omega⟩]
  rfl
theorem div_ok {i j : Int} {a : Nat} (hj : j.natAbs < 2 ^ a) (h0 : j ≠ 0) (h : a < 8999) : dDiv (.int i) (.int j) = some (.int (i.fdiv j)) := by
  have h1 := log2_lt hj
  show (if j ≠ 0 ∧ j.natAbs.log2 < 9000 then some (D.int (i.fdiv j)) else none) = _
  rw [if_pos ⟨h0, by omega⟩]
/-- a tank after at most n turns of its wheel -/
theorem p10 {k : Nat} {m : Int} (h : (10 : Int) ^ k = m) (hk : 5 * k ≤ 134217728 := by decide) : dPow (.int 10) (.int k) = some (.int m) := by
  rw [pow_ok (a := 4) (by decide) (by omega), h]
theorem isi_str (c : Nat) : dIsi [.str (W [c]), .ty "str"] = some (.bl true) := rfl
theorem isi_tup (ds : List D) : dIsi [.tup ds, .ty "str"] = some (.bl false) := rfl
noncomputable def liSD (ns : D) (f : Int) (x2 x3 : S) : SD := ⟨[.ow (.fz ns), .ow (.fz (.int f)), x2, x3], [.fz ns]⟩
theorem pow_wide {k : Nat} (h : k ≤ 400000) {n : Nat} (hn : n ≤ 2 ^ k) : ((n : Int)).natAbs < 2 ^ (k + 1) := by
  rw [Int.natAbs_natCast]
  have : 2 ^ k < 2 ^ (k + 1) := Nat.pow_lt_pow_right (by decide) (by omega)
  omega
theorem e30_lt {n : Nat} (h : n ≤ 1000000000000000000000000000000) : n ≤ 2 ^ 100 := by
  have : (2 : Nat) ^ 100 = 1267650600228229401496703205376 := by decide
  omega
theorem length_ok (cs : Nat → Addr) : ∀ (f : Nat) (l : List Nd), noks l → ndps l < f → (wds l).length ≤ 1000 → m_length_in cs f [.fz (.tup (encs l))] = .ok (.fz (.int (nlens l))) ⟨[], [.fz (.tup (encs l))]⟩
  | 0, l, _, hd, _ => by omega
  | f + 1, l, h, hd, hl => by
    have step : ∀ (r : List Nd) (ns : D) (a : Nat) (x2 x3 : S), noks r → ndps r < f + 1 → (wds r).length ≤ 1000 → ∃ y2 y3, Runs (tgT 2 (tgCons (tgN 2) (tgCons (tgN 3) (tgNil)))) (m_length_in_b1 cs (m_length_in cs f)) (encs r) (liSD ns a x2 x3) (liSD ns ((a + nlens r : Nat) : Int) y2 y3) := fun r => by
      induction r with
      | nil => exact fun ns a x2 x3 _ _ _ => ⟨x2, x3, by rw [nlens, encs, Nat.add_zero]; exact .nil⟩
      | cons x r ihr =>
        intro ns a x2 x3 h hd hl
        rw [noks] at h
        rw [ndps] at hd
        rw [wds, List.length_append] at hl
        cases x with
        | st c n =>
          rw [nok] at h
          have mu : dMul (.int n) (.int 1) = some (.int (n * 1)) := mul_ok (a := 101) (b := 10) (pow_wide (k := 100) (by decide) (e30_lt (by omega))) (by decide) (by decide)
          obtain ⟨z2, z3, g⟩ := ihr ns (a + n) (.ow (.fz (.str (W [c])))) (.ow (.fz (.int n))) h.2 (by omega) (by omega)
          refine ⟨z2, z3, ?_⟩
          rw [encs, enc, nlens, nlen, ← Nat.add_assoc]
          refine Runs.app (xs := [_]) (.one (a1 := liSD ns a (.ow (.fz (.str (W [c])))) (.ow (.fz (.int n)))) rfl ?_) g
          simp [m_length_in_b1, m_length_in_2, liSD, -List.map_map, -List.map_take, -List.map_drop, -List.map_append, -List.map_reverse, asDef, entry, slotsOf, sSeq, sSet, sRet, sIf, sDrop, sNil, sBreak, sCont, sApp, sSetAt, setEnd, sAug, sAsg, sPar, mVar, mSee, mFrz, mTake, mC, mUn, mOp, mNil, mCons, mCall, mCallL, mTup, mLst, mView, mOwn, mFz, mTest, mAnd, mOr, mNot, mIf, mAndV, mOrV, mNotV, mChain, mAt, qSee, qFz, qNew, oNone, oSome, rNil, rSlot, rFz, mCall0, mCall1, oneSlot, noSlot, treesOf, SD.tree, SD.put, SD.putFz, tgN, tgNil, tgCons, tgT, ER.bind, ER.opt, ER.stm, Fl.seq, OT.view, OT.views, OT.items, fzOf, iLst, iTuP, iRange1, iRange2, iZip2, iEnumL, dIx, atI, ixN, dAdd, dSub, dNeg, dLt, dLe, dGt, dGe, dIsN, dNotN, isNonD, dEq, dNe, eqB_int, eqB_str, eqB_bl, eq_2, eq_3, dLen, dIsi, D.isA, tyName, dMod, dMax, dMin, mAtS, mBm, D.isL, D.isS, isi_str, mu, -dIsi]
        | rp b n =>
          rw [nok] at h
          rw [ndp] at hd
          rw [wd, List.length_cons, List.length_append, List.length_singleton] at hl
          have hrec := length_ok cs f b h.1.2.2.2 (by omega) (by omega)
          have hb := nlens_lt b h.1.2.2.2
          have mu : dMul (.int n) (.int (nlens b)) = some (.int (n * nlens b)) := mul_ok (a := 101) (b := 100 * (wds b).length + 1) (pow_wide (k := 100) (by decide) (e30_lt (by omega))) (pow_wide (by omega) hb) (by omega)
          obtain ⟨z2, z3, g⟩ := ihr ns (a + n * nlens b) (.ow (.fz (.tup (encs b)))) (.ow (.fz (.int n))) h.2 (by omega) (by omega)
          refine ⟨z2, z3, ?_⟩
          rw [encs, enc, nlens, nlen, ← Nat.add_assoc]
          refine Runs.app (xs := [_]) (.one (a1 := liSD ns a (.ow (.fz (.tup (encs b)))) (.ow (.fz (.int n)))) rfl ?_) g
          simp [m_length_in_b1, m_length_in_2, liSD, -List.map_map, -List.map_take, -List.map_drop, -List.map_append, -List.map_reverse, asDef, entry, slotsOf, sSeq, sSet, sRet, sIf, sDrop, sNil, sBreak, sCont, sApp, sSetAt, setEnd, sAug, sAsg, sPar, mVar, mSee, mFrz, mTake, mC, mUn, mOp, mNil, mCons, mCall, mCallL, mTup, mLst, mView, mOwn, mFz, mTest, mAnd, mOr, mNot, mIf, mAndV, mOrV, mNotV, mChain, mAt, qSee, qFz, qNew, oNone, oSome, rNil, rSlot, rFz, mCall0, mCall1, oneSlot, noSlot, treesOf, SD.tree, SD.put, SD.putFz, tgN, tgNil, tgCons, tgT, ER.bind, ER.opt, ER.stm, Fl.seq, OT.view, OT.views, OT.items, fzOf, iLst, iTuP, iRange1, iRange2, iZip2, iEnumL, dIx, atI, ixN, dAdd, dSub, dNeg, dLt, dLe, dGt, dGe, dIsN, dNotN, isNonD, dEq, dNe, eqB_int, eqB_str, eqB_bl, eq_2, eq_3, dLen, dIsi, D.isA, tyName, dMod, dMax, dMin, mAtS, mBm, D.isL, D.isS, isi_tup, mu, hrec, -dIsi]
    obtain ⟨y2, y3, g⟩ := step l (.tup (encs l)) 0 .un .un h hd hl
    rw [Nat.zero_add] at g
    have s1 : m_length_in_1 cs (m_length_in cs f) ⟨[.ow (.fz (.tup (encs l))), .un, .un, .un], [.fz (.tup (encs l))]⟩ = .nx (liSD (.tup (encs l)) (0 : Nat) .un .un) := rfl
    have s3 : m_length_in_3 cs (m_length_in cs f) (liSD (.tup (encs l)) (0 : Nat) .un .un) = .nx (liSD (.tup (encs l)) (nlens l) y2 y3) := g.all
    have s4 : m_length_in_4 cs (m_length_in cs f) (liSD (.tup (encs l)) (nlens l) y2 y3) = .rt (.fz (.int (nlens l))) (liSD (.tup (encs l)) (nlens l) y2 y3) := rfl
    have ent : entry 4 [.fz (.tup (encs l))] = ⟨[.ow (.fz (.tup (encs l))), .un, .un, .un], [.fz (.tup (encs l))]⟩ := rfl
    show m_length_in_r cs (m_length_in cs f) _ = _
    simp only [m_length_in_r, asDef, ent, sSeq, s1, s3, s4, Fl.seq]
    rfl
/-- the depths of the repeats -/
noncomputable def bodies : List Nd → List Int
  | [] => []
  | .st _ _ :: r => bodies r
  | .rp b _ :: r => (1 + (ndps b : Int)) :: bodies r
theorem bodies_max : ∀ (l : List Nd) (m : Nat), (bodies l).foldl max (m : Int) = ((max m (ndps l) : Nat) : Int)
  | [], m => by rw [bodies, ndps, Nat.max_zero]; rfl
  | .st _ _ :: r, m => by rw [bodies, ndps, ndp, bodies_max r m, Nat.zero_max]
  | .rp b _ :: r, m => by
    rw [bodies, ndps, ndp, List.foldl_cons]
    rw [show max (m : Int) (1 + (ndps b : Int)) = ((max m (1 + ndps b) : Nat) : Int) by omega, bodies_max r, Nat.max_assoc]
theorem bodies_len : ∀ l : List Nd, (bodies l).length ≤ l.length
  | [] => Nat.le_refl _
  | .st _ _ :: r => by have := bodies_len r; rw [bodies, List.length_cons]; omega
  | .rp b _ :: r => by have := bodies_len r; rw [bodies, List.length_cons, List.length_cons]; omega
noncomputable def isRp : Nd → Bool
  | .st _ _ => false
  | .rp _ _ => true
noncomputable def bodyI : Nd → Int
  | .st _ _ => 0
  | .rp b _ => 1 + (ndps b : Int)
theorem bodies_eq : ∀ l : List Nd, (l.filter isRp).map bodyI = bodies l
  | [] => rfl
  | .st _ _ :: r => by rw [bodies, ← bodies_eq r]; rfl
  | .rp b _ :: r => by rw [bodies, ← bodies_eq r]; rfl
theorem encs_map : ∀ l : List Nd, encs l = l.map enc
  | [] => rfl
  | a :: r => by rw [encs, encs_map r]; rfl
theorem mem_nok {l : List Nd} (h : noks l) {a : Nd} (ha : a ∈ l) : nok a := by
  induction l with
  | nil => cases ha
  | cons b r ih =>
    rw [noks] at h
    rcases List.mem_cons.mp ha with rfl | q
    · exact h.1
    · exact ih h.2 q
theorem mem_ndp {l : List Nd} {a : Nd} (ha : a ∈ l) : ndp a ≤ ndps l := by
  induction l with
  | nil => cases ha
  | cons b r ih =>
    rw [ndps]
    rcases List.mem_cons.mp ha with rfl | q
    · omega
    · have := ih q; omega
theorem mem_wd {l : List Nd} {a : Nd} (ha : a ∈ l) : (wd a).length ≤ (wds l).length := by
  induction l with
  | nil => cases ha
  | cons b r ih =>
    rw [wds, List.length_append]
    rcases List.mem_cons.mp ha with rfl | q
    · omega
    · have := ih q; omega
theorem depth_ok' (cs : Nat → Addr) : ∀ (f : Nat) (l : List Nd), noks l → ndps l < f → (wds l).length ≤ 1000 → m_depth_in cs f [.fz (.tup (encs l))] = .ok (.fz (.int (ndps l))) ⟨[], [.fz (.tup (encs l))]⟩
  | 0, l, _, hd, _ => by omega
  | f + 1, l, h, hd, hl => by
    have hll := len_wds l
    have c1 : m_depth_in_c1 cs (m_depth_in cs f) ⟨[.ow (.fz (.tup (encs l))), .un, .un], [.fz (.tup (encs l))]⟩ = .ok (.ol (((l.filter isRp).map fun a => D.int (bodyI a)).map .fz)) ⟨[.ow (.fz (.tup (encs l))), .un, .un], [.fz (.tup (encs l))]⟩ := by
      refine mComp_of l enc isRp (fun a => D.int (bodyI a)) (by rw [encs_map]; rfl) (by omega) fun a ha => ?_
      have hn := mem_nok h ha
      have hdp := mem_ndp ha
      have hw := mem_wd ha
      cases a with
      | st c n => exact ⟨⟨[.ow (.fz (.tup (encs l))), .ow (.fz (.str (W [c]))), .ow (.fz (.int n))], [.fz (.tup (encs l))]⟩, by rw [enc]; rfl, rfl, rfl, fun z => (by cases z)⟩
      | rp b n =>
        rw [nok] at hn
        rw [ndp] at hdp
        rw [wd, List.length_cons, List.length_append, List.length_singleton] at hw
        have hrec := depth_ok' cs f b hn.2.2.2 (by omega) (by omega)
        refine ⟨⟨[.ow (.fz (.tup (encs l))), .ow (.fz (.tup (encs b))), .ow (.fz (.int n))], [.fz (.tup (encs l))]⟩, by rw [enc]; rfl, rfl, rfl, fun _ => ?_⟩
        simp [mOp, mC, mView, mCall0, mCons, mVar, mNil, ER.bind, ER.opt, hrec, OT.view, dAdd, bodyI]
    have e1 : ((l.filter isRp).map fun a => D.int (bodyI a)) = (bodies l).map D.int := by rw [← bodies_eq, List.map_map]; rfl
    rw [e1] at c1
    have v1 : OT.views ((((0 : Int) :: bodies l).map D.int).map .fz) = ((0 : Int) :: bodies l).map D.int := views_fz _
    have mx : dMax [.lst (((0 : Int) :: bodies l).map D.int)] = some (.int (ndps l)) := by
      show (match intsOf (((0 : Int) :: bodies l).map D.int) with
        | some (n :: r) => some (D.int (maxI (n :: r)))
        | _ => none) = _
      rw [intsOf_map]
      show some (D.int ((bodies l).foldl max ((0 : Nat) : Int))) = _
      rw [bodies_max, Nat.zero_max]
    have bl := bodies_len l
    have s1 : m_depth_in_1 cs (m_depth_in cs f) ⟨[.ow (.fz (.tup (encs l))), .un, .un], [.fz (.tup (encs l))]⟩ = .rt (.fz (.int (ndps l))) ⟨[.ow (.fz (.tup (encs l))), .un, .un], [.fz (.tup (encs l))]⟩ := by
      have q0 : qNew (mLst (mCons (mC (.int 0)) mNil)) ⟨[.ow (.fz (.tup (encs l))), .un, .un], [.fz (.tup (encs l))]⟩ = .ok [.int 0] ⟨[.ow (.fz (.tup (encs l))), .un, .un], [.fz (.tup (encs l))]⟩ := rfl
      have q1 : qNew (m_depth_in_c1 cs (m_depth_in cs f)) ⟨[.ow (.fz (.tup (encs l))), .un, .un], [.fz (.tup (encs l))]⟩ = .ok ((bodies l).map D.int) ⟨[.ow (.fz (.tup (encs l))), .un, .un], [.fz (.tup (encs l))]⟩ := by
        unfold qNew; rw [c1]; simp only [ER.bind, OT.items, fzOf_map, ER.opt]
      simp only [m_depth_in_1, sRet, mOwn, mCall, mCons, mView, mCat, q0, q1, mNil, ER.bind]
      rw [if_pos (by rw [List.length_map]; simp; omega)]
      show ER.stm (((ER.opt (dMax [OT.view (.ol ((((0 : Int) :: bodies l).map D.int).map .fz))]) _ : ER D)).bind _) _ = _
      rw [OT.view, v1, mx]
      rfl
    have ent : entry 3 [.fz (.tup (encs l))] = ⟨[.ow (.fz (.tup (encs l))), .un, .un], [.fz (.tup (encs l))]⟩ := rfl
    show m_depth_in_r cs (m_depth_in cs f) _ = _
    simp only [m_depth_in_r, asDef, ent, s1]
noncomputable def textOf (ws : List (List Nat)) : Str := Txt.join (W [32]) (ws.map W)
noncomputable def PD (cs : Nat → Addr) (l : List Nd) : D := .ins (cs 0) ["own_text", "own_words", "own_nodes", "own_length", "own_depth"] [.str (textOf (wds l)), .tup (WsD (wds l)), .tup (encs l), .int (nlens l), .int (ndps l)]
noncomputable def PO (cs : Nat → Addr) (l : List Nd) : OT := .oi (cs 0) ["own_text", "own_words", "own_nodes", "own_length", "own_depth"] [.fz (.str (textOf (wds l))), .fz (.tup (WsD (wds l))), .fz (.tup (encs l)), .fz (.int (nlens l)), .fz (.int (ndps l))]
theorem num_free (n : Nat) : (32 : Nat) ∉ TL.numL n := TL.numL_free (.inl (by decide))
mutual
theorem wd_free : ∀ a : Nd, nok a → ∀ w ∈ wd a, (32 : Nat) ∉ w ∧ w ≠ []
  | .st c n, h, w, hw => by
    rw [nok] at h
    rw [wd, List.mem_singleton] at hw
    subst hw
    unfold lw
    refine ⟨fun z => ?_, by simp⟩
    rcases List.mem_cons.mp z with z | z
    · have := h.1
      unfold letters at this
      simp at this
      omega
    · split at z
      · cases z
      · exact num_free n z
  | .rp b n, h, w, hw => by
    rw [nok] at h
    rw [wd] at hw
    rcases List.mem_cons.mp hw with rfl | hw
    · simp
    · rcases List.mem_append.mp hw with hw | hw
      · exact wds_free b h.2.2.2 w hw
      · rw [List.mem_singleton] at hw
        subst hw
        refine ⟨fun z => ?_, by simp⟩
        rcases List.mem_cons.mp z with z | z
        · omega
        · exact num_free n z
theorem wds_free : ∀ l : List Nd, noks l → ∀ w ∈ wds l, (32 : Nat) ∉ w ∧ w ≠ []
  | [], _, w, hw => by rw [wds] at hw; cases hw
  | a :: r, h, w, hw => by
    rw [noks] at h
    rw [wds] at hw
    rcases List.mem_append.mp hw with hw | hw
    · exact wd_free a h.1 w hw
    · exact wds_free r h.2 w hw
end
mutual
theorem wd_len : ∀ a : Nd, nok a → ∀ w ∈ wd a, w.length ≤ 40
  | .st c n, h, w, hw => by
    rw [nok] at h
    rw [wd, List.mem_singleton] at hw
    subst hw
    have := lw_len h.2.2
    unfold lw
    rw [List.length_cons]; omega
  | .rp b n, h, w, hw => by
    rw [nok] at h
    rw [wd] at hw
    rcases List.mem_cons.mp hw with rfl | hw
    · simp
    · rcases List.mem_append.mp hw with hw | hw
      · exact wds_wlen b h.2.2.2 w hw
      · rw [List.mem_singleton] at hw
        subst hw
        have hl := TL.numL_len (n := n) (k := 31) (by decide) (by omega)
        rw [List.length_cons]; omega
theorem wds_wlen : ∀ l : List Nd, noks l → ∀ w ∈ wds l, w.length ≤ 40
  | [], _, w, hw => by rw [wds] at hw; cases hw
  | a :: r, h, w, hw => by
    rw [noks] at h
    rw [wds] at hw
    rcases List.mem_append.mp hw with hw | hw
    · exact wd_len a h.1 w hw
    · exact wds_wlen r h.2 w hw
end
theorem n_text_words : ¬ (Str.ofString "own_text" = Str.ofString "own_words") := by decide
theorem n_text_nodes : ¬ (Str.ofString "own_text" = Str.ofString "own_nodes") := by decide
theorem n_text_length : ¬ (Str.ofString "own_text" = Str.ofString "own_length") := by decide
theorem n_text_depth : ¬ (Str.ofString "own_text" = Str.ofString "own_depth") := by decide
theorem n_words_text : ¬ (Str.ofString "own_words" = Str.ofString "own_text") := by decide
theorem n_words_nodes : ¬ (Str.ofString "own_words" = Str.ofString "own_nodes") := by decide
theorem n_words_length : ¬ (Str.ofString "own_words" = Str.ofString "own_length") := by decide
theorem n_words_depth : ¬ (Str.ofString "own_words" = Str.ofString "own_depth") := by decide
theorem n_nodes_text : ¬ (Str.ofString "own_nodes" = Str.ofString "own_text") := by decide
theorem n_nodes_words : ¬ (Str.ofString "own_nodes" = Str.ofString "own_words") := by decide
theorem n_nodes_length : ¬ (Str.ofString "own_nodes" = Str.ofString "own_length") := by decide
theorem n_nodes_depth : ¬ (Str.ofString "own_nodes" = Str.ofString "own_depth") := by decide
theorem n_length_text : ¬ (Str.ofString "own_length" = Str.ofString "own_text") := by decide
theorem n_length_words : ¬ (Str.ofString "own_length" = Str.ofString "own_words") := by decide
theorem n_length_nodes : ¬ (Str.ofString "own_length" = Str.ofString "own_nodes") := by decide
theorem n_length_depth : ¬ (Str.ofString "own_length" = Str.ofString "own_depth") := by decide
theorem n_depth_text : ¬ (Str.ofString "own_depth" = Str.ofString "own_text") := by decide
theorem n_depth_words : ¬ (Str.ofString "own_depth" = Str.ofString "own_words") := by decide
theorem n_depth_nodes : ¬ (Str.ofString "own_depth" = Str.ofString "own_nodes") := by decide
theorem n_depth_length : ¬ (Str.ofString "own_depth" = Str.ofString "own_length") := by decide
theorem joinL_len : ∀ ws : List (List Nat), (∀ w ∈ ws, w.length ≤ 40) → (TL.joinL [32] ws).length ≤ 41 * ws.length
  | [], _ => by simp [TL.joinL]
  | [p], h => by
    have := h p (by simp)
    show p.length ≤ 41 * 1
    omega
  | p :: q :: r, h => by
    have ih := joinL_len (q :: r) fun w hw => h w (List.mem_cons_of_mem _ hw)
    have := h p (by simp)
    show (p ++ ([32] ++ TL.joinL [32] (q :: r))).length ≤ _
    rw [List.length_append, List.length_append, List.length_cons]
    simp at ih ⊢
    omega
theorem map_tl_W (ws : List (List Nat)) : (ws.map W).map TL.tl = ws := by
  rw [List.map_map]
  exact (List.map_congr_left fun w _ => rfl).trans (List.map_id _)
theorem textOf_tl (ws : List (List Nat)) : TL.tl (textOf ws) = TL.joinL [32] ws := by
  unfold textOf
  rw [TL.join_eq, TL.tl_join, map_tl_W]
  rfl
theorem textOf_len {ws : List (List Nat)} (h : ∀ w ∈ ws, w.length ≤ 40) : (textOf ws).length ≤ 41 * ws.length := by
  rw [TL.len_tl, textOf_tl]
  exact joinL_len ws h
theorem textOf_nil : textOf [] = W [] := TL.ext_tl (by rw [textOf_tl]; rfl)
theorem textOf_ne {ws : List (List Nat)} (h : ws ≠ []) (hw : ∀ w ∈ ws, w ≠ []) : textOf ws ≠ W [] := fun z => by
  have e := congrArg TL.tl z
  rw [textOf_tl] at e
  cases ws with
  | nil => exact h rfl
  | cons p r =>
    cases r with
    | nil => exact hw p (by simp) e
    | cons q r =>
      have e : p ++ ([32] ++ TL.joinL [32] (q :: r)) = [] := e
      simp at e
theorem textOf_split {ws : List (List Nat)} (h : ws ≠ []) (hw : ∀ w ∈ ws, (32 : Nat) ∉ w) : Txt.split (textOf ws) (W [32]) = ws.map W := by
  unfold textOf
  refine TL.split_join (s := 32) (S := []) rfl (by decide +kernel) (fun z => h (List.map_eq_nil_iff.mp z)) fun p hp => ?_
  obtain ⟨w, h1, rfl⟩ := List.mem_map.mp hp
  exact hw w h1
theorem words_of_ok (cs : Nat → Addr) {ws : List (List Nat)} (hl : ws.length ≤ 1000) (h1 : ∀ w ∈ ws, (32 : Nat) ∉ w ∧ w ≠ []) (h2 : ∀ w ∈ ws, w.length ≤ 40) : m_words_of cs [.fz (.str (textOf ws))] = .ok (.fz (.lst (WsD ws))) ⟨[], [.fz (.str (textOf ws))]⟩ := by
  have tl := textOf_len h2
  have ln := lit_nil
  have ls := lit_sp
  by_cases e : ws = []
  · subst e
    rw [textOf_nil]
    simp [m_words_of, m_words_of_1, -List.map_map, -List.map_take, -List.map_drop, -List.map_append, -List.map_reverse, asDef, entry, slotsOf, sSeq, sSet, sRet, sIf, sDrop, sNil, sBreak, sCont, sApp, sSetAt, setEnd, sAug, sAsg, sPar, mVar, mSee, mFrz, mTake, mC, mUn, mOp, mNil, mCons, mCall, mCallL, mTup, mLst, mView, mOwn, mFz, mTest, mAnd, mOr, mNot, mIf, mAndV, mOrV, mNotV, mChain, mAt, qSee, qFz, qNew, oNone, oSome, rNil, rSlot, rFz, mCall0, mCall1, oneSlot, noSlot, treesOf, SD.tree, SD.put, SD.putFz, tgN, tgNil, tgCons, tgT, ER.bind, ER.opt, ER.stm, Fl.seq, OT.view, OT.views, OT.items, fzOf, iLst, iTuP, iRange1, iRange2, iZip2, iEnumL, dIx, atI, ixN, dAdd, dSub, dNeg, dLt, dLe, dGt, dGe, dIsN, dNotN, isNonD, dEq, dNe, eqB_int, eqB_str, eqB_bl, eq_2, eq_3, dLen, dIsi, D.isA, tyName, dMod, dMax, dMin, mAtS, mBm, D.isL, D.isS, ln, W_iff]
    rfl
  · have ne := textOf_ne e fun w hw => (h1 w hw).2
    have sp := textOf_split e fun w hw => (h1 w hw).1
    have ds : dSplit (.str (textOf ws)) [.str (W [32])] = some (WsD ws) := by
      show (if ((W [32]).length == 0) = false ∧ (textOf ws).length + 2 ≤ 16777216 then some ((Txt.split (textOf ws) (W [32])).map D.str) else none) = _
      rw [if_pos ⟨rfl, by omega⟩, sp, List.map_map]
      rfl
    have v : OT.views ((WsD ws).map .fz) = WsD ws := views_fz _
    generalize textOf ws = t at *
    have q : dNe (.str t) (.str (W [])) = some (.bl true) := by simp [dNe, eqB_str, ne]
    simp [m_words_of, m_words_of_1, -List.map_map, -List.map_take, -List.map_drop, -List.map_append, -List.map_reverse, asDef, entry, slotsOf, sSeq, sSet, sRet, sIf, sDrop, sNil, sBreak, sCont, sApp, sSetAt, setEnd, sAug, sAsg, sPar, mVar, mSee, mFrz, mTake, mC, mUn, mOp, mNil, mCons, mCall, mCallL, mTup, mLst, mView, mOwn, mFz, mTest, mAnd, mOr, mNot, mIf, mAndV, mOrV, mNotV, mChain, mAt, qSee, qFz, qNew, oNone, oSome, rNil, rSlot, rFz, mCall0, mCall1, oneSlot, noSlot, treesOf, SD.tree, SD.put, SD.putFz, tgN, tgNil, tgCons, tgT, ER.bind, ER.opt, ER.stm, Fl.seq, OT.view, OT.views, OT.items, fzOf, iLst, iTuP, iRange1, iRange2, iZip2, iEnumL, dIx, atI, ixN, dAdd, dSub, dNeg, dLt, dLe, dGt, dGe, dIsN, dNotN, isNonD, dEq, dNe, eqB_int, eqB_str, eqB_bl, eq_2, eq_3, dLen, dIsi, D.isA, tyName, dMod, dMax, dMin, mAtS, mBm, D.isL, D.isS, ln, ls, q, -dNe, mBmL, ds, v]
/-- what is a program's tree -/
structure PrOk (l : List Nd) : Prop where
  ok : noks l
  dp : ndps l ≤ 12
  len : (wds l).length ≤ 1000
theorem PrOk.tree {l : List Nd} (h : PrOk l) : noks l := h.ok
theorem make_ok (cs : Nat → Addr) {l : List Nd} (h : PrOk l) : m_Program___init__ cs [.oi (cs 0) [] [], .fz (.str (textOf (wds l)))] = .ok (.fz .non) ⟨[], [PO cs l, .fz (.str (textOf (wds l)))]⟩ := by
  have w1 := words_of_ok cs h.len (wds_free l h.ok) (wds_wlen l h.ok)
  have w2 := first_wrong_ok cs h.ok h.dp h.len
  have w3 := nodes_in_ok cs h.ok h.dp h.len
  have w4 := length_ok cs 16 l h.ok (by have := h.dp; omega) h.len
  have w5 := depth_ok' cs 16 l h.ok (by have := h.dp; omega) h.len
  unfold PO
  generalize textOf (wds l) = t at *
  generalize WsD (wds l) = ws at *
  generalize encs l = es at *
  simp [m_Program___init__, m_Program___init___2, m_Program___init___3, m_Program___init___4, m_Program___init___6, m_Program___init___7, m_Program___init___8, m_Program___init___9, m_Program___init___10, m_Program___init___11, -List.map_map, -List.map_take, -List.map_drop, -List.map_append, -List.map_reverse, asDef, entry, slotsOf, sSeq, sSet, sRet, sIf, sDrop, sNil, sBreak, sCont, sApp, sSetAt, setEnd, sAug, sAsg, sPar, mVar, mSee, mFrz, mTake, mC, mUn, mOp, mNil, mCons, mCall, mCallL, mTup, mLst, mView, mOwn, mFz, mTest, mAnd, mOr, mNot, mIf, mAndV, mOrV, mNotV, mChain, mAt, qSee, qFz, qNew, oNone, oSome, rNil, rSlot, rFz, mCall0, mCall1, oneSlot, noSlot, treesOf, SD.tree, SD.put, SD.putFz, tgN, tgNil, tgCons, tgT, ER.bind, ER.opt, ER.stm, Fl.seq, OT.view, OT.views, OT.items, fzOf, iLst, iTuP, iRange1, iRange2, iZip2, iEnumL, dIx, atI, ixN, dAdd, dSub, dNeg, dLt, dLe, dGt, dGe, dIsN, dNotN, isNonD, dEq, dNe, eqB_int, eqB_str, eqB_bl, eq_2, eq_3, dLen, dIsi, D.isA, tyName, dMod, dMax, dMin, mAtS, mBm, D.isL, D.isS, mFld, fldD, mMake, mOwn2, mOwn1, mCallIns, mProp, mMeth, mB2, callFz, callFzQ, sFldSet, putO, idxN, cSame, cInt, D.isIns, D.isInt, dIsO, D.tyv, okC, sPar3, mCutX, mCat, dAll, boolsOf, sFor, goFor, rangeD, List.range, List.range.loop, sNever, mFldO, mCallT, dTupOf, n_text_words, n_text_nodes, n_text_length, n_text_depth, n_words_text, n_words_nodes, n_words_length, n_words_depth, n_nodes_text, n_nodes_words, n_nodes_length, n_nodes_depth, n_length_text, n_length_words, n_length_nodes, n_length_depth, n_depth_text, n_depth_words, n_depth_nodes, n_depth_length, w1, w2, w3, w4, w5]
theorem prog_make (cs : Nat → Addr) {l : List Nd} (h : PrOk l) {a : SD → ER (List D)} {sd sd1 : SD} (ha : a sd = .ok [.str (textOf (wds l))] sd1) : mMake (cs 0) (m_Program___init__ cs) a sd = .ok (PO cs l) sd1 := by
  have e := make_ok cs h
  unfold mMake
  rw [ha]
  simp only [ER.bind, List.map_cons, List.map_nil, e, List.getElem?_cons_zero]
theorem len_S {l : List Nat} (h : l.length ≤ 16777216) : dLen [.str (W l)] = some (.int l.length) := by
  show (if (W l).length ≤ 16777216 then some (D.int (W l).length) else none) = _
  rw [W_len, if_pos h]
theorem ix0_S {c : Nat} {r : List Nat} (h : (c :: r).length ≤ 16777216) : dIx (.str (W (c :: r))) (.int 0) = some (.str (W [c])) := by
  show (if (W (c :: r)).length ≤ 16777216 then (atI (c :: r) 0).map (fun c => D.str ⟨#[c]⟩) else none) = _
  rw [W_len, if_pos h, show atI (c :: r) (0 : Int) = some c from atI_of (k := 0) rfl]
  rfl
theorem eq_S (l m : List Nat) : dEq (.str (W l)) (.str (W m)) = some (.bl (decide (l = m))) := by
  unfold dEq
  rw [eq_W]
  rfl
theorem ne_S (l m : List Nat) : dNe (.str (W l)) (.str (W m)) = some (.bl (!decide (l = m))) := by
  unfold dNe
  rw [eq_W]
  rfl
theorem op_t {f : D → D → Option D} {a b : SD → ER D} {sd sd1 sd2 : SD} {x y : D} {v : Bool} (ha : a sd = .ok x sd1) (hb : b sd1 = .ok y sd2) (h : f x y = some (.bl v)) : mTest (mOp f a b) sd = .ok v sd2 := by
  unfold mTest mOp
  rw [ha]
  simp only [ER.bind]
  rw [hb]
  simp only [ER.bind, h, ER.opt]
theorem or_l {a b : SD → ER Bool} {sd sd1 : SD} (h : a sd = .ok true sd1) : mOr a b sd = .ok true sd1 := by
  unfold mOr; rw [h]; rfl
theorem or_r {a b : SD → ER Bool} {sd sd1 sd2 : SD} {v : Bool} (h : a sd = .ok false sd1) (h2 : b sd1 = .ok v sd2) : mOr a b sd = .ok v sd2 := by
  unfold mOr; rw [h]; exact h2
theorem and_b {a b : SD → ER Bool} {sd : SD} {u v : Bool} (h : a sd = .ok u sd) (h2 : b sd = .ok v sd) : mAnd a b sd = .ok (u && v) sd := by
  unfold mAnd
  rw [h]
  cases u with
  | true => exact h2
  | false => rfl
theorem not_b {a : SD → ER Bool} {sd sd1 : SD} {u : Bool} (h : a sd = .ok u sd1) : mNot a sd = .ok (!u) sd1 := by
  unfold mNot; rw [h]; rfl
theorem if_b {c : SD → ER Bool} {a b : SD → Fl} {sd sd1 : SD} {u : Bool} (h : c sd = .ok u sd1) : sIf c a b sd = if u = true then a sd1 else b sd1 := by
  unfold sIf; rw [h]; rfl
theorem cut1_S {a : SD → ER D} {sd sd1 : SD} {w : List Nat} (hw : w.length ≤ 16777216) (h : a sd = .ok (.str (W w)) sd1) : mCutX a oNone (oSome (mC (.int 1))) sd = .ok (.str (W (w.take 1))) sd1 := by
  unfold mCutX
  rw [h]
  show (if (W w).length ≤ 16777216 then ER.ok (D.str (cutS (W w) none (some 1))) sd1 else .bad) = _
  rw [W_len, if_pos hw, W_head]
theorem cutr_S {a : SD → ER D} {sd sd1 : SD} {w : List Nat} (hw : w.length ≤ 16777216) (h : a sd = .ok (.str (W w)) sd1) : mCutX a (oSome (mC (.int 1))) oNone sd = .ok (.str (W (w.drop 1))) sd1 := by
  unfold mCutX
  rw [h]
  show (if (W w).length ≤ 16777216 then ER.ok (D.str (cutS (W w) (some 1) none)) sd1 else .bad) = _
  rw [W_len, if_pos hw, W_tail]
theorem op_v {f : D → D → Option D} {a b : SD → ER D} {sd sd1 sd2 : SD} {x y z : D} (ha : a sd = .ok x sd1) (hb : b sd1 = .ok y sd2) (h : f x y = some z) : mOp f a b sd = .ok z sd2 := by
  unfold mOp
  rw [ha]
  simp only [ER.bind]
  rw [hb]
  simp only [ER.bind, h, ER.opt]
theorem andv_t {a b : SD → ER D} {sd sd1 : SD} (h : a sd = .ok (.bl true) sd1) : mAndV a b sd = b sd1 := by
  unfold mAndV; rw [h]; rfl
theorem andv_f {a b : SD → ER D} {sd sd1 : SD} (h : a sd = .ok (.bl false) sd1) : mAndV a b sd = .ok (.bl false) sd1 := by
  unfold mAndV; rw [h]; rfl
theorem orv_f {a b : SD → ER D} {sd sd1 : SD} (h : a sd = .ok (.bl false) sd1) : mOrV a b sd = b sd1 := by
  unfold mOrV; rw [h]; rfl
theorem call1_v {f : List OT → ER OT} {a : SD → ER D} {sd sd1 s2 : SD} {x y : D} (ha : a sd = .ok x sd1) (hf : f [.fz x] = .ok (.fz y) s2) : mView (mCall0 f (mCons a mNil)) sd = .ok y sd1 := by
  unfold mView mCall0 mCons mNil
  rw [ha]
  simp only [ER.bind, List.map, hf, OT.view]
theorem ret_d {m : SD → ER D} {sd sd1 : SD} {d : D} (h : m sd = .ok d sd1) : sRet (mOwn m) sd = .rt (.fz d) sd1 := by
  unfold sRet mOwn; rw [h]; rfl
theorem set_d {k : Nat} {m : SD → ER D} {sd : SD} {d : D} {l : List S} {pa : List OT} (h : m sd = .ok d ⟨l, pa⟩) (hk : k < l.length) : sSet k (mOwn m) sd = .nx ⟨l.set k (.ow (.fz d)), pa⟩ := by
  unfold sSet mOwn
  rw [h]
  show (if k < l.length then _ else _) = _
  rw [if_pos hk]
theorem len_v {a : SD → ER D} {sd sd1 : SD} {w : List Nat} (hw : w.length ≤ 16777216) (h : a sd = .ok (.str (W w)) sd1) : mCall dLen (mCons a mNil) sd = .ok (.int w.length) sd1 := by
  unfold mCall mCons mNil
  rw [h]
  simp only [ER.bind, len_S hw, ER.opt]
theorem int2_bl (b : Bool) : dInt2 [.bl b] = some (.int (if b = true then 1 else 0)) := by cases b <;> rfl
theorem call2_v {f : List OT → ER OT} {a b : SD → ER D} {sd s2 : SD} {x z y : D} (ha : a sd = .ok x sd) (hb : b sd = .ok z sd) (hf : f [.fz x, .fz z] = .ok (.fz y) s2) : mView (mCall0 f (mCons a (mCons b mNil))) sd = .ok y sd := by
  unfold mView mCall0 mCons mNil
  rw [ha]
  simp only [ER.bind]
  rw [hb]
  simp only [ER.bind, List.map, hf, OT.view]
theorem wds_one (a : Nd) : wds [a] = wd a := by rw [wds, wds, List.append_nil]
theorem ndps_one (a : Nd) : ndps [a] = ndp a := by rw [ndps, ndps]; omega
theorem noks_one (a : Nd) : noks [a] ↔ nok a := by rw [noks, noks]; simp
theorem prog_isIns (cs : Nat → Addr) (l : List Nd) : (PD cs l).isIns (cs 0) = true := by simp [PD, D.isIns]
theorem prog_tyv (cs : Nat → Addr) (l : List Nd) : ∃ t, (PD cs l).tyv (okC cs) = some t := by simp [PD, D.tyv, okC]
noncomputable def Bg (n : Nat) (t : OT) : Prop := ∃ (a b c : Int), t = .ol [.fz (.int a), .fz (.int b), .fz (.int c)] ∧ 0 ≤ c ∧ c ≤ n
theorem Bg.mono {n m : Nat} {t : OT} (h : Bg n t) (hm : n ≤ m) : Bg m t := by
  obtain ⟨a, b, c, h1, h2, h3⟩ := h
  exact ⟨a, b, c, h1, h2, by omega⟩
theorem pick_ok (cs : Nat → Addr) {n : Nat} {t : OT} {m : Int} (h : Bg n t) (hn : n < 2 ^ 64) (h1 : 0 < m) (h2 : m.natAbs < 2 ^ 8000) : ∃ (v : Int) (t' : OT), 0 ≤ v ∧ v < m ∧ Bg (n + 1) t' ∧ m__law_pick cs [t, .fz (.int m)] = .ok (.fz (.int v)) ⟨[], [t', .fz (.int m)]⟩ := by
  obtain ⟨a, b, c, rfl, hc, hc2⟩ := h
  have hm0 : ¬ m = 0 := by omega
  by_cases ha : 0 < a
  · refine ⟨a.fmod m, .ol [.fz (.int (a.fdiv m)), .fz (.int b), .fz (.int (c + 1))], Int.fmod_nonneg_of_pos _ h1, Int.fmod_lt_of_pos _ h1, ⟨_, _, _, rfl, by omega, by omega⟩, ?_⟩
    have e1 := div_ok (i := a) h2 hm0 (by decide)
    simp [m__law_pick_1, m__law_pick_2, m__law_pick_3, m__law_pick_4, m__law_pick_5, m__law_pick_6, m__law_pick_7, m__law_pick_8, m__law_pick, -List.map_map, -List.map_take, -List.map_drop, -List.map_append, -List.map_reverse, asDef, entry, slotsOf, sSeq, sSet, sRet, sIf, sDrop, sNil, sBreak, sCont, sApp, sSetAt, setEnd, sAug, sAsg, sPar, mVar, mSee, mFrz, mTake, mC, mUn, mOp, mNil, mCons, mCall, mCallL, mTup, mLst, mView, mOwn, mFz, mTest, mAnd, mOr, mNot, mIf, mAndV, mOrV, mNotV, mChain, mAt, qSee, qFz, qNew, oNone, oSome, rNil, rSlot, rFz, mCall0, mCall1, oneSlot, noSlot, treesOf, SD.tree, SD.put, SD.putFz, tgN, tgNil, tgCons, tgT, ER.bind, ER.opt, ER.stm, Fl.seq, OT.view, OT.views, OT.items, fzOf, iLst, iTuP, iRange1, iRange2, iZip2, iEnumL, dIx, atI, ixN, dAdd, dSub, dNeg, dLt, dLe, dGt, dGe, dIsN, dNotN, isNonD, dEq, dNe, eqB_int, eqB_str, eqB_bl, eq_2, eq_3, dLen, dIsi, D.isA, tyName, dMod, dMax, dMin, mAtS, mBm, D.isL, D.isS, ha, hm0, e1]
  · obtain ⟨x, hx⟩ : ∃ x, x = b.fmod 2147483629 := ⟨_, rfl⟩
    have x0 : 0 ≤ x := by rw [hx]; exact Int.fmod_nonneg_of_pos _ (by decide)
    have x1 : x < 2147483629 := by rw [hx]; exact Int.fmod_lt_of_pos _ (by decide)
    have m1 : dMul (.int x) (.int 48271) = some (.int (x * 48271)) := mul_ok (a := 100) (b := 100) (by omega) (by decide) (by decide)
    have m2 : dMul (.int (c + 1)) (.int 69621) = some (.int ((c + 1) * 69621)) := mul_ok (a := 100) (b := 100) (by omega) (by decide) (by decide)
    have m3 : dMul (.int (c + 1)) (.int 40692) = some (.int ((c + 1) * 40692)) := mul_ok (a := 100) (b := 100) (by omega) (by decide) (by decide)
    obtain ⟨y, hy⟩ : ∃ y, y = (x * 48271 + (c + 1) * 69621 + 12345).fmod 2147483647 := ⟨_, rfl⟩
    have y0 : 0 ≤ y := by rw [hy]; exact Int.fmod_nonneg_of_pos _ (by decide)
    have y1 : y < 2147483647 := by rw [hy]; exact Int.fmod_lt_of_pos _ (by decide)
    have m4 : dMul (.int y) (.int y) = some (.int (y * y)) := mul_ok (a := 100) (b := 100) (by omega) (by omega) (by decide)
    have m5 : dMul (.int y) (.int 2147483587) = some (.int (y * 2147483587)) := mul_ok (a := 100) (b := 100) (by omega) (by decide) (by decide)
    have d1 : ∀ z : Int, dDiv (.int z) (.int 32) = some (.int (z.fdiv 32)) := fun z => div_ok (a := 30) (by decide) (by decide) (by decide)
    refine ⟨((y * 2147483587 + (y * y + (c + 1) * 40692).fmod 2147483587).fdiv 32).fmod m, .ol [.fz (.int a), .fz (.int b), .fz (.int (c + 1))], Int.fmod_nonneg_of_pos _ h1, Int.fmod_lt_of_pos _ h1, ⟨_, _, _, rfl, by omega, by omega⟩, ?_⟩
    simp [m__law_pick_1, m__law_pick_2, m__law_pick_3, m__law_pick_4, m__law_pick_5, m__law_pick_6, m__law_pick_7, m__law_pick_8, m__law_pick, -List.map_map, -List.map_take, -List.map_drop, -List.map_append, -List.map_reverse, asDef, entry, slotsOf, sSeq, sSet, sRet, sIf, sDrop, sNil, sBreak, sCont, sApp, sSetAt, setEnd, sAug, sAsg, sPar, mVar, mSee, mFrz, mTake, mC, mUn, mOp, mNil, mCons, mCall, mCallL, mTup, mLst, mView, mOwn, mFz, mTest, mAnd, mOr, mNot, mIf, mAndV, mOrV, mNotV, mChain, mAt, qSee, qFz, qNew, oNone, oSome, rNil, rSlot, rFz, mCall0, mCall1, oneSlot, noSlot, treesOf, SD.tree, SD.put, SD.putFz, tgN, tgNil, tgCons, tgT, ER.bind, ER.opt, ER.stm, Fl.seq, OT.view, OT.views, OT.items, fzOf, iLst, iTuP, iRange1, iRange2, iZip2, iEnumL, dIx, atI, ixN, dAdd, dSub, dNeg, dLt, dLe, dGt, dGe, dIsN, dNotN, isNonD, dEq, dNe, eqB_int, eqB_str, eqB_bl, eq_2, eq_3, dLen, dIsi, D.isA, tyName, dMod, dMax, dMin, mAtS, mBm, D.isL, D.isS, ha, hm0, ← hx, m1, m2, m3, ← hy, m4, m5, d1]
/-- a call that hands over the bag and one thing more -/
theorem call_bag {f : List OT → ER OT} {i : Nat} {a : SD → ER D} {sd sd1 s2 : SD} {d : D} {r t t0 t' : OT} (ha : a sd = .ok d sd1) (h0 : sd.tree i = some t0) (h1 : sd1.tree i = some t) (hf : f [t, .fz d] = .ok r s2) (hp : s2.pa[0]? = some t') : mCall1 f (rSlot i (rFz a rNil)) sd = .ok r (sd1.put i t') := by
  have e : rSlot i (rFz a rNil) sd = .ok [.sl i, .fz d] sd1 := by
    unfold rSlot
    rw [h0]
    show ER.bind (rFz a rNil sd) _ = _
    unfold rFz
    rw [ha]
    rfl
  have e2 : treesOf sd1 [.sl i, .fz d] = some [t, .fz d] := by
    show (sd1.tree i).bind _ = _
    rw [h1]
    rfl
  unfold mCall1
  rw [e]
  show (match oneSlot [.sl i, .fz d], treesOf sd1 [.sl i, .fz d] with
  | some (m, i), some ts => match f ts with
    | .ok t sd' => match sd'.pa[m]? with
      | some t' => ER.ok t (sd1.put i t')
      | none => ER.bad
    | .rz x sd' => match sd'.pa[m]? with
      | some t' => ER.rz x (sd1.put i t')
      | none => ER.bad
    | .bad => ER.bad
  | _, _ => ER.bad) = _
  rw [e2]
  show (match f [t, .fz d] with
    | .ok t sd' => match sd'.pa[0]? with
      | some t' => ER.ok t (sd1.put i t')
      | none => .bad
    | .rz x sd' => match sd'.pa[0]? with
      | some t' => .rz x (sd1.put i t')
      | none => .bad
    | .bad => .bad) = _
  rw [hf]
  show (match s2.pa[0]? with
      | some t' => ER.ok r (sd1.put i t')
      | none => .bad) = _
  rw [hp]
theorem cons_v {a : SD → ER D} {r : SD → ER (List D)} {sd sd1 sd2 : SD} {x : D} {xs : List D} (ha : a sd = .ok x sd1) (hr : r sd1 = .ok xs sd2) : mCons a r sd = .ok (x :: xs) sd2 := by
  unfold mCons
  rw [ha]
  show ER.bind (r sd1) _ = _
  rw [hr]
  rfl
theorem call_v {f : List D → Option D} {a : SD → ER (List D)} {sd sd1 : SD} {xs : List D} {y : D} (h : a sd = .ok xs sd1) (hf : f xs = some y) : mCall f a sd = .ok y sd1 := by
  unfold mCall
  rw [h]
  show ER.opt (f xs) sd1 = _
  rw [hf]
  rfl
theorem lst_o {a : SD → ER (List D)} {sd sd1 : SD} {xs : List D} (h : a sd = .ok xs sd1) (hl : xs.length ≤ 16777216) : mLst a sd = .ok (.ol (xs.map .fz)) sd1 := by
  unfold mLst
  rw [h]
  show (if xs.length ≤ 16777216 then ER.ok (OT.ol (xs.map .fz)) sd1 else .bad) = _
  rw [if_pos hl]
theorem view_v {a : SD → ER OT} {sd sd1 : SD} {xs : List D} (h : a sd = .ok (.ol (xs.map .fz)) sd1) : mView a sd = .ok (.lst xs) sd1 := by
  unfold mView
  rw [h]
  show ER.ok (OT.view (.ol _)) sd1 = _
  rw [OT.view, views_fz]
theorem lst_v {a : SD → ER (List D)} {sd sd1 : SD} {xs : List D} (h : a sd = .ok xs sd1) (hl : xs.length ≤ 16777216) : mView (mLst a) sd = .ok (.lst xs) sd1 := view_v (lst_o h hl)
/-- a draw -/
theorem pick_call (cs : Nat → Addr) {n i : Nat} {a : SD → ER D} {sd sd1 : SD} {t t0 : OT} {m : Int} (ha : a sd = .ok (.int m) sd1) (h0 : sd.tree i = some t0) (h1 : sd1.tree i = some t) (hb : Bg n t) (hn : n < 2 ^ 64) (hm : 0 < m) (hm2 : m.natAbs < 2 ^ 8000) : ∃ (v : Int) (t' : OT), 0 ≤ v ∧ v < m ∧ Bg (n + 1) t' ∧ mView (mCall1 (m__law_pick cs) (rSlot i (rFz a rNil))) sd = .ok (.int v) (sd1.put i t') := by
  obtain ⟨v, t', v0, v1, b', e⟩ := pick_ok cs hb hn hm hm2
  refine ⟨v, t', v0, v1, b', ?_⟩
  unfold mView
  rw [call_bag ha h0 h1 e rfl]
  rfl
noncomputable def nuS (b : OT) : SD := ⟨[.pa 0, .ow (.fz (.int 1))], [b, .fz (.int 1)]⟩
theorem number_ok (cs : Nat → Addr) {n : Nat} {t : OT} (h : Bg n t) (hn : n + 2 < 2 ^ 64) : ∃ (k : Nat) (t' : OT), 2 ≤ k ∧ k ≤ 1000000000000000000000000000000 ∧ Bg (n + 2) t' ∧ m__law_number cs [t, .fz (.int 1)] = .ok (.fz (.str (W (TL.numL k)))) ⟨[], [t', .fz (.int 1)]⟩ := by
  have ent : entry 2 [t, .fz (.int 1)] = nuS t ∨ True := .inr trivial
  obtain ⟨a, b, c, rfl, hc, hc2⟩ := h
  have ent : entry 2 [.ol [.fz (.int a), .fz (.int b), .fz (.int c)], .fz (.int 1)] = nuS (.ol [.fz (.int a), .fz (.int b), .fz (.int c)]) := rfl
  have h : Bg n (.ol [.fz (.int a), .fz (.int b), .fz (.int c)]) := ⟨_, _, _, rfl, hc, hc2⟩
  generalize OT.ol [.fz (.int a), .fz (.int b), .fz (.int c)] = t at *
  have e30 : mOp dSub (mOp dPow (mC (.int 10)) (mC (.int 30))) (mC (.int 1)) (nuS t) = .ok (.int (1000000000000000000000000000000 - 1)) (nuS t) := by
    refine op_v (x := .int 1000000000000000000000000000000) ?_ rfl rfl
    exact op_v rfl rfl (p10 (k := 30) (by decide))
  obtain ⟨v, t1, v0, v1, b1, p1⟩ := pick_call cs (a := mOp dAdd (mC (.int 2)) (mOp dMul (mC (.int 3)) (mVar 1))) (i := 0) (sd := nuS t) (sd1 := nuS t) (m := 5) rfl rfl rfl h (by omega) (by decide) (by decide)
  have l1 : mView (mLst (mCons (mC (.int 2)) (mCons (mC (.int 3)) (mCons (mC (.int 9)) (mCons (mC (.int 60)) (mCons (mOp dSub (mOp dPow (mC (.int 10)) (mC (.int 30))) (mC (.int 1))) (mNil))))))) (nuS t) = .ok (.lst [.int 2, .int 3, .int 9, .int 60, .int (1000000000000000000000000000000 - 1)]) (nuS t) := by
    exact lst_v (cons_v rfl (cons_v rfl (cons_v rfl (cons_v rfl (cons_v e30 rfl))))) (by decide)
  obtain ⟨far, f0, f1, ix⟩ : ∃ far : Int, 0 < far ∧ far ≤ 1000000000000000000000000000000 - 1 ∧ dIx (.lst [.int 2, .int 3, .int 9, .int 60, .int (1000000000000000000000000000000 - 1)]) (.int v) = some (.int far) := by
    have : v = 0 ∨ v = 1 ∨ v = 2 ∨ v = 3 ∨ v = 4 := by omega
    rcases this with rfl | rfl | rfl | rfl | rfl
    · exact ⟨2, by decide, by decide, rfl⟩
    · exact ⟨3, by decide, by decide, rfl⟩
    · exact ⟨9, by decide, by decide, rfl⟩
    · exact ⟨60, by decide, by decide, rfl⟩
    · exact ⟨1000000000000000000000000000000 - 1, by decide, by decide, rfl⟩
  have i1 := op_v l1 p1 ix
  obtain ⟨u, t2, u0, u1, b2, p2⟩ := pick_call cs (i := 0) i1 (t0 := t) (t := t1) rfl rfl b1 (by omega) f0 (by
    have : (2 : Nat) ^ 8000 ≥ 2 ^ 200 := Nat.pow_le_pow_right (by decide) (by decide)
    have b200 : (2 : Nat) ^ 200 = 1606938044258990275541962092341162602522202993782792835301376 := by decide
    omega)
  have o1 : mOp dAdd (mC (.int 2)) _ (nuS t) = .ok (.int ((2 + u.toNat : Nat) : Int)) _ := op_v (f := dAdd) (x := .int 2) rfl p2 (by
    show some (D.int (2 + u)) = _
    congr 2
    omega)
  refine ⟨2 + u.toNat, t2, by omega, by omega, b2, ?_⟩
  have st : dStr1 [.int ((2 + u.toNat : Nat) : Int)] = some (.str (W (TL.numL (2 + u.toNat)))) := str_num (by
    have : (2 : Nat) ^ 1000 ≥ 2 ^ 200 := Nat.pow_le_pow_right (by decide) (by decide)
    have b200 : (2 : Nat) ^ 200 = 1606938044258990275541962092341162602522202993782792835301376 := by decide
    omega)
  unfold m__law_number asDef
  rw [ent]
  have s1 : m__law_number_1 cs (nuS t) = .rt (.fz (.str (W (TL.numL (2 + u.toNat))))) (((nuS t).put 0 t1).put 0 t2) := by
    refine ret_d ?_
    exact call_v (cons_v o1 rfl) st
  rw [s1]
  rfl
theorem while_go {c : SD → ER Bool} {body : SD → Fl} (I : Nat → SD → Prop) (J : SD → Prop) (h : ∀ k sd, I k sd → (c sd = .ok false sd ∧ J sd) ∨ (c sd = .ok true sd ∧ ∃ sd2 k2, k2 < k ∧ body sd = .nx sd2 ∧ I k2 sd2)) : ∀ n k sd, I k sd → k < n → ∃ sd', goWhile c body n sd = .nx sd' ∧ J sd'
  | 0, k, sd, _, hk => by omega
  | n + 1, k, sd, hI, hk => by
    rcases h k sd hI with ⟨h1, h2⟩ | ⟨h1, sd2, k2, h2, h3, h4⟩
    · refine ⟨sd, ?_, h2⟩
      unfold goWhile
      rw [h1]
      rfl
    · obtain ⟨sd', g1, g2⟩ := while_go I J h n k2 sd2 h4 (by omega)
      refine ⟨sd', ?_, g2⟩
      unfold goWhile
      rw [h1]
      show (match body sd with
      | .nx sd2 => goWhile c body n sd2
      | .ct sd2 => goWhile c body n sd2
      | .bk sd2 => .nx sd2
      | r => r) = _
      rw [h3]
      exact g1
theorem noSlot_fz : ∀ ds : List D, noSlot (ds.map DL.Arg.fz) = true
  | [] => rfl
  | d :: r => noSlot_fz r
theorem treesOf_fz (sd : SD) : ∀ ds : List D, treesOf sd (ds.map DL.Arg.fz) = some (ds.map OT.fz)
  | [] => rfl
  | d :: r => by
    show (treesOf sd (r.map DL.Arg.fz)).map _ = _
    rw [treesOf_fz sd r]
    rfl
/-- a call that hands over the bag first -/
theorem call_bags {f : List OT → ER OT} {i : Nat} {rr : SD → ER (List DL.Arg)} {sd sd1 s2 : SD} {ds : List D} {r t t0 t' : OT} (ha : rr sd = .ok (ds.map .fz) sd1) (h0 : sd.tree i = some t0) (h1 : sd1.tree i = some t) (hf : f (t :: ds.map .fz) = .ok r s2) (hp : s2.pa[0]? = some t') : mCall1 f (rSlot i rr) sd = .ok r (sd1.put i t') := by
  have e : rSlot i rr sd = .ok (.sl i :: ds.map .fz) sd1 := by
    unfold rSlot
    rw [h0]
    show ER.bind (rr sd) _ = _
    rw [ha]
    rfl
  have e2 : treesOf sd1 (.sl i :: ds.map .fz) = some (t :: ds.map .fz) := by
    show (sd1.tree i).bind (fun t => (treesOf sd1 (ds.map .fz)).map (t :: ·)) = _
    rw [h1, treesOf_fz]
    rfl
  have e3 : oneSlot (.sl i :: ds.map .fz) = some (0, i) := by
    show (if noSlot (ds.map DL.Arg.fz) = true then some (0, i) else none) = _
    rw [noSlot_fz]
    rfl
  unfold mCall1
  rw [e]
  simp only [ER.bind]
  rw [e3, e2]
  simp only
  rw [hf]
  simp only
  rw [hp]
theorem rfz_v {a : SD → ER D} {r : SD → ER (List DL.Arg)} {sd sd1 sd2 : SD} {d : D} {ds : List D} (ha : a sd = .ok d sd1) (hr : r sd1 = .ok (ds.map .fz) sd2) : rFz a r sd = .ok ((d :: ds).map .fz) sd2 := by
  unfold rFz
  rw [ha]
  simp only [ER.bind]
  rw [hr]
  rfl
theorem cat_v {a b : SD → ER (List D)} {sd sd1 sd2 : SD} {xs ys : List D} (ha : a sd = .ok xs sd1) (hb : b sd1 = .ok ys sd2) (hl : xs.length + ys.length ≤ 16777216) : mCat a b sd = .ok (.ol ((xs ++ ys).map .fz)) sd2 := by
  unfold mCat
  rw [ha]
  simp only [ER.bind]
  rw [hb]
  simp only
  rw [if_pos hl]
theorem qnew_v {a : SD → ER OT} {sd sd1 : SD} {xs : List D} (h : a sd = .ok (.ol (xs.map .fz)) sd1) : qNew a sd = .ok xs sd1 := by
  unfold qNew
  rw [h]
  show ER.opt (fzOf (xs.map .fz)) sd1 = _
  rw [fzOf_map]
  rfl
theorem qfz_v {a : SD → ER D} {sd sd1 : SD} {xs : List D} (h : a sd = .ok (.lst xs) sd1) : qFz a sd = .ok xs sd1 := by
  unfold qFz
  rw [h]
  rfl
theorem set_o {k : Nat} {m : SD → ER OT} {sd : SD} {o : OT} {l : List S} {pa : List OT} (h : m sd = .ok o ⟨l, pa⟩) (hk : k < l.length) : sSet k m sd = .nx ⟨l.set k (.ow o), pa⟩ := by
  unfold sSet
  rw [h]
  show (if k < l.length then _ else _) = _
  rw [if_pos hk]
theorem own_v {m : SD → ER D} {sd sd1 : SD} {d : D} (h : m sd = .ok d sd1) : mOwn m sd = .ok (.fz d) sd1 := by
  unfold mOwn; rw [h]; rfl
theorem num_call (cs : Nat → Addr) {n i : Nat} {a : SD → ER D} {sd sd1 : SD} {t t0 : OT} (ha : a sd = .ok (.int 1) sd1) (h0 : sd.tree i = some t0) (h1 : sd1.tree i = some t) (hb : Bg n t) (hn : n + 2 < 2 ^ 64) : ∃ (k : Nat) (t' : OT), 2 ≤ k ∧ k ≤ 1000000000000000000000000000000 ∧ Bg (n + 2) t' ∧ mView (mCall1 (m__law_number cs) (rSlot i (rFz a rNil))) sd = .ok (.str (W (TL.numL k))) (sd1.put i t') := by
  obtain ⟨k, t', k1, k2, b', e⟩ := number_ok cs hb hn
  refine ⟨k, t', k1, k2, b', ?_⟩
  unfold mView
  rw [call_bag ha h0 h1 e rfl]
  rfl
theorem add_S {a b : List Nat} (h : a.length + b.length ≤ 16777216) : dAdd (.str (W a)) (.str (W b)) = some (.str (W (a ++ b))) := by
  show (if (W a).length + (W b).length ≤ 16777216 then some (D.str (W a ++ W b)) else none) = _
  rw [W_len, W_len, if_pos h, W_app]
noncomputable def wS (L : List Nat) (b : OT) (m d : Nat) (found : List Nd) (many : Nat) (x7 x8 x9 : S) : SD := ⟨[.pa 0, .ow (.fz (.int m)), .ow (.fz (.int d)), .ow (.fz (.str (W L))), .ow (.fz (.int 1)), .ow (.ol ((WsD (wds found)).map .fz)), .ow (.fz (.int many)), x7, x8, x9], [b, .fz (.int m), .fz (.int d), .fz (.str (W L)), .fz (.int 1)]⟩
section
variable (cs : Nat → Addr) (rec : List OT → ER OT) {L : List Nat} {b : OT} {m d many : Nat} {found : List Nd} {x7 x8 x9 : S}
theorem ws_see : mSee 5 (wS L b m d found many x7 x8 x9) = .ok (.lst (WsD (wds found))) (wS L b m d found many x7 x8 x9) := by
  show ER.ok (OT.view (.ol _)) _ = _
  rw [OT.view, views_fz]
theorem ws_len : mCall dLen (mCons (mSee 5) mNil) (wS L b m d found many x7 x8 x9) = .ok (.int (wds found).length) (wS L b m d found many x7 x8 x9) := call_v (cons_v ws_see rfl) (by
  show some (D.int (WsD (wds found)).length) = _
  rw [WsD_len])
theorem ws_cond : mTest (mOp dLt (mCall dLen (mCons (mSee 5) (mNil))) (mVar 6)) (wS L b m d found many x7 x8 x9) = .ok (decide ((wds found).length < many)) (wS L b m d found many x7 x8 x9) := op_t ws_len (y := .int many) rfl (by
  show some (D.bl (decide (((wds found).length : Int) < (many : Int)))) = _
  congr 2
  exact decide_eq_decide.mpr (by omega))
theorem ws_3 {n : Nat} (hb : Bg n b) (hn : n < 2 ^ 64) : ∃ (v : Int) (b' : OT), Bg (n + 1) b' ∧ m__law_words_3 cs rec (wS L b m d found many x7 x8 x9) = .nx (wS L b' m d found many (.ow (.fz (.int v))) x8 x9) := by
  obtain ⟨v, b', v0, v1, h1, e⟩ := pick_call cs (a := mC (.int 5)) (i := 0) (sd := wS L b m d found many x7 x8 x9) (sd1 := wS L b m d found many x7 x8 x9) rfl rfl rfl hb hn (by decide) (by decide)
  refine ⟨v, b', h1, ?_⟩
  exact set_d (l := (wS L b' m d found many x7 x8 x9).sl) e (by show 7 < 10; decide)
theorem ws_4 (h : (wds found).length < many) : m__law_words_4 cs rec (wS L b m d found many x7 x8 x9) = .nx (wS L b m d found many x7 (.ow (.fz (.int (many - (wds found).length : Nat)))) x9) := by
  have o : mOp dSub (mVar 6) (mCall dLen (mCons (mSee 5) (mNil))) (wS L b m d found many x7 x8 x9) = .ok (.int (many - (wds found).length : Nat)) (wS L b m d found many x7 x8 x9) := op_v (x := .int many) rfl ws_len (by
    show some (D.int ((many : Int) - (wds found).length)) = _
    rw [show ((many : Int) - ((wds found).length : Nat)) = ((many - (wds found).length : Nat) : Int) by omega])
  exact set_d (l := (wS L b m d found many x7 x8 x9).sl) o (by show 8 < 10; decide)
theorem ix_W {l : List Nat} {v : Int} (h0 : 0 ≤ v) (h1 : v < l.length) (hl : l.length ≤ 16777216) : ∃ c, c ∈ l ∧ dIx (.str (W l)) (.int v) = some (.str (W [c])) := by
  have hv : v.toNat < l.length := by omega
  refine ⟨l[v.toNat], List.getElem_mem hv, ?_⟩
  show (if (W l).length ≤ 16777216 then (atI l v).map (fun c => D.str ⟨#[c]⟩) else none) = _
  have := atI_of (xs := l) (k := v.toNat) (v := l[v.toNat]) (by simp [hv])
  rw [show ((v.toNat : Nat) : Int) = v by omega] at this
  rw [W_len, if_pos hl, this]
  rfl
theorem ws_7 {n : Nat} {way : Int} (hL : ∀ c ∈ L, c ∈ letters) (hL1 : 1 ≤ L.length) (hL2 : L.length ≤ 10) (hb : Bg n b) (hn : n + 3 < 2 ^ 64) (hl : (wds found).length < 1000) : ∃ (c k : Nat) (b' : OT), c ∈ letters ∧ 1 ≤ k ∧ k ≤ 1000000000000000000000000000000 ∧ Bg (n + 3) b' ∧ m__law_words_7 cs rec (wS L b m d found many (.ow (.fz (.int way))) x8 x9) = .nx (wS L b' m d (found ++ [.st c k]) many (.ow (.fz (.int way))) x8 x9) := by
  obtain ⟨v, b1, v0, v1, h1, e1⟩ := pick_call cs (a := mCall dLen (mCons (mVar 3) mNil)) (i := 0) (sd := wS L b m d found many (.ow (.fz (.int way))) x8 x9) (sd1 := wS L b m d found many (.ow (.fz (.int way))) x8 x9) (m := L.length) (len_v (w := L) (by omega) rfl) rfl rfl hb (by omega) (by omega) (by
    have : (2 : Nat) ^ 8000 ≥ 2 ^ 20 := Nat.pow_le_pow_right (by decide) (by decide)
    have : (2 : Nat) ^ 20 = 1048576 := by decide
    omega)
  obtain ⟨c, hc2, hc⟩ := ix_W v0 v1 (by omega)
  have o1 := op_v (f := dIx) (a := mVar 3) (sd := wS L b m d found many (.ow (.fz (.int way))) x8 x9) (x := .str (W L)) rfl e1 hc
  obtain ⟨k, b2, k1, k2, h2, e2⟩ := num_call cs (a := mVar 4) (i := 0) (sd := wS L b1 m d found many (.ow (.fz (.int way))) x8 x9) (sd1 := wS L b1 m d found many (.ow (.fz (.int way))) x8 x9) rfl rfl rfl h1 (by omega)
  have l2 : mView (mLst (mCons (mC (.str (Str.ofString ""))) (mCons (mView (mCall1 (m__law_number cs) (rSlot 0 (rFz (mVar 4) rNil)))) mNil))) (wS L b1 m d found many (.ow (.fz (.int way))) x8 x9) = .ok (.lst [.str (Str.ofString ""), .str (W (TL.numL k))]) (wS L b2 m d found many (.ow (.fz (.int way))) x8 x9) := lst_v (cons_v rfl (cons_v e2 rfl)) (by show 2 ≤ 16777216; decide)
  have q : mCall dInt2 (mCons (mOp dEq (mVar 7) (mC (.int 1))) mNil) (wS L b2 m d found many (.ow (.fz (.int way))) x8 x9) = .ok (.int (if (decide (way = 1)) = true then 1 else 0)) (wS L b2 m d found many (.ow (.fz (.int way))) x8 x9) := call_v (cons_v (op_v (f := dEq) (x := .int way) (y := .int 1) (z := .bl (decide (way = 1))) rfl rfl (by unfold dEq; rw [eqB_int]; rfl)) rfl) (int2_bl _)
  have nl := TL.numL_len (n := k) (k := 31) (by decide) (by omega)
  obtain ⟨k3, u, hu, hk1, hk2, hlw, ix⟩ : ∃ (k3 : Nat) (u : List Nat), u.length ≤ 31 ∧ 1 ≤ k3 ∧ k3 ≤ 1000000000000000000000000000000 ∧ lw c k3 = c :: u ∧ dIx (.lst [.str (Str.ofString ""), .str (W (TL.numL k))]) (.int (if (decide (way = 1)) = true then 1 else 0)) = some (.str (W u)) := by
    by_cases hway : way = 1
    · exact ⟨k, _, nl, by omega, k2, by unfold lw; rw [if_neg (by omega)], by rw [decide_eq_true hway]; rfl⟩
    · exact ⟨1, [], by decide, by omega, by omega, rfl, by rw [decide_eq_false hway, lit_nil]; rfl⟩
  have o2 := op_v l2 q ix
  have o3 : mOp dAdd _ _ (wS L b m d found many (.ow (.fz (.int way))) x8 x9) = .ok (.str (W (c :: u))) _ := op_v (f := dAdd) o1 o2 (add_S (by rw [List.length_singleton]; omega))
  refine ⟨c, k3, b2, hL c hc2, hk1, hk2, h2.mono (by omega), ?_⟩
  unfold m__law_words_7 sApp
  have t0 : (wS L b m d found many (.ow (.fz (.int way))) x8 x9).tree 5 = some (.ol ((WsD (wds found)).map .fz)) := rfl
  rw [t0]
  simp only
  rw [own_v o3]
  show (if ((WsD (wds found)).map OT.fz).length < 16777216 then Fl.nx ((wS L b2 m d found many (.ow (.fz (.int way))) x8 x9).put 5 (.ol ((WsD (wds found)).map .fz ++ [.fz (.str (W (c :: u)))]))) else .bad) = _
  rw [if_pos (by rw [List.length_map, WsD_len]; omega)]
  have : (WsD (wds found)).map OT.fz ++ [.fz (.str (W (c :: u)))] = (WsD (wds (found ++ [.st c k3]))).map OT.fz := by
    rw [wds_app, wds_one, wd, hlw, WsD_app, List.map_append]; rfl
  rw [this]
  rfl
theorem ws_6 {n : Nat} {part : List Nd} (hb : Bg n b) (hn : n + 3 < 2 ^ 64) (hl : (wds found).length + (wds part).length < 1000) : ∃ (k : Nat) (b' : OT), 2 ≤ k ∧ k ≤ 1000000000000000000000000000000 ∧ Bg (n + 2) b' ∧ m__law_words_6 cs rec (wS L b m d found many x7 x8 (.ow (.fz (.lst (WsD (wds part)))))) = .nx (wS L b' m d (found ++ [.rp part k]) many x7 x8 (.ow (.fz (.lst (WsD (wds part)))))) := by
  obtain ⟨k, b2, k1, k2, h2, e2⟩ := num_call cs (a := mVar 4) (i := 0) (sd := wS L b m d found many x7 x8 (.ow (.fz (.lst (WsD (wds part)))))) (sd1 := wS L b m d found many x7 x8 (.ow (.fz (.lst (WsD (wds part)))))) rfl rfl rfl hb (by omega)
  have nl := TL.numL_len (n := k) (k := 31) (by decide) (by omega)
  refine ⟨k, b2, k1, k2, h2, ?_⟩
  have q5 : qSee 5 (wS L b m d found many x7 x8 (.ow (.fz (.lst (WsD (wds part)))))) = .ok (WsD (wds found)) (wS L b m d found many x7 x8 (.ow (.fz (.lst (WsD (wds part)))))) := by
    show ER.opt (fzOf ((WsD (wds found)).map .fz)) _ = _
    rw [fzOf_map]
    rfl
  have c1 := cat_v q5 (qnew_v (lst_o (a := mCons (mC (.str (Str.ofString "("))) mNil) (xs := [.str (Str.ofString "(")]) rfl (by decide))) (by rw [WsD_len, List.length_singleton]; omega)
  have c2 := cat_v (qnew_v c1) (qfz_v (a := mVar 9) (xs := WsD (wds part)) rfl) (by rw [List.length_append, WsD_len, WsD_len, List.length_singleton]; omega)
  have o : mOp dAdd (mC (.str (Str.ofString ")"))) (mView (mCall1 (m__law_number cs) (rSlot 0 (rFz (mVar 4) rNil)))) (wS L b m d found many x7 x8 (.ow (.fz (.lst (WsD (wds part)))))) = .ok (.str (W (41 :: TL.numL k))) (wS L b2 m d found many x7 x8 (.ow (.fz (.lst (WsD (wds part)))))) := op_v (x := .str (Str.ofString ")")) rfl e2 (by
    rw [lit_close]
    exact add_S (by rw [List.length_singleton]; omega))
  have c3 := cat_v (qfz_v (view_v c2)) (qnew_v (lst_o (cons_v o (r := mNil) rfl) (by show 1 ≤ 16777216; decide))) (by rw [List.length_append, List.length_append, WsD_len, WsD_len, List.length_singleton, List.length_singleton]; omega)
  have r := set_o (k := 5) (l := (wS L b2 m d found many x7 x8 (.ow (.fz (.lst (WsD (wds part)))))).sl) c3 (by show 5 < 10; decide)
  have e : WsD (wds found) ++ [.str (Str.ofString "(")] ++ WsD (wds part) ++ [.str (W (41 :: TL.numL k))] = WsD (wds (found ++ [.rp part k])) := by
    rw [wds_app, wds_one, wd, lit_open, WsD_app]
    show _ = WsD (wds found) ++ WsD ([[40]] ++ (wds part ++ [41 :: TL.numL k]))
    rw [WsD_app, WsD_app]
    simp only [List.append_assoc]
    rfl
  rw [e] at r
  exact r
end
/-- what a call of words gives -/
noncomputable def WordsOk (f : List OT → ER OT) (d : Nat) : Prop := ∀ (L : List Nat) (n m : Nat) (b : OT), (∀ c ∈ L, c ∈ letters) → 1 ≤ L.length → L.length ≤ 10 → 1 ≤ m → m ≤ 60 → Bg n b → n + 5 * m + 10 < 2 ^ 64 → ∃ (l : List Nd) (b' : OT), f [b, .fz (.int m), .fz (.int d), .fz (.str (W L)), .fz (.int 1)] = .ok (.ol ((WsD (wds l)).map .fz)) ⟨[], [b', .fz (.int m), .fz (.int d), .fz (.str (W L)), .fz (.int 1)]⟩ ∧ Bg (n + 1 + 5 * (wds l).length) b' ∧ 1 ≤ (wds l).length ∧ (wds l).length ≤ m ∧ noks l ∧ ndps l ≤ d
noncomputable def wI (L : List Nat) (n m d many k : Nat) (sd : SD) : Prop := ∃ b found x7 x8 x9, sd = wS L b m d found many x7 x8 x9 ∧ k = many - (wds found).length ∧ (wds found).length ≤ many ∧ Bg (n + 1 + 5 * (wds found).length) b ∧ noks found ∧ ndps found ≤ d
theorem ws_body (cs : Nat → Addr) (rec : List OT → ER OT) {L : List Nat} {n m d many : Nat} (hL : ∀ c ∈ L, c ∈ letters) (hL1 : 1 ≤ L.length) (hL2 : L.length ≤ 10) (hm : many ≤ m) (hm2 : m ≤ 60) (hn : n + 5 * m + 10 < 2 ^ 64) (hr : ∀ d2, d = d2 + 1 → WordsOk rec d2) {k : Nat} {b : OT} {found : List Nd} {x7 x8 x9 : S} (hk : k = many - (wds found).length) (hf : (wds found).length < many) (hb : Bg (n + 1 + 5 * (wds found).length) b) (ho : noks found) (hdp : ndps found ≤ d) :
    ∃ sd2 k2, k2 < k ∧ m__law_words_b1 cs rec (wS L b m d found many x7 x8 x9) = .nx sd2 ∧ wI L n m d many k2 sd2 := by
  obtain ⟨way, b1, h1, s3⟩ := ws_3 cs rec (L := L) (m := m) (d := d) (many := many) (found := found) (x7 := x7) (x8 := x8) (x9 := x9) hb (by omega)
  have s4 := ws_4 cs rec (L := L) (b := b1) (m := m) (d := d) (x7 := .ow (.fz (.int way))) (x8 := x8) (x9 := x9) hf
  generalize hroom : many - (wds found).length = room at *
  let S1 := wS L b1 m d found many (.ow (.fz (.int way))) (.ow (.fz (.int room))) x9
  have tA : mTest (mOp dEq (mVar 7) (mC (.int 0))) S1 = .ok (decide (way = 0)) S1 := op_t (x := .int way) (y := .int 0) rfl rfl (by unfold dEq; rw [eqB_int]; rfl)
  have tB : mTest (mOp dGt (mVar 2) (mC (.int 0))) S1 = .ok (decide ((0 : Int) < d)) S1 := op_t (x := .int d) (y := .int 0) rfl rfl rfl
  have tC : mTest (mOp dGt (mVar 8) (mC (.int 2))) S1 = .ok (decide ((2 : Int) < room)) S1 := op_t (x := .int room) (y := .int 2) rfl rfl rfl
  have t8 := and_b tA (and_b tB tC)
  unfold m__law_words_b1
  by_cases hc : (decide (way = 0) && (decide ((0 : Int) < d) && decide ((2 : Int) < room))) = true
  · rw [hc] at t8
    simp only [Bool.and_eq_true, decide_eq_true_eq] at hc
    obtain ⟨c1, c2, c3⟩ := hc
    obtain ⟨d2, rfl⟩ : ∃ d2, d = d2 + 1 := ⟨d - 1, by omega⟩
    obtain ⟨part, b2, e, h2, p1, p2, p3, p4⟩ := hr d2 rfl L (n + 1 + 5 * (wds found).length + 1) (room - 2) b1 hL hL1 hL2 (by omega) (by omega) h1 (by omega)
    have a1 : mOp dSub (mVar 8) (mC (.int 2)) S1 = .ok (.int (room - 2 : Nat)) S1 := op_v (x := .int room) (y := .int 2) rfl rfl (by
      show some (D.int ((room : Int) - 2)) = _
      rw [show ((room : Int) - 2) = ((room - 2 : Nat) : Int) by omega])
    have a2 : mOp dSub (mVar 2) (mC (.int 1)) S1 = .ok (.int d2) S1 := op_v (x := .int (d2 + 1 : Nat)) (y := .int 1) rfl rfl (by
      show some (D.int (((d2 + 1 : Nat) : Int) - 1)) = _
      rw [show (((d2 + 1 : Nat) : Int) - 1) = (d2 : Int) by omega])
    have args : (rFz (mOp dSub (mVar 8) (mC (.int 2))) (rFz (mOp dSub (mVar 2) (mC (.int 1))) (rFz (mVar 3) (rFz (mVar 4) rNil)))) S1 = .ok (([.int (room - 2 : Nat), .int d2, .str (W L), .int 1] : List D).map .fz) S1 := rfz_v a1 (rfz_v a2 (rfz_v (ds := [.int 1]) rfl (rfz_v (ds := []) rfl rfl)))
    have cl := call_bags (f := rec) (i := 0) args (t0 := b1) (t := b1) rfl rfl e rfl
    have s5 : m__law_words_5 cs rec S1 = .nx (wS L b2 m (d2 + 1) found many (.ow (.fz (.int way))) (.ow (.fz (.int room))) (.ow (.fz (.lst (WsD (wds part)))))) :=
      set_d (k := 9) (l := (wS L b2 m (d2 + 1) found many (.ow (.fz (.int way))) (.ow (.fz (.int room))) x9).sl) (view_v cl) (by show 9 < 10; decide)
    obtain ⟨k, b3, k1, k2, h3, s6⟩ := ws_6 cs rec (L := L) (m := m) (d := d2 + 1) (many := many) (found := found) (x7 := .ow (.fz (.int way))) (x8 := .ow (.fz (.int room))) (part := part) h2 (by omega) (by omega)
    have s8 : m__law_words_8 cs rec S1 = .nx (wS L b3 m (d2 + 1) (found ++ [.rp part k]) many (.ow (.fz (.int way))) (.ow (.fz (.int room))) (.ow (.fz (.lst (WsD (wds part)))))) := by
      unfold m__law_words_8
      rw [if_b t8, if_pos rfl]
      exact seq_nx s5 s6
    have len : (wds (found ++ [.rp part k])).length = (wds found).length + ((wds part).length + 2) := by
      rw [wds_app, wds_one, wd, List.length_append, List.length_cons, List.length_append, List.length_singleton]
    have pne : part ≠ [] := fun z => by rw [z, wds, List.length_nil] at p1; omega
    refine ⟨_, many - (wds (found ++ [.rp part k])).length, by rw [len]; omega, seq_nx s3 (seq_nx s4 s8), _, _, _, _, _, rfl, rfl, by rw [len]; omega, h3.mono (by rw [len]; omega), (noks_app _ _).mpr ⟨ho, (noks_one _).mpr (by rw [nok]; exact ⟨pne, k1, k2, p3⟩)⟩, by rw [ndps_app, ndps_one, ndp]; omega⟩
  · have hc : (decide (way = 0) && (decide ((0 : Int) < d) && decide ((2 : Int) < room))) = false := by simpa using hc
    rw [hc] at t8
    obtain ⟨c, k, b2, hcl, k1, k2, h2, s7⟩ := ws_7 cs rec (L := L) (m := m) (d := d) (many := many) (found := found) (way := way) (x8 := .ow (.fz (.int room))) (x9 := x9) hL hL1 hL2 h1 (by omega) (by omega)
    have s8 : m__law_words_8 cs rec S1 = .nx (wS L b2 m d (found ++ [.st c k]) many (.ow (.fz (.int way))) (.ow (.fz (.int room))) x9) := by
      unfold m__law_words_8
      rw [if_b t8, if_neg Bool.false_ne_true]
      exact s7
    have len : (wds (found ++ [.st c k])).length = (wds found).length + 1 := by
      rw [wds_app, wds_one, wd, List.length_append, List.length_singleton]
    refine ⟨_, many - (wds (found ++ [.st c k])).length, by rw [len]; omega, seq_nx s3 (seq_nx s4 s8), _, _, _, _, _, rfl, rfl, by rw [len]; omega, h2.mono (by rw [len]; omega), (noks_app _ _).mpr ⟨ho, (noks_one _).mpr (by rw [nok]; exact ⟨hcl, k1, k2⟩)⟩, by rw [ndps_app, ndps_one, ndp]; omega⟩
theorem words_r (cs : Nat → Addr) (rec : List OT → ER OT) {d : Nat} (hr : ∀ d2, d = d2 + 1 → WordsOk rec d2) : WordsOk (m__law_words_r cs rec) d := by
  intro L n m b hL hL1 hL2 hm1 hm2 hb hn
  have ent : ∀ (x y z : Int), entry 10 [.ol [.fz (.int x), .fz (.int y), .fz (.int z)], .fz (.int m), .fz (.int d), .fz (.str (W L)), .fz (.int 1)] = ⟨[.pa 0, .ow (.fz (.int m)), .ow (.fz (.int d)), .ow (.fz (.str (W L))), .ow (.fz (.int 1)), .un, .un, .un, .un, .un], [.ol [.fz (.int x), .fz (.int y), .fz (.int z)], .fz (.int m), .fz (.int d), .fz (.str (W L)), .fz (.int 1)]⟩ := fun _ _ _ => rfl
  have ent : entry 10 [b, .fz (.int m), .fz (.int d), .fz (.str (W L)), .fz (.int 1)] = ⟨[.pa 0, .ow (.fz (.int m)), .ow (.fz (.int d)), .ow (.fz (.str (W L))), .ow (.fz (.int 1)), .un, .un, .un, .un, .un], [b, .fz (.int m), .fz (.int d), .fz (.str (W L)), .fz (.int 1)]⟩ := by
    obtain ⟨x, y, z, rfl, _, _⟩ := hb
    exact ent x y z
  let S0 := fun (x : OT) (x5 x6 : S) => (⟨[.pa 0, .ow (.fz (.int m)), .ow (.fz (.int d)), .ow (.fz (.str (W L))), .ow (.fz (.int 1)), x5, x6, .un, .un, .un], [x, .fz (.int m), .fz (.int d), .fz (.str (W L)), .fz (.int 1)]⟩ : SD)
  have s1 : m__law_words_1 cs rec (S0 b .un .un) = .nx (S0 b (.ow (.ol [])) .un) := rfl
  obtain ⟨v, b1, v0, v1, h1, e⟩ := pick_call cs (a := mVar 1) (i := 0) (sd := S0 b (.ow (.ol [])) .un) (sd1 := S0 b (.ow (.ol [])) .un) (m := m) rfl rfl rfl hb (by omega) (by omega) (by
    have : (2 : Nat) ^ 8000 ≥ 2 ^ 20 := Nat.pow_le_pow_right (by decide) (by decide)
    have : (2 : Nat) ^ 20 = 1048576 := by decide
    omega)
  obtain ⟨many, hmany⟩ : ∃ many : Nat, (many : Int) = 1 + v := ⟨(1 + v).toNat, by omega⟩
  have w0 : wds [] = [] := by rw [wds]
  have s2 : m__law_words_2 cs rec (S0 b (.ow (.ol [])) .un) = .nx (wS L b1 m d [] many .un .un .un) := by
    unfold wS
    rw [w0]
    refine set_d (l := (S0 b1 (.ow (.ol [])) .un).sl) (op_v (x := .int 1) rfl e (z := .int many) ?_) (by show 6 < 10; decide)
    rw [hmany]
    rfl
  obtain ⟨sd', w1, b2, found, x7, x8, x9, rfl, h2, h3, h4, h5⟩ := while_go (c := mTest (mOp dLt (mCall dLen (mCons (mSee 5) (mNil))) (mVar 6))) (body := m__law_words_b1 cs rec) (wI L n m d many) (fun sd => ∃ b found x7 x8 x9, sd = wS L b m d found many x7 x8 x9 ∧ (wds found).length = many ∧ Bg (n + 1 + 5 * (wds found).length) b ∧ noks found ∧ ndps found ≤ d)
    (fun k sd hI => by
      obtain ⟨b, found, x7, x8, x9, rfl, hk, hf, hb, hs, hd⟩ := hI
      have hc := ws_cond (L := L) (b := b) (m := m) (d := d) (many := many) (found := found) (x7 := x7) (x8 := x8) (x9 := x9)
      by_cases hlt : (wds found).length < many
      · rw [decide_eq_true hlt] at hc
        exact .inr ⟨hc, ws_body cs rec hL hL1 hL2 (by omega) hm2 hn hr hk hlt hb hs hd⟩
      · rw [decide_eq_false hlt] at hc
        exact .inl ⟨hc, _, _, _, _, _, rfl, by omega, hb, hs, hd⟩)
    100000 many (wS L b1 m d [] many .un .un .un) ⟨_, _, _, _, _, rfl, by rw [w0]; rfl, by rw [w0]; exact Nat.zero_le _, by rw [w0]; exact h1, by rw [noks]; exact True.intro, by rw [ndps]; exact Nat.zero_le _⟩ (by omega)
  have s9 : m__law_words_9 cs rec (wS L b1 m d [] many .un .un .un) = .nx (wS L b2 m d found many x7 x8 x9) := w1
  refine ⟨found, b2, ?_, h3, by omega, by omega, h4, h5⟩
  unfold m__law_words_r asDef
  rw [ent, seq_nx s1 (seq_nx s2 (seq_nx s9 rfl))]
  rfl
theorem words_ok (cs : Nat → Addr) : ∀ (f d : Nat), d < f → WordsOk (m__law_words cs f) d
  | 0, d, h => by omega
  | f + 1, d, h => by
    have hr : ∀ d2, d = d2 + 1 → WordsOk (m__law_words cs f) d2 := fun d2 e => words_ok cs f d2 (by omega)
    exact words_r cs (m__law_words cs f) hr
noncomputable def wdr (j m : Nat) : Nat := (69621 * j % 2147483647 * 2147483587 + (69621 * j % 2147483647 * (69621 * j % 2147483647) + 40692 * j) % 2147483587) / 32 % m
noncomputable def wlt (j : Nat) : Nat := 97 + wdr (j + 2) (if wdr (j + 1) 2 = 0 then 3 else 26)
noncomputable def wls : Nat → Nat → List Nat
  | 0, _ => []
  | n + 1, j => wlt j :: wls n (j + 2)
noncomputable def szW (o : Nat) : Nat := 2 + wdr (o + 1) 7
noncomputable def nmW (o : Nat) : List Nat := wls (szW o) (o + 1)
noncomputable def nxW (o : Nat) : Nat := o + 1 + 2 * szW o
noncomputable def chW : Nat → Nat → Nat
  | 0, o => o
  | i + 1, o => nxW (chW i o)
noncomputable def namesW (o : Nat) : List (List Nat) := (List.range 19).map fun i => nmW (chW i o)
theorem names_far : ∀ o < 17, (namesW o).Nodup := by decide +kernel
theorem chW_le (o : Nat) : ∀ i, chW i o ≤ o + 17 * i
  | 0 => Nat.le_refl _
  | i + 1 => by
    have h := chW_le o i
    have : wdr (chW i o + 1) 7 < 7 := Nat.mod_lt _ (by decide)
    show chW i o + 1 + 2 * (2 + wdr (chW i o + 1) 7) ≤ _
    omega
/-- as many as there are different ones -/
theorem holds {α : Type} [DecidableEq α] : ∀ {l m : List α}, l.Nodup → (∀ x ∈ l, x ∈ m) → l.length ≤ m.length
  | [], _, _, _ => Nat.zero_le _
  | x :: r, m, h, q => by
    have hx := q x List.mem_cons_self
    have h := List.nodup_cons.mp h
    have := holds (l := r) (m := m.erase x) h.2 fun y hy => (List.mem_erase_of_ne (fun z => h.1 (by rw [← z]; exact hy))).mpr (q y (List.mem_cons_of_mem _ hy))
    rw [List.length_erase_of_mem hx] at this
    have : 1 ≤ m.length := List.length_pos_of_mem hx
    rw [List.length_cons]
    omega
noncomputable def drI (b n m : Int) : Int := (((b.fmod 2147483629 * 48271 + n * 69621 + 12345).fmod 2147483647 * 2147483587 + ((b.fmod 2147483629 * 48271 + n * 69621 + 12345).fmod 2147483647 * (b.fmod 2147483629 * 48271 + n * 69621 + 12345).fmod 2147483647 + n * 40692).fmod 2147483587).fdiv 32).fmod m
/-- from where on the first number is 69621 for each draw -/
noncomputable def farN (b : Int) : Int := 2147483587 * (((2147483647 - (b.fmod 2147483629 * 48271 + 12345) % 2147483647) * 631919809) % 2147483647) + 2147483647 * 2147483587
theorem farN_lo (b : Int) : 2147483647 * 2147483587 ≤ farN b := by
  unfold farN
  generalize b.fmod 2147483629 = x
  omega
theorem farN_hi (b : Int) : farN b ≤ 2 * (2147483647 * 2147483587) := by
  unfold farN
  generalize b.fmod 2147483629 = x
  omega
theorem far_first (b : Int) (j : Nat) : (b.fmod 2147483629 * 48271 + (farN b + j) * 69621 + 12345).fmod 2147483647 = ((69621 * j % 2147483647 : Nat) : Int) := by
  unfold farN
  generalize b.fmod 2147483629 = x
  rw [Int.fmod_eq_emod_of_nonneg _ (by decide)]
  generalize hs : 2147483647 - (x * 48271 + 12345) % 2147483647 = s
  generalize ht : s * 631919809 % 2147483647 = t
  omega
theorem far_second (b : Int) (j y : Nat) : ((y : Int) * y + (farN b + j) * 40692).fmod 2147483587 = ((y * y + 40692 * j) % 2147483587 : Nat) := by
  unfold farN
  rw [Int.fmod_eq_emod_of_nonneg _ (by decide), ← Int.natCast_mul]
  generalize y * y = z
  generalize (((2147483647 : Int) - (b.fmod 2147483629 * 48271 + 12345) % 2147483647) * 631919809) % 2147483647 = t
  omega
theorem drI_far (b : Int) (j m : Nat) : drI b (farN b + j) m = (wdr j m : Nat) := by
  unfold drI
  rw [far_first, far_second]
  generalize hy : 69621 * j % 2147483647 = y
  generalize hz : (y * y + 40692 * j) % 2147483587 = z
  unfold wdr
  rw [hy, hz, Int.fmod_eq_emod_of_nonneg _ (Int.natCast_nonneg _), Int.fdiv_eq_ediv_of_nonneg _ (by decide), show ((y : Int) * 2147483587 + (z : Nat)) / 32 = (((y * 2147483587 + z) / 32 : Nat) : Int) by omega]
  exact (Int.natCast_emod _ _).symm
theorem ifd_b {c : SD → ER Bool} {a b : SD → ER D} {sd sd1 : SD} {u : Bool} (h : c sd = .ok u sd1) : mIf c a b sd = if u = true then a sd1 else b sd1 := by
  unfold mIf; rw [h]; rfl
theorem tup_v {a : SD → ER (List D)} {sd sd1 : SD} {xs : List D} (ha : a sd = .ok xs sd1) (hl : xs.length ≤ 16777216) : mTup a sd = .ok (.tup xs) sd1 := by
  unfold mTup
  rw [ha]
  simp only [ER.bind]
  rw [if_pos hl]
theorem call0_v {f : List OT → ER OT} {a : SD → ER (List D)} {sd sd1 s2 : SD} {xs : List D} {t : OT} (ha : a sd = .ok xs sd1) (hf : f (xs.map .fz) = .ok t s2) : mCall0 f a sd = .ok t sd1 := by
  unfold mCall0
  rw [ha]
  simp only [ER.bind]
  rw [hf]
theorem ret_o {m : SD → ER OT} {sd sd1 : SD} {t : OT} (h : m sd = .ok t sd1) : sRet m sd = .rt t sd1 := by
  unfold sRet; rw [h]; rfl
theorem ilst_v {m : SD → ER D} {sd sd1 : SD} {xs : List D} (h : m sd = .ok (.lst xs) sd1) : iLst m sd = .ok xs sd1 := by
  unfold iLst; rw [h]; rfl
theorem def_rt {n : Nat} {body : SD → Fl} {ts : List OT} {sd0 sd : SD} {t : OT} (ent : entry n ts = sd0) (h : body sd0 = .rt t sd) : asDef n body ts = .ok t ⟨[], sd.pa⟩ := by
  unfold asDef; rw [ent, h]
theorem test_v {a : SD → ER D} {sd sd1 : SD} {v : Bool} (h : a sd = .ok (.bl v) sd1) : mTest a sd = .ok v sd1 := by
  unfold mTest; rw [h]; rfl
theorem go_one {g : D → SD → Option SD} {body : SD → Fl} {d : D} {r : List D} {sd sda sdb : SD} (h1 : g d sd = some sda) (h2 : body sda = .nx sdb) : goFor g body (d :: r) sd = goFor g body r sdb := by
  rw [goFor, h1]
  dsimp only
  rw [h2]
theorem vwt_v {m : SD → ER OT} {sd sd1 : SD} {t : OT} (h : m sd = .ok t sd1) : mView m sd = .ok t.view sd1 := by
  unfold mView; rw [h]; rfl
theorem fzo_v {m : SD → ER OT} {sd sd1 : SD} {t : OT} (h : m sd = .ok t sd1) : mFz m sd = .ok (.fz t.view) sd1 := own_v (vwt_v h)
theorem view_ol (xs : List D) : (OT.ol (xs.map OT.fz)).view = .lst xs := by rw [OT.view, views_fz]
theorem bm_v {t : D → Bool} {f : D → List D → Option D} {a : SD → ER D} {b : SD → ER (List D)} {sd sd1 sd2 : SD} {x y : D} {xs : List D} (ha : a sd = .ok x sd1) (ht : t x = true) (hb : b sd1 = .ok xs sd2) (hf : f x xs = some y) : mBm t f a b sd = .ok y sd2 := by
  unfold mBm
  rw [ha]
  show (if t x = true then _ else _) = _
  rw [if_pos ht]
  show (b sd1).bind _ = _
  rw [hb]
  show ER.opt (f x xs) sd2 = _
  rw [hf]
  rfl
theorem eqV_S (l m : List Nat) : eqV (.str (W l)) (.str (W m)) = decide (l = m) := by
  show (W l == W m) = _
  by_cases h : l = m
  · subst h; simp
  · rw [decide_eq_false h]
    exact beq_eq_false_iff_ne.mpr fun z => h ((W_iff l m).mp z)
theorem flsOf_ws : ∀ ws : List (List Nat), flsOf (WsD ws) = some (ws.map fun w => V.str (W w))
  | [] => rfl
  | w :: r => by
    show (some (V.str (W w))).bind (fun v => (flsOf (WsD r)).map (v :: ·)) = _
    rw [flsOf_ws r]
    rfl
theorem inV_ws (w : List Nat) : ∀ ws : List (List Nat), inV (.str (W w)) (ws.map fun w => V.str (W w)) = decide (w ∈ ws)
  | [] => rfl
  | x :: r => by
    have ih := inV_ws w r
    unfold inV at ih ⊢
    rw [List.map_cons, List.any_cons, ih, eqV_S]
    by_cases h : x = w
    · subst h; simp
    · have h' : ¬ w = x := fun z => h z.symm
      simp [h, h']
theorem in_ws (neg : Bool) (w : List Nat) (ws : List (List Nat)) : dIn neg (.str (W w)) (.lst (WsD ws)) = some (.bl (decide (w ∈ ws) != neg)) := by
  show (some (V.str (W w))).bind (fun v => (some (WsD ws)).bind fun ds => (flsOf ds).map fun vs => D.bl (inV v vs != neg)) = _
  show ((flsOf (WsD ws)).map fun vs => D.bl (inV (.str (W w)) vs != neg)) = _
  rw [flsOf_ws]
  show some (D.bl (inV (.str (W w)) (ws.map fun w => V.str (W w)) != neg)) = _
  rw [inV_ws]
theorem strsOf_ws : ∀ ws : List (List Nat), strsOf (WsD ws) = some (ws.map W)
  | [] => rfl
  | w :: r => by
    show (strsOf (D.str (W w) :: WsD r)) = _
    rw [strsOf, strsOf_ws r]
    rfl
theorem sum_le (L : Nat) : ∀ ws : List (List Nat), (∀ w ∈ ws, w.length ≤ L) → ((ws.map W).map (·.length)).sum ≤ L * ws.length
  | [], _ => Nat.zero_le _
  | w :: r, h => by
    have := h w (by simp)
    have ih := sum_le L r fun x hx => h x (List.mem_cons_of_mem _ hx)
    rw [List.map_cons, List.map_cons, List.sum_cons, W_len, List.length_cons, Nat.mul_succ]
    omega
theorem joinW (sl : List Nat) (ws : List (List Nat)) : Txt.join (W sl) (ws.map W) = W (TL.joinL sl ws) := TL.ext_tl (by
  rw [TL.join_eq, TL.tl_join, map_tl_W]
  rfl)
theorem textW (ws : List (List Nat)) : textOf ws = W (TL.joinL [32] ws) := joinW [32] ws
theorem join_d {sl : List Nat} {ws : List (List Nat)} {L : Nat} (h : ∀ w ∈ ws, w.length ≤ L) (hl : (L + sl.length) * ws.length ≤ 16777216) : dJoin (.str (W sl)) [.lst (WsD ws)] = some (.str (W (TL.joinL sl ws))) := by
  show (strsOf (WsD ws)).bind (fun ys => if (ys.map (·.length)).sum + ys.length * (W sl).length ≤ 16777216 then some (D.str (Txt.join (W sl) ys)) else none) = _
  rw [strsOf_ws]
  have := sum_le L ws h
  rw [Nat.add_mul] at hl
  have e : ws.length * sl.length = sl.length * ws.length := Nat.mul_comm _ _
  show (if ((ws.map W).map (·.length)).sum + (ws.map W).length * (W sl).length ≤ 16777216 then some (D.str (Txt.join (W sl) (ws.map W))) else none) = _
  rw [if_pos (by rw [List.length_map, W_len]; omega), joinW]
theorem goComp_inv {β : Type} {g : D → SD → Option SD} {elt : SD → ER D} {vs : List Nat} (f : β → D) (I : List β → SD → Prop) (N : Nat) (hN : N ≤ 16777216) : ∀ (xs : List D) (acc : List β) (sd : SD), acc.length + xs.length ≤ N → I acc (sd.wipe vs) →
    (∀ d ∈ xs, ∀ acc s, acc.length < N → I acc s → ∃ sda b sdb, g d s = some sda ∧ elt sda = .ok (f b) sdb ∧ I (acc ++ [b]) (sdb.wipe vs)) →
    ∃ (res : List β) (sd' : SD), goComp g mYes elt vs xs (acc.map f) sd = .ok (res.map f) sd' ∧ res.length = acc.length + xs.length ∧ I res (sd'.wipe vs)
  | [], acc, sd, _, hI, _ => ⟨acc, sd, by rw [goComp], rfl, hI⟩
  | d :: r, acc, sd, hl, hI, h => by
    obtain ⟨sda, b, sdb, h1, h2, h3⟩ := h d (by simp) acc _ (by rw [List.length_cons] at hl; omega) hI
    rw [List.length_cons] at hl
    obtain ⟨res, sd', q1, q2, q3⟩ := goComp_inv f I N hN r (acc ++ [b]) sdb (by rw [List.length_append]; show acc.length + 1 + r.length ≤ _; omega) h3 fun d hd => h d (List.mem_cons_of_mem _ hd)
    refine ⟨res, sd', ?_, by simp at q2 ⊢; omega, q3⟩
    rw [goComp, h1]
    dsimp only
    simp only [mYes, ER.calm, ER.bind, if_true, h2]
    rw [if_pos (by rw [List.length_map]; omega)]
    rw [List.map_append] at q1
    exact q1
theorem mComp_inv {β : Type} {mi : SD → ER (List D)} {g : D → SD → Option SD} {elt : SD → ER D} {vs : List Nat} {sd sd1 : SD} (xs : List D) (f : β → D) (I : List β → SD → Prop) (hi : mi sd = .ok xs sd1) (hl : xs.length ≤ 16777216) (h0 : I [] (sd1.wipe vs))
    (h : ∀ d ∈ xs, ∀ acc s, acc.length < xs.length → I acc s → ∃ sda b sdb, g d s = some sda ∧ elt sda = .ok (f b) sdb ∧ I (acc ++ [b]) (sdb.wipe vs)) :
    ∃ (res : List β) (sd' : SD), mComp mi g mYes elt vs sd = .ok (.ol ((res.map f).map .fz)) (sd'.back sd1 vs) ∧ res.length = xs.length ∧ I res (sd'.wipe vs) := by
  obtain ⟨res, sd', q1, q2, q3⟩ := goComp_inv f I xs.length hl xs [] sd1 (by simp) h0 h
  refine ⟨res, sd', ?_, by simpa using q2, q3⟩
  unfold mComp
  rw [hi]
  show (goComp g mYes elt vs xs ([].map f) sd1).bind _ = _
  rw [q1]
  rfl
noncomputable def BX (a b c : Int) : OT := .ol [.fz (.int a), .fz (.int b), .fz (.int c)]
noncomputable def pkv (a b c m : Int) : Int := if 0 < a then a.fmod m else drI b (c + 1) m
noncomputable def pka (a m : Int) : Int := if 0 < a then a.fdiv m else a
theorem pick_ex (cs : Nat → Addr) {a b c m : Int} (hc : 0 ≤ c) (hc2 : c < 2 ^ 64) (h1 : 0 < m) (h2 : m.natAbs < 2 ^ 8000) : m__law_pick cs [BX a b c, .fz (.int m)] = .ok (.fz (.int (pkv a b c m))) ⟨[], [BX (pka a m) b (c + 1), .fz (.int m)]⟩ := by
  have hm0 : ¬ m = 0 := by omega
  unfold pkv pka BX
  by_cases ha : 0 < a
  · have e1 := div_ok (i := a) h2 hm0 (by decide)
    simp [m__law_pick_1, m__law_pick_2, m__law_pick_3, m__law_pick_4, m__law_pick_5, m__law_pick_6, m__law_pick_7, m__law_pick_8, m__law_pick, -List.map_map, -List.map_take, -List.map_drop, -List.map_append, -List.map_reverse, asDef, entry, slotsOf, sSeq, sSet, sRet, sIf, sDrop, sNil, sBreak, sCont, sApp, sSetAt, setEnd, sAug, sAsg, sPar, mVar, mSee, mFrz, mTake, mC, mUn, mOp, mNil, mCons, mCall, mCallL, mTup, mLst, mView, mOwn, mFz, mTest, mAnd, mOr, mNot, mIf, mAndV, mOrV, mNotV, mChain, mAt, qSee, qFz, qNew, oNone, oSome, rNil, rSlot, rFz, mCall0, mCall1, oneSlot, noSlot, treesOf, SD.tree, SD.put, SD.putFz, tgN, tgNil, tgCons, tgT, ER.bind, ER.opt, ER.stm, Fl.seq, OT.view, OT.views, OT.items, fzOf, iLst, iTuP, iRange1, iRange2, iZip2, iEnumL, dIx, atI, ixN, dAdd, dSub, dNeg, dLt, dLe, dGt, dGe, dIsN, dNotN, isNonD, dEq, dNe, eqB_int, eqB_str, eqB_bl, eq_2, eq_3, dLen, dIsi, D.isA, tyName, dMod, dMax, dMin, mAtS, mBm, D.isL, D.isS, ha, hm0, e1]
  · unfold drI
    obtain ⟨x, hx⟩ : ∃ x, x = b.fmod 2147483629 := ⟨_, rfl⟩
    have x0 : 0 ≤ x := by rw [hx]; exact Int.fmod_nonneg_of_pos _ (by decide)
    have x1 : x < 2147483629 := by rw [hx]; exact Int.fmod_lt_of_pos _ (by decide)
    have m1 : dMul (.int x) (.int 48271) = some (.int (x * 48271)) := mul_ok (a := 100) (b := 100) (by omega) (by decide) (by decide)
    have m2 : dMul (.int (c + 1)) (.int 69621) = some (.int ((c + 1) * 69621)) := mul_ok (a := 100) (b := 100) (by omega) (by decide) (by decide)
    have m3 : dMul (.int (c + 1)) (.int 40692) = some (.int ((c + 1) * 40692)) := mul_ok (a := 100) (b := 100) (by omega) (by decide) (by decide)
    obtain ⟨y, hy⟩ : ∃ y, y = (x * 48271 + (c + 1) * 69621 + 12345).fmod 2147483647 := ⟨_, rfl⟩
    have y0 : 0 ≤ y := by rw [hy]; exact Int.fmod_nonneg_of_pos _ (by decide)
    have y1 : y < 2147483647 := by rw [hy]; exact Int.fmod_lt_of_pos _ (by decide)
    have m4 : dMul (.int y) (.int y) = some (.int (y * y)) := mul_ok (a := 100) (b := 100) (by omega) (by omega) (by decide)
    have m5 : dMul (.int y) (.int 2147483587) = some (.int (y * 2147483587)) := mul_ok (a := 100) (b := 100) (by omega) (by decide) (by decide)
    have d1 : ∀ z : Int, dDiv (.int z) (.int 32) = some (.int (z.fdiv 32)) := fun z => div_ok (a := 30) (by decide) (by decide) (by decide)
    simp [m__law_pick_1, m__law_pick_2, m__law_pick_3, m__law_pick_4, m__law_pick_5, m__law_pick_6, m__law_pick_7, m__law_pick_8, m__law_pick, -List.map_map, -List.map_take, -List.map_drop, -List.map_append, -List.map_reverse, asDef, entry, slotsOf, sSeq, sSet, sRet, sIf, sDrop, sNil, sBreak, sCont, sApp, sSetAt, setEnd, sAug, sAsg, sPar, mVar, mSee, mFrz, mTake, mC, mUn, mOp, mNil, mCons, mCall, mCallL, mTup, mLst, mView, mOwn, mFz, mTest, mAnd, mOr, mNot, mIf, mAndV, mOrV, mNotV, mChain, mAt, qSee, qFz, qNew, oNone, oSome, rNil, rSlot, rFz, mCall0, mCall1, oneSlot, noSlot, treesOf, SD.tree, SD.put, SD.putFz, tgN, tgNil, tgCons, tgT, ER.bind, ER.opt, ER.stm, Fl.seq, OT.view, OT.views, OT.items, fzOf, iLst, iTuP, iRange1, iRange2, iZip2, iEnumL, dIx, atI, ixN, dAdd, dSub, dNeg, dLt, dLe, dGt, dGe, dIsN, dNotN, isNonD, dEq, dNe, eqB_int, eqB_str, eqB_bl, eq_2, eq_3, dLen, dIsi, D.isA, tyName, dMod, dMax, dMin, mAtS, mBm, D.isL, D.isS, ha, hm0, ← hx, m1, m2, m3, ← hy, m4, m5, d1]
theorem pick_exc (cs : Nat → Addr) {i : Nat} {e : SD → ER D} {sd sd1 : SD} {t0 : OT} {a b c m : Int} (he : e sd = .ok (.int m) sd1) (h0 : sd.tree i = some t0) (h1 : sd1.tree i = some (BX a b c)) (hc : 0 ≤ c) (hc2 : c < 2 ^ 64) (hm : 0 < m) (hm2 : m.natAbs < 2 ^ 8000) : mView (mCall1 (m__law_pick cs) (rSlot i (rFz e rNil))) sd = .ok (.int (pkv a b c m)) (sd1.put i (BX (pka a m) b (c + 1))) := by
  unfold mView
  rw [call_bag he h0 h1 (pick_ex cs hc hc2 hm hm2) rfl]
  rfl
theorem pkv_in {a b c m : Int} (hm : 0 < m) : 0 ≤ pkv a b c m ∧ pkv a b c m < m := by
  unfold pkv drI
  split
  · exact ⟨Int.fmod_nonneg_of_pos _ hm, Int.fmod_lt_of_pos _ hm⟩
  · exact ⟨Int.fmod_nonneg_of_pos _ hm, Int.fmod_lt_of_pos _ hm⟩
theorem pka_nn {a m : Int} (ha : 0 ≤ a) (hm : 2 ≤ m) : 0 ≤ pka a m := by
  unfold pka
  split
  · rw [Int.fdiv_eq_ediv_of_nonneg _ (by omega)]
    exact Int.ediv_nonneg ha (by omega)
  · exact ha
theorem pka_lt {a m : Int} {e : Nat} (ha : 0 ≤ a) (hm : 2 ≤ m) (h : a < 2 ^ (e + 1)) : pka a m < 2 ^ e := by
  have h2 : (2 : Int) ^ (e + 1) = 2 ^ e * 2 := Int.pow_succ ..
  have hp : (0 : Int) < 2 ^ e := Int.pow_pos (by decide)
  unfold pka
  split
  · rw [Int.fdiv_eq_ediv_of_nonneg _ (by omega)]
    refine Int.ediv_lt_of_lt_mul (by omega) (Int.lt_of_lt_of_le h ?_)
    rw [h2]
    exact Int.mul_le_mul_of_nonneg_left hm (Int.le_of_lt hp)
  · omega
theorem pkv_far (b : Int) (o m : Nat) : pkv 0 b (farN b + o) m = (wdr (o + 1) m : Nat) := by
  unfold pkv
  rw [if_neg (by decide), ← drI_far, show farN b + (o : Int) + 1 = farN b + ((o + 1 : Nat) : Int) by omega]
theorem wls_snoc : ∀ (n j : Nat), wls (n + 1) j = wls n j ++ [wlt (j + 2 * n)]
  | 0, j => rfl
  | n + 1, j => by
    have ih := wls_snoc n (j + 2)
    show wlt j :: wls (n + 1) (j + 2) = (wlt j :: wls n (j + 2)) ++ _
    rw [ih, List.cons_append, show j + 2 * (n + 1) = j + 2 + 2 * n by omega]
noncomputable def abc : List Nat := [97, 98, 99, 100, 101, 102, 103, 104, 105, 106, 107, 108, 109, 110, 111, 112, 113, 114, 115, 116, 117, 118, 119, 120, 121, 122]
theorem lit_abc : Str.ofString "abcdefghijklmnopqrstuvwxyz" = W abc := lit_ _ _ rfl
theorem abc_at : ∀ v < 26, atI abc (v : Nat) = some (97 + v) := by decide
structure NmOk (w : List Nat) : Prop where
  lo : 2 ≤ w.length
  hi : w.length ≤ 8
  ab : ∀ c ∈ w, 97 ≤ c ∧ c ≤ 122
noncomputable def nS (t : OT) (many : Nat) (found : List (List Nat)) (x3 x4 x5 : S) : SD := ⟨[.pa 0, .ow (.fz (.int many)), .ow (.ol ((WsD found).map .fz)), x3, x4, x5], [t, .fz (.int many)]⟩
theorem ns_tree (a b c : Int) (many : Nat) (found : List (List Nat)) (x3 x4 x5 : S) : (nS (BX a b c) many found x3 x4 x5).tree 0 = some (BX a b c) := rfl
theorem ns_put (a b c : Int) (t : OT) (many : Nat) (found : List (List Nat)) (x3 x4 x5 : S) : (nS t many found x3 x4 x5).put 0 (BX a b c) = nS (BX a b c) many found x3 x4 x5 := rfl
theorem big8 {m : Nat} (h : m ≤ 1000000) : m < 2 ^ 8000 := by
  have : (2 : Nat) ^ 8000 ≥ 2 ^ 20 := Nat.pow_le_pow_right (by decide) (by decide)
  have : (2 : Nat) ^ 20 = 1048576 := by decide
  omega
/-- a letter -/
theorem letter_v (cs : Nat → Addr) {a b c : Int} {many : Nat} {found : List (List Nat)} {x3 x4 x5 : S} (ha : 0 ≤ a) (hc : 0 ≤ c) (hc2 : c + 2 < 2 ^ 64) : ∃ (ch : Nat) (a' : Int), (97 ≤ ch ∧ ch ≤ 122) ∧ 0 ≤ a' ∧ (∀ e : Nat, a < 2 ^ (e + 2) → a' < 2 ^ e) ∧ (a = 0 → ∀ o : Nat, c = farN b + o → ch = wlt o) ∧
    mOp dIx (mC (.str "abcdefghijklmnopqrstuvwxyz")) (mView (mCall1 (m__law_pick cs) (rSlot 0 (rFz (mOp dIx (mView (mLst (mCons (mC (.int 3)) (mCons (mC (.int 26)) (mNil))))) (mView (mCall1 (m__law_pick cs) (rSlot 0 (rFz (mC (.int 2)) (rNil)))))) (rNil))))) (nS (BX a b c) many found x3 x4 x5) = .ok (.str (W [ch])) (nS (BX a' b (c + 2)) many found x3 x4 x5) := by
  have p1 := pick_exc cs (e := mC (.int 2)) (i := 0) (sd := nS (BX a b c) many found x3 x4 x5) (sd1 := nS (BX a b c) many found x3 x4 x5) (m := 2) rfl (ns_tree ..) (ns_tree ..) hc (by omega) (by decide) (big8 (by decide))
  rw [ns_put] at p1
  obtain ⟨k0, k1⟩ := pkv_in (a := a) (b := b) (c := c) (m := 2) (by decide)
  generalize hk : pkv a b c 2 = k at *
  have an := pka_nn (m := 2) ha (by decide)
  have al := fun e => pka_lt (m := 2) (e := e + 1) ha (by decide)
  generalize ha1 : pka a 2 = a1 at *
  obtain ⟨m, hm, hm2, hm3⟩ : ∃ m : Nat, (m = if k = 0 then 3 else 26) ∧ dIx (.lst [.int 3, .int 26]) (.int k) = some (.int m) ∧ (m = 3 ∨ m = 26) := by
    have : k = 0 ∨ k = 1 := by omega
    rcases this with rfl | rfl
    · exact ⟨3, rfl, rfl, .inl rfl⟩
    · exact ⟨26, rfl, rfl, .inr rfl⟩
  have l1 : mView (mLst (mCons (mC (.int 3)) (mCons (mC (.int 26)) mNil))) (nS (BX a b c) many found x3 x4 x5) = .ok (.lst [.int 3, .int 26]) (nS (BX a b c) many found x3 x4 x5) := lst_v (cons_v rfl (cons_v rfl rfl)) (by decide)
  have o1 := op_v l1 p1 hm2
  have p2 := pick_exc cs (i := 0) (m := m) o1 (ns_tree ..) (ns_tree ..) (by omega) (by omega) (by omega) (by rw [Int.natAbs_natCast]; exact big8 (by omega))
  rw [ns_put] at p2
  obtain ⟨v0, v1⟩ := pkv_in (a := a1) (b := b) (c := c + 1) (m := m) (by omega)
  have an2 := pka_nn (m := m) an (by omega)
  have al2 := fun e => pka_lt (m := m) (e := e) an (by omega)
  refine ⟨97 + (pkv a1 b (c + 1) m).toNat, pka a1 m, by omega, an2, fun e h => al2 e (al e h), fun h0 o ho => ?_, ?_⟩
  · subst h0
    have e1 : a1 = 0 := by rw [← ha1]; rfl
    rw [e1, ho, show farN b + (o : Int) + 1 = farN b + ((o + 1 : Nat) : Int) by omega, pkv_far, Int.toNat_natCast, hm]
    rw [ho, show (2 : Int) = ((2 : Nat) : Int) from rfl, pkv_far] at hk
    unfold wlt
    congr 2
    by_cases z : k = 0
    · rw [if_pos z, if_pos (by omega)]
    · rw [if_neg z, if_neg (by omega)]
  · rw [show c + 2 = c + 1 + 1 by omega]
    refine op_v (x := .str (W abc)) (by rw [← lit_abc]; rfl) p2 ?_
    have hv : (pkv a1 b (c + 1) m).toNat < 26 := by omega
    have at1 := abc_at _ hv
    rw [Int.toNat_of_nonneg v0] at at1
    show (if (W abc).length ≤ 16777216 then (atI abc (pkv a1 b (c + 1) m)).map (fun c => D.str ⟨#[c]⟩) else none) = _
    rw [if_pos (by rw [W_len]; decide), at1]
    rfl
theorem irange_v {a : SD → ER (List D)} {sd sd1 : SD} {j : Int} (h : a sd = .ok [.int j] sd1) (h0 : 0 ≤ j) (h1 : j < 2 ^ 62) : iRange1 a sd = .ok ((List.range j.toNat).map fun i : Nat => D.int (0 + (i : Int))) sd1 := by
  unfold iRange1
  rw [h]
  show (if -(2 ^ 62) ≤ j ∧ j < 2 ^ 62 then ER.ok (rangeD 0 j.toNat) sd1 else .bad) = _
  rw [if_pos ⟨by omega, h1⟩]
  rfl
theorem range_v {a : SD → ER D} {sd sd1 : SD} {n : Nat} (h : a sd = .ok (.int n) sd1) (hn : (n : Int) < 2 ^ 62) : iRange1 (mCons a mNil) sd = .ok ((List.range n).map fun i : Nat => D.int (0 + (i : Int))) sd1 := by
  have e := irange_v (cons_v h (r := mNil) rfl) (Int.natCast_nonneg n) hn
  rw [Int.toNat_natCast] at e
  exact e
theorem back_of {sd s sd1 : SD} {v : Nat} (h : sd.wipe [v] = s) : sd.back sd1 [v] = { s with sl := s.sl.set v ((sd1.sl[v]?).getD .un) } := by
  subst h
  show SD.mk (sd.sl.set v _) sd.pa = SD.mk ((sd.sl.set v .un).set v _) sd.pa
  rw [List.set_set]
/-- the word of so many letters -/
theorem word_v (cs : Nat → Addr) {a b c : Int} {many size : Nat} {found : List (List Nat)} {x4 x5 : S} (ha : 0 ≤ a) (hc : 0 ≤ c) (hc2 : c + 16 < 2 ^ 64) (hs : size ≤ 8) : ∃ (w : List Nat) (a' : Int), w.length = size ∧ (∀ ch ∈ w, 97 ≤ ch ∧ ch ≤ 122) ∧ 0 ≤ a' ∧ (∀ e : Nat, a < 2 ^ (e + 2 * size) → a' < 2 ^ e) ∧ (a = 0 → ∀ o : Nat, c = farN b + o → w = wls size o) ∧
    ∃ y5, m__law_names_c1 cs (nS (BX a b c) many found (.ow (.fz (.int size))) x4 x5) = .ok (.ol ((w.map fun ch => D.str (W [ch])).map .fz)) (nS (BX a' b (c + 2 * size)) many found (.ow (.fz (.int size))) x4 y5) := by
  let T := fun (a c : Int) (x5 : S) => nS (BX a b c) many found (.ow (.fz (.int size))) x4 x5
  have hi : iRange1 (mCons (mVar 3) mNil) (T a c x5) = .ok ((List.range size).map fun i : Nat => D.int (0 + (i : Int))) (T a c x5) := range_v rfl (by omega)
  have e0 : (T a c x5).wipe [5] = T a (c + 2 * (([] : List Nat).length : Int)) .un := by
    show T a c .un = T a (c + 2 * ((0 : Nat) : Int)) .un
    rw [show c + 2 * ((0 : Nat) : Int) = c by omega]
  obtain ⟨res, sd', q1, q2, a', q3, q4, q5, q6, q7⟩ := mComp_inv (sd := T a c x5) (sd1 := T a c x5) (mi := iRange1 (mCons (mVar 3) mNil)) (g := tgN 5) (elt := mOp dIx (mC (.str "abcdefghijklmnopqrstuvwxyz")) (mView (mCall1 (m__law_pick cs) (rSlot 0 (rFz (mOp dIx (mView (mLst (mCons (mC (.int 3)) (mCons (mC (.int 26)) (mNil))))) (mView (mCall1 (m__law_pick cs) (rSlot 0 (rFz (mC (.int 2)) (rNil)))))) (rNil)))))) (vs := [5]) ((List.range size).map fun i : Nat => D.int (0 + (i : Int))) (fun ch => D.str (W [ch]))
    (fun acc s => ∃ a' : Int, s = T a' (c + 2 * acc.length) .un ∧ 0 ≤ a' ∧ (∀ ch ∈ acc, 97 ≤ ch ∧ ch ≤ 122) ∧ (∀ e : Nat, a < 2 ^ (e + 2 * acc.length) → a' < 2 ^ e) ∧ (a = 0 → ∀ o : Nat, c = farN b + o → acc = wls acc.length o)) hi (by simp; omega)
    ⟨a, e0, ha, by simp, fun e h => h, fun _ _ _ => rfl⟩ fun d hd acc s hl hI => by
      obtain ⟨k, hk, rfl⟩ := List.mem_map.mp hd
      obtain ⟨a1, rfl, h1, h2, h3, h4⟩ := hI
      rw [List.length_map, List.length_range] at hl
      obtain ⟨ch, a2, g1, g2, g3, g4, g5⟩ := letter_v cs (a := a1) (b := b) (c := c + 2 * acc.length) (many := many) (found := found) (x3 := .ow (.fz (.int size))) (x4 := x4) (x5 := .ow (.fz (.int (0 + (k : Int))))) h1 (by omega) (by omega)
      refine ⟨T a1 (c + 2 * acc.length) (.ow (.fz (.int (0 + (k : Int))))), ch, _, rfl, g5, a2, ?_, g2, ?_, ?_, ?_⟩
      · rw [List.length_append, List.length_singleton, show c + 2 * ((acc.length + 1 : Nat) : Int) = c + 2 * acc.length + 2 by omega]
        rfl
      · intro x hx
        rcases List.mem_append.mp hx with hx | hx
        · exact h2 x hx
        · rw [List.mem_singleton.mp hx]; exact g1
      · intro e h
        rw [List.length_append, List.length_singleton] at h
        exact g3 e (h3 (e + 2) (by rw [show e + 2 + 2 * acc.length = e + 2 * (acc.length + 1) by omega]; exact h))
      · intro h0 o ho
        have a10 : a1 = 0 := by
          have := h3 0 (by rw [h0]; exact Int.pow_pos (by decide))
          have : (2 : Int) ^ 0 = 1 := rfl
          omega
        rw [List.length_append, List.length_singleton, wls_snoc, ← h4 h0 o ho, g4 a10 (o + 2 * acc.length) (by omega)]
  rw [List.length_map, List.length_range] at q2
  rw [q2] at q3 q6
  refine ⟨res, a', q2, q5, q4, q6, fun h0 o ho => by rw [q7 h0 o ho, q2], x5, ?_⟩
  rw [back_of q3] at q1
  exact q1
theorem app_o {i : Nat} {m : SD → ER OT} {sd sd1 : SD} {ts0 ts : List OT} {t : OT} (h0 : sd.tree i = some (.ol ts0)) (h : m sd = .ok t sd1) (h1 : sd1.tree i = some (.ol ts)) (hl : ts.length < 16777216) : sApp i m sd = .nx (sd1.put i (.ol (ts ++ [t]))) := by
  unfold sApp
  rw [h0]
  dsimp only
  rw [h]
  show (match sd1.tree i with
    | some (.ol ts) => if ts.length < 16777216 then Fl.nx (sd1.put i (.ol (ts ++ [t]))) else .bad
    | _ => .bad) = _
  rw [h1]
  dsimp only
  rw [if_pos hl]
theorem joinL_nil : ∀ w : List Nat, TL.joinL [] (w.map fun c => [c]) = w
  | [] => rfl
  | [c] => rfl
  | c :: d :: r => by
    show [c] ++ ([] ++ TL.joinL [] ((d :: r).map fun c => [c])) = _
    rw [joinL_nil (d :: r)]
    rfl
theorem ns_see (t : OT) (many : Nat) (found : List (List Nat)) (x3 x4 x5 : S) : mSee 2 (nS t many found x3 x4 x5) = .ok (.lst (WsD found)) (nS t many found x3 x4 x5) := by
  show ER.ok (OT.view (.ol _)) _ = _
  rw [OT.view, views_fz]
theorem round_ok (cs : Nat → Addr) {a b c : Int} {many : Nat} {found : List (List Nat)} {x3 x4 x5 : S} (ha : 0 ≤ a) (hc : 0 ≤ c) (hc2 : c + 32 < 2 ^ 64) (hf : found.length ≤ 1000) :
    ∃ (size : Nat) (w : List Nat) (a' : Int) (y3 y4 y5 : S), 2 ≤ size ∧ size ≤ 8 ∧ w.length = size ∧ (∀ ch ∈ w, 97 ≤ ch ∧ ch ≤ 122) ∧ 0 ≤ a' ∧ (∀ e : Nat, a < 2 ^ (e + 1) → a' < 2 ^ e) ∧ (a = 0 → a' = 0 ∧ ∀ o : Nat, c = farN b + o → size = szW o ∧ w = nmW o) ∧
      m__law_names_b1 cs (nS (BX a b c) many found x3 x4 x5) = .nx (nS (BX a' b (c + 1 + 2 * size)) many (if w ∈ found then found else found ++ [w]) y3 y4 y5) := by
  have p1 := pick_exc cs (e := mC (.int 7)) (i := 0) (sd := nS (BX a b c) many found x3 x4 x5) (sd1 := nS (BX a b c) many found x3 x4 x5) (m := 7) rfl (ns_tree ..) (ns_tree ..) hc (by omega) (by decide) (big8 (by decide))
  rw [ns_put] at p1
  obtain ⟨k0, k1⟩ := pkv_in (a := a) (b := b) (c := c) (m := 7) (by decide)
  have far : a = 0 → ∀ o : Nat, c = farN b + o → pkv a b c 7 = (wdr (o + 1) 7 : Nat) := fun h0 o ho => by
    rw [h0, ho, show (7 : Int) = ((7 : Nat) : Int) from rfl, pkv_far]
  generalize hv : pkv a b c 7 = v at *
  have an := pka_nn (m := 7) ha (by decide)
  have al := fun e => pka_lt (m := 7) (e := e) ha (by decide)
  have az : a = 0 → pka a 7 = 0 := fun h0 => by rw [h0]; rfl
  generalize ha1 : pka a 7 = a1 at *
  obtain ⟨size, hsz⟩ : ∃ size : Nat, (size : Int) = 2 + v := ⟨(2 + v).toNat, by omega⟩
  have s2 : m__law_names_2 cs (nS (BX a b c) many found x3 x4 x5) = .nx (nS (BX a1 b (c + 1)) many found (.ow (.fz (.int size))) x4 x5) :=
    set_d (l := (nS (BX a1 b (c + 1)) many found x3 x4 x5).sl) (op_v (f := dAdd) (x := .int 2) (z := .int size) rfl p1 (by rw [hsz]; rfl)) (by show 3 < 6; decide)
  obtain ⟨w, a2, w1, w2, w3, w4, w5, y5, e⟩ := word_v cs (a := a1) (b := b) (c := c + 1) (many := many) (size := size) (found := found) (x4 := x4) (x5 := x5) an (by omega) (by omega) (by omega)
  have jn : mBm D.isS dJoin (mC (.str "")) (mCons (mView (m__law_names_c1 cs)) mNil) (nS (BX a1 b (c + 1)) many found (.ow (.fz (.int size))) x4 x5) = .ok (.str (W w)) (nS (BX a2 b (c + 1 + 2 * size)) many found (.ow (.fz (.int size))) x4 y5) := by
    have jd := join_d (sl := []) (ws := w.map fun c => [c]) (L := 1) (fun x hx => by
      obtain ⟨c, _, rfl⟩ := List.mem_map.mp hx
      exact Nat.le_refl _) (by rw [List.length_map]; simp; omega)
    rw [joinL_nil] at jd
    refine bm_v (x := .str (W [])) (xs := [.lst (WsD (w.map fun c => [c]))]) (by rw [← lit_nil]; rfl) rfl (cons_v (r := mNil) (vwt_v e) rfl |>.trans ?_) jd
    rw [view_ol]
    unfold WsD
    rw [List.map_map]
    rfl
  have s3 : m__law_names_3 cs (nS (BX a1 b (c + 1)) many found (.ow (.fz (.int size))) x4 x5) = .nx (nS (BX a2 b (c + 1 + 2 * size)) many found (.ow (.fz (.int size))) (.ow (.fz (.str (W w)))) y5) :=
    set_d (l := (nS (BX a2 b (c + 1 + 2 * size)) many found (.ow (.fz (.int size))) x4 y5).sl) jn (by show 4 < 6; decide)
  have t5 : mTest (mOp (dIn true) (mVar 4) (mSee 2)) (nS (BX a2 b (c + 1 + 2 * size)) many found (.ow (.fz (.int size))) (.ow (.fz (.str (W w)))) y5) = .ok (!decide (w ∈ found)) (nS (BX a2 b (c + 1 + 2 * size)) many found (.ow (.fz (.int size))) (.ow (.fz (.str (W w)))) y5) :=
    op_t (x := .str (W w)) rfl (ns_see ..) (by rw [in_ws]; cases decide (w ∈ found) <;> rfl)
  have s5 : m__law_names_5 cs (nS (BX a2 b (c + 1 + 2 * size)) many found (.ow (.fz (.int size))) (.ow (.fz (.str (W w)))) y5) = .nx (nS (BX a2 b (c + 1 + 2 * size)) many (if w ∈ found then found else found ++ [w]) (.ow (.fz (.int size))) (.ow (.fz (.str (W w)))) y5) := by
    unfold m__law_names_5
    rw [if_b t5]
    by_cases hw : w ∈ found
    · rw [decide_eq_true hw, if_pos hw]
      rfl
    · rw [decide_eq_false hw, if_neg hw, if_pos (show (!false) = true from rfl)]
      show sApp 2 (mOwn (mVar 4)) _ = _
      refine (app_o (i := 2) (sd1 := nS (BX a2 b (c + 1 + 2 * size)) many found (.ow (.fz (.int size))) (.ow (.fz (.str (W w)))) y5) (ts0 := (WsD found).map .fz) (ts := (WsD found).map .fz) rfl (own_v (d := .str (W w)) rfl) rfl (by rw [List.length_map, WsD_len]; omega)).trans ?_
      have : (WsD found).map OT.fz ++ [OT.fz (.str (W w))] = (WsD (found ++ [w])).map OT.fz := by
        rw [WsD_app, List.map_append]; rfl
      rw [this]
      rfl
  refine ⟨size, w, a2, _, _, _, by omega, by omega, w1, w2, w3, fun e h => w4 e (Int.lt_of_lt_of_le (al e h) ?_), fun h0 => ⟨?_, fun o ho => ?_⟩, seq_nx s2 (seq_nx s3 s5)⟩
  · have p : (((2 : Nat) ^ e : Nat) : Int) ≤ (((2 : Nat) ^ (e + 2 * size) : Nat) : Int) := Int.ofNat_le.mpr (Nat.pow_le_pow_right (by decide) (by omega))
    rw [Int.natCast_pow, Int.natCast_pow] at p
    exact p
  · have := w4 0 (by rw [az h0]; exact Int.pow_pos (by decide))
    have : (2 : Int) ^ 0 = 1 := rfl
    omega
  · have f := far h0 o ho
    have hs : size = szW o := by unfold szW; omega
    refine ⟨hs, ?_⟩
    rw [w5 (az h0) (o + 1) (by omega), hs]
    rfl
noncomputable def NI (b : Int) (k many : Nat) (found : List (List Nat)) (a c : Int) : Prop := found.length ≤ many ∧ found.Nodup ∧ (∀ w ∈ found, NmOk w) ∧ 0 ≤ a ∧ 0 ≤ c ∧ (k : Int) = 2 ^ 66 - c ∧
  ((∃ e : Nat, a < 2 ^ e ∧ c + 20 * e ≤ 2 ^ 40) ∨ (a = 0 ∧ (c < farN b ∨ ∃ o i, o < 17 ∧ i ≤ 19 ∧ c = farN b + (chW i o : Nat) ∧ ∀ j < i, nmW (chW j o) ∈ found)))
theorem ni_c {b : Int} {k many : Nat} {found : List (List Nat)} {a c : Int} (h : NI b k many found a c) : c < 2 ^ 63 + 10000 := by
  obtain ⟨_, _, _, _, _, _, h⟩ := h
  have hi := farN_hi b
  rcases h with ⟨e, _, h⟩ | ⟨_, h | ⟨o, i, h1, h2, h3, _⟩⟩
  · omega
  · omega
  · have := chW_le o i
    omega
theorem ni_step {b : Int} {k many : Nat} {found : List (List Nat)} {a c a' : Int} {size : Nat} {w : List Nat} (hm : many ≤ 19) (h : NI b k many found a c) (hlt : found.length < many) (s1 : 2 ≤ size) (s2 : size ≤ 8) (w1 : w.length = size) (w2 : ∀ ch ∈ w, 97 ≤ ch ∧ ch ≤ 122) (ha : 0 ≤ a') (he : ∀ e : Nat, a < 2 ^ (e + 1) → a' < 2 ^ e) (h0 : a = 0 → a' = 0 ∧ ∀ o : Nat, c = farN b + o → size = szW o ∧ w = nmW o) :
    ∃ k2, k2 < k ∧ NI b k2 many (if w ∈ found then found else found ++ [w]) a' (c + 1 + 2 * size) := by
  have cc := ni_c h
  obtain ⟨h1, h2, h3, h4, h5, h6, h7⟩ := h
  have sub : ∀ x ∈ found, x ∈ (if w ∈ found then found else found ++ [w]) := fun x hx => by
    split
    · exact hx
    · exact List.mem_append_left _ hx
  have win : w ∈ (if w ∈ found then found else found ++ [w]) := by
    split
    · assumption
    · simp
  refine ⟨k - (1 + 2 * size), by omega, ?_, ?_, ?_, ha, by omega, by omega, ?_⟩
  · split
    · omega
    · rw [List.length_append, List.length_singleton]; omega
  · split
    · exact h2
    · rename_i hw
      exact List.nodup_append.mpr ⟨h2, by simp, fun x hx y hy => by
        rw [List.mem_singleton] at hy
        subst hy
        exact fun z => hw (z ▸ hx)⟩
  · intro x hx
    split at hx
    · exact h3 x hx
    · rcases List.mem_append.mp hx with hx | hx
      · exact h3 x hx
      · rw [List.mem_singleton.mp hx]
        exact ⟨by omega, by omega, w2⟩
  · have lo := farN_lo b
    rcases h7 with ⟨e, e1, e2⟩ | ⟨e1, h7⟩
    · cases e with
      | zero =>
        have : (2 : Int) ^ 0 = 1 := rfl
        have a0 : a = 0 := by omega
        exact .inr ⟨(h0 a0).1, .inl (by omega)⟩
      | succ e => exact .inl ⟨e, he e e1, by omega⟩
    · refine .inr ⟨(h0 e1).1, ?_⟩
      rcases h7 with h7 | ⟨o, i, o1, i1, o2, o3⟩
      · by_cases hf : c + 1 + 2 * size < farN b
        · exact .inl hf
        · refine .inr ⟨(c + 1 + 2 * size - farN b).toNat, 0, by omega, by omega, ?_, fun j hj => absurd hj (by omega)⟩
          show _ = farN b + (((c + 1 + 2 * size - farN b).toNat : Nat) : Int)
          omega
      · obtain ⟨q1, q2⟩ := (h0 e1).2 (chW i o) o2
        have i2 : i < 19 := by
          apply Classical.byContradiction
          intro z
          have i3 : i = 19 := by omega
          subst i3
          have := holds (names_far o o1) (m := found) fun x hx => by
            obtain ⟨j, hj, rfl⟩ := List.mem_map.mp hx
            exact o3 j (List.mem_range.mp hj)
          have l : (namesW o).length = 19 := by unfold namesW; rw [List.length_map, List.length_range]
          omega
        refine .inr ⟨o, i + 1, o1, i2, ?_, fun j hj => ?_⟩
        · show _ = farN b + ((nxW (chW i o) : Nat) : Int)
          unfold nxW
          rw [← q1]
          omega
        · by_cases z : j = i
          · subst z
            rw [← q2]
            exact win
          · exact sub _ (o3 j (by omega))
theorem names_ok (cs : Nat → Addr) {a b c : Int} {many : Nat} (hm : many ≤ 19) (ha : 0 ≤ a) (ha2 : a < 2 ^ 1050000) (hc : 0 ≤ c) (hc2 : c ≤ 2 ^ 30) :
    ∃ (found : List (List Nat)) (a' c' : Int), found.length = many ∧ found.Nodup ∧ (∀ w ∈ found, NmOk w) ∧ 0 ≤ c' ∧ c' < 2 ^ 63 + 10000 ∧ m__law_names cs [BX a b c, .fz (.int many)] = .ok (.ol ((WsD found).map .fz)) ⟨[], [BX a' b c', .fz (.int many)]⟩ := by
  have cond : ∀ (t : OT) (found : List (List Nat)) (x3 x4 x5 : S), mTest (mOp dLt (mCall dLen (mCons (mSee 2) (mNil))) (mVar 1)) (nS t many found x3 x4 x5) = .ok (decide (found.length < many)) (nS t many found x3 x4 x5) := fun t found x3 x4 x5 =>
    op_t (call_v (cons_v (ns_see ..) rfl) (y := .int found.length) (by show some (D.int (WsD found).length) = _; rw [WsD_len])) (y := .int many) rfl (by
      show some (D.bl (decide ((found.length : Int) < (many : Int)))) = _
      congr 2
      exact decide_eq_decide.mpr (by omega))
  obtain ⟨sd', w1, a', c', found, x3, x4, x5, rfl, e1, e2, e3, e4, e5⟩ := while_go (c := mTest (mOp dLt (mCall dLen (mCons (mSee 2) (mNil))) (mVar 1))) (body := m__law_names_b1 cs)
    (fun k sd => ∃ a c found x3 x4 x5, sd = nS (BX a b c) many found x3 x4 x5 ∧ NI b k many found a c)
    (fun sd => ∃ a c found x3 x4 x5, sd = nS (BX a b c) many found x3 x4 x5 ∧ found.length = many ∧ found.Nodup ∧ (∀ w ∈ found, NmOk w) ∧ 0 ≤ c ∧ c < 2 ^ 63 + 10000)
    (fun k sd hI => by
      obtain ⟨a, c, found, x3, x4, x5, rfl, hI⟩ := hI
      have hcnd := cond (BX a b c) found x3 x4 x5
      have hcc := ni_c hI
      by_cases hlt : found.length < many
      · rw [decide_eq_true hlt] at hcnd
        obtain ⟨size, w, a', y3, y4, y5, s1, s2, w1, w2, a1, he, h0, e⟩ := round_ok cs (a := a) (b := b) (c := c) (many := many) (found := found) (x3 := x3) (x4 := x4) (x5 := x5) hI.2.2.2.1 hI.2.2.2.2.1 (by omega) (by omega)
        obtain ⟨k2, k3, h3⟩ := ni_step hm hI hlt s1 s2 w1 w2 a1 he h0
        exact .inr ⟨hcnd, _, k2, k3, e, _, _, _, _, _, _, rfl, h3⟩
      · rw [decide_eq_false hlt] at hcnd
        have h1 := hI.1
        exact .inl ⟨hcnd, _, _, _, _, _, _, rfl, by omega, hI.2.1, hI.2.2.1, hI.2.2.2.2.1, by omega⟩)
    (2 ^ 80) (2 ^ 66 - c).toNat (nS (BX a b c) many [] .un .un .un) ⟨a, c, [], .un, .un, .un, rfl, Nat.zero_le _, List.nodup_nil, (by simp), ha, hc, by omega, .inl ⟨1050000, ha2, by omega⟩⟩ (by omega)
  refine ⟨found, a', c', e1, e2, e3, e4, e5, ?_⟩
  have ent : entry 6 [BX a b c, .fz (.int many)] = ⟨[.pa 0, .ow (.fz (.int many)), .un, .un, .un, .un], [BX a b c, .fz (.int many)]⟩ := rfl
  have s1 : m__law_names_1 cs ⟨[.pa 0, .ow (.fz (.int many)), .un, .un, .un, .un], [BX a b c, .fz (.int many)]⟩ = .nx (nS (BX a b c) many [] .un .un .un) := rfl
  have s7 : m__law_names_7 cs (nS (BX a' b c') many found x3 x4 x5) = .rt (.ol ((WsD found).map .fz)) ⟨[.pa 0, .ow (.fz (.int many)), .un, x3, x4, x5], [BX a' b c', .fz (.int many)]⟩ := rfl
  unfold m__law_names asDef
  rw [ent, seq_nx s1 (seq_nx (b := m__law_names_7 cs) (a := m__law_names_6 cs) w1 s7)]
inductive Tr where
  | st (c : Nat) (n : Nat)
  | nm (w : List Nat)
  | rp (b : List Tr) (n : Nat)
mutual
noncomputable def twd : Tr → List (List Nat)
  | .st c n => [lw c n]
  | .nm w => [w]
  | .rp b n => [40] :: (twds b ++ [41 :: TL.numL n])
noncomputable def twds : List Tr → List (List Nat)
  | [] => []
  | a :: r => twd a ++ twds r
end
mutual
noncomputable def tdp : Tr → Nat
  | .st _ _ => 0
  | .nm _ => 0
  | .rp b _ => 1 + tdps b
noncomputable def tdps : List Tr → Nat
  | [] => 0
  | a :: r => max (tdp a) (tdps r)
end
mutual
noncomputable def tok (ns : List (List Nat)) : Tr → Prop
  | .st c n => c ∈ letters ∧ 1 ≤ n ∧ n ≤ 1000000000000000000000000000000
  | .nm w => w ∈ ns
  | .rp b n => b ≠ [] ∧ 2 ≤ n ∧ n ≤ 1000000000000000000000000000000 ∧ toks ns b
noncomputable def toks (ns : List (List Nat)) : List Tr → Prop
  | [] => True
  | a :: r => tok ns a ∧ toks ns r
end
mutual
noncomputable def tex (E : List Nat → List Nd) : Tr → List Nd
  | .st c n => [.st c n]
  | .nm w => E w
  | .rp b n => [.rp (texs E b) n]
noncomputable def texs (E : List Nat → List Nd) : List Tr → List Nd
  | [] => []
  | a :: r => tex E a ++ texs E r
end
mutual
noncomputable def ofN : Nd → Tr
  | .st c n => .st c n
  | .rp b n => .rp (ofNs b) n
noncomputable def ofNs : List Nd → List Tr
  | [] => []
  | a :: r => ofN a :: ofNs r
end
theorem ofNs_ne {l : List Nd} (h : l ≠ []) : ofNs l ≠ [] := by
  cases l with
  | nil => exact absurd rfl h
  | cons a r => rw [ofNs]; simp
mutual
theorem ofN_wd : ∀ a : Nd, twd (ofN a) = wd a
  | .st c n => by rw [ofN, twd, wd]
  | .rp b n => by rw [ofN, twd, wd, ofNs_wds b]
theorem ofNs_wds : ∀ l : List Nd, twds (ofNs l) = wds l
  | [] => by rw [ofNs, twds, wds]
  | a :: r => by rw [ofNs, twds, wds, ofN_wd a, ofNs_wds r]
end
mutual
theorem ofN_dp : ∀ a : Nd, tdp (ofN a) = ndp a
  | .st c n => by rw [ofN, tdp, ndp]
  | .rp b n => by rw [ofN, tdp, ndp, ofNs_dps b]
theorem ofNs_dps : ∀ l : List Nd, tdps (ofNs l) = ndps l
  | [] => by rw [ofNs, tdps, ndps]
  | a :: r => by rw [ofNs, tdps, ndps, ofN_dp a, ofNs_dps r]
end
mutual
theorem ofN_ok (ns : List (List Nat)) : ∀ a : Nd, nok a → tok ns (ofN a)
  | .st c n, h => by rw [nok] at h; rw [ofN, tok]; exact h
  | .rp b n, h => by
    rw [nok] at h
    rw [ofN, tok]
    exact ⟨ofNs_ne h.1, h.2.1, h.2.2.1, ofNs_ok ns b h.2.2.2⟩
theorem ofNs_ok (ns : List (List Nat)) : ∀ l : List Nd, noks l → toks ns (ofNs l)
  | [], _ => by rw [ofNs, toks]; exact True.intro
  | a :: r, h => by
    rw [noks] at h
    rw [ofNs, toks]
    exact ⟨ofN_ok ns a h.1, ofNs_ok ns r h.2⟩
end
theorem twd_pos : ∀ a : Tr, 1 ≤ (twd a).length
  | .st c n => by rw [twd]; exact Nat.le_refl _
  | .nm w => by rw [twd]; exact Nat.le_refl _
  | .rp b n => by rw [twd, List.length_cons]; omega
mutual
theorem twd_set {ns : List (List Nat)} {w : List Nat} (hw : w ∈ ns) : ∀ (a : Tr) (i : Nat) (x : List Nat), tok ns a → (twd a)[i]? = some x → x ≠ [40] → x.head? ≠ some 41 → ∃ a', twd a' = (twd a).set i w ∧ tok ns a' ∧ tdp a' ≤ tdp a
  | .st c n, i, x, h, hx, _, _ => by
    rw [twd] at hx ⊢
    cases i with
    | zero => exact ⟨.nm w, by rw [twd]; rfl, by rw [tok]; exact hw, by rw [tdp]; exact Nat.zero_le _⟩
    | succ i => simp at hx
  | .nm v, i, x, h, hx, _, _ => by
    rw [twd] at hx ⊢
    cases i with
    | zero => exact ⟨.nm w, by rw [twd]; rfl, by rw [tok]; exact hw, by rw [tdp]; exact Nat.zero_le _⟩
    | succ i => simp at hx
  | .rp b n, i, x, h, hx, h1, h2 => by
    rw [twd] at hx
    rw [tok] at h
    cases i with
    | zero =>
      rw [List.getElem?_cons_zero] at hx
      exact absurd (Option.some.inj hx).symm h1
    | succ i =>
      rw [List.getElem?_cons_succ] at hx
      by_cases hi : i < (twds b).length
      · rw [List.getElem?_append_left hi] at hx
        obtain ⟨b', e1, e2, e3, e4⟩ := twds_set hw b i x h.2.2.2 hx h1 h2
        refine ⟨.rp b' n, ?_, ?_, ?_⟩
        · rw [twd, e1, twd, List.set_cons_succ, List.set_append_left _ _ hi]
        · rw [tok]; exact ⟨fun z => h.1 (e4.mp z), h.2.1, h.2.2.1, e2⟩
        · rw [tdp, tdp]; omega
      · rw [List.getElem?_append_right (by omega)] at hx
        obtain ⟨hj, e⟩ := List.getElem?_eq_some_iff.mp hx
        rw [List.length_singleton] at hj
        have z : i - (twds b).length = 0 := by omega
        simp only [z, List.getElem_cons_zero] at e
        rw [← e] at h2
        exact absurd rfl h2
theorem twds_set {ns : List (List Nat)} {w : List Nat} (hw : w ∈ ns) : ∀ (l : List Tr) (i : Nat) (x : List Nat), toks ns l → (twds l)[i]? = some x → x ≠ [40] → x.head? ≠ some 41 → ∃ l', twds l' = (twds l).set i w ∧ toks ns l' ∧ tdps l' ≤ tdps l ∧ (l' = [] ↔ l = [])
  | [], i, x, h, hx, _, _ => by
    rw [twds] at hx
    simp at hx
  | a :: r, i, x, h, hx, h1, h2 => by
    rw [toks] at h
    rw [twds] at hx
    by_cases hi : i < (twd a).length
    · rw [List.getElem?_append_left hi] at hx
      obtain ⟨a', e1, e2, e3⟩ := twd_set hw a i x h.1 hx h1 h2
      refine ⟨a' :: r, ?_, ?_, ?_, by simp⟩
      · rw [twds, e1, twds, List.set_append_left _ _ hi]
      · rw [toks]; exact ⟨e2, h.2⟩
      · rw [tdps, tdps]; omega
    · rw [List.getElem?_append_right (by omega)] at hx
      obtain ⟨r', e1, e2, e3, e4⟩ := twds_set hw r (i - (twd a).length) x h.2 hx h1 h2
      refine ⟨a :: r', ?_, ?_, ?_, by simp⟩
      · rw [twds, e1, twds, List.set_append_right _ _ (by omega)]
      · rw [toks]; exact ⟨h.1, e2⟩
      · rw [tdps, tdps]; omega
end
mutual
theorem tex_eq {ns : List (List Nat)} {E E' : List Nat → List Nd} (he : ∀ w ∈ ns, E w = E' w) : ∀ a : Tr, tok ns a → tex E a = tex E' a
  | .st c n, _ => by rw [tex, tex]
  | .nm w, h => by rw [tok] at h; rw [tex, tex, he w h]
  | .rp b n, h => by rw [tok] at h; rw [tex, tex, texs_eq he b h.2.2.2]
theorem texs_eq {ns : List (List Nat)} {E E' : List Nat → List Nd} (he : ∀ w ∈ ns, E w = E' w) : ∀ l : List Tr, toks ns l → texs E l = texs E' l
  | [], _ => by rw [texs, texs]
  | a :: r, h => by rw [toks] at h; rw [texs, texs, tex_eq he a h.1, texs_eq he r h.2]
end
mutual
theorem tex_ok {ns : List (List Nat)} {E : List Nat → List Nd} (he : ∀ w ∈ ns, E w ≠ [] ∧ noks (E w)) : ∀ a : Tr, tok ns a → tex E a ≠ [] ∧ noks (tex E a)
  | .st c n, h => by
    rw [tok] at h
    rw [tex]
    exact ⟨by simp, (noks_one _).mpr (by rw [nok]; exact h)⟩
  | .nm w, h => by rw [tok] at h; rw [tex]; exact he w h
  | .rp b n, h => by
    rw [tok] at h
    have ih := texs_ok he b h.2.2.2
    rw [tex]
    exact ⟨by simp, (noks_one _).mpr (by rw [nok]; exact ⟨fun z => h.1 (ih.1 z), h.2.1, h.2.2.1, ih.2⟩)⟩
theorem texs_ok {ns : List (List Nat)} {E : List Nat → List Nd} (he : ∀ w ∈ ns, E w ≠ [] ∧ noks (E w)) : ∀ l : List Tr, toks ns l → (texs E l = [] → l = []) ∧ noks (texs E l)
  | [], _ => ⟨fun _ => rfl, by rw [texs, noks]; exact True.intro⟩
  | a :: r, h => by
    rw [toks] at h
    have h1 := tex_ok he a h.1
    have h2 := texs_ok he r h.2
    rw [texs]
    exact ⟨fun z => absurd (List.append_eq_nil_iff.mp z).1 h1.1, (noks_app _ _).mpr ⟨h1.2, h2.2⟩⟩
end
theorem name_free {w : List Nat} (h : NmOk w) : (32 : Nat) ∉ w ∧ (10 : Nat) ∉ w ∧ w ≠ [] := ⟨fun z => by have := h.ab _ z; omega, fun z => by have := h.ab _ z; omega, fun z => by have := h.lo; rw [z, List.length_nil] at this; omega⟩
/-- what each word is like -/
noncomputable def WdOk (w : List Nat) : Prop := (32 : Nat) ∉ w ∧ (10 : Nat) ∉ w ∧ w ≠ [] ∧ w.length ≤ 40 ∧ ∀ c ∈ w, c < 128
theorem num_free10 (n : Nat) : (10 : Nat) ∉ TL.numL n := TL.numL_free (.inl (by decide))
theorem lw_wd {c n : Nat} (hc : c ∈ letters) (hn : n ≤ 1000000000000000000000000000000) : WdOk (lw c n) := by
  have l := lw_len hn
  have c2 : c ≠ 32 ∧ c ≠ 10 ∧ c < 128 := by
    unfold letters at hc
    simp at hc
    omega
  unfold lw
  refine ⟨fun z => ?_, fun z => ?_, by simp, by rw [List.length_cons]; omega, fun x z => ?_⟩
  · rcases List.mem_cons.mp z with z | z
    · exact c2.1 z.symm
    · split at z
      · cases z
      · exact num_free n z
  · rcases List.mem_cons.mp z with z | z
    · exact c2.2.1 z.symm
    · split at z
      · cases z
      · exact num_free10 n z
  · rcases List.mem_cons.mp z with z | z
    · rw [z]; exact c2.2.2
    · split at z
      · cases z
      · have := num_dig n x z; omega
mutual
theorem twd_wd {ns : List (List Nat)} (hns : ∀ w ∈ ns, NmOk w) : ∀ a : Tr, tok ns a → ∀ w ∈ twd a, WdOk w
  | .st c n, h, w, hw => by
    rw [tok] at h
    rw [twd, List.mem_singleton] at hw
    subst hw
    exact lw_wd h.1 h.2.2
  | .nm v, h, w, hw => by
    rw [tok] at h
    rw [twd, List.mem_singleton] at hw
    subst hw
    have f := name_free (hns _ h)
    exact ⟨f.1, f.2.1, f.2.2, by have := (hns _ h).hi; omega, fun c hc => by have := (hns _ h).ab c hc; omega⟩
  | .rp b n, h, w, hw => by
    rw [tok] at h
    rw [twd] at hw
    rcases List.mem_cons.mp hw with rfl | hw
    · exact ⟨by decide, by decide, by decide, by decide, by decide⟩
    · rcases List.mem_append.mp hw with hw | hw
      · exact twds_wd hns b h.2.2.2 w hw
      · rw [List.mem_singleton] at hw
        subst hw
        have hl := TL.numL_len (n := n) (k := 31) (by decide) (by omega)
        refine ⟨fun z => ?_, fun z => ?_, by simp, by rw [List.length_cons]; omega, fun x z => ?_⟩
        · rcases List.mem_cons.mp z with z | z
          · omega
          · exact num_free n z
        · rcases List.mem_cons.mp z with z | z
          · omega
          · exact num_free10 n z
        · rcases List.mem_cons.mp z with z | z
          · omega
          · have := num_dig n x z; omega
theorem twds_wd {ns : List (List Nat)} (hns : ∀ w ∈ ns, NmOk w) : ∀ l : List Tr, toks ns l → ∀ w ∈ twds l, WdOk w
  | [], h, w, hw => by rw [twds] at hw; cases hw
  | a :: r, h, w, hw => by
    rw [toks] at h
    rw [twds] at hw
    rcases List.mem_append.mp hw with hw | hw
    · exact twd_wd hns a h.1 w hw
    · exact twds_wd hns r h.2 w hw
end
/-- names, and the lines of a source -/
structure Src (names : List (List Nat)) (lines : List (List Tr)) : Prop where
  nd : names.Nodup
  nm : ∀ w ∈ names, NmOk w
  few : names.length ≤ 19
  len : lines.length = names.length + 1
  ok : ∀ (k : Nat) (l : List Tr), lines[k]? = some l → toks (names.take k) l ∧ tdps l ≤ 12 ∧ (twds l).length ≤ 40 ∧ (k < names.length → l ≠ [])
/-- the lines with the names replaced -/
structure Exp (names : List (List Nat)) (lines : List (List Tr)) (F : List (List Nd)) : Prop where
  len : F.length = lines.length
  at_ : ∀ (k : Nat) (l : List Tr), lines[k]? = some l → F[k]? = some (texs (fun w => F.getD (names.idxOf w) []) l)
theorem take_idx {names : List (List Nat)} {k : Nat} {w : List Nat} (h : w ∈ names.take k) : names.idxOf w < k := by
  induction names generalizing k with
  | nil => rw [List.take_nil] at h; cases h
  | cons a r ih =>
    cases k with
    | zero => cases h
    | succ k =>
      rw [List.take_succ_cons] at h
      rw [List.idxOf_cons]
      by_cases e : a = w
      · subst e
        simp
      · have e2 : (a == w) = false := beq_eq_false_iff_ne.mpr e
        rw [e2]
        rcases List.mem_cons.mp h with z | z
        · exact absurd z.symm e
        · have := ih z
          simp
          omega
theorem snoc_ind {α : Type} {P : List α → Prop} (h0 : P []) (h1 : ∀ l a, P l → P (l ++ [a])) (l : List α) : P l := by
  rw [← List.reverse_reverse (as := l)]
  induction l.reverse with
  | nil => exact h0
  | cons a r ih =>
    rw [List.reverse_cons]
    exact h1 _ _ ih
theorem exp_ex (names : List (List Nat)) (lines : List (List Tr)) : (∀ (k : Nat) (l : List Tr), lines[k]? = some l → toks (names.take k) l) → ∃ F, Exp names lines F := by
  refine snoc_ind (P := fun lines => (∀ (k : Nat) (l : List Tr), lines[k]? = some l → toks (names.take k) l) → ∃ F, Exp names lines F) (fun _ => ⟨[], rfl, fun k l h => by simp at h⟩) (fun ls l ih ho => ?_) lines
  obtain ⟨F, h1, h2⟩ := ih fun k x hx => ho k x (by rw [List.getElem?_append_left (List.getElem?_eq_some_iff.mp hx).1]; exact hx)
  refine ⟨F ++ [texs (fun w => F.getD (names.idxOf w) []) l], by simp [h1], fun k x hx => ?_⟩
  have same : ∀ k ≤ F.length, ∀ w ∈ names.take k, F.getD (names.idxOf w) [] = (F ++ [texs (fun w => F.getD (names.idxOf w) []) l]).getD (names.idxOf w) [] := fun k hk w hw => by
    have := take_idx hw
    rw [List.getD_eq_getElem?_getD, List.getD_eq_getElem?_getD, List.getElem?_append_left (by omega)]
  have tk := ho k x hx
  by_cases hk : k < ls.length
  · rw [List.getElem?_append_left hk] at hx
    rw [List.getElem?_append_left (by omega), h2 k x hx, texs_eq (same k (by omega)) x tk]
  · have hk2 : k = ls.length := by
      have := (List.getElem?_eq_some_iff.mp hx).1
      rw [List.length_append, List.length_singleton] at this
      omega
    subst hk2
    rw [List.getElem?_append_right (Nat.le_refl _)] at hx
    simp only [Nat.sub_self, List.getElem?_cons_zero, Option.some.injEq] at hx
    subst hx
    rw [← h1, List.getElem?_append_right (Nat.le_refl _)]
    simp only [Nat.sub_self, List.getElem?_cons_zero]
    exact congrArg some (texs_eq (same ls.length (by omega)) l tk)
theorem take_in {names : List (List Nat)} {k : Nat} {w : List Nat} (h : w ∈ names.take k) : w ∈ names := List.mem_of_mem_take h
/-- each line replaced is a tree -/
theorem Exp.ok {names : List (List Nat)} {lines : List (List Tr)} {F : List (List Nd)} (s : Src names lines) (x : Exp names lines F) : ∀ (k : Nat) (l : List Nd), F[k]? = some l → noks l ∧ (k < names.length → l ≠ []) := by
  intro k
  induction k using Nat.strongRecOn with
  | ind k ih =>
    intro l hl
    have hk : k < lines.length := by rw [← x.len]; exact (List.getElem?_eq_some_iff.mp hl).1
    have e := x.at_ k lines[k] (by simp [hk])
    rw [hl] at e
    cases e
    obtain ⟨o1, o2, o3, o4⟩ := s.ok k lines[k] (by simp [hk])
    have t := texs_ok (ns := names.take k) (E := fun w => F.getD (names.idxOf w) []) (fun w hw => by
      have hi := take_idx hw
      have hi2 : names.idxOf w < F.length := by rw [x.len]; omega
      have := ih _ hi (F[names.idxOf w]) (by simp [hi2])
      rw [List.getD_eq_getElem?_getD, List.getElem?_eq_getElem hi2, Option.getD_some]
      exact ⟨this.2 (List.idxOf_lt_length_iff.mpr (take_in hw)), this.1⟩) lines[k] o1
    exact ⟨t.2, fun z y => o4 z (t.1 y)⟩
theorem pys_ws : ∀ ws : List (List Nat), D.pys (WsD ws) = some (ws.map fun w => PyData.str (W w))
  | [] => by rw [show WsD [] = [] from rfl, D.pys]; rfl
  | w :: r => by
    rw [show WsD (w :: r) = .str (W w) :: WsD r from rfl, D.pys, D.py, pys_ws r]
    rfl
noncomputable def Low (ws : List (List Nat)) : Prop := ∀ w ∈ ws, ∀ c ∈ w, c < 128
theorem lays_ws : ∀ ws : List (List Nat), Low ws → PyData.canLayAll0 (ws.map fun w => PyData.str (W w)) = true
  | [], _ => rfl
  | w :: r, h => by
    have e : PyData.strOk (W w) = true := by
      unfold PyData.strOk
      rw [← Array.all_toList, List.all_eq_true]
      intro c hc
      have := h w (by simp) c hc
      exact decide_eq_true (by omega)
    rw [List.map_cons, PyData.canLayAll0, lays_ws r fun x hx => h x (List.mem_cons_of_mem _ hx), PyData.canLay0, e]
    rfl
theorem deps_ws : ∀ ws : List (List Nat), PyData.depthAll (ws.map fun w => PyData.str (W w)) ≤ 1
  | [] => Nat.zero_le _
  | w :: r => by
    have := deps_ws r
    rw [List.map_cons, PyData.depthAll, PyData.depth]
    omega
theorem eqv_ws : ∀ a b : List (List Nat), PyData.eqvAll (a.map fun w => PyData.str (W w)) (b.map fun w => PyData.str (W w)) = decide (a = b)
  | [], [] => rfl
  | [], w :: r => by rw [List.map_cons, List.map_nil, PyData.eqvAll]; simp
  | w :: r, [] => by rw [List.map_cons, List.map_nil, PyData.eqvAll]; simp
  | w :: r, v :: q => by
    rw [List.map_cons, List.map_cons, PyData.eqvAll, eqv_ws r q]
    show ((W w == W v) && decide (r = q)) = _
    by_cases h : w = v
    · subst h; simp
    · have : (W w == W v) = false := beq_eq_false_iff_ne.mpr fun z => h ((W_iff w v).mp z)
      rw [this]; simp [h]
theorem eqB_ws {a b : List (List Nat)} (ha : Low a) (hb : Low b) : dEqB (.lst (WsD a)) (.lst (WsD b)) = some (decide (a = b)) := by
  have z : ∀ a b : List D, dEqB (.lst a) (.lst b) = match (D.lst a).py, (D.lst b).py with
    | some p, some q => if (SeqAt.shaped p && SeqAt.shaped q) = true then some (PyData.eqv p q) else none
    | _, _ => none := fun _ _ => rfl
  have sh : ∀ ws : List (List Nat), Low ws → SeqAt.shaped (.list (ws.map fun w => PyData.str (W w))) = true := fun ws hw => by
    have h1 : PyData.canLay0 (.list (ws.map fun w => PyData.str (W w))) = true := lays_ws ws hw
    have h2 : PyData.depth (.list (ws.map fun w => PyData.str (W w))) ≤ 2 := by rw [PyData.depth]; have := deps_ws ws; omega
    unfold SeqAt.shaped
    rw [h1]
    simp
    omega
  rw [z, D.py, D.py, pys_ws, pys_ws]
  dsimp only [Option.map]
  rw [sh a ha, sh b hb]
  show some (PyData.eqvAll _ _) = _
  rw [eqv_ws]
theorem in_dig (c : Nat) : dIn false (.str (W [c])) (.str (Str.ofString "0123456789")) = some (.bl (decide (48 ≤ c ∧ c ≤ 57))) := by
  show some (D.bl (inS (W [c]) (Str.ofString "0123456789") != false)) = _
  rw [lit_dig, inS_W, W_cps]
  have e : decide (c ∈ [48, 49, 50, 51, 52, 53, 54, 55, 56, 57]) = decide (48 ≤ c ∧ c ≤ 57) := decide_eq_decide.mpr (mem_dig c)
  rw [e]
  cases decide (48 ≤ c ∧ c ≤ 57) <;> rfl
theorem in_abc {c : Nat} (h : 97 ≤ c ∧ c ≤ 122) : dIn false (.str (W [c])) (.str (Str.ofString "abcdefghijklmnopqrstuvwxyz")) = some (.bl true) := by
  show some (D.bl (inS (W [c]) (Str.ofString "abcdefghijklmnopqrstuvwxyz") != false)) = _
  rw [lit_abc, inS_W, W_cps]
  have e : c ∈ abc := by
    have := (by decide : ∀ k < 26, 97 + k ∈ abc) (c - 97) (by omega)
    rwa [show 97 + (c - 97) = c by omega] at this
  rw [decide_eq_true e]
  rfl
theorem in_let (w : List Nat) {c : Nat} {r : List Nat} (e : w = c :: r) : dIn false (.str (W (w.take 1))) (.str (Str.ofString "fblrud")) = some (.bl (decide (c ∈ letters))) := by
  subst e
  show some (D.bl (inS (W [c]) (Str.ofString "fblrud") != false)) = _
  rw [lit_let, inS_W, W_cps]
  show some (D.bl (decide (c ∈ letters) != false)) = _
  cases decide (c ∈ letters) <;> rfl
theorem all_v (bs : List Bool) : dAll [.lst (bs.map D.bl)] = some (.bl (bs.all id)) := by
  show (boolsOf _).map _ = _
  rw [bools_map (fun b => b)]
  rw [List.map_id']
  rfl
theorem is_number_no (cs : Nat → Addr) {c : Nat} {r : List Nat} (hc : 97 ≤ c ∧ c ≤ 122) (hl : r.length ≤ 20) : m_is_number cs [.fz (.str (W (c :: r)))] = .ok (.fz (.bl false)) ⟨[], [.fz (.str (W (c :: r)))]⟩ := by
  let T := fun x1 : S => (⟨[.ow (.fz (.str (W (c :: r)))), x1], [.fz (.str (W (c :: r)))]⟩ : SD)
  have ln : mCall dLen (mCons (mVar 0) mNil) (T .un) = .ok (.int (c :: r).length) (T .un) := len_v (w := c :: r) (by rw [List.length_cons]; omega) rfl
  have ch := chain_le (a := mC (.int 1)) (b := mCall dLen (mCons (mVar 0) mNil)) (c := mC (.int 31)) (sd := T .un) (i := 1) (j := (c :: r).length) (k := 31) rfl ln rfl
  rw [decide_eq_true (show (1 : Int) ≤ ((c :: r).length : Nat) by rw [List.length_cons]; omega), decide_eq_true (show (((c :: r).length : Nat) : Int) ≤ 31 by rw [List.length_cons]; omega)] at ch
  have t2 : mTest (mOp dEq (mOp dIx (mVar 0) (mC (.int 0))) (mC (.str "0"))) (T .un) = .ok false (T .un) := op_t (op_v (f := dIx) rfl rfl (ix0_S (c := c) (r := r) (by rw [List.length_cons]; omega))) (y := .str (W [48])) (by rw [← lit_0]; rfl) (by
    rw [eq_S, decide_eq_false (fun z => by injection z; omega)])
  have s2 : m_is_number_2 cs (T .un) = .nx (T .un) := by
    unfold m_is_number_2
    rw [if_b (or_r (not_b (test_v ch)) t2), if_neg Bool.false_ne_true]
    rfl
  have c1 : m_is_number_c1 cs (T .un) = .ok (.ol (((c :: r).map fun x => D.bl (decide (48 ≤ x ∧ x ≤ 57))).map .fz)) (T .un) :=
    mComp_map (c :: r) (fun c => D.str (W [c])) (fun x => D.bl (decide (48 ≤ x ∧ x ≤ 57))) rfl (by rw [List.length_cons]; omega) fun x hx => ⟨T (.ow (.fz (.str (W [x])))), rfl, rfl, op_v (f := dIn false) (x := .str (W [x])) rfl rfl (in_dig x)⟩
  have a1 : mCall dAll (mCons (mView (m_is_number_c1 cs)) mNil) (T .un) = .ok (.bl false) (T .un) := call_v (cons_v (view_v c1) rfl) (by
    rw [show ((c :: r).map fun x => D.bl (decide (48 ≤ x ∧ x ≤ 57))) = ((c :: r).map fun x => decide (48 ≤ x ∧ x ≤ 57)).map D.bl from by rw [List.map_map]; rfl, all_v, List.map_cons, decide_eq_false (show ¬ (48 ≤ c ∧ c ≤ 57) by omega)]
    rfl)
  have s3 : m_is_number_3 cs (T .un) = .rt (.fz (.bl false)) (T .un) := ret_d (andv_f a1)
  exact def_rt (sd0 := T .un) rfl (seq_nx s2 s3)
theorem name_two {w : List Nat} (h : NmOk w) : ∃ c d r, w = c :: d :: r ∧ (97 ≤ c ∧ c ≤ 122) ∧ (97 ≤ d ∧ d ≤ 122) ∧ r.length ≤ 6 := by
  obtain ⟨h1, h2, h3⟩ := h
  match w, h1, h2, h3 with
  | c :: d :: r, h1, h2, h3 => exact ⟨c, d, r, rfl, h3 c (by simp), h3 d (by simp), by simp at h2; omega⟩
theorem name_no_step (cs : Nat → Addr) {w : List Nat} (h : NmOk w) : m_is_step_word cs [.fz (.str (W w))] = .ok (.fz (.bl false)) ⟨[], [.fz (.str (W w))]⟩ := by
  have hw : w.length ≤ 16777216 := by have := h.hi; omega
  obtain ⟨c, d, r, e, hc, hd, hr⟩ := name_two h
  let T : SD := ⟨[.ow (.fz (.str (W w)))], [.fz (.str (W w))]⟩
  have c1 := cut1_S hw (a := mVar 0) (sd := T) (sd1 := T) rfl
  have t1 : mOp dNe (mCutX (mVar 0) oNone (oSome (mC (.int 1)))) (mC (.str (Str.ofString ""))) T = .ok (.bl true) T := op_v c1 rfl (by
    rw [lit_nil, ne_S, decide_eq_false (fun z => by rw [e] at z; cases z)]; rfl)
  unfold m_is_step_word
  refine def_rt (n := 1) (ts := [.fz (.str (W w))]) (sd0 := T) (sd := T) rfl (ret_d ?_)
  rw [andv_t t1]
  have t2 : mOp (dIn false) (mCutX (mVar 0) oNone (oSome (mC (.int 1)))) (mC (.str (Str.ofString "fblrud"))) T = .ok (.bl (decide (c ∈ letters))) T := op_v c1 rfl (in_let _ e)
  by_cases hl : c ∈ letters
  · rw [decide_eq_true hl] at t2
    rw [andv_t t2]
    have t3 : mOp dEq (mCall dLen (mCons (mVar 0) mNil)) (mC (.int 1)) T = .ok (.bl false) T := op_v (len_v hw (a := mVar 0) (sd := T) (sd1 := T) rfl) (y := .int 1) rfl (by
      unfold dEq
      rw [eqB_int]
      show some (D.bl _) = _
      congr 2
      exact decide_eq_false (by rw [e, List.length_cons, List.length_cons]; omega))
    rw [orv_f t3]
    have c2 := cutr_S hw (a := mVar 0) (sd := T) (sd1 := T) rfl
    have e2 : w.drop 1 = d :: r := by rw [e]; rfl
    rw [e2] at c2
    exact call1_v c2 (is_number_no cs hd (by omega))
  · rw [decide_eq_false hl] at t2
    exact andv_f t2
noncomputable def fnSD (ws ns : D) (d : Nat) (e : Bool) (x4 x5 : S) : SD := ⟨[.ow (.fz ws), .ow (.fz ns), .ow (.fz (.int d)), .ow (.fz (.bl e)), x4, x5], [.fz ws, .fz ns]⟩
theorem fn_open (cs : Nat → Addr) {ws ns : D} {d i : Nat} {e : Bool} (h1 : d + 1 ≤ 12) (h2 : i + 1 + (d + 1) + 1 ≤ 1000) : m_first_wrong_b1 cs (fnSD ws ns d e (.ow (.fz (.int i))) (.ow (.fz (.str (W [40]))))) = .nx (fnSD ws ns (d + 1) true (.ow (.fz (.int i))) (.ow (.fz (.str (W [40]))))) := by
  have z1 : ¬ (12 : Int) < (d : Int) + 1 := by omega
  have z2 : ¬ (1000 : Int) < (i : Int) + 1 + ((d : Int) + 1) + 1 := by omega
  have lo := lit_open
  simp [m_first_wrong_b1, m_first_wrong_14, m_first_wrong_3, m_first_wrong_4, m_first_wrong_6, m_first_wrong_16, fnSD, -List.map_map, -List.map_take, -List.map_drop, -List.map_append, -List.map_reverse, asDef, entry, slotsOf, sSeq, sSet, sRet, sIf, sDrop, sNil, sBreak, sCont, sApp, sSetAt, setEnd, sAug, sAsg, sPar, mVar, mSee, mFrz, mTake, mC, mUn, mOp, mNil, mCons, mCall, mCallL, mTup, mLst, mView, mOwn, mFz, mTest, mAnd, mOr, mNot, mIf, mAndV, mOrV, mNotV, mChain, mAt, qSee, qFz, qNew, oNone, oSome, rNil, rSlot, rFz, mCall0, mCall1, oneSlot, noSlot, treesOf, SD.tree, SD.put, SD.putFz, tgN, tgNil, tgCons, tgT, ER.bind, ER.opt, ER.stm, Fl.seq, OT.view, OT.views, OT.items, fzOf, iLst, iTuP, iRange1, iRange2, iZip2, iEnumL, dIx, atI, ixN, dAdd, dSub, dNeg, dLt, dLe, dGt, dGe, dIsN, dNotN, isNonD, dEq, dNe, eqB_int, eqB_str, eqB_bl, eq_2, eq_3, dLen, dIsi, D.isA, tyName, dMod, dMax, dMin, mAtS, mBm, D.isL, D.isS, lo, W_iff, z1, z2, dInt2]
theorem fn_close (cs : Nat → Addr) {ws ns : D} {d i n : Nat} (hn1 : 2 ≤ n) (hn2 : n ≤ 1000000000000000000000000000000) (h2 : i + 1 + d ≤ 1000) : m_first_wrong_b1 cs (fnSD ws ns (d + 1) false (.ow (.fz (.int i))) (.ow (.fz (.str (W (41 :: TL.numL n)))))) = .nx (fnSD ws ns d false (.ow (.fz (.int i))) (.ow (.fz (.str (W (41 :: TL.numL n)))))) := by
  have z1 : ¬ (d : Int) + 1 = 0 := by omega
  have z2 : ¬ (1000 : Int) < (i : Int) + 1 + (d : Int) := by omega
  have z3 : ¬ (1000 : Int) < (i : Int) + 1 + ((d : Int) + 1 - 1) := by omega
  have num := is_number_ok cs hn1 hn2
  have lo := lit_open
  have lc := lit_close
  have hh : cutS (W (41 :: TL.numL n)) none (some 1) = W [41] := by rw [W_head]; rfl
  have ht : cutS (W (41 :: TL.numL n)) (some 1) none = W (TL.numL n) := by rw [W_tail]; rfl
  have hl : (W (41 :: TL.numL n)).length ≤ 16777216 := by
    have hl := TL.numL_len (n := n) (k := 31) (by decide) (by omega)
    rw [W_len, List.length_cons]; omega
  have e1 : (d : Int) + 1 - 1 = d := by omega
  simp [m_first_wrong_b1, m_first_wrong_14, m_first_wrong_13, m_first_wrong_8, m_first_wrong_9, m_first_wrong_16, fnSD, -List.map_map, -List.map_take, -List.map_drop, -List.map_append, -List.map_reverse, asDef, entry, slotsOf, sSeq, sSet, sRet, sIf, sDrop, sNil, sBreak, sCont, sApp, sSetAt, setEnd, sAug, sAsg, sPar, mVar, mSee, mFrz, mTake, mC, mUn, mOp, mNil, mCons, mCall, mCallL, mTup, mLst, mView, mOwn, mFz, mTest, mAnd, mOr, mNot, mIf, mAndV, mOrV, mNotV, mChain, mAt, qSee, qFz, qNew, oNone, oSome, rNil, rSlot, rFz, mCall0, mCall1, oneSlot, noSlot, treesOf, SD.tree, SD.put, SD.putFz, tgN, tgNil, tgCons, tgT, ER.bind, ER.opt, ER.stm, Fl.seq, OT.view, OT.views, OT.items, fzOf, iLst, iTuP, iRange1, iRange2, iZip2, iEnumL, dIx, atI, ixN, dAdd, dSub, dNeg, dLt, dLe, dGt, dGe, dIsN, dNotN, isNonD, dEq, dNe, eqB_int, eqB_str, eqB_bl, eq_2, eq_3, dLen, dIsi, D.isA, tyName, dMod, dMax, dMin, mAtS, mBm, D.isL, D.isS, mCutX, lo, lc, W_iff, z1, z2, z3, dInt2, hh, ht, hl, num, e1]
theorem fn_step (cs : Nat → Addr) {ws ns : D} {d i c n : Nat} {e : Bool} (hc : c ∈ letters) (hn1 : 1 ≤ n) (hn2 : n ≤ 1000000000000000000000000000000) (h2 : i + 1 + d ≤ 1000) : m_first_wrong_b1 cs (fnSD ws ns d e (.ow (.fz (.int i))) (.ow (.fz (.str (W (lw c n)))))) = .nx (fnSD ws ns d false (.ow (.fz (.int i))) (.ow (.fz (.str (W (lw c n)))))) := by
  have z2 : ¬ (1000 : Int) < (i : Int) + 1 + (d : Int) := by omega
  have sw := step_word_ok cs hc hn1 hn2
  have lo := lit_open
  have lc := lit_close
  have hh : cutS (W (lw c n)) none (some 1) = W [c] := by rw [W_head]; rfl
  have hl : (W (lw c n)).length ≤ 16777216 := by
    have hl := TL.numL_len (n := n) (k := 31) (by decide) (by omega)
    rw [W_len]
    unfold lw
    rw [List.length_cons]
    split <;> simp <;> omega
  obtain ⟨c1, c2⟩ := letter_ne hc
  have ne : ¬ lw c n = [40] := fun z => by
    unfold lw at z
    injection z with z1 z3
    exact c1 z1
  simp [m_first_wrong_b1, m_first_wrong_14, m_first_wrong_13, m_first_wrong_12, m_first_wrong_10, m_first_wrong_16, fnSD, -List.map_map, -List.map_take, -List.map_drop, -List.map_append, -List.map_reverse, asDef, entry, slotsOf, sSeq, sSet, sRet, sIf, sDrop, sNil, sBreak, sCont, sApp, sSetAt, setEnd, sAug, sAsg, sPar, mVar, mSee, mFrz, mTake, mC, mUn, mOp, mNil, mCons, mCall, mCallL, mTup, mLst, mView, mOwn, mFz, mTest, mAnd, mOr, mNot, mIf, mAndV, mOrV, mNotV, mChain, mAt, qSee, qFz, qNew, oNone, oSome, rNil, rSlot, rFz, mCall0, mCall1, oneSlot, noSlot, treesOf, SD.tree, SD.put, SD.putFz, tgN, tgNil, tgCons, tgT, ER.bind, ER.opt, ER.stm, Fl.seq, OT.view, OT.views, OT.items, fzOf, iLst, iTuP, iRange1, iRange2, iZip2, iEnumL, dIx, atI, ixN, dAdd, dSub, dNeg, dLt, dLe, dGt, dGe, dIsN, dNotN, isNonD, dEq, dNe, eqB_int, eqB_str, eqB_bl, eq_2, eq_3, dLen, dIsi, D.isA, tyName, dMod, dMax, dMin, mAtS, mBm, D.isL, D.isS, mCutX, lo, lc, W_iff, z2, dInt2, hh, hl, sw, ne, c2]
theorem fn_name (cs : Nat → Addr) {ws : D} {ns : List (List Nat)} {w : List Nat} {d i : Nat} {e : Bool} (hw : NmOk w) (hn : w ∈ ns) (h2 : i + 1 + d ≤ 1000) : m_first_wrong_b1 cs (fnSD ws (.lst (WsD ns)) d e (.ow (.fz (.int i))) (.ow (.fz (.str (W w))))) = .nx (fnSD ws (.lst (WsD ns)) d false (.ow (.fz (.int i))) (.ow (.fz (.str (W w))))) := by
  have hl : w.length ≤ 16777216 := by have := hw.hi; omega
  obtain ⟨c, d2, r, e2, hc, hd, hr⟩ := name_two hw
  let T := fun e : Bool => fnSD ws (.lst (WsD ns)) d e (.ow (.fz (.int i))) (.ow (.fz (.str (W w))))
  have t14 : mTest (mOp dEq (mVar 5) (mC (.str "("))) (T e) = .ok false (T e) := op_t (x := .str (W w)) (y := .str (W [40])) rfl (by rw [← lit_open]; rfl) (by
    rw [eq_S, decide_eq_false (fun z => by rw [e2] at z; cases z)])
  have t13 : mTest (mOp dEq (mCutX (mVar 5) (oNone) (oSome (mC (.int 1)))) (mC (.str ")"))) (T e) = .ok false (T e) := op_t (cut1_S hl (a := mVar 5) (sd := T e) (sd1 := T e) rfl) (y := .str (W [41])) (by rw [← lit_close]; rfl) (by
    rw [eq_S, decide_eq_false (fun z => by rw [e2] at z; injection z; omega)])
  have t12 : mOr (mTest (mView (mCall0 (m_is_step_word cs) (mCons (mVar 5) (mNil))))) (mTest (mOp (dIn false) (mVar 5) (mVar 1))) (T e) = .ok true (T e) :=
    or_r (test_v (call1_v (x := .str (W w)) rfl (name_no_step cs hw))) (op_t (x := .str (W w)) (y := .lst (WsD ns)) rfl rfl (by rw [in_ws, decide_eq_true hn]; rfl))
  have s14 : m_first_wrong_14 cs (T e) = .nx (T false) := by
    unfold m_first_wrong_14
    rw [if_b t14, if_neg Bool.false_ne_true]
    unfold m_first_wrong_13
    rw [if_b t13, if_neg Bool.false_ne_true]
    unfold m_first_wrong_12
    rw [if_b t12, if_pos rfl]
    rfl
  have t16 : mTest (mOp dGt (mOp dAdd (mOp dAdd (mOp dAdd (mVar 4) (mC (.int 1))) (mVar 2)) (mCall dInt2 (mCons (mVar 3) (mNil)))) (mC (.int 1000))) (T false) = .ok false (T false) :=
    op_t (x := .int (i + 1 + d + 0)) (y := .int 1000) (op_v (x := .int (i + 1 + d)) (y := .int 0) (op_v (x := .int (i + 1)) (y := .int d) (op_v (x := .int i) (y := .int 1) rfl rfl rfl) rfl rfl) (call_v (xs := [.bl false]) rfl rfl) rfl) rfl (by
      show some (D.bl (decide ((1000 : Int) < (i : Int) + 1 + d + 0))) = _
      rw [decide_eq_false (by omega)])
  have s16 : m_first_wrong_16 cs (T false) = .nx (T false) := by
    unfold m_first_wrong_16
    rw [if_b t16, if_neg Bool.false_ne_true]
    rfl
  exact seq_nx s14 s16
mutual
theorem fn_tr (cs : Nat → Addr) {ws : D} {ns : List (List Nat)} (hns : ∀ w ∈ ns, NmOk w) : ∀ (a : Tr) (i d : Nat) (e : Bool) (x4 x5 : S), tok ns a → d + tdp a ≤ 12 → i + (twd a).length + d ≤ 1000 → ∃ y4 y5, Runs fwG (m_first_wrong_b1 cs) (enD i (WsD (twd a))) (fnSD ws (.lst (WsD ns)) d e x4 x5) (fnSD ws (.lst (WsD ns)) d false y4 y5)
  | .st c n, i, d, e, x4, x5, h, _, hl => by
    rw [tok] at h
    rw [twd, List.length_singleton] at hl
    rw [twd]
    exact ⟨_, _, .one (a1 := fnSD ws (.lst (WsD ns)) d e (.ow (.fz (.int i))) (.ow (.fz (.str (W (lw c n)))))) rfl (fn_step cs h.1 h.2.1 h.2.2 (by omega))⟩
  | .nm w, i, d, e, x4, x5, h, _, hl => by
    rw [tok] at h
    rw [twd, List.length_singleton] at hl
    rw [twd]
    exact ⟨_, _, .one (a1 := fnSD ws (.lst (WsD ns)) d e (.ow (.fz (.int i))) (.ow (.fz (.str (W w))))) rfl (fn_name cs (hns w h) h (by omega))⟩
  | .rp b n, i, d, e, x4, x5, h, hd, hl => by
    rw [tok] at h
    rw [tdp] at hd
    rw [twd, List.length_cons, List.length_append, List.length_singleton] at hl
    rw [twd]
    obtain ⟨y4, y5, r1⟩ := fn_trs cs hns b (i + 1) (d + 1) true (.ow (.fz (.int i))) (.ow (.fz (.str (W [40])))) h.2.2.2 (by omega) (by omega)
    rw [if_neg h.1] at r1
    have bp : 1 ≤ (twds b).length := by
      cases b with
      | nil => exact absurd rfl h.1
      | cons x r => rw [twds, List.length_append]; have := twd_pos x; omega
    have o1 : Runs fwG (m_first_wrong_b1 cs) [.tup [.int (i : Int), .str (W [40])]] (fnSD ws (.lst (WsD ns)) d e x4 x5) (fnSD ws (.lst (WsD ns)) (d + 1) true (.ow (.fz (.int i))) (.ow (.fz (.str (W [40]))))) := .one (a1 := fnSD ws (.lst (WsD ns)) d e (.ow (.fz (.int i))) (.ow (.fz (.str (W [40]))))) rfl (fn_open cs (by omega) (by omega))
    have c1 : Runs fwG (m_first_wrong_b1 cs) [.tup [.int ((i + 1 + (twds b).length : Nat) : Int), .str (W (41 :: TL.numL n))]] (fnSD ws (.lst (WsD ns)) (d + 1) false y4 y5) (fnSD ws (.lst (WsD ns)) d false (.ow (.fz (.int (i + 1 + (twds b).length : Nat)))) (.ow (.fz (.str (W (41 :: TL.numL n)))))) := .one (a1 := fnSD ws (.lst (WsD ns)) (d + 1) false (.ow (.fz (.int (i + 1 + (twds b).length : Nat)))) (.ow (.fz (.str (W (41 :: TL.numL n)))))) rfl (fn_close cs h.2.1 h.2.2.1 (by omega))
    refine ⟨.ow (.fz (.int (i + 1 + (twds b).length : Nat))), .ow (.fz (.str (W (41 :: TL.numL n)))), ?_⟩
    have e0 : enD i (WsD ([40] :: (twds b ++ [41 :: TL.numL n]))) = [.tup [.int (i : Int), .str (W [40])]] ++ (enD (i + 1) (WsD (twds b)) ++ [.tup [.int ((i + 1 + (twds b).length : Nat) : Int), .str (W (41 :: TL.numL n))]]) := by
      show enD i (.str (W [40]) :: WsD (twds b ++ [41 :: TL.numL n])) = _
      rw [enD_cons, WsD_app, enD_app, WsD_len]
      rfl
    rw [e0]
    exact o1.app (r1.app c1)
theorem fn_trs (cs : Nat → Addr) {ws : D} {ns : List (List Nat)} (hns : ∀ w ∈ ns, NmOk w) : ∀ (l : List Tr) (i d : Nat) (e : Bool) (x4 x5 : S), toks ns l → d + tdps l ≤ 12 → i + (twds l).length + d ≤ 1000 → ∃ y4 y5, Runs fwG (m_first_wrong_b1 cs) (enD i (WsD (twds l))) (fnSD ws (.lst (WsD ns)) d e x4 x5) (fnSD ws (.lst (WsD ns)) d (if l = [] then e else false) y4 y5)
  | [], i, d, e, x4, x5, _, _, _ => ⟨x4, x5, by rw [if_pos rfl]; exact .nil⟩
  | a :: r, i, d, e, x4, x5, h, hd, hl => by
    rw [toks] at h
    rw [tdps] at hd
    rw [twds, List.length_append] at hl
    obtain ⟨y4, y5, r1⟩ := fn_tr cs hns a i d e x4 x5 h.1 (by omega) (by omega)
    obtain ⟨z4, z5, r2⟩ := fn_trs cs hns r (i + (twd a).length) d false y4 y5 h.2 (by omega) (by omega)
    refine ⟨z4, z5, ?_⟩
    rw [twds, WsD_app, enD_app, WsD_len, if_neg (by simp)]
    have e2 : (if r = [] then false else false) = false := by split <;> rfl
    rw [e2] at r2
    exact r1.app r2
end
theorem first_wrong_ns (cs : Nat → Addr) {ns : List (List Nat)} (hns : ∀ w ∈ ns, NmOk w) {l : List Tr} (h : toks ns l) (hd : tdps l ≤ 12) (hl : (twds l).length ≤ 900) : m_first_wrong cs [.fz (.lst (WsD (twds l))), .fz (.lst (WsD ns))] = .ok (.fz .non) ⟨[], [.fz (.lst (WsD (twds l))), .fz (.lst (WsD ns))]⟩ := by
  obtain ⟨y4, y5, r⟩ := fn_trs cs (ws := .lst (WsD (twds l))) hns l 0 0 false .un .un h (by omega) (by omega)
  have e2 : (if l = [] then false else false) = false := by split <;> rfl
  rw [e2] at r
  have s17 : m_first_wrong_17 cs (fnSD (.lst (WsD (twds l))) (.lst (WsD ns)) 0 false .un .un) = .nx (fnSD (.lst (WsD (twds l))) (.lst (WsD ns)) 0 false y4 y5) := r.all
  have t18 : mTest (mOp dEq (mVar 2) (mC (.int 0))) (fnSD (.lst (WsD (twds l))) (.lst (WsD ns)) 0 false y4 y5) = .ok true (fnSD (.lst (WsD (twds l))) (.lst (WsD ns)) 0 false y4 y5) := op_t (x := .int 0) (y := .int 0) rfl rfl (by unfold dEq; rw [eqB_int]; rfl)
  have s18 : m_first_wrong_18 cs (fnSD (.lst (WsD (twds l))) (.lst (WsD ns)) 0 false y4 y5) = .rt (.fz .non) (fnSD (.lst (WsD (twds l))) (.lst (WsD ns)) 0 false y4 y5) := ret_d (by rw [ifd_b t18, if_pos rfl]; rfl)
  have s1 : m_first_wrong_1 cs ⟨[.ow (.fz (.lst (WsD (twds l)))), .ow (.fz (.lst (WsD ns))), .un, .un, .un, .un], [.fz (.lst (WsD (twds l))), .fz (.lst (WsD ns))]⟩ = .nx ⟨[.ow (.fz (.lst (WsD (twds l)))), .ow (.fz (.lst (WsD ns))), .ow (.fz (.int 0)), .un, .un, .un], [.fz (.lst (WsD (twds l))), .fz (.lst (WsD ns))]⟩ := rfl
  have s2 : m_first_wrong_2 cs ⟨[.ow (.fz (.lst (WsD (twds l)))), .ow (.fz (.lst (WsD ns))), .ow (.fz (.int 0)), .un, .un, .un], [.fz (.lst (WsD (twds l))), .fz (.lst (WsD ns))]⟩ = .nx (fnSD (.lst (WsD (twds l))) (.lst (WsD ns)) 0 false .un .un) := rfl
  exact def_rt (sd0 := ⟨[.ow (.fz (.lst (WsD (twds l)))), .ow (.fz (.lst (WsD ns))), .un, .un, .un, .un], [.fz (.lst (WsD (twds l))), .fz (.lst (WsD ns))]⟩) rfl (seq_nx s1 (seq_nx s2 (seq_nx s17 s18)))
theorem cut_last (l : List Nat) (c : Nat) : cutL (l ++ [c]) (some (-1)) none = [c] := by
  have e : HT.sIx (l ++ [c]).length 0 (some (-1)) = l.length := by
    show (if (-1 : Int) < 0 then ((-1 : Int) + ((l ++ [c]).length : Nat)).toNat else min (-1 : Int).toNat (l ++ [c]).length) = _
    rw [if_pos (by decide), List.length_append, List.length_singleton]
    omega
  unfold cutL
  rw [e, show HT.sIx (l ++ [c]).length (l ++ [c]).length none = (l ++ [c]).length from rfl, List.drop_left' rfl, List.take_of_length_le (by rw [List.length_append]; simp)]
theorem cut_init (l : List Nat) (c : Nat) : cutL (l ++ [c]) none (some (-1)) = l := by
  have e : HT.sIx (l ++ [c]).length (l ++ [c]).length (some (-1)) = l.length := by
    show (if (-1 : Int) < 0 then ((-1 : Int) + ((l ++ [c]).length : Nat)).toNat else min (-1 : Int).toNat (l ++ [c]).length) = _
    rw [if_pos (by decide), List.length_append, List.length_singleton]
    omega
  unfold cutL
  rw [e, show HT.sIx (l ++ [c]).length 0 none = 0 from rfl]
  simp
theorem lit_colon : Str.ofString ":" = W [58] := lit_ _ _ rfl
theorem cutI_S {a : SD → ER D} {sd sd1 : SD} {w : List Nat} {c : Nat} (hw : w.length ≤ 1000) (h : a sd = .ok (.str (W (w ++ [c]))) sd1) : mCutX a oNone (oSome (mUn dNeg (mC (.int 1)))) sd = .ok (.str (W w)) sd1 := by
  unfold mCutX
  rw [h]
  show (if (W (w ++ [c])).length ≤ 16777216 then ER.ok (D.str (cutS (W (w ++ [c])) none (some (-1)))) sd1 else .bad) = _
  rw [W_len, if_pos (by rw [List.length_append, List.length_singleton]; omega), cutS_W, cut_init]
theorem cutJ_S {a : SD → ER D} {sd sd1 : SD} {w : List Nat} {c : Nat} (hw : w.length ≤ 1000) (h : a sd = .ok (.str (W (w ++ [c]))) sd1) : mCutX a (oSome (mUn dNeg (mC (.int 1)))) oNone sd = .ok (.str (W [c])) sd1 := by
  unfold mCutX
  rw [h]
  show (if (W (w ++ [c])).length ≤ 16777216 then ER.ok (D.str (cutS (W (w ++ [c])) (some (-1)) none)) sd1 else .bad) = _
  rw [W_len, if_pos (by rw [List.length_append, List.length_singleton]; omega), cutS_W, cut_last]
theorem is_title_ok (cs : Nat → Addr) {w : List Nat} {ns : List (List Nat)} (h : NmOk w) (hn : w ∉ ns) : m_is_title cs [.fz (.str (W (w ++ [58]))), .fz (.lst (WsD ns))] = .ok (.fz (.bl true)) ⟨[], [.fz (.str (W (w ++ [58]))), .fz (.lst (WsD ns))]⟩ := by
  have h1 := h.lo
  have h2 := h.hi
  let T := fun x2 x3 : S => (⟨[.ow (.fz (.str (W (w ++ [58])))), .ow (.fz (.lst (WsD ns))), x2, x3], [.fz (.str (W (w ++ [58]))), .fz (.lst (WsD ns))]⟩ : SD)
  have s1 : m_is_title_1 cs (T .un .un) = .nx (T (.ow (.fz (.str (W w)))) .un) := set_d (l := (T .un .un).sl) (cutI_S (w := w) (c := 58) (by omega) rfl) (by show 2 < 4; decide)
  generalize hS : T (.ow (.fz (.str (W w)))) .un = sd at *
  have v0 : mVar 0 sd = .ok (.str (W (w ++ [58]))) sd := by rw [← hS]; rfl
  have v1 : mVar 1 sd = .ok (.lst (WsD ns)) sd := by rw [← hS]; rfl
  have v2 : mVar 2 sd = .ok (.str (W w)) sd := by rw [← hS]; rfl
  have ta : mTest (mOp dNe (mCutX (mVar 0) (oSome (mUn dNeg (mC (.int 1)))) (oNone)) (mC (.str ":"))) sd = .ok false sd := op_t (cutJ_S (w := w) (c := 58) (by omega) v0) (y := .str (W [58])) (by rw [← lit_colon]; rfl) (by
    rw [ne_S, decide_eq_true rfl]; rfl)
  have ch := chain_le (a := mC (.int 2)) (b := mCall dLen (mCons (mVar 2) mNil)) (c := mC (.int 8)) (sd := sd) (i := 2) (j := w.length) (k := 8) rfl (len_v (by omega) v2) rfl
  rw [decide_eq_true (show (2 : Int) ≤ (w.length : Nat) by omega), decide_eq_true (show ((w.length : Nat) : Int) ≤ 8 by omega)] at ch
  have tc : mTest (mOp (dIn false) (mVar 2) (mVar 1)) sd = .ok false sd := op_t v2 v1 (by rw [in_ws, decide_eq_false hn]; rfl)
  have s3 : m_is_title_3 cs sd = .nx sd := by
    unfold m_is_title_3
    rw [if_b (or_r ta (or_r (not_b (test_v ch)) tc)), if_neg Bool.false_ne_true]
    rfl
  have c1 : m_is_title_c1 cs sd = .ok (.ol ((w.map fun _ => D.bl true).map .fz)) sd := by
    rw [← hS]
    exact mComp_map w (fun c => D.str (W [c])) (fun _ => D.bl true) rfl (by omega) fun x hx => ⟨T (.ow (.fz (.str (W w)))) (.ow (.fz (.str (W [x])))), rfl, rfl, op_v (f := dIn false) (x := .str (W [x])) rfl rfl (in_abc (h.ab x hx))⟩
  have s4 : m_is_title_4 cs sd = .rt (.fz (.bl true)) sd := ret_d (call_v (cons_v (view_v c1) rfl) (by
    rw [show (w.map fun _ => D.bl true) = (w.map fun _ => true).map D.bl from by rw [List.map_map]; rfl, all_v]
    congr 2
    simp))
  refine (def_rt (sd0 := T .un .un) rfl (seq_nx s1 (seq_nx s3 s4))).trans ?_
  rw [← hS]
theorem wrong_last (cs : Nat → Addr) {ns : List (List Nat)} (hns : ∀ w ∈ ns, NmOk w) {l : List Tr} (h : toks ns l) (hd : tdps l ≤ 12) (hl : (twds l).length ≤ 900) : m_wrong_word cs [.fz (.lst (WsD (twds l))), .fz (.lst (WsD ns)), .fz (.bl true)] = .ok (.fz .non) ⟨[], [.fz (.lst (WsD (twds l))), .fz (.lst (WsD ns)), .fz (.bl true)]⟩ := by
  have fw := first_wrong_ns cs hns h hd hl
  generalize WsD (twds l) = ws at *
  let T : SD := ⟨[.ow (.fz (.lst ws)), .ow (.fz (.lst (WsD ns))), .ow (.fz (.bl true)), .un], [.fz (.lst ws), .fz (.lst (WsD ns)), .fz (.bl true)]⟩
  have s2 : m_wrong_word_2 cs T = .rt (.fz .non) T := by
    unfold m_wrong_word_2
    rw [if_b (test_v (sd := T) (v := true) (a := mVar 2) (sd1 := T) rfl), if_pos rfl]
    exact ret_o (call0_v (xs := [.lst ws, .lst (WsD ns)]) rfl fw)
  unfold m_wrong_word
  refine def_rt (n := 4) (ts := [.fz (.lst ws), .fz (.lst (WsD ns)), .fz (.bl true)]) (sd0 := T) (sd := T) rfl ?_
  unfold sSeq
  rw [s2]
  rfl
theorem cutr_L {a : SD → ER D} {sd sd1 : SD} {x : D} {r : List D} (h : a sd = .ok (.lst (x :: r)) sd1) : mCutX a (oSome (mC (.int 1))) oNone sd = .ok (.lst r) sd1 := by
  unfold mCutX
  rw [h]
  show ER.ok (D.lst (cutL (x :: r) (some 1) none)) sd1 = _
  rw [cut_from1]
  rfl
theorem wrong_titled (cs : Nat → Addr) {ns : List (List Nat)} (hns : ∀ w ∈ ns, NmOk w) {w : List Nat} (hw : NmOk w) (hn : w ∉ ns) {l : List Tr} (h : toks ns l) (hd : tdps l ≤ 12) (hl : (twds l).length ≤ 900) (ne : l ≠ []) :
    m_wrong_word cs [.fz (.lst (WsD ((w ++ [58]) :: twds l))), .fz (.lst (WsD ns)), .fz (.bl false)] = .ok (.fz .non) ⟨[], [.fz (.lst (WsD ((w ++ [58]) :: twds l))), .fz (.lst (WsD ns)), .fz (.bl false)]⟩ := by
  have fw := first_wrong_ns cs hns h hd hl
  have ti := is_title_ok cs hw hn
  have low : Low ((w ++ [58]) :: twds l) := fun x hx c hc => by
    rcases List.mem_cons.mp hx with rfl | hx
    · rcases List.mem_append.mp hc with hc | hc
      · have := hw.ab c hc; omega
      · rw [List.mem_singleton.mp hc]; decide
    · exact (twds_wd hns l h x hx).2.2.2.2 c hc
  have bp : 1 ≤ (WsD (twds l)).length := by
    rw [WsD_len]
    cases l with
    | nil => exact absurd rfl ne
    | cons x r => rw [twds, List.length_append]; have := twd_pos x; omega
  rw [show WsD ((w ++ [58]) :: twds l) = .str (W (w ++ [58])) :: WsD (twds l) from rfl]
  generalize hws : WsD (twds l) = ws at *
  let T := fun x3 : S => (⟨[.ow (.fz (.lst (.str (W (w ++ [58])) :: ws))), .ow (.fz (.lst (WsD ns))), .ow (.fz (.bl false)), x3], [.fz (.lst (.str (W (w ++ [58])) :: ws)), .fz (.lst (WsD ns)), .fz (.bl false)]⟩ : SD)
  have s2 : m_wrong_word_2 cs (T .un) = .nx (T .un) := by
    unfold m_wrong_word_2
    rw [if_b (test_v (sd := T .un) (v := false) (a := mVar 2) (sd1 := T .un) rfl), if_neg Bool.false_ne_true]
    rfl
  have t4 : mOr (mTest (mOp dEq (mVar 0) (mView (mLst (mNil))))) (mNot (mTest (mView (mCall0 (m_is_title cs) (mCons (mOp dIx (mVar 0) (mC (.int 0))) (mCons (mVar 1) (mNil))))))) (T .un) = .ok false (T .un) :=
    or_r (op_t (x := .lst (.str (W (w ++ [58])) :: ws)) (y := .lst []) rfl (lst_v (xs := []) rfl (by decide)) (by
      unfold dEq
      rw [← hws, show D.lst (.str (W (w ++ [58])) :: WsD (twds l)) = .lst (WsD ((w ++ [58]) :: twds l)) from rfl, show D.lst [] = .lst (WsD []) from rfl, eqB_ws low (fun _ z => (by cases z)), decide_eq_false (by simp)]
      rfl))
      (not_b (test_v (call2_v (a := mOp dIx (mVar 0) (mC (.int 0))) (b := mVar 1) (sd := T .un) (x := .str (W (w ++ [58]))) (z := .lst (WsD ns)) (op_v (x := .lst (.str (W (w ++ [58])) :: ws)) (y := .int 0) rfl rfl (by
        show atI (D.str (W (w ++ [58])) :: ws) ((0 : Nat) : Int) = _
        exact atI_of rfl)) rfl ti)))
  have s4 : m_wrong_word_4 cs (T .un) = .nx (T .un) := by
    unfold m_wrong_word_4
    rw [if_b t4, if_neg Bool.false_ne_true]
    rfl
  have t6 : mTest (mOp dEq (mCall dLen (mCons (mVar 0) (mNil))) (mC (.int 1))) (T .un) = .ok false (T .un) := op_t (x := .int (ws.length + 1 : Nat)) (y := .int 1) (call_v (xs := [.lst (.str (W (w ++ [58])) :: ws)]) rfl rfl) rfl (by
    unfold dEq
    rw [eqB_int]
    show some (D.bl _) = _
    congr 2
    exact decide_eq_false (by omega))
  have s6 : m_wrong_word_6 cs (T .un) = .nx (T .un) := by
    unfold m_wrong_word_6
    rw [if_b t6, if_neg Bool.false_ne_true]
    rfl
  have s7 : m_wrong_word_7 cs (T .un) = .nx (T (.ow (.fz .non))) := set_d (l := (T .un).sl) (d := .non) (vwt_v (t := .fz .non) (call0_v (xs := [.lst ws, .lst (WsD ns)]) (cons_v (cutr_L (x := .str (W (w ++ [58]))) rfl) (cons_v (x := .lst (WsD ns)) rfl rfl)) fw)) (by show 3 < 4; decide)
  have t8 : mTest (mOp dIsN (mVar 3) (mC .non)) (T (.ow (.fz .non))) = .ok true (T (.ow (.fz .non))) := op_t (x := .non) (y := .non) rfl rfl rfl
  have s8 : m_wrong_word_8 cs (T (.ow (.fz .non))) = .rt (.fz .non) (T (.ow (.fz .non))) := ret_d (by rw [ifd_b t8, if_pos rfl]; rfl)
  exact def_rt (sd0 := T .un) rfl (seq_nx s2 (seq_nx s4 (seq_nx s6 (seq_nx s7 s8))))
noncomputable def LD (l : List Tr) : D := .lst (WsD (twds l))
/-- the words of the row k -/
noncomputable def rowWs (names : List (List Nat)) (lines : List (List Tr)) (k : Nat) : List (List Nat) := match names[k]? with
  | some w => (w ++ [58]) :: twds (lines.getD k [])
  | none => twds (lines.getD k [])
noncomputable def rowsT (names : List (List Nat)) (lines : List (List Tr)) : List (List Nat) := (List.range (names.length + 1)).map fun k => TL.joinL [32] (rowWs names lines k)
noncomputable def srcT (names : List (List Nat)) (lines : List (List Tr)) : List Nat := TL.joinL [10] (rowsT names lines)
theorem at_neg1 {α : Type} (pre : List α) (x : α) : atI (pre ++ [x]) (-1) = some x := by
  unfold atI ixN
  have : ((pre ++ [x]).length : Int) = pre.length + 1 := by simp
  rw [if_neg (by omega), if_pos (by omega), show ((-1 : Int) + ((pre ++ [x]).length : Nat)).toNat = pre.length by omega]
  simp
theorem lit_nl : Str.ofString "\n" = W [10] := lit_ _ _ rfl
theorem lit_cs : Str.ofString ": " = W [58, 32] := lit_ _ _ rfl
theorem twds_ne {l : List Tr} (h : l ≠ []) : twds l ≠ [] := by
  cases l with
  | nil => exact absurd rfl h
  | cons a r =>
    rw [twds]
    have := twd_pos a
    intro z
    rw [(List.append_eq_nil_iff.mp z).1] at this
    simp at this
theorem joinL_two (p : List Nat) {ws : List (List Nat)} (h : ws ≠ []) (s : List Nat) : TL.joinL s (p :: ws) = p ++ (s ++ TL.joinL s ws) := by
  cases ws with
  | nil => exact absurd rfl h
  | cons q r => rfl
theorem Src.line {names : List (List Nat)} {lines : List (List Tr)} (s : Src names lines) {k : Nat} (hk : k ≤ names.length) : lines[k]? = some (lines.getD k []) := by
  have hk2 : k < lines.length := by rw [s.len]; omega
  rw [List.getD_eq_getElem?_getD, List.getElem?_eq_getElem hk2]
  rfl
theorem Src.row {names : List (List Nat)} {lines : List (List Tr)} (s : Src names lines) {k : Nat} (hk : k ≤ names.length) : (∀ w ∈ rowWs names lines k, WdOk w) ∧ (rowWs names lines k).length ≤ 41 := by
  obtain ⟨o1, o2, o3, o4⟩ := s.ok k _ (s.line hk)
  have tw := twds_wd (fun w hw => s.nm w (take_in hw)) _ o1
  unfold rowWs
  split
  · rename_i w e
    have nw := s.nm w (List.mem_of_getElem? e)
    refine ⟨fun x hx => ?_, by rw [List.length_cons]; omega⟩
    rcases List.mem_cons.mp hx with rfl | hx
    · have h1 := nw.hi
      refine ⟨fun z => ?_, fun z => ?_, by simp, by rw [List.length_append, List.length_singleton]; omega, fun c z => ?_⟩ <;> rcases List.mem_append.mp z with z | z
      · have := nw.ab _ z; omega
      · rw [List.mem_singleton] at z; omega
      · have := nw.ab _ z; omega
      · rw [List.mem_singleton] at z; omega
      · have := nw.ab _ z; omega
      · rw [List.mem_singleton] at z; omega
    · exact tw x hx
  · exact ⟨tw, by omega⟩
theorem Src.rowlen {names : List (List Nat)} {lines : List (List Tr)} (s : Src names lines) {k : Nat} (hk : k ≤ names.length) : (TL.joinL [32] (rowWs names lines k)).length ≤ 1700 := by
  obtain ⟨h1, h2⟩ := s.row hk
  have := joinL_len _ fun w hw => (h1 w hw).2.2.2.1
  omega
theorem mem_joinL {c s : Nat} (hc : c ≠ s) : ∀ ws : List (List Nat), c ∈ TL.joinL [s] ws → ∃ w ∈ ws, c ∈ w
  | [], h => by cases h
  | [p], h => ⟨p, by simp, h⟩
  | p :: q :: r, h => by
    have h : c ∈ p ++ ([s] ++ TL.joinL [s] (q :: r)) := h
    rcases List.mem_append.mp h with h | h
    · exact ⟨p, by simp, h⟩
    · rcases List.mem_append.mp h with h | h
      · exact absurd (List.mem_singleton.mp h) hc
      · obtain ⟨w, h1, h2⟩ := mem_joinL hc (q :: r) h
        exact ⟨w, List.mem_cons_of_mem _ h1, h2⟩
theorem Src.row10 {names : List (List Nat)} {lines : List (List Tr)} (s : Src names lines) {k : Nat} (hk : k ≤ names.length) : (10 : Nat) ∉ TL.joinL [32] (rowWs names lines k) := fun z => by
  obtain ⟨w, h1, h2⟩ := mem_joinL (by decide) _ z
  exact ((s.row hk).1 w h1).2.1 h2
theorem enD_ws (i : Nat) : ∀ ws : List (List Nat), enD i (WsD ws) = (ws.zipIdx i).map fun p => .tup [.int (p.2 : Int), .str (W p.1)] := fun ws => by
  unfold enD WsD
  rw [List.zipIdx_map, List.map_map]
  rfl
theorem ienum_v {a : SD → ER D} {sd sd1 : SD} {xs : List D} (h : a sd = .ok (.lst xs) sd1) : iEnumL (mCons a mNil) sd = .ok (enD 0 xs) sd1 := by
  unfold iEnumL
  rw [cons_v h (r := mNil) rfl]
  rfl
theorem mem_zip0 {α : Type} {l : List α} {p : α × Nat} (h : p ∈ l.zipIdx) : l[p.2]? = some p.1 := List.mem_zipIdx_iff_getElem?.mp h
theorem names_rows {names : List (List Nat)} {lines : List (List Tr)} : (names.zipIdx.map fun p => TL.joinL [32] ((p.1 ++ [58]) :: twds (lines.getD p.2 []))) = (List.range names.length).map fun k => TL.joinL [32] (rowWs names lines k) := by
  apply List.ext_getElem?
  intro k
  rw [List.getElem?_map, List.getElem?_map, List.getElem?_zipIdx]
  by_cases hk : k < names.length
  · rw [List.getElem?_eq_getElem hk, List.getElem?_range hk]
    show some (TL.joinL [32] ((names[k] ++ [58]) :: twds (lines.getD (0 + k) []))) = some (TL.joinL [32] (rowWs names lines k))
    unfold rowWs
    rw [List.getElem?_eq_getElem hk, Nat.zero_add]
  · rw [List.getElem?_eq_none (by omega), List.getElem?_eq_none (by rw [List.length_range]; omega)]
    rfl
theorem law_text_ok (cs : Nat → Addr) {names : List (List Nat)} {lines : List (List Tr)} (s : Src names lines) : m__law_text cs [.fz (.lst (WsD names)), .fz (.lst (lines.map LD))] = .ok (.fz (.str (W (srcT names lines)))) ⟨[], [.fz (.lst (WsD names)), .fz (.lst (lines.map LD))]⟩ := by
  let T := fun x2 x3 x4 : S => (⟨[.ow (.fz (.lst (WsD names))), .ow (.fz (.lst (lines.map LD))), x2, x3, x4], [.fz (.lst (WsD names)), .fz (.lst (lines.map LD))]⟩ : SD)
  have few := s.few
  have c1 : m__law_text_c1 cs (T .un .un .un) = .ok (.ol ((names.zipIdx.map fun p => D.str (W (TL.joinL [32] ((p.1 ++ [58]) :: twds (lines.getD p.2 []))))).map .fz)) (T .un .un .un) := by
    refine mComp_map names.zipIdx (fun p => .tup [.int (p.2 : Int), .str (W p.1)]) (fun p => D.str (W (TL.joinL [32] ((p.1 ++ [58]) :: twds (lines.getD p.2 []))))) ?_ (by rw [List.length_zipIdx]; omega) fun p hp => ⟨T .un (.ow (.fz (.int p.2))) (.ow (.fz (.str (W p.1)))), rfl, rfl, ?_⟩
    · rw [← enD_ws]
      exact ienum_v rfl
    · have e := mem_zip0 hp
      have hk : p.2 < names.length := (List.getElem?_eq_some_iff.mp e).1
      have nw := s.nm _ (List.mem_of_getElem? e)
      have hl := s.line (k := p.2) (by omega)
      obtain ⟨o1, o2, o3, o4⟩ := s.ok _ _ hl
      have tw := twds_wd (fun w hw => s.nm w (take_in hw)) _ o1
      have ne := twds_ne (o4 hk)
      generalize lines.getD p.2 [] = l at *
      have jl := joinL_len (twds l) fun w hw => (tw w hw).2.2.2.1
      have ix : mOp dIx (mVar 1) (mVar 3) (T .un (.ow (.fz (.int p.2))) (.ow (.fz (.str (W p.1))))) = .ok (LD l) (T .un (.ow (.fz (.int p.2))) (.ow (.fz (.str (W p.1))))) := op_v (x := .lst (lines.map LD)) (y := .int p.2) rfl rfl (by
        show atI (lines.map LD) (p.2 : Int) = _
        exact atI_of (by rw [List.getElem?_map, hl]; rfl))
      have jn := bm_v (t := D.isS) (a := mC (.str " ")) (x := .str (W [32])) (sd := T .un (.ow (.fz (.int p.2))) (.ow (.fz (.str (W p.1))))) (by rw [← lit_sp]; rfl) rfl (cons_v ix (r := mNil) rfl) (join_d (sl := [32]) (ws := twds l) (L := 40) (fun w hw => (tw w hw).2.2.2.1) (by rw [List.length_singleton]; omega))
      have o1 : mOp dAdd (mVar 4) (mC (.str ": ")) (T .un (.ow (.fz (.int p.2))) (.ow (.fz (.str (W p.1))))) = .ok (.str (W (p.1 ++ [58, 32]))) (T .un (.ow (.fz (.int p.2))) (.ow (.fz (.str (W p.1))))) := op_v (f := dAdd) (x := .str (W p.1)) (y := .str (W [58, 32])) rfl (by rw [← lit_cs]; rfl) (add_S (by have := nw.hi; simp; omega))
      have o2 := op_v (f := dAdd) o1 jn (add_S (by have := nw.hi; simp; omega))
      refine o2.trans ?_
      rw [joinL_two _ ne]
      simp
  have r1 : (names.zipIdx.map fun p => D.str (W (TL.joinL [32] ((p.1 ++ [58]) :: twds (lines.getD p.2 []))))) = WsD ((List.range names.length).map fun k => TL.joinL [32] (rowWs names lines k)) := by
    rw [← names_rows]
    unfold WsD
    rw [List.map_map]
    rfl
  rw [r1] at c1
  generalize hA : ((List.range names.length).map fun k => TL.joinL [32] (rowWs names lines k)) = A at *
  have s1 : m__law_text_1 cs (T .un .un .un) = .nx (T (.ow (.fz (.lst (WsD A)))) .un .un) := set_d (l := (T .un .un .un).sl) (view_v c1) (by show 2 < 5; decide)
  have hl := s.line (Nat.le_refl _)
  obtain ⟨o1, o2, o3, o4⟩ := s.ok _ _ hl
  have tw := twds_wd (fun w hw => s.nm w (take_in hw)) _ o1
  obtain ⟨pre, e1⟩ : ∃ pre, lines = pre ++ [lines.getD names.length []] := by
    have ne : lines ≠ [] := fun z => by have := s.len; rw [z] at this; simp at this
    refine ⟨lines.dropLast, ?_⟩
    have e := List.dropLast_concat_getLast ne
    have : lines.getLast ne = lines.getD names.length [] := by
      have q := List.getLast?_eq_some_getLast ne
      rw [List.getLast?_eq_getElem?, s.len, Nat.add_sub_cancel, hl] at q
      exact (Option.some.inj q).symm
    rw [← this]
    exact e.symm
  have rl : TL.joinL [32] (twds (lines.getD names.length [])) = TL.joinL [32] (rowWs names lines names.length) := by
    unfold rowWs
    rw [List.getElem?_eq_none (Nat.le_refl _)]
  have whole : srcT names lines = TL.joinL [10] (A ++ [TL.joinL [32] (twds (lines.getD names.length []))]) := by
    unfold srcT rowsT
    rw [List.range_succ, List.map_append, hA, rl]
    rfl
  have alen : ∀ w ∈ A ++ [TL.joinL [32] (twds (lines.getD names.length []))], w.length ≤ 1700 := fun w hw => by
    rcases List.mem_append.mp hw with hw | hw
    · rw [← hA] at hw
      obtain ⟨k, hk, rfl⟩ := List.mem_map.mp hw
      exact s.rowlen (by have := List.mem_range.mp hk; omega)
    · rw [List.mem_singleton.mp hw, rl]
      exact s.rowlen (Nat.le_refl _)
  have al : A.length = names.length := by rw [← hA, List.length_map, List.length_range]
  generalize lines.getD names.length [] = l at *
  generalize hS : T (.ow (.fz (.lst (WsD A)))) .un .un = sd at *
  have v1 : mVar 1 sd = .ok (.lst (lines.map LD)) sd := by rw [← hS]; rfl
  have v2 : mVar 2 sd = .ok (.lst (WsD A)) sd := by rw [← hS]; rfl
  have ix : mOp dIx (mVar 1) (mUn dNeg (mC (.int 1))) sd = .ok (LD l) sd := op_v v1 (y := .int (-1)) rfl (by
    show atI (lines.map LD) (-1) = _
    rw [e1, List.map_append]
    exact at_neg1 _ _)
  have jn := bm_v (t := D.isS) (a := mC (.str " ")) (x := .str (W [32])) (sd := sd) (by rw [← lit_sp]; rfl) rfl (cons_v ix (r := mNil) rfl) (join_d (sl := [32]) (ws := twds l) (L := 40) (fun w hw => (tw w hw).2.2.2.1) (by rw [List.length_singleton]; omega))
  have ct := cat_v (qfz_v v2) (qnew_v (lst_o (cons_v jn (r := mNil) rfl) (by show 1 ≤ _; decide))) (by rw [WsD_len]; show _ + 1 ≤ _; omega)
  have e3 : WsD A ++ [D.str (W (TL.joinL [32] (twds l)))] = WsD (A ++ [TL.joinL [32] (twds l)]) := by rw [WsD_app]; rfl
  rw [e3] at ct
  have j2 := bm_v (t := D.isS) (a := mC (.str "\n")) (x := .str (W [10])) (sd := sd) (by rw [← lit_nl]; rfl) rfl (cons_v (view_v ct) (r := mNil) rfl) (join_d (sl := [10]) (ws := A ++ [TL.joinL [32] (twds l)]) (L := 1700) alen (by rw [List.length_singleton, List.length_append, List.length_singleton]; omega))
  rw [← whole] at j2
  refine (def_rt (sd0 := T .un .un .un) (sd := sd) rfl (seq_nx s1 (ret_d j2))).trans ?_
  rw [← hS]
theorem goFor_count {g : D → SD → Option SD} {body : SD → Fl} (e : Nat → D) (I : Nat → SD → Prop) (n : Nat) (h : ∀ k < n, ∀ sd, I k sd → ∃ sda sdb, g (e k) sd = some sda ∧ body sda = .nx sdb ∧ I (k + 1) sdb) : ∀ m k sd, k + m = n → I k sd → ∃ sd', goFor g body ((List.range' k m).map e) sd = .nx sd' ∧ I n sd'
  | 0, k, sd, hk, hI => ⟨sd, rfl, by rw [← hk]; exact hI⟩
  | m + 1, k, sd, hk, hI => by
    obtain ⟨sda, sdb, h1, h2, h3⟩ := h k (by omega) sd hI
    obtain ⟨sd', q1, q2⟩ := goFor_count e I n h m (k + 1) sdb (by omega) h3
    refine ⟨sd', ?_, q2⟩
    rw [List.range'_succ, List.map_cons, go_one h1 h2]
    exact q1
theorem for_count {it : SD → ER (List D)} {g : D → SD → Option SD} {body : SD → Fl} {sd sd1 : SD} (e : Nat → D) (I : Nat → SD → Prop) {n : Nat} (hi : it sd = .ok ((List.range n).map e) sd1) (h0 : I 0 sd1) (h : ∀ k < n, ∀ sd, I k sd → ∃ sda sdb, g (e k) sd = some sda ∧ body sda = .nx sdb ∧ I (k + 1) sdb) : ∃ sd', sFor it g body sd = .nx sd' ∧ I n sd' := by
  obtain ⟨sd', q1, q2⟩ := goFor_count e I n h n 0 sd1 (by omega) h0
  refine ⟨sd', ?_, q2⟩
  unfold sFor
  rw [hi, List.range_eq_range']
  exact q1
theorem enD_range (n : Nat) (f : Nat → D) : enD 0 ((List.range n).map f) = (List.range n).map fun k => .tup [.int (k : Nat), f k] := by
  unfold enD
  rw [List.zipIdx_map, List.map_map, List.zipIdx_eq_zip_range', List.length_range, ← List.range_eq_range']
  have : ∀ l : List Nat, (l.zip l).map ((fun p : D × Nat => D.tup [.int (p.2 : Int), p.1]) ∘ Prod.map f id) = l.map fun k => D.tup [.int (k : Nat), f k] := fun l => by
    induction l with
    | nil => rfl
    | cons a r ih => rw [List.zip_cons_cons, List.map_cons, List.map_cons, ih]; rfl
  exact this _
theorem bml_v {t : D → Bool} {f : D → List D → Option (List D)} {a : SD → ER D} {b : SD → ER (List D)} {sd sd1 sd2 : SD} {x : D} {xs ys : List D} (ha : a sd = .ok x sd1) (ht : t x = true) (hb : b sd1 = .ok xs sd2) (hf : f x xs = some ys) : mBmL t f a b sd = .ok (.ol (ys.map .fz)) sd2 := by
  unfold mBmL
  rw [ha]
  show (if t x = true then (b sd1).bind (fun ds sd2 => ER.opt ((f x ds).map fun cs => OT.ol (cs.map .fz)) sd2) else .bad) = _
  rw [if_pos ht, hb]
  show ER.opt ((f x xs).map fun cs => OT.ol (cs.map .fz)) sd2 = _
  rw [hf]
  rfl
theorem cutr_Q {a : SD → ER (List D)} {sd sd1 : SD} {x : D} {r : List D} (h : a sd = .ok (x :: r) sd1) : mCut a (oSome (mC (.int 1))) oNone sd = .ok (.ol (r.map .fz)) sd1 := by
  unfold mCut
  rw [h]
  show ER.ok (OT.ol ((cutL (x :: r) (some 1) none).map .fz)) sd1 = _
  rw [cut_from1]
  rfl
theorem lend_v {i : Nat} {m : SD → ER D} {sd s1 : SD} {ds : List D} {d : D} (h : sd.sl[i]? = some (.ow (.ol (ds.map .fz)))) (hm : m (lentO sd i ds) = .ok d s1) (hn : d.nl = true) : mLendO i m sd = .ok d sd := by
  unfold mLendO
  rw [h]
  dsimp only
  rw [fzOf_map]
  dsimp only
  rw [hm]
  dsimp only
  rw [if_pos hn]
noncomputable def lS (src : List Nat) (rows ns : List (List Nat)) (fd : List (List (List Nat))) (x4 x5 x6 x7 x8 : S) : SD := ⟨[.ow (.fz (.str (W src))), .ow (.fz (.lst (WsD rows))), .ow (.ol ((WsD ns).map .fz)), .ow (.ol ((fd.map fun ws => D.lst (WsD ws)).map .fz)), x4, x5, x6, x7, x8], [.fz (.str (W src))]⟩
section
variable (cs : Nat → Addr) {src : List Nat} {rows ns : List (List Nat)} {fd : List (List (List Nat))} {k : Nat} {ws : List (List Nat)} {x6 x7 x8 : S}
theorem li_head {last : Bool} (hk : k ≤ 19) (hr : decide (k = rows.length - 1) = last) (r1 : 1 ≤ rows.length) (h1 : ws.length ≤ 1000) (h2 : ∀ w ∈ ws, WdOk w) (h3 : m_wrong_word cs [.fz (.lst (WsD ws)), .fz (.lst (WsD ns)), .fz (.bl last)] = .ok (.fz .non) ⟨[], [.fz (.lst (WsD ws)), .fz (.lst (WsD ns)), .fz (.bl last)]⟩) {rest : SD → Fl} {r : Fl} (hrest : rest (lS src rows ns fd (.ow (.fz (.int k))) (.ow (.fz (.str (W (TL.joinL [32] ws))))) (.ow (.fz (.lst (WsD ws)))) (.ow (.fz (.bl last))) (.ow (.fz .non))) = r) :
    sSeq ((m_lines_in_7 cs)) (sSeq ((m_lines_in_8 cs)) (sSeq ((m_lines_in_9 cs)) (sSeq ((m_lines_in_10 cs)) (sSeq ((m_lines_in_12 cs)) rest)))) (lS src rows ns fd (.ow (.fz (.int k))) (.ow (.fz (.str (W (TL.joinL [32] ws))))) x6 x7 x8) = r := by
  have rl : WsD rows = WsD rows := rfl
  let T := fun x6 x7 x8 : S => lS src rows ns fd (.ow (.fz (.int k))) (.ow (.fz (.str (W (TL.joinL [32] ws))))) x6 x7 x8
  have t7 : mTest (mOp dEq (mVar 4) (mC (.int 20))) (T x6 x7 x8) = .ok false (T x6 x7 x8) := op_t (x := .int k) (y := .int 20) rfl rfl (by
    unfold dEq
    rw [eqB_int, decide_eq_false (by omega)]; rfl)
  have s7 : m_lines_in_7 cs (T x6 x7 x8) = .nx (T x6 x7 x8) := by
    unfold m_lines_in_7
    rw [if_b t7, if_neg Bool.false_ne_true]
    rfl
  have wo := words_of_ok cs h1 (fun w hw => ⟨(h2 w hw).1, (h2 w hw).2.2.1⟩) fun w hw => (h2 w hw).2.2.2.1
  rw [textW] at wo
  have s8 : m_lines_in_8 cs (T x6 x7 x8) = .nx (T (.ow (.fz (.lst (WsD ws)))) x7 x8) := set_d (l := (T x6 x7 x8).sl) (vwt_v (t := .fz (.lst (WsD ws))) (call0_v (xs := [.str (W (TL.joinL [32] ws))]) rfl wo)) (by show 6 < 9; decide)
  have s9 : m_lines_in_9 cs (T (.ow (.fz (.lst (WsD ws)))) x7 x8) = .nx (T (.ow (.fz (.lst (WsD ws)))) (.ow (.fz (.bl last))) x8) := set_d (l := (T (.ow (.fz (.lst (WsD ws)))) x7 x8).sl) (op_v (x := .int k) (y := .int (rows.length - 1 : Nat)) rfl (op_v (x := .int rows.length) (y := .int 1) (call_v (xs := [.lst (WsD rows)]) rfl (by show some (D.int (WsD rows).length) = _; rw [WsD_len])) rfl (by
    show some (D.int ((rows.length : Int) - 1)) = _
    congr 2
    omega)) (by
    unfold dEq
    rw [eqB_int, ← hr]
    show some (D.bl _) = _
    congr 2
    exact decide_eq_decide.mpr (by omega))) (by show 7 < 9; decide)
  have s10 : m_lines_in_10 cs (T (.ow (.fz (.lst (WsD ws)))) (.ow (.fz (.bl last))) x8) = .nx (T (.ow (.fz (.lst (WsD ws)))) (.ow (.fz (.bl last))) (.ow (.fz .non))) :=
    set_d (l := (T (.ow (.fz (.lst (WsD ws)))) (.ow (.fz (.bl last))) x8).sl) (vwt_v (t := .fz .non) (own_v (lend_v (ds := WsD ns) rfl (vwt_v (t := .fz .non) (call0_v (xs := [.lst (WsD ws), .lst (WsD ns), .bl last]) rfl h3)) rfl))) (by show 8 < 9; decide)
  have t12 : mTest (mOp dNotN (mVar 8) (mC .non)) (T (.ow (.fz (.lst (WsD ws)))) (.ow (.fz (.bl last))) (.ow (.fz .non))) = .ok false (T (.ow (.fz (.lst (WsD ws)))) (.ow (.fz (.bl last))) (.ow (.fz .non))) := op_t (x := .non) (y := .non) rfl rfl rfl
  have s12 : m_lines_in_12 cs (T (.ow (.fz (.lst (WsD ws)))) (.ow (.fz (.bl last))) (.ow (.fz .non))) = .nx (T (.ow (.fz (.lst (WsD ws)))) (.ow (.fz (.bl last))) (.ow (.fz .non))) := by
    unfold m_lines_in_12
    rw [if_b t12, if_neg Bool.false_ne_true]
    rfl
  exact seq_nx s7 (seq_nx s8 (seq_nx s9 (seq_nx s10 (seq_nx s12 hrest))))
theorem li_16 {x4 x5 x7 x8 : S} (hl : fd.length ≤ 1000) : m_lines_in_16 cs (lS src rows ns fd x4 x5 (.ow (.fz (.lst (WsD ws)))) x7 x8) = .nx (lS src rows ns (fd ++ [ws]) x4 x5 (.ow (.fz (.lst (WsD ws)))) x7 x8) := by
  show sApp 3 (mOwn (mVar 6)) _ = _
  refine (app_o (i := 3) (sd1 := lS src rows ns fd x4 x5 (.ow (.fz (.lst (WsD ws)))) x7 x8) (ts0 := (fd.map fun ws => D.lst (WsD ws)).map .fz) (ts := (fd.map fun ws => D.lst (WsD ws)).map .fz) rfl (own_v (d := .lst (WsD ws)) rfl) rfl (by rw [List.length_map, List.length_map]; omega)).trans ?_
  have : ((fd.map fun ws => D.lst (WsD ws)).map OT.fz) ++ [OT.fz (.lst (WsD ws))] = ((fd ++ [ws]).map fun ws => D.lst (WsD ws)).map OT.fz := by
    rw [List.map_append, List.map_append]; rfl
  rw [this]
  rfl
theorem li_last (hk : k ≤ 19) (hr : k + 1 = rows.length) (h1 : ws.length ≤ 1000) (h2 : ∀ w ∈ ws, WdOk w) (hl : fd.length ≤ 1000) (h3 : m_wrong_word cs [.fz (.lst (WsD ws)), .fz (.lst (WsD ns)), .fz (.bl true)] = .ok (.fz .non) ⟨[], [.fz (.lst (WsD ws)), .fz (.lst (WsD ns)), .fz (.bl true)]⟩) :
    m_lines_in_b1 cs (lS src rows ns fd (.ow (.fz (.int k))) (.ow (.fz (.str (W (TL.joinL [32] ws))))) x6 x7 x8) = .nx (lS src rows ns (fd ++ [ws]) (.ow (.fz (.int k))) (.ow (.fz (.str (W (TL.joinL [32] ws))))) (.ow (.fz (.lst (WsD ws)))) (.ow (.fz (.bl true))) (.ow (.fz .non))) := by
  refine li_head cs hk (decide_eq_true (by omega)) (by omega) h1 h2 h3 (seq_nx ?_ (li_16 cs hl))
  unfold m_lines_in_15
  rw [if_b (not_b (test_v (a := mVar 7) (v := true) (sd1 := lS src rows ns fd (.ow (.fz (.int k))) (.ow (.fz (.str (W (TL.joinL [32] ws))))) (.ow (.fz (.lst (WsD ws)))) (.ow (.fz (.bl true))) (.ow (.fz .non))) rfl))]
  rfl
theorem li_titled {w : List Nat} {vs : List (List Nat)} (hk : k ≤ 19) (hr : k + 1 < rows.length) (hw : w.length ≤ 8) (he : ws = (w ++ [58]) :: vs) (h1 : ws.length ≤ 1000) (h2 : ∀ w ∈ ws, WdOk w) (hl : fd.length ≤ 1000) (hn : ns.length ≤ 1000) (h3 : m_wrong_word cs [.fz (.lst (WsD ws)), .fz (.lst (WsD ns)), .fz (.bl false)] = .ok (.fz .non) ⟨[], [.fz (.lst (WsD ws)), .fz (.lst (WsD ns)), .fz (.bl false)]⟩) :
    m_lines_in_b1 cs (lS src rows ns fd (.ow (.fz (.int k))) (.ow (.fz (.str (W (TL.joinL [32] ws))))) x6 x7 x8) = .nx (lS src rows (ns ++ [w]) (fd ++ [vs]) (.ow (.fz (.int k))) (.ow (.fz (.str (W (TL.joinL [32] ws))))) (.ow (.fz (.lst (WsD vs)))) (.ow (.fz (.bl false))) (.ow (.fz .non))) := by
  refine li_head cs hk (decide_eq_false (by omega)) (by omega) h1 h2 h3 (seq_nx ?_ (li_16 cs (ns := ns ++ [w]) (ws := vs) hl))
  let T := fun (ns : List (List Nat)) (x6 : S) => lS src rows ns fd (.ow (.fz (.int k))) (.ow (.fz (.str (W (TL.joinL [32] ws))))) x6 (.ow (.fz (.bl false))) (.ow (.fz .non))
  have e0 : WsD ws = .str (W (w ++ [58])) :: WsD vs := by rw [he]; rfl
  have s13 : m_lines_in_13 cs (T ns (.ow (.fz (.lst (WsD ws))))) = .nx (T (ns ++ [w]) (.ow (.fz (.lst (WsD ws))))) := by
    show sApp 2 (mOwn _) _ = _
    refine (app_o (i := 2) (sd1 := T ns (.ow (.fz (.lst (WsD ws))))) (ts0 := (WsD ns).map .fz) (ts := (WsD ns).map .fz) (t := .fz (.str (W w))) rfl (own_v (cutI_S (w := w) (c := 58) (by omega) (op_v (x := .lst (WsD ws)) (y := .int 0) rfl rfl (by
      rw [e0]
      show atI (D.str (W (w ++ [58])) :: WsD vs) ((0 : Nat) : Int) = _
      exact atI_of rfl)))) rfl (by rw [List.length_map, WsD_len]; omega)).trans ?_
    have : (WsD ns).map OT.fz ++ [OT.fz (.str (W w))] = (WsD (ns ++ [w])).map OT.fz := by rw [WsD_app, List.map_append]; rfl
    rw [this]
    rfl
  have s14 : m_lines_in_14 cs (T (ns ++ [w]) (.ow (.fz (.lst (WsD ws))))) = .nx (T (ns ++ [w]) (.ow (.fz (.lst (WsD vs))))) := set_d (l := (T (ns ++ [w]) (.ow (.fz (.lst (WsD ws))))).sl) (view_v (cutr_Q (x := .str (W (w ++ [58]))) (qfz_v (by rw [← e0]; rfl)))) (by show 6 < 9; decide)
  unfold m_lines_in_15
  rw [if_b (not_b (test_v (a := mVar 7) (v := false) (sd1 := lS src rows ns fd (.ow (.fz (.int k))) (.ow (.fz (.str (W (TL.joinL [32] ws))))) (.ow (.fz (.lst (WsD ws)))) (.ow (.fz (.bl false))) (.ow (.fz .non))) rfl)), if_pos (show (!false) = true from rfl)]
  exact seq_nx s13 s14
end
theorem take_snoc {α : Type} {l : List α} {k : Nat} {x : α} (h : l[k]? = some x) : l.take (k + 1) = l.take k ++ [x] := by
  rw [List.take_add_one, h]
  rfl
theorem lines_in_ok (cs : Nat → Addr) {names : List (List Nat)} {lines : List (List Tr)} (s : Src names lines) : m_lines_in cs [.fz (.str (W (srcT names lines)))] = .ok (.ot [.ol ((WsD names).map .fz), .ol ((lines.map LD).map .fz)]) ⟨[], [.fz (.str (W (srcT names lines)))]⟩ := by
  have few := s.few
  have rne : rowsT names lines ≠ [] := fun z => by
    have := congrArg List.length z
    unfold rowsT at this
    simp at this
  have rlen : (rowsT names lines).length = names.length + 1 := by unfold rowsT; rw [List.length_map, List.length_range]
  have rmem : ∀ w ∈ rowsT names lines, w.length ≤ 1700 ∧ (10 : Nat) ∉ w := fun w hw => by
    obtain ⟨k, hk, rfl⟩ := List.mem_map.mp hw
    have := List.mem_range.mp hk
    exact ⟨s.rowlen (by omega), s.row10 (by omega)⟩
  have sp : Txt.split (W (srcT names lines)) (W [10]) = (rowsT names lines).map W := by
    unfold srcT
    rw [← joinW]
    exact TL.split_join (s := 10) (S := []) rfl (by decide +kernel) (fun z => rne (List.map_eq_nil_iff.mp z)) fun p hp => by
      obtain ⟨w, h1, rfl⟩ := List.mem_map.mp hp
      exact (rmem w h1).2
  have tl : (W (srcT names lines)).length + 2 ≤ 16777216 := by
    have go : ∀ ws : List (List Nat), (∀ w ∈ ws, w.length ≤ 1700) → (TL.joinL [10] ws).length ≤ 1701 * ws.length := fun ws => by
      induction ws with
      | nil => intro _; simp [TL.joinL]
      | cons p r ih =>
        intro h
        have h1 := h p (by simp)
        have h2 := ih fun w hw => h w (List.mem_cons_of_mem _ hw)
        cases r with
        | nil => show p.length ≤ 1701 * 1; omega
        | cons q r =>
          show (p ++ ([10] ++ TL.joinL [10] (q :: r))).length ≤ _
          rw [List.length_append, List.length_append, List.length_singleton, List.length_cons]
          rw [List.length_cons] at h2
          rw [List.length_cons]
          omega
    have := go (rowsT names lines) fun w hw => (rmem w hw).1
    rw [W_len]
    unfold srcT
    rw [rlen] at this
    omega
  have ds : dSplit (.str (W (srcT names lines))) [.str (W [10])] = some (WsD (rowsT names lines)) := by
    show (if ((W [10]).length == 0) = false ∧ (W (srcT names lines)).length + 2 ≤ 16777216 then some ((Txt.split (W (srcT names lines)) (W [10])).map D.str) else none) = _
    rw [if_pos ⟨rfl, tl⟩, sp, List.map_map]
    rfl
  generalize hsrc : srcT names lines = src at *
  let T0 := fun x1 x2 x3 : S => (⟨[.ow (.fz (.str (W src))), x1, x2, x3, .un, .un, .un, .un, .un], [.fz (.str (W src))]⟩ : SD)
  have s2 : m_lines_in_2 cs (T0 .un .un .un) = .nx (T0 .un .un .un) := rfl
  have s3 : m_lines_in_3 cs (T0 .un .un .un) = .nx (T0 (.ow (.fz (.lst (WsD (rowsT names lines))))) .un .un) := by
    exact set_d (l := (T0 .un .un .un).sl) (view_v (bml_v (t := D.isS) (f := dSplit) (x := .str (W src)) (xs := [.str (W [10])]) rfl rfl (by rw [← lit_nl]; rfl) ds)) (by show 1 < 9; decide)
  have s4 : m_lines_in_4 cs (T0 (.ow (.fz (.lst (WsD (rowsT names lines))))) .un .un) = .nx (T0 (.ow (.fz (.lst (WsD (rowsT names lines))))) (.ow (.ol [])) .un) := rfl
  have s5 : m_lines_in_5 cs (T0 (.ow (.fz (.lst (WsD (rowsT names lines))))) (.ow (.ol [])) .un) = .nx (lS src (rowsT names lines) [] [] .un .un .un .un .un) := rfl
  have it : iEnumL (mCons (mVar 1) mNil) (lS src (rowsT names lines) [] [] .un .un .un .un .un) = .ok ((List.range (names.length + 1)).map fun k => .tup [.int (k : Nat), .str (W (TL.joinL [32] (rowWs names lines k)))]) (lS src (rowsT names lines) [] [] .un .un .un .un .un) := by
    rw [← enD_range, ienum_v (a := mVar 1) (xs := WsD (rowsT names lines)) (sd1 := lS src (rowsT names lines) [] [] .un .un .un .un .un) rfl]
    unfold rowsT WsD
    rw [List.map_map]
    rfl
  obtain ⟨sd', w1, x4, x5, x6, x7, x8, rfl⟩ := for_count (g := fwG) (body := m_lines_in_b1 cs) (fun k : Nat => .tup [.int (k : Nat), .str (W (TL.joinL [32] (rowWs names lines k)))])
    (fun k sd => ∃ x4 x5 x6 x7 x8, sd = lS src (rowsT names lines) (names.take k) ((lines.take k).map twds) x4 x5 x6 x7 x8) it ⟨_, _, _, _, _, rfl⟩ (fun k hk sd hI => by
      obtain ⟨x4, x5, x6, x7, x8, rfl⟩ := hI
      obtain ⟨r1, r2⟩ := s.row (k := k) (by omega)
      have hl := s.line (k := k) (by omega)
      obtain ⟨o1, o2, o3, o4⟩ := s.ok _ _ hl
      have hns : ∀ w ∈ names.take k, NmOk w := fun w hw => s.nm w (take_in hw)
      have ll := s.len
      refine ⟨lS src (rowsT names lines) (names.take k) ((lines.take k).map twds) (.ow (.fz (.int k))) (.ow (.fz (.str (W (TL.joinL [32] (rowWs names lines k)))))) x6 x7 x8, lS src (rowsT names lines) (names.take (k + 1)) ((lines.take (k + 1)).map twds) (.ow (.fz (.int k))) (.ow (.fz (.str (W (TL.joinL [32] (rowWs names lines k)))))) (.ow (.fz (.lst (WsD (twds (lines.getD k [])))))) (.ow (.fz (.bl (decide (k = names.length))))) (.ow (.fz .non)), rfl, ?_, _, _, _, _, _, rfl⟩
      rw [take_snoc hl, List.map_append, List.map_singleton]
      by_cases hk2 : k < names.length
      · have en : names[k]? = some names[k] := List.getElem?_eq_getElem hk2
        have er : rowWs names lines k = (names[k] ++ [58]) :: twds (lines.getD k []) := by unfold rowWs; rw [en]
        have nw := s.nm _ (List.getElem_mem hk2)
        have fresh : names[k] ∉ names.take k := fun z => by
          have h1 := take_idx z
          have h2 := s.nd.idxOf_getElem k hk2
          omega
        rw [take_snoc en, decide_eq_false (by omega)]
        exact li_titled cs (by omega) (by omega) nw.hi er (by omega) r1 (by rw [List.length_map, List.length_take]; omega) (by rw [List.length_take]; omega) (by rw [er]; exact wrong_titled cs hns nw fresh o1 o2 (by omega) (o4 hk2))
      · have hk3 : k = names.length := by omega
        have er : rowWs names lines k = twds (lines.getD k []) := by unfold rowWs; rw [List.getElem?_eq_none (by omega)]
        rw [List.take_of_length_le (l := names) (i := k + 1) (by omega), decide_eq_true hk3]
        rw [List.take_of_length_le (l := names) (i := k) (by omega)] at o1 hns ⊢
        have := li_last cs (src := src) (rows := rowsT names lines) (ns := names) (fd := (lines.take k).map twds) (k := k) (ws := rowWs names lines k) (x6 := x6) (x7 := x7) (x8 := x8) (by omega) (by omega) (by omega) r1 (by rw [List.length_map, List.length_take]; omega) (by rw [er]; exact wrong_last cs hns o1 o2 (by omega))
        rw [er] at this ⊢
        exact this)
  rw [List.take_of_length_le (l := names) (i := names.length + 1) (by omega), List.take_of_length_le (l := lines) (i := names.length + 1) (by rw [s.len]; omega)] at w1
  have s17 : m_lines_in_17 cs (lS src (rowsT names lines) [] [] .un .un .un .un .un) = .nx (lS src (rowsT names lines) names (lines.map twds) x4 x5 x6 x7 x8) := w1
  have s18 : m_lines_in_18 cs (lS src (rowsT names lines) names (lines.map twds) x4 x5 x6 x7 x8) = .rt (.ot [.ol ((WsD names).map .fz), .ol ((lines.map LD).map .fz)]) ⟨[.ow (.fz (.str (W src))), .ow (.fz (.lst (WsD (rowsT names lines)))), .un, .un, x4, x5, x6, x7, x8], [.fz (.str (W src))]⟩ := by
    have : ((lines.map twds).map fun ws => D.lst (WsD ws)) = lines.map LD := by rw [List.map_map]; rfl
    unfold lS
    rw [this]
    rfl
  exact def_rt (sd0 := T0 .un .un .un) rfl (seq_nx s2 (seq_nx s3 (seq_nx s4 (seq_nx s5 (seq_nx s17 s18)))))
noncomputable def exW (names : List (List Nat)) (E : List Nat → List Nd) (x : List Nat) : List (List Nat) := if x ∈ names then wds (E x) else [x]
theorem no_name {names : List (List Nat)} (hn : ∀ w ∈ names, NmOk w) {x : List Nat} (h : ∀ c ∈ x.drop 1, 48 ≤ c ∧ c ≤ 57) : x ∉ names := fun z => by
  obtain ⟨c, d, r, rfl, _, h2, _⟩ := name_two (hn x z)
  have := h d (by simp)
  omega
theorem lw_no_name {names : List (List Nat)} (hn : ∀ w ∈ names, NmOk w) (c n : Nat) : lw c n ∉ names := no_name hn fun x hx => by
  have hx : x ∈ (if n = 1 then [] else TL.numL n) := hx
  split at hx
  · cases hx
  · exact num_dig n x hx
theorem open_no_name {names : List (List Nat)} (hn : ∀ w ∈ names, NmOk w) : ([40] : List Nat) ∉ names := no_name hn fun x hx => by cases hx
theorem close_no_name {names : List (List Nat)} (hn : ∀ w ∈ names, NmOk w) (n : Nat) : 41 :: TL.numL n ∉ names := no_name hn fun x hx => num_dig n x hx
mutual
theorem tex_words {names ns : List (List Nat)} (hn : ∀ w ∈ names, NmOk w) (hs : ∀ w ∈ ns, w ∈ names) (E : List Nat → List Nd) : ∀ a : Tr, tok ns a → wds (tex E a) = (twd a).flatMap (exW names E)
  | .st c n, _ => by
    rw [tex, twd, wds_one, wd]
    simp [exW, lw_no_name hn c n]
  | .nm w, h => by
    rw [tok] at h
    rw [tex, twd]
    simp [exW, hs w h]
  | .rp b n, h => by
    rw [tok] at h
    rw [tex, twd, wds_one, wd, tex_wordss hn hs E b h.2.2.2]
    simp [exW, open_no_name hn, close_no_name hn n]
theorem tex_wordss {names ns : List (List Nat)} (hn : ∀ w ∈ names, NmOk w) (hs : ∀ w ∈ ns, w ∈ names) (E : List Nat → List Nd) : ∀ l : List Tr, toks ns l → wds (texs E l) = (twds l).flatMap (exW names E)
  | [], _ => by rw [texs, twds, wds]; rfl
  | a :: r, h => by
    rw [toks] at h
    rw [texs, twds, wds_app, List.flatMap_append, tex_words hn hs E a h.1, tex_wordss hn hs E r h.2]
end
/-- what the names stand for -/
noncomputable def ofE (names : List (List Nat)) (F : List (List Nd)) (w : List Nat) : List Nd := F.getD (names.idxOf w) []
theorem idx_find {w : List Nat} (p : List Nat → Bool) (hp : ∀ v, p v = decide (v = w)) : ∀ {ns : List (List Nat)}, w ∈ ns → ns.findIdx? p = some (ns.idxOf w)
  | [], h => by cases h
  | a :: r, h => by
    rw [List.findIdx?_cons, hp, List.idxOf_cons]
    by_cases e : a = w
    · subst e; simp
    · have e2 : (a == w) = false := beq_eq_false_iff_ne.mpr e
      rw [decide_eq_false e, e2]
      rcases List.mem_cons.mp h with z | z
      · exact absurd z.symm e
      · rw [idx_find p hp z]
        simp
theorem index_ws {ns : List (List Nat)} (low : Low ns) {w : List Nat} (hw : w ∈ ns) : dIndexD (.lst (WsD ns)) [.str (W w)] = some (.int (ns.idxOf w : Nat)) := by
  have sh1 : SeqAt.shaped (.list (ns.map fun w => PyData.str (W w))) = true := by
    have h1 : PyData.canLay0 (.list (ns.map fun w => PyData.str (W w))) = true := lays_ws ns low
    have h2 : PyData.depth (.list (ns.map fun w => PyData.str (W w))) ≤ 2 := by rw [PyData.depth]; have := deps_ws ns; omega
    unfold SeqAt.shaped
    rw [h1]
    simp
    omega
  have sh2 : SeqAt.shaped (.str (W w)) = true := by
    have e : PyData.strOk (W w) = true := by
      unfold PyData.strOk
      rw [← Array.all_toList, List.all_eq_true]
      intro c hc
      have := low w hw c hc
      exact decide_eq_true (by omega)
    unfold SeqAt.shaped
    rw [PyData.canLay0, e, PyData.depth]
    rfl
  show (D.pys (WsD ns)).bind (fun ps => ((D.str (W w)).py).bind fun p => if (SeqAt.shaped (.list ps) && SeqAt.shaped p) = true then (ps.findIdx? (fun z => PyData.eqv z p)).map fun j => D.int (j : Nat) else none) = _
  rw [pys_ws, D.py]
  show (if (SeqAt.shaped (.list (ns.map fun w => PyData.str (W w))) && SeqAt.shaped (.str (W w))) = true then ((ns.map fun w => PyData.str (W w)).findIdx? (fun z => PyData.eqv z (.str (W w)))).map fun j => D.int (j : Nat) else none) = _
  rw [sh1, sh2, if_pos (show (true && true) = true from rfl), List.findIdx?_map, idx_find _ (fun v => by
    show PyData.eqv (.str (W v)) (.str (W w)) = _
    rw [PyData.eqv]
    by_cases e : v = w
    · subst e; simp
    · rw [decide_eq_false e]; exact beq_eq_false_iff_ne.mpr fun z => e ((W_iff v w).mp z)) hw]
  rfl
theorem Src.low {names : List (List Nat)} {lines : List (List Tr)} (s : Src names lines) : Low names := fun w hw c hc => by
  have := (s.nm w hw).ab c hc
  omega
noncomputable def accD (acc : List (List Nat)) : D := if acc.length ≤ 1000 then .lst (WsD acc) else .non
noncomputable def wrS (names lines : D) (fd : List D) (x4 x5 x6 x7 : S) : SD := ⟨[.ow (.fz names), .ow (.fz lines), .ow (.fz (.int 1000)), .ow (.ol (fd.map .fz)), x4, x5, x6, x7], [.fz names, .fz lines, .fz (.int 1000)]⟩
theorem acc_none (acc : List (List Nat)) : dIsN (accD acc) .non = some (.bl (decide (1000 < acc.length))) := by
  unfold accD
  by_cases h : acc.length ≤ 1000
  · rw [if_pos h, decide_eq_false (by omega)]; rfl
  · rw [if_neg h, decide_eq_true (by omega)]; rfl
theorem acc_len {acc : List (List Nat)} (h : acc.length ≤ 1000) : dLen [accD acc] = some (.int acc.length) := by
  unfold accD
  rw [if_pos h]
  show some (D.int (WsD acc).length) = _
  rw [WsD_len]
theorem wr_word (cs : Nat → Addr) {names : List (List Nat)} {lines : List (List Tr)} {F : List (List Nd)} (low : Low names) {x : List Nat} {acc : List (List Nat)} {k : Nat} {x4 x7 : S} (hx : x ∈ names → names.idxOf x < k) (hk : k ≤ F.length) :
    ∃ y7, m__law_written_b1 cs (wrS (.lst (WsD names)) (.lst (lines.map LD)) ((F.take k).map fun l => accD (wds l)) x4 (.ow (.fz (accD acc))) (.ow (.fz (.str (W x)))) x7) = .nx (wrS (.lst (WsD names)) (.lst (lines.map LD)) ((F.take k).map fun l => accD (wds l)) x4 (.ow (.fz (accD (acc ++ exW names (ofE names F) x)))) (.ow (.fz (.str (W x)))) y7) := by
  let T := fun x5 x7 : S => wrS (.lst (WsD names)) (.lst (lines.map LD)) ((F.take k).map fun l => accD (wds l)) x4 x5 (.ow (.fz (.str (W x)))) x7
  have s3 : m__law_written_3 cs (T (.ow (.fz (accD acc))) x7) = .nx (T (.ow (.fz (accD acc))) (.ow (.fz (.lst (WsD [x]))))) := set_d (l := (T (.ow (.fz (accD acc))) x7).sl) (lst_v (xs := WsD [x]) rfl (by show 1 ≤ _; decide)) (by show 7 < 8; decide)
  have t5 : mTest (mOp (dIn false) (mVar 6) (mVar 0)) (T (.ow (.fz (accD acc))) (.ow (.fz (.lst (WsD [x]))))) = .ok (decide (x ∈ names)) (T (.ow (.fz (accD acc))) (.ow (.fz (.lst (WsD [x]))))) := op_t (x := .str (W x)) (y := .lst (WsD names)) rfl rfl (by rw [in_ws]; cases decide (x ∈ names) <;> rfl)
  have s5 : m__law_written_5 cs (T (.ow (.fz (accD acc))) (.ow (.fz (.lst (WsD [x]))))) = .nx (T (.ow (.fz (accD acc))) (.ow (.fz (accD (exW names (ofE names F) x))))) := by
    unfold m__law_written_5
    rw [if_b t5]
    by_cases hn : x ∈ names
    · have hi := hx hn
      have hi2 : names.idxOf x < F.length := by omega
      rw [decide_eq_true hn, if_pos rfl]
      refine set_d (l := (T (.ow (.fz (accD acc))) (.ow (.fz (.lst (WsD [x]))))).sl) (d := accD (exW names (ofE names F) x)) ?_ (by show 7 < 8; decide)
      have q3 : qSee 3 (T (.ow (.fz (accD acc))) (.ow (.fz (.lst (WsD [x]))))) = .ok ((F.take k).map fun l => accD (wds l)) (T (.ow (.fz (accD acc))) (.ow (.fz (.lst (WsD [x]))))) := by
        show ER.opt (fzOf (((F.take k).map fun l => accD (wds l)).map .fz)) _ = _
        rw [fzOf_map]
        rfl
      have ix := bm_v (t := D.isL) (a := mVar 0) (x := .lst (WsD names)) (b := mCons (mVar 6) mNil) (xs := [.str (W x)]) (sd := T (.ow (.fz (accD acc))) (.ow (.fz (.lst (WsD [x]))))) rfl rfl rfl (index_ws low hn)
      unfold mAt
      rw [q3]
      show (mBm D.isL dIndexD (mVar 0) (mCons (mVar 6) mNil) _).bind _ = _
      rw [ix]
      show ER.opt (atI ((F.take k).map fun l => accD (wds l)) (names.idxOf x : Nat)) _ = _
      rw [atI_of (v := accD (exW names (ofE names F) x)) (by
        rw [List.getElem?_map, List.getElem?_take_of_lt hi, List.getElem?_eq_getElem hi2]
        show some _ = some _
        unfold exW ofE
        rw [if_pos hn, List.getD_eq_getElem?_getD, List.getElem?_eq_getElem hi2]
        rfl)]
      rfl
    · rw [decide_eq_false hn, if_neg Bool.false_ne_true]
      have : accD (exW names (ofE names F) x) = .lst (WsD [x]) := by
        unfold exW
        rw [if_neg hn]
        rfl
      rw [this]
      rfl
  generalize hp : exW names (ofE names F) x = part at *
  let U := T (.ow (.fz (accD acc))) (.ow (.fz (accD part)))
  have ta : mTest (mOp dIsN (mVar 5) (mC .non)) U = .ok (decide (1000 < acc.length)) U := op_t (x := accD acc) (y := .non) rfl rfl (acc_none acc)
  have tb : mTest (mOp dIsN (mVar 7) (mC .non)) U = .ok (decide (1000 < part.length)) U := op_t (x := accD part) (y := .non) rfl rfl (acc_none part)
  have val : mIf (mOr (mTest (mOp dIsN (mVar 5) (mC .non))) (mOr (mTest (mOp dIsN (mVar 7) (mC .non))) (mTest (mOp dGt (mOp dAdd (mCall dLen (mCons (mVar 5) (mNil))) (mCall dLen (mCons (mVar 7) (mNil)))) (mVar 2))))) (mC .non) (mView (mCat (qFz (mVar 5)) (qFz (mVar 7)))) U = .ok (accD (acc ++ part)) U := by
    by_cases ha : 1000 < acc.length
    · rw [decide_eq_true ha] at ta
      rw [ifd_b (or_l ta), if_pos rfl]
      unfold accD
      rw [if_neg (by rw [List.length_append]; omega)]
      rfl
    · rw [decide_eq_false ha] at ta
      by_cases hb : 1000 < part.length
      · rw [decide_eq_true hb] at tb
        rw [ifd_b (or_r ta (or_l tb)), if_pos rfl]
        unfold accD
        rw [if_neg (by rw [List.length_append]; omega)]
        rfl
      · rw [decide_eq_false hb] at tb
        have tc : mTest (mOp dGt (mOp dAdd (mCall dLen (mCons (mVar 5) (mNil))) (mCall dLen (mCons (mVar 7) (mNil)))) (mVar 2)) U = .ok (decide (1000 < acc.length + part.length)) U := op_t (op_v (f := dAdd) (call_v (xs := [accD acc]) rfl (acc_len (by omega))) (call_v (xs := [accD part]) rfl (acc_len (by omega))) (z := .int (acc.length + part.length : Nat)) rfl) (y := .int 1000) rfl (by
          show some (D.bl (decide ((1000 : Int) < ((acc.length + part.length : Nat) : Int)))) = _
          congr 2
          exact decide_eq_decide.mpr (by omega))
        rw [ifd_b (or_r ta (or_r tb tc))]
        by_cases hc : 1000 < acc.length + part.length
        · rw [decide_eq_true hc, if_pos rfl]
          unfold accD
          rw [if_neg (by rw [List.length_append]; omega)]
          rfl
        · rw [decide_eq_false hc, if_neg Bool.false_ne_true]
          have va : mVar 5 U = .ok (.lst (WsD acc)) U := by
            show ER.ok (accD acc) U = _
            unfold accD
            rw [if_pos (by omega)]
          have vb : mVar 7 U = .ok (.lst (WsD part)) U := by
            show ER.ok (accD part) U = _
            unfold accD
            rw [if_pos (by omega)]
          rw [view_v (cat_v (qfz_v va) (qfz_v vb) (by rw [WsD_len, WsD_len]; omega)), ← WsD_app]
          unfold accD
          rw [if_pos (by rw [List.length_append]; omega)]
  have s6 : m__law_written_6 cs U = .nx (T (.ow (.fz (accD (acc ++ part)))) (.ow (.fz (accD part)))) := set_d (l := U.sl) val (by show 5 < 8; decide)
  exact ⟨_, seq_nx s3 (seq_nx s5 s6)⟩
theorem wr_words (cs : Nat → Addr) {names : List (List Nat)} {lines : List (List Tr)} {F : List (List Nd)} (low : Low names) {k : Nat} (hk : k ≤ F.length) {x4 : S} : ∀ (ws acc : List (List Nat)) (x6 x7 : S), (∀ x ∈ ws, x ∈ names → names.idxOf x < k) →
    ∃ y6 y7, goFor (tgN 6) (m__law_written_b1 cs) (WsD ws) (wrS (.lst (WsD names)) (.lst (lines.map LD)) ((F.take k).map fun l => accD (wds l)) x4 (.ow (.fz (accD acc))) x6 x7) = .nx (wrS (.lst (WsD names)) (.lst (lines.map LD)) ((F.take k).map fun l => accD (wds l)) x4 (.ow (.fz (accD (acc ++ ws.flatMap (exW names (ofE names F)))))) y6 y7)
  | [], acc, x6, x7, _ => ⟨x6, x7, by rw [List.flatMap_nil, List.append_nil]; rfl⟩
  | x :: r, acc, x6, x7, h => by
    obtain ⟨y7, e⟩ := wr_word cs low (lines := lines) (F := F) (x := x) (acc := acc) (x4 := x4) (x7 := x7) (h x (by simp)) hk
    obtain ⟨z6, z7, g⟩ := wr_words cs low hk (x4 := x4) r (acc ++ exW names (ofE names F) x) (.ow (.fz (.str (W x)))) y7 fun y hy => h y (List.mem_cons_of_mem _ hy)
    refine ⟨z6, z7, ?_⟩
    rw [List.flatMap_cons, ← List.append_assoc]
    show goFor (tgN 6) (m__law_written_b1 cs) (.str (W x) :: WsD r) _ = _
    rw [go_one (sda := wrS (.lst (WsD names)) (.lst (lines.map LD)) ((F.take k).map fun l => accD (wds l)) x4 (.ow (.fz (accD acc))) (.ow (.fz (.str (W x)))) x7) rfl e]
    exact g
mutual
theorem tok_of {ns : List (List Nat)} {names : List (List Nat)} (hn : ∀ w ∈ names, NmOk w) : ∀ a : Tr, tok ns a → ∀ x ∈ twd a, x ∈ names → x ∈ ns
  | .st c n, _, x, hx, hm => by
    rw [twd, List.mem_singleton] at hx
    subst hx
    exact absurd hm (lw_no_name hn c n)
  | .nm w, h, x, hx, hm => by
    rw [twd, List.mem_singleton] at hx
    subst hx
    rw [tok] at h
    exact h
  | .rp b n, h, x, hx, hm => by
    rw [tok] at h
    rw [twd] at hx
    rcases List.mem_cons.mp hx with rfl | hx
    · exact absurd hm (open_no_name hn)
    · rcases List.mem_append.mp hx with hx | hx
      · exact toks_of hn b h.2.2.2 x hx hm
      · rw [List.mem_singleton] at hx
        subst hx
        exact absurd hm (close_no_name hn n)
theorem toks_of {ns : List (List Nat)} {names : List (List Nat)} (hn : ∀ w ∈ names, NmOk w) : ∀ l : List Tr, toks ns l → ∀ x ∈ twds l, x ∈ names → x ∈ ns
  | [], _, x, hx, _ => by rw [twds] at hx; cases hx
  | a :: r, h, x, hx, hm => by
    rw [toks] at h
    rw [twds] at hx
    rcases List.mem_append.mp hx with hx | hx
    · exact tok_of hn a h.1 x hx hm
    · exact toks_of hn r h.2 x hx hm
end
section
variable {names : List (List Nat)} {lines : List (List Tr)} {F : List (List Nd)} (s : Src names lines) (xx : Exp names lines F)
include s xx
theorem Src.idx {k : Nat} (hk : k ≤ names.length) : ∀ x ∈ twds (lines.getD k []), x ∈ names → names.idxOf x < k := fun x hx hm => take_idx (toks_of s.nm _ (s.ok _ _ (s.line hk)).1 x hx hm)
theorem Exp.words {k : Nat} (hk : k ≤ names.length) : F[k]? = some (F.getD k []) ∧ wds (F.getD k []) = (twds (lines.getD k [])).flatMap (exW names (ofE names F)) := by
  have e := xx.at_ k _ (s.line hk)
  have e2 : F.getD k [] = texs (ofE names F) (lines.getD k []) := by rw [List.getD_eq_getElem?_getD, e]; rfl
  refine ⟨by rw [e2]; exact e, ?_⟩
  rw [e2]
  exact tex_wordss s.nm (fun w hw => take_in hw) (ofE names F) _ (s.ok _ _ (s.line hk)).1
theorem written_ok (cs : Nat → Addr) : m__law_written cs [.fz (.lst (WsD names)), .fz (.lst (lines.map LD)), .fz (.int 1000)] = .ok (.ol ((F.map fun l => accD (wds l)).map .fz)) ⟨[], [.fz (.lst (WsD names)), .fz (.lst (lines.map LD)), .fz (.int 1000)]⟩ := by
  have fl : F.length = names.length + 1 := by rw [xx.len, s.len]
  have few := s.few
  have it : iLst (mVar 1) (wrS (.lst (WsD names)) (.lst (lines.map LD)) [] .un .un .un .un) = .ok ((List.range (names.length + 1)).map fun k => LD (lines.getD k [])) (wrS (.lst (WsD names)) (.lst (lines.map LD)) [] .un .un .un .un) := by
    rw [ilst_v (m := mVar 1) (sd := wrS (.lst (WsD names)) (.lst (lines.map LD)) [] .un .un .un .un) (sd1 := wrS (.lst (WsD names)) (.lst (lines.map LD)) [] .un .un .un .un) (xs := lines.map LD) rfl]
    congr 1
    apply List.ext_getElem?
    intro k
    rw [List.getElem?_map, List.getElem?_map]
    by_cases hk : k < names.length + 1
    · rw [List.getElem?_range hk, s.line (by omega)]; rfl
    · rw [List.getElem?_eq_none (by rw [s.len]; omega), List.getElem?_eq_none (by rw [List.length_range]; omega)]
      rfl
  obtain ⟨sd', w1, x4, x5, x6, x7, rfl⟩ := for_count (g := tgN 4) (body := m__law_written_b2 cs) (fun k => LD (lines.getD k []))
    (fun k sd => ∃ x4 x5 x6 x7, sd = wrS (.lst (WsD names)) (.lst (lines.map LD)) ((F.take k).map fun l => accD (wds l)) x4 x5 x6 x7) it ⟨_, _, _, _, rfl⟩ (fun k hk sd hI => by
      obtain ⟨x4, x5, x6, x7, rfl⟩ := hI
      obtain ⟨y6, y7, g⟩ := wr_words cs s.low (lines := lines) (F := F) (k := k) (by omega) (x4 := .ow (.fz (LD (lines.getD k [])))) (twds (lines.getD k [])) [] x6 x7 (s.idx xx (by omega))
      obtain ⟨e1, e2⟩ := xx.words s (k := k) (by omega)
      rw [List.nil_append, ← e2] at g
      let T := fun (fd : List D) (x5 x6 x7 : S) => wrS (.lst (WsD names)) (.lst (lines.map LD)) fd (.ow (.fz (LD (lines.getD k [])))) x5 x6 x7
      have s2 : m__law_written_2 cs (T ((F.take k).map fun l => accD (wds l)) x5 x6 x7) = .nx (T ((F.take k).map fun l => accD (wds l)) (.ow (.fz (accD []))) x6 x7) := rfl
      have s7 : m__law_written_7 cs (T ((F.take k).map fun l => accD (wds l)) (.ow (.fz (accD []))) x6 x7) = .nx (T ((F.take k).map fun l => accD (wds l)) (.ow (.fz (accD (wds (F.getD k []))))) y6 y7) := g
      have s8 : m__law_written_8 cs (T ((F.take k).map fun l => accD (wds l)) (.ow (.fz (accD (wds (F.getD k []))))) y6 y7) = .nx (T ((F.take (k + 1)).map fun l => accD (wds l)) (.ow (.fz (accD (wds (F.getD k []))))) y6 y7) := by
        show sApp 3 (mOwn (mVar 5)) _ = _
        refine (app_o (i := 3) (sd1 := T ((F.take k).map fun l => accD (wds l)) (.ow (.fz (accD (wds (F.getD k []))))) y6 y7) (ts0 := ((F.take k).map fun l => accD (wds l)).map .fz) (ts := ((F.take k).map fun l => accD (wds l)).map .fz) rfl (own_v (d := accD (wds (F.getD k []))) rfl) rfl (by rw [List.length_map, List.length_map, List.length_take]; omega)).trans ?_
        rw [take_snoc e1, List.map_append]
        show Fl.nx _ = Fl.nx (wrS _ _ _ _ _ _ _)
        unfold wrS
        rw [List.map_append]
        rfl
      exact ⟨_, _, rfl, seq_nx s2 (seq_nx s7 s8), _, _, _, _, rfl⟩)
  rw [List.take_of_length_le (by omega)] at w1
  have s1 : m__law_written_1 cs ⟨[.ow (.fz (.lst (WsD names))), .ow (.fz (.lst (lines.map LD))), .ow (.fz (.int 1000)), .un, .un, .un, .un, .un], [.fz (.lst (WsD names)), .fz (.lst (lines.map LD)), .fz (.int 1000)]⟩ = .nx (wrS (.lst (WsD names)) (.lst (lines.map LD)) [] .un .un .un .un) := rfl
  have s9 : m__law_written_9 cs (wrS (.lst (WsD names)) (.lst (lines.map LD)) [] .un .un .un .un) = .nx (wrS (.lst (WsD names)) (.lst (lines.map LD)) (F.map fun l => accD (wds l)) x4 x5 x6 x7) := w1
  have s10 : m__law_written_10 cs (wrS (.lst (WsD names)) (.lst (lines.map LD)) (F.map fun l => accD (wds l)) x4 x5 x6 x7) = .rt (.ol ((F.map fun l => accD (wds l)).map .fz)) ⟨[.ow (.fz (.lst (WsD names))), .ow (.fz (.lst (lines.map LD))), .ow (.fz (.int 1000)), .un, x4, x5, x6, x7], [.fz (.lst (WsD names)), .fz (.lst (lines.map LD)), .fz (.int 1000)]⟩ := rfl
  exact def_rt (sd0 := ⟨[.ow (.fz (.lst (WsD names))), .ow (.fz (.lst (lines.map LD))), .ow (.fz (.int 1000)), .un, .un, .un, .un, .un], [.fz (.lst (WsD names)), .fz (.lst (lines.map LD)), .fz (.int 1000)]⟩) rfl (seq_nx s1 (seq_nx s9 s10))
end
theorem goDs_of {α : Type} {g : D → SD → Option SD} {mk mv : SD → ER D} {vs : List Nat} {w : SD} (e : α → D) (ke : α → Str) (ve : α → D) : ∀ (xs : List α) (acc : SL) (sd : SD), sd.wipe vs = w → acc.length + xs.length ≤ 1000 → (∀ x ∈ xs, ∀ p ∈ acc, p.1 ≠ ke x) → (xs.map ke).Nodup →
    (∀ x ∈ xs, ∃ sda, g (e x) w = some sda ∧ sda.wipe vs = w ∧ mk sda = .ok (.str (ke x)) sda ∧ mv sda = .ok (ve x) sda) → ∃ sd', goDs g mk mv vs (xs.map e) acc sd = .ok (acc ++ xs.map fun x => (ke x, ve x)) sd' ∧ sd'.wipe vs = w
  | [], acc, sd, hw, _, _, _, _ => ⟨sd, by rw [List.map_nil, goDs, List.map_nil, List.append_nil], hw⟩
  | x :: r, acc, sd, hw, hl, hf, hn, h => by
    obtain ⟨sda, h1, h2, h3, h4⟩ := h x (by simp)
    rw [List.length_cons] at hl
    rw [List.map_cons, List.nodup_cons] at hn
    have put : sPutA acc (ke x) (ve x) = acc ++ [(ke x, ve x)] := by
      unfold sPutA
      rw [if_neg]
      intro z
      obtain ⟨p, hp, q⟩ := List.any_eq_true.mp z
      exact hf x (by simp) p hp (of_decide_eq_true q)
    obtain ⟨sd', q1, q2⟩ := goDs_of e ke ve r (acc ++ [(ke x, ve x)]) sda h2 (by rw [List.length_append, List.length_singleton]; omega) (fun y hy p hp => by
      rcases List.mem_append.mp hp with hp | hp
      · exact hf y (List.mem_cons_of_mem _ hy) p hp
      · rw [List.mem_singleton.mp hp]
        exact fun z => hn.1 (by rw [show ke x = ke y from z]; exact List.mem_map_of_mem hy)) hn.2 fun y hy => h y (List.mem_cons_of_mem _ hy)
    refine ⟨sd', ?_, q2⟩
    rw [List.map_cons, goDs, hw, h1]
    dsimp only
    simp only [h3, h4, ER.calm, ER.bind, strIs]
    rw [if_pos (by omega), put, q1]
    simp
noncomputable def placesA (names : List (List Nat)) : SL := names.zipIdx.map fun p => (W p.1, D.int (p.2 : Nat))
theorem places_v {names : List (List Nat)} (nd : names.Nodup) (few : names.length ≤ 19) {i j : Nat} {sd : SD} (h0 : mVar 0 sd = .ok (.lst (WsD names)) sd) (hg : ∀ (w : List Nat) (k : Nat), ∃ sda, tgT 2 (tgCons (tgN i) (tgCons (tgN j) (tgNil))) (.tup [.int (k : Nat), .str (W w)]) (sd.wipe [i, j]) = some sda ∧ sda.wipe [i, j] = sd.wipe [i, j] ∧ mVar j sda = .ok (.str (W w)) sda ∧ mVar i sda = .ok (.int (k : Nat)) sda) :
    mDcS (iEnumL (mCons (mVar 0) (mNil))) (tgT 2 (tgCons (tgN i) (tgCons (tgN j) (tgNil)))) (mVar j) (mVar i) [i, j] sd = .ok (odS (placesA names)) sd := by
  have it := ienum_v h0
  rw [enD_ws] at it
  obtain ⟨sd', q1, q2⟩ := goDs_of (g := tgT 2 (tgCons (tgN i) (tgCons (tgN j) (tgNil)))) (mk := mVar j) (mv := mVar i) (vs := [i, j]) (w := sd.wipe [i, j]) (fun p : List Nat × Nat => D.tup [.int (p.2 : Nat), .str (W p.1)]) (fun p => W p.1) (fun p => D.int (p.2 : Nat)) names.zipIdx [] sd rfl (by rw [List.length_zipIdx]; simp; omega) (fun _ _ p hp => by cases hp) (by
    have : names.zipIdx.map (fun p => W p.1) = (names.zipIdx.map Prod.fst).map W := by rw [List.map_map]; rfl
    rw [this, List.zipIdx_map_fst]
    exact List.Pairwise.map W (fun a b h z => h ((W_iff a b).mp z)) nd) fun p _ => hg p.1 p.2
  unfold mDcS
  rw [it]
  show (goDs _ _ _ _ _ [] sd).bind _ = _
  rw [q1]
  show ER.ok (odS ([] ++ _)) (sd'.back sd [i, j]) = _
  rw [back_self q2, List.nil_append]
  rfl
theorem sget_in {w : List Nat} : ∀ (ns : List (List Nat)) (i : Nat), w ∈ ns → sGet ((ns.zipIdx i).map fun p => (W p.1, D.int (p.2 : Nat))) (W w) = some (.int ((i + ns.idxOf w : Nat) : Int))
  | [], _, h => by cases h
  | a :: r, i, h => by
    unfold sGet
    rw [List.zipIdx_cons, List.map_cons, List.find?_cons]
    by_cases e : a = w
    · subst e
      simp
    · have e2 : (a == w) = false := beq_eq_false_iff_ne.mpr e
      rw [decide_eq_false (fun z => e ((W_iff a w).mp z))]
      rcases List.mem_cons.mp h with z | z
      · exact absurd z.symm e
      · have ih := sget_in r (i + 1) z
        unfold sGet at ih
        rw [List.idxOf_cons, e2]
        refine ih.trans ?_
        simp only [cond_false]
        congr 3
        omega
theorem sget_out {w : List Nat} : ∀ (ns : List (List Nat)) (i : Nat), w ∉ ns → sGet ((ns.zipIdx i).map fun p => (W p.1, D.int (p.2 : Nat))) (W w) = none
  | [], _, _ => rfl
  | a :: r, i, h => by
    unfold sGet
    rw [List.zipIdx_cons, List.map_cons, List.find?_cons, decide_eq_false (fun z => h (by rw [(W_iff a w).mp z]; simp))]
    exact sget_out r (i + 1) fun z => h (List.mem_cons_of_mem _ z)
theorem insb_v {names : List (List Nat)} {mk mo : SD → ER D} {sd : SD} {w : List Nat} (h1 : mk sd = .ok (.str (W w)) sd) (h2 : mo sd = .ok (dicS (placesA names)) sd) : mInSB mk mo sd = .ok (decide (w ∈ names)) sd := by
  unfold mInSB
  rw [h1]
  show (mo sd).bind _ = _
  rw [h2]
  show (match strIs (.str (W w)), unS (dicS (placesA names)) with
    | some ns, some al => ER.ok (sGet al ns).isSome sd
    | _, _ => .bad) = _
  rw [unS_dicS]
  show ER.ok (sGet (placesA names) (W w)).isSome sd = _
  unfold placesA
  by_cases h : w ∈ names
  · rw [sget_in names 0 h, decide_eq_true h]; rfl
  · rw [sget_out names 0 h, decide_eq_false h]; rfl
theorem sitem_v {names : List (List Nat)} {mk mo : SD → ER D} {sd : SD} {w : List Nat} (hw : w ∈ names) (h1 : mk sd = .ok (.str (W w)) sd) (h2 : mo sd = .ok (dicS (placesA names)) sd) : mSItem mo mk sd = .ok (.int (names.idxOf w : Nat)) sd := by
  unfold mSItem
  rw [h2]
  show (mk sd).bind _ = _
  rw [h1]
  show (match unS (dicS (placesA names)), strIs (.str (W w)) with
    | some al, some ns => ER.opt (sGet al ns) sd
    | _, _ => .bad) = _
  rw [unS_dicS]
  show ER.opt (sGet (placesA names) (W w)) sd = _
  unfold placesA
  rw [sget_in names 0 hw, Nat.zero_add]
  rfl
theorem aug_v {i : Nat} {f : D → D → Option D} {m : SD → ER D} {sd : SD} {d y c : D} {l : List S} {pa : List OT} (h0 : sd.sl[i]? = some (.ow (.fz d))) (h : m sd = .ok y ⟨l, pa⟩) (hf : f d y = some c) (hl : i < l.length) : sAug i f m sd = .nx ⟨l.set i (.ow (.fz c)), pa⟩ := by
  unfold sAug
  rw [h0]
  dsimp only
  rw [h]
  show (match f d y with
    | some c => if i < l.length then Fl.nx ⟨l.set i (.ow (.fz c)), pa⟩ else .bad
    | none => .bad) = _
  rw [hf]
  dsimp only
  rw [if_pos hl]
theorem app_d {i : Nat} {m : SD → ER OT} {sd sd1 : SD} {xs0 xs : List D} {d : D} (h0 : sd.tree i = some (.ol (xs0.map .fz))) (h : m sd = .ok (.fz d) sd1) (h1 : sd1.tree i = some (.ol (xs.map .fz))) (hl : xs.length < 16777216) : sApp i m sd = .nx (sd1.put i (.ol ((xs ++ [d]).map .fz))) := by
  rw [app_o h0 h h1 (by rw [List.length_map]; exact hl), List.map_append]
  rfl
theorem at_q {a : SD → ER (List D)} {b : SD → ER D} {sd sd1 sd2 : SD} {xs : List D} {k : Nat} {d : D} (ha : a sd = .ok xs sd1) (hb : b sd1 = .ok (.int k) sd2) (h : xs[k]? = some d) : mAt a b sd = .ok d sd2 := by
  unfold mAt
  rw [ha]
  show (b sd1).bind _ = _
  rw [hb]
  show ER.opt (atI xs (k : Int)) sd2 = _
  rw [atI_of h]
  rfl
noncomputable def szS (names : List (List Nat)) (lines : D) (sz dp : List Nat) (x5 x6 x7 : S) (size depth deep : Nat) (x11 : S) : SD :=
  ⟨[.ow (.fz (.lst (WsD names))), .ow (.fz lines), .ow (.ol ((sz.map fun n : Nat => D.int n).map .fz)), .ow (.ol ((dp.map fun n : Nat => D.int n).map .fz)), .ow (.fz (dicS (placesA names))), x5, x6, x7, .ow (.fz (.int size)), .ow (.fz (.int depth)), .ow (.fz (.int deep)), x11], [.fz (.lst (WsD names)), .fz lines]⟩
section
variable (cs : Nat → Addr) {names : List (List Nat)} {lines : D} {sz dp : List Nat} {x5 x6 x7 x11 : S} {size depth deep : Nat}
theorem sz_see2 : qSee 2 (szS names lines sz dp x5 x6 x7 size depth deep x11) = .ok (sz.map fun n : Nat => D.int n) (szS names lines sz dp x5 x6 x7 size depth deep x11) := by
  show ER.opt (fzOf ((sz.map fun n : Nat => D.int n).map .fz)) _ = _
  rw [fzOf_map]
  rfl
theorem sz_see3 : qSee 3 (szS names lines sz dp x5 x6 x7 size depth deep x11) = .ok (dp.map fun n : Nat => D.int n) (szS names lines sz dp x5 x6 x7 size depth deep x11) := by
  show ER.opt (fzOf ((dp.map fun n : Nat => D.int n).map .fz)) _ = _
  rw [fzOf_map]
  rfl
theorem max_v {a b : SD → ER D} {sd sd1 sd2 : SD} {i j : Nat} (ha : a sd = .ok (.int i) sd1) (hb : b sd1 = .ok (.int j) sd2) : mCall dMax (mCons a (mCons b mNil)) sd = .ok (.int (max i j : Nat)) sd2 := call_v (cons_v ha (cons_v hb (r := mNil) rfl)) (by
  show some (D.int (max (i : Int) (j : Int))) = _
  congr 2
  omega)
theorem sz_name {w : List Nat} {a b : Nat} (hw : w ∈ names) (ha : sz[names.idxOf w]? = some a) (hb : dp[names.idxOf w]? = some b) :
    m_sizes_in_b1 cs (szS names lines sz dp x5 x6 x7 size depth deep (.ow (.fz (.str (W w))))) = .nx (szS names lines sz dp x5 x6 x7 (size + a) depth (max deep (depth + b)) (.ow (.fz (.str (W w))))) := by
  let T := fun (size deep : Nat) => szS names lines sz dp x5 x6 x7 size depth deep (.ow (.fz (.str (W w))))
  have it : ∀ size deep, mSItem (mVar 4) (mVar 11) (T size deep) = .ok (.int (names.idxOf w : Nat)) (T size deep) := fun size deep => sitem_v hw rfl rfl
  have s7 : m_sizes_in_7 cs (T size deep) = .nx (T (size + a) deep) := aug_v (i := 8) (l := (T size deep).sl) (d := .int size) (y := .int a) rfl (at_q sz_see2 (it _ _) (by rw [List.getElem?_map, ha]; rfl)) (by show some (D.int ((size : Int) + a)) = some (D.int ((size + a : Nat) : Int)); congr 2) (by show 8 < 12; decide)
  have s8 : m_sizes_in_8 cs (T (size + a) deep) = .nx (T (size + a) (max deep (depth + b))) := set_d (l := (T (size + a) deep).sl) (max_v (i := deep) rfl (op_v (f := dAdd) (x := .int depth) (y := .int b) (z := .int (depth + b : Nat)) rfl (at_q sz_see3 (it _ _) (by rw [List.getElem?_map, hb]; rfl)) rfl)) (by show 10 < 12; decide)
  show m_sizes_in_12 cs (T size deep) = _
  unfold m_sizes_in_12
  rw [if_b (insb_v (mk := mVar 11) (mo := mVar 4) (sd := T size deep) (w := w) (names := names) rfl rfl), decide_eq_true hw, if_pos rfl]
  exact seq_nx s7 s8
theorem sz_word {c : Nat} {r : List Nat} {depth2 : Nat} (hn : c :: r ∉ names) (hl : r.length ≤ 1000) (hd : (depth : Int) + ((if c :: r = [40] then 1 else 0) - (if c = 41 then 1 else 0)) = (depth2 : Nat)) :
    m_sizes_in_b1 cs (szS names lines sz dp x5 x6 x7 size depth deep (.ow (.fz (.str (W (c :: r)))))) = .nx (szS names lines sz dp x5 x6 x7 (size + 1) depth2 (max deep depth2) (.ow (.fz (.str (W (c :: r)))))) := by
  let T := fun (size depth deep : Nat) => szS names lines sz dp x5 x6 x7 size depth deep (.ow (.fz (.str (W (c :: r)))))
  have s9 : m_sizes_in_9 cs (T size depth deep) = .nx (T (size + 1) depth deep) := aug_v (i := 8) (l := (T size depth deep).sl) (d := .int size) (y := .int 1) rfl rfl rfl (by show 8 < 12; decide)
  have t1 : mCall dInt2 (mCons (mOp dEq (mVar 11) (mC (.str "("))) (mNil)) (T (size + 1) depth deep) = .ok (.int (if c :: r = [40] then 1 else 0)) (T (size + 1) depth deep) := call_v (cons_v (op_v (x := .str (W (c :: r))) (y := .str (W [40])) rfl (by rw [← lit_open]; rfl) (eq_S _ _)) rfl) (by rw [int2_bl]; by_cases z : c :: r = [40] <;> simp [z])
  have t2 : mCall dInt2 (mCons (mOp dEq (mOp dIx (mVar 11) (mC (.int 0))) (mC (.str ")"))) (mNil)) (T (size + 1) depth deep) = .ok (.int (if c = 41 then 1 else 0)) (T (size + 1) depth deep) := call_v (cons_v (op_v (x := .str (W [c])) (y := .str (W [41])) (op_v (x := .str (W (c :: r))) (y := .int 0) rfl rfl (ix0_S (by rw [List.length_cons]; omega))) (by rw [← lit_close]; rfl) (eq_S _ _)) rfl) (by rw [int2_bl]; by_cases z : c = 41 <;> simp [z])
  have s10 : m_sizes_in_10 cs (T (size + 1) depth deep) = .nx (T (size + 1) depth2 deep) := aug_v (i := 9) (l := (T (size + 1) depth deep).sl) (d := .int depth) (c := .int depth2) rfl (op_v (f := dSub) t1 t2 rfl) (by rw [← hd]; rfl) (by show 9 < 12; decide)
  have s11 : m_sizes_in_11 cs (T (size + 1) depth2 deep) = .nx (T (size + 1) depth2 (max deep depth2)) := set_d (l := (T (size + 1) depth2 deep).sl) (max_v (i := deep) (j := depth2) rfl rfl) (by show 10 < 12; decide)
  show m_sizes_in_12 cs (T size depth deep) = _
  unfold m_sizes_in_12
  rw [if_b (insb_v (mk := mVar 11) (mo := mVar 4) (sd := T size depth deep) (w := c :: r) (names := names) rfl rfl), decide_eq_false hn, if_neg Bool.false_ne_true]
  exact seq_nx s9 (seq_nx s10 s11)
end
theorem tex_dp {E : List Nat → List Nd} (b : List Tr) (n : Nat) : ndps (tex E (.rp b n)) = 1 + ndps (texs E b) := by rw [tex, ndps_one, ndp]
mutual
theorem sz_tr (cs : Nat → Addr) {names : List (List Nat)} {lines : D} {ns : List (List Nat)} {E : List Nat → List Nd} {sz dp : List Nat} {x5 x6 x7 : S} (hns : ∀ w ∈ names, NmOk w) (hm : ∀ w ∈ ns, w ∈ names ∧ sz[names.idxOf w]? = some (wds (E w)).length ∧ dp[names.idxOf w]? = some (ndps (E w))) : ∀ (a : Tr) (size depth deep : Nat) (x11 : S), tok ns a → depth ≤ deep →
    ∃ y11, Runs (tgN 11) (m_sizes_in_b1 cs) (WsD (twd a)) (szS names lines sz dp x5 x6 x7 size depth deep x11) (szS names lines sz dp x5 x6 x7 (size + (wds (tex E a)).length) depth (max deep (depth + ndps (tex E a))) y11)
  | .st c n, size, depth, deep, x11, h, hd => by
    rw [tok] at h
    have ln := letter_ne h.1
    have := sz_word cs (names := names) (lines := lines) (sz := sz) (dp := dp) (x5 := x5) (x6 := x6) (x7 := x7) (size := size) (depth := depth) (deep := deep) (c := c) (r := if n = 1 then [] else TL.numL n) (depth2 := depth) (lw_no_name hns c n) (by have := lw_len h.2.2; omega) (by
      rw [if_neg (fun z => ln.1 (by injection z)), if_neg ln.2]; omega)
    rw [tex, twd, wds_one, wd, ndps_one, ndp, List.length_singleton, Nat.add_zero]
    exact ⟨_, .one (a1 := szS names lines sz dp x5 x6 x7 size depth deep (.ow (.fz (.str (W (lw c n)))))) rfl this⟩
  | .nm w, size, depth, deep, x11, h, hd => by
    rw [tok] at h
    obtain ⟨h1, h2, h3⟩ := hm w h
    rw [tex, twd]
    exact ⟨_, .one (a1 := szS names lines sz dp x5 x6 x7 size depth deep (.ow (.fz (.str (W w))))) rfl (sz_name cs h1 h2 h3)⟩
  | .rp b n, size, depth, deep, x11, h, hd => by
    rw [tok] at h
    have o := sz_word cs (names := names) (lines := lines) (sz := sz) (dp := dp) (x5 := x5) (x6 := x6) (x7 := x7) (size := size) (depth := depth) (deep := deep) (c := 40) (r := []) (depth2 := depth + 1) (open_no_name hns) (by decide) (by
      rw [if_pos rfl, if_neg (by decide)]; omega)
    obtain ⟨y11, r1⟩ := sz_trs cs (lines := lines) (x5 := x5) (x6 := x6) (x7 := x7) hns hm b (size + 1) (depth + 1) (max deep (depth + 1)) (.ow (.fz (.str (W [40])))) h.2.2.2 (by omega)
    generalize hD : max (max deep (depth + 1)) (depth + 1 + ndps (texs E b)) = D1 at *
    generalize hZ : (wds (texs E b)).length = Z at *
    have c := sz_word cs (names := names) (lines := lines) (sz := sz) (dp := dp) (x5 := x5) (x6 := x6) (x7 := x7) (size := size + 1 + Z) (depth := depth + 1) (deep := D1) (c := 41) (r := TL.numL n) (depth2 := depth) (close_no_name hns n) (by
      have hl := TL.numL_len (n := n) (k := 31) (by decide) (by omega)
      omega) (by rw [if_neg (by intro z; cases z), if_pos rfl]; omega)
    refine ⟨.ow (.fz (.str (W (41 :: TL.numL n)))), ?_⟩
    have e1 : size + (wds (tex E (.rp b n))).length = size + 1 + Z + 1 := by rw [tex, wds_one, wd, List.length_cons, List.length_append, List.length_singleton, hZ]; omega
    have e2 : max deep (depth + ndps (tex E (.rp b n))) = max D1 depth := by rw [tex_dp]; omega
    rw [e1, e2, twd]
    have w0 : WsD ([40] :: (twds b ++ [41 :: TL.numL n])) = [D.str (W [40])] ++ (WsD (twds b) ++ [D.str (W (41 :: TL.numL n))]) := by
      show .str (W [40]) :: WsD (twds b ++ [41 :: TL.numL n]) = _
      rw [WsD_app]
      rfl
    rw [w0]
    exact (Runs.one (a1 := szS names lines sz dp x5 x6 x7 size depth deep (.ow (.fz (.str (W [40]))))) rfl o).app (r1.app (.one (a1 := szS names lines sz dp x5 x6 x7 (size + 1 + Z) (depth + 1) D1 (.ow (.fz (.str (W (41 :: TL.numL n)))))) rfl c))
theorem sz_trs (cs : Nat → Addr) {names : List (List Nat)} {lines : D} {ns : List (List Nat)} {E : List Nat → List Nd} {sz dp : List Nat} {x5 x6 x7 : S} (hns : ∀ w ∈ names, NmOk w) (hm : ∀ w ∈ ns, w ∈ names ∧ sz[names.idxOf w]? = some (wds (E w)).length ∧ dp[names.idxOf w]? = some (ndps (E w))) : ∀ (l : List Tr) (size depth deep : Nat) (x11 : S), toks ns l → depth ≤ deep →
    ∃ y11, Runs (tgN 11) (m_sizes_in_b1 cs) (WsD (twds l)) (szS names lines sz dp x5 x6 x7 size depth deep x11) (szS names lines sz dp x5 x6 x7 (size + (wds (texs E l)).length) depth (max deep (depth + ndps (texs E l))) y11)
  | [], size, depth, deep, x11, _, hd => ⟨x11, by
    rw [texs, twds, wds, ndps, List.length_nil, Nat.add_zero, Nat.add_zero, Nat.max_eq_left hd]
    exact .nil⟩
  | a :: r, size, depth, deep, x11, h, hd => by
    rw [toks] at h
    obtain ⟨y11, r1⟩ := sz_tr cs (lines := lines) (x5 := x5) (x6 := x6) (x7 := x7) hns hm a size depth deep x11 h.1 hd
    obtain ⟨z11, r2⟩ := sz_trs cs (lines := lines) (x5 := x5) (x6 := x6) (x7 := x7) hns hm r (size + (wds (tex E a)).length) depth (max deep (depth + ndps (tex E a))) y11 h.2 (by omega)
    refine ⟨z11, ?_⟩
    rw [texs, twds, wds_app, ndps_app, List.length_append, WsD_app, ← Nat.add_assoc, show max deep (depth + max (ndps (tex E a)) (ndps (texs E r))) = max (max deep (depth + ndps (tex E a))) (depth + ndps (texs E r)) by omega]
    exact r1.app r2
end
section
variable {names : List (List Nat)} {lines : List (List Tr)} {F : List (List Nd)} (s : Src names lines) (xx : Exp names lines F)
include s xx
theorem Exp.tree {k : Nat} (hk : k ≤ names.length) : F.getD k [] = texs (ofE names F) (lines.getD k []) := by
  have e := xx.at_ k _ (s.line hk)
  rw [List.getD_eq_getElem?_getD, e]
  rfl
theorem lines_it {m : SD → ER D} {sd : SD} (h : m sd = .ok (.lst (lines.map LD)) sd) : iLst m sd = .ok ((List.range (names.length + 1)).map fun k => LD (lines.getD k [])) sd := by
  rw [ilst_v h]
  congr 1
  apply List.ext_getElem?
  intro k
  rw [List.getElem?_map, List.getElem?_map]
  by_cases hk : k < names.length + 1
  · rw [List.getElem?_range hk, s.line (by omega)]; rfl
  · rw [List.getElem?_eq_none (by rw [s.len]; omega), List.getElem?_eq_none (by rw [List.length_range]; omega)]
    rfl
theorem sizes_ok (cs : Nat → Addr) : m_sizes_in cs [.fz (.lst (WsD names)), .fz (.lst (lines.map LD))] = .ok (.fz (.tup [.lst (F.map fun l => D.int (wds l).length), .lst (F.map fun l => D.int (ndps l))])) ⟨[], [.fz (.lst (WsD names)), .fz (.lst (lines.map LD))]⟩ := by
  have fl : F.length = names.length + 1 := by rw [xx.len, s.len]
  have few := s.few
  let T0 := fun x2 x3 x4 : S => (⟨[.ow (.fz (.lst (WsD names))), .ow (.fz (.lst (lines.map LD))), x2, x3, x4, .un, .un, .un, .un, .un, .un, .un], [.fz (.lst (WsD names)), .fz (.lst (lines.map LD))]⟩ : SD)
  have s1 : m_sizes_in_1 cs (T0 .un .un .un) = .nx (T0 (.ow (.ol [])) .un .un) := rfl
  have s2 : m_sizes_in_2 cs (T0 (.ow (.ol [])) .un .un) = .nx (T0 (.ow (.ol [])) (.ow (.ol [])) .un) := rfl
  have pl : m_sizes_in_c1 cs (T0 (.ow (.ol [])) (.ow (.ol [])) .un) = .ok (odS (placesA names)) (T0 (.ow (.ol [])) (.ow (.ol [])) .un) := places_v s.nd s.few rfl fun w k => ⟨⟨[.ow (.fz (.lst (WsD names))), .ow (.fz (.lst (lines.map LD))), .ow (.ol []), .ow (.ol []), .un, .ow (.fz (.int k)), .ow (.fz (.str (W w))), .un, .un, .un, .un, .un], [.fz (.lst (WsD names)), .fz (.lst (lines.map LD))]⟩, rfl, rfl, rfl, rfl⟩
  have s3 : m_sizes_in_3 cs (T0 (.ow (.ol [])) (.ow (.ol [])) .un) = .nx (T0 (.ow (.ol [])) (.ow (.ol [])) (.ow (.fz (dicS (placesA names))))) := set_d (l := (T0 (.ow (.ol [])) (.ow (.ol [])) .un).sl) (by rw [← view_odS]; exact vwt_v pl) (by show 4 < 12; decide)
  obtain ⟨sd', w1, x7, x8, x9, x10, x11, rfl⟩ := for_count (g := tgN 7) (body := m_sizes_in_b2 cs) (sd := T0 (.ow (.ol [])) (.ow (.ol [])) (.ow (.fz (dicS (placesA names))))) (fun k => LD (lines.getD k []))
    (fun k sd => ∃ x7 x8 x9 x10 x11, sd = ⟨[.ow (.fz (.lst (WsD names))), .ow (.fz (.lst (lines.map LD))), .ow (.ol (((F.take k).map fun l => D.int (wds l).length).map .fz)), .ow (.ol (((F.take k).map fun l => D.int (ndps l)).map .fz)), .ow (.fz (dicS (placesA names))), .un, .un, x7, x8, x9, x10, x11], [.fz (.lst (WsD names)), .fz (.lst (lines.map LD))]⟩) (lines_it s xx rfl) ⟨_, _, _, _, _, rfl⟩ (fun k hk sd hI => by
      obtain ⟨x7, x8, x9, x10, x11, rfl⟩ := hI
      have e1 := (xx.words s (k := k) (by omega)).1
      have et := xx.tree s (k := k) (by omega)
      obtain ⟨o1, o2, o3, o4⟩ := s.ok _ _ (s.line (k := k) (by omega))
      have m1 : ∀ (f : List Nd → Nat) (L : List (List Nd)), ((L.map f).map fun n : Nat => D.int n) = L.map fun l => D.int (f l) := fun f L => by rw [List.map_map]; rfl
      let U := fun x8 x9 x10 : S => (⟨[.ow (.fz (.lst (WsD names))), .ow (.fz (.lst (lines.map LD))), .ow (.ol (((F.take k).map fun l => D.int (wds l).length).map .fz)), .ow (.ol (((F.take k).map fun l => D.int (ndps l)).map .fz)), .ow (.fz (dicS (placesA names))), .un, .un, .ow (.fz (LD (lines.getD k []))), x8, x9, x10, x11], [.fz (.lst (WsD names)), .fz (.lst (lines.map LD))]⟩ : SD)
      have q4 : m_sizes_in_4 cs (U x8 x9 x10) = .nx (U (.ow (.fz (.int 0))) x9 x10) := rfl
      have q5 : m_sizes_in_5 cs (U (.ow (.fz (.int 0))) x9 x10) = .nx (U (.ow (.fz (.int 0))) (.ow (.fz (.int 0))) x10) := rfl
      have q6 : m_sizes_in_6 cs (U (.ow (.fz (.int 0))) (.ow (.fz (.int 0))) x10) = .nx (U (.ow (.fz (.int 0))) (.ow (.fz (.int 0))) (.ow (.fz (.int 0)))) := rfl
      let V := szS names (.lst (lines.map LD)) ((F.take k).map fun l => (wds l).length) ((F.take k).map fun l => ndps l) .un .un (.ow (.fz (LD (lines.getD k []))))
      have uv : U (.ow (.fz (.int 0))) (.ow (.fz (.int 0))) (.ow (.fz (.int 0))) = V 0 0 0 x11 := by
        show U _ _ _ = szS _ _ _ _ _ _ _ _ _ _ _
        unfold szS
        rw [m1, m1]
        try rfl
      obtain ⟨y11, r⟩ := sz_trs cs (names := names) (lines := .lst (lines.map LD)) (ns := names.take k) (E := ofE names F) (sz := (F.take k).map fun l => (wds l).length) (dp := (F.take k).map fun l => ndps l) (x5 := .un) (x6 := .un) (x7 := .ow (.fz (LD (lines.getD k [])))) s.nm (fun w hw => by
        have hi := take_idx hw
        have hi2 : names.idxOf w < F.length := by omega
        have ee : ofE names F w = F[names.idxOf w] := by
          unfold ofE
          rw [List.getD_eq_getElem?_getD, List.getElem?_eq_getElem hi2]; rfl
        refine ⟨take_in hw, ?_, ?_⟩ <;> rw [List.getElem?_map, List.getElem?_take_of_lt hi, List.getElem?_eq_getElem hi2, ee] <;> rfl) (lines.getD k []) 0 0 0 x11 o1 (Nat.le_refl _)
      rw [← et, Nat.zero_add, Nat.zero_add, Nat.zero_max] at r
      have q13 : m_sizes_in_13 cs (V 0 0 0 x11) = .nx (V (wds (F.getD k [])).length 0 (ndps (F.getD k [])) y11) := r.all
      let X := fun (A B : List D) => (⟨[.ow (.fz (.lst (WsD names))), .ow (.fz (.lst (lines.map LD))), .ow (.ol (A.map .fz)), .ow (.ol (B.map .fz)), .ow (.fz (dicS (placesA names))), .un, .un, .ow (.fz (LD (lines.getD k []))), .ow (.fz (.int (wds (F.getD k [])).length)), .ow (.fz (.int (0 : Nat))), .ow (.fz (.int (ndps (F.getD k [])))), y11], [.fz (.lst (WsD names)), .fz (.lst (lines.map LD))]⟩ : SD)
      have vx : V (wds (F.getD k [])).length 0 (ndps (F.getD k [])) y11 = X ((F.take k).map fun l => D.int (wds l).length) ((F.take k).map fun l => D.int (ndps l)) := by
        show szS _ _ _ _ _ _ _ _ _ _ _ = X _ _
        unfold szS
        rw [m1, m1]
        try rfl
      have q14 : m_sizes_in_14 cs (X ((F.take k).map fun l => D.int (wds l).length) ((F.take k).map fun l => D.int (ndps l))) = .nx (X ((F.take (k + 1)).map fun l => D.int (wds l).length) ((F.take k).map fun l => D.int (ndps l))) := by
        have : ((F.take (k + 1)).map fun l => D.int (wds l).length) = ((F.take k).map fun l => D.int (wds l).length) ++ [D.int (wds (F.getD k [])).length] := by rw [take_snoc e1, List.map_append]; rfl
        rw [this]
        exact app_d (i := 2) (m := mOwn (mVar 8)) (sd1 := X ((F.take k).map fun l => D.int (wds l).length) ((F.take k).map fun l => D.int (ndps l))) (xs0 := (F.take k).map fun l => D.int (wds l).length) rfl (own_v (d := .int (wds (F.getD k [])).length) rfl) rfl (by rw [List.length_map, List.length_take]; omega)
      have q15 : m_sizes_in_15 cs (X ((F.take (k + 1)).map fun l => D.int (wds l).length) ((F.take k).map fun l => D.int (ndps l))) = .nx (X ((F.take (k + 1)).map fun l => D.int (wds l).length) ((F.take (k + 1)).map fun l => D.int (ndps l))) := by
        have : ((F.take (k + 1)).map fun l => D.int (ndps l)) = ((F.take k).map fun l => D.int (ndps l)) ++ [D.int (ndps (F.getD k []))] := by rw [take_snoc e1, List.map_append]; rfl
        rw [this]
        exact app_d (i := 3) (m := mOwn (mVar 10)) (sd1 := X ((F.take (k + 1)).map fun l => D.int (wds l).length) ((F.take k).map fun l => D.int (ndps l))) (xs0 := (F.take k).map fun l => D.int (ndps l)) rfl (own_v (d := .int (ndps (F.getD k []))) rfl) rfl (by rw [List.length_map, List.length_take]; omega)
      refine ⟨U x8 x9 x10, X ((F.take (k + 1)).map fun l => D.int (wds l).length) ((F.take (k + 1)).map fun l => D.int (ndps l)), rfl, ?_, _, _, _, _, _, rfl⟩
      exact seq_nx q4 (seq_nx q5 (seq_nx q6 (by rw [uv]; exact seq_nx q13 (by rw [vx]; exact seq_nx q14 q15)))))
  rw [List.take_of_length_le (by omega)] at w1
  generalize hA : (F.map fun l => D.int (wds l).length) = A at *
  generalize hB : (F.map fun l => D.int (ndps l)) = B at *
  have s17 : m_sizes_in_17 cs ⟨[.ow (.fz (.lst (WsD names))), .ow (.fz (.lst (lines.map LD))), .ow (.ol (A.map .fz)), .ow (.ol (B.map .fz)), .ow (.fz (dicS (placesA names))), .un, .un, x7, x8, x9, x10, x11], [.fz (.lst (WsD names)), .fz (.lst (lines.map LD))]⟩ = .rt (.fz (.tup [.lst A, .lst B])) ⟨[.ow (.fz (.lst (WsD names))), .ow (.fz (.lst (lines.map LD))), .ow (.fz (.lst A)), .ow (.fz (.lst B)), .ow (.fz (dicS (placesA names))), .un, .un, x7, x8, x9, x10, x11], [.fz (.lst (WsD names)), .fz (.lst (lines.map LD))]⟩ := by
    refine ret_d (tup_v (xs := [.lst A, .lst B]) ?_ (by show 2 ≤ _; decide))
    refine cons_v (sd1 := ⟨[.ow (.fz (.lst (WsD names))), .ow (.fz (.lst (lines.map LD))), .ow (.fz (.lst A)), .ow (.ol (B.map .fz)), .ow (.fz (dicS (placesA names))), .un, .un, x7, x8, x9, x10, x11], [.fz (.lst (WsD names)), .fz (.lst (lines.map LD))]⟩) ?_ (cons_v (r := mNil) ?_ rfl)
    · show ER.ok (OT.view (.ol _)) (⟨[_, _, .ow (.fz (OT.view (.ol _))), _, _, _, _, _, _, _, _, _], _⟩ : SD) = _
      rw [view_ol]
    · show ER.ok (OT.view (.ol _)) (⟨[_, _, _, .ow (.fz (OT.view (.ol _))), _, _, _, _, _, _, _, _], _⟩ : SD) = _
      rw [view_ol]
  exact def_rt (sd0 := T0 .un .un .un) rfl (seq_nx s1 (seq_nx s2 (seq_nx s3 (seq_nx (a := m_sizes_in_16 cs) w1 s17))))
end
theorem joinL_flat {s : List Nat} (f : List Nat → List (List Nat)) : ∀ xs : List (List Nat), (∀ x ∈ xs, f x ≠ []) → TL.joinL s (xs.map fun x => TL.joinL s (f x)) = TL.joinL s (xs.flatMap f)
  | [], _ => rfl
  | [x], h => by
    rw [List.flatMap_cons, List.flatMap_nil, List.append_nil]
    rfl
  | x :: y :: r, h => by
    have ih := joinL_flat (s := s) f (y :: r) fun z hz => h z (List.mem_cons_of_mem _ hz)
    have ny : (y :: r).flatMap f ≠ [] := fun z => by
      rw [List.flatMap_cons] at z
      exact h y (by simp) (List.append_eq_nil_iff.mp z).1
    have app : ∀ a b : List (List Nat), a ≠ [] → b ≠ [] → TL.joinL s (a ++ b) = TL.joinL s a ++ (s ++ TL.joinL s b) := fun a => by
      induction a with
      | nil => intro b ha; exact absurd rfl ha
      | cons p q ih2 =>
        intro b _ hb
        cases q with
        | nil => exact joinL_two p hb s
        | cons u v =>
          rw [List.cons_append, joinL_two p (by simp) s, ih2 b (by simp) hb, joinL_two p (by simp) s]
          simp [List.append_assoc]
    rw [List.flatMap_cons, app _ _ (h x (by simp)) ny, ← ih]
    exact joinL_two _ (by simp) s
theorem joinL_ne {s : List Nat} {ws : List (List Nat)} (h : ws ≠ []) (hw : ∀ w ∈ ws, w ≠ []) : TL.joinL s ws ≠ [] := by
  cases ws with
  | nil => exact absurd rfl h
  | cons p r =>
    cases r with
    | nil => exact hw p (by simp)
    | cons q r =>
      rw [joinL_two p (by simp) s]
      intro z
      exact hw p (by simp) (List.append_eq_nil_iff.mp z).1
section
variable {names : List (List Nat)} {lines : List (List Tr)} {F : List (List Nd)} (s : Src names lines) (xx : Exp names lines F)
include s xx
theorem Exp.prop {k : Nat} (hk : k ≤ names.length) : noks (F.getD k []) ∧ (k < names.length → F.getD k [] ≠ []) := xx.ok s k _ (xx.words s hk).1
theorem exW_ne {k : Nat} (hk : k ≤ names.length) : ∀ x ∈ twds (lines.getD k []), exW names (ofE names F) x ≠ [] ∧ ∀ w ∈ exW names (ofE names F) x, w ≠ [] ∧ w.length ≤ 40 := fun x hx => by
  unfold exW
  split
  · rename_i hn
    have hi := s.idx xx hk x hx hn
    have p := xx.prop s (k := names.idxOf x) (by omega)
    refine ⟨fun z => ?_, fun w hw => ⟨(wds_free _ p.1 w hw).2, wds_wlen _ p.1 w hw⟩⟩
    have : F.getD (names.idxOf x) [] = [] := by
      apply Classical.byContradiction
      intro ne
      have := len_wds (F.getD (names.idxOf x) [])
      rw [show wds (F.getD (names.idxOf x) []) = [] from z] at this
      exact ne (List.length_eq_zero_iff.mp (by simpa using this))
    exact p.2 (by omega) this
  · have tw := twds_wd (fun w hw => s.nm w (take_in hw)) _ (s.ok _ _ (s.line hk)).1 x hx
    refine ⟨by simp, fun w hw => ?_⟩
    rw [List.mem_singleton.mp hw]
    exact ⟨tw.2.2.1, tw.2.2.2.1⟩
theorem text_ok (cs : Nat → Addr) : ∀ (f k : Nat), k < f → k ≤ names.length → (wds (F.getD k [])).length ≤ 1000 → m_text_of cs f [.fz (.lst (WsD names)), .fz (.lst (lines.map LD)), .fz (.int k)] = .ok (.fz (.str (W (TL.joinL [32] (wds (F.getD k [])))))) ⟨[], [.fz (.lst (WsD names)), .fz (.lst (lines.map LD)), .fz (.int k)]⟩
  | 0, k, hf, _, _ => by omega
  | f + 1, k, hf, hk, hl => by
    have few := s.few
    obtain ⟨e1, e2⟩ := xx.words s hk
    have ne := exW_ne s xx hk
    have idx := s.idx xx hk
    have hline := s.line hk
    obtain ⟨o1, o2, o3, o4⟩ := s.ok _ _ hline
    have tw := twds_wd (fun w hw => s.nm w (take_in hw)) _ o1
    rw [e2]
    rw [e2] at hl
    generalize lines.getD k [] = l at *
    have sub : ∀ x ∈ twds l, (exW names (ofE names F) x).length ≤ 1000 := fun x hx => by
      have : ∀ xs : List (List Nat), x ∈ xs → (exW names (ofE names F) x).length ≤ (xs.flatMap (exW names (ofE names F))).length := fun xs => by
        induction xs with
        | nil => intro h; cases h
        | cons y r ih =>
          intro h
          rw [List.flatMap_cons, List.length_append]
          rcases List.mem_cons.mp h with rfl | h
          · omega
          · have := ih h; omega
      have := this _ hx
      omega
    let pa : List OT := [.fz (.lst (WsD names)), .fz (.lst (lines.map LD)), .fz (.int k)]
    let T := fun x3 x6 x7 x8 : S => (⟨[.ow (.fz (.lst (WsD names))), .ow (.fz (.lst (lines.map LD))), .ow (.fz (.int k)), x3, .un, .un, x6, x7, x8], pa⟩ : SD)
    let P : S := .ow (.fz (dicS (placesA names)))
    have pl : m_text_of_c1 cs (m_text_of cs f) (T .un .un .un .un) = .ok (odS (placesA names)) (T .un .un .un .un) := places_v s.nd s.few rfl fun w k2 => ⟨⟨[.ow (.fz (.lst (WsD names))), .ow (.fz (.lst (lines.map LD))), .ow (.fz (.int k)), .un, .ow (.fz (.int k2)), .ow (.fz (.str (W w))), .un, .un, .un], pa⟩, rfl, rfl, rfl, rfl⟩
    have s1 : m_text_of_1 cs (m_text_of cs f) (T .un .un .un .un) = .nx (T P .un .un .un) := set_d (l := (T .un .un .un .un).sl) (by rw [← view_odS]; exact vwt_v pl) (by show 3 < 9; decide)
    have c2 : m_text_of_c2 cs (m_text_of cs f) (T P .un .un .un) = .ok (.ol (((twds l).map fun x => D.str (W (TL.joinL [32] (exW names (ofE names F) x)))).map .fz)) (T P .un .un .un) := by
      refine mComp_map (twds l) (fun x => D.str (W x)) (fun x => D.str (W (TL.joinL [32] (exW names (ofE names F) x)))) ?_ (by omega) fun x hx => ⟨T P .un (.ow (.fz (.str (W x)))) .un, rfl, rfl, ?_⟩
      · exact ilst_v (xs := (twds l).map fun x => D.str (W x)) (op_v (x := .lst (lines.map LD)) (y := .int k) rfl rfl (by
          show atI (lines.map LD) (k : Int) = _
          exact atI_of (by rw [List.getElem?_map, hline]; rfl)))
      · rw [ifd_b (insb_v (mk := mVar 7) (mo := mVar 3) (sd := T P .un (.ow (.fz (.str (W x)))) .un) (w := x) (names := names) rfl rfl)]
        by_cases hn : x ∈ names
        · have hi := idx x hx hn
          have sb := sub x hx
          have ex : exW names (ofE names F) x = wds (F.getD (names.idxOf x) []) := by unfold exW ofE; rw [if_pos hn]
          rw [ex] at sb
          rw [decide_eq_true hn, if_pos rfl, ex]
          have ih := text_ok cs f (names.idxOf x) (by omega) (by omega) sb
          exact vwt_v (t := .fz _) (call0_v (xs := [.lst (WsD names), .lst (lines.map LD), .int (names.idxOf x : Nat)]) (cons_v rfl (cons_v rfl (cons_v (sitem_v (mk := mVar 7) (mo := mVar 3) (sd := T P .un (.ow (.fz (.str (W x)))) .un) hn rfl rfl) rfl))) ih)
        · have ex : exW names (ofE names F) x = [x] := by unfold exW; rw [if_neg hn]
          rw [decide_eq_false hn, if_neg Bool.false_ne_true, ex]
          rfl
    have r2 : ((twds l).map fun x => D.str (W (TL.joinL [32] (exW names (ofE names F) x)))) = WsD ((twds l).map fun x => TL.joinL [32] (exW names (ofE names F) x)) := by
      unfold WsD
      rw [List.map_map]
      rfl
    rw [r2] at c2
    generalize hps : ((twds l).map fun x => TL.joinL [32] (exW names (ofE names F) x)) = ps at *
    have pl2 : ps.length ≤ 40 := by rw [← hps, List.length_map]; omega
    have pn : ∀ p ∈ ps, p ≠ [] ∧ p.length ≤ 41000 := fun p hp => by
      rw [← hps] at hp
      obtain ⟨x, hx, rfl⟩ := List.mem_map.mp hp
      obtain ⟨n1, n2⟩ := ne x hx
      refine ⟨joinL_ne n1 fun w hw => (n2 w hw).1, ?_⟩
      have := joinL_len _ fun w hw => (n2 w hw).2
      have := sub x hx
      omega
    have s2 : m_text_of_2 cs (m_text_of cs f) (T P .un .un .un) = .nx (T P (.ow (.fz (.lst (WsD ps)))) .un .un) := set_d (l := (T P .un .un .un).sl) (view_v c2) (by show 6 < 9; decide)
    have c3 : m_text_of_c3 cs (m_text_of cs f) (T P (.ow (.fz (.lst (WsD ps)))) .un .un) = .ok (.ol (((ps.filter fun _ => true).map fun x => D.str (W x)).map .fz)) (T P (.ow (.fz (.lst (WsD ps)))) .un .un) := by
      refine mComp_of ps (fun x => D.str (W x)) (fun _ => true) (fun x => D.str (W x)) (ilst_v (xs := WsD ps) rfl) (by omega) fun x hx => ⟨T P (.ow (.fz (.lst (WsD ps)))) .un (.ow (.fz (.str (W x)))), rfl, rfl, ?_, fun _ => rfl⟩
      exact op_t (x := .str (W x)) (y := .str (W [])) rfl (by rw [← lit_nil]; rfl) (by rw [ne_S, decide_eq_false (pn x hx).1]; rfl)
    rw [List.filter_eq_self.mpr fun _ _ => rfl] at c3
    have s3 : m_text_of_3 cs (m_text_of cs f) (T P (.ow (.fz (.lst (WsD ps)))) .un .un) = .rt (.fz (.str (W (TL.joinL [32] ps)))) (T P (.ow (.fz (.lst (WsD ps)))) .un .un) :=
      ret_d (bm_v (t := D.isS) (a := mC (.str " ")) (x := .str (W [32])) (by rw [← lit_sp]; rfl) rfl (cons_v (view_v c3) (r := mNil) rfl) (join_d (sl := [32]) (ws := ps) (L := 41000) (fun p hp => (pn p hp).2) (by rw [List.length_singleton]; omega)))
    have fin : TL.joinL [32] ps = TL.joinL [32] ((twds l).flatMap (exW names (ofE names F))) := by
      rw [← hps]
      exact joinL_flat _ _ fun x hx => (ne x hx).1
    rw [← fin]
    show m_text_of_r cs (m_text_of cs f) _ = _
    exact def_rt (sd0 := T .un .un .un .un) rfl (seq_nx s1 (seq_nx s2 s3))
/-- the program of a line -/
theorem program_of_ok (cs : Nat → Addr) {k : Nat} (hk : k ≤ names.length) (p : PrOk (F.getD k [])) : m_program_of cs [.fz (.lst (WsD names)), .fz (.lst (lines.map LD)), .fz (.int k)] = .ok (PO cs (F.getD k [])) ⟨[], [.fz (.lst (WsD names)), .fz (.lst (lines.map LD)), .fz (.int k)]⟩ := by
  have few := s.few
  have e1 := (xx.words s hk).1
  have sz := sizes_ok s xx cs
  have tx := text_ok s xx cs 32 k (by omega) hk p.len
  let pa : List OT := [.fz (.lst (WsD names)), .fz (.lst (lines.map LD)), .fz (.int k)]
  let T := fun x3 x4 : S => (⟨[.ow (.fz (.lst (WsD names))), .ow (.fz (.lst (lines.map LD))), .ow (.fz (.int k)), x3, x4], pa⟩ : SD)
  let A : S := .ow (.fz (.lst (F.map fun l => D.int (wds l).length)))
  let B : S := .ow (.fz (.lst (F.map fun l => D.int (ndps l))))
  have s1 : m_program_of_1 cs (T .un .un) = .nx (T A B) := by
    unfold m_program_of_1 sAsg
    rw [vwt_v (t := .fz _) (call0_v (f := m_sizes_in cs) (a := mCons (mVar 0) (mCons (mVar 1) mNil)) (sd := T .un .un) (sd1 := T .un .un) (xs := [.lst (WsD names), .lst (lines.map LD)]) rfl sz)]
    rfl
  have p1 := p.len
  have p2 := p.dp
  have t3 : mTest (mOp dGt (mOp dIx (mVar 3) (mVar 2)) (mC (.int 1000))) (T A B) = .ok false (T A B) := op_t (op_v (f := dIx) (x := .lst (F.map fun l => D.int (wds l).length)) (y := .int k) (z := .int (wds (F.getD k [])).length) rfl rfl (by
    show atI (F.map fun l => D.int (wds l).length) (k : Int) = _
    exact atI_of (by rw [List.getElem?_map, e1]; rfl))) (y := .int 1000) rfl (by
    show some (D.bl (decide ((1000 : Int) < ((wds (F.getD k [])).length : Nat)))) = _
    rw [decide_eq_false (by omega)])
  have s3 : m_program_of_3 cs (T A B) = .nx (T A B) := by
    unfold m_program_of_3
    rw [if_b t3, if_neg Bool.false_ne_true]
    rfl
  have t5 : mTest (mOp dGt (mOp dIx (mVar 4) (mVar 2)) (mC (.int 12))) (T A B) = .ok false (T A B) := op_t (op_v (f := dIx) (x := .lst (F.map fun l => D.int (ndps l))) (y := .int k) (z := .int (ndps (F.getD k []))) rfl rfl (by
    show atI (F.map fun l => D.int (ndps l)) (k : Int) = _
    exact atI_of (by rw [List.getElem?_map, e1]; rfl))) (y := .int 12) rfl (by
    show some (D.bl (decide ((12 : Int) < (ndps (F.getD k []) : Nat)))) = _
    rw [decide_eq_false (by omega)])
  have s5 : m_program_of_5 cs (T A B) = .nx (T A B) := by
    unfold m_program_of_5
    rw [if_b t5, if_neg Bool.false_ne_true]
    rfl
  rw [← textW] at tx
  have s6 : m_program_of_6 cs (T A B) = .rt (PO cs (F.getD k [])) (T A B) := ret_o (prog_make cs p (cons_v (vwt_v (t := .fz _) (call0_v (f := m_text_of cs 32) (a := mCons (mVar 0) (mCons (mVar 1) (mCons (mVar 2) mNil))) (sd := T A B) (sd1 := T A B) (xs := [.lst (WsD names), .lst (lines.map LD), .int k]) rfl tx)) (r := mNil) rfl))
  exact def_rt (sd0 := T .un .un) rfl (seq_nx s1 (seq_nx s3 (seq_nx s5 s6)))
omit xx in
theorem lines_view : (OT.ot [.ol ((WsD names).map .fz), .ol ((lines.map LD).map .fz)]).view = .tup [.lst (WsD names), .lst (lines.map LD)] := by
  rw [OT.view, OT.views, OT.views, OT.views, view_ol, view_ol]
theorem read_ok (cs : Nat → Addr) (p : PrOk (F.getD names.length [])) : m_read_source cs [.fz (.str (W (srcT names lines)))] = .ok (PO cs (F.getD names.length [])) ⟨[], [.fz (.str (W (srcT names lines)))]⟩ := by
  have li := lines_in_ok cs s
  have po := program_of_ok s xx cs (Nat.le_refl _) p
  let T := fun x1 x2 : S => (⟨[.ow (.fz (.str (W (srcT names lines)))), x1, x2], [.fz (.str (W (srcT names lines)))]⟩ : SD)
  have s1 : m_read_source_1 cs (T .un .un) = .nx (T (.ow (.fz (.lst (WsD names)))) (.ow (.fz (.lst (lines.map LD))))) := by
    unfold m_read_source_1 sAsg
    rw [vwt_v (call0_v (f := m_lines_in cs) (a := mCons (mVar 0) mNil) (sd := T .un .un) (sd1 := T .un .un) (xs := [.str (W (srcT names lines))]) rfl li), lines_view s]
    rfl
  have s2 : m_read_source_2 cs (T (.ow (.fz (.lst (WsD names)))) (.ow (.fz (.lst (lines.map LD))))) = .rt (PO cs (F.getD names.length [])) (T (.ow (.fz (.lst (WsD names)))) (.ow (.fz (.lst (lines.map LD))))) := ret_o (call0_v (xs := [.lst (WsD names), .lst (lines.map LD), .int names.length]) (cons_v rfl (cons_v rfl (cons_v (op_v (f := dSub) (x := .int lines.length) (y := .int 1) (call_v (xs := [.lst (lines.map LD)]) rfl (by show some (D.int (lines.map LD).length) = _; rw [List.length_map])) rfl (by
    show some (D.int ((lines.length : Int) - 1)) = _
    rw [s.len]
    congr 2
    omega)) rfl))) po)
  exact def_rt (sd0 := T .un .un) rfl (seq_nx s1 s2)
theorem routine_ok (cs : Nat → Addr) {w : List Nat} (hw : w ∈ names) (p : PrOk (F.getD (names.idxOf w) [])) : m_routine cs [.fz (.str (W (srcT names lines))), .fz (.str (W w))] = .ok (PO cs (F.getD (names.idxOf w) [])) ⟨[], [.fz (.str (W (srcT names lines))), .fz (.str (W w))]⟩ := by
  have li := lines_in_ok cs s
  have po := program_of_ok s xx cs (k := names.idxOf w) (Nat.le_of_lt (List.idxOf_lt_length_iff.mpr hw)) p
  let T := fun x2 x3 : S => (⟨[.ow (.fz (.str (W (srcT names lines)))), .ow (.fz (.str (W w))), x2, x3], [.fz (.str (W (srcT names lines))), .fz (.str (W w))]⟩ : SD)
  let A : S := .ow (.fz (.lst (WsD names)))
  let B : S := .ow (.fz (.lst (lines.map LD)))
  have s1 : m_routine_1 cs (T .un .un) = .nx (T A B) := by
    unfold m_routine_1 sAsg
    rw [vwt_v (call0_v (f := m_lines_in cs) (a := mCons (mVar 0) mNil) (sd := T .un .un) (sd1 := T .un .un) (xs := [.str (W (srcT names lines))]) rfl li), lines_view s]
    rfl
  have t3 : mOr (mNot (mTest (mCall dIsi (mCons (mVar 1) (mCons (mC (.ty "str")) (mNil)))))) (mTest (mOp (dIn true) (mVar 1) (mVar 2))) (T A B) = .ok false (T A B) := or_r (not_b (test_v (v := true) (call_v (xs := [.str (W w), .ty "str"]) rfl rfl))) (op_t (x := .str (W w)) (y := .lst (WsD names)) rfl rfl (by rw [in_ws, decide_eq_true hw]; rfl))
  have s3 : m_routine_3 cs (T A B) = .nx (T A B) := by
    unfold m_routine_3
    rw [if_b t3, if_neg Bool.false_ne_true]
    rfl
  have s4 : m_routine_4 cs (T A B) = .rt (PO cs (F.getD (names.idxOf w) [])) (T A B) := ret_o (call0_v (xs := [.lst (WsD names), .lst (lines.map LD), .int (names.idxOf w : Nat)]) (cons_v rfl (cons_v rfl (cons_v (bm_v (t := D.isL) (a := mVar 2) (x := .lst (WsD names)) (xs := [.str (W w)]) rfl rfl rfl (index_ws s.low hw)) rfl))) po)
  exact def_rt (sd0 := T .un .un) rfl (seq_nx s1 (seq_nx s3 s4))
omit xx in
theorem names_of_ok (cs : Nat → Addr) : m_names_of cs [.fz (.str (W (srcT names lines)))] = .ok (.ol ((WsD names).map .fz)) ⟨[], [.fz (.str (W (srcT names lines)))]⟩ := by
  have li := lines_in_ok cs s
  let T : SD := ⟨[.ow (.fz (.str (W (srcT names lines))))], [.fz (.str (W (srcT names lines)))]⟩
  have s1 : m_names_of_1 cs T = .rt (.ol ((WsD names).map .fz)) T := by
    refine ret_o ?_
    unfold mPart
    rw [call0_v (f := m_lines_in cs) (a := mCons (mVar 0) mNil) (sd := T) (sd1 := T) (xs := [.str (W (srcT names lines))]) rfl li]
    rfl
  exact def_rt (n := 1) (ts := [.fz (.str (W (srcT names lines)))]) (sd0 := T) (sd := T) rfl s1
end
noncomputable def deS (ws : D) (h d : Nat) (x3 : S) : SD := ⟨[.ow (.fz ws), .ow (.fz (.int h)), .ow (.fz (.int d)), x3], [.fz ws]⟩
section
variable (cs : Nat → Addr) {ws : D}
theorem de_word {c : Nat} {r : List Nat} {h h2 d : Nat} (hl : r.length ≤ 1000) (hd : (h : Int) + (if c :: r = [40] then 1 else 0) - (if c = 41 then 1 else 0) = (h2 : Nat)) : m__law_depth_b1 cs (deS ws h d (.ow (.fz (.str (W (c :: r)))))) = .nx (deS ws h2 (max d h2) (.ow (.fz (.str (W (c :: r)))))) := by
  let T := fun h d : Nat => deS ws h d (.ow (.fz (.str (W (c :: r)))))
  have t1 : mCall dInt2 (mCons (mOp dEq (mVar 3) (mC (.str "("))) (mNil)) (T h d) = .ok (.int (if c :: r = [40] then 1 else 0)) (T h d) := call_v (cons_v (op_v (x := .str (W (c :: r))) (y := .str (W [40])) rfl (by rw [← lit_open]; rfl) (eq_S _ _)) rfl) (by rw [int2_bl]; by_cases z : c :: r = [40] <;> simp [z])
  have t2 : mCall dInt2 (mCons (mOp dEq (mOp dIx (mVar 3) (mC (.int 0))) (mC (.str ")"))) (mNil)) (T h d) = .ok (.int (if c = 41 then 1 else 0)) (T h d) := call_v (cons_v (op_v (x := .str (W [c])) (y := .str (W [41])) (op_v (x := .str (W (c :: r))) (y := .int 0) rfl rfl (ix0_S (by rw [List.length_cons]; omega))) (by rw [← lit_close]; rfl) (eq_S _ _)) rfl) (by rw [int2_bl]; by_cases z : c = 41 <;> simp [z])
  have s2 : m__law_depth_2 cs (T h d) = .nx (T h2 d) := set_d (l := (T h d).sl) (d := .int h2) (op_v (f := dSub) (op_v (f := dAdd) (x := .int h) rfl t1 rfl) t2 (by rw [← hd]; rfl)) (by show 1 < 4; decide)
  have s3 : m__law_depth_3 cs (T h2 d) = .nx (T h2 (max d h2)) := set_d (l := (T h2 d).sl) (max_v (i := d) (j := h2) rfl rfl) (by show 2 < 4; decide)
  exact seq_nx s2 s3
mutual
theorem de_nd : ∀ (a : Nd) (h d : Nat) (x3 : S), nok a → h ≤ d → ∃ y3, Runs (tgN 3) (m__law_depth_b1 cs) (WsD (wd a)) (deS ws h d x3) (deS ws h (max d (h + ndp a)) y3)
  | .st c n, h, d, x3, ok, hd => by
    rw [nok] at ok
    have ln := letter_ne ok.1
    have := de_word cs (ws := ws) (c := c) (r := if n = 1 then [] else TL.numL n) (h := h) (h2 := h) (d := d) (by have := lw_len ok.2.2; omega) (by
      rw [if_neg (fun z => ln.1 (by injection z)), if_neg ln.2]; omega)
    rw [wd, ndp, Nat.add_zero]
    exact ⟨_, .one (a1 := deS ws h d (.ow (.fz (.str (W (lw c n)))))) rfl this⟩
  | .rp b n, h, d, x3, ok, hd => by
    rw [nok] at ok
    have o := de_word cs (ws := ws) (c := 40) (r := []) (h := h) (h2 := h + 1) (d := d) (by decide) (by rw [if_pos rfl, if_neg (by decide)]; omega)
    obtain ⟨y3, r1⟩ := de_nds b (h + 1) (max d (h + 1)) (.ow (.fz (.str (W [40])))) ok.2.2.2 (by omega)
    generalize hD : max (max d (h + 1)) (h + 1 + ndps b) = D1 at *
    have c := de_word cs (ws := ws) (c := 41) (r := TL.numL n) (h := h + 1) (h2 := h) (d := D1) (by
      have hl := TL.numL_len (n := n) (k := 31) (by decide) (by omega)
      omega) (by rw [if_neg (by intro z; cases z), if_pos rfl]; omega)
    refine ⟨.ow (.fz (.str (W (41 :: TL.numL n)))), ?_⟩
    have e2 : max d (h + ndp (.rp b n)) = max D1 h := by rw [ndp]; omega
    rw [e2, wd]
    have w0 : WsD ([40] :: (wds b ++ [41 :: TL.numL n])) = [D.str (W [40])] ++ (WsD (wds b) ++ [D.str (W (41 :: TL.numL n))]) := by
      show .str (W [40]) :: WsD (wds b ++ [41 :: TL.numL n]) = _
      rw [WsD_app]
      rfl
    rw [w0]
    exact (Runs.one (a1 := deS ws h d (.ow (.fz (.str (W [40]))))) rfl o).app (r1.app (.one (a1 := deS ws (h + 1) D1 (.ow (.fz (.str (W (41 :: TL.numL n)))))) rfl c))
theorem de_nds : ∀ (l : List Nd) (h d : Nat) (x3 : S), noks l → h ≤ d → ∃ y3, Runs (tgN 3) (m__law_depth_b1 cs) (WsD (wds l)) (deS ws h d x3) (deS ws h (max d (h + ndps l)) y3)
  | [], h, d, x3, _, hd => ⟨x3, by
    rw [wds, ndps, Nat.add_zero, Nat.max_eq_left hd]
    exact .nil⟩
  | a :: r, h, d, x3, ok, hd => by
    rw [noks] at ok
    obtain ⟨y3, r1⟩ := de_nd a h d x3 ok.1 hd
    obtain ⟨z3, r2⟩ := de_nds r h (max d (h + ndp a)) y3 ok.2 (by omega)
    refine ⟨z3, ?_⟩
    rw [wds, ndps, WsD_app, show max d (h + max (ndp a) (ndps r)) = max (max d (h + ndp a)) (h + ndps r) by omega]
    exact r1.app r2
end
theorem law_depth_ok {l : List Nd} (h : noks l) : m__law_depth cs [.fz (.lst (WsD (wds l)))] = .ok (.fz (.int (ndps l))) ⟨[], [.fz (.lst (WsD (wds l)))]⟩ := by
  obtain ⟨y3, r⟩ := de_nds cs (ws := .lst (WsD (wds l))) l 0 0 .un h (Nat.le_refl _)
  rw [Nat.zero_add, Nat.zero_max] at r
  have s1 : m__law_depth_1 cs ⟨[.ow (.fz (.lst (WsD (wds l)))), .un, .un, .un], [.fz (.lst (WsD (wds l)))]⟩ = .nx (deS (.lst (WsD (wds l))) 0 0 .un) := rfl
  have s4 : m__law_depth_4 cs (deS (.lst (WsD (wds l))) 0 0 .un) = .nx (deS (.lst (WsD (wds l))) 0 (ndps l) y3) := r.all
  have s5 : m__law_depth_5 cs (deS (.lst (WsD (wds l))) 0 (ndps l) y3) = .rt (.fz (.int (ndps l))) (deS (.lst (WsD (wds l))) 0 (ndps l) y3) := rfl
  exact def_rt (sd0 := ⟨[.ow (.fz (.lst (WsD (wds l)))), .un, .un, .un], [.fz (.lst (WsD (wds l)))]⟩) rfl (seq_nx s1 (seq_nx s4 s5))
end
theorem ixN_last {n : Nat} : ixN (n + 1) (-1) = some n := by
  unfold ixN
  rw [if_neg (by omega), if_pos (by omega)]
  congr 1
  omega
noncomputable def leS (ws : D) (ts : List Nat) (x2 x3 : S) : SD := ⟨[.ow (.fz ws), .ow (.ol ((ts.map fun n : Nat => D.int n).map .fz)), x2, x3], [.fz ws]⟩
theorem int0_W {n : Nat} (h : n ≤ 1000000000000000000000000000000) : dInt2 [.str (W (48 :: TL.numL n))] = some (.int n) := by
  have hl := TL.numL_len (n := n) (k := 31) (by decide) (by omega)
  have e := PySem.intText_digits (x := W (48 :: TL.numL n)) (fun c hc => by
    rcases List.mem_cons.mp hc with z | z
    · omega
    · exact num_dig n c z) (by rw [W_cps]; simp) (by rw [W_len, List.length_cons]; omega)
  have v : NumText.digitsVal (W (48 :: TL.numL n)).cps.toList = n := TL.numL_val n
  rw [v] at e
  show (if (W (48 :: TL.numL n)).length ≤ 640 then (PySem.intText? (W (48 :: TL.numL n))).map D.int else none) = _
  rw [if_pos (by rw [W_len, List.length_cons]; omega), e]
  rfl
theorem int0_0 : dInt2 [.str (W [48])] = some (.int 0) := by
  have e := int_W (n := 0) (by decide)
  rw [TL.numL_lt (by decide)] at e
  exact e
section
variable (cs : Nat → Addr) {ws : D} {x2 x3 : S}
theorem le_put {ts : List Nat} {t t2 : Nat} {m : SD → ER D} (h : m (leS ws (ts ++ [t]) x2 x3) = .ok (.int t2) (leS ws (ts ++ [t]) x2 x3)) : sSetAt 1 (mUn dNeg (mC (.int 1))) (mOwn m) (leS ws (ts ++ [t]) x2 x3) = .nx (leS ws (ts ++ [t2]) x2 x3) := by
  unfold sSetAt
  rw [own_v h]
  show setEnd 1 (.fz (.int t2)) (.int (-1)) (leS ws (ts ++ [t]) x2 x3) = _
  show (match ixN (((ts ++ [t]).map fun n : Nat => D.int n).map OT.fz).length (-1) with
    | some j => Fl.nx ((leS ws (ts ++ [t]) x2 x3).put 1 (.ol ((((ts ++ [t]).map fun n : Nat => D.int n).map OT.fz).set j (.fz (.int t2)))))
    | none => .bad) = _
  rw [List.length_map, List.length_map, List.length_append, List.length_singleton, ixN_last]
  have : (((ts ++ [t]).map fun n : Nat => D.int n).map OT.fz).set ts.length (.fz (.int t2)) = ((ts ++ [t2]).map fun n : Nat => D.int n).map OT.fz := by
    simp
  dsimp only
  rw [this]
  rfl
theorem le_see {ts : List Nat} {t : Nat} : mAt (qSee 1) (mUn dNeg (mC (.int 1))) (leS ws (ts ++ [t]) x2 x3) = .ok (.int t) (leS ws (ts ++ [t]) x2 x3) := by
  unfold mAt
  show (ER.opt (fzOf (((ts ++ [t]).map fun n : Nat => D.int n).map .fz)) _ : ER (List D)).bind _ = _
  rw [fzOf_map]
  show ER.opt (atI ((ts ++ [t]).map fun n : Nat => D.int n) (-1)) _ = _
  rw [List.map_append]
  show ER.opt (atI ((ts.map fun n : Nat => D.int n) ++ [D.int t]) (-1)) _ = _
  rw [at_neg1]
  rfl
theorem le_open {ts : List Nat} (hl : ts.length ≤ 1000) : m__law_length_b1 cs (leS ws ts (.ow (.fz (.str (W [40])))) x3) = .nx (leS ws (ts ++ [0]) (.ow (.fz (.str (W [40])))) x3) := by
  let T := fun ts : List Nat => leS ws ts (.ow (.fz (.str (W [40])))) x3
  have t7 : mTest (mOp dEq (mVar 2) (mC (.str "("))) (T ts) = .ok true (T ts) := op_t (x := .str (W [40])) (y := .str (W [40])) rfl (by rw [← lit_open]; rfl) (by rw [eq_S, decide_eq_true rfl])
  show m__law_length_7 cs (T ts) = _
  unfold m__law_length_7
  rw [if_b t7, if_pos rfl]
  have e : ((ts ++ [0]).map fun n : Nat => D.int n) = (ts.map fun n : Nat => D.int n) ++ [D.int 0] := by rw [List.map_append]; rfl
  show _ = Fl.nx (⟨[_, .ow (.ol (((ts ++ [0]).map fun n : Nat => D.int n).map .fz)), _, _], _⟩ : SD)
  rw [e]
  exact app_d (i := 1) (m := mOwn (mC (.int 0))) (sd1 := T ts) (xs0 := ts.map fun n : Nat => D.int n) rfl (own_v (d := .int 0) rfl) rfl (by rw [List.length_map]; omega)
theorem le_close {ts : List Nat} {t one n : Nat} {k : Nat} (hn : n ≤ 1000000000000000000000000000000) (hk : k ≤ 200000) (ho : one ≤ 2 ^ k) : ∃ y3, m__law_length_b1 cs (leS ws (ts ++ [t] ++ [one]) (.ow (.fz (.str (W (41 :: TL.numL n))))) x3) = .nx (leS ws (ts ++ [t + n * one]) (.ow (.fz (.str (W (41 :: TL.numL n))))) y3) := by
  let T := fun (ts : List Nat) (x3 : S) => leS ws ts (.ow (.fz (.str (W (41 :: TL.numL n))))) x3
  have hl := TL.numL_len (n := n) (k := 31) (by decide) (by omega)
  have hw : (41 :: TL.numL n).length ≤ 16777216 := by rw [List.length_cons]; omega
  have t7 : mTest (mOp dEq (mVar 2) (mC (.str "("))) (T (ts ++ [t] ++ [one]) x3) = .ok false (T (ts ++ [t] ++ [one]) x3) := op_t (x := .str (W (41 :: TL.numL n))) (y := .str (W [40])) rfl (by rw [← lit_open]; rfl) (by rw [eq_S, decide_eq_false (by intro z; cases z)])
  have t6 : mTest (mOp dEq (mOp dIx (mVar 2) (mC (.int 0))) (mC (.str ")"))) (T (ts ++ [t] ++ [one]) x3) = .ok true (T (ts ++ [t] ++ [one]) x3) := op_t (op_v (f := dIx) (x := .str (W (41 :: TL.numL n))) (y := .int 0) rfl rfl (ix0_S hw)) (y := .str (W [41])) (by rw [← lit_close]; rfl) (by rw [eq_S, decide_eq_true rfl])
  refine ⟨.ow (.fz (.int one)), ?_⟩
  show m__law_length_7 cs (T (ts ++ [t] ++ [one]) x3) = _
  unfold m__law_length_7
  rw [if_b t7, if_neg Bool.false_ne_true]
  unfold m__law_length_6
  rw [if_b t6, if_pos rfl]
  have s3 : m__law_length_3 cs (T (ts ++ [t] ++ [one]) x3) = .nx (T (ts ++ [t]) (.ow (.fz (.int one)))) := by
    refine set_d (l := (T (ts ++ [t]) x3).sl) (vwt_v (t := .fz (.int one)) ?_) (by show 3 < 4; decide)
    unfold mPop
    show (match ((((ts ++ [t] ++ [one]).map fun n : Nat => D.int n).map OT.fz)).getLast? with
      | some u => ER.ok u ((T (ts ++ [t] ++ [one]) x3).put 1 (.ol ((((ts ++ [t] ++ [one]).map fun n : Nat => D.int n).map OT.fz)).dropLast))
      | none => .bad) = _
    have e : ((ts ++ [t] ++ [one]).map fun n : Nat => D.int n).map OT.fz = ((ts ++ [t]).map fun n : Nat => D.int n).map OT.fz ++ [OT.fz (.int one)] := by rw [List.map_append, List.map_append]; rfl
    rw [e, List.getLast?_concat, List.dropLast_concat]
    rfl
  have mu : dMul (.int one) (.int n) = some (.int (one * n)) := mul_ok (a := k + 1) (b := 101) (pow_wide (by omega) ho) (pow_wide (k := 100) (by decide) (e30_lt (by omega))) (by omega)
  have cut := cutr_S (a := mVar 2) (sd := T (ts ++ [t]) (.ow (.fz (.int one)))) (sd1 := T (ts ++ [t]) (.ow (.fz (.int one)))) hw rfl
  have s4 : m__law_length_4 cs (T (ts ++ [t]) (.ow (.fz (.int one)))) = .nx (T (ts ++ [t + n * one]) (.ow (.fz (.int one)))) := le_put (op_v (f := dAdd) le_see (op_v (f := dMul) (x := .int one) rfl (call_v (cons_v cut (r := mNil) rfl) (lw_int hn)) mu) (by
    show some (D.int ((t : Int) + (one * n : Int))) = some (D.int ((t + n * one : Nat) : Int))
    rw [Nat.mul_comm n one, Int.natCast_add, Int.natCast_mul]))
  exact seq_nx s3 s4
theorem le_step {ts : List Nat} {t c n : Nat} (hc : c ∈ letters) (h1 : 1 ≤ n) (hn : n ≤ 1000000000000000000000000000000) : m__law_length_b1 cs (leS ws (ts ++ [t]) (.ow (.fz (.str (W (lw c n))))) x3) = .nx (leS ws (ts ++ [t + n]) (.ow (.fz (.str (W (lw c n))))) x3) := by
  let T := fun (ts : List Nat) => leS ws ts (.ow (.fz (.str (W (lw c n))))) x3
  have ln := letter_ne hc
  have hl := lw_len hn
  have hw : (lw c n).length ≤ 16777216 := by unfold lw; rw [List.length_cons]; omega
  have t7 : mTest (mOp dEq (mVar 2) (mC (.str "("))) (T (ts ++ [t])) = .ok false (T (ts ++ [t])) := op_t (x := .str (W (lw c n))) (y := .str (W [40])) rfl (by rw [← lit_open]; rfl) (by rw [eq_S, decide_eq_false (by intro z; unfold lw at z; injection z with z1 z2; exact ln.1 z1)])
  have t6 : mTest (mOp dEq (mOp dIx (mVar 2) (mC (.int 0))) (mC (.str ")"))) (T (ts ++ [t])) = .ok false (T (ts ++ [t])) := op_t (op_v (f := dIx) (x := .str (W (lw c n))) (y := .int 0) rfl rfl (ix0_S (c := c) (r := if n = 1 then [] else TL.numL n) hw)) (y := .str (W [41])) (by rw [← lit_close]; rfl) (by rw [eq_S, decide_eq_false (by intro z; injection z; omega)])
  show m__law_length_7 cs (T (ts ++ [t])) = _
  unfold m__law_length_7
  rw [if_b t7, if_neg Bool.false_ne_true]
  unfold m__law_length_6
  rw [if_b t6, if_neg Bool.false_ne_true]
  have cut := cutr_S (a := mVar 2) (sd := T (ts ++ [t])) (sd1 := T (ts ++ [t])) hw rfl
  have cut : mCutX (mVar 2) (oSome (mC (.int 1))) oNone (T (ts ++ [t])) = .ok (.str (W (if n = 1 then [] else TL.numL n))) (T (ts ++ [t])) := cut
  have a0 : mOp dAdd (mC (.str "0")) (mCutX (mVar 2) (oSome (mC (.int 1))) oNone) (T (ts ++ [t])) = .ok (.str (W (48 :: (if n = 1 then [] else TL.numL n)))) (T (ts ++ [t])) := op_v (f := dAdd) (x := .str (W [48])) (by rw [← lit_0]; rfl) cut (add_S (by rw [List.length_singleton]; omega))
  have l1 : mCall dInt2 (mCons (mOp dEq (mCall dLen (mCons (mVar 2) (mNil))) (mC (.int 1))) (mNil)) (T (ts ++ [t])) = .ok (.int (if n = 1 then 1 else 0)) (T (ts ++ [t])) := call_v (cons_v (op_v (f := dEq) (len_v hw (a := mVar 2) rfl) (y := .int 1) (z := .bl (decide (n = 1))) rfl (by
    unfold dEq
    rw [eqB_int]
    show some (D.bl _) = _
    congr 2
    apply decide_eq_decide.mpr
    unfold lw
    by_cases e : n = 1
    · rw [if_pos e]; simp [e]
    · rw [if_neg e]
      obtain ⟨d, r, z, _⟩ := num_head n
      rw [z]
      simp only [List.length_cons]
      omega)) rfl) (by rw [int2_bl]; by_cases z : n = 1 <;> simp [z])
  by_cases e : n = 1
  · subst e
    rw [if_pos rfl] at a0 l1
    exact le_put (op_v (f := dAdd) (op_v (f := dAdd) le_see (call_v (cons_v a0 (r := mNil) rfl) (y := .int 0) int0_0) rfl) l1 rfl)
  · rw [if_neg e] at a0 l1
    exact le_put (op_v (f := dAdd) (op_v (f := dAdd) le_see (call_v (cons_v a0 (r := mNil) rfl) (int0_W hn)) rfl) l1 (by
      show some (D.int ((t : Int) + n + 0)) = some (D.int ((t + n : Nat) : Int))
      rw [Int.natCast_add, Int.add_zero]))
mutual
theorem le_nd : ∀ (a : Nd) (ts : List Nat) (t : Nat) (x2 x3 : S), nok a → (wd a).length ≤ 1000 → ts.length + ndp a ≤ 900 → ∃ y2 y3, Runs (tgN 2) (m__law_length_b1 cs) (WsD (wd a)) (leS ws (ts ++ [t]) x2 x3) (leS ws (ts ++ [t + nlen a]) y2 y3)
  | .st c n, ts, t, x2, x3, ok, _, _ => by
    rw [nok] at ok
    rw [wd, nlen]
    exact ⟨_, _, .one (a1 := leS ws (ts ++ [t]) (.ow (.fz (.str (W (lw c n))))) x3) rfl (le_step cs ok.1 ok.2.1 ok.2.2)⟩
  | .rp b n, ts, t, x2, x3, ok, hl, hd => by
    rw [nok] at ok
    rw [ndp] at hd
    rw [wd, List.length_cons, List.length_append, List.length_singleton] at hl
    have o := le_open cs (ws := ws) (x3 := x3) (ts := ts ++ [t]) (by rw [List.length_append, List.length_singleton]; omega)
    obtain ⟨y2, y3, r1⟩ := le_nds b (ts ++ [t]) 0 (.ow (.fz (.str (W [40])))) x3 ok.2.2.2 (by omega) (by rw [List.length_append, List.length_singleton]; omega)
    rw [Nat.zero_add] at r1
    obtain ⟨z3, c⟩ := le_close cs (ws := ws) (x3 := y3) (ts := ts) (t := t) (one := nlens b) (n := n) (k := 100 * (wds b).length) ok.2.2.1 (by omega) (nlens_lt b ok.2.2.2)
    refine ⟨.ow (.fz (.str (W (41 :: TL.numL n)))), z3, ?_⟩
    have w0 : WsD ([40] :: (wds b ++ [41 :: TL.numL n])) = [D.str (W [40])] ++ (WsD (wds b) ++ [D.str (W (41 :: TL.numL n))]) := by
      show .str (W [40]) :: WsD (wds b ++ [41 :: TL.numL n]) = _
      rw [WsD_app]
      rfl
    rw [wd, w0, nlen]
    exact (Runs.one (a1 := leS ws (ts ++ [t]) (.ow (.fz (.str (W [40])))) x3) rfl o).app (r1.app (.one (a1 := leS ws (ts ++ [t] ++ [nlens b]) (.ow (.fz (.str (W (41 :: TL.numL n))))) y3) rfl c))
theorem le_nds : ∀ (l : List Nd) (ts : List Nat) (t : Nat) (x2 x3 : S), noks l → (wds l).length ≤ 1000 → ts.length + ndps l ≤ 900 → ∃ y2 y3, Runs (tgN 2) (m__law_length_b1 cs) (WsD (wds l)) (leS ws (ts ++ [t]) x2 x3) (leS ws (ts ++ [t + nlens l]) y2 y3)
  | [], ts, t, x2, x3, _, _, _ => ⟨x2, x3, by rw [wds, nlens, Nat.add_zero]; exact .nil⟩
  | a :: r, ts, t, x2, x3, ok, hl, hd => by
    rw [noks] at ok
    rw [ndps] at hd
    rw [wds, List.length_append] at hl
    obtain ⟨y2, y3, r1⟩ := le_nd a ts t x2 x3 ok.1 (by omega) (by omega)
    obtain ⟨z2, z3, r2⟩ := le_nds r ts (t + nlen a) y2 y3 ok.2 (by omega) (by omega)
    refine ⟨z2, z3, ?_⟩
    rw [wds, nlens, WsD_app, ← Nat.add_assoc]
    exact r1.app r2
end
theorem law_length_ok {l : List Nd} (h : noks l) (hl : (wds l).length ≤ 1000) (hd : ndps l ≤ 100) : m__law_length cs [.fz (.lst (WsD (wds l)))] = .ok (.fz (.int (nlens l))) ⟨[], [.fz (.lst (WsD (wds l)))]⟩ := by
  obtain ⟨y2, y3, r⟩ := le_nds cs (ws := .lst (WsD (wds l))) l [] 0 .un .un h hl (by rw [List.length_nil]; omega)
  rw [List.nil_append, List.nil_append, Nat.zero_add] at r
  have s1 : m__law_length_1 cs ⟨[.ow (.fz (.lst (WsD (wds l)))), .un, .un, .un], [.fz (.lst (WsD (wds l)))]⟩ = .nx (leS (.lst (WsD (wds l))) [0] .un .un) := rfl
  have s8 : m__law_length_8 cs (leS (.lst (WsD (wds l))) [0] .un .un) = .nx (leS (.lst (WsD (wds l))) [nlens l] y2 y3) := r.all
  have s9 : m__law_length_9 cs (leS (.lst (WsD (wds l))) [nlens l] y2 y3) = .rt (.fz (.int (nlens l))) (leS (.lst (WsD (wds l))) [nlens l] y2 y3) := rfl
  exact def_rt (sd0 := ⟨[.ow (.fz (.lst (WsD (wds l)))), .un, .un, .un], [.fz (.lst (WsD (wds l)))]⟩) rfl (seq_nx s1 (seq_nx s8 s9))
end
theorem bag_ex (cs : Nat → Addr) (cell : Int) : m__law_bag cs [.fz (.int cell)] = .ok (BX (max 0 (cell - 1000000000000000000)) cell 0) ⟨[], [.fz (.int cell)]⟩ := by
  have e18 : dPow (.int 10) (.int 18) = some (.int 1000000000000000000) := p10 (k := 18) (by decide)
  unfold BX
  simp [m__law_bag_1, m__law_bag, -List.map_map, -List.map_take, -List.map_drop, -List.map_append, -List.map_reverse, asDef, entry, slotsOf, sSeq, sSet, sRet, sIf, sDrop, sNil, sBreak, sCont, sApp, sSetAt, setEnd, sAug, sAsg, sPar, mVar, mSee, mFrz, mTake, mC, mUn, mOp, mNil, mCons, mCall, mCallL, mTup, mLst, mView, mOwn, mFz, mTest, mAnd, mOr, mNot, mIf, mAndV, mOrV, mNotV, mChain, mAt, qSee, qFz, qNew, oNone, oSome, rNil, rSlot, rFz, mCall0, mCall1, oneSlot, noSlot, treesOf, SD.tree, SD.put, SD.putFz, tgN, tgNil, tgCons, tgT, ER.bind, ER.opt, ER.stm, Fl.seq, OT.view, OT.views, OT.items, fzOf, iLst, iTuP, iRange1, iRange2, iZip2, iEnumL, dIx, atI, ixN, dAdd, dSub, dNeg, dLt, dLe, dGt, dGe, dIsN, dNotN, isNonD, dEq, dNe, eqB_int, eqB_str, eqB_bl, eq_2, eq_3, dLen, dIsi, D.isA, tyName, dMod, dMax, dMin, mAtS, mBm, D.isL, D.isS, e18]
theorem setat_k {i k : Nat} {mk : SD → ER D} {m : SD → ER OT} {sd sd1 : SD} {t : OT} {ts : List OT} (hm : m sd = .ok t sd1) (h1 : sd1.tree i = some (.ol ts)) (hk : mk sd1 = .ok (.int k) sd1) (hl : k < ts.length) : sSetAt i mk m sd = .nx (sd1.put i (.ol (ts.set k t))) := by
  unfold sSetAt
  rw [hm]
  show (match sd1.tree i with
    | some (.ol _) => (mk sd1).stm (setEnd i t)
    | _ => .bad) = _
  rw [h1]
  dsimp only
  rw [hk]
  show setEnd i t (.int k) sd1 = _
  unfold setEnd
  rw [h1]
  dsimp only
  have : ixN ts.length (k : Int) = some k := by
    unfold ixN
    rw [if_pos (by omega), if_pos (by omega), Int.toNat_natCast]
  rw [this]
noncomputable def srS (b : OT) (most many : Nat) (names : List (List Nat)) (lines : List (List Tr)) (x6 x7 x8 x9 : S) : SD :=
  ⟨[.pa 0, .ow (.fz (.int most)), .ow (.fz (.int 1)), .ow (.fz (.int many)), .ow (.fz (.lst (WsD names))), .ow (.ol ((lines.map LD).map .fz)), x6, x7, x8, x9], [b, .fz (.int most), .fz (.int 1)]⟩
noncomputable def wo (l : List Tr) : S := .ow (.ol ((WsD (twds l)).map .fz))
section
variable (cs : Nat → Addr) {most many : Nat} {names : List (List Nat)} {lines : List (List Tr)} {x6 x7 x8 x9 : S} {b : OT} {n : Nat}
theorem so_3 (hb : Bg n b) (hn : n + 200 < 2 ^ 64) : ∃ (l : List Nd) (b' : OT), Bg (n + 60) b' ∧ 1 ≤ (wds l).length ∧ (wds l).length ≤ 9 ∧ noks l ∧ ndps l ≤ 2 ∧ m__law_source_3 cs (srS b most many names lines x6 x7 x8 x9) = .nx (srS b' most many names lines x6 (wo (ofNs l)) x8 x9) := by
  let T := fun (b : OT) (x7 : S) => srS b most many names lines x6 x7 x8 x9
  obtain ⟨v, b1, v0, v1, h1, p1⟩ := pick_call cs (a := mC (.int 2)) (i := 0) (sd := T b x7) (sd1 := T b x7) (m := 2) rfl rfl rfl hb (by omega) (by decide) (by decide)
  have l1 : mView (mLst (mCons (mC (.int 3)) (mCons (mC (.int 9)) (mNil)))) (T b x7) = .ok (.lst [.int 3, .int 9]) (T b x7) := lst_v (cons_v rfl (cons_v rfl rfl)) (by decide)
  obtain ⟨m, m1, m2, ix⟩ : ∃ m : Nat, 1 ≤ m ∧ m ≤ 9 ∧ dIx (.lst [.int 3, .int 9]) (.int v) = some (.int m) := by
    have : v = 0 ∨ v = 1 := by omega
    rcases this with rfl | rfl
    · exact ⟨3, by decide, by decide, rfl⟩
    · exact ⟨9, by decide, by decide, rfl⟩
  have o1 := op_v l1 p1 ix
  obtain ⟨l, b2, e, h2, q1, q2, q3, q4⟩ := words_ok cs 16 2 (by decide) letters (n + 1) m b1 (fun c hc => hc) (by decide) (by decide) m1 (by omega) h1 (by omega)
  have args : (rFz (mOp dIx (mView (mLst (mCons (mC (.int 3)) (mCons (mC (.int 9)) (mNil))))) (mView (mCall1 (m__law_pick cs) (rSlot 0 (rFz (mC (.int 2)) (rNil)))))) (rFz (mC (.int 2)) (rFz (mC (.str "fblrud")) (rFz (mVar 2) (rNil))))) (T b x7) = .ok (([.int m, .int (2 : Nat), .str (W letters), .int 1] : List D).map .fz) (T b1 x7) :=
    rfz_v o1 (rfz_v (d := .int (2 : Nat)) (ds := [.str (W letters), .int 1]) rfl (rfz_v (d := .str (W letters)) (ds := [.int 1]) (by rw [show W letters = Str.ofString "fblrud" from lit_let.symm]; rfl) (rfz_v (ds := []) rfl rfl)))
  have cl := call_bags (f := m__law_words cs 16) (i := 0) args (t0 := b) (t := b1) rfl rfl e rfl
  refine ⟨l, b2, h2.mono (by omega), q1, by omega, q3, q4, ?_⟩
  unfold wo
  rw [ofNs_wds]
  exact set_o (k := 7) (l := (T b2 x7).sl) cl (by show 7 < 10; decide)
/-- one name put in -/
structure LnOk (names : List (List Nat)) (k : Nat) (l : List Tr) : Prop where
  ok : toks (names.take k) l
  dp : tdps l ≤ 2
  lo : 1 ≤ (twds l).length
  hi : (twds l).length ≤ 9
  ne : l ≠ []
theorem so_see {l : List Tr} : mSee 7 (srS b most many names lines x6 (wo l) x8 x9) = .ok (.lst (WsD (twds l))) (srS b most many names lines x6 (wo l) x8 x9) := by
  show ER.ok (OT.view (.ol _)) _ = _
  rw [view_ol]
theorem so_q {l : List Tr} : qSee 7 (srS b most many names lines x6 (wo l) x8 x9) = .ok (WsD (twds l)) (srS b most many names lines x6 (wo l) x8 x9) := by
  show ER.opt (fzOf ((WsD (twds l)).map .fz)) _ = _
  rw [fzOf_map]
  rfl
theorem so_b1 {k : Nat} {l : List Tr} (hns : ∀ w ∈ names, NmOk w) (hk : 1 ≤ k) (hk2 : k ≤ names.length) (few : names.length ≤ 19) (hl : LnOk names k l) (hb : Bg n b) (hn : n + 200 < 2 ^ 64) :
    ∃ (l' : List Tr) (b' : OT) (y9 : S), LnOk names k l' ∧ Bg (n + 2) b' ∧ m__law_source_b1 cs (srS b most many names lines (.ow (.fz (.int k))) (wo l) x8 x9) = .nx (srS b' most many names lines (.ow (.fz (.int k))) (wo l') x8 y9) := by
  let T := fun (b : OT) (l : List Tr) (x9 : S) => srS b most many names lines (.ow (.fz (.int k))) (wo l) x8 x9
  have hlo := hl.lo
  have hhi := hl.hi
  obtain ⟨v, b1, v0, v1, h1, p1⟩ := pick_call cs (a := mCall dLen (mCons (mSee 7) mNil)) (i := 0) (sd := T b l x9) (sd1 := T b l x9) (m := (twds l).length) (call_v (cons_v so_see rfl) (by show some (D.int (WsD (twds l)).length) = _; rw [WsD_len])) rfl rfl hb (by omega) (by omega) (by rw [Int.natAbs_natCast]; exact big8 (by omega))
  obtain ⟨v, rfl⟩ := Int.eq_ofNat_of_zero_le v0
  have hv : v < (twds l).length := by omega
  have s4 : m__law_source_4 cs (T b l x9) = .nx (T b1 l (.ow (.fz (.int v)))) := set_d (l := (T b1 l x9).sl) p1 (by show 9 < 10; decide)
  have tw := twds_wd (fun w hw => hns w (take_in hw)) _ hl.ok _ (List.getElem_mem hv)
  have at7 : mAt (qSee 7) (mVar 9) (T b1 l (.ow (.fz (.int v)))) = .ok (.str (W (twds l)[v])) (T b1 l (.ow (.fz (.int v)))) := at_q so_q rfl (by show (WsD (twds l))[v]? = _; unfold WsD; rw [List.getElem?_map, List.getElem?_eq_getElem hv]; rfl)
  have hx : (twds l)[v]? = some (twds l)[v] := List.getElem?_eq_getElem hv
  generalize (twds l)[v] = x at *
  obtain ⟨c, r, rfl⟩ : ∃ c r, x = c :: r := by
    cases x with
    | nil => exact absurd rfl tw.2.2.1
    | cons c r => exact ⟨c, r, rfl⟩
  have hl40 := tw.2.2.2.1
  have ta : mTest (mOp dNe (mAt (qSee 7) (mVar 9)) (mC (.str "("))) (T b1 l (.ow (.fz (.int v)))) = .ok (!decide (c :: r = [40])) (T b1 l (.ow (.fz (.int v)))) := op_t at7 (y := .str (W [40])) (by rw [← lit_open]; rfl) (ne_S _ _)
  have tb : mTest (mOp dNe (mOp dIx (mAt (qSee 7) (mVar 9)) (mC (.int 0))) (mC (.str ")"))) (T b1 l (.ow (.fz (.int v)))) = .ok (!decide ([c] = [41])) (T b1 l (.ow (.fz (.int v)))) := op_t (op_v (f := dIx) at7 (y := .int 0) rfl (ix0_S (by omega))) (y := .str (W [41])) (by rw [← lit_close]; rfl) (ne_S _ _)
  have t6 := and_b ta tb
  by_cases hc : (!decide (c :: r = [40]) && !decide ([c] = [41])) = true
  · rw [hc] at t6
    simp only [Bool.and_eq_true, Bool.not_eq_true', decide_eq_false_iff_not] at hc
    obtain ⟨u, b2, u0, u1, h2, p2⟩ := pick_call cs (a := mVar 6) (i := 0) (sd := T b1 l (.ow (.fz (.int v)))) (sd1 := T b1 l (.ow (.fz (.int v)))) (m := k) rfl rfl rfl h1 (by omega) (by omega) (by rw [Int.natAbs_natCast]; exact big8 (by omega))
    obtain ⟨u, rfl⟩ := Int.eq_ofNat_of_zero_le u0
    have hu : u < names.length := by omega
    have hw : names[u] ∈ names.take k := by
      have : (names.take k)[u]? = some names[u] := by rw [List.getElem?_take_of_lt (by omega), List.getElem?_eq_getElem hu]
      exact List.mem_of_getElem? this
    obtain ⟨l', w1, w2, w3, w4⟩ := twds_set hw l v (c :: r) hl.ok hx hc.1 (fun z => hc.2 (by simpa using z))
    refine ⟨l', b2, .ow (.fz (.int v)), ⟨w2, by have := hl.dp; omega, by rw [w1, List.length_set]; exact hlo, by rw [w1, List.length_set]; exact hhi, fun z => hl.ne (w4.mp z)⟩, h2, seq_nx s4 ?_⟩
    unfold m__law_source_6
    rw [if_b t6, if_pos rfl]
    have e : wo l' = .ow (.ol (((WsD (twds l)).map .fz).set v (.fz (.str (W names[u]))))) := by
      unfold wo WsD
      rw [w1, List.map_set, List.map_set]
    rw [e]
    exact setat_k (i := 7) (k := v) (mk := mVar 9) (sd1 := T b2 l (.ow (.fz (.int v)))) (ts := (WsD (twds l)).map .fz) (own_v (op_v (f := dIx) (x := .lst (WsD names)) rfl p2 (by
      show atI (WsD names) (u : Int) = _
      exact atI_of (by unfold WsD; rw [List.getElem?_map, List.getElem?_eq_getElem hu]; rfl)))) rfl rfl (by rw [List.length_map, WsD_len]; exact hv)
  · have hc : (!decide (c :: r = [40]) && !decide ([c] = [41])) = false := by simpa using hc
    rw [hc] at t6
    refine ⟨l, b1, .ow (.fz (.int v)), hl, h1.mono (by omega), seq_nx s4 ?_⟩
    unfold m__law_source_6
    rw [if_b t6, if_neg Bool.false_ne_true]
    rfl
theorem so_7 {k : Nat} {l : List Tr} (hns : ∀ w ∈ names, NmOk w) (hk2 : k ≤ names.length) (few : names.length ≤ 19) (hl : LnOk names k l) (hb : Bg n b) (hn : n + 300 < 2 ^ 64) :
    ∃ (l' : List Tr) (b' : OT) (y8 y9 : S), LnOk names k l' ∧ Bg (n + 10) b' ∧ m__law_source_7 cs (srS b most many names lines (.ow (.fz (.int k))) (wo l) x8 x9) = .nx (srS b' most many names lines (.ow (.fz (.int k))) (wo l') y8 y9) := by
  let T := fun (b : OT) (l : List Tr) (x8 x9 : S) => srS b most many names lines (.ow (.fz (.int k))) (wo l) x8 x9
  obtain ⟨v, b1, v0, v1, h1, p1⟩ := pick_call cs (a := mC (.int 4)) (i := 0) (sd := T b l x8 x9) (sd1 := T b l x8 x9) (m := 4) rfl rfl rfl hb (by omega) (by decide) (by decide)
  have t1 : mCall dInt2 (mCons (mOp dGt (mVar 6) (mC (.int 0))) (mNil)) (T b1 l x8 x9) = .ok (.int (if 0 < k then 1 else 0)) (T b1 l x8 x9) := call_v (cons_v (op_v (f := dGt) (x := .int k) (y := .int 0) (z := .bl (decide (0 < k))) rfl rfl (by
    show some (D.bl (decide ((0 : Int) < (k : Int)))) = _
    congr 2
    exact decide_eq_decide.mpr (by omega))) rfl) (by rw [int2_bl]; by_cases z : 0 < k <;> simp [z])
  obtain ⟨u, u1, u2⟩ : ∃ u : Nat, (u : Int) = v * (if 0 < k then 1 else 0) ∧ (u ≤ 3 ∧ (0 < u → 0 < k)) := by
    by_cases z : 0 < k
    · rw [if_pos z]
      exact ⟨v.toNat, by omega, by omega, fun _ => z⟩
    · rw [if_neg z]
      exact ⟨0, by omega, by omega, fun h => absurd h (by decide)⟩
  have mu : dMul (.int v) (.int (if 0 < k then 1 else 0)) = some (.int u) := by
    rw [u1]
    exact mul_ok (a := 10) (b := 10) (by have : (2 : Nat) ^ 10 = 1024 := by decide
                                         omega) (by by_cases z : 0 < k <;> simp [z]) (by decide)
  have rg := range_v (op_v (f := dMul) p1 t1 mu) (by omega)
  obtain ⟨sd', w1, l', b', y8, y9, rfl, g1, g2⟩ := for_count (g := tgN 8) (body := m__law_source_b1 cs) (fun i : Nat => D.int (0 + (i : Int))) (fun j sd => ∃ l b x8 x9, sd = T b l x8 x9 ∧ LnOk names k l ∧ Bg (n + 1 + 2 * j) b) rg ⟨l, b1, x8, x9, rfl, hl, h1⟩ (fun j hj sd hI => by
    obtain ⟨l, b, x8, x9, rfl, g1, g2⟩ := hI
    obtain ⟨l', b', y9, e1, e2, e3⟩ := so_b1 cs (most := most) (many := many) (lines := lines) (x8 := .ow (.fz (.int (0 + (j : Int))))) (x9 := x9) hns (u2.2 (by omega)) hk2 few g1 g2 (by omega)
    exact ⟨T b l (.ow (.fz (.int (0 + (j : Int))))) x9, _, rfl, e3, l', b', _, y9, rfl, e1, by rw [show n + 1 + 2 * (j + 1) = n + 1 + 2 * j + 2 by omega]; exact e2⟩)
  exact ⟨l', b', y8, y9, g1, g2.mono (by omega), w1⟩
theorem so_b2 {k : Nat} (hns : ∀ w ∈ names, NmOk w) (hk2 : k ≤ names.length) (few : names.length ≤ 19) (hll : lines.length ≤ 100) (hb : Bg n b) (hn : n + 400 < 2 ^ 64) :
    ∃ (l : List Tr) (b' : OT) (y7 y8 y9 : S), LnOk names k l ∧ Bg (n + 100) b' ∧ m__law_source_b2 cs (srS b most many names lines (.ow (.fz (.int k))) x7 x8 x9) = .nx (srS b' most many names (lines ++ [l]) (.ow (.fz (.int k))) y7 y8 y9) := by
  obtain ⟨l, b1, h1, l1, l2, l3, l4, s3⟩ := so_3 cs (most := most) (many := many) (names := names) (lines := lines) (x6 := .ow (.fz (.int k))) (x7 := x7) (x8 := x8) (x9 := x9) hb (by omega)
  have lo : LnOk names k (ofNs l) := ⟨ofNs_ok _ l l3, by rw [ofNs_dps]; exact l4, by rw [ofNs_wds]; exact l1, by rw [ofNs_wds]; exact l2, ofNs_ne fun z => by rw [z, wds, List.length_nil] at l1; omega⟩
  obtain ⟨l', b2, y8, y9, h2, h3, s7⟩ := so_7 cs (most := most) (many := many) (lines := lines) (x8 := x8) (x9 := x9) hns hk2 few lo h1 (by omega)
  have s8 : m__law_source_8 cs (srS b2 most many names lines (.ow (.fz (.int k))) (wo l') y8 y9) = .nx (srS b2 most many names (lines ++ [l']) (.ow (.fz (.int k))) (.ow (.fz (LD l'))) y8 y9) := by
    have e : (lines ++ [l']).map LD = lines.map LD ++ [LD l'] := by rw [List.map_append]; rfl
    show _ = Fl.nx (⟨[_, _, _, _, _, .ow (.ol (((lines ++ [l']).map LD).map .fz)), _, _, _, _], _⟩ : SD)
    rw [e]
    refine app_d (i := 5) (m := mOwn (mFrz 7)) (sd1 := srS b2 most many names lines (.ow (.fz (.int k))) (.ow (.fz (LD l'))) y8 y9) (xs0 := lines.map LD) rfl (own_v (d := LD l') ?_) rfl (by rw [List.length_map]; omega)
    show ER.ok (OT.view (.ol _)) (⟨[_, _, _, _, _, _, _, .ow (.fz (OT.view (.ol _))), _, _], _⟩ : SD) = _
    rw [view_ol]
    rfl
  exact ⟨l', b2, _, _, _, h2, h3.mono (by omega), seq_nx s3 (seq_nx s7 s8)⟩
theorem source_ok {a c0 c : Int} (hm : most ≤ 19) (ha : 0 ≤ a) (ha2 : a < 2 ^ 1050000) (hc : 0 ≤ c) (hc2 : c ≤ 1000) :
    ∃ (names : List (List Nat)) (lines : List (List Tr)) (b' : OT), Src names lines ∧ m__law_source cs [BX a c0 c, .fz (.int most), .fz (.int 1)] = .ok (.fz (.tup [.lst (WsD names), .lst (lines.map LD)])) ⟨[], [b', .fz (.int most), .fz (.int 1)]⟩ := by
  let T0 := fun (b : OT) (x3 x4 x5 : S) => (⟨[.pa 0, .ow (.fz (.int most)), .ow (.fz (.int 1)), x3, x4, x5, .un, .un, .un, .un], [b, .fz (.int most), .fz (.int 1)]⟩ : SD)
  have p1 := pick_exc cs (e := mOp dAdd (mC (.int 1)) (mVar 1)) (i := 0) (sd := T0 (BX a c0 c) .un .un .un) (sd1 := T0 (BX a c0 c) .un .un .un) (m := (1 + most : Nat)) (op_v (f := dAdd) (x := .int 1) (y := .int most) rfl rfl (by show some (D.int ((1 : Int) + most)) = _; congr 2)) rfl rfl hc (by omega) (by omega) (by rw [Int.natAbs_natCast]; exact big8 (by omega))
  obtain ⟨k0, k1⟩ := pkv_in (a := a) (b := c0) (c := c) (m := (1 + most : Nat)) (by omega)
  obtain ⟨many, hmany⟩ := Int.eq_ofNat_of_zero_le k0
  rw [hmany] at p1 k1
  have ab : 0 ≤ pka a (1 + most : Nat) ∧ pka a (1 + most : Nat) < 2 ^ 1050000 := by
    unfold pka
    split
    · rw [Int.fdiv_eq_ediv_of_nonneg _ (by omega)]
      exact ⟨Int.ediv_nonneg ha (by omega), Int.lt_of_le_of_lt (Int.ediv_le_self _ ha) ha2⟩
    · exact ⟨ha, ha2⟩
  generalize pka a (1 + most : Nat) = a1 at *
  have s1 : m__law_source_1 cs (T0 (BX a c0 c) .un .un .un) = .nx (T0 (BX a1 c0 (c + 1)) (.ow (.fz (.int many))) .un .un) := set_d (l := (T0 (BX a1 c0 (c + 1)) .un .un .un).sl) p1 (by show 3 < 10; decide)
  obtain ⟨names, a2, c2, n1, n2, n3, n4, n5, e2⟩ := names_ok cs (a := a1) (b := c0) (c := c + 1) (many := many) (by omega) ab.1 ab.2 (by omega) (by omega)
  have cl := call_bag (f := m__law_names cs) (i := 0) (a := mVar 3) (sd := T0 (BX a1 c0 (c + 1)) (.ow (.fz (.int many))) .un .un) (sd1 := T0 (BX a1 c0 (c + 1)) (.ow (.fz (.int many))) .un .un) (d := .int many) (t := BX a1 c0 (c + 1)) (t0 := BX a1 c0 (c + 1)) rfl rfl rfl e2 rfl
  have s2 : m__law_source_2 cs (T0 (BX a1 c0 (c + 1)) (.ow (.fz (.int many))) .un .un) = .nx (srS (BX a2 c0 c2) most many names [] .un .un .un .un) := by
    unfold m__law_source_2 sPar
    rw [fzo_v cl, view_ol]
    rfl
  have it := range_v (n := many + 1) (sd := srS (BX a2 c0 c2) most many names [] .un .un .un .un) (sd1 := srS (BX a2 c0 c2) most many names [] .un .un .un .un) (a := mOp dAdd (mVar 3) (mC (.int 1))) (op_v (f := dAdd) (x := .int many) (y := .int 1) rfl rfl rfl) (by omega)
  obtain ⟨sd', w1, lines, b3, x6, x7, x8, x9, rfl, g1, g2, g3⟩ := for_count (g := tgN 6) (body := m__law_source_b2 cs) (fun i : Nat => D.int (0 + (i : Int))) (fun j sd => ∃ lines b x6 x7 x8 x9, sd = srS b most many names lines x6 x7 x8 x9 ∧ lines.length = j ∧ (∀ (k : Nat) (l : List Tr), lines[k]? = some l → LnOk names k l) ∧ Bg (2 ^ 63 + 10000 + 100 * j) b) it ⟨[], _, _, _, _, _, rfl, rfl, (fun k l h => by simp at h), ⟨a2, c0, c2, rfl, n4, by omega⟩⟩ (fun j hj sd hI => by
    obtain ⟨lines, b, x6, x7, x8, x9, rfl, g1, g2, g3⟩ := hI
    obtain ⟨l, b', y7, y8, y9, e1, e2, e3⟩ := so_b2 cs (most := most) (many := many) (names := names) (lines := lines) (x7 := x7) (x8 := x8) (x9 := x9) (k := j) n3 (by omega) (by omega) (by omega) g3 (by omega)
    refine ⟨srS b most many names lines (.ow (.fz (.int j))) x7 x8 x9, _, by rw [Int.zero_add]; rfl, e3, lines ++ [l], b', _, y7, y8, y9, rfl, by rw [List.length_append, List.length_singleton, g1], fun k x hx => ?_, by rw [show 2 ^ 63 + 10000 + 100 * (j + 1) = 2 ^ 63 + 10000 + 100 * j + 100 by omega]; exact e2⟩
    by_cases hk : k < lines.length
    · rw [List.getElem?_append_left hk] at hx
      exact g2 k x hx
    · rw [List.getElem?_append_right (by omega)] at hx
      have hj2 : k - lines.length < 1 := by
        have := (List.getElem?_eq_some_iff.mp hx).1
        rwa [List.length_singleton] at this
      have hk2 : k = j := by omega
      rw [show k - lines.length = 0 by omega, List.getElem?_cons_zero] at hx
      rw [hk2, ← Option.some.inj hx]
      exact e1)
  have s9 : m__law_source_9 cs (srS (BX a2 c0 c2) most many names [] .un .un .un .un) = .nx (srS b3 most many names lines x6 x7 x8 x9) := w1
  have srcOk : Src names lines := ⟨n2, n3, by omega, by omega, fun k l hl => by
    have o := g2 k l hl
    exact ⟨o.ok, by have := o.dp; omega, by have := o.hi; omega, fun _ => o.ne⟩⟩
  obtain ⟨v, b4, v0, v1, h4, p4⟩ := pick_call cs (a := mC (.int 9)) (i := 0) (sd := srS b3 most many names lines x6 x7 x8 x9) (sd1 := srS b3 most many names lines x6 x7 x8 x9) (m := 9) rfl rfl rfl g3 (by omega) (by decide) (by decide)
  have t11 : mTest (mOp dEq (mView (mCall1 (m__law_pick cs) (rSlot 0 (rFz (mC (.int 9)) (rNil))))) (mC (.int 0))) (srS b3 most many names lines x6 x7 x8 x9) = .ok (decide (v = 0)) (srS b4 most many names lines x6 x7 x8 x9) := op_t p4 (y := .int 0) rfl (by unfold dEq; rw [eqB_int]; rfl)
  have fin : ∀ (t : OT) (ls : List (List Tr)), t.view = .lst (ls.map LD) → m__law_source_12 cs ⟨[.pa 0, .ow (.fz (.int most)), .ow (.fz (.int 1)), .ow (.fz (.int many)), .ow (.fz (.lst (WsD names))), .ow t, x6, x7, x8, x9], [b4, .fz (.int most), .fz (.int 1)]⟩ = .rt (.fz (.tup [.lst (WsD names), .lst (ls.map LD)])) ⟨[.pa 0, .ow (.fz (.int most)), .ow (.fz (.int 1)), .ow (.fz (.int many)), .ow (.fz (.lst (WsD names))), .ow (.fz t.view), x6, x7, x8, x9], [b4, .fz (.int most), .fz (.int 1)]⟩ := fun t ls hv => by
    refine ret_d (tup_v (xs := [.lst (WsD names), .lst (ls.map LD)]) (cons_v rfl (cons_v (r := mNil) ?_ rfl)) (by show 2 ≤ _; decide))
    rw [← hv]
    rfl
  by_cases hv : v = 0
  · rw [decide_eq_true hv] at t11
    obtain ⟨pre, x, hpre⟩ : ∃ pre x, lines = pre ++ [x] := by
      have ne : lines ≠ [] := fun z => by rw [z] at g1; simp at g1
      exact ⟨lines.dropLast, lines.getLast ne, (List.dropLast_concat_getLast ne).symm⟩
    have pl : pre.length = many := by rw [hpre, List.length_append, List.length_singleton] at g1; omega
    have s10 : m__law_source_10 cs (srS b4 most many names lines x6 x7 x8 x9) = .nx ⟨[.pa 0, .ow (.fz (.int most)), .ow (.fz (.int 1)), .ow (.fz (.int many)), .ow (.fz (.lst (WsD names))), .ow (.ol (((pre.map LD).map .fz) ++ [.ol []])), x6, x7, x8, x9], [b4, .fz (.int most), .fz (.int 1)]⟩ := by
      show (match ixN ((lines.map LD).map OT.fz).length (-1) with
        | some j => Fl.nx ((srS b4 most many names lines x6 x7 x8 x9).put 5 (.ol ((((lines.map LD).map OT.fz)).set j (.ol []))))
        | none => .bad) = _
      rw [List.length_map, List.length_map, g1, ixN_last]
      have : ((lines.map LD).map OT.fz).set many (.ol []) = ((pre.map LD).map OT.fz) ++ [.ol []] := by
        rw [hpre, List.map_append, List.map_append, ← pl]
        simp
      dsimp only
      rw [this]
      rfl
    have vw : (OT.ol (((pre.map LD).map OT.fz) ++ [.ol []])).view = .lst ((pre ++ [[]]).map LD) := by
      rw [OT.view, views_eq, List.map_append, List.map_append, List.map_map]
      have : (pre.map LD).map (OT.view ∘ OT.fz) = pre.map LD := by
        refine (List.map_congr_left fun d _ => ?_).trans (List.map_id _)
        show OT.view (.fz d) = d
        rw [OT.view]
      rw [this]
      rfl
    refine ⟨names, pre ++ [[]], b4, ⟨n2, n3, by omega, by rw [List.length_append, List.length_singleton]; omega, fun k l hl => ?_⟩, ?_⟩
    · by_cases hk : k < pre.length
      · rw [List.getElem?_append_left hk] at hl
        exact srcOk.ok k l (by rw [hpre, List.getElem?_append_left hk]; exact hl)
      · rw [List.getElem?_append_right (by omega)] at hl
        have := (List.getElem?_eq_some_iff.mp hl).1
        rw [List.length_singleton] at this
        rw [show k - pre.length = 0 by omega, List.getElem?_cons_zero] at hl
        rw [← Option.some.inj hl]
        exact ⟨by rw [toks]; exact True.intro, by rw [tdps]; exact Nat.zero_le _, by rw [twds]; exact Nat.zero_le _, fun z => absurd z (by omega)⟩
    · have s11 : m__law_source_11 cs (srS b3 most many names lines x6 x7 x8 x9) = .nx ⟨[.pa 0, .ow (.fz (.int most)), .ow (.fz (.int 1)), .ow (.fz (.int many)), .ow (.fz (.lst (WsD names))), .ow (.ol (((pre.map LD).map .fz) ++ [.ol []])), x6, x7, x8, x9], [b4, .fz (.int most), .fz (.int 1)]⟩ := by
        unfold m__law_source_11
        rw [if_b t11, if_pos rfl]
        exact s10
      exact def_rt (sd0 := T0 (BX a c0 c) .un .un .un) rfl (seq_nx s1 (seq_nx s2 (seq_nx s9 (seq_nx s11 (fin _ _ vw)))))
  · rw [decide_eq_false hv] at t11
    have s11 : m__law_source_11 cs (srS b3 most many names lines x6 x7 x8 x9) = .nx (srS b4 most many names lines x6 x7 x8 x9) := by
      unfold m__law_source_11
      rw [if_b t11, if_neg Bool.false_ne_true]
      rfl
    exact ⟨names, lines, b4, srcOk, def_rt (sd0 := T0 (BX a c0 c) .un .un .un) rfl (seq_nx s1 (seq_nx s2 (seq_nx s9 (seq_nx s11 (fin _ _ (view_ol _))))))⟩
end
theorem isO_v (cs : Nat → Addr) {a : SD → ER D} {sd sd1 : SD} {l : List Nd} (h : a sd = .ok (PD cs l) sd1) : mTest (mCall (dIsO (okC cs) (cs 0)) (mCons a (mCons (mC (.cls (cs 0))) (mNil)))) sd = .ok true sd1 := by
  obtain ⟨t, ht⟩ := prog_tyv cs l
  refine test_v (call_v (cons_v h (cons_v (x := .cls (cs 0)) (r := mNil) rfl rfl)) ?_)
  show (if (cs 0) = (cs 0) then ((PD cs l).tyv (okC cs)).map (fun _ => D.bl ((PD cs l).isIns (cs 0))) else none) = _
  rw [if_pos rfl, ht, prog_isIns]
  rfl
theorem Program_text_ok (cs : Nat → Addr) (l : List Nd) : ∃ sd, m_Program_text cs [.fz (PD cs l)] = .ok (.fz (.str (textOf (wds l)))) sd := by
  simp [m_Program_text_1, m_Program_text, -List.map_map, -List.map_take, -List.map_drop, -List.map_append, -List.map_reverse, asDef, entry, slotsOf, sSeq, sSet, sRet, sIf, sDrop, sNil, sBreak, sCont, sApp, sSetAt, setEnd, sAug, sAsg, sPar, mVar, mSee, mFrz, mTake, mC, mUn, mOp, mNil, mCons, mCall, mCallL, mTup, mLst, mView, mOwn, mFz, mTest, mAnd, mOr, mNot, mIf, mAndV, mOrV, mNotV, mChain, mAt, qSee, qFz, qNew, oNone, oSome, rNil, rSlot, rFz, mCall0, mCall1, oneSlot, noSlot, treesOf, SD.tree, SD.put, SD.putFz, tgN, tgNil, tgCons, tgT, ER.bind, ER.opt, ER.stm, Fl.seq, OT.view, OT.views, OT.items, fzOf, iLst, iTuP, iRange1, iRange2, iZip2, iEnumL, dIx, atI, ixN, dAdd, dSub, dNeg, dLt, dLe, dGt, dGe, dIsN, dNotN, isNonD, dEq, dNe, eqB_int, eqB_str, eqB_bl, eq_2, eq_3, dLen, dIsi, D.isA, tyName, dMod, dMax, dMin, mAtS, mBm, D.isL, D.isS, mFld, fldD, mMake, mOwn2, mOwn1, mCallIns, mProp, mMeth, mB2, callFz, callFzQ, sFldSet, putO, idxN, cSame, cInt, D.isIns, D.isInt, dIsO, D.tyv, okC, sPar3, mCutX, mCat, dAll, boolsOf, sFor, goFor, rangeD, List.range, List.range.loop, sNever, PD]
theorem Program_length_ok (cs : Nat → Addr) (l : List Nd) : ∃ sd, m_Program_length cs [.fz (PD cs l)] = .ok (.fz (.int (nlens l))) sd := by
  simp [m_Program_length_1, m_Program_length, -List.map_map, -List.map_take, -List.map_drop, -List.map_append, -List.map_reverse, asDef, entry, slotsOf, sSeq, sSet, sRet, sIf, sDrop, sNil, sBreak, sCont, sApp, sSetAt, setEnd, sAug, sAsg, sPar, mVar, mSee, mFrz, mTake, mC, mUn, mOp, mNil, mCons, mCall, mCallL, mTup, mLst, mView, mOwn, mFz, mTest, mAnd, mOr, mNot, mIf, mAndV, mOrV, mNotV, mChain, mAt, qSee, qFz, qNew, oNone, oSome, rNil, rSlot, rFz, mCall0, mCall1, oneSlot, noSlot, treesOf, SD.tree, SD.put, SD.putFz, tgN, tgNil, tgCons, tgT, ER.bind, ER.opt, ER.stm, Fl.seq, OT.view, OT.views, OT.items, fzOf, iLst, iTuP, iRange1, iRange2, iZip2, iEnumL, dIx, atI, ixN, dAdd, dSub, dNeg, dLt, dLe, dGt, dGe, dIsN, dNotN, isNonD, dEq, dNe, eqB_int, eqB_str, eqB_bl, eq_2, eq_3, dLen, dIsi, D.isA, tyName, dMod, dMax, dMin, mAtS, mBm, D.isL, D.isS, mFld, fldD, mMake, mOwn2, mOwn1, mCallIns, mProp, mMeth, mB2, callFz, callFzQ, sFldSet, putO, idxN, cSame, cInt, D.isIns, D.isInt, dIsO, D.tyv, okC, sPar3, mCutX, mCat, dAll, boolsOf, sFor, goFor, rangeD, List.range, List.range.loop, sNever, PD, n_text_length, n_words_length, n_nodes_length]
theorem Program_len_ok (cs : Nat → Addr) (l : List Nd) : ∃ sd, m_Program___len__ cs [.fz (PD cs l)] = .ok (.fz (.int (wds l).length)) sd := by
  have e := WsD_len (wds l)
  simp [m_Program___len___1, m_Program___len__, -List.map_map, -List.map_take, -List.map_drop, -List.map_append, -List.map_reverse, asDef, entry, slotsOf, sSeq, sSet, sRet, sIf, sDrop, sNil, sBreak, sCont, sApp, sSetAt, setEnd, sAug, sAsg, sPar, mVar, mSee, mFrz, mTake, mC, mUn, mOp, mNil, mCons, mCall, mCallL, mTup, mLst, mView, mOwn, mFz, mTest, mAnd, mOr, mNot, mIf, mAndV, mOrV, mNotV, mChain, mAt, qSee, qFz, qNew, oNone, oSome, rNil, rSlot, rFz, mCall0, mCall1, oneSlot, noSlot, treesOf, SD.tree, SD.put, SD.putFz, tgN, tgNil, tgCons, tgT, ER.bind, ER.opt, ER.stm, Fl.seq, OT.view, OT.views, OT.items, fzOf, iLst, iTuP, iRange1, iRange2, iZip2, iEnumL, dIx, atI, ixN, dAdd, dSub, dNeg, dLt, dLe, dGt, dGe, dIsN, dNotN, isNonD, dEq, dNe, eqB_int, eqB_str, eqB_bl, eq_2, eq_3, dLen, dIsi, D.isA, tyName, dMod, dMax, dMin, mAtS, mBm, D.isL, D.isS, mFld, fldD, mMake, mOwn2, mOwn1, mCallIns, mProp, mMeth, mB2, callFz, callFzQ, sFldSet, putO, idxN, cSame, cInt, D.isIns, D.isInt, dIsO, D.tyv, okC, sPar3, mCutX, mCat, dAll, boolsOf, sFor, goFor, rangeD, List.range, List.range.loop, sNever, PD, n_text_words, e]
theorem fld_text (cs : Nat → Addr) {l : List Nd} {a : SD → ER D} {sd sd1 : SD} (h : a sd = .ok (PD cs l) sd1) : mFld (fun C => C == (cs 0)) "own_text" a sd = .ok (.str (textOf (wds l))) sd1 := by
  unfold PD at h
  simp [mFld, h, ER.bind, ER.opt, mFld, fldD, mMake, mOwn2, mOwn1, mCallIns, mProp, mMeth, mB2, callFz, callFzQ, sFldSet, putO, idxN, cSame, cInt, D.isIns, D.isInt, dIsO, D.tyv, okC, sPar3, mCutX, mCat, dAll, boolsOf, sFor, goFor, rangeD, List.range, List.range.loop, sNever]
theorem prop_text (cs : Nat → Addr) {l : List Nd} {a : SD → ER D} {sd sd1 : SD} (h : a sd = .ok (PD cs l) sd1) : mView (mProp (cs 0) (m_Program_text cs) a) sd = .ok (.str (textOf (wds l))) sd1 := by
  obtain ⟨s3, e3⟩ := Program_text_ok cs l
  unfold PD at h e3
  refine vwt_v (t := .fz (.str (textOf (wds l)))) ?_
  simp [mProp, h, ER.bind, callFzQ, callFz, e3]
theorem prop_length (cs : Nat → Addr) {l : List Nd} {a : SD → ER D} {sd sd1 : SD} (h : a sd = .ok (PD cs l) sd1) : mView (mProp (cs 0) (m_Program_length cs) a) sd = .ok (.int (nlens l)) sd1 := by
  obtain ⟨s3, e3⟩ := Program_length_ok cs l
  unfold PD at h e3
  refine vwt_v (t := .fz (.int (nlens l))) ?_
  simp [mProp, h, ER.bind, callFzQ, callFz, e3]
theorem len_o (cs : Nat → Addr) {l : List Nd} (hl : (wds l).length ≤ 1000) {a : SD → ER D} {sd sd1 : SD} (h : a sd = .ok (PD cs l) sd1) : mLenO (cs 0) (m_Program___len__ cs) (mCons a mNil) sd = .ok (.int (wds l).length) sd1 := by
  obtain ⟨s3, e3⟩ := Program_len_ok cs l
  have i := prog_isIns cs l
  unfold mLenO
  rw [cons_v h (r := mNil) rfl]
  generalize PD cs l = d at *
  have z1 : (0 : Int) ≤ (wds l).length := by omega
  have z2 : ((wds l).length : Int) < 2 ^ 63 := by omega
  simp only [ER.bind, i, if_true, e3]
  rw [if_pos ⟨z1, z2⟩]
theorem eq_o (cs : Nat → Addr) {l : List Nd} {a b : SD → ER D} {sd sd1 sd2 : SD} (h1 : a sd = .ok (PD cs l) sd1) (h2 : b sd1 = .ok (PD cs l) sd2) : mB2 (okC cs) (cs 0) (m_Program___eq__ cs) false a b sd = .ok (.bl true) sd2 := by
  obtain ⟨t, ht⟩ := prog_tyv cs l
  have i := prog_isIns cs l
  have e : m_Program___eq__ cs [.fz (PD cs l), .fz (PD cs l)] = .ok (.fz (.bl true)) ⟨[], [.fz (PD cs l), .fz (PD cs l)]⟩ := by
    let T : SD := ⟨[.ow (.fz (PD cs l)), .ow (.fz (PD cs l))], [.fz (PD cs l), .fz (PD cs l)]⟩
    have c1 : mCall (dIsO (okC cs) (cs 0)) (mCons (mVar 1) (mCons (mC (.cls (cs 0))) (mNil))) T = .ok (.bl true) T := call_v (xs := [PD cs l, .cls (cs 0)]) rfl (by
      show (if (cs 0) = (cs 0) then ((PD cs l).tyv (okC cs)).map (fun _ => D.bl ((PD cs l).isIns (cs 0))) else none) = _
      rw [if_pos rfl, ht, i]
      rfl)
    have s1 : m_Program___eq___1 cs T = .rt (.fz (.bl true)) T := ret_d (by
      rw [andv_t c1]
      exact op_v (f := dEq) (fld_text cs (l := l) (a := mVar 0) (sd := T) rfl) (fld_text cs (l := l) (a := mVar 1) (sd := T) rfl) (by unfold dEq; rw [eqB_str, decide_eq_true rfl]; rfl))
    exact def_rt (n := 2) (ts := [.fz (PD cs l), .fz (PD cs l)]) (sd0 := T) (sd := T) rfl s1
  unfold mB2
  rw [h1]
  simp only [ER.bind]
  rw [h2]
  simp only [i, ht, Option.isSome_some, and_self, if_true, e]
  rfl
theorem Src.srclen {names : List (List Nat)} {lines : List (List Tr)} (s : Src names lines) : (srcT names lines).length ≤ 16777216 := by
  have few := s.few
  have go : ∀ ws : List (List Nat), (∀ w ∈ ws, w.length ≤ 1700) → (TL.joinL [10] ws).length ≤ 1701 * ws.length := fun ws => by
    induction ws with
    | nil => intro _; simp [TL.joinL]
    | cons p r ih =>
      intro h
      have h1 := h p (by simp)
      have h2 := ih fun w hw => h w (List.mem_cons_of_mem _ hw)
      cases r with
      | nil => show p.length ≤ 1701 * 1; omega
      | cons q r =>
        show (p ++ ([10] ++ TL.joinL [10] (q :: r))).length ≤ _
        rw [List.length_append, List.length_append, List.length_singleton, List.length_cons]
        rw [List.length_cons] at h2
        rw [List.length_cons]
        omega
  have := go (rowsT names lines) fun w hw => by
    obtain ⟨k, hk, rfl⟩ := List.mem_map.mp hw
    exact s.rowlen (by have := List.mem_range.mp hk; omega)
  have rlen : (rowsT names lines).length = names.length + 1 := by unfold rowsT; rw [List.length_map, List.length_range]
  unfold srcT
  omega
noncomputable def laS (ns : List Int) (x1 x2 x3 x4 x5 x6 x7 x8 x9 x10 x11 : S) : SD := ⟨[.ow (.fz (.scr ns)), x1, x2, x3, x4, x5, x6, x7, x8, x9, x10, x11], [.fz (.scr ns)]⟩
/-- the state of a cell when its source stands -/
noncomputable def quS (ns : List Int) (names : List (List Nat)) (lines : List (List Tr)) (F : List (List Nd)) (x1 x2 x7 x8 x9 x10 x11 : S) : SD :=
  laS ns x1 x2 (.ow (.fz (.lst (WsD names)))) (.ow (.fz (.lst (lines.map LD)))) (.ow (.fz (.str (W (srcT names lines))))) (.ow (.fz (.lst (F.map fun l => accD (wds l))))) x7 x8 x9 x10 x11
section
variable (cs : Nat → Addr) {ns : List Int} {names : List (List Nat)} {lines : List (List Tr)} {F : List (List Nd)} (s : Src names lines) (xx : Exp names lines F) {x1 x2 x7 x8 x9 x10 x11 : S}
include s in
theorem la_11 : ∃ y7 y8, m_law_11 cs (quS ns names lines F x1 x2 x7 x8 x9 x10 x11) = .nx (quS ns names lines F x1 x2 y7 y8 x9 x10 x11) := by
  let T := fun x7 x8 : S => quS ns names lines F x1 x2 x7 x8 x9 x10 x11
  obtain ⟨sd', w1, y7, y8, rfl⟩ := for_count (g := tgN 7) (body := m_law_b1 cs) (fun i : Nat => D.int (0 + (i : Int))) (fun j sd => ∃ y7 y8, sd = T y7 y8) (range_v (n := 2) (a := mC (.int 2)) (sd := T x7 x8) (sd1 := T x7 x8) rfl (by decide)) ⟨x7, x8, rfl⟩ (fun j hj sd hI => by
    obtain ⟨y7, y8, rfl⟩ := hI
    have s7 : m_law_7 cs (T (.ow (.fz (.int (0 + (j : Int))))) y8) = .nx (T (.ow (.fz (.int (0 + (j : Int))))) (.ow (.ol ((WsD names).map .fz)))) := set_o (k := 8) (l := (T (.ow (.fz (.int (0 + (j : Int))))) y8).sl) (call0_v (xs := [.str (W (srcT names lines))]) rfl (names_of_ok s cs)) (by show 8 < 12; decide)
    let U := T (.ow (.fz (.int (0 + (j : Int))))) (.ow (.ol ((WsD names).map .fz)))
    have v8 : mSee 8 U = .ok (.lst (WsD names)) U := by
      show ER.ok (OT.view (.ol _)) U = _
      rw [view_ol]
    have t9 : mTest (mOp dNe (mSee 8) (mVar 3)) U = .ok false U := op_t v8 (y := .lst (WsD names)) rfl (by
      unfold dNe
      rw [eqB_ws s.low s.low, decide_eq_true rfl]
      rfl)
    have s9 : m_law_9 cs U = .nx U := by
      unfold m_law_9
      rw [if_b t9, if_neg Bool.false_ne_true]
      rfl
    have few := s.few
    have s10 : m_law_10 cs U = .nx (T (.ow (.fz (.int (0 + (j : Int))))) (.ow (.ol ((WsD names).map .fz ++ [.fz .non])))) := app_o (i := 8) (sd1 := U) (ts0 := (WsD names).map .fz) (ts := (WsD names).map .fz) (t := .fz .non) rfl rfl rfl (by rw [List.length_map, WsD_len]; omega)
    exact ⟨T (.ow (.fz (.int (0 + (j : Int))))) y8, _, rfl, seq_nx s7 (seq_nx s9 s10), _, _, rfl⟩)
  exact ⟨y7, y8, w1⟩
include s xx in
theorem la_17 {k : Nat} (hk : k ≤ names.length) : ∃ y10, m_law_b2 cs (quS ns names lines F x1 x2 x7 x8 (.ow (.fz (.int k))) x10 x11) = .nx (quS ns names lines F x1 x2 x7 x8 (.ow (.fz (.int k))) y10 x11) := by
  let T := fun x10 : S => quS ns names lines F x1 x2 x7 x8 (.ow (.fz (.int k))) x10 x11
  obtain ⟨e1, e2⟩ := xx.words s hk
  obtain ⟨q1, q2⟩ := xx.prop s hk
  have ix : ∀ x10, mOp dIx (mVar 6) (mVar 9) (T x10) = .ok (accD (wds (F.getD k []))) (T x10) := fun x10 => op_v (x := .lst (F.map fun l => accD (wds l))) (y := .int k) rfl rfl (by
    show atI (F.map fun l => accD (wds l)) (k : Int) = _
    exact atI_of (by rw [List.getElem?_map, e1]; rfl))
  have e3 : k < names.length → names[k]? = some (names.getD k []) := fun h => by rw [List.getD_eq_getElem?_getD, List.getElem?_eq_getElem h]; rfl
  have rd := read_ok s xx cs
  have rt : k < names.length → PrOk (F.getD k []) → m_routine cs [.fz (.str (W (srcT names lines))), .fz (.str (W (names.getD k [])))] = .ok (PO cs (F.getD k [])) ⟨[], [.fz (.str (W (srcT names lines))), .fz (.str (W (names.getD k [])))]⟩ := fun h p => by
    have e : names.getD k [] = names[k] := by rw [List.getD_eq_getElem?_getD, List.getElem?_eq_getElem h]; rfl
    have i : names.idxOf names[k] = k := s.nd.idxOf_getElem k h
    have := routine_ok s xx cs (w := names[k]) (List.getElem_mem h) (by rw [i]; exact p)
    rw [i] at this
    rw [e]
    exact this
  show ∃ y10, m_law_17 cs (T x10) = .nx (T y10)
  unfold m_law_17
  by_cases h1 : (wds (F.getD k [])).length ≤ 1000
  · have ad : accD (wds (F.getD k [])) = .lst (WsD (wds (F.getD k []))) := by unfold accD; rw [if_pos h1]
    rw [ad] at ix
    have ta : mTest (mOp dNotN (mOp dIx (mVar 6) (mVar 9)) (mC .non)) (T x10) = .ok true (T x10) := op_t (ix x10) (y := .non) rfl rfl
    have tb : mTest (mOp dLt (mView (mCall0 (m__law_depth cs) (mCons (mOp dIx (mVar 6) (mVar 9)) (mNil)))) (mC (.int 13))) (T x10) = .ok (decide (ndps (F.getD k []) < 13)) (T x10) := op_t (vwt_v (t := .fz _) (call0_v (cons_v (ix x10) (r := mNil) rfl) (law_depth_ok cs q1))) (y := .int 13) rfl (by
      show some (D.bl (decide ((ndps (F.getD k []) : Int) < 13))) = _
      congr 2
      exact decide_eq_decide.mpr (by omega))
    by_cases h2 : ndps (F.getD k []) < 13
    · rw [decide_eq_true h2] at tb
      have p : PrOk (F.getD k []) := ⟨q1, by omega, h1⟩
      rw [if_b (and_b ta tb), if_pos (show (true && true) = true from rfl)]
      have told : mIf (mTest (mOp dEq (mVar 9) (mCall dLen (mCons (mVar 3) (mNil))))) (mView (mCall0 (m_read_source cs) (mCons (mVar 5) (mNil)))) (mView (mCall0 (m_routine cs) (mCons (mVar 5) (mCons (mOp dIx (mVar 3) (mVar 9)) (mNil))))) (T x10) = .ok (PD cs (F.getD k [])) (T x10) := by
        have tc : mTest (mOp dEq (mVar 9) (mCall dLen (mCons (mVar 3) (mNil)))) (T x10) = .ok (decide (k = names.length)) (T x10) := op_t (x := .int k) (y := .int names.length) rfl (call_v (xs := [.lst (WsD names)]) rfl (by show some (D.int (WsD names).length) = _; rw [WsD_len])) (by
          unfold dEq
          rw [eqB_int]
          show some (D.bl _) = _
          congr 2
          exact decide_eq_decide.mpr (by omega))
        rw [ifd_b tc]
        by_cases hk2 : k = names.length
        · rw [decide_eq_true hk2, if_pos rfl]
          rw [← hk2] at rd
          exact vwt_v (call0_v (xs := [.str (W (srcT names lines))]) rfl (rd p))
        · rw [decide_eq_false hk2, if_neg Bool.false_ne_true]
          have hk3 : k < names.length := by omega
          exact vwt_v (call0_v (xs := [.str (W (srcT names lines)), .str (W (names.getD k []))]) (cons_v rfl (cons_v (op_v (f := dIx) (x := .lst (WsD names)) (y := .int k) rfl rfl (by
            show atI (WsD names) (k : Int) = _
            exact atI_of (by unfold WsD; rw [List.getElem?_map, e3 hk3]; rfl))) (r := mNil) rfl)) (rt hk3 p))
      let U := T (.ow (.fz (PD cs (F.getD k []))))
      have s12 : m_law_12 cs (T x10) = .nx U := set_d (l := (T x10).sl) told (by show 10 < 12; decide)
      have v10 : mVar 10 U = .ok (PD cs (F.getD k [])) U := rfl
      have ixu : mOp dIx (mVar 6) (mVar 9) U = .ok (.lst (WsD (wds (F.getD k [])))) U := ix _
      generalize hU : U = u at *
      have jn : mBm D.isS dJoin (mC (.str " ")) (mCons (mOp dIx (mVar 6) (mVar 9)) (mNil)) u = .ok (.str (textOf (wds (F.getD k [])))) u := by
        rw [textW]
        exact bm_v (t := D.isS) (a := mC (.str " ")) (x := .str (W [32])) (by rw [← lit_sp]; rfl) rfl (cons_v ixu (r := mNil) rfl) (join_d (sl := [32]) (ws := wds (F.getD k [])) (L := 40) (wds_wlen _ q1) (by rw [List.length_singleton]; omega))
      have s14 : m_law_14 cs u = .nx u := by
        unfold m_law_14
        rw [if_b (or_r (not_b (isO_v cs v10)) (op_t (prop_text cs v10) jn (v := false) (by unfold dNe; rw [eqB_str, decide_eq_true rfl]; rfl)))]
        rfl
      have ln : mView (mCall0 (m__law_length cs) (mCons (mOp dIx (mVar 6) (mVar 9)) (mNil))) u = .ok (.int (nlens (F.getD k []))) u := vwt_v (t := .fz _) (call0_v (cons_v ixu (r := mNil) rfl) (law_length_ok cs q1 h1 (by omega)))
      have s16 : m_law_16 cs u = .nx u := by
        unfold m_law_16
        rw [if_b (or_r (op_t (prop_length cs v10) ln (v := false) (by unfold dNe; rw [eqB_int, decide_eq_true rfl]; rfl)) (op_t (len_o cs h1 v10) (call_v (cons_v ixu (r := mNil) rfl) (f := dLen) (y := .int (wds (F.getD k [])).length) (by show some (D.int (WsD (wds (F.getD k []))).length) = _; rw [WsD_len])) (v := false) (by unfold dNe; rw [eqB_int, decide_eq_true rfl]; rfl)))]
        rfl
      exact ⟨_, (seq_nx s12 (seq_nx s14 s16)).trans (by rw [← hU])⟩
    · rw [decide_eq_false h2] at tb
      rw [if_b (and_b ta tb), if_neg (by decide)]
      exact ⟨_, rfl⟩
  · have ad : accD (wds (F.getD k [])) = .non := by unfold accD; rw [if_neg h1]
    rw [ad] at ix
    have ta : mTest (mOp dNotN (mOp dIx (mVar 6) (mVar 9)) (mC .non)) (T x10) = .ok false (T x10) := op_t (ix x10) (y := .non) rfl rfl
    have t : mAnd (mTest (mOp dNotN (mOp dIx (mVar 6) (mVar 9)) (mC .non))) (mTest (mOp dLt (mView (mCall0 (m__law_depth cs) (mCons (mOp dIx (mVar 6) (mVar 9)) (mNil)))) (mC (.int 13)))) (T x10) = .ok false (T x10) := by
      unfold mAnd
      rw [ta]
      rfl
    rw [if_b t, if_neg Bool.false_ne_true]
    exact ⟨_, rfl⟩
include s xx in
theorem la_18 : ∃ y9 y10, m_law_18 cs (quS ns names lines F x1 x2 x7 x8 x9 x10 x11) = .nx (quS ns names lines F x1 x2 x7 x8 y9 y10 x11) := by
  have few := s.few
  let T := fun x9 x10 : S => quS ns names lines F x1 x2 x7 x8 x9 x10 x11
  have it := range_v (n := names.length + 1) (sd := T x9 x10) (sd1 := T x9 x10) (a := mOp dAdd (mCall dLen (mCons (mVar 3) (mNil))) (mC (.int 1))) (op_v (f := dAdd) (x := .int names.length) (y := .int 1) (call_v (xs := [.lst (WsD names)]) rfl (by show some (D.int (WsD names).length) = _; rw [WsD_len])) rfl rfl) (by omega)
  obtain ⟨sd', w1, y9, y10, rfl⟩ := for_count (g := tgN 9) (body := m_law_b2 cs) (fun i : Nat => D.int (0 + (i : Int))) (fun j sd => ∃ y9 y10, sd = T y9 y10) it ⟨x9, x10, rfl⟩ (fun j hj sd hI => by
    obtain ⟨y9, y10, rfl⟩ := hI
    obtain ⟨z10, e⟩ := la_17 cs s xx (ns := ns) (x1 := x1) (x2 := x2) (x7 := x7) (x8 := x8) (x10 := y10) (x11 := x11) (k := j) (by omega)
    exact ⟨T (.ow (.fz (.int j))) y10, _, by rw [Int.zero_add]; rfl, e, _, _, rfl⟩)
  exact ⟨y9, y10, w1⟩
end
theorem cut1_q {a : SD → ER (List D)} {sd sd1 : SD} {xs : List D} (h : a sd = .ok xs sd1) : mFz (mCut a oNone (oSome (mC (.int 1)))) sd = .ok (.fz (.lst (xs.take 1))) sd1 := by
  refine own_v (vwt_v (t := .ol ((xs.take 1).map .fz)) ?_ |>.trans (by rw [view_ol]))
  unfold mCut
  rw [h]
  show ER.ok (OT.ol ((cutL xs none (some 1)).map .fz)) sd1 = _
  rw [cut_to1]
theorem par3_v {i j k : Nat} {ma mb mc : SD → ER OT} {sd sd1 sd2 sd3 : SD} {t u w : OT} (h1 : ma sd = .ok t sd1) (h2 : mb sd1 = .ok u sd2) (h3 : mc sd2 = .ok w sd3) (hl : i < sd3.sl.length ∧ j < sd3.sl.length ∧ k < sd3.sl.length) : sPar3 i j k ma mb mc sd = .nx { sd3 with sl := ((sd3.sl.set i (.ow t)).set j (.ow u)).set k (.ow w) } := by
  unfold sPar3
  rw [h1]
  simp only [ER.stm]
  rw [h2]
  simp only [ER.stm]
  rw [h3]
  simp only [ER.stm]
  rw [if_pos hl]
theorem bits_lt2 {z : Int} (h : Builtin.Int.intBits z ≤ 1048576) : z < 2 ^ 1048576 := by
  have h1 : z.natAbs < 2 ^ 1048576 := by
    by_cases e : z = 0
    · rw [e]; exact Nat.pow_pos (by decide)
    · have e2 : z.natAbs ≠ 0 := by omega
      have b : z.natAbs.log2 < 1048576 := by
        simp [Builtin.Int.intBits, e] at h
        omega
      exact (Nat.log2_lt e2).mp b
  have h2 : ((z.natAbs : Nat) : Int) < (((2 : Nat) ^ 1048576 : Nat) : Int) := Int.ofNat_lt.mpr h1
  rw [Int.natCast_pow] at h2
  have h3 : z ≤ (z.natAbs : Int) := Int.le_natAbs
  exact Int.lt_of_le_of_lt h3 h2
theorem la_cell (cs : Nat → Addr) {ns : List Int} {cell : Int} (hcell : cell < 2 ^ 1048576) {x2 x3 x4 x5 x6 x7 x8 x9 x10 x11 : S} : ∃ y2 y3 y4 y5 y6 y7 y8 y9 y10, m_law_b3 cs (laS ns (.ow (.fz (.int cell))) x2 x3 x4 x5 x6 x7 x8 x9 x10 x11) = .nx (laS ns (.ow (.fz (.int cell))) y2 y3 y4 y5 y6 y7 y8 y9 y10 x11) := by
  let T := fun x2 x3 x4 x5 x6 : S => laS ns (.ow (.fz (.int cell))) x2 x3 x4 x5 x6 x7 x8 x9 x10 x11
  have s1 : m_law_1 cs (T x2 x3 x4 x5 x6) = .nx (T (.ow (BX (max 0 (cell - 1000000000000000000)) cell 0)) x3 x4 x5 x6) := set_o (k := 2) (l := (T x2 x3 x4 x5 x6).sl) (call0_v (xs := [.int cell]) rfl (bag_ex cs cell)) (by show 2 < 12; decide)
  have ha : 0 ≤ max 0 (cell - 1000000000000000000) ∧ max 0 (cell - 1000000000000000000) < 2 ^ 1050000 := by
    have p : (0 : Int) < 2 ^ 1048576 := Int.pow_pos (by decide)
    have q : (2 : Int) ^ 1048576 ≤ 2 ^ 1050000 := by
      have p : (((2 : Nat) ^ 1048576 : Nat) : Int) ≤ (((2 : Nat) ^ 1050000 : Nat) : Int) := Int.ofNat_le.mpr (Nat.pow_le_pow_right (by decide) (by decide))
      rw [Int.natCast_pow, Int.natCast_pow] at p
      exact p
    generalize (2 : Int) ^ 1048576 = A at *
    generalize (2 : Int) ^ 1050000 = B at *
    omega
  generalize max 0 (cell - 1000000000000000000) = a at *
  have p1 := pick_exc cs (e := mC (.int 2)) (i := 2) (sd := T (.ow (BX a cell 0)) x3 x4 x5 x6) (sd1 := T (.ow (BX a cell 0)) x3 x4 x5 x6) (m := 2) rfl rfl rfl (by decide) (by decide) (by decide) (big8 (by decide))
  obtain ⟨k0, k1⟩ := pkv_in (a := a) (b := cell) (c := 0) (m := 2) (by decide)
  have a1 : 0 ≤ pka a 2 ∧ pka a 2 < 2 ^ 1050000 := by
    unfold pka
    split
    · rw [Int.fdiv_eq_ediv_of_nonneg _ (by omega)]
      exact ⟨Int.ediv_nonneg ha.1 (by omega), Int.lt_of_le_of_lt (Int.ediv_le_self _ ha.1) ha.2⟩
    · exact ha
  have l1 : mView (mLst (mCons (mC (.int 3)) (mCons (mC (.int 19)) (mNil)))) (T (.ow (BX a cell 0)) x3 x4 x5 x6) = .ok (.lst [.int 3, .int 19]) (T (.ow (BX a cell 0)) x3 x4 x5 x6) := lst_v (cons_v rfl (cons_v rfl rfl)) (by decide)
  obtain ⟨most, hm, ix⟩ : ∃ m : Nat, m ≤ 19 ∧ dIx (.lst [.int 3, .int 19]) (.int (pkv a cell 0 2)) = some (.int m) := by
    have : pkv a cell 0 2 = 0 ∨ pkv a cell 0 2 = 1 := by omega
    rcases this with e | e
    · rw [e]; exact ⟨3, by decide, rfl⟩
    · rw [e]; exact ⟨19, by decide, rfl⟩
  have o1 := op_v l1 p1 ix
  obtain ⟨names, lines, b2, s, e2⟩ := source_ok cs (a := pka a 2) (c0 := cell) (c := 0 + 1) hm a1.1 a1.2 (by decide) (by decide)
  have args := rfz_v o1 (rfz_v (a := mC (.int 1)) (d := .int 1) (ds := []) (r := rNil) rfl rfl)
  have cl := call_bags (f := m__law_source cs) (i := 2) args (t0 := BX a cell 0) (t := BX (pka a 2) cell (0 + 1)) rfl rfl e2 rfl
  have s2 : m_law_2 cs (T (.ow (BX a cell 0)) x3 x4 x5 x6) = .nx (T (.ow b2) (.ow (.fz (.lst (WsD names)))) (.ow (.fz (.lst (lines.map LD)))) x5 x6) := by
    unfold m_law_2 sAsg
    rw [vwt_v cl]
    rfl
  obtain ⟨F, xx⟩ := exp_ex names lines fun k l hl => (s.ok k l hl).1
  let U := fun x5 x6 : S => T (.ow b2) (.ow (.fz (.lst (WsD names)))) (.ow (.fz (.lst (lines.map LD)))) x5 x6
  have c3 := fzo_v (call0_v (f := m__law_text cs) (a := mCons (mVar 3) (mCons (mVar 4) mNil)) (sd := U x5 x6) (sd1 := U x5 x6) (xs := [.lst (WsD names), .lst (lines.map LD)]) rfl (law_text_ok cs s))
  have c4 := fzo_v (call0_v (f := m__law_written cs) (a := mCons (mVar 3) (mCons (mVar 4) (mCons (mC (.int 1000)) mNil))) (sd := U x5 x6) (sd1 := U x5 x6) (xs := [.lst (WsD names), .lst (lines.map LD), .int 1000]) rfl (written_ok s xx cs))
  rw [view_ol] at c4
  have s3 : m_law_3 cs (U x5 x6) = .nx (quS ns names lines F (.ow (.fz (.int cell))) (.ow b2) x7 x8 x9 x10 x11) := by
    unfold m_law_3 sPar
    rw [c3]
    show (mFz (mCall0 (m__law_written cs) (mCons (mVar 3) (mCons (mVar 4) (mCons (mC (.int 1000)) mNil)))) (U x5 x6)).stm _ = _
    rw [c4]
    rfl
  have t6 : mTest (mOp dGt (mCall dLen (mCons (mVar 5) (mNil))) (mC (.int 3900))) (quS ns names lines F (.ow (.fz (.int cell))) (.ow b2) x7 x8 x9 x10 x11) = .ok (decide (3900 < (srcT names lines).length)) (quS ns names lines F (.ow (.fz (.int cell))) (.ow b2) x7 x8 x9 x10 x11) := op_t (len_v (w := srcT names lines) s.srclen (a := mVar 5) rfl) (y := .int 3900) rfl (by
    show some (D.bl (decide ((3900 : Int) < ((srcT names lines).length : Nat)))) = _
    congr 2
    exact decide_eq_decide.mpr (by omega))
  obtain ⟨names2, lines2, F2, z, zx, s6⟩ : ∃ names2 lines2 F2, Src names2 lines2 ∧ Exp names2 lines2 F2 ∧ m_law_6 cs (quS ns names lines F (.ow (.fz (.int cell))) (.ow b2) x7 x8 x9 x10 x11) = .nx (quS ns names2 lines2 F2 (.ow (.fz (.int cell))) (.ow b2) x7 x8 x9 x10 x11) := by
    unfold m_law_6
    rw [if_b t6]
    by_cases hb : 3900 < (srcT names lines).length
    · rw [decide_eq_true hb, if_pos rfl]
      have l0 := s.line (k := 0) (Nat.zero_le _)
      obtain ⟨o1, o2, o3, o4⟩ := s.ok 0 _ l0
      have z : Src [] (lines.take 1) := ⟨List.nodup_nil, (by simp), by decide, by rw [List.length_take, s.len]; simp, fun k l hl => by
        have hk : k < 1 := by
          have := (List.getElem?_eq_some_iff.mp hl).1
          rw [List.length_take] at this
          omega
        have hk0 : k = 0 := by omega
        subst hk0
        rw [List.getElem?_take_of_lt (by decide)] at hl
        rw [l0] at hl
        rw [← Option.some.inj hl]
        exact ⟨o1, o2, o3, fun z => absurd z (by decide)⟩⟩
      have zx : Exp [] (lines.take 1) (F.take 1) := ⟨by rw [List.length_take, List.length_take, xx.len], fun k l hl => by
        have hk : k < 1 := by
          have := (List.getElem?_eq_some_iff.mp hl).1
          rw [List.length_take] at this
          omega
        have hk0 : k = 0 := by omega
        subst hk0
        rw [List.getElem?_take_of_lt (by decide)] at hl ⊢
        rw [xx.at_ 0 l hl]
        rw [l0] at hl
        rw [← Option.some.inj hl]
        exact congrArg some (texs_eq (ns := names.take 0) (fun w hw => by rw [List.take_zero] at hw; cases hw) _ o1)⟩
      have s4 : m_law_4 cs (quS ns names lines F (.ow (.fz (.int cell))) (.ow b2) x7 x8 x9 x10 x11) = .nx (laS ns (.ow (.fz (.int cell))) (.ow b2) (.ow (.fz (.lst (WsD [])))) (.ow (.fz (.lst ((lines.take 1).map LD)))) (.ow (.fz (.str (W (srcT names lines))))) (.ow (.fz (.lst ((F.take 1).map fun l => accD (wds l))))) x7 x8 x9 x10 x11) := by
        have d1 : mFz (mLst mNil) (quS ns names lines F (.ow (.fz (.int cell))) (.ow b2) x7 x8 x9 x10 x11) = .ok (.fz (.lst [])) (quS ns names lines F (.ow (.fz (.int cell))) (.ow b2) x7 x8 x9 x10 x11) := own_v (lst_v (xs := []) rfl (by decide))
        have d2 := cut1_q (qfz_v (a := mVar 4) (xs := lines.map LD) (sd := quS ns names lines F (.ow (.fz (.int cell))) (.ow b2) x7 x8 x9 x10 x11) (sd1 := quS ns names lines F (.ow (.fz (.int cell))) (.ow b2) x7 x8 x9 x10 x11) rfl)
        have d3 := cut1_q (qfz_v (a := mVar 6) (xs := F.map fun l => accD (wds l)) (sd := quS ns names lines F (.ow (.fz (.int cell))) (.ow b2) x7 x8 x9 x10 x11) (sd1 := quS ns names lines F (.ow (.fz (.int cell))) (.ow b2) x7 x8 x9 x10 x11) rfl)
        rw [List.map_take, List.map_take]
        exact par3_v d1 d2 d3 ⟨by show 3 < 12; decide, by show 4 < 12; decide, by show 6 < 12; decide⟩
      have s5 : m_law_5 cs (laS ns (.ow (.fz (.int cell))) (.ow b2) (.ow (.fz (.lst (WsD [])))) (.ow (.fz (.lst ((lines.take 1).map LD)))) (.ow (.fz (.str (W (srcT names lines))))) (.ow (.fz (.lst ((F.take 1).map fun l => accD (wds l))))) x7 x8 x9 x10 x11) = .nx (quS ns [] (lines.take 1) (F.take 1) (.ow (.fz (.int cell))) (.ow b2) x7 x8 x9 x10 x11) :=
        set_d (k := 5) (l := (laS ns (.ow (.fz (.int cell))) (.ow b2) (.ow (.fz (.lst (WsD [])))) (.ow (.fz (.lst ((lines.take 1).map LD)))) (.ow (.fz (.str (W (srcT names lines))))) (.ow (.fz (.lst ((F.take 1).map fun l => accD (wds l))))) x7 x8 x9 x10 x11).sl) (d := .str (W (srcT [] (lines.take 1)))) (vwt_v (t := .fz _) (call0_v (xs := [.lst (WsD []), .lst ((lines.take 1).map LD)]) rfl (law_text_ok cs z))) (by show 5 < 12; decide)
      exact ⟨[], lines.take 1, F.take 1, z, zx, seq_nx s4 s5⟩
    · rw [decide_eq_false hb, if_neg Bool.false_ne_true]
      exact ⟨names, lines, F, s, xx, rfl⟩
  obtain ⟨y7, y8, s11⟩ := la_11 cs z (ns := ns) (F := F2) (x1 := .ow (.fz (.int cell))) (x2 := .ow b2) (x7 := x7) (x8 := x8) (x9 := x9) (x10 := x10) (x11 := x11)
  obtain ⟨y9, y10, s18⟩ := la_18 cs z zx (ns := ns) (x1 := .ow (.fz (.int cell))) (x2 := .ow b2) (x7 := y7) (x8 := y8) (x9 := x9) (x10 := x10) (x11 := x11)
  exact ⟨_, _, _, _, _, _, _, _, _, seq_nx s1 (seq_nx s2 (seq_nx s3 (seq_nx s6 (seq_nx s11 s18))))⟩
noncomputable def sideW : List Nat := [115, 105, 100, 101]
noncomputable def roomW : List Nat := [114, 111, 111, 109]
noncomputable def sLines : List (List Tr) := [[.st 102 2, .st 108 1], [.rp [.nm sideW] 4], [.nm roomW, .st 117 1, .st 102 3, .st 100 1, .nm roomW]]
noncomputable def sF : List (List Nd) := [[.st 102 2, .st 108 1], [.rp [.st 102 2, .st 108 1] 4], [.rp [.st 102 2, .st 108 1] 4, .st 117 1, .st 102 3, .st 100 1, .rp [.st 102 2, .st 108 1] 4]]
theorem n2 : TL.numL 2 = [50] := TL.numL_lt (by decide)
theorem n3 : TL.numL 3 = [51] := TL.numL_lt (by decide)
theorem n4 : TL.numL 4 = [52] := TL.numL_lt (by decide)
theorem three {P : Nat → Prop} (h0 : P 0) (h1 : P 1) (h2 : P 2) {k : Nat} (hk : k < 3) : P k := by
  have : k = 0 ∨ k = 1 ∨ k = 2 := by omega
  rcases this with rfl | rfl | rfl
  · exact h0
  · exact h1
  · exact h2
theorem s_src : Src [sideW, roomW] sLines := by
  refine ⟨by decide, fun w hw => ?_, by decide, rfl, fun k l hl => ?_⟩
  · rcases List.mem_cons.mp hw with rfl | hw
    · exact ⟨by decide, by decide, by decide⟩
    · rw [List.mem_singleton.mp hw]
      exact ⟨by decide, by decide, by decide⟩
  · have hk : k < 3 := (List.getElem?_eq_some_iff.mp hl).1
    revert l
    refine three (P := fun k => ∀ l, sLines[k]? = some l → toks ([sideW, roomW].take k) l ∧ tdps l ≤ 12 ∧ (twds l).length ≤ 40 ∧ (k < [sideW, roomW].length → l ≠ [])) ?_ ?_ ?_ hk <;> intro l hl <;> rw [← Option.some.inj hl]
    · refine ⟨by simp [toks, tok, letters], by simp [tdps, tdp], by simp [twds, twd], by simp⟩
    · refine ⟨by simp [toks, tok, letters], by simp [tdps, tdp], by simp [twds, twd], by simp⟩
    · refine ⟨by simp [toks, tok, letters], by simp [tdps, tdp], by simp [twds, twd], by simp⟩
theorem s_exp : Exp [sideW, roomW] sLines sF := by
  refine ⟨rfl, fun k l hl => ?_⟩
  have hk : k < 3 := (List.getElem?_eq_some_iff.mp hl).1
  revert l
  refine three (P := fun k => ∀ l, sLines[k]? = some l → sF[k]? = some (texs (fun w => sF.getD ([sideW, roomW].idxOf w) []) l)) ?_ ?_ ?_ hk <;> intro l hl <;> rw [← Option.some.inj hl]
  · simp [texs, tex, sF]
  · have i : [sideW, roomW].idxOf sideW = 0 := by decide
    simp [texs, tex, i, sF]
  · have i : [sideW, roomW].idxOf roomW = 1 := by decide
    simp [texs, tex, i, sF]
theorem s_text : Str.ofString "side: f2 l\nroom: ( side )4\nroom u f3 d room" = W (srcT [sideW, roomW] sLines) := by
  rw [lit_ _ [115, 105, 100, 101, 58, 32, 102, 50, 32, 108, 10, 114, 111, 111, 109, 58, 32, 40, 32, 115, 105, 100, 101, 32, 41, 52, 10, 114, 111, 111, 109, 32, 117, 32, 102, 51, 32, 100, 32, 114, 111, 111, 109] rfl]
  simp [srcT, rowsT, rowWs, sLines, sideW, roomW, twds, twd, lw, n2, n3, n4, TL.joinL, List.range, List.range.loop]
theorem s_prog : PrOk (sF.getD [sideW, roomW].length []) := by
  show PrOk [.rp [.st 102 2, .st 108 1] 4, .st 117 1, .st 102 3, .st 100 1, .rp [.st 102 2, .st 108 1] 4]
  exact ⟨by simp [noks, nok, letters], by simp [ndps, ndp], by simp [wds, wd]⟩
theorem s_words : textOf (wds (sF.getD [sideW, roomW].length [])) = Str.ofString "( f2 l )4 u f3 d ( f2 l )4" := by
  rw [textW, lit_ "( f2 l )4 u f3 d ( f2 l )4" [40, 32, 102, 50, 32, 108, 32, 41, 52, 32, 117, 32, 102, 51, 32, 100, 32, 40, 32, 102, 50, 32, 108, 32, 41, 52] rfl]
  show W (TL.joinL [32] (wds [.rp [.st 102 2, .st 108 1] 4, .st 117 1, .st 102 3, .st 100 1, .rp [.st 102 2, .st 108 1] 4])) = _
  simp [wds, wd, lw, n2, n3, n4, TL.joinL]
theorem e_src : Src [] [[]] := ⟨List.nodup_nil, (by simp), by decide, rfl, fun k l hl => by
  have hk : k < 1 := (List.getElem?_eq_some_iff.mp hl).1
  have : k = 0 := by omega
  subst this
  rw [← Option.some.inj hl]
  exact ⟨by rw [toks]; exact True.intro, by rw [tdps]; exact Nat.zero_le _, by rw [twds]; exact Nat.zero_le _, fun z => absurd z (by decide)⟩⟩
theorem e_exp : Exp [] [[]] [[]] := ⟨rfl, fun k l hl => by
  have hk : k < 1 := (List.getElem?_eq_some_iff.mp hl).1
  have : k = 0 := by omega
  subst this
  rw [← Option.some.inj hl, texs]
  rfl⟩
theorem e_prog : PrOk [] := ⟨by rw [noks]; exact True.intro, by rw [ndps]; exact Nat.zero_le _, by rw [wds]; exact Nat.zero_le _⟩
theorem e_text : W (srcT [] [[]]) = W [] := by
  simp [srcT, rowsT, rowWs, twds, TL.joinL, List.range, List.range.loop]
theorem la_end (cs : Nat → Addr) {ns : List Int} {x1 x2 x3 x4 x5 x6 x7 x8 x9 x10 x11 : S} : ∃ sd, sSeq (m_law_20 cs) (m_law_21 cs) (laS ns x1 x2 x3 x4 x5 x6 x7 x8 x9 x10 x11) = .rt (.fz (.bl true)) sd := by
  have s20 : m_law_20 cs (laS ns x1 x2 x3 x4 x5 x6 x7 x8 x9 x10 x11) = .nx (laS ns x1 x2 x3 x4 x5 x6 x7 x8 x9 x10 (.ow (.fz (.str (W (srcT [sideW, roomW] sLines)))))) := by
    rw [← s_text]
    rfl
  refine ⟨laS ns x1 x2 x3 x4 x5 x6 x7 x8 x9 x10 (.ow (.fz (.str (W (srcT [sideW, roomW] sLines))))), seq_nx s20 (ret_d ?_)⟩
  generalize hS : laS ns x1 x2 x3 x4 x5 x6 x7 x8 x9 x10 (.ow (.fz (.str (W (srcT [sideW, roomW] sLines))))) = sd
  have v11 : mVar 11 sd = .ok (.str (W (srcT [sideW, roomW] sLines))) sd := by rw [← hS]; rfl
  have r1 := vwt_v (call0_v (f := m_read_source cs) (cons_v v11 (r := mNil) rfl) (read_ok s_src s_exp cs s_prog))
  have pt := prop_text cs r1
  rw [s_words] at pt
  rw [andv_t (op_v (f := dEq) pt (b := mC (.str (Str.ofString "( f2 l )4 u f3 d ( f2 l )4"))) (y := .str (Str.ofString "( f2 l )4 u f3 d ( f2 l )4")) rfl (by unfold dEq; rw [eqB_str, decide_eq_true rfl]; rfl))]
  have r2 := vwt_v (call0_v (f := m_read_source cs) (a := mCons (mC (.str "")) mNil) (sd := sd) (sd1 := sd) (xs := [.str (W (srcT [] [[]]))]) (by rw [e_text, ← lit_nil]; rfl) (read_ok e_src e_exp cs e_prog))
  have r3 := vwt_v (prog_make cs (l := []) e_prog (a := mCons (mC (.str "")) mNil) (sd := sd) (sd1 := sd) (by rw [wds, textOf_nil, ← lit_nil]; rfl))
  exact eq_o cs (l := []) r2 r3
theorem la_mem {ns : List Int} {d : D} (h : d ∈ cutL (ns.map D.int) none (some ((12 : Nat) : Int)) ++ [.int 0]) : ∃ i, d = .int i ∧ (i ∈ ns ∨ i = 0) := by
  rcases List.mem_append.mp h with h | h
  · rw [cut_toN] at h
    obtain ⟨i, hi, rfl⟩ := List.mem_map.mp (List.mem_of_mem_take h)
    exact ⟨i, rfl, .inl hi⟩
  · exact ⟨0, List.mem_singleton.mp h, .inr rfl⟩
theorem law_true (cs : Nat → Addr) (hc : CsOk cs) (ns : List Int) (hl : ns.length ≤ 63) (hb : ∀ z ∈ ns, Builtin.Int.intBits z ≤ 1048576) : ∃ sd, m_law cs [.fz (.scr ns)] = .ok (.fz (.bl true)) sd := by
  let L := fun (r : List S) => (⟨.ow (.fz (.scr ns)) :: r, [.fz (.scr ns)]⟩ : SD)
  have hcl : (cutL (ns.map D.int) none (some ((12 : Nat) : Int))).length ≤ 63 := by
    rw [cut_toN, List.length_take, List.length_map]
    omega
  have it := view_v (cat_v (a := qNew (mCutS (mVar 0) oNone (oSome (mC (.int 12))))) (sd := laS ns .un .un .un .un .un .un .un .un .un .un .un) (sd1 := laS ns .un .un .un .un .un .un .un .un .un .un .un) (xs := cutL (ns.map D.int) none (some ((12 : Nat) : Int))) (qnew_v rfl) (qnew_v (lst_o (a := mCons (mC (.int 0)) mNil) (sd1 := laS ns .un .un .un .un .un .un .un .un .un .un .un) (xs := [.int 0]) rfl (by decide))) (by rw [List.length_singleton]; omega))
  obtain ⟨sd', w19, _, x1, x2, x3, x4, x5, x6, x7, x8, x9, x10, x11, rfl⟩ := sFor_inv (it := iLst (mView (mCat (qNew (mCutS (mVar 0) (oNone) (oSome (mC (.int 12))))) (qNew (mLst (mCons (mC (.int 0)) (mNil))))))) (g := tgN 1) (body := m_law_b3 cs) (sd := laS ns .un .un .un .un .un .un .un .un .un .un .un) (cutL (ns.map D.int) none (some ((12 : Nat) : Int)) ++ [.int 0]) (fun d => d)
    (fun r sd => (∀ d ∈ r, ∃ i, d = .int i ∧ (i ∈ ns ∨ i = 0)) ∧ ∃ x1 x2 x3 x4 x5 x6 x7 x8 x9 x10 x11, sd = laS ns x1 x2 x3 x4 x5 x6 x7 x8 x9 x10 x11) (by
      rw [ilst_v it, List.map_id'']
      intro x; rfl) ⟨fun d hd => la_mem hd, _, _, _, _, _, _, _, _, _, _, _, rfl⟩ fun d r sd hI => by
      obtain ⟨hr, x1, x2, x3, x4, x5, x6, x7, x8, x9, x10, x11, rfl⟩ := hI
      obtain ⟨i, rfl, hi⟩ := hr d List.mem_cons_self
      have hcell : i < 2 ^ 1048576 := by
        rcases hi with hi | rfl
        · exact bits_lt2 (hb i hi)
        · exact Int.pow_pos (by decide)
      obtain ⟨y2, y3, y4, y5, y6, y7, y8, y9, y10, e⟩ := la_cell cs (ns := ns) hcell (x2 := x2) (x3 := x3) (x4 := x4) (x5 := x5) (x6 := x6) (x7 := x7) (x8 := x8) (x9 := x9) (x10 := x10) (x11 := x11)
      exact ⟨_, _, rfl, .inl e, fun d hd => hr d (List.mem_cons_of_mem _ hd), _, _, _, _, _, _, _, _, _, _, _, rfl⟩
  obtain ⟨sd, e⟩ := la_end cs (ns := ns) (x1 := x1) (x2 := x2) (x3 := x3) (x4 := x4) (x5 := x5) (x6 := x6) (x7 := x7) (x8 := x8) (x9 := x9) (x10 := x10) (x11 := x11)
  exact ⟨_, def_rt (sd0 := laS ns .un .un .un .un .un .un .un .un .un .un .un) rfl (seq_nx (a := m_law_19 cs) w19 e)⟩
theorem walk {l : PySem.W.OpenLaw} {q : Program} {loose : List Str} {XP : (Str → Option Value) → Heap → Prop} {YP : World → Heap → Prop} {d : DefRec} {K : Params → PySem.W.Frag} (hn : l.most = some 63) (hdf : d.params.defaults = [])
    (hY : ∀ (w : World) (h : Heap), YP w h → (K w.params).In h)
    (F : ∀ (w : World) (mg : Str → Option Value) (fa : Addr) (h : Heap), (K w.params).In h → h.Ns mainGlobals mg → mg d.name = some (.ref fa) →
      ∃ fd : FuncData, (∀ (s : Shared) (u : Value), BindsTo s fd ⟨[u], []⟩ [("script", u)]) ∧ ∀ base : Heap, (K w.params).In base → base.Ns mainGlobals mg → ∃ cs : Nat → Addr, CsOk cs ∧ FnG l.prog w (K w.params) mg base (L2.CX l.prog w) 38 fa fd ["script"] (spD (K w.params) 1 (m_law cs))) :
    PySem.W.WalkO q loose XP YP l.row.toRowW d [] (fun f vs => PySem.call f vs) :=
  walk_G (n := 63) (k := 38) (x := "script") (sp := fun w vs H Q E => (∀ cs, CsOk cs → spD (K w.params) 1 (m_law cs) vs H Q E)) hn (by decide) hdf ⟨⟨rfl, by decide, by decide⟩, rfl⟩ hY (fun w mg fa h a b c => by
    obtain ⟨fd, h1, h2⟩ := F w mg fa h a b c
    refine ⟨fd, h1, fun base hb hg => ?_⟩
    obtain ⟨cs, hc, h3⟩ := h2 base hb hg
    exact ⟨fun vs H Q E hs => h3.len vs H Q E (hs cs hc), fun A out s H args us vs Q E r e0 bd rel hs => h3.run A out s H args us vs Q E r e0 bd rel (hs cs hc)⟩) fun w H a ns hl hb hS cs hc => law_sp hS (law_true cs hc ns hl hb)
end Lw
open PySem PySem.W PyProof.Rows
set_option maxRecDepth 100000 in
set_option maxHeartbeats 0 in
theorem PySem.Challenge.cw_plotpens_k07_sources_read_holds : PySem.Challenge.rw_plotpens_k07_sources_read.Holds := by
  w_on; o_law; k_head; (case hw => w_witness2)
  k_fill
  refine Lw.walk (l := PySem.Challenge.rw_plotpens_k07_sources_read) rfl rfl (fun w h Y => PySem.W.kIn_of Y) ?F
  case F =>
    intro w mg fa h KX G hmg
    refine' Lw.all_mk KX G hmg ?g_Program ?a1 ?l1 ?c1 ?k1 ?a2 ?l2 ?c2 ?k2 ?a3 ?l3 ?c3 ?k3 ?a4 ?l4 ?c4 ?k4 ?a5 ?l5 ?c5 ?k5 ?a6 ?l6 ?c6 ?k6 ?a7 ?i7 ?l7 ?c7 ?k7 ?a8 ?l8 ?c8 ?k8 ?a9 ?l9 ?c9 ?k9 ?a10 ?l10 ?c10 ?k10 ?a11 ?l11 ?c11 ?k11 ?a12 ?l12 ?c12 ?k12 ?a13 ?l13 ?c13 ?k13 ?a14 ?l14 ?c14 ?k14 ?a15 ?l15 ?c15 ?k15 ?a16 ?l16 ?c16 ?k16 ?a17 ?l17 ?c17 ?k17 ?pa18 ?pb18 ?pc18 ?pd18 ?l18 ?c18 ?k18 ?a19 ?l19 ?c19 ?k19 ?a20 ?l20 ?c20 ?k20 ?a21 ?l21 ?c21 ?k21 ?a22 ?l22 ?c22 ?k22 ?a23 ?l23 ?c23 ?k23 ?a24 ?i24 ?l24 ?c24 ?k24 ?a25 ?l25 ?c25 ?k25 ?a26 ?l26 ?c26 ?k26 ?a27 ?l27 ?c27 ?k27 ?a28 ?l28 ?c28 ?k28 ?a29 ?l29 ?c29 ?k29 ?pa30 ?pb30 ?pc30 ?pd30 ?l30 ?c30 ?k30 ?a31 ?l31 ?c31 ?k31 ?a32 ?i32 ?l32 ?c32 ?k32 ?a33 ?l33 ?c33 ?k33 ?z_all ?z_enumerate ?z_int ?z_isinstance ?z_len ?z_max ?z_range ?z_str ?z_tuple ?v_DIGITS ?v_LETTERS ?v_MOST_DEPTH ?v_MOST_DIGITS ?v_MOST_LINES ?v_MOST_TIMES ?v_MOST_WORDS ?v_SMALL ?pg_Program ?hd_Program ?po_Program ?sa_Program ?ha_Program ?hn_Program ?ht_Program ?hm_Program ?mk_Program ?kc_Program ?n_Program_own_depth ?n_Program_own_length ?n_Program_own_nodes ?n_Program_own_text ?n_Program_own_words ?ic_Program ?tc_Program ?is_Program_NoneType ?is_Program_bool ?is_Program_int ?is_Program_str ?is_Program_tuple ?is_Program_list ?is_Program_dict ?it_Program_Program ?ne_Program ?ob_Program ?nf_Program_NoneType ?nf_Program_bool ?nf_Program_int ?nf_Program_str ?nf_Program_tuple ?nf_Program_list ?nf_Program_dict ?ng_Program_Program
    (case g_Program => k_is); (case a1 => k_is); (case l1 => k_is); (case c1 => k_is); (case k1 => k_is); (case a2 => k_is); (case l2 => k_is); (case c2 => k_is)
    (case k2 => k_is); (case a3 => k_is); (case l3 => k_is); (case c3 => k_is); (case k3 => k_is); (case a4 => k_is); (case l4 => k_is); (case c4 => k_is)
    (case k4 => k_is); (case a5 => k_is); (case l5 => k_is); (case c5 => k_is); (case k5 => k_is); (case a6 => k_is); (case l6 => k_is); (case c6 => k_is)
    (case k6 => k_is); (case a7 => k_is); (case i7 => k_is); (case l7 => k_is); (case c7 => k_is); (case k7 => k_is); (case a8 => k_is); (case l8 => k_is)
    (case c8 => k_is); (case k8 => k_is); (case a9 => k_is); (case l9 => k_is); (case c9 => k_is); (case k9 => k_is); (case a10 => k_is); (case l10 => k_is)
    (case c10 => k_is); (case k10 => k_is); (case a11 => k_is); (case l11 => k_is); (case c11 => k_is); (case k11 => k_is); (case a12 => k_is); (case l12 => k_is)
    (case c12 => k_is); (case k12 => k_is); (case a13 => k_is); (case l13 => k_is); (case c13 => k_is); (case k13 => k_is); (case a14 => k_is); (case l14 => k_is)
    (case c14 => k_is); (case k14 => k_is); (case a15 => k_is); (case l15 => k_is); (case c15 => k_is); (case k15 => k_is); (case a16 => k_is); (case l16 => k_is)
    (case c16 => k_is); (case k16 => k_is); (case a17 => k_is); (case l17 => k_is); (case c17 => k_is); (case k17 => k_is); (case pa18 => k_is); (case pb18 => k_is)
    (case pc18 => k_is); (case pd18 => k_is); (case l18 => k_is); (case c18 => k_is); (case k18 => k_is); (case a19 => k_is); (case l19 => k_is); (case c19 => k_is)
    (case k19 => k_is); (case a20 => k_is); (case l20 => k_is); (case c20 => k_is); (case k20 => k_is); (case a21 => k_is); (case l21 => k_is); (case c21 => k_is)
    (case k21 => k_is); (case a22 => k_is); (case l22 => k_is); (case c22 => k_is); (case k22 => k_is); (case a23 => k_is); (case l23 => k_is); (case c23 => k_is)
    (case k23 => k_is); (case a24 => k_is); (case i24 => k_is); (case l24 => k_is); (case c24 => k_is); (case k24 => k_is); (case a25 => k_is); (case l25 => k_is)
    (case c25 => k_is); (case k25 => k_is); (case a26 => k_is); (case l26 => k_is); (case c26 => k_is); (case k26 => k_is); (case a27 => k_is); (case l27 => k_is)
    (case c27 => k_is); (case k27 => k_is); (case a28 => k_is); (case l28 => k_is); (case c28 => k_is); (case k28 => k_is); (case a29 => k_is); (case l29 => k_is)
    (case c29 => k_is); (case k29 => k_is); (case pa30 => k_is); (case pb30 => k_is); (case pc30 => k_is); (case pd30 => k_is); (case l30 => k_is); (case c30 => k_is)
    (case k30 => k_is); (case a31 => k_is); (case l31 => k_is); (case c31 => k_is); (case k31 => k_is); (case a32 => k_is); (case i32 => k_is); (case l32 => k_is)
    (case c32 => k_is); (case k32 => k_is); (case a33 => k_is); (case l33 => k_is); (case c33 => k_is); (case k33 => k_is); (case z_all => k_is); (case z_enumerate => k_is)
    (case z_int => k_is); (case z_isinstance => k_is); (case z_len => k_is); (case z_max => k_is); (case z_range => k_is); (case z_str => k_is); (case z_tuple => k_is); (case v_DIGITS => k_is)
    (case v_LETTERS => k_is); (case v_MOST_DEPTH => k_is); (case v_MOST_DIGITS => k_is); (case v_MOST_LINES => k_is); (case v_MOST_TIMES => k_is); (case v_MOST_WORDS => k_is); (case v_SMALL => k_is); (case pg_Program => k_is)
    (case hd_Program => k_is); (case po_Program => k_is); (case sa_Program => k_is); (case ha_Program => k_is); (case hn_Program => k_is); (case ht_Program => k_is); (case hm_Program => k_is); (case mk_Program => k_is)
    (case kc_Program => k_is); (case n_Program_own_depth => k_is); (case n_Program_own_length => k_is); (case n_Program_own_nodes => k_is); (case n_Program_own_text => k_is); (case n_Program_own_words => k_is); (case ic_Program => k_is); (case tc_Program => k_is)
    (case is_Program_NoneType => k_is); (case is_Program_bool => k_is); (case is_Program_int => k_is); (case is_Program_str => k_is); (case is_Program_tuple => k_is); (case is_Program_list => k_is); (case is_Program_dict => k_is); (case it_Program_Program => k_is)
    (case ne_Program => k_is); (case ob_Program => k_is); (case nf_Program_NoneType => k_is); (case nf_Program_bool => k_is); (case nf_Program_int => k_is); (case nf_Program_str => k_is); (case nf_Program_tuple => k_is); (case nf_Program_list => k_is)
    (case nf_Program_dict => k_is); (case ng_Program_Program => k_is)
