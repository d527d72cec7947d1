import PyProof.Rows.All
import HandS.Deep
import HandS.Comp
import HandS.Iter
import HandS.Dict
import HandS.DictTup
import KE.KDictWalk
import KE.KDictKeyed
import KE.KDictDisplayH
import Wide.All
import OpenK.AllK
import Wide.FinOn
import HandS.ForMost
import HandS.Wide
import HandS.IsInst
import HandS.HeadHook2
import HandS.HeadEnd
import HandS.Head2
import HandS.More
import HandS.TupAny
import HandS.Text
import HandS.Conv
import HandS.SortInts
import HandS.RevRange
import HandS.Rev
import HandS.SortRule
import KE.DataCmp
import KE.SortData
import HandS.Zip
import HandS.TryOnly
import PyProof.Rows.SortShellK
import PyProof.Rows.SortStr
import HandS.SortOrd
import KE.KSortTup
import KE.KSortTupAny
import KE.LtData
import HandS.TupMul
import HandS.Exc
import HandS.ExcOwn
import HandS.ExcIs
import HandS.WordsExc
import PyProof.ExcBaseAll.ValueError
import PyProof.StrLawsChain
import PyProof.StrLawsTight
import KE.SortKeyHeap
import HandS.SortKw
import HandS.Small
import HandS.Strs
import HandS.SetKeys
import PyProof.Rows.SetFrom
import KE.KDictCopyH
import HandS.Style
import HandS.ExcInit
import HandS.ExcField
import HandS.TryMany
import HandS.ForDict
import KE.KExcIs
import KE.KIsAll
import HandS.ForSpec
import HandS.SetFor
import KE.KEqDict
import HandS.HotCalls
import KE.KIntText
import KE.IntTextLaws
import PySem.Challenge.RW_bores_k13_refusals_apart
set_option Elab.async false
set_option linter.all false
set_option maxRecDepth 100000
set_option maxHeartbeats 4000000
/-! Dicts whose keys are plain data. -/
namespace L2
open PySem PySem.Spec PyProof.Rows
/-! ### keys -/
mutual
def nkOf : PyData → NestedKey
  | .none => .none
  | .bool b => .num (if b = true then 1 else 0)
  | .int i => .num i
  | .str x => .text x
  | .tuple ds => .tup (nkOfs ds)
  | .list _ => .none
  | .dict _ => .none
def nkOfs : List PyData → List NestedKey
  | [] => []
  | d :: ds => nkOf d :: nkOfs ds
end
mutual
def kOk : PyData → Bool
  | .list _ => false
  | .dict _ => false
  | .tuple ds => kOks ds
  | _ => true
def kOks : List PyData → Bool
  | [] => true
  | d :: ds => kOk d && kOks ds
end
/-- data that may be a key -/
def keyOk (d : PyData) : Prop := kOk d = true ∧ (nkOf d).depth ≤ 8
section
variable {X : Cx} {pins : List (Addr × Obj)} {σ : St} {H : Hp} {s : Shared}
mutual
theorem nk_is (I : Inv X pins σ H s) : ∀ (d : PyData) (v : V) (u : Value), Dp X.K H v d → kOk d = true → RelV v u → NestedIs s.heap (nkOf d) u
  | .none, _, _, h, _, r => by
    cases h
    cases r
    exact .none
  | .bool b, _, _, h, _, r => by
    cases h
    cases r
    exact .bool rfl
  | .int i, _, _, h, _, r => by
    cases h
    obtain ⟨t, rfl⟩ := r
    exact .int _ _
  | .str x, _, _, h, _, r => by
    cases h
    obtain ⟨t, rfl⟩ := r
    exact .text _ _
  | .tuple ds, _, _, h, k, r => by
    cases h with
    | tup hs ha =>
      cases r
      obtain ⟨its, rv, ⟨o, h1, h2, n, h3⟩, _⟩ := I.tuple hs
      exact .tup h1 h2 h3 (by simpa using nks_is I ds _ _ ha k rv)
  | .list _, _, _, _, k, _ => by cases k
  | .dict _, _, _, _, k, _ => by cases k
theorem nks_is (I : Inv X pins σ H s) : ∀ (ds : List PyData) (vs : List V) (us : List Value), DpAll X.K H vs ds → kOks ds = true → Vals vs us → NestedAll s.heap (nkOfs ds) us
  | [], _, _, h, _, r => by
    cases h
    cases r
    exact .nil
  | d :: ds, _, _, h, k, r => by
    cases h with
    | cons h1 h2 =>
      cases r with
      | cons r1 r2 =>
        have k : (kOk d && kOks ds) = true := k
        obtain ⟨k1, k2⟩ := Bool.and_eq_true_iff.mp k
        exact .cons (nk_is I d _ _ h1 k1 r1) (nks_is I ds _ _ h2 k2 r2)
end
/-- the tuple at b is a key -/
def KeyAt (K : PySem.W.Frag) (H : Hp) (k : NestedKey) (b : Addr) : Prop := ∃ d, Dp K H (.ref b) d ∧ keyOk d ∧ nkOf d = k
theorem KeyAt.is (I : Inv X pins σ H s) {k : NestedKey} {b : Addr} (h : KeyAt X.K H k b) : (nestedKind X.prog X.w).is s.heap k b := (by
  obtain ⟨d, h1, h2, rfl⟩ := h
  exact ⟨nk_is I d _ _ h1 h2.1 rfl, h2.2⟩
  )
end
/-! ### dicts -/
def zip3 (kb : List (NestedKey × Addr)) (us : List Value) : List (NestedKey × Addr × Value) := (kb.zip us).map fun x => (x.1.1, x.1.2, x.2)
def NkO (P : Program) (w : World) (p : Addr) (kb : List (NestedKey × Addr)) (vs : List V) : HO := .ext fun h => (p == sysModules) = false ∧ kb.length ≤ sizeLine ∧
  ∃ (us : List Value) (o : Obj) (es : Array DictEntry) (ep : Nat), Vals vs us ∧ kb.length = us.length ∧ h.get? p = some o ∧ o.ExactDict ∧ o.data = .dict es ep ∧ es.toList = (zip3 kb us).map (entryOfKey (nestedKind P w)) ∧ (kb.map (·.1)).Nodup
section
variable {X : Cx} {pins : List (Addr × Obj)} {σ : St} {H : Hp} {s : Shared} {a b : Addr} {k : NestedKey} {kb kb' : List (NestedKey × Addr)} {vs vs' : List V}
def KeysAt (K : PySem.W.Frag) (H : Hp) (kb : List (NestedKey × Addr)) : Prop := ∀ x ∈ kb, KeyAt K H x.1 x.2
theorem KeysAt.is (I : Inv X pins σ H s) (h : KeysAt X.K H kb) : ∀ x ∈ kb, (nestedKind X.prog X.w).is s.heap x.1 x.2 := fun x hx => (h x hx).is I
end
end L2

/-! The data layer: readings over pure data. G: the frozen ghost heap; owned things by their addresses. -/
namespace Dl
open PySem PySem.Spec PyProof.Rows L2

/-! ### data over a growing heap -/
theorem same_t {K : PySem.W.Frag} {G G' : Hp} {a : Addr} {xs : List V} (e : Same G G') (h : SqT K G a xs) : SqT K G' a xs := (by
  rcases h with (h | ⟨o, h⟩) | h
  · exact .inl (.inl (e _ _ h))
  · exact .inl (.inr ⟨o, e _ _ h⟩)
  · exact .inr h
  )
mutual
theorem dp_mono {K : PySem.W.Frag} {G G' : Hp} (e : Same G G') : ∀ (d : PyData) (v : V), Dp K G v d → Dp K G' v d
  | .none, _, h => by cases h; exact .non
  | .bool b, _, h => by cases h; exact .bl b
  | .int i, _, h => by cases h; exact .int i
  | .str x, _, h => by cases h; exact .str x
  | .list ds, _, h => by
    cases h with
    | lst hs ha => exact .lst (Same.seq e hs) (dpa_mono e ds _ ha)
  | .tuple ds, _, h => by
    cases h with
    | tup hs ha => exact .tup (same_t e hs) (dpa_mono e ds _ ha)
  | .dict _, _, h => by cases h
theorem dpa_mono {K : PySem.W.Frag} {G G' : Hp} (e : Same G G') : ∀ (ds : List PyData) (vs : List V), DpAll K G vs ds → DpAll K G' vs ds
  | [], _, h => by cases h; exact .nil
  | d :: ds, _, h => by
    cases h with
    | cons h1 h2 => exact .cons (dp_mono e d _ h1) (dpa_mono e ds _ h2)
end
section
variable {K : PySem.W.Frag} {G : Hp}
theorem dpa_len : ∀ {ds : List PyData} {vs : List V}, DpAll K G vs ds → vs.length = ds.length
  | [], _, h => by cases h; rfl
  | d :: ds, _, h => by
    cases h with
    | cons h1 h2 => rw [List.length_cons, List.length_cons, dpa_len h2]
theorem dpa_get : ∀ {ds : List PyData} {vs : List V} {i : Nat} {d : PyData}, DpAll K G vs ds → ds[i]? = some d → ∃ v, vs[i]? = some v ∧ Dp K G v d
  | [], _, i, _, h, e => by simp at e
  | d :: ds, _, 0, _, h, e => by
    cases h with
    | cons h1 h2 => simp at e; subst e; exact ⟨_, rfl, h1⟩
  | d :: ds, _, i + 1, _, h, e => by
    cases h with
    | cons h1 h2 =>
      obtain ⟨v, q1, q2⟩ := dpa_get (i := i) h2 (by simpa using e)
      exact ⟨v, by simpa using q1, q2⟩
theorem dpa_app : ∀ {ds es : List PyData} {vs us : List V}, DpAll K G vs ds → DpAll K G us es → DpAll K G (vs ++ us) (ds ++ es)
  | [], _, _, _, h, h' => by cases h; exact h'
  | d :: ds, _, _, _, h, h' => by
    cases h with
    | cons h1 h2 => exact .cons h1 (dpa_app h2 h')
theorem dpa_set : ∀ {ds : List PyData} {vs : List V} {i : Nat} {v : V} {d : PyData}, DpAll K G vs ds → Dp K G v d → DpAll K G (vs.set i v) (ds.set i d)
  | [], _, i, _, _, h, _ => by cases h; exact .nil
  | d :: ds, _, 0, _, _, h, q => by
    cases h with
    | cons h1 h2 => exact .cons q h2
  | d :: ds, _, i + 1, _, _, h, q => by
    cases h with
    | cons h1 h2 => exact .cons h1 (dpa_set h2 q)
theorem dpa_take : ∀ {ds : List PyData} {vs : List V} (n : Nat), DpAll K G vs ds → DpAll K G (vs.take n) (ds.take n)
  | _, _, 0, h => .nil
  | [], _, n + 1, h => by cases h; exact .nil
  | d :: ds, _, n + 1, h => by
    cases h with
    | cons h1 h2 => exact .cons h1 (dpa_take n h2)
theorem dpa_drop : ∀ {ds : List PyData} {vs : List V} (n : Nat), DpAll K G vs ds → DpAll K G (vs.drop n) (ds.drop n)
  | _, _, 0, h => h
  | [], _, n + 1, h => by cases h; exact .nil
  | d :: ds, _, n + 1, h => by
    cases h with
    | cons h1 h2 => exact dpa_drop n h2
theorem dpa_ints : ∀ (ns : List Int), DpAll K G (ns.map V.int) (ns.map PyData.int)
  | [] => .nil
  | n :: ns => .cons (.int n) (dpa_ints ns)
theorem dpa_bls_inv : ∀ {ns : List Bool} {vs : List V}, DpAll K G vs (ns.map PyData.bool) → vs = ns.map V.bl
  | [], _, h => by cases h; rfl
  | n :: ns, _, h => by
    cases h with
    | cons h1 h2 =>
      cases h1
      rw [List.map_cons, dpa_bls_inv h2]
theorem dpa_strs_inv : ∀ {ns : List Str} {vs : List V}, DpAll K G vs (ns.map PyData.str) → vs = ns.map V.str
  | [], _, h => by cases h; rfl
  | n :: ns, _, h => by
    cases h with
    | cons h1 h2 =>
      cases h1
      rw [List.map_cons, dpa_strs_inv h2]
theorem dpa_strs : ∀ (ns : List Str), DpAll K G (ns.map V.str) (ns.map PyData.str)
  | [] => .nil
  | n :: ns => .cons (.str n) (dpa_strs ns)
end

/-! ### owned things -/
/-- a tuple, locked or not -/
def isTup : HO → Bool
  | .tup _ => true
  | .frz _ u => isTup u
  | _ => false
def tupAt (H : Hp) (a : Addr) : Prop := ∃ o, H a = some o ∧ isTup o = true
/-- an owned thing of any kind -/
structure ResG where
  P : PySem.W.Frag → Hp → Hp → V → List Addr → Prop
  grow : ∀ K G G' H v A, P K G H v A → Same G G' → P K G' H v A
  loc : ∀ K G H H' v A, P K G H v A → (∀ a ∈ A, H' a = H a) → P K G H' v A
  here : ∀ K G H v A, P K G H v A → ∀ a ∈ A, H a ≠ none
  nt : ∀ K G H v A, P K G H v A → ∀ a ∈ A, ∀ o, H a = some o → isTup o = false
/-- a tree of things of one's own: data, lists, tuples, dicts whose keys are flat tuples, instances -/
inductive OT where
  | dat (x : PyData)
  | lst (ts : List OT)
  | tup (ts : List OT)
  | dic (P : Program) (w : World) (ks : List PyData) (ts : List OT)
  | obj (C : Str) (fs : List Str) (ts : List OT)
inductive Res where
  | lst (ds : List PyData)
  | lstP (P : List PyData → Prop)
  | lls (dss : List (List PyData))
  | gen (R : ResG)
  | dic (kvs : List (PyData × PyData))
  | tr (t : OT)
def OwnL (K : PySem.W.Frag) (G H : Hp) (v : V) (A : List Addr) (ds : List PyData) : Prop := ∃ p vs, v = .ref p ∧ A = [p] ∧ H p = some (.lst vs) ∧ DpAll K G vs ds
/-- lists of one's own, one behind the other -/
inductive OwnLs (K : PySem.W.Frag) (G H : Hp) : List Addr → List (List PyData) → Prop
  | nil : OwnLs K G H [] []
  | cons {p : Addr} {vs : List V} {ds : List PyData} {ps : List Addr} {dss : List (List PyData)} : H p = some (.lst vs) → DpAll K G vs ds → OwnLs K G H ps dss → OwnLs K G H (p :: ps) (ds :: dss)
/-- a list of them -/
def OwnLL (K : PySem.W.Frag) (G H : Hp) (v : V) (A : List Addr) (dss : List (List PyData)) : Prop := ∃ p ps, v = .ref p ∧ A = p :: ps ∧ H p = some (.lst (ps.map V.ref)) ∧ OwnLs K G H ps dss
def keyD : L2.Key → PyData
  | .inl i => .int i
  | .inr x => .str x
/-- a flat tuple of the heap, if the data is one -/
def TupV (G : Hp) (v : V) (d : PyData) : Prop := ∀ ks : List L2.Key, d = .tuple (ks.map keyD) → ∃ b, v = .ref b ∧ G b = some (.tup (ks.map L2.kV))
theorem TupV.mono {G G' : Hp} {v : V} {d : PyData} (h : TupV G v d) (e : Same G G') : TupV G' v d := fun ks z => let ⟨b, e1, e2⟩ := h ks z; ⟨b, e1, e _ _ e2⟩
/-- a dict's entries: the keys flat tuples -/
inductive DicE (K : PySem.W.Frag) (G : Hp) : List (List L2.Key × V) → List (PyData × PyData) → Prop
  | nil : DicE K G [] []
  | cons {k : List L2.Key} {v : V} {d : PyData} {ws : List (List L2.Key × V)} {kvs : List (PyData × PyData)} : Dp K G v d → TupV G v d → DicE K G ws kvs → DicE K G ((k, v) :: ws) ((.tuple (k.map keyD), d) :: kvs)
theorem dicE_mono {K : PySem.W.Frag} {G G' : Hp} {ws : List (List L2.Key × V)} {kvs : List (PyData × PyData)} (h : DicE K G ws kvs) (e : Same G G') : DicE K G' ws kvs := (by
  induction h with
  | nil => exact .nil
  | cons h1 hs _ ih => exact .cons (dp_mono e _ _ h1) (hs.mono e) ih
  )
/-- a dict of one's own -/
def OwnD (K : PySem.W.Frag) (G H : Hp) (v : V) (A : List Addr) (kvs : List (PyData × PyData)) : Prop := ∃ p ws, v = .ref p ∧ A = [p] ∧ H p = some (.dT ws) ∧ DicE K G ws kvs
mutual
inductive OwnT (K : PySem.W.Frag) (G H : Hp) : OT → V → List Addr → Prop
  | dat {x : PyData} {v : V} : Dp K G v x → OwnT K G H (.dat x) v []
  | lst {p : Addr} {ts : List OT} {vs : List V} {A : List Addr} : H p = some (.lst vs) → OwnTs K G H ts vs A → OwnT K G H (.lst ts) (.ref p) (p :: A)
  | tup {p : Addr} {ts : List OT} {vs : List V} {A : List Addr} : G p = some (.tup vs) → OwnTs K G H ts vs A → OwnT K G H (.tup ts) (.ref p) A
  | dic {P : Program} {w : World} {p : Addr} {kb : List (NestedKey × Addr)} {ks : List PyData} {ts : List OT} {vs : List V} {A : List Addr} : H p = some (NkO P w p kb vs) → (kb.length = vs.length ∧ DpAll K G (kb.map fun x => .ref x.2) ks ∧ (∀ k ∈ ks, keyOk k) ∧ kb.map (·.1) = ks.map nkOf) → OwnTs K G H ts vs A → OwnT K G H (.dic P w ks ts) (.ref p) (p :: A)
  | obj {p dx : Addr} {C : Str} {fs : List Str} {ts : List OT} {vs : List V} {A : List Addr} : H p = some (.ins (He.ga K C) dx (fs.zip vs)) → H dx = some (.own p) → fs.length = vs.length → OwnTs K G H ts vs A → OwnT K G H (.obj C fs ts) (.ref p) (p :: dx :: A)
inductive OwnTs (K : PySem.W.Frag) (G H : Hp) : List OT → List V → List Addr → Prop
  | nil : OwnTs K G H [] [] []
  | cons {t : OT} {ts : List OT} {v : V} {vs : List V} {A A' : List Addr} : OwnT K G H t v A → OwnTs K G H ts vs A' → OwnTs K G H (t :: ts) (v :: vs) (A ++ A')
end
mutual
theorem ot_mono {K : PySem.W.Frag} {G G' H H' : Hp} (e : Same G G') : ∀ (t : OT) (v : V) (A : List Addr), OwnT K G H t v A → (∀ a ∈ A, H' a = H a) → OwnT K G' H' t v A
  | .dat x, _, _, h, _ => by
    cases h with
    | dat h => exact .dat (dp_mono e _ _ h)
  | .lst ts, _, _, h, k => by
    cases h with
    | lst h1 h2 => exact .lst ((k _ List.mem_cons_self).trans h1) (ots_mono e ts _ _ h2 fun a ha => k a (List.mem_cons_of_mem _ ha))
  | .tup ts, _, _, h, k => by
    cases h with
    | tup h1 h2 => exact .tup (e _ _ h1) (ots_mono e ts _ _ h2 k)
  | .dic _ _ _ ts, _, _, h, k => by
    cases h with
    | dic h1 h3 h2 => exact .dic ((k _ List.mem_cons_self).trans h1) ⟨h3.1, dpa_mono e _ _ h3.2.1, h3.2.2⟩ (ots_mono e ts _ _ h2 fun a ha => k a (List.mem_cons_of_mem _ ha))
  | .obj _ _ ts, _, _, h, k => by
    cases h with
    | obj h1 h3 h4 h2 => exact .obj ((k _ List.mem_cons_self).trans h1) ((k _ (List.mem_cons_of_mem _ List.mem_cons_self)).trans h3) h4 (ots_mono e ts _ _ h2 fun a ha => k a (List.mem_cons_of_mem _ (List.mem_cons_of_mem _ ha)))
theorem ots_mono {K : PySem.W.Frag} {G G' H H' : Hp} (e : Same G G') : ∀ (ts : List OT) (vs : List V) (A : List Addr), OwnTs K G H ts vs A → (∀ a ∈ A, H' a = H a) → OwnTs K G' H' ts vs A
  | [], _, _, h, _ => by cases h; exact .nil
  | t :: ts, _, _, h, k => by
    cases h with
    | cons h1 h2 => exact .cons (ot_mono e t _ _ h1 fun a ha => k a (List.mem_append_left _ ha)) (ots_mono e ts _ _ h2 fun a ha => k a (List.mem_append_right _ ha))
end
mutual
theorem ot_here {K : PySem.W.Frag} {G H : Hp} : ∀ (t : OT) (v : V) (A : List Addr), OwnT K G H t v A → ∀ a ∈ A, ∃ o, H a = some o ∧ isTup o = false
  | .dat x, _, _, h => by
    cases h with
    | dat h => intro a ha; cases ha
  | .lst ts, _, _, h => by
    cases h with
    | lst h1 h2 =>
      intro a ha
      rcases List.mem_cons.mp ha with rfl | z
      · exact ⟨_, h1, rfl⟩
      · exact ots_here ts _ _ h2 a z
  | .tup ts, _, _, h => by
    cases h with
    | tup h1 h2 => exact ots_here ts _ _ h2
  | .dic _ _ _ ts, _, _, h => by
    cases h with
    | dic h1 h3 h2 =>
      intro a ha
      rcases List.mem_cons.mp ha with rfl | z
      · exact ⟨_, h1, rfl⟩
      · exact ots_here ts _ _ h2 a z
  | .obj _ _ ts, _, _, h => by
    cases h with
    | obj h1 h3 h4 h2 =>
      intro a ha
      rcases List.mem_cons.mp ha with rfl | z
      · exact ⟨_, h1, rfl⟩
      · rcases List.mem_cons.mp z with rfl | z
        · exact ⟨_, h3, rfl⟩
        · exact ots_here ts _ _ h2 a z
theorem ots_here {K : PySem.W.Frag} {G H : Hp} : ∀ (ts : List OT) (vs : List V) (A : List Addr), OwnTs K G H ts vs A → ∀ a ∈ A, ∃ o, H a = some o ∧ isTup o = false
  | [], _, _, h => by cases h; intro a ha; cases ha
  | t :: ts, _, _, h => by
    cases h with
    | cons h1 h2 =>
      intro a ha
      rcases List.mem_append.mp ha with z | z
      · exact ot_here t _ _ h1 a z
      · exact ots_here ts _ _ h2 a z
end
/-! a tree of lists and tuples as data -/
mutual
def OT.isD : OT → Bool
  | .dat _ => true
  | .lst ts => OT.areD ts
  | .tup ts => OT.areD ts
  | .dic _ _ _ _ => false
  | .obj _ _ _ => false
def OT.areD : List OT → Bool
  | [] => true
  | t :: ts => OT.isD t && OT.areD ts
end
mutual
def OT.toD : OT → PyData
  | .dat x => x
  | .lst ts => .list (OT.toDs ts)
  | .tup ts => .tuple (OT.toDs ts)
  | .dic _ _ _ _ => .none
  | .obj _ _ _ => .none
def OT.toDs : List OT → List PyData
  | [] => []
  | t :: ts => OT.toD t :: OT.toDs ts
end
mutual
theorem ot_dp {K : PySem.W.Frag} {G G' H : Hp} (e : Same G G') : ∀ (t : OT) (v : V) (A : List Addr), OwnT K G H t v A → t.isD = true → (∀ a ∈ A, G' a = H a) → Dp K G' v t.toD
  | .dat x, _, _, h, _, _ => by
    cases h with
    | dat h => exact dp_mono e _ _ h
  | .lst ts, _, _, h, d, k => by
    cases h with
    | lst h1 h2 => exact .lst (.inl (.inl ((k _ List.mem_cons_self).trans h1))) (ots_dp e ts _ _ h2 d fun a ha => k a (List.mem_cons_of_mem _ ha))
  | .tup ts, _, _, h, d, k => by
    cases h with
    | tup h1 h2 => exact .tup (.inl (.inl (e _ _ h1))) (ots_dp e ts _ _ h2 d k)
  | .dic _ _ _ ts, _, _, h, d, k => by cases d
  | .obj _ _ ts, _, _, h, d, k => by cases d
theorem ots_dp {K : PySem.W.Frag} {G G' H : Hp} (e : Same G G') : ∀ (ts : List OT) (vs : List V) (A : List Addr), OwnTs K G H ts vs A → OT.areD ts = true → (∀ a ∈ A, G' a = H a) → DpAll K G' vs (OT.toDs ts)
  | [], _, _, h, _, _ => by cases h; exact .nil
  | t :: ts, _, _, h, d, k => by
    cases h with
    | cons h1 h2 =>
      have d : (OT.isD t && OT.areD ts) = true := d
      obtain ⟨d1, d2⟩ := Bool.and_eq_true_iff.mp d
      exact .cons (ot_dp e t _ _ h1 d1 fun a ha => k a (List.mem_append_left _ ha)) (ots_dp e ts _ _ h2 d2 fun a ha => k a (List.mem_append_right _ ha))
end
def Res.P (K : PySem.W.Frag) (G H : Hp) (v : V) (A : List Addr) : Res → Prop
  | .lst ds => OwnL K G H v A ds
  | .lstP P => ∃ ds, P ds ∧ OwnL K G H v A ds
  | .lls dss => OwnLL K G H v A dss
  | .gen R => R.P K G H v A
  | .dic kvs => OwnD K G H v A kvs
  | .tr t => OwnT K G H t v A
section
variable {K : PySem.W.Frag} {G G' H H' : Hp} {v : V} {A : List Addr}
theorem ownL_mono {ds : List PyData} (h : OwnL K G H v A ds) (e : Same G G') (k : ∀ a ∈ A, H' a = H a) : OwnL K G' H' v A ds := (by
  obtain ⟨p, vs, rfl, rfl, h1, h2⟩ := h
  exact ⟨p, vs, rfl, rfl, (k p (by simp)).trans h1, dpa_mono e _ _ h2⟩
  )
theorem ownLs_mono {ps : List Addr} {dss : List (List PyData)} (h : OwnLs K G H ps dss) (e : Same G G') (k : ∀ a ∈ ps, H' a = H a) : OwnLs K G' H' ps dss := (by
  induction h with
  | nil => exact .nil
  | cons h1 h2 _ ih => exact .cons ((k _ List.mem_cons_self).trans h1) (dpa_mono e _ _ h2) (ih fun a ha => k a (List.mem_cons_of_mem _ ha))
  )
theorem ownLs_here {ps : List Addr} {dss : List (List PyData)} (h : OwnLs K G H ps dss) : ∀ a ∈ ps, H a ≠ none := (by
  induction h with
  | nil => intro a ha; simp at ha
  | cons h1 h2 _ ih =>
    intro a ha
    rcases List.mem_cons.mp ha with rfl | z
    · rw [h1]; exact fun z => nomatch z
    · exact ih a z
  )
theorem Res.mono {R : Res} (h : R.P K G H v A) (e : Same G G') (k : ∀ a ∈ A, H' a = H a) : R.P K G' H' v A := (by
  cases R with
  | lst ds => exact ownL_mono h e k
  | lstP P =>
    obtain ⟨ds, p, q⟩ := h
    exact ⟨ds, p, ownL_mono q e k⟩
  | lls dss =>
    obtain ⟨p, ps, rfl, rfl, h1, h2⟩ := h
    exact ⟨p, ps, rfl, rfl, (k p List.mem_cons_self).trans h1, ownLs_mono h2 e fun a ha => k a (List.mem_cons_of_mem _ ha)⟩
  | gen R => exact R.loc _ _ _ _ _ _ (R.grow _ _ _ _ _ _ h e) k
  | dic kvs =>
    obtain ⟨p, ws, rfl, rfl, h1, h2⟩ := h
    exact ⟨p, ws, rfl, rfl, (k p (by simp)).trans h1, dicE_mono h2 e⟩
  | tr t => exact ot_mono e t _ _ h k
  )
theorem ownL_here {ds : List PyData} (h : OwnL K G H v A ds) : ∀ a ∈ A, H a ≠ none := (by
  obtain ⟨p, vs, rfl, rfl, h1, h2⟩ := h
  intro a ha
  obtain rfl : a = p := by simpa using ha
  rw [h1]
  exact fun z => nomatch z
  )
theorem Res.here {R : Res} (h : R.P K G H v A) : ∀ a ∈ A, H a ≠ none := (by
  cases R with
  | lst ds => exact ownL_here h
  | lstP P =>
    obtain ⟨ds, p, q⟩ := h
    exact ownL_here q
  | lls dss =>
    obtain ⟨p, ps, rfl, rfl, h1, h2⟩ := h
    intro a ha
    rcases List.mem_cons.mp ha with rfl | z
    · rw [h1]; exact fun z => nomatch z
    · exact ownLs_here h2 a z
  | gen R => exact R.here _ _ _ _ _ h
  | dic kvs =>
    obtain ⟨p, ws, rfl, rfl, h1, h2⟩ := h
    intro a ha
    obtain rfl : a = p := by simpa using ha
    rw [h1]
    exact fun z => nomatch z
  | tr t =>
    intro a ha
    obtain ⟨o, h1, _⟩ := ot_here t _ _ h a ha
    rw [h1]
    exact fun z => nomatch z
  )
theorem ownL_nt {ds : List PyData} (h : OwnL K G H v A ds) : ∀ a ∈ A, ∀ o, H a = some o → isTup o = false := (by
  obtain ⟨p, vs, rfl, rfl, h1, h2⟩ := h
  intro a ha o e
  obtain rfl : a = p := by simpa using ha
  rw [h1] at e
  cases e; rfl
  )
theorem ownLs_nt {ps : List Addr} {dss : List (List PyData)} (h : OwnLs K G H ps dss) : ∀ a ∈ ps, ∀ o, H a = some o → isTup o = false := (by
  induction h with
  | nil => intro a ha; simp at ha
  | cons h1 h2 _ ih =>
    intro a ha o e
    rcases List.mem_cons.mp ha with rfl | z
    · rw [h1] at e
      cases e; rfl
    · exact ih a z o e
  )
theorem Res.nt {R : Res} (h : R.P K G H v A) : ∀ a ∈ A, ∀ o, H a = some o → isTup o = false := (by
  cases R with
  | lst ds => exact ownL_nt h
  | lstP P =>
    obtain ⟨ds, p, q⟩ := h
    exact ownL_nt q
  | lls dss =>
    obtain ⟨p, ps, rfl, rfl, h1, h2⟩ := h
    intro a ha o e
    rcases List.mem_cons.mp ha with rfl | z
    · rw [h1] at e
      cases e; rfl
    · exact ownLs_nt h2 a z o e
  | gen R => exact R.nt _ _ _ _ _ h
  | dic kvs =>
    obtain ⟨p, ws, rfl, rfl, h1, h2⟩ := h
    intro a ha o e
    obtain rfl : a = p := by simpa using ha
    rw [h1] at e
    cases e; rfl
  | tr t =>
    intro a ha o e
    obtain ⟨o', h1, h2⟩ := ot_here t _ _ h a ha
    rw [h1] at e
    cases e; exact h2
  )
end

/-! ### slots -/
/-- a frozen thing of any kind -/
structure FrG where
  P : PySem.W.Frag → Hp → V → Prop
  grow : ∀ K G G' v, P K G v → Same G G' → P K G' v
  ks : List PyData := []
  ds : List PyData := []
/-- a thing that came in from outside: its value, the addresses it had -/
structure Lt where
  v : V
  al : List Addr
/-- what a slot holds: nothing known; data; an owned thing (w: its value where it came in from outside, none where it was made here) -/
inductive S where
  | no
  | d (x : PyData)
  | f (F : FrG)
  | o (w : Option Lt) (R : Res)
abbrev Ctx := List S
/-- the def's entry: the heap, the ghost, what it may change -/
structure Base where
  H0 : Hp
  G0 : Hp
  io : List Addr
def WOk (B : Base) (w : Option Lt) (v : V) (A : List Addr) : Prop := match w with
  | none => ∀ a ∈ A, B.H0 a = none
  | some u => v = u.v ∧ ∀ a ∈ A, a ∈ u.al ∨ B.H0 a = none
inductive Reps (K : PySem.W.Frag) (B : Base) (G H : Hp) : Ctx → List (Option V) → List Addr → Prop
  | nil : Reps K B G H [] [] []
  | no {x : Option V} {c : Ctx} {s : List (Option V)} {A : List Addr} : Reps K B G H c s A → Reps K B G H (.no :: c) (x :: s) A
  | d {v : V} {x : PyData} {c : Ctx} {s : List (Option V)} {A : List Addr} : Dp K G v x → Reps K B G H c s A → Reps K B G H (.d x :: c) (some v :: s) A
  | f {v : V} {F : FrG} {c : Ctx} {s : List (Option V)} {A : List Addr} : F.P K G v → Reps K B G H c s A → Reps K B G H (.f F :: c) (some v :: s) A
  | o {w : Option Lt} {v : V} {R : Res} {c : Ctx} {s : List (Option V)} {A A' : List Addr} : R.P K G H v A → WOk B w v A → Reps K B G H c s A' → Reps K B G H (.o w R :: c) (some v :: s) (A ++ A')
structure Wd (B : Base) (G H : Hp) (A : List Addr) : Prop where
  sub : Same G H
  nd : A.Nodup
  out : ∀ a ∈ A, G a = none
  old : Same B.G0 G
  stay : ∀ a o, B.H0 a = some o → a ∉ B.io → H a = some o
  dom : ∀ a, H a = none → B.H0 a = none
  newG : ∀ a, a ∉ B.io → B.H0 a ≠ none → G a = B.G0 a ∨ tupAt B.H0 a
  lim : ∀ a ∈ A, a ∈ B.io ∨ B.H0 a = none
structure Stt (K : PySem.W.Frag) (B : Base) (c : Ctx) (s : List (Option V)) (G H : Hp) : Prop where
  ex : ∃ A, Reps K B G H c s A ∧ Wd B G H A

section
variable {K : PySem.W.Frag} {B : Base} {G G' H H' : Hp} {c : Ctx} {s : List (Option V)} {A : List Addr}
theorem Reps.mono (h : Reps K B G H c s A) (e : Same G G') (k : ∀ a ∈ A, H' a = H a) : Reps K B G' H' c s A := (by
  induction h with
  | nil => exact .nil
  | no _ ih => exact .no (ih k)
  | d h _ ih => exact .d (dp_mono e _ _ h) (ih k)
  | f h _ ih => exact .f (FrG.grow _ _ _ _ _ h e) (ih k)
  | o h w _ ih => exact .o (Res.mono h e fun a ha => k a (List.mem_append_left _ ha)) w (ih fun a ha => k a (List.mem_append_right _ ha))
  )
theorem Reps.here (h : Reps K B G H c s A) : ∀ a ∈ A, H a ≠ none := (by
  induction h with
  | nil => intro a ha; simp at ha
  | no _ ih => exact ih
  | d h _ ih => exact ih
  | f h _ ih => exact ih
  | o h w _ ih =>
    intro a ha
    rcases List.mem_append.mp ha with z | z
    · exact Res.here h a z
    · exact ih a z
  )
theorem Reps.nt (h : Reps K B G H c s A) : ∀ a ∈ A, ∀ o, H a = some o → isTup o = false := (by
  induction h with
  | nil => intro a ha; simp at ha
  | no _ ih => exact ih
  | d h _ ih => exact ih
  | f h _ ih => exact ih
  | o h w _ ih =>
    intro a ha
    rcases List.mem_append.mp ha with z | z
    · exact Res.nt h a z
    · exact ih a z
  )
theorem Reps.len (h : Reps K B G H c s A) : s.length = c.length := (by
  induction h with
  | nil => rfl
  | no _ ih => simp [ih]
  | d _ _ ih => simp [ih]
  | f _ _ ih => simp [ih]
  | o _ _ _ ih => simp [ih]
  )
theorem Reps.get_d (h : Reps K B G H c s A) : ∀ {i : Nat} {x : PyData}, c[i]? = some (.d x) → ∃ v, s[i]? = some (some v) ∧ Dp K G v x := (by
  induction h with
  | nil => intro i x e; simp at e
  | no _ ih =>
    intro i x e
    cases i with
    | zero => simp at e
    | succ i => simpa using ih (by simpa using e)
  | d h _ ih =>
    intro i x e
    cases i with
    | zero => simp at e; subst e; exact ⟨_, rfl, h⟩
    | succ i => simpa using ih (by simpa using e)
  | f h _ ih =>
    intro i x e
    cases i with
    | zero => simp at e
    | succ i => simpa using ih (by simpa using e)
  | o h w _ ih =>
    intro i x e
    cases i with
    | zero => simp at e
    | succ i => simpa using ih (by simpa using e)
  )
/-- slot j forgotten, or data laid there -/
theorem Reps.set_no (h : Reps K B G H c s A) : ∀ (j : Nat) (x : Option V), ∃ A', Reps K B G H (c.set j .no) (s.set j x) A' ∧ A'.Sublist A := (by
  induction h with
  | nil => intro j x; exact ⟨[], by simpa using .nil, List.Sublist.refl _⟩
  | no h ih =>
    intro j x
    cases j with
    | zero => exact ⟨_, .no h, List.Sublist.refl _⟩
    | succ j =>
      obtain ⟨A', r, q⟩ := ih j x
      exact ⟨A', .no r, q⟩
  | d hd h ih =>
    intro j x
    cases j with
    | zero => exact ⟨_, .no h, List.Sublist.refl _⟩
    | succ j =>
      obtain ⟨A', r, q⟩ := ih j x
      exact ⟨A', .d hd r, q⟩
  | f hd h ih =>
    intro j x
    cases j with
    | zero => exact ⟨_, .no h, List.Sublist.refl _⟩
    | succ j =>
      obtain ⟨A', r, q⟩ := ih j x
      exact ⟨A', .f hd r, q⟩
  | o ho w h ih =>
    intro j x
    cases j with
    | zero => exact ⟨_, .no h, List.sublist_append_right _ _⟩
    | succ j =>
      obtain ⟨A', r, q⟩ := ih j x
      exact ⟨_, .o ho w r, List.Sublist.append (List.Sublist.refl _) q⟩
  )
theorem Reps.set_d {v : V} {x : PyData} (hx : Dp K G v x) (h : Reps K B G H c s A) : ∀ (j : Nat), ∃ A', Reps K B G H (c.set j (.d x)) (s.set j (some v)) A' ∧ A'.Sublist A := (by
  induction h with
  | nil => intro j; exact ⟨[], by simpa using .nil, List.Sublist.refl _⟩
  | no h ih =>
    intro j
    cases j with
    | zero => exact ⟨_, .d hx h, List.Sublist.refl _⟩
    | succ j =>
      obtain ⟨A', r, q⟩ := ih j
      exact ⟨A', .no r, q⟩
  | d hd h ih =>
    intro j
    cases j with
    | zero => exact ⟨_, .d hx h, List.Sublist.refl _⟩
    | succ j =>
      obtain ⟨A', r, q⟩ := ih j
      exact ⟨A', .d hd r, q⟩
  | f hd h ih =>
    intro j
    cases j with
    | zero => exact ⟨_, .d hx h, List.Sublist.refl _⟩
    | succ j =>
      obtain ⟨A', r, q⟩ := ih j
      exact ⟨A', .f hd r, q⟩
  | o ho w h ih =>
    intro j
    cases j with
    | zero => exact ⟨_, .d hx h, List.sublist_append_right _ _⟩
    | succ j =>
      obtain ⟨A', r, q⟩ := ih j
      exact ⟨_, .o ho w r, List.Sublist.append (List.Sublist.refl _) q⟩
  )
/-- an owned thing laid into slot j -/
theorem Reps.set_o {v : V} {w : Option Lt} {R : Res} {A1 : List Addr} (hR : R.P K G H v A1) (hw : WOk B w v A1) (h : Reps K B G H c s A) : ∀ (j : Nat), (A1 ++ A).Nodup →
    ∃ A', Reps K B G H (c.set j (.o w R)) (s.set j (some v)) A' ∧ A'.Nodup ∧ ∀ a ∈ A', a ∈ A1 ++ A := (by
  induction h with
  | nil => intro j nd; exact ⟨[], by simpa using .nil, List.nodup_nil, fun a ha => by simp at ha⟩
  | no h ih =>
    intro j nd
    cases j with
    | zero => exact ⟨_, .o hR hw h, nd, fun a ha => ha⟩
    | succ j =>
      obtain ⟨A', r, q⟩ := ih j nd
      exact ⟨A', .no r, q⟩
  | d hd h ih =>
    intro j nd
    cases j with
    | zero => exact ⟨_, .o hR hw h, nd, fun a ha => ha⟩
    | succ j =>
      obtain ⟨A', r, q⟩ := ih j nd
      exact ⟨A', .d hd r, q⟩
  | f hd h ih =>
    intro j nd
    cases j with
    | zero => exact ⟨_, .o hR hw h, nd, fun a ha => ha⟩
    | succ j =>
      obtain ⟨A', r, q⟩ := ih j nd
      exact ⟨A', .f hd r, q⟩
  | @o w2 v2 R2 c2 s2 Ah At ho hw2 h ih =>
    intro j nd
    have n1 : (A1 ++ At).Nodup := nd.sublist (List.Sublist.append (List.Sublist.refl _) (List.sublist_append_right _ _))
    cases j with
    | zero => exact ⟨_, .o hR hw h, n1, fun a ha => by
        rcases List.mem_append.mp ha with z | z
        · exact List.mem_append_left _ z
        · exact List.mem_append_right _ (List.mem_append_right _ z)⟩
    | succ j =>
      obtain ⟨A', r, n2, q⟩ := ih j n1
      refine ⟨Ah ++ A', .o ho hw2 r, ?_, fun a ha => ?_⟩
      · have n3 : (Ah ++ At).Nodup := nd.sublist (List.sublist_append_right _ _)
        refine List.nodup_append.mpr ⟨(List.nodup_append.mp n3).1, n2, fun a ha b hb e => ?_⟩
        subst e
        rcases List.mem_append.mp (q a hb) with z | z
        · exact (List.nodup_append.mp nd).2.2 a z a (List.mem_append_left _ ha) rfl
        · exact (List.nodup_append.mp n3).2.2 a ha a z rfl
      · rcases List.mem_append.mp ha with z | z
        · exact List.mem_append_right _ (List.mem_append_left _ z)
        · rcases List.mem_append.mp (q a z) with z | z
          · exact List.mem_append_left _ z
          · exact List.mem_append_right _ (List.mem_append_right _ z)
  )
/-- slot j looked at and changed -/
theorem Reps.focus (h : Reps K B G H c s A) : ∀ {j : Nat} {w : Option Lt} {R : Res}, A.Nodup → c[j]? = some (.o w R) →
    ∃ v A1, s[j]? = some (some v) ∧ R.P K G H v A1 ∧ WOk B w v A1 ∧ A1.Nodup ∧ (∀ a ∈ A1, a ∈ A) ∧
      ∀ {G' H' : Hp} {R' : Res} {w' : Option Lt} {A1' : List Addr}, Same G G' → (∀ a ∈ A, a ∉ A1 → H' a = H a) → R'.P K G' H' v A1' → WOk B w' v A1' → A1'.Nodup → (∀ a ∈ A1', a ∈ A1 ∨ a ∉ A) →
        ∃ A', Reps K B G' H' (c.set j (.o w' R')) s A' ∧ A'.Nodup ∧ ∀ a ∈ A', a ∈ A1' ∨ (a ∈ A ∧ a ∉ A1) := (by
  induction h with
  | nil => intro j w R nd e; simp at e
  | no h ih =>
    intro j w R nd e
    cases j with
    | zero => simp at e
    | succ j =>
      obtain ⟨v, A1, h1, h2, h3, h4, h5, k⟩ := ih nd (by simpa using e)
      refine ⟨v, A1, by simpa using h1, h2, h3, h4, h5, fun {G' H' R' w' A1'} e1 e2 e3 e4 e5 e6 => ?_⟩
      obtain ⟨A', r, q⟩ := k e1 e2 e3 e4 e5 e6
      exact ⟨A', .no r, q⟩
  | d hd h ih =>
    intro j w R nd e
    cases j with
    | zero => simp at e
    | succ j =>
      obtain ⟨v, A1, h1, h2, h3, h4, h5, k⟩ := ih nd (by simpa using e)
      refine ⟨v, A1, by simpa using h1, h2, h3, h4, h5, fun {G' H' R' w' A1'} e1 e2 e3 e4 e5 e6 => ?_⟩
      obtain ⟨A', r, q⟩ := k e1 e2 e3 e4 e5 e6
      exact ⟨A', .d (dp_mono e1 _ _ hd) r, q⟩
  | f hd h ih =>
    intro j w R nd e
    cases j with
    | zero => simp at e
    | succ j =>
      obtain ⟨v, A1, h1, h2, h3, h4, h5, k⟩ := ih nd (by simpa using e)
      refine ⟨v, A1, by simpa using h1, h2, h3, h4, h5, fun {G' H' R' w' A1'} e1 e2 e3 e4 e5 e6 => ?_⟩
      obtain ⟨A', r, q⟩ := k e1 e2 e3 e4 e5 e6
      exact ⟨A', .f (FrG.grow _ _ _ _ _ hd e1) r, q⟩
  | @o w2 v2 R2 c2 s2 Ah At ho hw2 h ih =>
    intro j w R nd e
    obtain ⟨n1, n2, n3⟩ := List.nodup_append.mp nd
    cases j with
    | zero =>
      have e' : S.o w2 R2 = S.o w R := by simpa using e
      cases e'
      refine ⟨v2, Ah, rfl, ho, hw2, n1, fun a ha => List.mem_append_left _ ha, fun {G' H' R' w' A1'} e1 e2 e3 e4 e5 e6 => ?_⟩
      have nin : ∀ a ∈ At, a ∉ Ah := fun a ha z => n3 a z a ha rfl
      refine ⟨A1' ++ At, .o e3 e4 (h.mono e1 fun a ha => e2 a (List.mem_append_right _ ha) (nin a ha)), ?_, fun a ha => ?_⟩
      · refine List.nodup_append.mpr ⟨e5, n2, fun a ha b hb e => ?_⟩
        subst e
        rcases e6 a ha with z | z
        · exact nin a hb z
        · exact z (List.mem_append_right _ hb)
      · rcases List.mem_append.mp ha with z | z
        · exact .inl z
        · exact .inr ⟨List.mem_append_right _ z, nin a z⟩
    | succ j =>
      obtain ⟨v, A1, h1, h2, h3, h4, h5, k⟩ := ih n2 (by simpa using e)
      refine ⟨v, A1, by simpa using h1, h2, h3, h4, fun a ha => List.mem_append_right _ (h5 a ha), fun {G' H' R' w' A1'} e1 e2 e3 e4 e5 e6 => ?_⟩
      have nA1 : ∀ a ∈ Ah, a ∉ A1 := fun a ha z => n3 a ha a (h5 a z) rfl
      obtain ⟨A', r, m1, m2⟩ := k e1 (fun a ha hn => e2 a (List.mem_append_right _ ha) hn) e3 e4 e5 (fun a ha => by
        rcases e6 a ha with z | z
        · exact .inl z
        · exact .inr fun y => z (List.mem_append_right _ y))
      refine ⟨Ah ++ A', .o (Res.mono ho e1 fun a ha => e2 a (List.mem_append_left _ ha) (nA1 a ha)) hw2 r, ?_, fun a ha => ?_⟩
      · refine List.nodup_append.mpr ⟨n1, m1, fun a ha b hb e => ?_⟩
        subst e
        rcases m2 a hb with z | ⟨z, _⟩
        · rcases e6 a z with y | y
          · exact nA1 a ha y
          · exact y (List.mem_append_left _ ha)
        · exact n3 a ha a z rfl
      · rcases List.mem_append.mp ha with z | z
        · exact .inr ⟨List.mem_append_left _ z, nA1 a z⟩
        · rcases m2 a z with y | ⟨y1, y2⟩
          · exact .inl y
          · exact .inr ⟨List.mem_append_right _ y1, y2⟩
  )
theorem Wd.sub_of (h : Wd B G H A) {A' : List Addr} (q : A'.Sublist A) : Wd B G H A' :=
  ⟨h.sub, h.nd.sublist q, fun a ha => h.out a (q.subset ha), h.old, h.stay, h.dom, h.newG, fun a ha => h.lim a (q.subset ha)⟩
end

/-! ### steps of the state -/
section
variable {K : PySem.W.Frag} {B : Base} {G G' H H' : Hp} {c : Ctx} {s : List (Option V)}
theorem Stt.sub (h : Stt K B c s G H) : Same G H := let ⟨_, _, w⟩ := h.ex; w.sub
theorem Stt.get_d (h : Stt K B c s G H) {i : Nat} {x : PyData} (e : c[i]? = some (.d x)) : ∃ v, s[i]? = some (some v) ∧ Dp K G v x :=
  let ⟨_, r, _⟩ := h.ex; r.get_d e
theorem Stt.set_d (h : Stt K B c s G H) (j : Nat) {v : V} {x : PyData} (hx : Dp K G v x) : Stt K B (c.set j (.d x)) (s.set j (some v)) G H := (by
  obtain ⟨A, r, w⟩ := h.ex
  obtain ⟨A', r', q⟩ := r.set_d hx j
  exact ⟨A', r', w.sub_of q⟩
  )
theorem Stt.set_no (h : Stt K B c s G H) (j : Nat) (x : Option V) : Stt K B (c.set j .no) (s.set j x) G H := (by
  obtain ⟨A, r, w⟩ := h.ex
  obtain ⟨A', r', q⟩ := r.set_no j x
  exact ⟨A', r', w.sub_of q⟩
  )
/-- data pushed on top, and popped -/
theorem Stt.push_d (h : Stt K B c s G H) {v : V} {x : PyData} (hx : Dp K G v x) : Stt K B (.d x :: c) (some v :: s) G H := (by
  obtain ⟨A, r, w⟩ := h.ex
  exact ⟨A, .d hx r, w⟩
  )
theorem Stt.pop {x : S} {v : Option V} (h : Stt K B (x :: c) (v :: s) G H) : Stt K B c s G H := (by
  obtain ⟨A, r, w⟩ := h.ex
  cases r with
  | no r => exact ⟨A, r, w⟩
  | d _ r => exact ⟨A, r, w⟩
  | f _ r => exact ⟨A, r, w⟩
  | o _ _ r => exact ⟨_, r, w.sub_of (List.sublist_append_right _ _)⟩
  )
/-- the owned thing on top goes to slot j -/
theorem Stt.set_o {wo : Option Lt} {R : Res} {v : V} (h : Stt K B (.o wo R :: c) (some v :: s) G H) (j : Nat) : Stt K B (c.set j (.o wo R)) (s.set j (some v)) G H := (by
  obtain ⟨A, r, w⟩ := h.ex
  cases r with
  | o h1 h2 r =>
    obtain ⟨A', r', n, q⟩ := r.set_o h1 h2 j w.nd
    exact ⟨A', r', w.sub, n, fun a ha => w.out a (q a ha), w.old, w.stay, w.dom, w.newG, fun a ha => w.lim a (q a ha)⟩
  )
/-- a new frozen object -/
theorem Stt.laid (h : Stt K B c s G H) {p : Addr} {o : HO} (hp : H p = none) : Stt K B c s (upd G p o) (upd H p o) ∧ Same G (upd G p o) := (by
  obtain ⟨A, r, w⟩ := h.ex
  have gp : G p = none := w.sub.free hp
  have e : Same G (upd G p o) := fun b u q => by rw [upd_ne (ne_of_none q gp)]; exact q
  have np : ∀ a ∈ A, a ≠ p := fun a ha z => r.here a ha (by rw [z]; exact hp)
  have h0 : B.H0 p = none := w.dom p hp
  have n0 : ∀ a, B.H0 a ≠ none → a ≠ p := fun a ha z => ha (by rw [z]; exact h0)
  refine ⟨⟨A, r.mono e fun a ha => upd_ne (np a ha), fun b u q => ?_, w.nd, fun a ha => by rw [upd_ne (np a ha)]; exact w.out a ha, w.old.trans e, fun a u q hi => ?_, fun a q => ?_, fun a i q => by rw [upd_ne (n0 a q)]; exact w.newG a i q, w.lim⟩, e⟩
  · by_cases hb : b = p
    · subst hb; rw [upd_same] at q ⊢; exact q
    · rw [upd_ne hb] at q ⊢; exact w.sub b u q
  · rw [upd_ne (n0 a (by rw [q]; exact fun z => nomatch z))]
    exact w.stay a u q hi
  · by_cases hb : a = p
    · subst hb; exact h0
    · rw [upd_ne hb] at q; exact w.dom a q
  )
/-- a new owned list -/
theorem Stt.laidL (h : Stt K B c s G H) {p : Addr} {vs : List V} {ds : List PyData} (hp : H p = none) (hd : DpAll K G vs ds) : Stt K B (.o none (.lst ds) :: c) (some (.ref p) :: s) G (upd H p (.lst vs)) := (by
  obtain ⟨A, r, w⟩ := h.ex
  have np : ∀ a ∈ A, a ≠ p := fun a ha z => r.here a ha (by rw [z]; exact hp)
  have h0 : B.H0 p = none := w.dom p hp
  have n0 : ∀ a, B.H0 a ≠ none → a ≠ p := fun a ha z => ha (by rw [z]; exact h0)
  have gp : G p = none := w.sub.free hp
  refine ⟨[p] ++ A, .o (R := .lst ds) ⟨p, vs, rfl, rfl, upd_same, hd⟩ (fun a ha => ?_) (r.mono (Same.refl _) fun a ha => upd_ne (np a ha)), fun b u q => ?_, ?_, fun a ha => ?_, w.old, fun a u q hi => ?_, fun a q => ?_, w.newG, fun a ha => ?_⟩
  · obtain rfl : a = p := by simpa using ha
    exact h0
  · rw [upd_ne (ne_of_none q gp)]; exact w.sub b u q
  · exact List.nodup_append.mpr ⟨by simp, w.nd, fun a ha b hb e => np b hb (by rw [← e]; simpa using ha)⟩
  · rcases List.mem_append.mp ha with z | z
    · obtain rfl : a = p := by simpa using z
      exact gp
    · exact w.out a z
  · rw [upd_ne (n0 a (by rw [q]; exact fun z => nomatch z))]
    exact w.stay a u q hi
  · by_cases hb : a = p
    · subst hb; exact h0
    · rw [upd_ne hb] at q; exact w.dom a q
  · rcases List.mem_append.mp ha with z | z
    · obtain rfl : a = p := by simpa using z
      exact .inr h0
    · exact w.lim a z
  )
/-- an owned list made here is frozen -/
theorem Stt.frz {ds : List PyData} {v : V} (h : Stt K B (.o none (.lst ds) :: c) (some v :: s) G H) : ∃ G', Stt K B c s G' H ∧ Same G G' ∧ Dp K G' v (.list ds) := (by
  obtain ⟨A, r, w⟩ := h.ex
  cases r with
  | @o _ _ _ _ _ Ah At h1 h2 r =>
    obtain ⟨p, vs, rfl, rfl, hp, hd⟩ := h1
    have gp : G p = none := w.out p (by simp)
    have h0 : B.H0 p = none := h2 p (by simp)
    have n0 : ∀ a, B.H0 a ≠ none → a ≠ p := fun a ha z => ha (by rw [z]; exact h0)
    have e : Same G (upd G p (.lst vs)) := fun b u q => by rw [upd_ne (ne_of_none q gp)]; exact q
    obtain ⟨n1, n2, n3⟩ := List.nodup_append.mp w.nd
    have np : ∀ a ∈ At, a ≠ p := fun a ha z => n3 p (by simp) a ha z.symm
    refine ⟨upd G p (.lst vs), ⟨At, r.mono e fun a ha => rfl, fun b u q => ?_, n2, fun a ha => by rw [upd_ne (np a ha)]; exact w.out a (List.mem_append_right _ ha), w.old.trans e, w.stay, w.dom, fun a i q => by rw [upd_ne (n0 a q)]; exact w.newG a i q, fun a ha => w.lim a (List.mem_append_right _ ha)⟩, e, .lst (.inl (.inl upd_same)) (dpa_mono e _ _ hd)⟩
    by_cases hb : b = p
    · subst hb; rw [upd_same] at q; rw [← q]; exact hp
    · rw [upd_ne hb] at q; exact w.sub b u q
  )
/-- what an owned thing may be frozen to -/
def Res.fz : Res → (PyData → Prop) → Prop
  | .lst ds, Q => Q (.list ds)
  | .lstP P, Q => ∀ ds, P ds → Q (.list ds)
  | .lls dss, Q => Q (.list (dss.map PyData.list))
  | .gen _, _ => False
  | .dic _, _ => False
  | .tr t, Q => t.isD = true ∧ Q t.toD
/-- the owned thing on top, frozen whole -/
theorem Stt.frzA {R : Res} {v : V} (h : Stt K B (.o none R :: c) (some v :: s) G H) : ∃ G' A, Stt K B c s G' H ∧ Same G G' ∧ R.P K G H v A ∧ (∀ a ∈ A, G' a = H a) := (by
  obtain ⟨A, r, w⟩ := h.ex
  cases r with
  | @o _ _ _ _ _ Ah At h1 h2 r =>
    obtain ⟨n1, n2, n3⟩ := List.nodup_append.mp w.nd
    have h2 : ∀ a ∈ Ah, B.H0 a = none := h2
    let G' : Hp := fun a => if a ∈ Ah then H a else G a
    have gi : ∀ a ∈ Ah, G' a = H a := fun a ha => if_pos ha
    have gn : ∀ a, a ∉ Ah → G' a = G a := fun a ha => if_neg ha
    have e : Same G G' := fun a o q => by
      have ha : a ∉ Ah := fun z => by rw [w.out a (List.mem_append_left _ z)] at q; cases q
      rw [gn a ha]; exact q
    have nt : ∀ a ∈ At, a ∉ Ah := fun a ha z => n3 a z a ha rfl
    refine ⟨G', Ah, ⟨At, r.mono e fun a ha => rfl, fun a o q => ?_, n2, fun a ha => by rw [gn a (nt a ha)]; exact w.out a (List.mem_append_right _ ha), w.old.trans e, w.stay, w.dom, fun a i q => ?_, fun a ha => w.lim a (List.mem_append_right _ ha)⟩, e, h1, gi⟩
    · by_cases ha : a ∈ Ah
      · rw [gi a ha] at q; exact q
      · rw [gn a ha] at q; exact w.sub a o q
    · rw [gn a fun z => q (h2 a z)]
      exact w.newG a i q
  )
theorem dpa_lists {ps : List Addr} {dss : List (List PyData)} (h : OwnLs K G H ps dss) (e : Same G G') (k : ∀ a ∈ ps, G' a = H a) : DpAll K G' (ps.map V.ref) (dss.map PyData.list) := (by
  induction h with
  | nil => exact .nil
  | cons h1 h2 _ ih => exact .cons (.lst (.inl (.inl ((k _ List.mem_cons_self).trans h1))) (dpa_mono e _ _ h2)) (ih fun a ha => k a (List.mem_cons_of_mem _ ha))
  )
theorem Stt.frzR {R : Res} {v : V} {Q : PyData → Prop} (h : Stt K B (.o none R :: c) (some v :: s) G H) (q : R.fz Q) : ∃ G' d, Stt K B c s G' H ∧ Same G G' ∧ Dp K G' v d ∧ Q d := (by
  cases R with
  | lst ds =>
    obtain ⟨G', a, b, d⟩ := h.frz
    exact ⟨G', _, a, b, d, q⟩
  | lstP P =>
    obtain ⟨A, r, w⟩ := h.ex
    cases r with
    | o h1 h2 r =>
      obtain ⟨ds, p, h1⟩ := h1
      obtain ⟨G', a, b, d⟩ := Stt.frz (ds := ds) ⟨_, .o (R := .lst ds) h1 h2 r, w⟩
      exact ⟨G', _, a, b, d, q ds p⟩
  | lls dss =>
    obtain ⟨G', A, a, b, ⟨p, ps, rfl, rfl, h1, h2⟩, g⟩ := h.frzA
    exact ⟨G', _, a, b, .lst (.inl (.inl ((g p List.mem_cons_self).trans h1))) (dpa_lists h2 b fun a ha => g a (List.mem_cons_of_mem _ ha)), q⟩
  | gen _ => exact q.elim
  | dic _ => exact q.elim
  | tr t =>
    obtain ⟨G', A, a, b, h, g⟩ := h.frzA
    exact ⟨G', _, a, b, ot_dp b t _ _ h q.1 g, q.2⟩
  )
/-- the owned list at slot j: read, written -/
theorem Stt.own (h : Stt K B c s G H) {j : Nat} {wo : Option Lt} {ds : List PyData} (e : c[j]? = some (.o wo (.lst ds))) :
    ∃ p vs, s[j]? = some (some (.ref p)) ∧ H p = some (.lst vs) ∧ DpAll K G vs ds ∧ 
      ∀ vs' ds', DpAll K G vs' ds' → Stt K B (c.set j (.o wo (.lst ds'))) s G (upd H p (.lst vs')) := (by
  obtain ⟨A, r, w⟩ := h.ex
  obtain ⟨v, A1, h1, h2, h3, h4, h5, k⟩ := r.focus w.nd e
  obtain ⟨p, vs, rfl, rfl, hp, hd⟩ := h2
  refine ⟨p, vs, h1, hp, hd, fun vs' ds' hd' => ?_⟩
  · have gp : G p = none := w.out p (h5 p (by simp))
    obtain ⟨A', r', n, q⟩ := k (G' := G) (H' := upd H p (.lst vs')) (R' := .lst ds') (w' := wo) (A1' := [p]) (Same.refl _) (fun a ha hn => upd_ne fun z => hn (by simp [z])) ⟨p, vs', rfl, rfl, upd_same, hd'⟩ h3 (by simp) (fun a ha => .inl ha)
    have q' : ∀ a ∈ A', a ∈ A := fun a ha => by
      rcases q a ha with z | z
      · exact h5 a z
      · exact z.1
    refine ⟨A', r', fun b u q => ?_, n, fun a ha => w.out a (q' a ha), w.old, fun a u q hi => ?_, fun a q => ?_, w.newG, fun a ha => w.lim a (q' a ha)⟩
    · rw [upd_ne (ne_of_none q gp)]; exact w.sub b u q
    · have z := w.stay a u q hi
      rw [upd_ne]
      · exact z
      · rintro rfl
        rcases w.lim a (h5 a (by simp)) with y | y
        · exact hi y
        · have q2 : B.H0 a = some u := by assumption
          rw [y] at q2; cases q2
    · by_cases hb : a = p
      · subst hb; rw [upd_same] at q; cases q
      · rw [upd_ne hb] at q; exact w.dom a q
  )
/-- a list of which a fact is known: its items told; and forgotten again -/
theorem Stt.open_ (h : Stt K B c s G H) {j : Nat} {wo : Option Lt} {P : List PyData → Prop} (e : c[j]? = some (.o wo (.lstP P))) : ∃ ds, P ds ∧ Stt K B (c.set j (.o wo (.lst ds))) s G H := (by
  obtain ⟨A, r, w⟩ := h.ex
  obtain ⟨v, A1, h1, h2, h3, h4, h5, k⟩ := r.focus w.nd e
  obtain ⟨ds, hP, h2⟩ := h2
  obtain ⟨A', r', n, q⟩ := k (G' := G) (H' := H) (R' := .lst ds) (w' := wo) (A1' := A1) (Same.refl _) (fun _ _ _ => rfl) h2 h3 h4 fun a ha => .inl ha
  have q' : ∀ a ∈ A', a ∈ A := fun a ha => by
    rcases q a ha with z | z
    · exact h5 a z
    · exact z.1
  exact ⟨ds, hP, ⟨A', r', w.sub, n, fun a ha => w.out a (q' a ha), w.old, w.stay, w.dom, w.newG, fun a ha => w.lim a (q' a ha)⟩⟩
  )
theorem Stt.shut (h : Stt K B c s G H) {j : Nat} {wo : Option Lt} {ds : List PyData} {P : List PyData → Prop} (e : c[j]? = some (.o wo (.lst ds))) (hP : P ds) : Stt K B (c.set j (.o wo (.lstP P))) s G H := (by
  obtain ⟨A, r, w⟩ := h.ex
  obtain ⟨v, A1, h1, h2, h3, h4, h5, k⟩ := r.focus w.nd e
  obtain ⟨A', r', n, q⟩ := k (G' := G) (H' := H) (R' := .lstP P) (w' := wo) (A1' := A1) (Same.refl _) (fun _ _ _ => rfl) ⟨ds, hP, h2⟩ h3 h4 fun a ha => .inl ha
  have q' : ∀ a ∈ A', a ∈ A := fun a ha => by
    rcases q a ha with z | z
    · exact h5 a z
    · exact z.1
  exact ⟨A', r', w.sub, n, fun a ha => w.out a (q' a ha), w.old, w.stay, w.dom, w.newG, fun a ha => w.lim a (q' a ha)⟩
  )
end
end Dl

/-! Readings over data: expressions, tests, statements. -/
namespace Dl
open PySem PySem.Spec PyProof.Rows L2

abbrev TD := Ctx → (PyData → Ctx → Prop) → Prop
abbrev TB := Ctx → (Bool → Ctx → Prop) → Prop
abbrev TL := Ctx → (List PyData → Ctx → Prop) → Prop
abbrev TR := Ctx → (Res → Ctx → Prop) → Prop

def DEv (K : PySem.W.Frag) (te : TE) (t : TD) : Prop := ∀ (B : Base) (c : Ctx) (s : L2.St) (G H : Hp) (Q : PyData → Ctx → Prop) (R : VK), Stt K B c s G H → t c Q →
  (∀ v x c' G' H', Stt K B c' s G' H' → Same G G' → Dp K G' v x → Q x c' → R v H') → te s H R
def DTv (K : PySem.W.Frag) (te : TT) (t : TB) : Prop := ∀ (B : Base) (c : Ctx) (s : L2.St) (G H : Hp) (Q : Bool → Ctx → Prop) (R : Bool → Hp → Prop), Stt K B c s G H → t c Q →
  (∀ b c' G' H', Stt K B c' s G' H' → Same G G' → Q b c' → R b H') → te s H R
def DAv (K : PySem.W.Frag) (te : TA) (t : TL) : Prop := ∀ (B : Base) (c : Ctx) (s : L2.St) (G H : Hp) (Q : List PyData → Ctx → Prop) (R : List V → Hp → Prop), Stt K B c s G H → t c Q →
  (∀ vs xs c' G' H', Stt K B c' s G' H' → Same G G' → DpAll K G' vs xs → Q xs c' → R vs H') → te s H R
def DOv (K : PySem.W.Frag) (te : TE) (t : TR) : Prop := ∀ (B : Base) (c : Ctx) (s : L2.St) (G H : Hp) (Q : Res → Ctx → Prop) (R : VK), Stt K B c s G H → t c Q →
  (∀ v x c' G' H', Stt K B (.o none x :: c') (some v :: s) G' H' → Same G G' → Q x c' → R v H') → te s H R
structure DE (X : Cx) (e : Expr) (t : TD) : Prop where
  ex : ∃ te, PE X e te ∧ DEv X.K te t
structure DT (X : Cx) (e : Expr) (t : TB) : Prop where
  ex : ∃ te, PT X e te ∧ DTv X.K te t
structure DW (X : Cx) (e : Expr) (t : TB) : Prop where
  ex : ∃ te, PW X e te ∧ DTv X.K te t
structure DA (X : Cx) (es : List Expr) (t : TL) : Prop where
  ex : ∃ te, PA X es te ∧ DAv X.K te t
/-- a new owned thing -/
structure DO (X : Cx) (e : Expr) (t : TR) : Prop where
  ex : ∃ te, PE X e te ∧ DOv X.K te t

/-! ### what data is: ways of asking that a walk goes through from the left -/
def asI (x : PyData) (Q : Int → Prop) : Prop := match x with
  | .int i => Q i
  | _ => False
def asB (x : PyData) (Q : Bool → Prop) : Prop := match x with
  | .bool i => Q i
  | _ => False
def asS (x : PyData) (Q : Str → Prop) : Prop := match x with
  | .str i => Q i
  | _ => False
def asL (x : PyData) (Q : List PyData → Prop) : Prop := match x with
  | .list i => Q i
  | _ => False
def asT (x : PyData) (Q : List PyData → Prop) : Prop := match x with
  | .tuple i => Q i
  | _ => False
theorem asI_i {i : Int} {Q : Int → Prop} : asI (.int i) Q = Q i := id rfl
theorem asB_b {i : Bool} {Q : Bool → Prop} : asB (.bool i) Q = Q i := id rfl
theorem asS_s {i : Str} {Q : Str → Prop} : asS (.str i) Q = Q i := id rfl
theorem asL_l {i : List PyData} {Q : List PyData → Prop} : asL (.list i) Q = Q i := id rfl
theorem asT_t {i : List PyData} {Q : List PyData → Prop} : asT (.tuple i) Q = Q i := id rfl
theorem asI_of {x : PyData} {Q : Int → Prop} (h : asI x Q) : ∃ i, x = .int i ∧ Q i := (by
  cases x <;> first | exact ⟨_, rfl, h⟩ | exact False.elim h
  )
theorem asB_of {x : PyData} {Q : Bool → Prop} (h : asB x Q) : ∃ i, x = .bool i ∧ Q i := (by
  cases x <;> first | exact ⟨_, rfl, h⟩ | exact False.elim h
  )
theorem asS_of {x : PyData} {Q : Str → Prop} (h : asS x Q) : ∃ i, x = .str i ∧ Q i := (by
  cases x <;> first | exact ⟨_, rfl, h⟩ | exact False.elim h
  )
theorem asL_of {x : PyData} {Q : List PyData → Prop} (h : asL x Q) : ∃ i, x = .list i ∧ Q i := (by
  cases x <;> first | exact ⟨_, rfl, h⟩ | exact False.elim h
  )
theorem asT_of {x : PyData} {Q : List PyData → Prop} (h : asT x Q) : ∃ i, x = .tuple i ∧ Q i := (by
  cases x <;> first | exact ⟨_, rfl, h⟩ | exact False.elim h
  )
/-- slot i holds data -/
def slD : Ctx → Nat → (PyData → Prop) → Prop
  | .d x :: _, 0, Q => Q x
  | _ :: c, i + 1, Q => slD c i Q
  | _, _, _ => False
theorem slD_0 {x : PyData} {c : Ctx} {Q : PyData → Prop} : slD (.d x :: c) 0 Q = Q x := id rfl
theorem slD_s {x : S} {c : Ctx} {i : Nat} {Q : PyData → Prop} : slD (x :: c) (i + 1) Q = slD c i Q := by cases x <;> rfl
theorem slD_of : ∀ {c : Ctx} {i : Nat} {Q : PyData → Prop}, slD c i Q → ∃ x, c[i]? = some (.d x) ∧ Q x
  | [], 0, _, h => h.elim
  | [], _ + 1, _, h => h.elim
  | .d x :: c, 0, _, h => ⟨x, rfl, h⟩
  | .no :: c, 0, _, h => h.elim
  | .f _ :: c, 0, _, h => h.elim
  | .o _ _ :: c, 0, _, h => h.elim
  | y :: c, i + 1, _, h => by
    rw [slD_s] at h
    obtain ⟨x, e, q⟩ := slD_of h
    exact ⟨x, by simpa using e, q⟩
/-- slot i holds an owned thing -/
def slO : Ctx → Nat → (Option Lt → Res → Prop) → Prop
  | .o w R :: _, 0, Q => Q w R
  | _ :: c, i + 1, Q => slO c i Q
  | _, _, _ => False
theorem slO_0 {w : Option Lt} {R : Res} {c : Ctx} {Q : Option Lt → Res → Prop} : slO (.o w R :: c) 0 Q = Q w R := id rfl
theorem slO_s {x : S} {c : Ctx} {i : Nat} {Q : Option Lt → Res → Prop} : slO (x :: c) (i + 1) Q = slO c i Q := by cases x <;> rfl
theorem slO_of : ∀ {c : Ctx} {i : Nat} {Q : Option Lt → Res → Prop}, slO c i Q → ∃ w R, c[i]? = some (.o w R) ∧ Q w R
  | [], 0, _, h => h.elim
  | [], _ + 1, _, h => h.elim
  | .o w R :: c, 0, _, h => ⟨w, R, rfl, h⟩
  | .no :: c, 0, _, h => h.elim
  | .f _ :: c, 0, _, h => h.elim
  | .d _ :: c, 0, _, h => h.elim
  | y :: c, i + 1, _, h => by
    rw [slO_s] at h
    obtain ⟨w, R, e, q⟩ := slO_of h
    exact ⟨w, R, by simpa using e, q⟩
/-- an owned thing is a list of known items -/
def asR (R : Res) (Q : List PyData → Prop) : Prop := match R with
  | .lst ds => Q ds
  | _ => False
theorem asR_l {ds : List PyData} {Q : List PyData → Prop} : asR (.lst ds) Q = Q ds := id rfl
theorem asR_of {R : Res} {Q : List PyData → Prop} (h : asR R Q) : ∃ ds, R = .lst ds ∧ Q ds := (by
  cases R <;> first | exact ⟨_, rfl, h⟩ | exact False.elim h
  )
/-- an item by its place -/
def atD (ds : List PyData) (i : Int) (Q : PyData → Prop) : Prop := ∃ d, atI ds i = some d ∧ Q d
def ixP (n : Nat) (i : Int) (Q : Nat → Prop) : Prop := ∃ k, ixN n i = some k ∧ Q k

/-! ### names, constants -/
def uVar (i : Nat) : TD := fun c Q => slD c i fun x => Q x c
def uC (x : PyData) : TD := fun c Q => Q x c
section
variable {X : Cx} {pos : Pos}
theorem dv (i : Nat) {x : Str} (hN : X.N[i]? = some x := by rfl) (hv : Vis X.env.scope x := by first | exact Or.inl rfl | exact Or.inr (Or.inl rfl) | exact Or.inr (Or.inr rfl)) (hd : (x == ("__debug__" : Str)) = false := by decide)
    (hcd : (x == ("__classdict__" : Str)) = false := by decide) : DE X (.Name x pos) (uVar i) := (by
  refine ⟨_, pe_var hN hv hd hcd, fun B c s G H Q R st h k => ?_⟩
  obtain ⟨x, e, q⟩ := slD_of h
  obtain ⟨v, e1, e2⟩ := st.get_d e
  exact ⟨v, e1, k v x c G H st (Same.refl _) e2 q⟩
  )
theorem d_int {i j} : DE X (.Constant (.int i) j pos) (uC (.int i)) := ⟨_, pe_int, fun _ c _ G H _ _ st h k => k _ _ c G H st (Same.refl _) (.int i) h⟩
theorem d_bl {b j} : DE X (.Constant (.bool b) j pos) (uC (.bool b)) := ⟨_, pe_bl, fun _ c _ G H _ _ st h k => k _ _ c G H st (Same.refl _) (.bl b) h⟩
theorem d_str {x j} : DE X (.Constant (.str x) j pos) (uC (.str x)) := ⟨_, pe_str, fun _ c _ G H _ _ st h k => k _ _ c G H st (Same.refl _) (.str x) h⟩
/-- an owned expression, frozen -/
def uFz (t : TR) : TD := fun c Q => t c fun R c1 => R.fz fun x => Q x c1
theorem d_fz {e : Expr} {t : TR} (h : DO X e t) : DE X e (uFz t) := (by
  obtain ⟨te, he, hv⟩ := h.ex
  refine ⟨te, he, fun B c s G H Q R st q k => hv B c s G H _ R st q fun v x c' G' H' st' e q' => ?_⟩
  obtain ⟨G2, d, a1, a2, a3, a4⟩ := st'.frzR q'
  exact k v d c' G2 H' a1 (e.trans a2) a3 a4
  )
/-! ### operators -/
/-- what a two-place rule asks of data -/
def OpD (K : PySem.W.Frag) (r : R2) (f : PyData → PyData → (PyData → Prop) → Prop) : Prop := ∀ (B : Base) (c : Ctx) (s : L2.St) (G H : Hp) (x y : V) (a b : PyData) (Q : PyData → Prop) (R : VK), Stt K B c s G H → Dp K G x a → Dp K G y b → f a b Q →
  (∀ v d G' H', Stt K B c s G' H' → Same G G' → Dp K G' v d → Q d → R v H') → r x y H R
def u2 (f : PyData → PyData → (PyData → Prop) → Prop) (ta tb : TD) : TD := fun c Q => ta c fun x c1 => tb c1 fun y c2 => f x y fun z => Q z c2
variable {a b : Expr} {ta tb : TD}
theorem two {tea teb : TE} (ha : DEv X.K tea ta) (hb : DEv X.K teb tb) {r : R2} {f : PyData → PyData → (PyData → Prop) → Prop} (hr : OpD X.K r f) : DEv X.K (tOp r tea teb) (u2 f ta tb) := (by
  intro B c s G H Q R st q k
  refine ha B c s G H _ _ st q fun v x c1 G1 H1 st1 e1 d1 q1 => ?_
  refine hb B c1 s G1 H1 _ _ st1 q1 fun w y c2 G2 H2 st2 e2 d2 q2 => ?_
  exact hr B c2 s G2 H2 v w x y _ R st2 (dp_mono e2 _ _ d1) d2 q2 fun z d G3 H3 st3 e3 d3 q3 => k z d c2 G3 H3 st3 ((e1.trans e2).trans e3) d3 q3
  )
theorem d_op {op : Operator} {r : R2} {f : PyData → PyData → (PyData → Prop) → Prop} (ho : OpR X (binaryOp op) r) (hr : OpD X.K r f) (ha : DE X a ta) (hb : DE X b tb) : DE X (.BinOp a op b pos) (u2 f ta tb) := (by
  obtain ⟨tea, pa, va⟩ := ha.ex
  obtain ⟨teb, pb, vb⟩ := hb.ex
  exact ⟨_, pe_op ho pa pb, two va vb hr⟩
  )
theorem d_cmp {op : CmpOp} {r : R2} {f : PyData → PyData → (PyData → Prop) → Prop} (ho : OpR X (compareOp op) r) (hr : OpD X.K r f) (ha : DE X a ta) (hb : DE X b tb) (hm : behindInMarks op b = false) : DE X (.Compare a [op] [b] pos) (u2 f ta tb) := (by
  obtain ⟨tea, pa, va⟩ := ha.ex
  obtain ⟨teb, pb, vb⟩ := hb.ex
  exact ⟨_, pe_cmpR ho pa pb hm, two va vb hr⟩
  )
/-- two ints in, under C -/
def fI (C : Int → Int → Prop) (g : Int → Int → PyData) : PyData → PyData → (PyData → Prop) → Prop := fun x y Q => asI x fun i => asI y fun j => C i j ∧ Q (g i j)
def fI0 (g : Int → Int → PyData) : PyData → PyData → (PyData → Prop) → Prop := fun x y Q => asI x fun i => asI y fun j => Q (g i j)
theorem dp_int {K : PySem.W.Frag} {G : Hp} {v : V} {i : Int} (h : Dp K G v (.int i)) : v = .int i := by cases h; rfl
theorem dp_str {K : PySem.W.Frag} {G : Hp} {v : V} {i : Str} (h : Dp K G v (.str i)) : v = .str i := by cases h; rfl
theorem dp_bl {K : PySem.W.Frag} {G : Hp} {v : V} {i : Bool} (h : Dp K G v (.bool i)) : v = .bl i := by cases h; rfl
theorem dp_lst {K : PySem.W.Frag} {G : Hp} {v : V} {ds : List PyData} (h : Dp K G v (.list ds)) : ∃ a vs, v = .ref a ∧ SqL K G a vs ∧ DpAll K G vs ds := by cases h; exact ⟨_, _, rfl, by assumption, by assumption⟩
theorem dp_tup {K : PySem.W.Frag} {G : Hp} {v : V} {ds : List PyData} (h : Dp K G v (.tuple ds)) : ∃ a vs, v = .ref a ∧ SqT K G a vs ∧ DpAll K G vs ds := by cases h; exact ⟨_, _, rfl, by assumption, by assumption⟩
theorem op_i {K : PySem.W.Frag} {C : Int → Int → Prop} {g : Int → Int → Int} : OpD K (rI C fun i j => .int (g i j)) (fI C fun i j => .int (g i j)) := (by
  intro B c s G H x y a b Q R st dx dy h k
  unfold fI at h
  obtain ⟨i, rfl, h⟩ := asI_of h
  have h : asI b fun j => C i j ∧ Q (.int (g i j)) := h
  obtain ⟨j, rfl, hc, q⟩ := asI_of h
  exact ⟨i, j, dp_int dx, dp_int dy, hc, k _ _ G H st (Same.refl _) (.int _) q⟩
  )
theorem op_i0 {K : PySem.W.Frag} {g : Int → Int → Int} : OpD K (rI0 fun i j => .int (g i j)) (fI0 fun i j => .int (g i j)) := (by
  intro B c s G H x y a b Q R st dx dy h k
  unfold fI0 at h
  obtain ⟨i, rfl, h⟩ := asI_of h
  have h : asI b fun j => Q (.int (g i j)) := h
  obtain ⟨j, rfl, q⟩ := asI_of h
  exact ⟨i, j, dp_int dx, dp_int dy, k _ _ G H st (Same.refl _) (.int _) q⟩
  )
theorem op_b0 {K : PySem.W.Frag} {g : Int → Int → Bool} : OpD K (rI0 fun i j => .bl (g i j)) (fI0 fun i j => .bool (g i j)) := (by
  intro B c s G H x y a b Q R st dx dy h k
  unfold fI0 at h
  obtain ⟨i, rfl, h⟩ := asI_of h
  have h : asI b fun j => Q (.bool (g i j)) := h
  obtain ⟨j, rfl, q⟩ := asI_of h
  exact ⟨i, j, dp_int dx, dp_int dy, k _ _ G H st (Same.refl _) (.bl _) q⟩
  )
/-- + of ints, of texts -/
def fAdd : PyData → PyData → (PyData → Prop) → Prop := fun x y Q => match x with
  | .int i => asI y fun j => Q (.int (i + j))
  | .str i => asS y fun j => i.length + j.length ≤ sizeLine ∧ Q (.str (i ++ j))
  | _ => False
theorem fAdd_i {i j : Int} {Q : PyData → Prop} : fAdd (.int i) (.int j) Q = Q (.int (i + j)) := id rfl
theorem fAdd_s {i j : Str} {Q : PyData → Prop} : fAdd (.str i) (.str j) Q = (i.length + j.length ≤ sizeLine ∧ Q (.str (i ++ j))) := id rfl
theorem OpR.or2 {f : Value → Value → Sem Value} {r r' : R2} (h : OpR X f r) (h' : OpR X f r') : OpR X f (fun x y H Q => r x y H Q ∨ r' x y H Q) := fun pins s σ H x y v u Q I r1 r2 hh => hh.elim (h pins s σ H x y v u Q I r1 r2) (h' pins s σ H x y v u Q I r1 r2)
theorem d_add (ha : DE X a ta) (hb : DE X b tb) : DE X (.BinOp a .Add b pos) (u2 fAdd ta tb) := (by
  refine d_op (OpR.or2 op_add op_add_str) (fun B c s G H x y a b Q R st dx dy h k => ?_) ha hb
  cases a with
  | int i =>
    obtain ⟨j, rfl, q⟩ := asI_of h
    exact .inl ⟨i, j, dp_int dx, dp_int dy, k _ _ G H st (Same.refl _) (.int _) q⟩
  | str i =>
    obtain ⟨j, rfl, hl, q⟩ := asS_of h
    exact .inr ⟨i, j, dp_str dx, dp_str dy, hl, k _ _ G H st (Same.refl _) (.str _) q⟩
  | none => exact h.elim
  | bool _ => exact h.elim
  | list _ => exact h.elim
  | tuple _ => exact h.elim
  | dict _ => exact h.elim
  )
theorem d_sub (ha : DE X a ta) (hb : DE X b tb) : DE X (.BinOp a .Sub b pos) (u2 (fI0 fun i j => .int (i - j)) ta tb) := d_op op_sub op_i0 ha hb
/-- one factor of at most 64 bits, or both of together less than a million -/
def CMulA (i j : Int) : Prop := CMul i j ∨ CMulW i j
theorem op_mulA : OpR X (binaryOp .Mult) (rI CMulA fun i j => .int (i * j)) := opI fun _ _ _ _ _ _ _ hc q => mul_int q (hc.elim (fun z => z.ok) fun z => z.ok)
theorem d_mul (ha : DE X a ta) (hb : DE X b tb) : DE X (.BinOp a .Mult b pos) (u2 (fI CMulA fun i j => .int (i * j)) ta tb) := d_op op_mulA op_i ha hb
def CDivA (_ j : Int) : Prop := j ≠ 0 ∧ j.natAbs.log2 < 9000
theorem op_fdivA : OpR X (binaryOp .FloorDiv) (rI CDivA fun i j => .int (i.fdiv j)) := opI fun _ _ _ _ _ _ _ hc q => floordiv_int hc.1 q (.inl (PyProof.noPylong_of_log2 hc.2))
theorem d_fdiv (ha : DE X a ta) (hb : DE X b tb) : DE X (.BinOp a .FloorDiv b pos) (u2 (fI CDivA fun i j => .int (i.fdiv j)) ta tb) := d_op op_fdivA op_i ha hb
theorem d_mod (ha : DE X a ta) (hb : DE X b tb) : DE X (.BinOp a .Mod b pos) (u2 (fI (fun _ j => j ≠ 0) fun i j => .int (i.fmod j)) ta tb) := d_op op_modN op_i ha hb
theorem d_pow (ha : DE X a ta) (hb : DE X b tb) : DE X (.BinOp a .Pow b pos) (u2 (fI CPow fun i j => .int (i ^ j.toNat)) ta tb) := d_op op_pow op_i ha hb
theorem d_gt (ha : DE X a ta) (hb : DE X b tb) : DE X (.Compare a [.Gt] [b] pos) (u2 (fI0 fun i j => .bool (decide (j < i))) ta tb) := d_cmp op_gt op_b0 ha hb (nomark _)
theorem d_ge (ha : DE X a ta) (hb : DE X b tb) : DE X (.Compare a [.GtE] [b] pos) (u2 (fI0 fun i j => .bool (decide (j ≤ i))) ta tb) := d_cmp op_ge op_b0 ha hb (nomark _)
/-- == and != of data at any depth -/
def fEq (neg : Bool) : PyData → PyData → (PyData → Prop) → Prop := fun x y Q => SeqAt.shaped x = true ∧ SeqAt.shaped y = true ∧ Q (.bool (if neg then !PyData.eqv x y else PyData.eqv x y))
theorem d_eq (hu : X.A.units + 64 < cLine) (ha : DE X a ta) (hb : DE X b tb) : DE X (.Compare a [.Eq] [b] pos) (u2 (fEq false) ta tb) := (by
  refine d_cmp (op_eqD hu) (fun B c s G H x y a b Q R st dx dy h k => ?_) ha hb (nomark _)
  obtain ⟨s1, s2, q⟩ := h
  exact ⟨a, b, dp_mono st.sub _ _ dx, dp_mono st.sub _ _ dy, s1, s2, k _ _ G H st (Same.refl _) (.bl _) q⟩
  )
theorem d_ne (hu : X.A.units + 64 < cLine) (ha : DE X a ta) (hb : DE X b tb) : DE X (.Compare a [.NotEq] [b] pos) (u2 (fEq true) ta tb) := (by
  refine d_cmp (op_neD hu) (fun B c s G H x y a b Q R st dx dy h k => ?_) ha hb (nomark _)
  obtain ⟨s1, s2, q⟩ := h
  exact ⟨a, b, dp_mono st.sub _ _ dx, dp_mono st.sub _ _ dy, s1, s2, k _ _ G H st (Same.refl _) (.bl _) q⟩
  )
theorem d_neg (ha : DE X a ta) : DE X (.UnaryOp .USub a pos) (fun c Q => ta c fun x c1 => asI x fun i => Q (.int (-i)) c1) := (by
  obtain ⟨tea, pa, va⟩ := ha.ex
  refine ⟨_, pe_un un_neg pa, fun B c s G H Q R st q k => va B c s G H _ _ st q fun v x c1 G1 H1 st1 e1 d1 q1 => ?_⟩
  obtain ⟨i, rfl, q⟩ := asI_of q1
  exact ⟨i, dp_int d1, k _ _ c1 G1 H1 st1 e1 (.int _) q⟩
  )
/-! ### tests -/
/-- an expression that is a truth -/
def wB (t : TD) : TB := fun c Q => t c fun x c1 => asB x fun b => Q b c1
variable {tA tB' : TB} {rest : List Expr}
theorem tv {e : Expr} {t : TD} (h : DE X e t) (he : ∀ whole, isTrue e X.env whole = (do let v ← whole; standAt e.pos; holding [v] (truthy v)) := by intro _; rfl) : DT X e (wB t) := (by
  obtain ⟨te, pe, ve⟩ := h.ex
  refine ⟨_, pt_val pe he, fun B c s G H Q R st q k => ve B c s G H _ _ st q fun v x c1 G1 H1 st1 e1 d1 q1 => ?_⟩
  obtain ⟨b, rfl, q⟩ := asB_of q1
  exact ⟨b, dp_bl d1, k b c1 G1 H1 st1 e1 q⟩
  )
/-- a comparison as a test -/
theorem tc {op : CmpOp} {r : R2} {f : PyData → PyData → (PyData → Prop) → Prop} (ho : OpR X (compareOp op) r) (hr : OpD X.K r f) (ha : DE X a ta) (hb : DE X b tb) (hm : behindInMarks op b = false) : DT X (.Compare a [op] [b] pos) (wB (u2 f ta tb)) := (by
  obtain ⟨tea, pa, va⟩ := ha.ex
  obtain ⟨teb, pb, vb⟩ := hb.ex
  refine ⟨_, pt_cmpR ho pa pb hm, fun B c s G H Q R st q k => two va vb hr B c s G H _ _ st q fun v x c1 G1 H1 st1 e1 d1 q1 => ?_⟩
  obtain ⟨b, rfl, q⟩ := asB_of q1
  exact ⟨b, dp_bl d1, k b c1 G1 H1 st1 e1 q⟩
  )
theorem t_lt (ha : DE X a ta) (hb : DE X b tb) : DT X (.Compare a [.Lt] [b] pos) (wB (u2 (fI0 fun i j => .bool (decide (i < j))) ta tb)) := tc op_lt op_b0 ha hb (nomark _)
theorem t_gt (ha : DE X a ta) (hb : DE X b tb) : DT X (.Compare a [.Gt] [b] pos) (wB (u2 (fI0 fun i j => .bool (decide (j < i))) ta tb)) := tc op_gt op_b0 ha hb (nomark _)
theorem opd_eq {K : PySem.W.Frag} : OpD K (rEqD K) (fEq false) := fun B c s G H x y a b Q R st dx dy ⟨s1, s2, q⟩ k => ⟨a, b, dp_mono st.sub _ _ dx, dp_mono st.sub _ _ dy, s1, s2, k _ _ G H st (Same.refl _) (.bl _) q⟩
theorem t_eq (hu : X.A.units + 64 < cLine) (ha : DE X a ta) (hb : DE X b tb) : DT X (.Compare a [.Eq] [b] pos) (wB (u2 (fEq false) ta tb)) := tc (op_eqD hu) opd_eq ha hb (nomark _)
def wNot (t : TB) : TB := fun c Q => t c fun b c1 => Q (!b) c1
def wAnd (t u : TB) : TB := fun c Q => t c fun b c1 => if b = true then u c1 Q else Q false c1
def wOr (t u : TB) : TB := fun c Q => t c fun b c1 => if b = true then Q true c1 else u c1 Q
theorem t_not (ha : DT X a tA) : DT X (.UnaryOp .Not a pos) (wNot tA) := (by
  obtain ⟨te, pe, ve⟩ := ha.ex
  exact ⟨_, pt_not pe, fun B c s G H Q R st q k => ve B c s G H _ _ st q fun b c1 G1 H1 st1 e1 q1 => k _ c1 G1 H1 st1 e1 q1⟩
  )
theorem DW.dt {e : Expr} {t : TB} (h : DW X e t) : DT X e t := let ⟨te, p, v⟩ := h.ex; ⟨te, p.pt, v⟩
theorem w_and1 (ha : DT X a tA) : DW X (.BoolOp .And [a] pos) tA := let ⟨te, p, v⟩ := ha.ex; ⟨te, pw_and1 p, v⟩
theorem w_or1 (ha : DT X a tA) : DW X (.BoolOp .Or [a] pos) tA := let ⟨te, p, v⟩ := ha.ex; ⟨te, pw_or1 p, v⟩
theorem wand_v {t1 t2 : TT} (v1 : DTv X.K t1 tA) (v2 : DTv X.K t2 tB') : DTv X.K (L2.tAnd t1 t2) (wAnd tA tB') := fun B c s G H Q R st q k => v1 B c s G H _ _ st q fun b c1 G1 H1 st1 e1 q1 => by
  cases b with
  | true =>
    rw [if_pos rfl] at q1 ⊢
    exact v2 B c1 s G1 H1 _ _ st1 q1 fun b2 c2 G2 H2 st2 e2 q2 => k b2 c2 G2 H2 st2 (e1.trans e2) q2
  | false =>
    rw [if_neg Bool.false_ne_true] at q1 ⊢
    exact k _ c1 G1 H1 st1 e1 q1
theorem wor_v {t1 t2 : TT} (v1 : DTv X.K t1 tA) (v2 : DTv X.K t2 tB') : DTv X.K (L2.tOr t1 t2) (wOr tA tB') := fun B c s G H Q R st q k => v1 B c s G H _ _ st q fun b c1 G1 H1 st1 e1 q1 => by
  cases b with
  | false =>
    rw [if_neg Bool.false_ne_true] at q1 ⊢
    exact v2 B c1 s G1 H1 _ _ st1 q1 fun b2 c2 G2 H2 st2 e2 q2 => k b2 c2 G2 H2 st2 (e1.trans e2) q2
  | true =>
    rw [if_pos rfl] at q1 ⊢
    exact k _ c1 G1 H1 st1 e1 q1
theorem w_and (ha : DT X a tA) (hb : DW X (.BoolOp .And (b :: rest) pos) tB') : DW X (.BoolOp .And (a :: b :: rest) pos) (wAnd tA tB') :=
  let ⟨_, p1, v1⟩ := ha.ex; let ⟨_, p2, v2⟩ := hb.ex; ⟨_, pw_and p1 p2, wand_v v1 v2⟩
theorem w_or (ha : DT X a tA) (hb : DW X (.BoolOp .Or (b :: rest) pos) tB') : DW X (.BoolOp .Or (a :: b :: rest) pos) (wOr tA tB') :=
  let ⟨_, p1, v1⟩ := ha.ex; let ⟨_, p2, v2⟩ := hb.ex; ⟨_, pw_or p1 p2, wor_v v1 v2⟩
/-- and, or, not as values -/
def uAnd (ta tb : TD) : TD := fun c Q => ta c fun x c1 => asB x fun b => if b = true then tb c1 Q else Q (.bool false) c1
def uOr (ta tb : TD) : TD := fun c Q => ta c fun x c1 => asB x fun b => if b = true then Q (.bool true) c1 else tb c1 Q
theorem d_one {op} {t : TD} (h : DE X a t) : DE X (.BoolOp op [a] pos) t := let ⟨te, p, v⟩ := h.ex; ⟨te, pe_one p, v⟩
theorem d_and (ha : DE X a ta) (hb : DE X (.BoolOp .And (b :: rest) pos) tb) : DE X (.BoolOp .And (a :: b :: rest) pos) (uAnd ta tb) := (by
  obtain ⟨tea, pa, va⟩ := ha.ex
  obtain ⟨teb, pb, vb⟩ := hb.ex
  refine ⟨_, pe_and pa pb, fun B c s G H Q R st q k => va B c s G H _ _ st q fun v x c1 G1 H1 st1 e1 d1 q1 => ?_⟩
  obtain ⟨b, rfl, q⟩ := asB_of q1
  refine ⟨b, dp_bl d1, ?_⟩
  cases b with
  | true =>
    rw [if_pos rfl] at q ⊢
    exact vb B c1 s G1 H1 _ _ st1 q fun v2 x2 c2 G2 H2 st2 e2 d2 q2 => k v2 x2 c2 G2 H2 st2 (e1.trans e2) d2 q2
  | false =>
    rw [if_neg Bool.false_ne_true] at q ⊢
    exact k _ _ c1 G1 H1 st1 e1 (.bl _) q
  )
theorem d_or (ha : DE X a ta) (hb : DE X (.BoolOp .Or (b :: rest) pos) tb) : DE X (.BoolOp .Or (a :: b :: rest) pos) (uOr ta tb) := (by
  obtain ⟨tea, pa, va⟩ := ha.ex
  obtain ⟨teb, pb, vb⟩ := hb.ex
  refine ⟨_, pe_or pa pb, fun B c s G H Q R st q k => va B c s G H _ _ st q fun v x c1 G1 H1 st1 e1 d1 q1 => ?_⟩
  obtain ⟨b, rfl, q⟩ := asB_of q1
  refine ⟨b, dp_bl d1, ?_⟩
  cases b with
  | false =>
    rw [if_neg Bool.false_ne_true] at q ⊢
    exact vb B c1 s G1 H1 _ _ st1 q fun v2 x2 c2 G2 H2 st2 e2 d2 q2 => k v2 x2 c2 G2 H2 st2 (e1.trans e2) d2 q2
  | true =>
    rw [if_pos rfl] at q ⊢
    exact k _ _ c1 G1 H1 st1 e1 (.bl _) q
  )
/-! ### argument lists, displays, items -/
def aNil : TL := fun c Q => Q [] c
def aCons (ta : TD) (tr : TL) : TL := fun c Q => ta c fun x c1 => tr c1 fun xs c2 => Q (x :: xs) c2
theorem a_nil : DA X [] aNil := ⟨_, pa_nil, fun B c s G H Q R st q k => k [] [] c G H st (Same.refl _) .nil q⟩
theorem a_cons {es : List Expr} {tr : TL} (ha : DE X a ta) (hr : DA X es tr) (hs : starEach (a :: es) X.env = (false, eval a X.env) :: starEach es X.env := by rfl) : DA X (a :: es) (aCons ta tr) := (by
  obtain ⟨tea, pa, va⟩ := ha.ex
  obtain ⟨ter, pr, vr⟩ := hr.ex
  refine ⟨_, pa_cons pa pr hs, fun B c s G H Q R st q k => va B c s G H _ _ st q fun v x c1 G1 H1 st1 e1 d1 q1 => ?_⟩
  exact vr B c1 s G1 H1 _ _ st1 q1 fun vs xs c2 G2 H2 st2 e2 d2 q2 => k _ _ c2 G2 H2 st2 (e1.trans e2) (.cons (dp_mono e2 _ _ d1) d2) q2
  )
variable {es : List Expr} {tl : TL}
def uTup (t : TL) : TD := fun c Q => t c fun xs c1 => xs.length ≤ sizeLine ∧ Q (.tuple xs) c1
theorem d_tup {x1} (h : DA X es tl) : DE X (.Tuple es x1 pos) (uTup tl) := (by
  obtain ⟨te, p, v⟩ := h.ex
  refine ⟨_, pe_tup p, fun B c s G H Q R st q k => v B c s G H _ _ st q fun vs xs c1 G1 H1 st1 e1 d1 q1 => ?_⟩
  refine ⟨by rw [dpa_len d1]; exact q1.1, fun p hp => ?_⟩
  obtain ⟨st2, e2⟩ := st1.laid (o := .tup vs) hp
  exact k _ _ c1 _ _ st2 (e1.trans e2) (.tup (.inl (.inl upd_same)) (dpa_mono e2 _ _ d1)) q1.2
  )
def oLst (t : TL) : TR := fun c Q => t c fun xs c1 => xs.length ≤ sizeLine ∧ Q (.lst xs) c1
theorem o_lst (h : DA X es tl) : DO X (.List es pos) (oLst tl) := (by
  obtain ⟨te, p, v⟩ := h.ex
  refine ⟨_, pe_lst p, fun B c s G H Q R st q k => v B c s G H _ _ st q fun vs xs c1 G1 H1 st1 e1 d1 q1 => ?_⟩
  refine ⟨by rw [dpa_len d1]; exact q1.1, fun p hp => ?_⟩
  exact k _ _ c1 _ _ (st1.laidL hp d1) e1 q1.2
  )
/-- xs[i] of data: lists, tuples, texts -/
def ixD (x : PyData) (i : Int) (Q : PyData → Prop) : Prop := match x with
  | .list ds => atD ds i Q
  | .tuple ds => atD ds i Q
  | .str z => ∃ n, z.length ≤ sizeLine ∧ atI z.cps.toList i = some n ∧ Q (.str ⟨#[n]⟩)
  | _ => False
theorem ixD_l {ds : List PyData} {i : Int} {Q : PyData → Prop} : ixD (.list ds) i Q = atD ds i Q := id rfl
theorem ixD_t {ds : List PyData} {i : Int} {Q : PyData → Prop} : ixD (.tuple ds) i Q = atD ds i Q := id rfl
theorem ixD_s {z : Str} {i : Int} {Q : PyData → Prop} : ixD (.str z) i Q = ∃ n, z.length ≤ sizeLine ∧ atI z.cps.toList i = some n ∧ Q (.str ⟨#[n]⟩) := id rfl
def fIx : PyData → PyData → (PyData → Prop) → Prop := fun x y Q => asI y fun i => ixD x i Q
theorem atI_dp {K : PySem.W.Frag} {G : Hp} {vs : List V} {ds : List PyData} {i : Int} {d : PyData} (h : DpAll K G vs ds) (e : atI ds i = some d) : ∃ v, atI vs i = some v ∧ Dp K G v d := (by
  unfold atI at e ⊢
  rw [dpa_len h]
  cases q : ixN ds.length i with
  | none => rw [q] at e; cases e
  | some j =>
    rw [q] at e
    exact dpa_get h e
  )
theorem d_ix (hs : PlainIx b) (ha : DE X a ta) (hb : DE X b tb) : DE X (.Subscript a b pos) (u2 fIx ta tb) := (by
  obtain ⟨tea, pa, va⟩ := ha.ex
  obtain ⟨teb, pb, vb⟩ := hb.ex
  refine ⟨_, pe_ix ix_seq pa pb hs, two va vb fun B c s G H x y a b Q R st dx dy h k => ?_⟩
  unfold fIx at h
  obtain ⟨i, rfl, h⟩ := asI_of h
  cases a with
  | list ds =>
    obtain ⟨d, e, q⟩ := h
    obtain ⟨p, vs, rfl, h1, h2⟩ := dp_lst dx
    obtain ⟨v, e2, d2⟩ := atI_dp h2 e
    exact .inl ⟨p, vs, i, v, rfl, dp_int dy, Same.seq st.sub h1, e2, k v d G H st (Same.refl _) d2 q⟩
  | tuple ds =>
    obtain ⟨d, e, q⟩ := h
    obtain ⟨p, vs, rfl, h1, h2⟩ := dp_tup dx
    obtain ⟨v, e2, d2⟩ := atI_dp h2 e
    exact .inr (.inl ⟨p, vs, i, v, rfl, dp_int dy, same_t st.sub h1, e2, k v d G H st (Same.refl _) d2 q⟩)
  | str z =>
    obtain ⟨n, hl, e, q⟩ := h
    exact .inr (.inr ⟨z, i, n, dp_str dx, dp_int dy, hl, e, k _ _ G H st (Same.refl _) (.str _) q⟩)
  | none => exact h.elim
  | bool _ => exact h.elim
  | int _ => exact h.elim
  | dict _ => exact h.elim
  )
theorem Stt.own_at {K : PySem.W.Frag} {B : Base} {c : Ctx} {s : L2.St} {G H : Hp} (st : Stt K B c s G H) {j : Nat} {w : Option Lt} {R : Res} (e : c[j]? = some (.o w R)) : ∃ v, s[j]? = some (some v) := (by
  obtain ⟨A, r, w'⟩ := st.ex
  obtain ⟨v, _, h, _⟩ := r.focus w'.nd e
  exact ⟨v, h⟩
  )
/-- a built-in called with data, its answer data; its answer a new owned thing -/
def CallD (K : PySem.W.Frag) (r : List V → Hp → VK → Prop) (f : List PyData → (PyData → Prop) → Prop) : Prop := ∀ (B : Base) (c : Ctx) (s : L2.St) (G H : Hp) (vs : List V) (xs : List PyData) (Q : PyData → Prop) (R : VK), Stt K B c s G H → DpAll K G vs xs → f xs Q →
  (∀ v d G' H', Stt K B c s G' H' → Same G G' → Dp K G' v d → Q d → R v H') → r vs H R
def uCB (f : List PyData → (PyData → Prop) → Prop) (t : TL) : TD := fun c Q => t c fun xs c1 => f xs fun z => Q z c1
variable {id T : String} {r : List V → Hp → VK → Prop} {f : List PyData → (PyData → Prop) → Prop} {fo : List PyData → (Res → Prop) → Prop} {x : Str} {p : Pos}
theorem d_callB (hc : CallR X (.builtin id) r) (hr : CallD X.K r f) (hm : X.mg x = none) (hv : bootBuiltins x = some (.builtin id)) (ha : DA X (a :: es) tl) (hg : Gl X x := by rfl) (hn : x ≠ "__name__" := by decide) (hdb : (x == ("__debug__" : Str)) = false := by decide)
    (he : starEach (a :: es) X.env = (false, eval a X.env) :: starEach es X.env := by rfl) (hpl : (backTo pos (starEach es X.env)).any (·.1) = false := by rfl) : DE X (.Call (.Name x p) (a :: es) [] pos) (uCB f tl) := (by
  obtain ⟨tea, pa, va⟩ := ha.ex
  refine ⟨_, pe_callB hc hg hm hv pa hn hdb he hpl, fun B c s G H Q R st q k => va B c s G H _ _ st q fun vs xs c1 G1 H1 st1 e1 d1 q1 => ?_⟩
  exact hr B c1 s G1 H1 vs xs _ R st1 d1 q1 fun v d G2 H2 st2 e2 d2 q2 => k v d c1 G2 H2 st2 (e1.trans e2) d2 q2
  )
theorem dpa_1 {K : PySem.W.Frag} {G : Hp} {vs : List V} {x : PyData} (h : DpAll K G vs [x]) : ∃ v, vs = [v] ∧ Dp K G v x := (by
  cases h with
  | cons h1 h2 => cases h2; exact ⟨_, rfl, h1⟩
  )
theorem dpa_2 {K : PySem.W.Frag} {G : Hp} {vs : List V} {x y : PyData} (h : DpAll K G vs [x, y]) : ∃ v w, vs = [v, w] ∧ Dp K G v x ∧ Dp K G w y := (by
  cases h with
  | cons h1 h2 =>
    obtain ⟨w, rfl, h3⟩ := dpa_1 h2
    exact ⟨_, w, rfl, h1, h3⟩
  )
/-- len(e) of data -/
def fLen1 (x : PyData) (Q : PyData → Prop) : Prop := match x with
  | .list ds => Q (.int ds.length)
  | .tuple ds => Q (.int ds.length)
  | .str z => z.length ≤ sizeLine ∧ Q (.int z.length)
  | _ => False
def arg2 (xs : List PyData) (Q : PyData → PyData → Prop) : Prop := match xs with
  | [x, y] => Q x y
  | _ => False
theorem arg2_2 {x y : PyData} {Q : PyData → PyData → Prop} : arg2 [x, y] Q = Q x y := id rfl
theorem arg2_of {xs : List PyData} {Q : PyData → PyData → Prop} (h : arg2 xs Q) : ∃ x y, xs = [x, y] ∧ Q x y := (by
  match xs, h with
  | [x, y], h => exact ⟨x, y, rfl, h⟩
  | [], h => exact False.elim h
  | [_], h => exact False.elim h
  | _ :: _ :: _ :: _, h => exact False.elim h
  )
theorem fLen1_l {ds : List PyData} {Q : PyData → Prop} : fLen1 (.list ds) Q = Q (.int ds.length) := id rfl
theorem fLen1_t {ds : List PyData} {Q : PyData → Prop} : fLen1 (.tuple ds) Q = Q (.int ds.length) := id rfl
theorem fLen1_s {z : Str} {Q : PyData → Prop} : fLen1 (.str z) Q = (z.length ≤ sizeLine ∧ Q (.int z.length)) := id rfl
/-! ### isinstance of data -/
def tyD : PyData → Value
  | .none => .type "NoneType"
  | .bool _ => .type "bool"
  | .int _ => .type "int"
  | .str _ => .type "str"
  | .list _ => .type "list"
  | .tuple _ => .type "tuple"
  | .dict _ => .type "dict"
theorem tyX_of {K : PySem.W.Frag} {G H : Hp} (e : Same G H) : ∀ {v : V} {x : PyData}, Dp K G v x → TyX K H v (tyD x) := (by
  intro v x h
  cases h with
  | non => exact .base .non
  | bl b => exact .base (.bl b)
  | int i => exact .base (.int i)
  | str z => exact .base (.str z)
  | lst hs _ =>
    rcases hs with (h | ⟨o, h⟩) | ⟨o, its, n, h1, h2, _⟩
    · exact .base (.lst (e _ _ h))
    · exact .base (.frz (e _ _ h))
    · exact .kList h1 h2
  | tup hs _ =>
    rcases hs with (h | ⟨o, h⟩) | ⟨o, its, n, h1, h2, _⟩
    · exact .base (.tup (e _ _ h))
    · exact .fTuple (e _ _ h)
    · exact .kTuple h1 h2
  )
def isStrD : PyData → Bool
  | .str _ => true
  | _ => false
section
variable {b : Bool} {i : Int} {z : Str} {ds : List PyData}
theorem isS_n : isStrD .none = false := id rfl
theorem isS_b : isStrD (.bool b) = false := id rfl
theorem isS_i : isStrD (.int i) = false := id rfl
theorem isS_s : isStrD (.str z) = true := id rfl
theorem isS_l : isStrD (.list ds) = false := id rfl
theorem isS_t : isStrD (.tuple ds) = false := id rfl
end
end
end Dl

/-! Statements and defs over data. -/
namespace Dl
open PySem PySem.Spec PyProof.Rows L2

/-- what is wanted behind a statement -/
structure De where
  nx : Ctx → Prop
  rt : S → Ctx → Prop
  bk : Ctx → Prop := fun _ => False
  ct : Ctx → Prop := fun _ => False
abbrev TSd := De → Ctx → Prop
structure Conn (K : PySem.W.Frag) (B : Base) (G : Hp) (D : Ends) (E : De) : Prop where
  nx : ∀ c s G' H', Stt K B c s G' H' → Same G G' → E.nx c → D.nx s H'
  rt : ∀ r c v s G' H', Stt K B (r :: c) (some v :: s) G' H' → Same G G' → E.rt r c → D.rt v H'
  bk : ∀ c s G' H', Stt K B c s G' H' → Same G G' → E.bk c → D.bk s H'
  ct : ∀ c s G' H', Stt K B c s G' H' → Same G G' → E.ct c → D.ct s H'
theorem Conn.mono {K : PySem.W.Frag} {B : Base} {G G1 : Hp} {D : Ends} {E : De} (h : Conn K B G D E) (e : Same G G1) : Conn K B G1 D E :=
  ⟨fun c s G' H' st e' q => h.nx c s G' H' st (e.trans e') q, fun r c v s G' H' st e' q => h.rt r c v s G' H' st (e.trans e') q, fun c s G' H' st e' q => h.bk c s G' H' st (e.trans e') q, fun c s G' H' st e' q => h.ct c s G' H' st (e.trans e') q⟩
def DSv (K : PySem.W.Frag) (ts : TS) (t : TSd) : Prop := ∀ (B : Base) (c : Ctx) (s : L2.St) (G H : Hp) (D : Ends) (E : De), Stt K B c s G H → Conn K B G D E → t E c → ts D s H
structure DS (X : Cx) (st : Stmt) (t : TSd) : Prop where
  ex : ∃ ts, PS X st ts ∧ DSv X.K ts t
structure DSs (X : Cx) (st : List Stmt) (t : TSd) : Prop where
  ex : ∃ ts, PSs X st ts ∧ DSv X.K ts t

section
variable {X : Cx} {st : Stmt} {rest : List Stmt} {t u : TSd} {e : Expr} {te : TD} {to : TR} {tb : TB} {pos : Pos}
def zNext : TSd := fun E c => E.nx c
def zSeq (t u : TSd) : TSd := fun E c => t { E with nx := u E } c
theorem q_nil : DSs X [] zNext := ⟨_, pss_nil, fun B c s G H D E st k q => k.nx c s G H st (Same.refl _) q⟩
theorem q_one (h : DS X st t) : DSs X [st] t := let ⟨ts, p, v⟩ := h.ex; ⟨ts, pss_one p, v⟩
theorem q_cons (h : DS X st t) (h2 : DSs X rest u) : DSs X (st :: rest) (zSeq t u) := (by
  obtain ⟨ts, p, v⟩ := h.ex
  obtain ⟨us, p2, v2⟩ := h2.ex
  refine ⟨_, pss_cons p p2, fun B c s G H D E st k q => v B c s G H { D with nx := us D } { E with nx := u E } st ⟨fun c1 s1 G1 H1 st1 e1 q1 => ?_, k.rt, k.bk, k.ct⟩ q⟩
  exact v2 B c1 s1 G1 H1 D E st1 (k.mono e1) q1
  )
/-- a statement whose ways come together behind it -/
def zCut (t u : TSd) : TSd := fun E c => ∃ M : Ctx → Prop, t { E with nx := M } c ∧ ∀ c', M c' → u E c'
theorem q_cut (h : DS X st t) (h2 : DSs X rest u) : DSs X (st :: rest) (zCut t u) := (by
  obtain ⟨ts, p, v⟩ := h.ex
  obtain ⟨us, p2, v2⟩ := h2.ex
  refine ⟨_, pss_cons p p2, fun B c s G H D E st k q => ?_⟩
  obtain ⟨M, q1, q2⟩ := q
  refine v B c s G H { D with nx := us D } { E with nx := M } st ⟨fun c1 s1 G1 H1 st1 e1 m => ?_, k.rt, k.bk, k.ct⟩ q1
  exact v2 B c1 s1 G1 H1 D E st1 (k.mono e1) (q2 c1 m)
  )
/-- x = e -/
def zSet (j : Nat) (te : TD) : TSd := fun E c => te c fun x c1 => E.nx (c1.set j (.d x))
theorem s_set {j : Nat} {x : Str} {pos' : Pos} (hN : X.N.Nodup) (he : DE X e te) (hi : X.N[j]? = some x := by rfl) (hx : Loc X.env.scope x := by first | exact Or.inl rfl | exact Or.inr rfl) (hs : swapsWith e (some (.Name x pos')) pos.line X.env = pure false := by rfl) (hf : X.fn x = true ∨ X.env.scope.names.lookup x = some .local := by first | exact .inl rfl | exact .inr rfl | assumption) :
    DS X (.Assign [.Name x pos'] e pos) (zSet j te) := (by
  obtain ⟨tp, p, v⟩ := he.ex
  refine ⟨_, ps_set hN hi hx p hs hf, fun B c s G H D E st k q => v B c s G H _ _ st q fun w y c1 G1 H1 st1 e1 d1 q1 => ?_⟩
  exact k.nx _ _ G1 H1 (st1.set_d j d1) e1 q1
  )
/-- x = a new owned thing -/
def zSetO (j : Nat) (te : TR) : TSd := fun E c => te c fun R c1 => E.nx (c1.set j (.o none R))
theorem s_setO {j : Nat} {x : Str} {pos' : Pos} (hN : X.N.Nodup) (he : DO X e to) (hi : X.N[j]? = some x := by rfl) (hx : Loc X.env.scope x := by first | exact Or.inl rfl | exact Or.inr rfl) (hs : swapsWith e (some (.Name x pos')) pos.line X.env = pure false := by rfl) (hf : X.fn x = true ∨ X.env.scope.names.lookup x = some .local := by first | exact .inl rfl | exact .inr rfl | assumption) :
    DS X (.Assign [.Name x pos'] e pos) (zSetO j to) := (by
  obtain ⟨tp, p, v⟩ := he.ex
  refine ⟨_, ps_set hN hi hx p hs hf, fun B c s G H D E st k q => v B c s G H _ _ st q fun w y c1 G1 H1 st1 e1 q1 => ?_⟩
  exact k.nx _ _ G1 H1 (st1.set_o j) e1 q1
  )
def zRet (te : TD) : TSd := fun E c => te c fun x c1 => E.rt (.d x) c1
theorem s_ret (he : DE X e te) : DS X (.Return (some e) pos) (zRet te) := (by
  obtain ⟨tp, p, v⟩ := he.ex
  refine ⟨_, ps_ret p, fun B c s G H D E st k q => v B c s G H _ _ st q fun w y c1 G1 H1 st1 e1 d1 q1 => ?_⟩
  exact k.rt _ _ _ _ G1 H1 (st1.push_d d1) e1 q1
  )
def zRetO (te : TR) : TSd := fun E c => te c fun R c1 => E.rt (.o none R) c1
theorem s_retO (he : DO X e to) : DS X (.Return (some e) pos) (zRetO to) := (by
  obtain ⟨tp, p, v⟩ := he.ex
  refine ⟨_, ps_ret p, fun B c s G H D E st k q => v B c s G H _ _ st q fun w y c1 G1 H1 st1 e1 q1 => ?_⟩
  exact k.rt _ _ _ _ G1 H1 st1 e1 q1
  )
/-- .. of which a fact is kept alone -/
def zRetP (te : TR) (P : List PyData → Prop) : TSd := fun E c => te c fun R c1 => asR R fun ds => P ds ∧ E.rt (.o none (.lstP P)) c1
theorem s_retP (P : List PyData → Prop) (he : DO X e to) : DS X (.Return (some e) pos) (zRetP to P) := (by
  obtain ⟨tp, p, v⟩ := he.ex
  refine ⟨_, ps_ret p, fun B c s G H D E st k q => v B c s G H _ _ st q fun w y c1 G1 H1 st1 e1 q1 => ?_⟩
  obtain ⟨ds, rfl, hP, q2⟩ := asR_of q1
  have st2 := st1.shut (j := 0) rfl hP
  exact k.rt _ _ _ _ G1 H1 st2 e1 q2
  )
/-- return of the owned thing in slot j -/
theorem Stt.take_o {K : PySem.W.Frag} {B : Base} {c : Ctx} {s : L2.St} {G H : Hp} (st : Stt K B c s G H) {j : Nat} {R : Res} (e : c[j]? = some (.o none R)) : ∃ v, s[j]? = some (some v) ∧ Stt K B (.o none R :: c.set j .no) (some v :: s) G H := (by
  obtain ⟨A, r, w⟩ := st.ex
  have key : ∀ {c : Ctx} {s : L2.St} {A : List Addr}, Reps K B G H c s A → ∀ {j : Nat}, A.Nodup → c[j]? = some (.o none R) → ∃ v A1 A2, s[j]? = some (some v) ∧ R.P K G H v A1 ∧ WOk B none v A1 ∧ Reps K B G H (c.set j .no) s A2 ∧ (A1 ++ A2).Nodup ∧ ∀ a ∈ A1 ++ A2, a ∈ A := by
    intro c s A r
    induction r with
    | nil => intro j nd e; simp at e
    | no r ih =>
      intro j nd e
      cases j with
      | zero => simp at e
      | succ j =>
        obtain ⟨v, A1, A2, h1, h2, h3, h4, h5, h6⟩ := ih nd (by simpa using e)
        exact ⟨v, A1, A2, by simpa using h1, h2, h3, .no h4, h5, h6⟩
    | d hd r ih =>
      intro j nd e
      cases j with
      | zero => simp at e
      | succ j =>
        obtain ⟨v, A1, A2, h1, h2, h3, h4, h5, h6⟩ := ih nd (by simpa using e)
        exact ⟨v, A1, A2, by simpa using h1, h2, h3, .d hd h4, h5, h6⟩
    | f hd r ih =>
      intro j nd e
      cases j with
      | zero => simp at e
      | succ j =>
        obtain ⟨v, A1, A2, h1, h2, h3, h4, h5, h6⟩ := ih nd (by simpa using e)
        exact ⟨v, A1, A2, by simpa using h1, h2, h3, .f hd h4, h5, h6⟩
    | @o w2 v2 R2 c2 s2 Ah At ho hw2 r ih =>
      intro j nd e
      obtain ⟨n1, n2, n3⟩ := List.nodup_append.mp nd
      cases j with
      | zero =>
        have e' : S.o w2 R2 = S.o none R := by simpa using e
        cases e'
        exact ⟨v2, Ah, At, rfl, ho, hw2, .no r, nd, fun a ha => ha⟩
      | succ j =>
        obtain ⟨v, A1, A2, h1, h2, h3, h4, h5, h6⟩ := ih n2 (by simpa using e)
        refine ⟨v, A1, Ah ++ A2, by simpa using h1, h2, h3, .o ho hw2 h4, ?_, fun a ha => ?_⟩
        · obtain ⟨m1, m2, m3⟩ := List.nodup_append.mp h5
          refine List.nodup_append.mpr ⟨m1, List.nodup_append.mpr ⟨n1, m2, fun a ha b hb z => n3 a ha b (h6 b (List.mem_append_right _ hb)) z⟩, fun a ha b hb z => ?_⟩
          rcases List.mem_append.mp hb with y | y
          · exact n3 b y a (h6 a (List.mem_append_left _ ha)) z.symm
          · exact m3 a ha b y z
        · rcases List.mem_append.mp ha with y | y
          · exact List.mem_append_right _ (h6 a (List.mem_append_left _ y))
          · rcases List.mem_append.mp y with y | y
            · exact List.mem_append_left _ y
            · exact List.mem_append_right _ (h6 a (List.mem_append_right _ y))
  obtain ⟨v, A1, A2, h1, h2, h3, h4, h5, h6⟩ := key r w.nd e
  exact ⟨v, h1, ⟨A1 ++ A2, .o h2 h3 h4, w.sub, h5, fun a ha => w.out a (h6 a ha), w.old, w.stay, w.dom, w.newG, fun a ha => w.lim a (h6 a ha)⟩⟩
  )
/-- the name of an owned thing made here, given away -/
def oVar (j : Nat) : TR := fun c Q => slO c j fun w R => w = none ∧ Q R (c.set j .no)
theorem o_var (j : Nat) {x : Str} (hN : X.N[j]? = some x := by rfl) (hv : Vis X.env.scope x := by first | exact Or.inl rfl | exact Or.inr (Or.inl rfl) | exact Or.inr (Or.inr rfl)) (hd : (x == ("__debug__" : Str)) = false := by decide)
    (hcd : (x == ("__classdict__" : Str)) = false := by decide) : DO X (.Name x pos) (oVar j) := (by
  refine ⟨_, pe_var hN hv hd hcd, fun B c s G H Q R st h k => ?_⟩
  obtain ⟨w0, R0, e, hw, q⟩ := slO_of h
  subst hw
  obtain ⟨v, e1, st2⟩ := st.take_o e
  exact ⟨v, e1, k v R0 _ G H st2 (Same.refl _) q⟩
  )
def zIf (tc : TB) (t u : TSd) : TSd := fun E c => tc c fun b c1 => if b = true then t E c1 else u E c1
theorem s_if {a b : List Stmt} (hc : DT X e tb) (ha : DSs X a t) (hb : DSs X b u) : DS X (.If e a b pos) (zIf tb t u) := (by
  obtain ⟨tp, p, v⟩ := hc.ex
  obtain ⟨t1, p1, v1⟩ := ha.ex
  obtain ⟨t2, p2, v2⟩ := hb.ex
  refine ⟨_, ps_if p p1 p2, fun B c s G H D E st k q => v B c s G H _ _ st q fun b c1 G1 H1 st1 e1 q1 => ?_⟩
  cases b with
  | true =>
    rw [if_pos rfl] at q1 ⊢
    exact v1 B c1 s G1 H1 D E st1 (k.mono e1) q1
  | false =>
    rw [if_neg Bool.false_ne_true] at q1 ⊢
    exact v2 B c1 s G1 H1 D E st1 (k.mono e1) q1
  )
/-! ### targets of data -/
abbrev TGd := PyData → Ctx → (Ctx → Prop) → Prop
/-- slots but those at js are as they were -/
def But (js : List Nat) (s s' : L2.St) : Prop := s'.length = s.length ∧ ∀ k, k ∉ js → s'[k]? = s[k]?
def DGv (K : PySem.W.Frag) (js : List Nat) (tg : TG) (t : TGd) : Prop := ∀ (B : Base) (c : Ctx) (s : L2.St) (G H : Hp) (v : V) (x : PyData) (Q : Ctx → Prop) (R : L2.St → Hp → Prop), Stt K B c s G H → Dp K G v x → t x c Q → (∀ c' s', Stt K B c' s' G H → But js s s' → Q c' → R s' H) → tg v s H R
structure DG (X : Cx) (e : Expr) (js : List Nat) (t : TGd) : Prop where
  ex : ∃ tg, PG X e tg ∧ DGv X.K js tg t
def gN (j : Nat) : TGd := fun x c Q => Q (c.set j (.d x))
theorem g_name (j : Nat) {x : Str} (hN : X.N.Nodup) (hi : X.N[j]? = some x := by rfl) (hx : Loc X.env.scope x := by first | exact Or.inl rfl | exact Or.inr rfl) (hf : X.fn x = true ∨ X.env.scope.names.lookup x = some .local := by first | exact .inl rfl | exact .inr rfl | assumption) : DG X (.Name x pos) [j] (gN j) :=
  ⟨_, pg_name hN hi hx hf, fun B c s G H v x Q R st d q k => k _ _ (st.set_d j d) ⟨List.length_set .., fun k hk => List.getElem?_set_ne (fun z => hk (by simp [z]))⟩ q⟩
abbrev TGsd := List PyData → Ctx → (Ctx → Prop) → Prop
def DGsv (K : PySem.W.Frag) (js : List Nat) (tg : TGs) (t : TGsd) : Prop := ∀ (B : Base) (c : Ctx) (s : L2.St) (G H : Hp) (vs : List V) (xs : List PyData) (Q : Ctx → Prop) (R : L2.St → Hp → Prop), Stt K B c s G H → DpAll K G vs xs → t xs c Q → (∀ c' s', Stt K B c' s' G H → But js s s' → Q c' → R s' H) → tg vs s H R
structure DGs (X : Cx) (es : List Expr) (js : List Nat) (t : TGsd) : Prop where
  ex : ∃ tg, PGs X es tg ∧ DGsv X.K js tg t
def gsNil : TGsd := fun xs c Q => xs = [] ∧ Q c
def asC (xs : List PyData) (Q : PyData → List PyData → Prop) : Prop := match xs with
  | x :: r => Q x r
  | [] => False
theorem asC_c {x : PyData} {r : List PyData} {Q : PyData → List PyData → Prop} : asC (x :: r) Q = Q x r := id rfl
theorem asC_of {xs : List PyData} {Q : PyData → List PyData → Prop} (h : asC xs Q) : ∃ x r, xs = x :: r ∧ Q x r := (by
  cases xs with
  | nil => exact False.elim h
  | cons x r => exact ⟨x, r, rfl, h⟩
  )
def gsCons (t : TGd) (u : TGsd) : TGsd := fun xs c Q => asC xs fun x r => t x c fun c1 => u r c1 Q
theorem gs_nil : DGs X [] [] gsNil := ⟨_, pgs_nil, fun B c s G H vs xs Q R st d q k => by
  obtain ⟨rfl, q⟩ := q
  cases d
  exact ⟨rfl, k _ _ st ⟨rfl, fun _ _ => rfl⟩ q⟩⟩
theorem gs_cons {es : List Expr} {t : TGd} {u : TGsd} {js ks : List Nat} (h : DG X e js t) (h2 : DGs X es ks u) (hs : (assignEach (e :: es) X.env).map (·.2) = assign e X.env :: (assignEach es X.env).map (·.2) := by rfl) : DGs X (e :: es) (js ++ ks) (gsCons t u) := (by
  obtain ⟨tg, p, v⟩ := h.ex
  obtain ⟨tg2, p2, v2⟩ := h2.ex
  refine ⟨_, pgs_cons p p2 hs, fun B c s G H vs xs Q R st d q k => ?_⟩
  obtain ⟨x, r, rfl, q⟩ := asC_of q
  cases d with
  | cons d1 d2 => exact ⟨_, _, rfl, v B c s G H _ x _ _ st d1 q fun c1 s1 st1 b1 q1 => v2 B c1 s1 G H _ r Q R st1 d2 q1 fun c2 s2 st2 b2 q2 => k c2 s2 st2 ⟨b2.1.trans b1.1, fun i hi => (b2.2 i fun z => hi (List.mem_append_right _ z)).trans (b1.2 i fun z => hi (List.mem_append_left _ z))⟩ q2⟩
  )
def gT (n : Nat) (t : TGsd) : TGd := fun x c Q => asT x fun xs => xs.length = n ∧ t xs c Q
theorem g_tup {es : List Expr} {k : Nat} {t : TGsd} {n : Nat} {js : List Nat} (hc : X.calm = true) (h : DGs X es js t) (hn : (assignEach es X.env).length = n := by rfl) (hst : (assignEach es X.env).findIdx? (·.1) = none := by rfl) : DG X (.Tuple es k pos) js (gT n t) := (by
  obtain ⟨tg, p, v⟩ := h.ex
  refine ⟨_, pg_tup hc p hn hst, fun B c s G H w x Q R st d q k => ?_⟩
  obtain ⟨xs, rfl, hl, q⟩ := asT_of q
  obtain ⟨a, vs, rfl, h1, h2⟩ := dp_tup d
  exact ⟨a, vs, rfl, same_t st.sub h1, by rw [dpa_len h2]; exact hl, v B c s G H vs xs Q R st h2 q k⟩
  )
/-- a, b = e -/
def zAsg (te : TD) (t : TGd) : TSd := fun E c => te c fun x c1 => t x c1 E.nx
theorem s_asg {tg : Expr} {t : TGd} {js : List Nat} (he : DE X e te) (hg : DG X tg js t) (hs : swapsWithSole [tg] e pos.line X.env = pure false := by rfl) (hw : swappedStores [tg] e X.env = pure none := by rfl)
    (h1 : (assignEach [tg] X.env).map (·.2) = [assign tg X.env] := by rfl) : DS X (.Assign [tg] e pos) (zAsg te t) := (by
  obtain ⟨tp, p, v⟩ := he.ex
  obtain ⟨tq, p2, v2⟩ := hg.ex
  refine ⟨_, ps_asg p p2 hs hw h1, fun B c s G H D E st k q => v B c s G H _ _ st q fun w y c1 G1 H1 st1 e1 d1 q1 => ?_⟩
  exact v2 B c1 s G1 H1 w y _ _ st1 d1 q1 fun c2 s2 st2 _ q2 => k.nx c2 s2 G1 H1 st2 e1 q2
  )
/-- xs[i] = e, xs an owned list in slot j -/
def zPut (j : Nat) (te ti : TD) : TSd := fun E c => te c fun x c1 => slO c1 j fun _ _ => ti c1 fun y c2 => slO c2 j fun w R => asR R fun ds => asI y fun i => ixP ds.length i fun n => E.nx (c2.set j (.o w (.lst (ds.set n x))))
theorem s_put (j : Nat) {x : Str} {i : Expr} {ti : TD} {pos' pos'' : Pos} (he : DE X e te) (hi : DE X i ti) (hN : X.N[j]? = some x := by rfl) (hv : Vis X.env.scope x := by first | exact Or.inl rfl | exact Or.inr (Or.inl rfl) | exact Or.inr (Or.inr rfl)) (hd : (x == ("__debug__" : Str)) = false := by decide)
    (hcd : (x == ("__classdict__" : Str)) = false := by decide)
    (ha : ∀ v, assign (.Subscript (.Name x pos') i pos'') X.env v = (do
      let ov ← holding [v] (eval (.Name x pos') X.env)
      let iv ← holding [v, ov] (eval i X.env)
      standAt pos''
      holding [v, ov, iv] (setItem ov iv v)
      release [v, ov, iv] []) := by intro _; rfl)
    (hs : swapsWithSole [.Subscript (.Name x pos') i pos''] e pos.line X.env = pure false := by rfl) (hw : swappedStores [.Subscript (.Name x pos') i pos''] e X.env = pure none := by rfl)
    (h1 : (assignEach [.Subscript (.Name x pos') i pos''] X.env).map (·.2) = [assign (.Subscript (.Name x pos') i pos'') X.env] := by rfl) : DS X (.Assign [.Subscript (.Name x pos') i pos''] e pos) (zPut j te ti) := (by
  obtain ⟨tp, p, v⟩ := he.ex
  obtain ⟨tq, p2, v2⟩ := hi.ex
  refine ⟨_, ps_asg p (pg_sub (pe_var hN hv hd hcd) p2 set_list ha) hs hw h1, fun B c s G H D E st k q => v B c s G H _ _ st q fun w y c1 G1 H1 st1 e1 d1 q1 => ?_⟩
  obtain ⟨w0, R0, g0, q1⟩ := slO_of q1
  obtain ⟨u, hu⟩ := st1.own_at g0
  refine ⟨u, hu, v2 B c1 s G1 H1 _ _ st1 q1 fun iv z c2 G2 H2 st2 e2 d2 q2 => ?_⟩
  obtain ⟨w1, R1, g1, q2⟩ := slO_of q2
  obtain ⟨ds, rfl, q2⟩ := asR_of q2
  obtain ⟨i, rfl, q2⟩ := asI_of q2
  obtain ⟨n, g2, q3⟩ := q2
  obtain ⟨a, vs, g3, g4, g5, g6⟩ := st2.own g1
  rw [hu] at g3
  cases g3
  refine ⟨a, vs, i, n, rfl, dp_int d2, g4, by rw [dpa_len g5]; exact g2, ?_⟩
  exact k.nx _ _ G2 _ (g6 _ _ (dpa_set g5 (dp_mono e2 _ _ d1))) (e1.trans e2) q3
  )
/-! ### loops -/
/-- what an iterable yields: the data ys -/
def ItOk (K : PySem.W.Frag) (G : Hp) (J : It) (ys : List PyData) : Prop := ∀ (B : Base) (c : Ctx) (s : L2.St) (G' H' : Hp), Stt K B c s G' H' → Same G G' → ∀ i : Nat,
  (ys.length ≤ i → J.stop i H') ∧ (i < ys.length → J.go i H' ∧ ∀ x H2, J.yld i H' x H2 → ∃ G2 y, ys[i]? = some y ∧ Stt K B c s G2 H2 ∧ Same G' G2 ∧ Dp K G2 x y)
def DIv (K : PySem.W.Frag) (wi : TI) (t : TL) : Prop := ∀ (B : Base) (c : Ctx) (s : L2.St) (G H : Hp) (Q : List PyData → Ctx → Prop) (R : It → Hp → Prop), Stt K B c s G H → t c Q →
  (∀ J ys c' G' H', Stt K B c' s G' H' → Same G G' → ItOk K G' J ys → Q ys c' → R J H') → wi s H R
structure DI (X : Cx) (tg iter : Expr) (t : TL) : Prop where
  ex : ∃ wi, PI X tg iter wi ∧ DIv X.K wi t
variable {tg : Expr} {ti : TL}
def signs (z : Str) : List PyData := z.cps.toList.map fun (n : Nat) => .str ⟨#[n]⟩
def asQ (x : PyData) (Q : List PyData → Prop) : Prop := match x with
  | .list ds => Q ds
  | .tuple ds => Q ds
  | .str z => Q (signs z)
  | _ => False
theorem asQ_l {ds : List PyData} {Q : List PyData → Prop} : asQ (.list ds) Q = Q ds := id rfl
theorem asQ_t {ds : List PyData} {Q : List PyData → Prop} : asQ (.tuple ds) Q = Q ds := id rfl
theorem asQ_s {z : Str} {Q : List PyData → Prop} : asQ (.str z) Q = Q (signs z) := id rfl
def iSeq (te : TD) : TL := fun c Q => te c fun x c1 => asQ x fun ds => Q ds c1
/-- lists, tuples, texts -/
theorem i_seq (he : DE X e te) : DI X tg e (iSeq te) := (by
  obtain ⟨tp, p, v⟩ := he.ex
  refine ⟨_, PI.mk fun pins st s H R I (h : tp s H fun x H1 => (∃ a, x = .ref a ∧ (∃ xs, SqL X.K H1 a xs) ∧ R (Itl X.K a) H1) ∨ (∃ a, x = .ref a ∧ (∃ xs, SqT X.K H1 a xs) ∧ R (Itt X.K a) H1) ∨ ∃ z, x = .str z ∧ R (Its z) H1) => ?_, fun B c s G H Q R st q k => v B c s G H _ _ st q fun w y c1 G1 H1 st1 e1 d1 q1 => ?_⟩
  · refine thn (p.run pins st s H _ I h) fun u s1 ⟨x, H1, I1, r1, q1⟩ => ?_
    rcases q1 with ⟨a, rfl, ⟨xs, hq⟩, q⟩ | ⟨a, rfl, ⟨xs, hq⟩, q⟩ | ⟨z, rfl, q⟩
    · cases r1
      obtain ⟨its, rv, pl, hz⟩ := I1.list hq
      refine wpAny_pyIter_list pl.isList ?_
      refine ⟨s1.heap.objs.size, [s1.heap.objs.size], _, _, H1, rfl, I1.kept (t' := s1.toks) fun b o e => Heap.get?_push_of_some _ e, turn_list a _, ⟨_, Heap.get?_push_size _ rfl, rfl, rfl⟩, fun b hb => ?_, q⟩
      obtain rfl : b = s1.heap.objs.size := by simpa using hb
      exact I1.fpOk (Nat.le_refl _) (I1.hok.fresh (Nat.le_refl _))
    · cases r1
      obtain ⟨its, rv, pl, hz⟩ := I1.tuple hq
      refine wpAny_pyIter_tuple (show s1.heap.IsTuple a its.toArray from pl) ?_
      refine ⟨s1.heap.objs.size, [s1.heap.objs.size], _, _, H1, rfl, I1.kept (t' := s1.toks) fun b o e => Heap.get?_push_of_some _ e, turn_tuple a _, ⟨_, Heap.get?_push_size _ rfl, rfl, rfl⟩, fun b hb => ?_, q⟩
      obtain rfl : b = s1.heap.objs.size := by simpa using hb
      exact I1.fpOk (Nat.le_refl _) (I1.hok.fresh (Nat.le_refl _))
    · obtain ⟨t, rfl⟩ := r1
      cases ha : z.cps.all (· < 128)
      · exact wpAny_pyIter_wide ha (pi_one (tk := s1.toks) I1 _ (turn_str _ z t "str_iterator" (.inr rfl)) ⟨_, Heap.get?_push_size _ rfl, rfl, rfl⟩ q)
      · exact wpAny_pyIter_ascii ha (pi_one (tk := s1.toks) I1 _ (turn_str _ z t "str_ascii_iterator" (.inl rfl)) ⟨_, Heap.get?_push_size _ rfl, rfl, rfl⟩ q)
  · cases y with
    | list ds =>
      obtain ⟨a, vs, rfl, h1, h2⟩ := dp_lst d1
      refine .inl ⟨a, rfl, ⟨vs, Same.seq st1.sub h1⟩, k (Itl X.K a) ds c1 G1 H1 st1 e1 (fun B' c' s' G' H' st' e' i => ⟨fun hi => ⟨vs, Same.seq st'.sub (Same.seq e' h1), by rw [dpa_len h2]; exact hi⟩, fun hi => ?_⟩) q1⟩
      have hq : SqL X.K H' a vs := Same.seq st'.sub (Same.seq e' h1)
      obtain ⟨x, hx, dx⟩ := dpa_get h2 (List.getElem?_eq_getElem hi)
      refine ⟨⟨vs, x, hq, hx⟩, fun z H2 hy => ?_⟩
      obtain ⟨rfl, hz⟩ := hy
      have := hz vs hq
      rw [hx] at this
      cases this
      exact ⟨G', _, List.getElem?_eq_getElem hi, st', Same.refl _, dp_mono e' _ _ dx⟩
    | tuple ds =>
      obtain ⟨a, vs, rfl, h1, h2⟩ := dp_tup d1
      refine .inr (.inl ⟨a, rfl, ⟨vs, same_t st1.sub h1⟩, k (Itt X.K a) ds c1 G1 H1 st1 e1 (fun B' c' s' G' H' st' e' i => ⟨fun hi => ⟨vs, same_t st'.sub (same_t e' h1), by rw [dpa_len h2]; exact hi⟩, fun hi => ?_⟩) q1⟩)
      have hq : SqT X.K H' a vs := same_t st'.sub (same_t e' h1)
      obtain ⟨x, hx, dx⟩ := dpa_get h2 (List.getElem?_eq_getElem hi)
      refine ⟨⟨vs, x, hq, hx⟩, fun z H2 hy => ?_⟩
      obtain ⟨rfl, hz⟩ := hy
      have := hz vs hq
      rw [hx] at this
      cases this
      exact ⟨G', _, List.getElem?_eq_getElem hi, st', Same.refl _, dp_mono e' _ _ dx⟩
    | str z =>
      cases d1
      refine .inr (.inr ⟨z, rfl, k (Its z) (signs z) c1 G1 H1 st1 e1 (fun B' c' s' G' H' st' e' i => ?_) q1⟩)
      have hl : (signs z).length = z.cps.size := by simp [signs]
      rw [hl]
      refine ⟨fun hi => hi, fun hi => ⟨hi, fun x H2 hy => ?_⟩⟩
      obtain ⟨rfl, n, hn, rfl⟩ := hy
      refine ⟨G', _, ?_, st', Same.refl _, .str _⟩
      have hn' : z.cps.toList[i]? = some n := by rw [Array.getElem?_toList]; exact hn
      rw [signs, List.getElem?_map, hn']
      rfl
    | none => exact q1.elim
    | bool _ => exact q1.elim
    | int _ => exact q1.elim
    | dict _ => exact q1.elim
  )
/-- lo, lo + 1, .. -/
def rngD (lo : Int) (n : Nat) : List PyData := (List.range n).map fun (k : Nat) => .int (lo + (k : Int))
theorem rngD_len (lo : Int) (n : Nat) : (rngD lo n).length = n := by simp [rngD]
theorem it_rng {K : PySem.W.Frag} {G : Hp} (lo : Int) (n : Nat) : ItOk K G (Itr lo n) (rngD lo n) := fun _ c s G' H' st e i => by
  rw [rngD_len]
  refine ⟨fun hi => hi, fun hi => ⟨hi, fun x H2 hy => ?_⟩⟩
  obtain ⟨rfl, rfl⟩ := hy
  refine ⟨G', _, ?_, st, Same.refl _, .int (lo + i)⟩
  simp [rngD, hi]
variable {a b : Expr} {ta tb2 : TD} {p : Pos}
def iR1 (ta : TD) : TL := fun c Q => ta c fun x c1 => asI x fun j => -(2 ^ 62) ≤ j ∧ j < 2 ^ 62 ∧ Q (rngD 0 j.toNat) c1
theorem i_range1 (hm : X.mg "range" = none) (ha : DE X a ta) (hg : Gl X "range" := by rfl) (he : starEach (a :: []) X.env = (false, eval a X.env) :: starEach [] X.env := by rfl) (hs : starEach [a] X.env = [(false, eval a X.env)] := by rfl) : DI X tg (.Call (.Name "range" p) [a] [] pos) (iR1 ta) := (by
  obtain ⟨tp, pp, v⟩ := ha.ex
  refine ⟨_, pi_range1 hg hm (pa_cons pp pa_nil he) hs, fun B c s G H Q R st q k => v B c s G H _ _ st q fun w y c1 G1 H1 st1 e1 d1 q1 => ?_⟩
  obtain ⟨j, rfl, h1, h2, q2⟩ := asI_of q1
  cases d1
  exact ⟨j, rfl, h1, h2, k _ _ c1 G1 H1 st1 e1 (it_rng 0 j.toNat) q2⟩
  )
/-- for target in iter: body -/
def zLoop (tg : TGd) (tb : TSd) (E : De) (ys : List PyData) (c1 : Ctx) : Prop := ∃ I : Nat → Ctx → Prop, I 0 c1 ∧
  (∀ i y c, ys[i]? = some y → I i c → tg y c fun c2 => tb { E with nx := I (i + 1), ct := I (i + 1), bk := E.nx } c2) ∧ ∀ c, I ys.length c → E.nx c
def zFor (ti : TL) (tg : TGd) (tb : TSd) : TSd := fun E c => ti c fun ys c1 => zLoop tg tb E ys c1
theorem s_for {iter : Expr} {body : List Stmt} {t : TGd} {tb : TSd} {js : List Nat} (hp : PassesOwn (model X.prog X.w) X.A X.env X.xe) (hc : X.calm = true) (hi : DI X tg iter ti) (hg : DG X tg js t) (hb : DSs X body tb)
    (hs : ∀ x, foldedSetIterable iter X.env x = pure x := by intro _; rfl) : DS X (.For tg iter body [] pos) (zFor ti t tb) := (by
  obtain ⟨wi, pi, vi⟩ := hi.ex
  obtain ⟨g, pg, vg⟩ := hg.ex
  obtain ⟨ts, pb, vb⟩ := hb.ex
  refine ⟨_, ps_for hp hc pi pg pb hs, fun B c s G H D E st k q => vi B c s G H _ _ st q fun J ys c1 G1 H1 st1 e1 ok q1 => ?_⟩
  obtain ⟨I, i0, turn, fin⟩ := q1
  refine ⟨fun i m s' H' => m = ys.length - i ∧ i ≤ ys.length ∧ ∃ c' G', Stt X.K B c' s' G' H' ∧ Same G1 G' ∧ I i c', ⟨ys.length, rfl, Nat.zero_le _, c1, G1, st1, Same.refl _, i0⟩, ?_⟩
  rintro i m s' H' ⟨rfl, hi, c', G', st', e', hI⟩
  by_cases hlt : i < ys.length
  · refine .inr ⟨((ok B c' s' G' H' st' e' i).2 hlt).1, fun s2 H2 => ∃ c2 G2, Stt X.K B c2 s2 G2 H2 ∧ Same G1 G2 ∧ I (i + 1) c2, fun s2 H2 ⟨c2, G2, st2, e2, hI2⟩ => ⟨ys.length - (i + 1), by omega, rfl, hlt, c2, G2, st2, e2, hI2⟩, fun x H2 hy => ?_⟩
    obtain ⟨G2, y, hy1, st2, e2, dy⟩ := ((ok B c' s' G' H' st' e' i).2 hlt).2 x H2 hy
    refine vg B c' s' G2 H2 x y _ _ st2 dy (turn i y c' hy1 hI) fun c3 s3 st3 _ q3 => ?_
    have e13 : Same G1 G2 := e'.trans e2
    exact vb B c3 s3 G2 H2 _ { E with nx := I (i + 1), ct := I (i + 1), bk := E.nx } st3 ⟨fun c4 s4 G4 H4 st4 e4 q4 => ⟨c4, G4, st4, e13.trans e4, q4⟩, fun r c4 v s4 G4 H4 st4 e4 q4 => k.rt r c4 v s4 G4 H4 st4 ((e1.trans e13).trans e4) q4, fun c4 s4 G4 H4 st4 e4 q4 => k.nx c4 s4 G4 H4 st4 ((e1.trans e13).trans e4) q4, fun c4 s4 G4 H4 st4 e4 q4 => ⟨c4, G4, st4, e13.trans e4, q4⟩⟩ q3
  · have e : i = ys.length := by omega
    subst e
    exact .inl ⟨(ok B c' s' G' H' st' e' _).1 (Nat.le_refl _), k.nx c' s' G' H' st' (e1.trans e') (fin c' hI)⟩
  )
end

/-! ### defs -/
abbrev TF := Ctx → (S → Ctx → Prop) → Prop
def SpD (K : PySem.W.Frag) (T : TF) : Sp := fun vs H Q _ => ∃ (G : Hp) (io : List Addr) (a : Ctx) (Q1 : S → Ctx → Prop), Stt K ⟨H, G, io⟩ a (vs.map some) G H ∧ T a Q1 ∧
  ∀ r c v s G' H', Stt K ⟨H, G, io⟩ (r :: c) (some v :: s) G' H' → Q1 r c → Q v H'
theorem reps_more {K : PySem.W.Frag} {B : Base} {G H : Hp} {c : Ctx} {s : L2.St} {A : List Addr} (h : Reps K B G H c s A) (n : Nat) : Reps K B G H (c ++ List.replicate n .no) (s ++ List.replicate n none) A := (by
  induction h with
  | nil =>
    induction n with
    | zero => exact .nil
    | succ n ih => exact .no ih
  | no _ ih => exact .no ih
  | d hd _ ih => exact .d hd ih
  | f hd _ ih => exact .f hd ih
  | o ho hw _ ih => exact .o ho hw ih
  )
/-- THE RULE for a def over data -/
theorem fn_d {P : Program} {w : World} {K : PySem.W.Frag} {mg : Str → Option Value} {base : Heap} {x qual : Str} {st : Stmt} {f : Addr} {fd : FuncData} {N ps : List Str} {k : Nat} {T : TF} {t : TSd} (F : Fun K x qual st f fd) (sc : FnScope N ps (defScope st))
    (hT : ∀ a Q, T a Q → a.length = ps.length ∧ t { nx := fun c => Q (.d .none) c, rt := Q } (a ++ List.replicate (N.length - ps.length) .no))
    (body : ∀ (cdv : Value) (A : Around) (outer : List Env) (s : Shared) (H : Hp) (E : XK), Room k (A.deeper (envOfC qual (defScope st) s.heap.objs.size f cdv)) →
      DSs (cxOf CX0 P w K mg base N qual (defScope st) f cdv A outer s H E).nox (defBody st) t) : FnOk P w K mg base CX0 (k + 1) f fd ps (SpD K T) := (by
  have hl : ∀ vs H Q E, SpD K T vs H Q E → vs.length = ps.length := fun vs H Q E h => by
    obtain ⟨G, io, a, Q1, ⟨A, r, _⟩, h2, _⟩ := h
    have := r.len
    rw [List.length_map] at this
    rw [this]
    exact (hT a Q1 h2).1
  refine F.ok sc hl (fun cdv A outer s H vs Q E hr h => ?_)
  obtain ⟨ts, p, v⟩ := (body cdv A outer s H E hr).ex
  refine ⟨ts, p, ?_⟩
  have lv := hl _ _ _ _ h
  obtain ⟨G, io, a, Q1, ⟨A1, r, wd⟩, h2, h3⟩ := h
  have st0 : Stt K ⟨H, G, io⟩ (a ++ List.replicate (N.length - ps.length) .no) (L2.start N vs) G H := by
    refine ⟨A1, ?_, wd⟩
    unfold L2.start
    rw [lv]
    exact reps_more r _
  exact v ⟨H, G, io⟩ _ _ G H _ { nx := fun c => Q1 (.d .none) c, rt := Q1 } st0 ⟨fun c s' G' H' st' _ q => h3 (.d .none) c .non s' G' H' (st'.push_d .non) q, fun r c v s' G' H' st' _ q => h3 r c v s' G' H' st' q, fun _ _ _ _ _ _ q => q.elim, fun _ _ _ _ _ _ q => q.elim⟩ (hT a Q1 h2).2
  )
/-- .. whose first argument is a lent list of which a fact is known: its items told at the entry -/
theorem fn_dP {P : Program} {w : World} {K : PySem.W.Frag} {mg : Str → Option Value} {base : Heap} {x qual : Str} {st : Stmt} {f : Addr} {fd : FuncData} {N ps : List Str} {k : Nat} {T : TF} {t : TSd} (F : Fun K x qual st f fd) (sc : FnScope N ps (defScope st))
    (hT : ∀ a Q, T a Q → a.length = ps.length ∧ ∃ wo Pl, a[0]? = some (.o wo (.lstP Pl)) ∧ ∀ ds, Pl ds → t { nx := fun c => slO c 0 fun w R => w = wo ∧ asR R fun ds' => Pl ds' ∧ Q (.d .none) (c.set 0 (.o wo (.lstP Pl))), rt := fun r c => slO c 0 fun w R => w = wo ∧ asR R fun ds' => Pl ds' ∧ Q r (c.set 0 (.o wo (.lstP Pl))) } (a.set 0 (.o wo (.lst ds)) ++ List.replicate (N.length - ps.length) .no))
    (body : ∀ (cdv : Value) (A : Around) (outer : List Env) (s : Shared) (H : Hp) (E : XK), Room k (A.deeper (envOfC qual (defScope st) s.heap.objs.size f cdv)) →
      DSs (cxOf CX0 P w K mg base N qual (defScope st) f cdv A outer s H E).nox (defBody st) t) : FnOk P w K mg base CX0 (k + 1) f fd ps (SpD K T) := (by
  have hl : ∀ vs H Q E, SpD K T vs H Q E → vs.length = ps.length := fun vs H Q E h => by
    obtain ⟨G, io, a, Q1, ⟨A, r, _⟩, h2, _⟩ := h
    have := r.len
    rw [List.length_map] at this
    rw [this]
    exact (hT a Q1 h2).1
  refine F.ok sc hl (fun cdv A outer s H vs Q E hr h => ?_)
  obtain ⟨ts, p, v⟩ := (body cdv A outer s H E hr).ex
  refine ⟨ts, p, ?_⟩
  have lv := hl _ _ _ _ h
  obtain ⟨G, io, a, Q1, st1, h2, h3⟩ := h
  obtain ⟨_, wo, Pl, g1, g2⟩ := hT a Q1 h2
  obtain ⟨ds, hP, st2⟩ := st1.open_ g1
  obtain ⟨A1, r, wd⟩ := st2.ex
  have st0 : Stt K ⟨H, G, io⟩ (a.set 0 (.o wo (.lst ds)) ++ List.replicate (N.length - ps.length) .no) (L2.start N vs) G H := by
    refine ⟨A1, ?_, wd⟩
    unfold L2.start
    rw [lv]
    exact reps_more r _
  refine v ⟨H, G, io⟩ _ _ G H _ { nx := fun c => slO c 0 fun w R => w = wo ∧ asR R fun ds' => Pl ds' ∧ Q1 (.d .none) (c.set 0 (.o wo (.lstP Pl))), rt := fun r c => slO c 0 fun w R => w = wo ∧ asR R fun ds' => Pl ds' ∧ Q1 r (c.set 0 (.o wo (.lstP Pl))) } st0 ⟨fun c s' G' H' st' _ q => ?_, fun rr c v s' G' H' st' _ q => ?_, fun _ _ _ _ _ _ q => q.elim, fun _ _ _ _ _ _ q => q.elim⟩ (g2 ds hP)
  · obtain ⟨w1, R1, q1, hw, q⟩ := slO_of q
    subst hw
    obtain ⟨ds', rfl, q2, q3⟩ := asR_of q
    exact h3 (.d .none) _ .non s' G' H' ((st'.shut q1 q2).push_d .non) q3
  · obtain ⟨w1, R1, q1, hw, q⟩ := slO_of q
    subst hw
    obtain ⟨ds', rfl, q2, q3⟩ := asR_of q
    exact h3 rr _ v s' G' H' (st'.shut (j := 1) (by simpa using q1) q2) q3
  )
/-- what a caller has, behind a call to which the addresses io were lent -/
theorem wd_after {B : Base} {G H G' H' : Hp} {io A A' A2 : List Addr} (w0 : Wd B G H A) (hA : ∀ a ∈ A, H a ≠ none) (hT : ∀ a ∈ A, ∀ o, H a = some o → isTup o = false) (hio : ∀ a ∈ io, a ∈ A) (w : Wd ⟨H, G, io⟩ G' H' A') (n : A2.Nodup) (hi : ∀ a ∈ A2, a ∈ A' ∨ (a ∈ A ∧ a ∉ io)) : Wd B G' H' A2 where
  sub := w.sub
  nd := n
  out := fun a ha => by
    rcases hi a ha with z | ⟨z, y⟩
    · exact w.out a z
    · rcases w.newG a y (hA a z) with e | ⟨o, e, t⟩
      · rw [e]; exact w0.out a z
      · rw [hT a z o e] at t; cases t
  old := w0.old.trans w.old
  stay := fun a o q hn => by
    have q1 := w0.stay a o q hn
    refine w.stay a o q1 fun z => ?_
    rcases w0.lim a (hio a z) with y | y
    · exact hn y
    · rw [y] at q; cases q
  dom := fun a q => w0.dom a (w.dom a q)
  newG := fun a i q => by
    have hn : a ∉ A := fun z => (w0.lim a z).elim i q
    have e : H a = B.H0 a := by
      cases z : B.H0 a with
      | none => exact absurd z q
      | some o => exact w0.stay a o z i
    rcases w.newG a (fun z => hn (hio a z)) (fun z => q (w0.dom a z)) with e2 | ⟨o, e2, t⟩
    · rw [e2]; exact w0.newG a i q
    · exact .inr ⟨o, e ▸ e2, t⟩
  lim := fun a ha => by
    rcases hi a ha with z | ⟨z, _⟩
    · rcases w.lim a z with y | y
      · exact w0.lim a (hio a y)
      · exact .inr (w0.dom a y)
    · exact w0.lim a z
theorem keep_after {G H G' H' : Hp} {io A A' : List Addr} (hA : ∀ a ∈ A, H a ≠ none) (w : Wd ⟨H, G, io⟩ G' H' A') : ∀ a ∈ A, a ∉ io → H' a = H a := fun a ha hn => by
  cases q : H a with
  | none => exact absurd q (hA a ha)
  | some o => exact w.stay a o q hn
theorem after0 {K : PySem.W.Frag} {B : Base} {c c' : Ctx} {s s' : L2.St} {G H G' H' : Hp} (st : Stt K B c s G H) (st' : Stt K ⟨H, G, []⟩ c' s' G' H') : Stt K B c s G' H' ∧ Same G G' := (by
  obtain ⟨A, r, w0⟩ := st.ex
  obtain ⟨A', r', w⟩ := st'.ex
  exact ⟨⟨A, r.mono w.old fun a ha => keep_after r.here w a ha (by simp), wd_after w0 r.here r.nt (by simp) w w0.nd fun a ha => .inr ⟨ha, by simp⟩⟩, w.old⟩
  )
theorem after0o {K : PySem.W.Frag} {B : Base} {c c' : Ctx} {s s' : L2.St} {G H G' H' : Hp} {R : Res} {v : V} (st : Stt K B c s G H) (st' : Stt K ⟨H, G, []⟩ (.o none R :: c') (some v :: s') G' H') : Stt K B (.o none R :: c) (some v :: s) G' H' ∧ Same G G' := (by
  obtain ⟨A, r, w0⟩ := st.ex
  obtain ⟨A', r', w⟩ := st'.ex
  cases r' with
  | @o _ _ _ _ _ Ar At h1 h2 r' =>
    obtain ⟨n1, n2, n3⟩ := List.nodup_append.mp w.nd
    have h2' : ∀ a ∈ Ar, H a = none := h2
    refine ⟨⟨Ar ++ A, .o h1 (fun a ha => w0.dom a (h2' a ha)) (r.mono w.old fun a ha => keep_after r.here w a ha (by simp)), wd_after w0 r.here r.nt (by simp) w ?_ fun a ha => ?_⟩, w.old⟩
    · refine List.nodup_append.mpr ⟨n1, w0.nd, fun a ha b hb z => ?_⟩
      subst z
      exact r.here a hb (h2' a ha)
    · rcases List.mem_append.mp ha with z | z
      · exact .inl (List.mem_append_left _ z)
      · exact .inr ⟨z, by simp⟩
  )
/-- a call to which the owned thing in slot j is lent, as the first argument -/
theorem lend1 {K : PySem.W.Frag} {B : Base} {c : Ctx} {s : L2.St} {G H : Hp} {j : Nat} {w : Option Lt} {R : Res} (st : Stt K B c s G H) (e : c[j]? = some (.o w R)) :
    ∃ (v : V) (x : Lt), x.v = v ∧ s[j]? = some (some v) ∧ (∀ {vs : List V} {xs : List PyData}, DpAll K G vs xs → Stt K ⟨H, G, x.al⟩ (.o (some x) R :: xs.map S.d) ((v :: vs).map some) G H) ∧
      (∀ {r : S} {c' : Ctx} {vr : V} {s' : L2.St} {G' H' : Hp} {R' : Res}, Stt K ⟨H, G, x.al⟩ (r :: c') (some vr :: s') G' H' → c'[0]? = some (.o (some x) R') →
        Same G G' ∧ (∀ y, r = .d y → Dp K G' vr y ∧ Stt K B (c.set j (.o w R')) s G' H') ∧ ∀ R2, r = .o none R2 → Stt K B (.o none R2 :: c.set j (.o w R')) (some vr :: s) G' H') := (by
  obtain ⟨A, r, w0⟩ := st.ex
  obtain ⟨v, A1, h1, h2, h3, h4, h5, k⟩ := r.focus w0.nd e
  refine ⟨v, ⟨v, A1⟩, rfl, h1, fun {vs xs} d => ?_, fun {r' c' vr s' G' H' R'} st' e' => ?_⟩
  · refine ⟨A1 ++ [], .o h2 ⟨rfl, fun a ha => .inl ha⟩ ?_, ?_⟩
    · clear k
      induction xs generalizing vs with
      | nil => cases d; exact .nil
      | cons x xs ih =>
        cases d with
        | cons d1 d2 => exact .d d1 (ih d2)
    · rw [List.append_nil]
      exact ⟨w0.sub, h4, fun a ha => w0.out a (h5 a ha), Same.refl _, fun a o q _ => q, fun a q => q, fun a _ q => .inl rfl, fun a ha => .inl ha⟩
  · obtain ⟨A', r2, wd⟩ := st'.ex
    have keepA := keep_after r.here wd
    have key : ∀ {A1' : List Addr} {v' : V}, R'.P K G' H' v' A1' → WOk ⟨H, G, A1⟩ (some ⟨v, A1⟩) v' A1' → A1'.Nodup → (∀ a ∈ A1', a ∈ A') → ∃ A2, Reps K B G' H' (c.set j (.o w R')) s A2 ∧ A2.Nodup ∧ ∀ a ∈ A2, a ∈ A1' ∨ (a ∈ A ∧ a ∉ A1) := by
      intro A1' v' g2 g3 g4 g5
      obtain ⟨rfl, g6⟩ := g3
      have g6' : ∀ a ∈ A1', a ∈ A1 ∨ H a = none := g6
      refine k wd.old (fun a ha hn => keepA a ha hn) g2 ?_ g4 fun a ha => ?_
      · cases w with
        | none =>
          intro a ha
          rcases g6' a ha with z | z
          · exact h3 a z
          · exact w0.dom a z
        | some u =>
          refine ⟨h3.1, fun a ha => ?_⟩
          rcases g6' a ha with z | z
          · exact h3.2 a z
          · exact .inr (w0.dom a z)
      · rcases g6' a ha with z | z
        · exact .inl z
        · exact .inr fun y => r.here a y z
    refine ⟨wd.old, fun x hx => ?_, fun R2 hx => ?_⟩
    · subst hx
      obtain ⟨v', A1', g1, g2, g3, g4, g5, _⟩ := r2.focus (j := 1) wd.nd (by simpa using e')
      obtain ⟨A2, r3, n3, q3⟩ := key g2 g3 g4 g5
      cases r2 with
      | d hd r2 =>
        refine ⟨hd, A2, r3, wd_after w0 r.here r.nt h5 wd n3 fun a ha => ?_⟩
        rcases q3 a ha with z | z
        · exact .inl (g5 a z)
        · exact .inr z
    · subst hx
      cases r2 with
      | @o _ _ _ _ _ Ar At p1 p2 r2 =>
        have p2' : ∀ a ∈ Ar, H a = none := p2
        obtain ⟨n1, n2, n4⟩ := List.nodup_append.mp wd.nd
        obtain ⟨v', A1', g1, g2, g3, g4, g5, _⟩ := r2.focus (j := 0) n2 e'
        obtain ⟨A2, r3, n3, q3⟩ := key g2 g3 g4 fun a ha => List.mem_append_right _ (g5 a ha)
        refine ⟨Ar ++ A2, .o p1 (fun a ha => w0.dom a (p2' a ha)) r3, wd_after w0 r.here r.nt h5 wd ?_ fun a ha => ?_⟩
        · refine List.nodup_append.mpr ⟨n1, n3, fun a ha b hb z => ?_⟩
          subst z
          rcases q3 a hb with y | ⟨y, _⟩
          · exact n4 a ha a (g5 a y) rfl
          · exact r.here a y (p2' a ha)
        · rcases List.mem_append.mp ha with z | z
          · exact .inl (List.mem_append_left _ z)
          · rcases q3 a z with y | y
            · exact .inl (List.mem_append_right _ (g5 a y))
            · exact .inr y
  )
theorem reps_data {K : PySem.W.Frag} {B : Base} {G H : Hp} : ∀ {vs : List V} {xs : List PyData}, DpAll K G vs xs → Reps K B G H (xs.map S.d) (vs.map some) []
  | _, [], h => by cases h; exact .nil
  | _, x :: xs, h => by
    cases h with
    | cons h1 h2 => exact .d h1 (reps_data h2)
theorem stt_data {K : PySem.W.Frag} {G H : Hp} {vs : List V} {xs : List PyData} (e : Same G H) (h : DpAll K G vs xs) : Stt K ⟨H, G, []⟩ (xs.map S.d) (vs.map some) G H :=
  ⟨[], reps_data h, e, List.nodup_nil, by simp, Same.refl _, fun a o q _ => q, fun a q => q, fun a _ q => .inl rfl, by simp⟩

/-- what is done with a call's answer: data wanted; a new owned thing wanted; the same where a thing was lent -/
def kD (Q : PyData → Prop) : S → Ctx → Prop := fun r _ => match r with
  | .d x => Q x
  | .o none R => R.fz Q
  | _ => False
def kO (Q : Res → Prop) : S → Ctx → Prop := fun r _ => match r with
  | .o none R => Q R
  | _ => False
def kL (v : Lt) (Q : PyData → Res → Prop) : S → Ctx → Prop := fun r c => ∃ R', c[0]? = some (.o (some v) R') ∧ kD (fun x => Q x R') r c
def kLO (v : Lt) (Q : Res → Res → Prop) : S → Ctx → Prop := fun r c => ∃ R', c[0]? = some (.o (some v) R') ∧ kO (fun x => Q x R') r c
theorem kD_d {Q : PyData → Prop} {x : PyData} {c : Ctx} : kD Q (.d x) c = Q x := id rfl
theorem kD_o {Q : PyData → Prop} {R : Res} {c : Ctx} : kD Q (.o none R) c = R.fz Q := id rfl
theorem kO_o {Q : Res → Prop} {R : Res} {c : Ctx} : kO Q (.o none R) c = Q R := id rfl
theorem fz_l {ds : List PyData} {Q : PyData → Prop} : (Res.lst ds).fz Q = Q (.list ds) := id rfl
theorem fz_P {P : List PyData → Prop} {Q : PyData → Prop} : (Res.lstP P).fz Q = ∀ ds, P ds → Q (.list ds) := id rfl
/-- what a def hands back, its own names let go; the same, the lent thing being R -/
def ret (Q : S → Ctx → Prop) (r : S) : Prop := ∀ c, Q r c
def retL (v : Lt) (R : Res) (Q : S → Ctx → Prop) (r : S) : Prop := ∀ c : Ctx, c[0]? = some (.o (some v) R) → Q r c
theorem ret_d {Q : PyData → Prop} {x : PyData} : ret (kD Q) (.d x) = Q x := propext ⟨fun h => h [], fun h _ => h⟩
theorem ret_o {Q : PyData → Prop} {R : Res} : ret (kD Q) (.o none R) = R.fz Q := propext ⟨fun h => h [], fun h _ => h⟩
theorem ret_O {Q : Res → Prop} {R : Res} : ret (kO Q) (.o none R) = Q R := propext ⟨fun h => h [], fun h _ => h⟩
theorem retL_d {v : Lt} {Q : PyData → Res → Prop} {x : PyData} {R : Res} : retL v R (kL v Q) (.d x) = Q x R :=
  propext ⟨fun h => by
    obtain ⟨R', e, q⟩ := h [.o (some v) R] rfl
    cases e
    exact q, fun q c e => ⟨R, e, q⟩⟩
theorem retL_o {v : Lt} {Q : PyData → Res → Prop} {R2 R : Res} : retL v R (kL v Q) (.o none R2) = R2.fz fun x => Q x R :=
  propext ⟨fun h => by
    obtain ⟨R', e, q⟩ := h [.o (some v) R] rfl
    cases e
    exact q, fun q c e => ⟨R, e, q⟩⟩
theorem retL_O {v : Lt} {Q : Res → Res → Prop} {R2 R : Res} : retL v R (kLO v Q) (.o none R2) = Q R2 R :=
  propext ⟨fun h => by
    obtain ⟨R', e, q⟩ := h [.o (some v) R] rfl
    cases e
    exact q, fun q c e => ⟨R, e, q⟩⟩
section
variable {X : Cx} {e : Expr} {es : List Expr} {tl : TL} {x : Str} {p pos : Pos} {k : Nat} {f : Addr} {fd : FuncData} {ps : List Str} {T : TF}
/-- a call with data alone: its answer data (an owned answer is frozen) -/
def uCall (T : TF) (t : TL) : TD := fun c Q => t c fun xs c1 => T (xs.map S.d) (kD fun x => Q x c1)
theorem d_call {ds : List Value} (F : FnOk X.prog X.w X.K X.mg X.base CX0 k f fd ps (SpD X.K T)) (hr : Room k X.A) (hm : X.mg x = some (.ref f)) (hk : PySem.W.keepIn X.K (.ref f) = true) (hb : Binds X.K fd ps []) (ha : DA X (e :: es) tl) (hg : Gl X x := by rfl)
    (hdb : (x == ("__debug__" : Str)) = false := by decide) (he : starEach (e :: es) X.env = (false, eval e X.env) :: starEach es X.env := by rfl) (hpl : (backTo pos (starEach es X.env)).any (·.1) = false := by rfl) : DE X (.Call (.Name x p) (e :: es) [] pos) (uCall T tl) := (by
  obtain ⟨ta, pa, va⟩ := ha.ex
  refine ⟨_, pe_call F hr hg hm hk hb .nil pass0 pa hdb he hpl, fun B c s G H Q R st q k => va B c s G H _ _ st q fun vs xs c1 G1 H1 st1 e1 d1 q1 => ?_⟩
  rw [List.append_nil]
  refine ⟨G1, [], xs.map S.d, _, stt_data st1.sub d1, q1, fun r c' v s' G' H' st' q2 => ?_⟩
  cases r with
  | d y =>
    obtain ⟨st2, e2⟩ := after0 st1 st'
    obtain ⟨A', r', _⟩ := st'.ex
    cases r' with
    | d hd _ => exact k v y c1 G' H' st2 (e1.trans e2) hd q2
  | o w R2 =>
    cases w with
    | none =>
      obtain ⟨st2, e2⟩ := after0o st1 st'
      obtain ⟨G2, d, a1, a2, a3, a4⟩ := st2.frzR q2
      exact k v d c1 G2 H' a1 ((e1.trans e2).trans a2) a3 a4
    | some _ => exact q2.elim
  | no => exact q2.elim
  | f _ => exact q2.elim
  )
/-- .. its answer a new owned thing -/
def oCall (T : TF) (t : TL) : TR := fun c Q => t c fun xs c1 => T (xs.map S.d) (kO fun R => Q R c1)
theorem o_call (F : FnOk X.prog X.w X.K X.mg X.base CX0 k f fd ps (SpD X.K T)) (hr : Room k X.A) (hm : X.mg x = some (.ref f)) (hk : PySem.W.keepIn X.K (.ref f) = true) (hb : Binds X.K fd ps []) (ha : DA X (e :: es) tl) (hg : Gl X x := by rfl)
    (hdb : (x == ("__debug__" : Str)) = false := by decide) (he : starEach (e :: es) X.env = (false, eval e X.env) :: starEach es X.env := by rfl) (hpl : (backTo pos (starEach es X.env)).any (·.1) = false := by rfl) : DO X (.Call (.Name x p) (e :: es) [] pos) (oCall T tl) := (by
  obtain ⟨ta, pa, va⟩ := ha.ex
  refine ⟨_, pe_call F hr hg hm hk hb .nil pass0 pa hdb he hpl, fun B c s G H Q R st q k => va B c s G H _ _ st q fun vs xs c1 G1 H1 st1 e1 d1 q1 => ?_⟩
  rw [List.append_nil]
  refine ⟨G1, [], xs.map S.d, _, stt_data st1.sub d1, q1, fun r c' v s' G' H' st' q2 => ?_⟩
  cases r with
  | o w R2 =>
    cases w with
    | none =>
      obtain ⟨st2, e2⟩ := after0o st1 st'
      exact k v R2 c1 G' H' st2 (e1.trans e2) q2
    | some _ => exact q2.elim
  | d _ => exact q2.elim
  | no => exact q2.elim
  | f _ => exact q2.elim
  )
/-- a call to which slot j is lent as the first argument -/
def uLend (T : TF) (j : Nat) (t : TL) : TD := fun c Q => slO c j fun _ _ => t c fun xs c1 => slO c1 j fun w R => ∀ v : Lt, T (.o (some v) R :: xs.map S.d) (kL v fun x R' => Q x (c1.set j (.o w R')))
theorem d_lend (j : Nat) {y : Str} {py : Pos} (F : FnOk X.prog X.w X.K X.mg X.base CX0 k f fd ps (SpD X.K T)) (hr : Room k X.A) (hm : X.mg x = some (.ref f)) (hk : PySem.W.keepIn X.K (.ref f) = true) (hb : Binds X.K fd ps []) (ha : DA X es tl) (hN : X.N[j]? = some y := by rfl) (hv : Vis X.env.scope y := by first | exact Or.inl rfl | exact Or.inr (Or.inl rfl) | exact Or.inr (Or.inr rfl)) (hd : (y == ("__debug__" : Str)) = false := by decide)
    (hcd : (y == ("__classdict__" : Str)) = false := by decide) (hg : Gl X x := by rfl)
    (hdb : (x == ("__debug__" : Str)) = false := by decide) (he : starEach (.Name y py :: es) X.env = (false, eval (.Name y py) X.env) :: starEach es X.env := by rfl) (hpl : (backTo pos (starEach es X.env)).any (·.1) = false := by rfl) : DE X (.Call (.Name x p) (.Name y py :: es) [] pos) (uLend T j tl) := (by
  obtain ⟨ta, pa, va⟩ := ha.ex
  refine ⟨_, pe_call F hr hg hm hk hb .nil pass0 (pa_cons (pe_var hN hv hd hcd) pa he) hdb he hpl, fun B c s G H Q R st q k => ?_⟩
  obtain ⟨w0, R0, g0, q⟩ := slO_of q
  obtain ⟨v0, hv0⟩ := st.own_at g0
  refine ⟨v0, hv0, va B c s G H _ _ st q fun vs xs c1 G1 H1 st1 e1 d1 q1 => ?_⟩
  obtain ⟨w, R1, g1, q1⟩ := slO_of q1
  obtain ⟨v, lx, _, hv1, ent, aft⟩ := lend1 st1 g1
  rw [hv0] at hv1
  cases hv1
  rw [List.append_nil]
  refine ⟨G1, lx.al, _, _, ent d1, q1 lx, fun r c' vr s' G' H' st' q2 => ?_⟩
  obtain ⟨R', g2, q2⟩ := q2
  obtain ⟨e2, h1, h2⟩ := aft st' g2
  cases r with
  | d y =>
    obtain ⟨hd, st2⟩ := h1 y rfl
    exact k vr y _ G' H' st2 (e1.trans e2) hd q2
  | o w R2 =>
    cases w with
    | none =>
      obtain ⟨G2, d, a1, a2, a3, a4⟩ := (h2 R2 rfl).frzR q2
      exact k vr d _ G2 H' a1 ((e1.trans e2).trans a2) a3 a4
    | some _ => exact q2.elim
  | no => exact q2.elim
  | f _ => exact q2.elim
  )
def oLend (T : TF) (j : Nat) (t : TL) : TR := fun c Q => slO c j fun _ _ => t c fun xs c1 => slO c1 j fun w R => ∀ v : Lt, T (.o (some v) R :: xs.map S.d) (kLO v fun R2 R' => Q R2 (c1.set j (.o w R')))
theorem o_lend (j : Nat) {y : Str} {py : Pos} (F : FnOk X.prog X.w X.K X.mg X.base CX0 k f fd ps (SpD X.K T)) (hr : Room k X.A) (hm : X.mg x = some (.ref f)) (hk : PySem.W.keepIn X.K (.ref f) = true) (hb : Binds X.K fd ps []) (ha : DA X es tl) (hN : X.N[j]? = some y := by rfl) (hv : Vis X.env.scope y := by first | exact Or.inl rfl | exact Or.inr (Or.inl rfl) | exact Or.inr (Or.inr rfl)) (hd : (y == ("__debug__" : Str)) = false := by decide)
    (hcd : (y == ("__classdict__" : Str)) = false := by decide) (hg : Gl X x := by rfl)
    (hdb : (x == ("__debug__" : Str)) = false := by decide) (he : starEach (.Name y py :: es) X.env = (false, eval (.Name y py) X.env) :: starEach es X.env := by rfl) (hpl : (backTo pos (starEach es X.env)).any (·.1) = false := by rfl) : DO X (.Call (.Name x p) (.Name y py :: es) [] pos) (oLend T j tl) := (by
  obtain ⟨ta, pa, va⟩ := ha.ex
  refine ⟨_, pe_call F hr hg hm hk hb .nil pass0 (pa_cons (pe_var hN hv hd hcd) pa he) hdb he hpl, fun B c s G H Q R st q k => ?_⟩
  obtain ⟨w0, R0, g0, q⟩ := slO_of q
  obtain ⟨v0, hv0⟩ := st.own_at g0
  refine ⟨v0, hv0, va B c s G H _ _ st q fun vs xs c1 G1 H1 st1 e1 d1 q1 => ?_⟩
  obtain ⟨w, R1, g1, q1⟩ := slO_of q1
  obtain ⟨v, lx, _, hv1, ent, aft⟩ := lend1 st1 g1
  rw [hv0] at hv1
  cases hv1
  rw [List.append_nil]
  refine ⟨G1, lx.al, _, _, ent d1, q1 lx, fun r c' vr s' G' H' st' q2 => ?_⟩
  obtain ⟨R', g2, q2⟩ := q2
  obtain ⟨e2, h1, h2⟩ := aft st' g2
  cases r with
  | o w R2 =>
    cases w with
    | none => exact k vr R2 _ G' H' (h2 R2 rfl) (e1.trans e2) q2
    | some _ => exact q2.elim
  | d _ => exact q2.elim
  | no => exact q2.elim
  | f _ => exact q2.elim
  )
end

/-! ### defs by name -/
/-- a def of the text that keeps its promise over data -/
structure Cal (P : Program) (w : World) (K : PySem.W.Frag) (mg : Str → Option Value) (base : Heap) (x : Str) (k : Nat) (ps : List Str) (T : TF) : Prop where
  ex : ∃ f fd, FnOk P w K mg base CX0 k f fd ps (SpD K T) ∧ mg x = some (.ref f) ∧ PySem.W.keepIn K (.ref f) = true ∧ Binds K fd ps []
theorem Cal.of {P : Program} {w : World} {K : PySem.W.Frag} {mg : Str → Option Value} {base : Heap} {x : Str} {k : Nat} {ps : List Str} {T : TF} {f : Addr} {fd : FuncData}
    (h1 : FnOk P w K mg base CX0 k f fd ps (SpD K T)) (h2 : mg x = some (.ref f)) (h3 : PySem.W.keepIn K (.ref f) = true) (h4 : Binds K fd ps []) : Cal P w K mg base x k ps T := ⟨f, fd, h1, h2, h3, h4⟩
/-- what the top has left of a def -/
structure Df (K : PySem.W.Frag) (mg : Str → Option Value) (x : Str) (st : Stmt) (ps : List Str) : Prop where
  ex : ∃ f fd, Fun K x x st f fd ∧ mg x = some (.ref f) ∧ Binds K fd ps []
section
variable {X : Cx} {e : Expr} {es : List Expr} {tl : TL} {x : Str} {p pos : Pos} {k : Nat} {ps : List Str} {T : TF}
theorem d_callC (C : Cal X.prog X.w X.K X.mg X.base x k ps T) (hr : Room k X.A) (ha : DA X (e :: es) tl) (hg : Gl X x := by rfl)
    (hdb : (x == ("__debug__" : Str)) = false := by decide) (he : starEach (e :: es) X.env = (false, eval e X.env) :: starEach es X.env := by rfl) (hpl : (backTo pos (starEach es X.env)).any (·.1) = false := by rfl) : DE X (.Call (.Name x p) (e :: es) [] pos) (uCall T tl) :=
  let ⟨_, _, h1, h2, h3, h4⟩ := C.ex; d_call (ds := []) h1 hr h2 h3 h4 ha hg hdb he hpl
theorem o_callC (C : Cal X.prog X.w X.K X.mg X.base x k ps T) (hr : Room k X.A) (ha : DA X (e :: es) tl) (hg : Gl X x := by rfl)
    (hdb : (x == ("__debug__" : Str)) = false := by decide) (he : starEach (e :: es) X.env = (false, eval e X.env) :: starEach es X.env := by rfl) (hpl : (backTo pos (starEach es X.env)).any (·.1) = false := by rfl) : DO X (.Call (.Name x p) (e :: es) [] pos) (oCall T tl) :=
  let ⟨_, _, h1, h2, h3, h4⟩ := C.ex; o_call h1 hr h2 h3 h4 ha hg hdb he hpl
theorem d_lendC (j : Nat) {y : Str} {py : Pos} (C : Cal X.prog X.w X.K X.mg X.base x k ps T) (hr : Room k X.A) (ha : DA X es tl) (hN : X.N[j]? = some y := by rfl) (hv : Vis X.env.scope y := by first | exact Or.inl rfl | exact Or.inr (Or.inl rfl) | exact Or.inr (Or.inr rfl)) (hd : (y == ("__debug__" : Str)) = false := by decide)
    (hcd : (y == ("__classdict__" : Str)) = false := by decide) (hg : Gl X x := by rfl)
    (hdb : (x == ("__debug__" : Str)) = false := by decide) (he : starEach (.Name y py :: es) X.env = (false, eval (.Name y py) X.env) :: starEach es X.env := by rfl) (hpl : (backTo pos (starEach es X.env)).any (·.1) = false := by rfl) : DE X (.Call (.Name x p) (.Name y py :: es) [] pos) (uLend T j tl) :=
  let ⟨_, _, h1, h2, h3, h4⟩ := C.ex; d_lend j h1 hr h2 h3 h4 ha hN hv hd hcd hg hdb he hpl
theorem o_lendC (j : Nat) {y : Str} {py : Pos} (C : Cal X.prog X.w X.K X.mg X.base x k ps T) (hr : Room k X.A) (ha : DA X es tl) (hN : X.N[j]? = some y := by rfl) (hv : Vis X.env.scope y := by first | exact Or.inl rfl | exact Or.inr (Or.inl rfl) | exact Or.inr (Or.inr rfl)) (hd : (y == ("__debug__" : Str)) = false := by decide)
    (hcd : (y == ("__classdict__" : Str)) = false := by decide) (hg : Gl X x := by rfl)
    (hdb : (x == ("__debug__" : Str)) = false := by decide) (he : starEach (.Name y py :: es) X.env = (false, eval (.Name y py) X.env) :: starEach es X.env := by rfl) (hpl : (backTo pos (starEach es X.env)).any (·.1) = false := by rfl) : DO X (.Call (.Name x p) (.Name y py :: es) [] pos) (oLend T j tl) :=
  let ⟨_, _, h1, h2, h3, h4⟩ := C.ex; o_lend j h1 hr h2 h3 h4 ha hN hv hd hcd hg hdb he hpl
end
/-! ### isinstance: the built-in classes -/
theorem kt_str {K : PySem.W.Frag} : ∀ x : PyData, (∀ kv, x ≠ .dict kv) → PySem.W.kitOne K (tyD x) (.type "str") = some (isStrD x)
  | .none, _ => kit_ty (r := false) (by decide +kernel)
  | .bool _, _ => kit_ty (r := false) (by decide +kernel)
  | .int _, _ => kit_ty (r := false) (by decide +kernel)
  | .str _, _ => kit_ty (r := true) (by decide +kernel)
  | .list _, _ => kit_ty (r := false) (by decide +kernel)
  | .tuple _, _ => kit_ty (r := false) (by decide +kernel)
  | .dict kv, h => absurd rfl (h kv)
theorem bb_int : bootBuiltins "int" = some (.type "int") := by decide +kernel
theorem bb_str : bootBuiltins "str" = some (.type "str") := by decide +kernel
theorem bb_list : bootBuiltins "list" = some (.type "list") := by decide +kernel
theorem bb_tuple : bootBuiltins "tuple" = some (.type "tuple") := by decide +kernel
theorem hu65 {A : Around} {k : Nat} (hr : Room k A) : A.units + 65 < cLine := by have := hr.un; omega
/-! ### loops by what they compute -/
theorem rngD_get {lo : Int} {n i : Nat} {y : PyData} (h : (rngD lo n)[i]? = some y) : i < n ∧ y = .int (lo + i) := (by
  unfold rngD at h
  rw [List.getElem?_map] at h
  by_cases hi : i < n
  · rw [List.getElem?_range hi] at h
    exact ⟨hi, (Option.some.inj h).symm⟩
  · rw [List.getElem?_eq_none (by simpa using hi)] at h
    cases h
  )
/-- a cut by a word of one's own; the walk sees a letter in its place -/
theorem cut_by {t u : TSd} {E : De} {c : Ctx} (M : Ctx → Prop) (h1 : ∀ N : Ctx → Prop, (∀ c, M c → N c) → t { E with nx := N } c) (h2 : ∀ c, M c → u E c) : zCut t u E c := ⟨M, h1 M fun _ h => h, h2⟩
theorem loop_by {tg : TGd} {tb : TSd} {E : De} {ys : List PyData} {c : Ctx} (I : Nat → Ctx → Prop) (h0 : I 0 c)
    (turn : ∀ i y c (N : Ctx → Prop), ys[i]? = some y → I i c → (∀ c, I (i + 1) c → N c) → tg y c fun c2 => tb { E with nx := N, ct := N, bk := E.nx } c2) (fin : ∀ c, I ys.length c → E.nx c) : zLoop tg tb E ys c :=
  ⟨I, h0, fun i y c hy hI => turn i y c _ hy hI fun _ h => h, fin⟩
instance : Inhabited V := ⟨.non⟩
instance : Inhabited Lt := ⟨⟨.non, []⟩⟩

/-! ### == of data -/
/-- data that can be compared, at most n deep -/
def Sh (n : Nat) (d : PyData) : Prop := d.canLay0 = true ∧ d.depth ≤ n
theorem shaped_of {n : Nat} {d : PyData} (h : Sh n d) (hn : n ≤ 64 := by decide) : SeqAt.shaped d = true := (by
  unfold SeqAt.shaped
  rw [h.1, decide_eq_true (Nat.le_trans h.2 hn)]
  rfl
  )
theorem shaped_iff {d : PyData} : SeqAt.shaped d = true ↔ Sh 64 d := ⟨fun h => ⟨SeqAt.canLay_of_shaped h, SeqAt.depth_of_shaped h⟩, fun h => shaped_of h⟩
theorem sh_non {n : Nat} : Sh n .none ↔ True := iff_true_intro ⟨rfl, Nat.zero_le _⟩
theorem sh_int {n : Nat} {i : Int} : Sh n (.int i) ↔ True := iff_true_intro ⟨rfl, Nat.zero_le _⟩
theorem sh_bool {n : Nat} {i : Bool} : Sh n (.bool i) ↔ True := iff_true_intro ⟨rfl, Nat.zero_le _⟩
theorem sh_str {n : Nat} {x : Str} : Sh n (.str x) ↔ PyData.strOk x = true := ⟨fun h => h.1, fun h => ⟨h, Nat.zero_le _⟩⟩
theorem sh_all {n : Nat} : ∀ {ds : List PyData}, (PyData.canLayAll0 ds = true ∧ PyData.depthAll ds ≤ n) ↔ ∀ d ∈ ds, Sh n d
  | [] => by simp [PyData.canLayAll0, PyData.depthAll]
  | d :: ds => by
    have ih := @sh_all n ds
    unfold PyData.canLayAll0 PyData.depthAll
    rw [Bool.and_eq_true, Nat.max_le]
    constructor
    · rintro ⟨⟨a, b⟩, c, e⟩ x hx
      rcases List.mem_cons.mp hx with rfl | hx
      · exact ⟨a, c⟩
      · exact ih.mp ⟨b, e⟩ x hx
    · intro h
      have h1 := h d List.mem_cons_self
      have h2 := ih.mpr fun x hx => h x (List.mem_cons_of_mem _ hx)
      exact ⟨⟨h1.1, h2.1⟩, h1.2, h2.2⟩
theorem sh_list {n : Nat} {ds : List PyData} : Sh (n + 1) (.list ds) ↔ ∀ d ∈ ds, Sh n d := (by
  rw [← sh_all]
  unfold Sh PyData.canLay0 PyData.depth
  rw [Nat.add_le_add_iff_right]
  )
theorem sh_tuple {n : Nat} {ds : List PyData} : Sh (n + 1) (.tuple ds) ↔ ∀ d ∈ ds, Sh n d := (by
  rw [← sh_all]
  unfold Sh PyData.canLay0 PyData.depth
  rw [Nat.add_le_add_iff_right]
  )
theorem Sh.mono {n m : Nat} {d : PyData} (h : Sh n d) (hm : n ≤ m) : Sh m d := ⟨h.1, Nat.le_trans h.2 hm⟩
theorem eqv_int {i j : Int} : PyData.eqv (.int i) (.int j) = (i == j) := by simp [PyData.eqv]
theorem eqv_str {i j : Str} : PyData.eqv (.str i) (.str j) = (i == j) := by simp [PyData.eqv]
theorem eqv_bool {i j : Bool} : PyData.eqv (.bool i) (.bool j) = (i == j) := by simp [PyData.eqv]
theorem eqv_list {i j : List PyData} : PyData.eqv (.list i) (.list j) = PyData.eqvAll i j := by simp [PyData.eqv]
theorem eqv_tuple {i j : List PyData} : PyData.eqv (.tuple i) (.tuple j) = PyData.eqvAll i j := by simp [PyData.eqv]
theorem eqvAll_cons {x y : PyData} {i j : List PyData} : PyData.eqvAll (x :: i) (y :: j) = (PyData.eqv x y && PyData.eqvAll i j) := by simp [PyData.eqvAll]
theorem sz_0 : (0 ≤ sizeLine) ↔ True := iff_true_intro (by decide)
theorem sz_1 : (1 ≤ sizeLine) ↔ True := iff_true_intro (by decide)
theorem sz_2 : (2 ≤ sizeLine) ↔ True := iff_true_intro (by decide)
theorem sz_3 : (3 ≤ sizeLine) ↔ True := iff_true_intro (by decide)
theorem sz_4 : (4 ≤ sizeLine) ↔ True := iff_true_intro (by decide)
theorem sz_5 : (5 ≤ sizeLine) ↔ True := iff_true_intro (by decide)
theorem sz_6 : (6 ≤ sizeLine) ↔ True := iff_true_intro (by decide)
theorem sz_7 : (7 ≤ sizeLine) ↔ True := iff_true_intro (by decide)
theorem sz_8 : (8 ≤ sizeLine) ↔ True := iff_true_intro (by decide)
/-! ### numbers -/
theorem mulA_l {i j : Int} (h1 : -(2 ^ 64) < i) (h2 : i < 2 ^ 64) : CMulA i j := .inl (.inl ⟨h1, h2⟩)
theorem mulA_r {i j : Int} (h1 : -(2 ^ 64) < j) (h2 : j < 2 ^ 64) : CMulA i j := .inl (.inr ⟨h1, h2⟩)
/-- a number of at most n bits -/
def Bd (n : Nat) (x : Int) : Prop := x.natAbs < 2 ^ n
instance {n : Nat} {x : Int} : Decidable (Bd n x) := inferInstanceAs (Decidable (x.natAbs < 2 ^ n))
theorem ca_0 : ((0 : Nat) : Int) = 0 := id rfl
theorem ca_1 : ((1 : Nat) : Int) = 1 := id rfl
theorem ca_2 : ((2 : Nat) : Int) = 2 := id rfl
theorem ca_3 : ((3 : Nat) : Int) = 3 := id rfl
theorem ca_4 : ((4 : Nat) : Int) = 4 := id rfl
theorem ca_5 : ((5 : Nat) : Int) = 5 := id rfl
theorem ca_6 : ((6 : Nat) : Int) = 6 := id rfl
theorem powA {i j : Int} (h : (decide (0 ≤ j) && decide (j ≤ 1000000) && decide (i.natAbs < 2 ^ 64)) = true) : CPow i j := (by
  rw [Bool.and_eq_true, Bool.and_eq_true] at h
  exact ⟨of_decide_eq_true h.1.1, of_decide_eq_true h.1.2, of_decide_eq_true h.2⟩
  )
theorem Bd.mono {n m : Nat} {x : Int} (h : Bd n x) (hm : n ≤ m) : Bd m x := Nat.lt_of_lt_of_le h (Nat.pow_le_pow_right (by decide) hm)
theorem mulA_b {i j : Int} {n m : Nat} (hi : Bd n i) (hj : Bd m j) (h : n + m + 2 ≤ 1000000) : CMulA i j := .inr (wide_mul (a := n + 1) (b := m + 1) (hi.mono (Nat.le_succ n)) (hj.mono (Nat.le_succ m)) (Nat.succ_pos _) (Nat.succ_pos _) (by omega))
theorem divA_b {i j : Int} {n : Nat} (h0 : j ≠ 0) (hj : Bd n j) (h : n < 9000) : CDivA i j := (by
  have h1 : j.natAbs < 2 ^ (n + 1) := hj.mono (Nat.le_succ n)
  exact ⟨h0, Nat.lt_of_lt_of_le (PySem.Flt.log2_lt_of (Nat.succ_pos _) h1) (by omega)⟩
  )
theorem bd_of {x : Int} {n : Nat} (h1 : -(2 ^ n) < x) (h2 : x < 2 ^ n) : Bd n x := (by
  unfold Bd
  have e : ((2 ^ n : Nat) : Int) = (2 : Int) ^ n := by simp
  rw [← e] at h1 h2
  omega
  )
theorem fmod_pos {i j : Int} (h : 0 < j) : 0 ≤ i.fmod j ∧ i.fmod j < j := ⟨Int.fmod_nonneg_of_pos i h, Int.fmod_lt_of_pos i h⟩
theorem atI_of {α : Type} {xs : List α} {i : Int} (h0 : 0 ≤ i) (h1 : i < xs.length) : atI xs i = xs[i.toNat]? := (by
  obtain ⟨n, rfl⟩ := Int.eq_ofNat_of_zero_le h0
  have hn : n < xs.length := by omega
  rw [show atI xs (n : Int) = some xs[n] from atI_nat (List.getElem?_eq_getElem hn)]
  simp [hn]
  )
section
variable {α : Type} {x y z u : α} {xs : List α}
theorem atI_0 : atI (x :: xs) 0 = some x := atI_nat (j := 0) rfl
theorem atI_1 : atI (x :: y :: xs) 1 = some y := atI_nat (j := 1) rfl
theorem atI_2 : atI (x :: y :: z :: xs) 2 = some z := atI_nat (j := 2) rfl
theorem atI_3 : atI (x :: y :: z :: u :: xs) 3 = some u := atI_nat (j := 3) rfl
theorem atI_b1 : atI [x] (-1) = some x := atI_last [] x
theorem atI_b2 : atI [x, y] (-1) = some y := atI_last [x] y
theorem atI_b3 : atI [x, y, z] (-1) = some z := atI_last [x, y] z
end
section
variable {x y z u : PyData} {xs : List PyData} {Q : PyData → Prop} {P : Nat → Prop}
theorem atD_0 : atD (x :: xs) 0 Q = Q x := propext ⟨fun ⟨d, e, q⟩ => by rw [atI_0] at e; cases e; exact q, fun q => ⟨x, atI_0, q⟩⟩
theorem atD_1 : atD (x :: y :: xs) 1 Q = Q y := propext ⟨fun ⟨d, e, q⟩ => by rw [atI_1] at e; cases e; exact q, fun q => ⟨y, atI_1, q⟩⟩
theorem atD_2 : atD (x :: y :: z :: xs) 2 Q = Q z := propext ⟨fun ⟨d, e, q⟩ => by rw [atI_2] at e; cases e; exact q, fun q => ⟨z, atI_2, q⟩⟩
theorem atD_3 : atD (x :: y :: z :: u :: xs) 3 Q = Q u := propext ⟨fun ⟨d, e, q⟩ => by rw [atI_3] at e; cases e; exact q, fun q => ⟨u, atI_3, q⟩⟩
theorem atD_b1 : atD [x] (-1) Q = Q x := propext ⟨fun ⟨d, e, q⟩ => by rw [atI_b1] at e; cases e; exact q, fun q => ⟨x, atI_b1, q⟩⟩
theorem atD_b2 : atD [x, y] (-1) Q = Q y := propext ⟨fun ⟨d, e, q⟩ => by rw [atI_b2] at e; cases e; exact q, fun q => ⟨y, atI_b2, q⟩⟩
theorem atD_b3 : atD [x, y, z] (-1) Q = Q z := propext ⟨fun ⟨d, e, q⟩ => by rw [atI_b3] at e; cases e; exact q, fun q => ⟨z, atI_b3, q⟩⟩
theorem ixP_30 : ixP 3 0 P = P 0 := propext ⟨fun ⟨k, e, q⟩ => by cases e; exact q, fun q => ⟨0, rfl, q⟩⟩
theorem ixP_31 : ixP 3 1 P = P 1 := propext ⟨fun ⟨k, e, q⟩ => by cases e; exact q, fun q => ⟨1, rfl, q⟩⟩
theorem ixP_32 : ixP 3 2 P = P 2 := propext ⟨fun ⟨k, e, q⟩ => by cases e; exact q, fun q => ⟨2, rfl, q⟩⟩
end
theorem ixN_30 : ixN 3 0 = some 0 := id rfl
theorem ixN_31 : ixN 3 1 = some 1 := id rfl
theorem ixN_32 : ixN 3 2 = some 2 := id rfl
theorem ixN_20 : ixN 2 0 = some 0 := id rfl
theorem ixN_21 : ixN 2 1 = some 1 := id rfl
theorem atI_ints {ns : List Int} {i : Int} (h0 : 0 ≤ i) (h1 : i < ns.length) : ∃ n ∈ ns, atI (ns.map PyData.int) i = some (.int n) := (by
  rw [atI_of h0 (by simpa using h1), List.getElem?_map, List.getElem?_eq_getElem (show i.toNat < ns.length by omega)]
  exact ⟨_, List.getElem_mem _, rfl⟩
  )
/-! ### the law's feed: [cell, count, script] -/
def FeedP (ds : List PyData) : Prop := ∃ (c k : Int) (ns : List Int), ds = [.int c, .int k, .list (ns.map PyData.int)]

/-! ### what the top has left -/
theorem fun_ofD {K : PySem.W.Frag} {x q : Str} {st : Stmt} {f : Addr} {fd : FuncData} (F : FunD K x q (defArgs st) (defBody st) (defScope st) [] [] f fd) : Fun K x q st f fd := (by
  obtain ⟨oc, od, dV, kV, doc, pm, an, cdv, ct, osl, e, lk, hc, hd, _⟩ := F.ex
  have hN : dV = .none := by
    rcases hd with ⟨_, z⟩ | ⟨z, _⟩
    · exact z
    · exact absurd rfl z
  subst hN
  exact ⟨⟨oc, od, kV, doc, pm, an, cdv, ct, osl, e, lk, hc⟩, F.kp⟩
  )
theorem df_of {K : PySem.W.Frag} {h : Heap} {mg : Str → Option Value} {fa : List He.Fa} {fn : List He.DefD} {x : Str} {st : Stmt} {ps : List Str} (X : K.In h) (G : h.Ns mainGlobals mg) (c : He.SaysD fa fn K) (i j : Nat)
    (hd : fn[i]? = some ⟨(x, none), x, x, defArgs st, defBody st, defScope st, [], []⟩) (hf : fa[j]? = some (.glo x))
    (hb : ∀ (kV doc pm : Value) (an : Option Addr) (cdv ct : Value) (us : List Value), us.length = ps.length → bindArgs (PySem.W.fnOf x x (defArgs st) (defBody st) (defScope st) .none kV doc pm an cdv ct) ⟨us, []⟩ = pure (ps.zip us)) : Df K mg x st ps := (by
  obtain ⟨fd, F⟩ := c.def_ i hd
  have F2 := fun_ofD F
  exact ⟨_, fd, F2, He.glo_ok X G (c.fact j hf), F2.binds hb⟩
  )
/-- the law: a script's list in, True out -/
def TLaw (T : TF) : Prop := ∀ (ns : List Int) (Q : S → Ctx → Prop), ns.length ≤ 63 → ret Q (.d (.bool true)) → T [.d (.list (ns.map PyData.int))] Q
theorem law_end {P : Program} {w : World} {K : PySem.W.Frag} {mg : Str → Option Value} {k : Nat} {T : TF} {fa : Addr} {st : Stmt} (hT : TLaw T) (D : Df K mg "law" st ["script"]) (hfa : mg "law" = some (.ref fa))
    (hb : ∀ (kV doc pm : Value) (an : Option Addr) (cdv ct : Value) (u : Value), bindArgs (PySem.W.fnOf "law" "law" (defArgs st) (defBody st) (defScope st) .none kV doc pm an cdv ct) ⟨[u], []⟩ = pure [(("script" : Str), u)])
    (C : ∀ base : Heap, K.In base → base.Ns mainGlobals mg → ∀ f fd, Fun K "law" "law" st f fd → FnOk P w K mg base CX0 k f fd ["script"] (SpD K T)) :
    ∃ (fd : FuncData) (sp : Sp), (∀ (s : Shared) (u : Value), BindsTo s fd ⟨[u], []⟩ [("script", u)]) ∧
      (∀ (H : Hp) (a : Addr) (ns : List Int), ns.length ≤ 63 → Only H → SqL K H a (ns.map V.int) → sp [.ref a] H (fun v _ => v = .bl true) fun _ _ _ => False) ∧
      ∀ base : Heap, K.In base → base.Ns mainGlobals mg → FnOk P w K mg base CX0 k fa fd ["script"] sp := (by
  obtain ⟨f, fd, F, hm, _⟩ := D.ex
  rw [hfa] at hm
  cases hm
  refine ⟨fd, SpD K T, ?_, ?_, fun base h1 h2 => C base h1 h2 _ fd F⟩
  · obtain ⟨oc, od, kV, doc, pm, an, cdv, ct, osl, rfl, _, _⟩ := F.ex
    exact fun s u => .of_eq (hb kV doc pm an cdv ct u)
  · intro H a ns hl _ hS
    refine ⟨H, [], [.d (.list (ns.map PyData.int))], fun r _ => r = .d (.bool true), stt_data (vs := [.ref a]) (xs := [.list (ns.map PyData.int)]) (Same.refl H) (.cons (.lst hS (dpa_ints ns)) .nil), hT ns _ hl fun _ => rfl, ?_⟩
    intro r c v s G' H' st' hr
    subst hr
    obtain ⟨A, r', _⟩ := st'.ex
    cases r' with
    | d hd _ => exact dp_bl hd
  )
end Dl

/-! Calls to which any of a def's own things are lent. -/
namespace Dl
open PySem PySem.Spec PyProof.Rows L2

/-! ### a state, slot by slot -/
structure Fp (K : PySem.W.Frag) (B : Base) (G H : Hp) (c : Ctx) (s : L2.St) (A : List Addr) (fp : Nat → List Addr) : Prop where
  len : s.length = c.length
  d : ∀ (i : Nat) (x : PyData), c[i]? = some (S.d x) → ∃ v, s[i]? = some (some v) ∧ Dp K G v x
  f : ∀ (i : Nat) (F : FrG), c[i]? = some (S.f F) → ∃ v, s[i]? = some (some v) ∧ F.P K G v
  o : ∀ (i : Nat) (w : Option Lt) (R : Res), c[i]? = some (S.o w R) → ∃ v, s[i]? = some (some v) ∧ R.P K G H v (fp i) ∧ WOk B w v (fp i)
  nd : ∀ i, (fp i).Nodup
  dj : ∀ i j, i ≠ j → ∀ a ∈ fp i, a ∉ fp j
  sub : ∀ i, ∀ a ∈ fp i, a ∈ A
section
variable {K : PySem.W.Frag} {B : Base} {G G' H H' : Hp} {c : Ctx} {s : L2.St} {A : List Addr}
def fpCons (A : List Addr) (fp : Nat → List Addr) : Nat → List Addr
  | 0 => A
  | i + 1 => fp i
theorem fp_of (h : Reps K B G H c s A) : A.Nodup → ∃ fp, Fp K B G H c s A fp := (by
  induction h with
  | nil => intro _; exact ⟨fun _ => [], rfl, by simp, by simp, by simp, by simp, by simp, by simp⟩
  | @no x c s A h ih =>
    intro nd
    obtain ⟨fp, F⟩ := ih nd
    refine ⟨fpCons [] fp, by simp [F.len], ?_, ?_, ?_, ?_, ?_, ?_⟩
    · intro i y e; cases i with
      | zero => simp at e
      | succ i => simpa using F.d i y (by simpa using e)
    · intro i y e; cases i with
      | zero => simp at e
      | succ i => simpa using F.f i y (by simpa using e)
    · intro i w R e; cases i with
      | zero => simp at e
      | succ i => simpa [fpCons] using F.o i w R (by simpa using e)
    · intro i; cases i with
      | zero => exact List.nodup_nil
      | succ i => exact F.nd i
    · intro i j hij a ha; cases i with
      | zero => simp [fpCons] at ha
      | succ i => cases j with
        | zero => simp [fpCons]
        | succ j => exact F.dj i j (fun z => hij (by rw [z])) a ha
    · intro i a ha; cases i with
      | zero => simp [fpCons] at ha
      | succ i => exact F.sub i a ha
  | @d v x c s A hd h ih =>
    intro nd
    obtain ⟨fp, F⟩ := ih nd
    refine ⟨fpCons [] fp, by simp [F.len], ?_, ?_, ?_, ?_, ?_, ?_⟩
    · intro i y e; cases i with
      | zero =>
        have e' : S.d x = S.d y := by simpa using e
        cases e'; exact ⟨v, rfl, hd⟩
      | succ i => simpa using F.d i y (by simpa using e)
    · intro i y e; cases i with
      | zero => simp at e
      | succ i => simpa using F.f i y (by simpa using e)
    · intro i w R e; cases i with
      | zero => simp at e
      | succ i => simpa [fpCons] using F.o i w R (by simpa using e)
    · intro i; cases i with
      | zero => exact List.nodup_nil
      | succ i => exact F.nd i
    · intro i j hij a ha; cases i with
      | zero => simp [fpCons] at ha
      | succ i => cases j with
        | zero => simp [fpCons]
        | succ j => exact F.dj i j (fun z => hij (by rw [z])) a ha
    · intro i a ha; cases i with
      | zero => simp [fpCons] at ha
      | succ i => exact F.sub i a ha
  | @f v x c s A hd h ih =>
    intro nd
    obtain ⟨fp, F⟩ := ih nd
    refine ⟨fpCons [] fp, by simp [F.len], ?_, ?_, ?_, ?_, ?_, ?_⟩
    · intro i y e; cases i with
      | zero => simp at e
      | succ i => simpa using F.d i y (by simpa using e)
    · intro i y e; cases i with
      | zero =>
        have e' : S.f x = S.f y := by simpa using e
        cases e'; exact ⟨v, rfl, hd⟩
      | succ i => simpa using F.f i y (by simpa using e)
    · intro i w R e; cases i with
      | zero => simp at e
      | succ i => simpa [fpCons] using F.o i w R (by simpa using e)
    · intro i; cases i with
      | zero => exact List.nodup_nil
      | succ i => exact F.nd i
    · intro i j hij a ha; cases i with
      | zero => simp [fpCons] at ha
      | succ i => cases j with
        | zero => simp [fpCons]
        | succ j => exact F.dj i j (fun z => hij (by rw [z])) a ha
    · intro i a ha; cases i with
      | zero => simp [fpCons] at ha
      | succ i => exact F.sub i a ha
  | @o w v R c s A A' ho hw h ih =>
    intro nd
    obtain ⟨n1, n2, n3⟩ := List.nodup_append.mp nd
    obtain ⟨fp, F⟩ := ih n2
    refine ⟨fpCons A fp, by simp [F.len], ?_, ?_, ?_, ?_, ?_, ?_⟩
    · intro i y e; cases i with
      | zero => simp at e
      | succ i => simpa using F.d i y (by simpa using e)
    · intro i y e; cases i with
      | zero => simp at e
      | succ i => simpa using F.f i y (by simpa using e)
    · intro i w2 R2 e; cases i with
      | zero =>
        have e' : S.o w R = S.o w2 R2 := by simpa using e
        cases e'; exact ⟨v, rfl, ho, hw⟩
      | succ i => simpa [fpCons] using F.o i w2 R2 (by simpa using e)
    · intro i; cases i with
      | zero => exact n1
      | succ i => exact F.nd i
    · intro i j hij a ha; cases i with
      | zero => cases j with
        | zero => exact absurd rfl hij
        | succ j => exact fun z => n3 a ha a (F.sub j a z) rfl
      | succ i => cases j with
        | zero => exact fun z => n3 a z a (F.sub i a ha) rfl
        | succ j => exact F.dj i j (fun z => hij (by rw [z])) a ha
    · intro i a ha; cases i with
      | zero => exact List.mem_append_left _ ha
      | succ i => exact List.mem_append_right _ (F.sub i a ha)
  )
theorem reps_of : ∀ {c : Ctx} {s : L2.St} {fp : Nat → List Addr}, Fp K B G H c s A fp → ∃ A', Reps K B G H c s A' ∧ A'.Nodup ∧ ∀ a ∈ A', ∃ i w R, c[i]? = some (.o w R) ∧ a ∈ fp i := (by
  intro c
  induction c with
  | nil =>
    intro s fp F
    have := F.len
    cases s with
    | nil => exact ⟨[], .nil, List.nodup_nil, by simp⟩
    | cons _ _ => simp at this
  | cons x c ih =>
    intro s fp F
    cases s with
    | nil => have := F.len; simp at this
    | cons v s =>
      have F2 : Fp K B G H c s A (fun i => fp (i + 1)) :=
        ⟨by have := F.len; simpa using this, fun i y e => by simpa using F.d (i + 1) y (by simpa using e), fun i y e => by simpa using F.f (i + 1) y (by simpa using e), fun i w R e => by simpa using F.o (i + 1) w R (by simpa using e), fun i => F.nd (i + 1), fun i j hij => F.dj (i + 1) (j + 1) (fun z => hij (by omega)), fun i => F.sub (i + 1)⟩
      obtain ⟨A', r, n, q⟩ := ih F2
      have q2 : ∀ a ∈ A', ∃ i w R, (x :: c)[i]? = some (S.o w R) ∧ a ∈ fp i := fun a ha => by
        obtain ⟨i, w, R, e, h⟩ := q a ha
        exact ⟨i + 1, w, R, by simpa using e, h⟩
      cases x with
      | no => exact ⟨A', .no r, n, q2⟩
      | d y =>
        obtain ⟨u, e, h⟩ := F.d 0 y rfl
        simp at e; subst e
        exact ⟨A', .d h r, n, q2⟩
      | f y =>
        obtain ⟨u, e, h⟩ := F.f 0 y rfl
        simp at e; subst e
        exact ⟨A', .f h r, n, q2⟩
      | o w R =>
        obtain ⟨u, e, h, hw⟩ := F.o 0 w R rfl
        simp at e; subst e
        refine ⟨fp 0 ++ A', .o h hw r, List.nodup_append.mpr ⟨F.nd 0, n, fun a ha b hb z => ?_⟩, fun a ha => ?_⟩
        · subst z
          obtain ⟨i, w2, R2, _, h2⟩ := q a hb
          exact F.dj 0 (i + 1) (by omega) a ha h2
        · rcases List.mem_append.mp ha with z | z
          · exact ⟨0, w, R, rfl, z⟩
          · exact q2 a z
  )
end

/-! ### arguments: data, frozen things, slots -/
inductive Arg where
  | d (x : PyData)
  | f (F : FrG)
  | s (j : Nat)
/-- an owned thing at slot j, lent: its value u -/
def slS : Ctx → Nat → Lt → S
  | .o _ R :: _, 0, u => .o (some u) R
  | _ :: c, i + 1, u => slS c i u
  | _, _, _ => .no
theorem slS_0 {w : Option Lt} {R : Res} {c : Ctx} {u : Lt} : slS (.o w R :: c) 0 u = .o (some u) R := id rfl
theorem slS_s {x : S} {c : Ctx} {i : Nat} {u : Lt} : slS (x :: c) (i + 1) u = slS c i u := by cases x <;> rfl
theorem slS_eq : ∀ {c : Ctx} {i : Nat} {w : Option Lt} {R : Res} {u : Lt}, c[i]? = some (.o w R) → slS c i u = .o (some u) R
  | [], _, _, _, _, e => by simp at e
  | x :: c, 0, w, R, u, e => by
    have e' : x = .o w R := by simpa using e
    rw [e']; rfl
  | x :: c, i + 1, w, R, u, e => by
    rw [slS_s]
    exact slS_eq (by simpa using e)
def toS (c : Ctx) (v : Nat → Lt) : Arg → S
  | .d x => .d x
  | .f F => .f F
  | .s j => slS c j (v j)
theorem toS_d {c : Ctx} {v : Nat → Lt} {x : PyData} : toS c v (.d x) = .d x := id rfl
theorem toS_f {c : Ctx} {v : Nat → Lt} {x : FrG} : toS c v (.f x) = .f x := id rfl
theorem toS_s {c : Ctx} {v : Nat → Lt} {j : Nat} : toS c v (.s j) = slS c j (v j) := id rfl
/-- the slots lent -/
def lent : List Arg → List Nat
  | [] => []
  | .s j :: as => j :: lent as
  | .d _ :: as => lent as
  | .f _ :: as => lent as
/-- what the lent slots hold behind the call, by the callee's parameters c' -/
def back (v : Nat → Lt) : List Arg → Ctx → Ctx → (Ctx → Prop) → Prop
  | [], _, c, Q => Q c
  | .s j :: as, .o (some u) R :: c', c, Q => u = v j ∧ slO c j fun w _ => back v as c' (c.set j (.o w R)) Q
  | .s _ :: _, _, _, _ => False
  | .d _ :: as, _ :: c', c, Q => back v as c' c Q
  | .d _ :: _, [], _, _ => False
  | .f _ :: as, _ :: c', c, Q => back v as c' c Q
  | .f _ :: _, [], _, _ => False
abbrev TAr := Ctx → (List Arg → Ctx → Prop) → Prop
/-- an argument's value -/
def ArgV (K : PySem.W.Frag) (G : Hp) (s : L2.St) : Arg → V → Prop
  | .d x, v => Dp K G v x
  | .f F, v => F.P K G v
  | .s j, v => s[j]? = some (some v)
inductive ArgVs (K : PySem.W.Frag) (G : Hp) (s : L2.St) : List Arg → List V → Prop
  | nil : ArgVs K G s [] []
  | cons {a : Arg} {v : V} {as : List Arg} {vs : List V} : ArgV K G s a v → ArgVs K G s as vs → ArgVs K G s (a :: as) (v :: vs)
theorem ArgV.mono {K : PySem.W.Frag} {G G' : Hp} {s : L2.St} (e : Same G G') : ∀ {a : Arg} {v : V}, ArgV K G s a v → ArgV K G' s a v
  | .d _, _, h => dp_mono e _ _ h
  | .f F, _, h => F.grow _ _ _ _ h e
  | .s _, _, h => h
def DArv (K : PySem.W.Frag) (te : TA) (t : TAr) : Prop := ∀ (B : Base) (c : Ctx) (s : L2.St) (G H : Hp) (Q : List Arg → Ctx → Prop) (R : List V → Hp → Prop), Stt K B c s G H → t c Q →
  (∀ vs as c' G' H', Stt K B c' s G' H' → Same G G' → ArgVs K G' s as vs → Q as c' → R vs H') → te s H R
structure DAr (X : Cx) (es : List Expr) (t : TAr) : Prop where
  ex : ∃ te, PA X es te ∧ DArv X.K te t
def rNil : TAr := fun c Q => Q [] c
def rD (ta : TD) (tr : TAr) : TAr := fun c Q => ta c fun x c1 => tr c1 fun as c2 => Q (.d x :: as) c2
def rS (j : Nat) (tr : TAr) : TAr := fun c Q => slO c j fun _ _ => tr c fun as c2 => Q (.s j :: as) c2
section
variable {X : Cx} {a e : Expr} {es : List Expr} {ta : TD} {tr t : TAr} {pos p : Pos}
theorem r_nil : DAr X [] rNil := ⟨_, pa_nil, fun B c s G H Q R st q k => k [] [] c G H st (Same.refl _) .nil q⟩
theorem r_d (ha : DE X a ta) (hr : DAr X es tr) (hs : starEach (a :: es) X.env = (false, eval a X.env) :: starEach es X.env := by rfl) : DAr X (a :: es) (rD ta tr) := (by
  obtain ⟨tea, pa, va⟩ := ha.ex
  obtain ⟨ter, pr, vr⟩ := hr.ex
  refine ⟨_, pa_cons pa pr hs, fun B c s G H Q R st q k => va B c s G H _ _ st q fun v x c1 G1 H1 st1 e1 d1 q1 => ?_⟩
  exact vr B c1 s G1 H1 _ _ st1 q1 fun vs xs c2 G2 H2 st2 e2 d2 q2 => k _ _ c2 G2 H2 st2 (e1.trans e2) (.cons (a := .d x) (dp_mono e2 _ _ d1) d2) q2
  )
theorem r_s (j : Nat) {y : Str} {py : Pos} (hr : DAr X es tr) (hN : X.N[j]? = some y := by rfl) (hv : Vis X.env.scope y := by first | exact Or.inl rfl | exact Or.inr (Or.inl rfl) | exact Or.inr (Or.inr rfl)) (hd : (y == ("__debug__" : Str)) = false := by decide)
    (hcd : (y == ("__classdict__" : Str)) = false := by decide) (hs : starEach (.Name y py :: es) X.env = (false, eval (.Name y py) X.env) :: starEach es X.env := by rfl) : DAr X (.Name y py :: es) (rS j tr) := (by
  obtain ⟨ter, pr, vr⟩ := hr.ex
  refine ⟨_, pa_cons (pe_var hN hv hd hcd) pr hs, fun B c s G H Q R st q k => ?_⟩
  obtain ⟨w, R0, e0, q⟩ := slO_of q
  obtain ⟨u, hu⟩ := st.own_at e0
  exact ⟨u, hu, vr B c s G H _ _ st q fun vs xs c2 G2 H2 st2 e2 d2 q2 => k _ _ c2 G2 H2 st2 e2 (.cons (a := .s j) hu d2) q2⟩
  )
end
/-- the values of the slots -/
def slV (s : L2.St) (j : Nat) : V := match s[j]? with
  | some (some v) => v
  | _ => .non
theorem slV_eq {s : L2.St} {j : Nat} {v : V} (h : s[j]? = some (some v)) : slV s j = v := by unfold slV; rw [h]
section
variable {K : PySem.W.Frag} {B : Base} {c : Ctx} {s : L2.St} {G H : Hp} {as : List Arg} {vs : List V}
theorem lent_mem : ∀ {as : List Arg} {j : Nat}, j ∈ lent as ↔ ∃ i : Nat, as[i]? = some (Arg.s j)
  | [], j => by simp [lent]
  | .d x :: as, j => by
    rw [show lent (.d x :: as) = lent as from rfl, lent_mem]
    constructor
    · rintro ⟨i, e⟩; exact ⟨i + 1, by simpa using e⟩
    · rintro ⟨i, e⟩
      cases i with
      | zero => simp at e
      | succ i => exact ⟨i, by simpa using e⟩
  | .f x :: as, j => by
    rw [show lent (.f x :: as) = lent as from rfl, lent_mem]
    constructor
    · rintro ⟨i, e⟩; exact ⟨i + 1, by simpa using e⟩
    · rintro ⟨i, e⟩
      cases i with
      | zero => simp at e
      | succ i => exact ⟨i, by simpa using e⟩
  | .s k :: as, j => by
    rw [show lent (.s k :: as) = k :: lent as from rfl, List.mem_cons, lent_mem]
    constructor
    · rintro (rfl | ⟨i, e⟩)
      · exact ⟨0, rfl⟩
      · exact ⟨i + 1, by simpa using e⟩
    · rintro ⟨i, e⟩
      cases i with
      | zero =>
        have e' : Arg.s k = Arg.s j := by simpa using e
        cases e'; exact .inl rfl
      | succ i => exact .inr ⟨i, by simpa using e⟩
/-- the words behind a call, put back: which slot holds what -/
theorem back_of {v : Nat → Lt} {Q : Ctx → Prop} : ∀ {as : List Arg} {c' c : Ctx}, (lent as).Nodup → back v as c' c Q →
    ∃ c2 : Ctx, Q c2 ∧ c2.length = c.length ∧ (∀ j, j ∉ lent as → c2[j]? = c[j]?) ∧ ∀ (i j : Nat), as[i]? = some (Arg.s j) → ∃ (w : Option Lt) (R R0 : Res), c'[i]? = some (S.o (some (v j)) R) ∧ c2[j]? = some (S.o w R) ∧ c[j]? = some (S.o w R0)
  | [], _, c, _, h => ⟨c, h, rfl, fun _ _ => rfl, by simp⟩
  | .d x :: as, [], c, _, h => h.elim
  | .f x :: as, [], c, _, h => h.elim
  | .d x :: as, y :: c', c, nd, h => by
    obtain ⟨c2, q, l, h1, h2⟩ := back_of (as := as) nd h
    refine ⟨c2, q, l, h1, fun i j e => ?_⟩
    cases i with
    | zero => simp at e
    | succ i => simpa using h2 i j (by simpa using e)
  | .f x :: as, y :: c', c, nd, h => by
    obtain ⟨c2, q, l, h1, h2⟩ := back_of (as := as) nd h
    refine ⟨c2, q, l, h1, fun i j e => ?_⟩
    cases i with
    | zero => simp at e
    | succ i => simpa using h2 i j (by simpa using e)
  | .s j :: as, [], c, _, h => h.elim
  | .s j :: as, .no :: c', c, _, h => h.elim
  | .s j :: as, .d _ :: c', c, _, h => h.elim
  | .s j :: as, .f _ :: c', c, _, h => h.elim
  | .s j :: as, .o none _ :: c', c, _, h => h.elim
  | .s j :: as, .o (some u) R :: c', c, nd, h => by
    obtain ⟨m1, m2⟩ := List.nodup_cons.mp (show (j :: lent as).Nodup from nd)
    obtain ⟨hu, h⟩ := h
    obtain ⟨w, R0, e0, h⟩ := slO_of h
    obtain ⟨c2, q, l, h1, h2⟩ := back_of (as := as) m2 h
    have hj : j < c.length := (List.getElem?_eq_some_iff.mp e0).1
    have ej : c2[j]? = some (.o w R) := by rw [h1 j m1, List.getElem?_set_self hj]
    refine ⟨c2, q, by rw [l, List.length_set], fun k hk => ?_, fun i k e => ?_⟩
    · have hk' : k ∉ j :: lent as := hk
      rw [h1 k (fun z => hk' (List.mem_cons_of_mem _ z)), List.getElem?_set_ne (fun z => hk' (by rw [z]; exact List.mem_cons_self))]
    · cases i with
      | zero =>
        have e' : Arg.s j = Arg.s k := by simpa using e
        cases e'
        exact ⟨w, R, R0, by rw [hu]; rfl, ej, e0⟩
      | succ i =>
        obtain ⟨w2, R2, R3, g1, g2, g3⟩ := h2 i k (by simpa using e)
        have kj : j ≠ k := fun z => m1 (by rw [z]; exact lent_mem.mpr ⟨i, by simpa using e⟩)
        rw [List.getElem?_set_ne kj] at g3
        exact ⟨w2, R2, R3, by simpa using g1, g2, g3⟩
theorem lent_one : ∀ {as : List Arg} {i i' j : Nat}, (lent as).Nodup → as[i]? = some (Arg.s j) → as[i']? = some (Arg.s j) → i = i'
  | [], i, _, _, _, e, _ => by simp at e
  | a :: as, 0, 0, _, _, _, _ => rfl
  | a :: as, 0, i' + 1, j, nd, e, e' => by
    have ea : a = .s j := by simpa using e
    rw [ea] at nd
    exact absurd (lent_mem.mpr ⟨i', by simpa using e'⟩) (List.nodup_cons.mp (show (j :: lent as).Nodup from nd)).1
  | a :: as, i + 1, 0, j, nd, e, e' => by
    have ea : a = .s j := by simpa using e'
    rw [ea] at nd
    exact absurd (lent_mem.mpr ⟨i, by simpa using e⟩) (List.nodup_cons.mp (show (j :: lent as).Nodup from nd)).1
  | a :: as, i + 1, i' + 1, j, nd, e, e' => by
    have nd' : (lent as).Nodup := by
      cases a with
      | d _ => exact nd
      | f _ => exact nd
      | s k => exact (List.nodup_cons.mp (show (k :: lent as).Nodup from nd)).2
    exact congrArg (· + 1) (lent_one (j := j) nd' (by simpa using e) (by simpa using e'))
/-- THE RULE for lending -/
theorem lendA (st : Stt K B c s G H) (hl : ∀ j ∈ lent as, ∃ w R, c[j]? = some (.o w R)) (nd : (lent as).Nodup) (hv : ArgVs K G s as vs) :
    ∃ (io : List Addr) (tg : Nat → Lt), Stt K ⟨H, G, io⟩ (as.map (toS c tg)) (vs.map some) G H ∧
      ∀ {r : S} {c' : Ctx} {vr : V} {s' : L2.St} {G' H' : Hp} {Q : Ctx → Prop}, Stt K ⟨H, G, io⟩ (r :: c') (some vr :: s') G' H' → back tg as c' c Q →
        Same G G' ∧ ∃ c2, Q c2 ∧ (∀ x, r = .d x → Dp K G' vr x ∧ Stt K B c2 s G' H') ∧ (∀ R2, r = .o none R2 → Stt K B (.o none R2 :: c2) (some vr :: s) G' H') ∧ ∀ F, r = .f F → F.P K G' vr ∧ Stt K B c2 s G' H' := (by
  obtain ⟨A, r0, w0⟩ := st.ex
  obtain ⟨fp, F⟩ := fp_of r0 w0.nd
  have hA : ∀ i, ∀ a ∈ fp i, H a ≠ none := fun i a ha => r0.here a (F.sub i a ha)
  -- what the callee gets: by induction over the arguments
  have ent : ∀ {as : List Arg} {vs : List V}, ArgVs K G s as vs → (lent as).Nodup → (∀ j ∈ lent as, ∃ w R, c[j]? = some (.o w R)) → ∀ io : List Addr, ∃ A', Reps K ⟨H, G, io⟩ G H (as.map (toS c fun j => ⟨slV s j, fp j⟩)) (vs.map some) A' ∧ A'.Nodup ∧ ∀ a, a ∈ A' ↔ ∃ j ∈ lent as, a ∈ fp j := by
    intro as vs hv
    induction hv with
    | nil => intro _ _ io; exact ⟨[], .nil, List.nodup_nil, by simp [lent]⟩
    | @cons a v as vs h1 h2 ih =>
      intro nd hl io
      cases a with
      | d x =>
        obtain ⟨A', r', n', q'⟩ := ih nd hl io
        exact ⟨A', .d h1 r', n', q'⟩
      | f x =>
        obtain ⟨A', r', n', q'⟩ := ih nd hl io
        exact ⟨A', .f h1 r', n', q'⟩
      | s j =>
        obtain ⟨m1, m2⟩ := List.nodup_cons.mp (show (j :: lent as).Nodup from nd)
        obtain ⟨A', r', n', q'⟩ := ih m2 (fun k hk => hl k (List.mem_cons_of_mem _ hk)) io
        obtain ⟨w, R, e⟩ := hl j List.mem_cons_self
        obtain ⟨u, hu, hP, hW⟩ := F.o j w R e
        have h1' : s[j]? = some (some v) := h1
        rw [hu] at h1'
        cases h1'
        have e1 : toS c (fun j => ⟨slV s j, fp j⟩) (.s j) = .o (some ⟨v, fp j⟩) R := by rw [toS_s, slV_eq hu]; exact slS_eq e
        refine ⟨fp j ++ A', ?_, List.nodup_append.mpr ⟨F.nd j, n', fun a ha b hb z => ?_⟩, fun a => ?_⟩
        · rw [List.map_cons, e1, List.map_cons]
          exact .o hP ⟨rfl, fun a ha => .inl ha⟩ r'
        · subst z
          obtain ⟨k, hk, hk2⟩ := (q' a).mp hb
          exact F.dj j k (fun z => m1 (z ▸ hk)) a ha hk2
        · rw [List.mem_append, q']
          constructor
          · rintro (z | ⟨k, hk, z⟩)
            · exact ⟨j, List.mem_cons_self, z⟩
            · exact ⟨k, List.mem_cons_of_mem _ hk, z⟩
          · rintro ⟨k, hk, z⟩
            rcases List.mem_cons.mp hk with rfl | hk
            · exact .inl z
            · exact .inr ⟨k, hk, z⟩
  obtain ⟨io, _, _, hio⟩ := ent hv nd hl []
  obtain ⟨A1, r1, n1, h1⟩ := ent hv nd hl io
  have hioA : ∀ a ∈ io, a ∈ A := fun a ha => let ⟨j, _, z⟩ := (hio a).mp ha; F.sub j a z
  refine ⟨io, fun j => ⟨slV s j, fp j⟩, ⟨A1, r1, w0.sub, n1, fun a ha => w0.out a (let ⟨j, _, z⟩ := (h1 a).mp ha; F.sub j a z), Same.refl _, fun a o q _ => q, fun a q => q, fun a _ q => .inl rfl, fun a ha => .inl ((hio a).mpr ((h1 a).mp ha))⟩, ?_⟩
  intro r c' vr s' G' H' Q st' hb
  obtain ⟨A', r', wd⟩ := st'.ex
  obtain ⟨fp', F'⟩ := fp_of r' wd.nd
  have keepA := keep_after r0.here wd
  obtain ⟨c2, q2, l2, k1, k2⟩ := back_of nd hb
  -- the footprints behind the call
  let fq : Nat → List Addr := fun j => open Classical in if h : ∃ i : Nat, as[i]? = some (Arg.s j) then fp' (h.choose + 1) else match c[j]? with
    | some (.o _ _) => fp j
    | _ => []
  have fqL : ∀ i j, as[i]? = some (Arg.s j) → fq j = fp' (i + 1) := fun i j e => by
    have h : ∃ i : Nat, as[i]? = some (Arg.s j) := ⟨i, e⟩
    show (open Classical in if h : ∃ i : Nat, as[i]? = some (Arg.s j) then fp' (h.choose + 1) else _) = _
    rw [dif_pos h, lent_one nd h.choose_spec e]
  have fqN : ∀ j, j ∉ lent as → ∀ w R, c[j]? = some (.o w R) → fq j = fp j := fun j hj w R e => by
    have h : ¬ ∃ i : Nat, as[i]? = some (Arg.s j) := fun z => hj (lent_mem.mpr z)
    show (open Classical in if h : ∃ i : Nat, as[i]? = some (Arg.s j) then fp' (h.choose + 1) else _) = _
    rw [dif_neg h, e]
  have fqE : ∀ j, j ∉ lent as → (∀ w R, c[j]? ≠ some (.o w R)) → fq j = [] := fun j hj ne => by
    have h : ¬ ∃ i : Nat, as[i]? = some (Arg.s j) := fun z => hj (lent_mem.mpr z)
    show (open Classical in if h : ∃ i : Nat, as[i]? = some (Arg.s j) then fp' (h.choose + 1) else _) = _
    rw [dif_neg h]
    cases q : c[j]? with
    | none => rfl
    | some x =>
      cases x with
      | o w R => exact absurd q (ne w R)
      | _ => rfl
  -- a slot's footprint lies in what it had, or is new
  have fqS : ∀ j a, a ∈ fq j → (a ∈ fp j ∨ H a = none) ∧ ((∃ i : Nat, as[i]? = some (Arg.s j) ∧ a ∈ fp' (i + 1)) ∨ (j ∉ lent as ∧ a ∈ fp j)) := fun j a ha => by
    by_cases hj : j ∈ lent as
    · obtain ⟨i, e⟩ := lent_mem.mp hj
      rw [fqL i j e] at ha
      obtain ⟨w, R, R0, g1, g2, g3⟩ := k2 i j e
      obtain ⟨v', _, _, hw⟩ := F'.o (i + 1) _ R (by simpa using g1)
      exact ⟨hw.2 a ha, .inl ⟨i, e, ha⟩⟩
    · by_cases ho : ∃ w R, c[j]? = some (S.o w R)
      · obtain ⟨w, R, e⟩ := ho
        rw [fqN j hj w R e] at ha
        exact ⟨.inl ha, .inr ⟨hj, ha⟩⟩
      · rw [fqE j hj fun w R e => ho ⟨w, R, e⟩] at ha
        simp at ha
  have nio : ∀ j, j ∉ lent as → ∀ a ∈ fp j, a ∉ io := fun j hj a ha z => by
    obtain ⟨k, hk, z⟩ := (hio a).mp z
    exact F.dj j k (fun e => hj (e ▸ hk)) a ha z
  have FQ : Fp K B G' H' c2 s (A ++ A') fq := by
    refine ⟨by rw [l2]; exact F.len, fun j x e => ?_, fun j x e => ?_, fun j w R e => ?_, fun j => ?_, fun i j hij a ha hb => ?_, fun j a ha => ?_⟩
    · have hj : j ∉ lent as := fun z => by
        obtain ⟨i, ei⟩ := lent_mem.mp z
        obtain ⟨w, R, R0, g1, g2, g3⟩ := k2 i j ei
        rw [e] at g2; cases g2
      rw [k1 j hj] at e
      obtain ⟨v, e1, d1⟩ := F.d j x e
      exact ⟨v, e1, dp_mono wd.old _ _ d1⟩
    · have hj : j ∉ lent as := fun z => by
        obtain ⟨i, ei⟩ := lent_mem.mp z
        obtain ⟨w, R, R0, g1, g2, g3⟩ := k2 i j ei
        rw [e] at g2; cases g2
      rw [k1 j hj] at e
      obtain ⟨v, e1, d1⟩ := F.f j x e
      exact ⟨v, e1, x.grow _ _ _ _ d1 wd.old⟩
    · by_cases hj : j ∈ lent as
      · obtain ⟨i, ei⟩ := lent_mem.mp hj
        obtain ⟨w2, R2, R0, g1, g2, g3⟩ := k2 i j ei
        rw [e] at g2
        cases g2
        obtain ⟨u, hu, hP, hW⟩ := F.o j w R0 g3
        obtain ⟨v', _, hP', hw'⟩ := F'.o (i + 1) _ R (by simpa using g1)
        obtain ⟨ev, hw'⟩ := hw'
        have ev : v' = slV s j := ev
        rw [slV_eq hu] at ev
        subst ev
        rw [fqL i j ei]
        have hs : ∀ a ∈ fp' (i + 1), a ∈ fp j ∨ H a = none := hw'
        refine ⟨v', hu, hP', ?_⟩
        cases w with
        | none =>
          intro a ha
          rcases hs a ha with z | z
          · exact hW a z
          · exact w0.dom a z
        | some t =>
          refine ⟨hW.1, fun a ha => ?_⟩
          rcases hs a ha with z | z
          · exact hW.2 a z
          · exact .inr (w0.dom a z)
      · rw [k1 j hj] at e
        obtain ⟨u, hu, hP, hW⟩ := F.o j w R e
        rw [fqN j hj w R e]
        exact ⟨u, hu, Res.mono hP wd.old fun a ha => keepA a (F.sub j a ha) (nio j hj a ha), hW⟩
    · by_cases hj : j ∈ lent as
      · obtain ⟨i, ei⟩ := lent_mem.mp hj
        rw [fqL i j ei]
        exact F'.nd _
      · by_cases ho : ∃ w R, c[j]? = some (S.o w R)
        · obtain ⟨w, R, e⟩ := ho
          rw [fqN j hj w R e]
          exact F.nd j
        · rw [fqE j hj fun w R e => ho ⟨w, R, e⟩]
          exact List.nodup_nil
    · obtain ⟨p1, p2⟩ := fqS i a ha
      obtain ⟨p3, p4⟩ := fqS j a hb
      rcases p2 with ⟨m, em, z⟩ | ⟨hi, z⟩
      · rcases p4 with ⟨m', em', z'⟩ | ⟨hj, z'⟩
        · refine F'.dj (m + 1) (m' + 1) (fun e => ?_) a z z'
          have e2 : m = m' := by omega
          rw [e2, em'] at em
          cases em
          exact hij rfl
        · rcases p1 with y | y
          · exact F.dj i j hij a y z'
          · exact hA j a z' y
      · rcases p4 with ⟨m', em', z'⟩ | ⟨hj, z'⟩
        · rcases p3 with y | y
          · exact F.dj j i (Ne.symm hij) a y z
          · exact hA i a z y
        · exact F.dj i j hij a z z'
    · rcases (fqS j a ha).2 with ⟨m, em, z⟩ | ⟨_, z⟩
      · exact List.mem_append_right _ (F'.sub _ a z)
      · exact List.mem_append_left _ (F.sub j a z)
  obtain ⟨A2, r2, n2, h2⟩ := reps_of FQ
  have inA : ∀ a ∈ A2, (∃ m, a ∈ fp' (m + 1)) ∨ (a ∈ A ∧ a ∉ io) := fun a ha => by
    obtain ⟨j, w, R, e, z⟩ := h2 a ha
    rcases (fqS j a z).2 with ⟨m, _, y⟩ | ⟨hj, y⟩
    · exact .inl ⟨m, y⟩
    · exact .inr ⟨F.sub j a y, nio j hj a y⟩
  refine ⟨wd.old, c2, q2, fun x hx => ?_, fun R2 hx => ?_, fun F0 hx => ?_⟩
  · subst hx
    obtain ⟨v, e, hd⟩ := F'.d 0 x rfl
    simp at e
    subst e
    refine ⟨hd, A2, r2, wd_after w0 r0.here r0.nt hioA wd n2 fun a ha => ?_⟩
    rcases inA a ha with ⟨m, z⟩ | z
    · exact .inl (F'.sub _ a z)
    · exact .inr z
  · subst hx
    obtain ⟨v, e, hP, hW⟩ := F'.o 0 none R2 rfl
    simp at e
    subst e
    have hW' : ∀ a ∈ fp' 0, H a = none := hW
    refine ⟨fp' 0 ++ A2, .o hP (fun a ha => w0.dom a (hW' a ha)) r2, wd_after w0 r0.here r0.nt hioA wd (List.nodup_append.mpr ⟨F'.nd 0, n2, fun a ha b hb z => ?_⟩) fun a ha => ?_⟩
    · subst z
      rcases inA a hb with ⟨m, z⟩ | ⟨z, _⟩
      · exact F'.dj 0 (m + 1) (by omega) a ha z
      · exact r0.here a z (hW' a ha)
    · rcases List.mem_append.mp ha with z | z
      · exact .inl (F'.sub 0 a z)
      · rcases inA a z with ⟨m, z⟩ | z
        · exact .inl (F'.sub _ a z)
        · exact .inr z
  · subst hx
    obtain ⟨v, e, hd⟩ := F'.f 0 F0 rfl
    simp at e
    subst e
    refine ⟨hd, A2, r2, wd_after w0 r0.here r0.nt hioA wd n2 fun a ha => ?_⟩
    rcases inA a ha with ⟨m, z⟩ | z
    · exact .inl (F'.sub _ a z)
    · exact .inr z
  )
/-- what is done with a call's answer where slots were lent -/
def kA (v : Nat → Lt) (as : List Arg) (c1 : Ctx) (Q : PyData → Ctx → Prop) : S → Ctx → Prop := fun r c' => back v as c' c1 fun c2 => kD (fun x => Q x c2) r c'
def kAO (v : Nat → Lt) (as : List Arg) (c1 : Ctx) (Q : Res → Ctx → Prop) : S → Ctx → Prop := fun r c' => back v as c' c1 fun c2 => kO (fun x => Q x c2) r c'
/-- the def's parameters at its end, as far as they were lent -/
def Pat (ls : List (Option (Lt × Res))) (c' : Ctx) : Prop := ls.length ≤ c'.length ∧ ∀ (i : Nat) (u : Lt) (R : Res), ls[i]? = some (some (u, R)) → c'[i]? = some (.o (some u) R)
def retA (ls : List (Option (Lt × Res))) (Q : S → Ctx → Prop) (r : S) : Prop := ∀ c', Pat ls c' → Q r c'
def backL (v : Nat → Lt) : List Arg → List (Option (Lt × Res)) → Ctx → (Ctx → Prop) → Prop
  | [], _, c, Q => Q c
  | .s j :: as, some (u, R) :: ls, c, Q => u = v j ∧ slO c j fun w _ => backL v as ls (c.set j (.o w R)) Q
  | .s _ :: _, _, _, _ => False
  | .d _ :: as, _ :: ls, c, Q => backL v as ls c Q
  | .d _ :: _, [], _, _ => False
  | .f _ :: as, _ :: ls, c, Q => backL v as ls c Q
  | .f _ :: _, [], _, _ => False
theorem pat_tail {x : Option (Lt × Res)} {ls : List (Option (Lt × Res))} {y : S} {c' : Ctx} (h : Pat (x :: ls) (y :: c')) : Pat ls c' :=
  ⟨by have := h.1; simp at this; exact this, fun i u R e => by simpa using h.2 (i + 1) u R (by simpa using e)⟩
theorem back_pat {v : Nat → Lt} {Q : Ctx → Prop} : ∀ {as : List Arg} {ls : List (Option (Lt × Res))} {c' c : Ctx}, Pat ls c' → backL v as ls c Q → back v as c' c Q
  | [], _, _, _, _, h => h
  | .s j :: as, some (u, R) :: ls, [], c, p, h => by have := p.1; simp at this
  | .s j :: as, some (u, R) :: ls, y :: c', c, p, h => by
    have e : y = .o (some u) R := by simpa using p.2 0 u R rfl
    subst e
    obtain ⟨h1, h2⟩ := h
    refine ⟨h1, ?_⟩
    obtain ⟨w, R0, e0, q⟩ := slO_of h2
    have key : ∀ {c : Ctx} {j : Nat} {w : Option Lt} {R : Res} {P : Option Lt → Res → Prop}, c[j]? = some (.o w R) → P w R → slO c j P := by
      intro c
      induction c with
      | nil => intro j w R P e; simp at e
      | cons x c ih =>
        intro j w R P e p
        cases j with
        | zero =>
          have e' : x = .o w R := by simpa using e
          rw [e']; exact p
        | succ j => rw [slO_s]; exact ih (by simpa using e) p
    exact key e0 (back_pat (pat_tail p) q)
  | .s _ :: _, [], _, _, _, h => h.elim
  | .s _ :: _, none :: _, _, _, _, h => h.elim
  | .d _ :: as, _ :: ls, [], c, p, h => by have := p.1; simp at this
  | .d _ :: as, _ :: ls, _ :: c', c, p, h => back_pat (as := as) (pat_tail p) h
  | .d _ :: _, [], _, _, _, h => h.elim
  | .f _ :: as, _ :: ls, [], c, p, h => by have := p.1; simp at this
  | .f _ :: as, _ :: ls, _ :: c', c, p, h => back_pat (as := as) (pat_tail p) h
  | .f _ :: _, [], _, _, _, h => h.elim
def patS : Option (Lt × Res) → S
  | some (u, R) => .o (some u) R
  | none => .no
theorem pat_self (ls : List (Option (Lt × Res))) : Pat ls (ls.map patS) := ⟨by simp, fun i u R e => by rw [List.getElem?_map, e]; rfl⟩
theorem back_self {v : Nat → Lt} {Q : Ctx → Prop} : ∀ {as : List Arg} {ls : List (Option (Lt × Res))} {c : Ctx}, back v as (ls.map patS) c Q → backL v as ls c Q
  | [], _, _, h => h
  | .s j :: as, some (u, R) :: ls, c, h => by
    obtain ⟨h1, h2⟩ := h
    refine ⟨h1, ?_⟩
    obtain ⟨w, R0, e0, q⟩ := slO_of h2
    have key : ∀ {c : Ctx} {j : Nat} {w : Option Lt} {R : Res} {P : Option Lt → Res → Prop}, c[j]? = some (.o w R) → P w R → slO c j P := by
      intro c
      induction c with
      | nil => intro j w R P e; simp at e
      | cons x c ih =>
        intro j w R P e p
        cases j with
        | zero =>
          have e' : x = .o w R := by simpa using e
          rw [e']; exact p
        | succ j => rw [slO_s]; exact ih (by simpa using e) p
    exact key e0 (back_self q)
  | .s _ :: _, [], _, h => h.elim
  | .s _ :: _, none :: _, _, h => h.elim
  | .d _ :: as, _ :: ls, c, h => back_self (as := as) (ls := ls) h
  | .d _ :: _, [], _, h => h.elim
  | .f _ :: as, _ :: ls, c, h => back_self (as := as) (ls := ls) h
  | .f _ :: _, [], _, h => h.elim
theorem retA_d {v : Nat → Lt} {as : List Arg} {ls : List (Option (Lt × Res))} {c1 : Ctx} {Q : PyData → Ctx → Prop} {x : PyData} : retA ls (kA v as c1 Q) (.d x) = backL v as ls c1 fun c2 => Q x c2 :=
  propext ⟨fun h => back_self (h _ (pat_self ls)), fun h c' p => back_pat p h⟩
theorem retA_o {v : Nat → Lt} {as : List Arg} {ls : List (Option (Lt × Res))} {c1 : Ctx} {Q : PyData → Ctx → Prop} {R : Res} : retA ls (kA v as c1 Q) (.o none R) = backL v as ls c1 fun c2 => R.fz fun x => Q x c2 :=
  propext ⟨fun h => back_self (h _ (pat_self ls)), fun h c' p => back_pat p h⟩
theorem retA_O {v : Nat → Lt} {as : List Arg} {ls : List (Option (Lt × Res))} {c1 : Ctx} {Q : Res → Ctx → Prop} {R : Res} : retA ls (kAO v as c1 Q) (.o none R) = backL v as ls c1 fun c2 => Q R c2 :=
  propext ⟨fun h => back_self (h _ (pat_self ls)), fun h c' p => back_pat p h⟩
theorem backL_n {v : Nat → Lt} {ls : List (Option (Lt × Res))} {c : Ctx} {Q : Ctx → Prop} : backL v [] ls c Q = Q c := id rfl
theorem backL_s {v : Nat → Lt} {j : Nat} {as : List Arg} {R : Res} {ls : List (Option (Lt × Res))} {c : Ctx} {Q : Ctx → Prop} : backL v (.s j :: as) (some (v j, R) :: ls) c Q = slO c j fun w _ => backL v as ls (c.set j (.o w R)) Q := propext ⟨fun h => h.2, fun h => ⟨rfl, h⟩⟩
theorem backL_d {v : Nat → Lt} {x : PyData} {as : List Arg} {y : Option (Lt × Res)} {ls : List (Option (Lt × Res))} {c : Ctx} {Q : Ctx → Prop} : backL v (.d x :: as) (y :: ls) c Q = backL v as ls c Q := id rfl
theorem backL_f {v : Nat → Lt} {x : FrG} {as : List Arg} {y : Option (Lt × Res)} {ls : List (Option (Lt × Res))} {c : Ctx} {Q : Ctx → Prop} : backL v (.f x :: as) (y :: ls) c Q = backL v as ls c Q := id rfl
/-- the slots lent are there, no two alike -/
def lentOk (c : Ctx) : List Arg → Prop
  | [] => True
  | .s j :: as => (slO c j fun _ _ => True) ∧ j ∉ lent as ∧ lentOk c as
  | .d _ :: as => lentOk c as
  | .f _ :: as => lentOk c as
theorem lentOk_of {c : Ctx} : ∀ {as : List Arg}, lentOk c as → (∀ j ∈ lent as, ∃ w R, c[j]? = some (S.o w R)) ∧ (lent as).Nodup
  | [], _ => ⟨by simp [lent], List.nodup_nil⟩
  | .d _ :: as, h => lentOk_of (as := as) h
  | .f _ :: as, h => lentOk_of (as := as) h
  | .s j :: as, h => by
    obtain ⟨h1, h2, h3⟩ := h
    obtain ⟨i1, i2⟩ := lentOk_of h3
    obtain ⟨w, R, e, _⟩ := slO_of h1
    refine ⟨fun k hk => ?_, List.nodup_cons.mpr ⟨h2, i2⟩⟩
    rcases List.mem_cons.mp hk with rfl | hk
    · exact ⟨w, R, e⟩
    · exact i1 k hk
end
section
variable {X : Cx} {e : Expr} {es : List Expr} {t : TAr} {x : Str} {p pos : Pos} {k : Nat} {ps : List Str} {T : TF}
def uCallA (T : TF) (t : TAr) : TD := fun c Q => t c fun as c1 => lentOk c1 as ∧ ∀ v : Nat → Lt, T (as.map (toS c1 v)) (kA v as c1 Q)
theorem d_callA (C : Cal X.prog X.w X.K X.mg X.base x k ps T) (hr : Room k X.A) (ha : DAr X (e :: es) t) (hg : Gl X x := by rfl)
    (hdb : (x == ("__debug__" : Str)) = false := by decide) (he : starEach (e :: es) X.env = (false, eval e X.env) :: starEach es X.env := by rfl) (hpl : (backTo pos (starEach es X.env)).any (·.1) = false := by rfl) : DE X (.Call (.Name x p) (e :: es) [] pos) (uCallA T t) := (by
  obtain ⟨f, fd, h1, h2, h3, h4⟩ := C.ex
  obtain ⟨ta, pa, va⟩ := ha.ex
  refine ⟨_, pe_call h1 hr hg h2 h3 h4 .nil pass0 pa hdb he hpl, fun B c s G H Q R st q k => va B c s G H _ _ st q fun vs as c1 G1 H1 st1 e1 d1 q1 => ?_⟩
  obtain ⟨hl, q1⟩ := q1
  obtain ⟨l1, l2⟩ := lentOk_of hl
  obtain ⟨io, tg, st2, aft⟩ := lendA st1 l1 l2 d1
  rw [List.append_nil]
  refine ⟨G1, io, _, _, st2, q1 tg, fun r c' vr s' G' H' st' q2 => ?_⟩
  obtain ⟨e2, c2, q3, g1, g2, _⟩ := aft st' q2
  cases r with
  | d y =>
    obtain ⟨hd, st3⟩ := g1 y rfl
    exact k vr y _ G' H' st3 (e1.trans e2) hd q3
  | o w R2 =>
    cases w with
    | none =>
      obtain ⟨G2, d, a1, a2, a3, a4⟩ := (g2 R2 rfl).frzR q3
      exact k vr d _ G2 H' a1 ((e1.trans e2).trans a2) a3 a4
    | some _ => exact q3.elim
  | no => exact q3.elim
  | f _ => exact q3.elim
  )
end
instance : Inhabited (Nat → Lt) := ⟨fun _ => default⟩
end Dl

/-! Things looked at (data or owned), methods of lists, comprehensions. -/
namespace Dl
open PySem PySem.Spec PyProof.Rows L2

/-! ### what is seen of a value: a list's items are frozen, the list itself may be owned -/
def Vw (K : PySem.W.Frag) (G H : Hp) (v : V) (x : PyData) : Prop := Dp K G v x ∨ ∃ p vs ds, v = .ref p ∧ x = .list ds ∧ SqL K H p vs ∧ DpAll K G vs ds
section
variable {K : PySem.W.Frag} {B : Base} {G G' H H' : Hp} {c : Ctx} {s : L2.St} {v : V} {x : PyData}
theorem Vw.dp (h : Vw K G H v x) (e : Same G H) : Dp K H v x := (by
  rcases h with h | ⟨p, vs, ds, rfl, rfl, h1, h2⟩
  · exact dp_mono e _ _ h
  · exact .lst h1 (dpa_mono e _ _ h2)
  )
theorem Vw.lst {ds : List PyData} (h : Vw K G H v (.list ds)) (e : Same G H) : ∃ p vs, v = .ref p ∧ SqL K H p vs ∧ DpAll K G vs ds := (by
  rcases h with h | ⟨p, vs, ds, rfl, e1, h1, h2⟩
  · obtain ⟨p, vs, rfl, h1, h2⟩ := dp_lst h
    exact ⟨p, vs, rfl, Same.seq e h1, h2⟩
  · cases e1
    exact ⟨p, vs, rfl, h1, h2⟩
  )
theorem Vw.oth (h : Vw K G H v x) (hx : ∀ ds, x ≠ .list ds) : Dp K G v x := (by
  rcases h with h | ⟨p, vs, ds, rfl, rfl, h1, h2⟩
  · exact h
  · exact absurd rfl (hx ds)
  )
end
/-- what slot i holds, seen -/
def slW : Ctx → Nat → (PyData → Prop) → Prop
  | .d x :: _, 0, Q => Q x
  | .o _ (.lst ds) :: _, 0, Q => Q (.list ds)
  | .o _ (.lstP P) :: _, 0, Q => ∀ ds, P ds → Q (.list ds)
  | _ :: c, i + 1, Q => slW c i Q
  | _, _, _ => False
section
variable {x : PyData} {y : S} {w : Option Lt} {ds : List PyData} {P : List PyData → Prop} {c : Ctx} {i : Nat} {Q : PyData → Prop}
theorem slW_d : slW (.d x :: c) 0 Q = Q x := id rfl
theorem slW_o : slW (.o w (.lst ds) :: c) 0 Q = Q (.list ds) := id rfl
theorem slW_P : slW (.o w (.lstP P) :: c) 0 Q = ∀ ds, P ds → Q (.list ds) := id rfl
theorem slW_s : slW (y :: c) (i + 1) Q = slW c i Q := (by
  cases y with
  | o w R => cases R <;> rfl
  | _ => rfl
  )
theorem slW_of : ∀ {c : Ctx} {i : Nat} {Q : PyData → Prop}, slW c i Q → (∃ x, c[i]? = some (.d x) ∧ Q x) ∨ (∃ w ds, c[i]? = some (.o w (.lst ds)) ∧ Q (.list ds)) ∨ ∃ w P, c[i]? = some (.o w (.lstP P)) ∧ ∀ ds, P ds → Q (.list ds)
  | [], 0, _, h => h.elim
  | [], _ + 1, _, h => h.elim
  | .d x :: c, 0, _, h => .inl ⟨x, rfl, h⟩
  | .no :: c, 0, _, h => h.elim
  | .f _ :: c, 0, _, h => h.elim
  | .o w (.lst ds) :: c, 0, _, h => .inr (.inl ⟨w, ds, rfl, h⟩)
  | .o w (.lstP P) :: c, 0, _, h => .inr (.inr ⟨w, P, rfl, h⟩)
  | .o w (.gen _) :: c, 0, _, h => h.elim
  | .o w (.dic _) :: c, 0, _, h => h.elim
  | .o w (.tr _) :: c, 0, _, h => h.elim
  | .o w (.lls _) :: c, 0, _, h => h.elim
  | y :: c, i + 1, _, h => by
    rw [slW_s] at h
    simpa using slW_of h
end
/-- slot i has a value -/
def hasS : Ctx → Nat → Prop
  | .d _ :: _, 0 => True
  | .o _ _ :: _, 0 => True
  | .f _ :: _, 0 => True
  | _ :: c, i + 1 => hasS c i
  | _, _ => False
section
variable {x : PyData} {y : S} {w : Option Lt} {R : Res} {F : FrG} {c : Ctx} {i : Nat}
theorem hasS_d : hasS (.d x :: c) 0 = True := id rfl
theorem hasS_o : hasS (.o w R :: c) 0 = True := id rfl
theorem hasS_f : hasS (.f F :: c) 0 = True := id rfl
theorem hasS_s : hasS (y :: c) (i + 1) = hasS c i := by cases y <;> rfl
end
section
variable {K : PySem.W.Frag} {B : Base} {G H : Hp} {c : Ctx} {s : L2.St}
theorem Stt.val : ∀ {c : Ctx} {s : L2.St} {i : Nat}, Stt K B c s G H → hasS c i → ∃ v, s[i]? = some (some v)
  | [], _, 0, _, h => h.elim
  | [], _, _ + 1, _, h => h.elim
  | y :: c, s, 0, st, h => by
    obtain ⟨A, r, _⟩ := st.ex
    cases r with
    | no _ => exact h.elim
    | d _ _ => exact ⟨_, rfl⟩
    | f _ _ => exact ⟨_, rfl⟩
    | o _ _ _ => exact ⟨_, rfl⟩
  | y :: c, s, i + 1, st, h => by
    rw [hasS_s] at h
    obtain ⟨A, r, w⟩ := st.ex
    cases s with
    | nil => cases r
    | cons x s =>
      obtain ⟨v, e⟩ := Stt.val st.pop h
      exact ⟨v, by simpa using e⟩
theorem Stt.look (st : Stt K B c s G H) {i : Nat} {Q : PyData → Prop} (h : slW c i Q) : ∃ v x, s[i]? = some (some v) ∧ Vw K G H v x ∧ Q x := (by
  rcases slW_of h with ⟨x, e, q⟩ | ⟨w, ds, e, q⟩ | ⟨w, P, e, q⟩
  · obtain ⟨v, e1, d⟩ := st.get_d e
    exact ⟨v, x, e1, .inl d, q⟩
  · obtain ⟨p, vs, e1, h1, h2, _⟩ := st.own e
    exact ⟨_, _, e1, .inr ⟨p, vs, ds, rfl, rfl, SqL.of h1, h2⟩, q⟩
  · obtain ⟨ds, hP, st2⟩ := st.open_ e
    obtain ⟨p, vs, e1, h1, h2, _⟩ := st2.own (j := i) (wo := w) (ds := ds) (by rw [List.getElem?_set_self (List.getElem?_eq_some_iff.mp e).1])
    exact ⟨_, _, e1, .inr ⟨p, vs, ds, rfl, rfl, SqL.of h1, h2⟩, q ds hP⟩
  )
end

/-! ### expressions that are seen -/
def DVv (K : PySem.W.Frag) (te : TE) (t : TD) : Prop := ∀ (B : Base) (c : Ctx) (s : L2.St) (G H : Hp) (Q : PyData → Ctx → Prop) (R : VK), Stt K B c s G H → t c Q →
  (∀ v x c' G' H', Stt K B c' s G' H' → Same G G' → Vw K G' H' v x → Q x c' → R v H') → te s H R
structure DV (X : Cx) (e : Expr) (t : TD) : Prop where
  ex : ∃ te, PE X e te ∧ DVv X.K te t
/-- what stands on the left of an operator: a value that is looked at behind what stands on the right -/
def uV (i : Nat) : TD := fun c Q => slW c i fun x => Q x c
section
variable {X : Cx} {pos : Pos} {a b : Expr} {ta tb : TD}
theorem DE.dv (h : DE X a ta) : DV X a ta := let ⟨te, p, v⟩ := h.ex; ⟨te, p, fun B c s G H Q R st q k => v B c s G H Q R st q fun w x c' G' H' st' e d q => k w x c' G' H' st' e (.inl d) q⟩
theorem vv (i : Nat) {x : Str} (hN : X.N[i]? = some x := by rfl) (hv : Vis X.env.scope x := by first | exact Or.inl rfl | exact Or.inr (Or.inl rfl) | exact Or.inr (Or.inr rfl)) (hd : (x == ("__debug__" : Str)) = false := by decide)
    (hcd : (x == ("__classdict__" : Str)) = false := by decide) : DV X (.Name x pos) (uV i) := (by
  refine ⟨_, pe_var hN hv hd hcd, fun B c s G H Q R st h k => ?_⟩
  obtain ⟨v, x, e, d, q⟩ := st.look h
  exact ⟨v, e, k v x c G H st (Same.refl _) d q⟩
  )
/-- what a two-place rule asks of what is seen -/
def OpV (K : PySem.W.Frag) (r : R2) (f : PyData → PyData → (PyData → Prop) → Prop) : Prop := ∀ (B : Base) (c : Ctx) (s : L2.St) (G H : Hp) (x y : V) (a b : PyData) (Q : PyData → Prop) (R : VK), Stt K B c s G H → Vw K G H x a → Vw K G H y b → f a b Q →
  (∀ v d G' H', Stt K B c s G' H' → Same G G' → Dp K G' v d → Q d → R v H') → r x y H R
/-- .. the left one in slot j -/
def uN (j : Nat) (f : PyData → PyData → (PyData → Prop) → Prop) (tb : TD) : TD := fun c Q => hasS c j ∧ tb c fun y c1 => slW c1 j fun x => f x y fun z => Q z c1
theorem twoL {tea teb : TE} (ha : DEv X.K tea ta) (hb : DVv X.K teb tb) {r : R2} {f : PyData → PyData → (PyData → Prop) → Prop} (hr : OpV X.K r f) : DEv X.K (tOp r tea teb) (u2 f ta tb) := (by
  intro B c s G H Q R st q k
  refine ha B c s G H _ _ st q fun v x c1 G1 H1 st1 e1 d1 q1 => ?_
  refine hb B c1 s G1 H1 _ _ st1 q1 fun w y c2 G2 H2 st2 e2 d2 q2 => ?_
  exact hr B c2 s G2 H2 v w x y _ R st2 (.inl (dp_mono e2 _ _ d1)) d2 q2 fun z d G3 H3 st3 e3 d3 q3 => k z d c2 G3 H3 st3 ((e1.trans e2).trans e3) d3 q3
  )
theorem twoN (j : Nat) {teb : TE} (hb : DVv X.K teb tb) {r : R2} {f : PyData → PyData → (PyData → Prop) → Prop} (hr : OpV X.K r f) : DEv X.K (tOp r (fun σ H Q => ∃ v, σ[j]? = some (some v) ∧ Q v H) teb) (uN j f tb) := (by
  intro B c s G H Q R st q k
  obtain ⟨h, q⟩ := q
  obtain ⟨v, e⟩ := st.val h
  refine ⟨v, e, hb B c s G H _ _ st q fun w y c2 G2 H2 st2 e2 d2 q2 => ?_⟩
  obtain ⟨v', x, e', d', q3⟩ := st2.look q2
  rw [e] at e'
  cases e'
  exact hr B c2 s G2 H2 v w x y _ R st2 d' d2 q3 fun z d G3 H3 st3 e3 d3 q3 => k z d c2 G3 H3 st3 (e2.trans e3) d3 q3
  )
variable {op : CmpOp} {r : R2} {f : PyData → PyData → (PyData → Prop) → Prop}
theorem d_cmpN (j : Nat) {x : Str} {pn : Pos} (ho : OpR X (compareOp op) r) (hr : OpV X.K r f) (hb : DV X b tb) (hm : behindInMarks op b = false) (hN : X.N[j]? = some x := by rfl) (hv : Vis X.env.scope x := by first | exact Or.inl rfl | exact Or.inr (Or.inl rfl) | exact Or.inr (Or.inr rfl)) (hd : (x == ("__debug__" : Str)) = false := by decide)
    (hcd : (x == ("__classdict__" : Str)) = false := by decide) : DE X (.Compare (.Name x pn) [op] [b] pos) (uN j f tb) := (by
  obtain ⟨teb, pb, vb⟩ := hb.ex
  exact ⟨_, pe_cmpR ho (pe_var hN hv hd hcd) pb hm, twoN j vb hr⟩
  )
theorem t_cmpL (ho : OpR X (compareOp op) r) (hr : OpV X.K r f) (ha : DE X a ta) (hb : DV X b tb) (hm : behindInMarks op b = false) : DT X (.Compare a [op] [b] pos) (wB (u2 f ta tb)) := (by
  obtain ⟨tea, pa, va⟩ := ha.ex
  obtain ⟨teb, pb, vb⟩ := hb.ex
  refine ⟨_, pt_cmpR ho pa pb hm, fun B c s G H Q R st q k => twoL va vb hr B c s G H _ _ st q fun v x c1 G1 H1 st1 e1 d1 q1 => ?_⟩
  obtain ⟨b, rfl, q⟩ := asB_of q1
  exact ⟨b, dp_bl d1, k b c1 G1 H1 st1 e1 q⟩
  )
theorem t_cmpN (j : Nat) {x : Str} {pn : Pos} (ho : OpR X (compareOp op) r) (hr : OpV X.K r f) (hb : DV X b tb) (hm : behindInMarks op b = false) (hN : X.N[j]? = some x := by rfl) (hv : Vis X.env.scope x := by first | exact Or.inl rfl | exact Or.inr (Or.inl rfl) | exact Or.inr (Or.inr rfl)) (hd : (x == ("__debug__" : Str)) = false := by decide)
    (hcd : (x == ("__classdict__" : Str)) = false := by decide) : DT X (.Compare (.Name x pn) [op] [b] pos) (wB (uN j f tb)) := (by
  obtain ⟨teb, pb, vb⟩ := hb.ex
  refine ⟨_, pt_cmpR ho (pe_var hN hv hd hcd) pb hm, fun B c s G H Q R st q k => twoN j vb hr B c s G H _ _ st q fun v x c1 G1 H1 st1 e1 d1 q1 => ?_⟩
  obtain ⟨b, rfl, q⟩ := asB_of q1
  exact ⟨b, dp_bl d1, k b c1 G1 H1 st1 e1 q⟩
  )
theorem opv_ne {K : PySem.W.Frag} : OpV K (rNeD K) (fEq true) := fun B c s G H x y a b Q R st dx dy ⟨s1, s2, q⟩ k => ⟨a, b, dx.dp st.sub, dy.dp st.sub, s1, s2, k _ _ G H st (Same.refl _) (.bl _) q⟩
/-- in, not in: a list of data; a text in a text -/
def fIn (neg : Bool) : PyData → PyData → (PyData → Prop) → Prop := fun x y Q => match y with
  | .list ds => SeqAt.shaped x = true ∧ SeqAt.shaped (.list ds) = true ∧ Q (.bool (if neg then !ds.any fun z => PyData.eqv z x else ds.any fun z => PyData.eqv z x))
  | .str j => asS x fun i => Q (.bool (if neg then !(!(Builtin.Str.occurrences j i 0 j.length 1).isEmpty) else !(Builtin.Str.occurrences j i 0 j.length 1).isEmpty))
  | _ => False
theorem fIn_l {neg : Bool} {x : PyData} {ds : List PyData} {Q : PyData → Prop} : fIn neg x (.list ds) Q = (SeqAt.shaped x = true ∧ SeqAt.shaped (.list ds) = true ∧ Q (.bool (if neg then !ds.any fun z => PyData.eqv z x else ds.any fun z => PyData.eqv z x))) := id rfl
theorem fIn_s {neg : Bool} {i j : Str} {Q : PyData → Prop} : fIn neg (.str i) (.str j) Q = Q (.bool (if neg then !(!(Builtin.Str.occurrences j i 0 j.length 1).isEmpty) else !(Builtin.Str.occurrences j i 0 j.length 1).isEmpty)) := id rfl
def rInA (K : PySem.W.Frag) : R2 := fun x y H Q => rInD K x y H Q ∨ ∃ i j, x = .str i ∧ y = .str j ∧ Q (.bl (!(Builtin.Str.occurrences j i 0 j.length 1).isEmpty)) H
def rNotInA (K : PySem.W.Frag) : R2 := fun x y H Q => rNotInD K x y H Q ∨ ∃ i j, x = .str i ∧ y = .str j ∧ Q (.bl (!(!(Builtin.Str.occurrences j i 0 j.length 1).isEmpty))) H
theorem op_inA (hu : X.A.units + 65 < cLine) : OpR X (compareOp .In) (rInA X.K) := OpR.or2 (op_inD hu) op_in_str
theorem op_notInA (hu : X.A.units + 65 < cLine) : OpR X (compareOp .NotIn) (rNotInA X.K) := OpR.or2 (op_notInD hu) op_notIn_str
theorem opv_in {K : PySem.W.Frag} : OpV K (rInA K) (fIn false) := (by
  intro B c s G H x y a b Q R st dx dy h k
  cases b with
  | list ds =>
    obtain ⟨s1, s2, q⟩ := h
    exact .inl ⟨a, ds, dx.dp st.sub, dy.dp st.sub, s1, s2, k _ _ G H st (Same.refl _) (.bl _) q⟩
  | str j =>
    obtain ⟨i, rfl, q⟩ := asS_of h
    exact .inr ⟨i, j, dp_str (dx.dp st.sub), dp_str (dy.dp st.sub), k _ _ G H st (Same.refl _) (.bl _) q⟩
  | none => exact h.elim
  | bool _ => exact h.elim
  | int _ => exact h.elim
  | tuple _ => exact h.elim
  | dict _ => exact h.elim
  )
theorem opv_nin {K : PySem.W.Frag} : OpV K (rNotInA K) (fIn true) := (by
  intro B c s G H x y a b Q R st dx dy h k
  cases b with
  | list ds =>
    obtain ⟨s1, s2, q⟩ := h
    exact .inl ⟨a, ds, dx.dp st.sub, dy.dp st.sub, s1, s2, k _ _ G H st (Same.refl _) (.bl _) q⟩
  | str j =>
    obtain ⟨i, rfl, q⟩ := asS_of h
    exact .inr ⟨i, j, dp_str (dx.dp st.sub), dp_str (dy.dp st.sub), k _ _ G H st (Same.refl _) (.bl _) q⟩
  | none => exact h.elim
  | bool _ => exact h.elim
  | int _ => exact h.elim
  | tuple _ => exact h.elim
  | dict _ => exact h.elim
  )
/-- list + list -/
def rCatL (K : PySem.W.Frag) : R2 := fun x y H Q => ∃ l b xs zs, x = .ref l ∧ y = .ref b ∧ SqL K H l xs ∧ SqL K H b zs ∧ xs.length + zs.length ≤ sizeLine ∧ ∀ p, H p = none → Q (.ref p) (upd H p (.lst (xs ++ zs)))
theorem op_catL : OpR X (binaryOp .Add) (rCatL X.K) := (by
  intro pins s σ H x y v u Q I rx ry h
  obtain ⟨l, b, xs, zs, rfl, rfl, hH, hB, hz, q⟩ := h
  cases rx
  cases ry
  obtain ⟨its, r, ⟨⟨cls, dd, data, sl⟩, n, ho, hc, hdd, hd⟩, z1⟩ := I.list hH
  obtain ⟨its2, r2, ⟨⟨cls2, dd2, data2, sl2⟩, n2, ho2, hc2, hdd2, hd2⟩, z2⟩ := I.list hB
  simp only at hc hdd hd hc2 hdd2 hd2
  subst hc hd hc2 hd2
  have l1 := r.length
  have l2 := r2.length
  refine concat_meets ⟨_, ho, rfl⟩ ⟨_, ho2, rfl⟩ noFill_list_add seq_list_add PySem.F.slot_list_add PySem.F.entry_list_add (PySem.F.args_list_add_2 _ _) (list_addW l b its.toArray its2.toArray n n2 dd dd2 sl sl2 (by rw [List.size_toArray, List.size_toArray]; omega)) ⟨ho, ho2, ?_⟩
  have ea : its.toArray ++ its2.toArray = (its ++ its2).toArray := by simp
  rw [ea]
  exact ⟨.ref _, _, I.lnew (t' := s.toks) (r.append r2) (by rw [List.length_append]; omega), rfl, q _ I.fresh⟩
  )
/-- what such a rule makes -/
def OpO (K : PySem.W.Frag) (r : R2) (f : PyData → PyData → (Res → Prop) → Prop) : Prop := ∀ (B : Base) (c : Ctx) (s : L2.St) (G H : Hp) (x y : V) (a b : PyData) (Q : Res → Prop) (R : VK), Stt K B c s G H → Vw K G H x a → Vw K G H y b → f a b Q →
  (∀ v d G' H', Stt K B (.o none d :: c) (some v :: s) G' H' → Same G G' → Q d → R v H') → r x y H R
def oN (j : Nat) (f : PyData → PyData → (Res → Prop) → Prop) (tb : TD) : TR := fun c Q => hasS c j ∧ tb c fun y c1 => slW c1 j fun x => f x y fun z => Q z c1
def o2 (f : PyData → PyData → (Res → Prop) → Prop) (ta tb : TD) : TR := fun c Q => ta c fun x c1 => tb c1 fun y c2 => f x y fun z => Q z c2
def fCat : PyData → PyData → (Res → Prop) → Prop := fun x y Q => asL x fun xs => asL y fun ys => xs.length + ys.length ≤ sizeLine ∧ Q (.lst (xs ++ ys))
theorem opo_cat {K : PySem.W.Frag} : OpO K (rCatL K) fCat := (by
  intro B c s G H x y a b Q R st dx dy h k
  obtain ⟨xs, rfl, h⟩ := asL_of h
  have h : asL b fun ys => xs.length + ys.length ≤ sizeLine ∧ Q (.lst (xs ++ ys)) := h
  obtain ⟨ys, rfl, hl, q⟩ := asL_of h
  obtain ⟨p, vs, rfl, h1, h2⟩ := dx.lst st.sub
  obtain ⟨p2, vs2, rfl, h3, h4⟩ := dy.lst st.sub
  refine ⟨p, p2, vs, vs2, rfl, rfl, h1, h3, by rw [dpa_len h2, dpa_len h4]; exact hl, fun l hn => ?_⟩
  exact k _ _ _ _ (st.laidL hn (dpa_app h2 h4)) (Same.refl _) q
  )
theorem o_catL (ha : DE X a ta) (hb : DV X b tb) : DO X (.BinOp a .Add b pos) (o2 fCat ta tb) := (by
  obtain ⟨tea, pa, va⟩ := ha.ex
  obtain ⟨teb, pb, vb⟩ := hb.ex
  refine ⟨_, pe_op op_catL pa pb, fun B c s G H Q R st q k => va B c s G H _ _ st q fun v x c1 G1 H1 st1 e1 d1 q1 => vb B c1 s G1 H1 _ _ st1 q1 fun w y c2 G2 H2 st2 e2 d2 q2 => ?_⟩
  exact opo_cat B c2 s G2 H2 v w x y _ R st2 (.inl (dp_mono e2 _ _ d1)) d2 q2 fun z d G3 H3 st3 e3 q3 => k z d c2 G3 H3 st3 ((e1.trans e2).trans e3) q3
  )
theorem o_catN (j : Nat) {x : Str} {pn : Pos} (hb : DV X b tb) (hN : X.N[j]? = some x := by rfl) (hv : Vis X.env.scope x := by first | exact Or.inl rfl | exact Or.inr (Or.inl rfl) | exact Or.inr (Or.inr rfl)) (hd : (x == ("__debug__" : Str)) = false := by decide)
    (hcd : (x == ("__classdict__" : Str)) = false := by decide) : DO X (.BinOp (.Name x pn) .Add b pos) (oN j fCat tb) := (by
  obtain ⟨teb, pb, vb⟩ := hb.ex
  refine ⟨_, pe_op op_catL (pe_var hN hv hd hcd) pb, fun B c s G H Q R st q k => ?_⟩
  obtain ⟨h, q⟩ := q
  obtain ⟨v, e⟩ := st.val h
  refine ⟨v, e, vb B c s G H _ _ st q fun w y c2 G2 H2 st2 e2 d2 q2 => ?_⟩
  obtain ⟨v', x, e', d', q3⟩ := st2.look q2
  rw [e] at e'
  cases e'
  exact opo_cat B c2 s G2 H2 v w x y _ R st2 d' d2 q3 fun z d G3 H3 st3 e3 q3 => k z d c2 G3 H3 st3 (e2.trans e3) q3
  )
/-- xs[i], xs a name -/
theorem d_ixN (j : Nat) {x : Str} {pn : Pos} (hs : PlainIx b) (hb : DE X b tb) (hN : X.N[j]? = some x := by rfl) (hv : Vis X.env.scope x := by first | exact Or.inl rfl | exact Or.inr (Or.inl rfl) | exact Or.inr (Or.inr rfl)) (hd : (x == ("__debug__" : Str)) = false := by decide)
    (hcd : (x == ("__classdict__" : Str)) = false := by decide) : DE X (.Subscript (.Name x pn) b pos) (uN j fIx tb) := (by
  obtain ⟨teb, pb, vb⟩ := hb.ex
  refine ⟨_, pe_ix ix_seq (pe_var hN hv hd hcd) pb hs, twoN j (fun B c s G H Q R st q k => vb B c s G H Q R st q fun w x c' G' H' st' e d q => k w x c' G' H' st' e (.inl d) q) fun B c s G H x y a b Q R st dx dy h k => ?_⟩
  unfold fIx at h
  obtain ⟨i, rfl, h⟩ := asI_of h
  have dy := dp_int (dy.dp st.sub)
  cases a with
  | list ds =>
    obtain ⟨d, e, q⟩ := h
    obtain ⟨p, vs, rfl, h1, h2⟩ := dx.lst st.sub
    obtain ⟨v, e2, d2⟩ := atI_dp h2 e
    exact .inl ⟨p, vs, i, v, rfl, dy, h1, e2, k v d G H st (Same.refl _) d2 q⟩
  | tuple ds =>
    obtain ⟨d, e, q⟩ := h
    obtain ⟨p, vs, rfl, h1, h2⟩ := dp_tup (dx.oth fun _ z => nomatch z)
    obtain ⟨v, e2, d2⟩ := atI_dp h2 e
    exact .inr (.inl ⟨p, vs, i, v, rfl, dy, same_t st.sub h1, e2, k v d G H st (Same.refl _) d2 q⟩)
  | str z =>
    obtain ⟨n, hl, e, q⟩ := h
    exact .inr (.inr ⟨z, i, n, dp_str (dx.dp st.sub), dy, hl, e, k _ _ G H st (Same.refl _) (.str _) q⟩)
  | none => exact h.elim
  | bool _ => exact h.elim
  | int _ => exact h.elim
  | dict _ => exact h.elim
  )
/-! ### built-ins of one thing that is seen -/
def CallV (K : PySem.W.Frag) (r : List V → Hp → VK → Prop) (f : PyData → (PyData → Prop) → Prop) : Prop := ∀ (B : Base) (c : Ctx) (s : L2.St) (G H : Hp) (v : V) (x : PyData) (Q : PyData → Prop) (R : VK), Stt K B c s G H → Vw K G H v x → f x Q →
  (∀ v d G' H', Stt K B c s G' H' → Same G G' → Dp K G' v d → Q d → R v H') → r [v] H R
def CallVO (K : PySem.W.Frag) (r : List V → Hp → VK → Prop) (f : PyData → (Res → Prop) → Prop) : Prop := ∀ (B : Base) (c : Ctx) (s : L2.St) (G H : Hp) (v : V) (x : PyData) (Q : Res → Prop) (R : VK), Stt K B c s G H → Vw K G H v x → f x Q →
  (∀ v d G' H', Stt K B (.o none d :: c) (some v :: s) G' H' → Same G G' → Q d → R v H') → r [v] H R
def u1 (f : PyData → (PyData → Prop) → Prop) (t : TD) : TD := fun c Q => t c fun x c1 => f x fun z => Q z c1
def o1 (f : PyData → (Res → Prop) → Prop) (t : TD) : TR := fun c Q => t c fun x c1 => f x fun z => Q z c1
variable {id T : String} {rc : List V → Hp → VK → Prop} {f1 : PyData → (PyData → Prop) → Prop} {fo : PyData → (Res → Prop) → Prop} {x : Str} {p : Pos}
theorem d_oneB (hc : CallR X (.builtin id) rc) (hr : CallV X.K rc f1) (hm : X.mg x = none) (hv : bootBuiltins x = some (.builtin id)) (ha : DV X a ta) (hg : Gl X x := by rfl) (hn : x ≠ "__name__" := by decide) (hdb : (x == ("__debug__" : Str)) = false := by decide)
    (he : starEach [a] X.env = (false, eval a X.env) :: starEach [] X.env := by rfl) (hpl : (backTo pos (starEach [] X.env)).any (·.1) = false := by rfl) : DE X (.Call (.Name x p) [a] [] pos) (u1 f1 ta) := (by
  obtain ⟨tea, pa, va⟩ := ha.ex
  refine ⟨_, pe_callB hc hg hm hv (pa_cons pa pa_nil he) hn hdb he hpl, fun B c s G H Q R st q k => va B c s G H _ _ st q fun v x c1 G1 H1 st1 e1 d1 q1 => ?_⟩
  exact hr B c1 s G1 H1 v x _ R st1 d1 q1 fun v d G2 H2 st2 e2 d2 q2 => k v d c1 G2 H2 st2 (e1.trans e2) d2 q2
  )
theorem d_oneT (hc : CallR X (.type T) rc) (hr : CallV X.K rc f1) (hm : X.mg x = none) (hv : bootBuiltins x = some (.type T)) (ha : DV X a ta) (hg : Gl X x := by rfl) (hn : x ≠ "__name__" := by decide) (hdb : (x == ("__debug__" : Str)) = false := by decide)
    (he : starEach [a] X.env = (false, eval a X.env) :: starEach [] X.env := by rfl) (hpl : (backTo pos (starEach [] X.env)).any (·.1) = false := by rfl) : DE X (.Call (.Name x p) [a] [] pos) (u1 f1 ta) := (by
  obtain ⟨tea, pa, va⟩ := ha.ex
  refine ⟨_, pe_callTy hc hg hm hv (pa_cons pa pa_nil he) hn hdb he hpl, fun B c s G H Q R st q k => va B c s G H _ _ st q fun v x c1 G1 H1 st1 e1 d1 q1 => ?_⟩
  exact hr B c1 s G1 H1 v x _ R st1 d1 q1 fun v d G2 H2 st2 e2 d2 q2 => k v d c1 G2 H2 st2 (e1.trans e2) d2 q2
  )
theorem o_oneB (hc : CallR X (.builtin id) rc) (hr : CallVO X.K rc fo) (hm : X.mg x = none) (hv : bootBuiltins x = some (.builtin id)) (ha : DV X a ta) (hg : Gl X x := by rfl) (hn : x ≠ "__name__" := by decide) (hdb : (x == ("__debug__" : Str)) = false := by decide)
    (he : starEach [a] X.env = (false, eval a X.env) :: starEach [] X.env := by rfl) (hpl : (backTo pos (starEach [] X.env)).any (·.1) = false := by rfl) : DO X (.Call (.Name x p) [a] [] pos) (o1 fo ta) := (by
  obtain ⟨tea, pa, va⟩ := ha.ex
  refine ⟨_, pe_callB hc hg hm hv (pa_cons pa pa_nil he) hn hdb he hpl, fun B c s G H Q R st q k => va B c s G H _ _ st q fun v x c1 G1 H1 st1 e1 d1 q1 => ?_⟩
  exact hr B c1 s G1 H1 v x _ R st1 d1 q1 fun v d G2 H2 st2 e2 q2 => k v d c1 G2 H2 st2 (e1.trans e2) q2
  )
theorem o_oneT (hc : CallR X (.type T) rc) (hr : CallVO X.K rc fo) (hm : X.mg x = none) (hv : bootBuiltins x = some (.type T)) (ha : DV X a ta) (hg : Gl X x := by rfl) (hn : x ≠ "__name__" := by decide) (hdb : (x == ("__debug__" : Str)) = false := by decide)
    (he : starEach [a] X.env = (false, eval a X.env) :: starEach [] X.env := by rfl) (hpl : (backTo pos (starEach [] X.env)).any (·.1) = false := by rfl) : DO X (.Call (.Name x p) [a] [] pos) (o1 fo ta) := (by
  obtain ⟨tea, pa, va⟩ := ha.ex
  refine ⟨_, pe_callTy hc hg hm hv (pa_cons pa pa_nil he) hn hdb he hpl, fun B c s G H Q R st q k => va B c s G H _ _ st q fun v x c1 G1 H1 st1 e1 d1 q1 => ?_⟩
  exact hr B c1 s G1 H1 v x _ R st1 d1 q1 fun v d G2 H2 st2 e2 q2 => k v d c1 G2 H2 st2 (e1.trans e2) q2
  )
/-- len -/
theorem cv_len {K : PySem.W.Frag} : CallV K (fun xs H Q => (∃ p ys, xs = [V.ref p] ∧ (SqL K H p ys ∨ SqT K H p ys) ∧ Q (.int ys.length) H) ∨ ∃ z, xs = [V.str z] ∧ z.length ≤ sizeLine ∧ Q (.int z.length) H) fLen1 := (by
  intro B c s G H v x Q R st d1 h k
  cases x with
  | list ds =>
    obtain ⟨p, vs, rfl, h1, h2⟩ := d1.lst st.sub
    refine .inl ⟨p, vs, rfl, .inl h1, ?_⟩
    rw [dpa_len h2]
    exact k _ _ G H st (Same.refl _) (.int _) h
  | tuple ds =>
    obtain ⟨p, vs, rfl, h1, h2⟩ := dp_tup (d1.oth fun _ z => nomatch z)
    refine .inl ⟨p, vs, rfl, .inr (same_t st.sub h1), ?_⟩
    rw [dpa_len h2]
    exact k _ _ G H st (Same.refl _) (.int _) h
  | str z =>
    have := dp_str (d1.dp st.sub)
    subst this
    exact .inr ⟨z, rfl, h.1, k _ _ G H st (Same.refl _) (.int _) h.2⟩
  | none => exact h.elim
  | bool _ => exact h.elim
  | int _ => exact h.elim
  | dict _ => exact h.elim
  )
theorem d_lenV (hm : X.mg "len" = none) (ha : DV X a ta) (hg : Gl X "len" := by rfl) (he : starEach [a] X.env = (false, eval a X.env) :: starEach [] X.env := by rfl) (hpl : (backTo pos (starEach [] X.env)).any (·.1) = false := by rfl) : DE X (.Call (.Name "len" p) [a] [] pos) (u1 fLen1 ta) :=
  d_oneB (CallR.or call_len_seq call_len_str) cv_len hm boot_len ha hg (by decide) (by decide) he hpl
/-- list(x) -/
def fList : PyData → (Res → Prop) → Prop := fun x Q => match x with
  | .list ds => Q (.lst ds)
  | .tuple ds => Q (.lst ds)
  | _ => False
theorem fList_l {ds : List PyData} {Q : Res → Prop} : fList (.list ds) Q = Q (.lst ds) := id rfl
theorem fList_t {ds : List PyData} {Q : Res → Prop} : fList (.tuple ds) Q = Q (.lst ds) := id rfl
theorem o_listV (hm : X.mg "list" = none) (ha : DV X a ta) (hg : Gl X "list" := by rfl) (he : starEach [a] X.env = (false, eval a X.env) :: starEach [] X.env := by rfl) (hpl : (backTo pos (starEach [] X.env)).any (·.1) = false := by rfl) : DO X (.Call (.Name "list" p) [a] [] pos) (o1 fList ta) := (by
  refine o_oneT call_list_of (fun B c s G H v x Q R st d1 h k => ?_) hm bb_list ha hg (by decide) (by decide) he hpl
  cases x with
  | list ds =>
    obtain ⟨p, vs, rfl, h1, h2⟩ := d1.lst st.sub
    exact ⟨p, vs, rfl, .inl h1, fun l hn => k _ _ _ _ (st.laidL hn h2) (Same.refl _) h⟩
  | tuple ds =>
    obtain ⟨p, vs, rfl, h1, h2⟩ := dp_tup (d1.oth fun _ z => nomatch z)
    exact ⟨p, vs, rfl, .inr (same_t st.sub h1), fun l hn => k _ _ _ _ (st.laidL hn h2) (Same.refl _) h⟩
  | str _ => exact h.elim
  | none => exact h.elim
  | bool _ => exact h.elim
  | int _ => exact h.elim
  | dict _ => exact h.elim
  )
/-- tuple(x) -/
def fTup : PyData → (PyData → Prop) → Prop := fun x Q => match x with
  | .list ds => Q (.tuple ds)
  | .tuple ds => Q (.tuple ds)
  | _ => False
theorem fTup_l {ds : List PyData} {Q : PyData → Prop} : fTup (.list ds) Q = Q (.tuple ds) := id rfl
theorem fTup_t {ds : List PyData} {Q : PyData → Prop} : fTup (.tuple ds) Q = Q (.tuple ds) := id rfl
theorem d_tupV (hm : X.mg "tuple" = none) (ha : DV X a ta) (hg : Gl X "tuple" := by rfl) (he : starEach [a] X.env = (false, eval a X.env) :: starEach [] X.env := by rfl) (hpl : (backTo pos (starEach [] X.env)).any (·.1) = false := by rfl) : DE X (.Call (.Name "tuple" p) [a] [] pos) (u1 fTup ta) := (by
  refine d_oneT call_tuple_of (fun B c s G H v x Q R st d1 h k => ?_) hm bb_tuple ha hg (by decide) (by decide) he hpl
  cases x with
  | list ds =>
    obtain ⟨p, vs, rfl, h1, h2⟩ := d1.lst st.sub
    refine ⟨p, vs, rfl, .inl ⟨h1, fun l hn => ?_⟩⟩
    obtain ⟨st2, e2⟩ := st.laid (o := .tup vs) hn
    exact k _ _ _ _ st2 e2 (.tup (.inl (.inl upd_same)) (dpa_mono e2 _ _ h2)) h
  | tuple ds =>
    have d2 := d1.oth fun _ z => nomatch z
    obtain ⟨p, vs, rfl, h1, h2⟩ := dp_tup d2
    exact ⟨p, vs, rfl, .inr ⟨same_t st.sub h1, k _ _ G H st (Same.refl _) d2 h⟩⟩
  | str _ => exact h.elim
  | none => exact h.elim
  | bool _ => exact h.elim
  | int _ => exact h.elim
  | dict _ => exact h.elim
  )
end

/-! ### methods of the list in a slot -/
section
variable {X : Cx}
end
end Dl

/-! Methods, slices, borrowed arguments, comprehensions. -/
namespace Dl
open PySem PySem.Spec PyProof.Rows L2

/-! ### methods -/
def lstR : Res → Prop
  | .gen _ => False
  | .dic _ => False
  | .tr _ => False
  | .lls _ => False
  | _ => True
section
variable {ds : List PyData} {P : List PyData → Prop}
theorem lstR_l : lstR (.lst ds) = True := id rfl
theorem lstR_P : lstR (.lstP P) = True := id rfl
end
section
variable {K : PySem.W.Frag} {B : Base} {G H : Hp} {c : Ctx} {s : L2.St}
theorem Stt.isl (st : Stt K B c s G H) {j : Nat} {w : Option Lt} {R : Res} (e : c[j]? = some (.o w R)) (h : lstR R) : ∃ p xs, s[j]? = some (some (.ref p)) ∧ SqL K H p xs := (by
  cases R with
  | lst ds =>
    obtain ⟨p, vs, g1, g2, _⟩ := st.own e
    exact ⟨p, vs, g1, SqL.of g2⟩
  | lstP P =>
    obtain ⟨ds, hP, st2⟩ := st.open_ e
    obtain ⟨p, vs, g1, g2, _⟩ := st2.own (j := j) (wo := w) (ds := ds) (by rw [List.getElem?_set_self (List.getElem?_eq_some_iff.mp e).1])
    exact ⟨p, vs, g1, SqL.of g2⟩
  | lls _ => exact h.elim
  | gen _ => exact h.elim
  | dic _ => exact h.elim
  | tr _ => exact h.elim
  )
end
def zM1 (j : Nat) (f : List PyData → PyData → (List PyData → Prop) → Prop) (ta : TD) : TSd := fun E c => slO c j fun _ R0 => lstR R0 ∧ ta c fun x c1 => slO c1 j fun w R => asR R fun ds => f ds x fun ds' => E.nx (c1.set j (.o w (.lst ds')))
section
variable {X : Cx} {a b e : Expr} {ta tb : TD} {pos cpos apos p : Pos} {id : String} {name : Str} {r : V → List V → Hp → VK → Prop}
/-- append, extend, reverse, clear -/
def fApp : List PyData → PyData → (List PyData → Prop) → Prop := fun ds x Q => ds.length < sizeLine ∧ Q (ds ++ [x])
/-- append: what is put in is data (an owned list is frozen first) -/
theorem s_app (j : Nat) {x : Str} (ha : DE X a ta)
    (hN : X.N[j]? = some x := by rfl) (hv : Vis X.env.scope x := by first | exact Or.inl rfl | exact Or.inr (Or.inl rfl) | exact Or.inr (Or.inr rfl)) (hd : (x == ("__debug__" : Str)) = false := by decide)
    (hcd : (x == ("__classdict__" : Str)) = false := by decide) (hbase : attributeBase (.Name x p) "append" X.env (eval (.Name x p) X.env) = eval (.Name x p) X.env := by rfl)
    (hfew : ((backTo cpos (starEach [a] X.env)).all (fun x => !x.1) && (backToKw cpos (keywordEach [] X.env)).all (fun x => x.1.isSome)
      && decide ([a].length + ([] : List Keyword).length + (if ([] : List Keyword).isEmpty then 0 else 1) < 30)) = true := by rfl)
    (hline : (apos.endLine == cpos.line) = true := by rfl) (hs : starEach [a] X.env = (false, eval a X.env) :: starEach [] X.env := by rfl) (hplain : (backTo cpos (starEach [] X.env)).any (·.1) = false := by rfl)
    (hsw : swapsWith (.Call (.Attribute (.Name x p) "append" apos) [a] [] cpos) none pos.line X.env = pure false := by rfl) : DS X (.Expr (.Call (.Attribute (.Name x p) "append" apos) [a] [] cpos) pos) (zM1 j fApp ta) := (by
  obtain ⟨tea, pa, va⟩ := ha.ex
  refine ⟨_, ps_expr (pe_bm F.plainAttrs_list F.slot_list_append F.type_list_append mt_append (pe_var hN hv hd hcd) (pa_cons pa pa_nil hs) hbase hfew hline hs hplain) hsw, fun B c s G H D E st k q => ?_⟩
  obtain ⟨w, R0, e0, hl, q⟩ := slO_of q
  obtain ⟨p, xs, hp, hq⟩ := st.isl e0 hl
  refine ⟨_, hp, .inl ⟨rfl, xs, hq⟩, va B c s G H _ _ st q fun v x c1 G1 H1 st1 e1 d1 q1 => ?_⟩
  obtain ⟨w1, R1, g1, q2⟩ := slO_of q1
  obtain ⟨ds, rfl, q3, q4⟩ := asR_of q2
  obtain ⟨p', vs, g2, g3, g4, g5⟩ := st1.own g1
  rw [hp] at g2
  cases g2
  exact ⟨p, vs, v, rfl, rfl, g3, by rw [dpa_len g4]; exact q3, k.nx _ _ _ _ (g5 _ _ (dpa_app g4 (.cons d1 .nil))) e1 q4⟩
  )
/-- xs.insert(i, e) -/
def insD (ds : List PyData) (n : Nat) (x : PyData) : List PyData := ds.take n ++ [x] ++ ds.drop n
def zIns (j : Nat) (ta tb : TD) : TSd := fun E c => slO c j fun _ R0 => lstR R0 ∧ ta c fun y c0 => tb c0 fun x c1 => asI y fun i => slO c1 j fun w R => asR R fun ds => ds.length < sizeLine ∧ 0 ≤ i ∧ i < 2 ^ 63 ∧ E.nx (c1.set j (.o w (.lst (insD ds i.toNat x))))
theorem s_ins (j : Nat) {x : Str} (ha : DE X a ta) (hb : DE X b tb)
    (hN : X.N[j]? = some x := by rfl) (hv : Vis X.env.scope x := by first | exact Or.inl rfl | exact Or.inr (Or.inl rfl) | exact Or.inr (Or.inr rfl)) (hd : (x == ("__debug__" : Str)) = false := by decide)
    (hcd : (x == ("__classdict__" : Str)) = false := by decide) (hbase : attributeBase (.Name x p) "insert" X.env (eval (.Name x p) X.env) = eval (.Name x p) X.env := by rfl)
    (hfew : ((backTo cpos (starEach [a, b] X.env)).all (fun x => !x.1) && (backToKw cpos (keywordEach [] X.env)).all (fun x => x.1.isSome)
      && decide ([a, b].length + ([] : List Keyword).length + (if ([] : List Keyword).isEmpty then 0 else 1) < 30)) = true := by rfl)
    (hline : (apos.endLine == cpos.line) = true := by rfl) (hs : starEach [a, b] X.env = (false, eval a X.env) :: starEach [b] X.env := by rfl) (hs2 : starEach [b] X.env = (false, eval b X.env) :: starEach [] X.env := by rfl) (hplain : (backTo cpos (starEach [b] X.env)).any (·.1) = false := by rfl)
    (hsw : swapsWith (.Call (.Attribute (.Name x p) "insert" apos) [a, b] [] cpos) none pos.line X.env = pure false := by rfl) : DS X (.Expr (.Call (.Attribute (.Name x p) "insert" apos) [a, b] [] cpos) pos) (zIns j ta tb) := (by
  obtain ⟨tea, pa, va⟩ := ha.ex
  obtain ⟨teb, pb, vb⟩ := hb.ex
  refine ⟨_, ps_expr (pe_bm F.plainAttrs_list F.slot_list_insert F.type_list_insert mt_insert (pe_var hN hv hd hcd) (pa_cons pa (pa_cons pb pa_nil hs2) hs) hbase hfew hline hs hplain) hsw, fun B c s G H D E st k q => ?_⟩
  obtain ⟨w, R0, e0, hl, q⟩ := slO_of q
  obtain ⟨p, xs, hp, hq⟩ := st.isl e0 hl
  refine ⟨_, hp, .inl ⟨rfl, xs, hq⟩, va B c s G H _ _ st q fun v y c0 G0 H0 st0 e0' d0 q0 => vb B c0 s G0 H0 _ _ st0 q0 fun u x c1 G1 H1 st1 e1 d1 q1 => ?_⟩
  obtain ⟨i, rfl, q1⟩ := asI_of q1
  obtain ⟨w1, R1, g1, q2⟩ := slO_of q1
  obtain ⟨ds, rfl, q3, q4, q5, q6⟩ := asR_of q2
  obtain ⟨p', vs, g2, g3, g4, g5⟩ := st1.own g1
  rw [hp] at g2
  cases g2
  have hv := dp_int d0
  subst hv
  exact ⟨p, vs, i, u, rfl, rfl, g3, by rw [dpa_len g4]; exact q3, q4, q5, k.nx _ _ _ _ (g5 _ _ (dpa_app (dpa_app (dpa_take _ g4) (.cons d1 .nil)) (dpa_drop _ g4))) (e0'.trans e1) q6⟩
  )
/-! ### an owned thing made here, frozen where it is read -/
def slF : Ctx → Nat → (PyData → Prop) → Prop
  | .d x :: _, 0, Q => Q x
  | .o none R :: _, 0, Q => R.fz Q
  | _ :: c, i + 1, Q => slF c i Q
  | _, _, _ => False
theorem slF_d {x : PyData} {c : Ctx} {Q : PyData → Prop} : slF (.d x :: c) 0 Q = Q x := id rfl
theorem slF_o {R : Res} {c : Ctx} {Q : PyData → Prop} : slF (.o none R :: c) 0 Q = R.fz Q := id rfl
theorem slF_s {y : S} {c : Ctx} {i : Nat} {Q : PyData → Prop} : slF (y :: c) (i + 1) Q = slF c i Q := (by
  cases y with
  | o w R => cases w <;> rfl
  | _ => rfl
  )
theorem slF_of : ∀ {c : Ctx} {i : Nat} {Q : PyData → Prop}, slF c i Q → (∃ x, c[i]? = some (.d x) ∧ Q x) ∨ ∃ R, c[i]? = some (.o none R) ∧ R.fz Q
  | [], 0, _, h => h.elim
  | [], _ + 1, _, h => h.elim
  | .d x :: c, 0, _, h => .inl ⟨x, rfl, h⟩
  | .no :: c, 0, _, h => h.elim
  | .f _ :: c, 0, _, h => h.elim
  | .o none R :: c, 0, _, h => .inr ⟨R, rfl, h⟩
  | .o (some _) R :: c, 0, _, h => h.elim
  | y :: c, i + 1, _, h => by
    rw [slF_s] at h
    simpa using slF_of h
def uVf (j : Nat) : TD := fun c Q => slF c j fun x => Q x (c.set j (.d x))
theorem set_same {α : Type} : ∀ {l : List α} {i : Nat} {x : α}, l[i]? = some x → l.set i x = l
  | [], _, _, h => by simp at h
  | y :: l, 0, x, h => by simp at h; simp [h]
  | y :: l, i + 1, x, h => by simpa using set_same (l := l) (i := i) (by simpa using h)
theorem dvf (j : Nat) {x : Str} (hN : X.N[j]? = some x := by rfl) (hv : Vis X.env.scope x := by first | exact Or.inl rfl | exact Or.inr (Or.inl rfl) | exact Or.inr (Or.inr rfl)) (hd : (x == ("__debug__" : Str)) = false := by decide)
    (hcd : (x == ("__classdict__" : Str)) = false := by decide) : DE X (.Name x pos) (uVf j) := (by
  refine ⟨_, pe_var hN hv hd hcd, fun B c s G H Q R st h k => ?_⟩
  rcases slF_of h with ⟨y, e, q⟩ | ⟨R0, e, q⟩
  · obtain ⟨v, e1, d⟩ := st.get_d e
    rw [set_same e] at q
    exact ⟨v, e1, k v y c G H st (Same.refl _) d q⟩
  · obtain ⟨v, e1, st2⟩ := st.take_o e
    obtain ⟨G', d, st3, e3, dd, q3⟩ := st2.frzR q
    have st4 := st3.set_d j dd
    rw [set_same e1, List.set_set] at st4
    exact ⟨v, e1, k v d _ G' H st4 e3 dd q3⟩
  )
/-! ### slices -/
abbrev TP := Ctx → (Option Int → Ctx → Prop) → Prop
def DPv (K : PySem.W.Frag) (to : TO) (t : TP) : Prop := ∀ (B : Base) (c : Ctx) (s : L2.St) (G H : Hp) (Q : Option Int → Ctx → Prop) (R : Option Int → Hp → Prop), Stt K B c s G H → t c Q →
  (∀ o c' G' H', Stt K B c' s G' H' → Same G G' → Q o c' → R o H') → to s H R
structure DP (X : Cx) (o : Option Expr) (t : TP) : Prop where
  ex : ∃ to, PO X o to ∧ DPv X.K to t
def pNo : TP := fun c Q => Q none c
def pSo (t : TD) : TP := fun c Q => t c fun x c1 => asI x fun i => Q (some i) c1
theorem p_no : DP X none pNo := ⟨_, po_none, fun B c s G H Q R st q k => k _ c G H st (Same.refl _) q⟩
theorem p_so (ha : DE X a ta) : DP X (some a) (pSo ta) := (by
  obtain ⟨tea, pa, va⟩ := ha.ex
  refine ⟨_, po_some pa, fun B c s G H Q R st q k => va B c s G H _ _ st q fun v x c1 G1 H1 st1 e1 d1 q1 => ?_⟩
  obtain ⟨i, rfl, q1⟩ := asI_of q1
  exact ⟨i, dp_int d1, k _ c1 G1 H1 st1 e1 q1⟩
  )
def cutL {α : Type} (xs : List α) (lo hi : Option Int) : List α := (xs.drop (HT.sIx xs.length 0 lo)).take (HT.sIx xs.length xs.length hi - HT.sIx xs.length 0 lo)
theorem dpa_cut {K : PySem.W.Frag} {G : Hp} {vs : List V} {ds : List PyData} (h : DpAll K G vs ds) (lo hi : Option Int) : DpAll K G (cutV vs lo hi) (cutL ds lo hi) := (by
  unfold cutV cutL
  rw [dpa_len h]
  exact dpa_take _ (dpa_drop _ h)
  )
/-- of texts and tuples -/
def fSl (x : PyData) (lo hi : Option Int) (Q : PyData → Prop) : Prop := match x with
  | .str z => z.length ≤ sizeLine ∧ Q (.str (cutS z lo hi))
  | .tuple ds => Q (.tuple (cutL ds lo hi))
  | _ => False
theorem fSl_s {z : Str} {lo hi : Option Int} {Q : PyData → Prop} : fSl (.str z) lo hi Q = (z.length ≤ sizeLine ∧ Q (.str (cutS z lo hi))) := id rfl
theorem fSl_t {ds : List PyData} {lo hi : Option Int} {Q : PyData → Prop} : fSl (.tuple ds) lo hi Q = Q (.tuple (cutL ds lo hi)) := id rfl
variable {lo hi : Option Expr} {tl th : TP} {p2 : Pos}
def uSl (ta : TD) (tl th : TP) : TD := fun c Q => ta c fun x c0 => tl c0 fun l c1 => th c1 fun u c2 => fSl x l u fun z => Q z c2
theorem d_sl (ha : DE X a ta) (hl : DP X lo tl) (hu : DP X hi th) : DE X (.Subscript a (.Slice lo hi none p2) pos) (uSl ta tl th) := (by
  obtain ⟨tea, pa, va⟩ := ha.ex
  obtain ⟨tel, pl, vl⟩ := hl.ex
  obtain ⟨teu, pu, vu⟩ := hu.ex
  refine ⟨_, pe_slice (SlR.or sl_str sl_tupA) pa pl pu, fun B c s G H Q R st q k => va B c s G H _ _ st q fun v x c0 G0 H0 st0 e0 d0 q0 => vl B c0 s G0 H0 _ _ st0 q0 fun l c1 G1 H1 st1 e1 q1 => vu B c1 s G1 H1 _ _ st1 q1 fun u c2 G2 H2 st2 e2 q2 => ?_⟩
  have d2 := dp_mono (e1.trans e2) _ _ d0
  have e02 := (e0.trans e1).trans e2
  cases x with
  | str z =>
    have := dp_str d2
    subst this
    exact .inl ⟨z, rfl, q2.1, k _ _ c2 G2 H2 st2 e02 (.str _) q2.2⟩
  | tuple ds =>
    obtain ⟨p, vs, rfl, h1, h2⟩ := dp_tup d2
    refine .inr ⟨p, vs, rfl, same_t st2.sub h1, fun ⟨w1, w2⟩ => ?_, fun _ l' hn => ?_⟩
    · have e : cutL ds l u = ds := by
        unfold cutL
        rw [← dpa_len h2, w1, w2, List.drop_zero, Nat.sub_zero, dpa_len h2, List.take_length]
      have q3 : Q (.tuple (cutL ds l u)) c2 := q2
      rw [e] at q3
      exact k _ _ c2 G2 H2 st2 e02 d2 q3
    · obtain ⟨st3, e3⟩ := st2.laid (o := .tup (cutV vs l u)) hn
      exact k _ _ c2 _ _ st3 (e02.trans e3) (.tup (.inl (.inl upd_same)) (dpa_mono e3 _ _ (dpa_cut h2 l u))) q2
  | list _ => exact q2.elim
  | none => exact q2.elim
  | bool _ => exact q2.elim
  | int _ => exact q2.elim
  | dict _ => exact q2.elim
  )
/-! ### a call to which things are lent to be looked at; its answer a plain one -/
def scal : PyData → Bool
  | .none => true
  | .bool _ => true
  | .int _ => true
  | .str _ => true
  | _ => false
theorem scal_n : scal .none = true := id rfl
theorem scal_b {b : Bool} : scal (.bool b) = true := id rfl
theorem scal_i {i : Int} : scal (.int i) = true := id rfl
theorem scal_s {i : Str} : scal (.str i) = true := id rfl
def kS (Q : PyData → Prop) : S → Ctx → Prop := fun r _ => match r with
  | .d x => scal x = true ∧ Q x
  | _ => False
theorem kS_d {Q : PyData → Prop} {x : PyData} {c : Ctx} : kS Q (.d x) c = (scal x = true ∧ Q x) := id rfl
theorem ret_S {Q : PyData → Prop} {x : PyData} : ret (kS Q) (.d x) = (scal x = true ∧ Q x) := propext ⟨fun h => h [], fun h _ => h⟩
section
variable {c : Ctx} {as : List Arg} {x : PyData} {j : Nat} {Q : List PyData → Prop}
end
variable {es : List Expr} {t tr : TAr} {x : Str} {k : Nat} {ps : List Str} {T : TF}
end
end Dl

/-! List comprehensions over data. -/
namespace Dl
open PySem PySem.Spec PyProof.Rows L2

/-! ### a reading's one form -/
def rdE (K : PySem.W.Frag) (t : TD) : TE := fun σ H Q => ∃ (B : Base) (c : Ctx) (G : Hp) (Q' : PyData → Ctx → Prop), Stt K B c σ G H ∧ t c Q' ∧ ∀ v x c' G' H', Stt K B c' σ G' H' → Same G G' → Dp K G' v x → Q' x c' → Q v H'
def rdT (K : PySem.W.Frag) (t : TB) : TT := fun σ H Q => ∃ (B : Base) (c : Ctx) (G : Hp) (Q' : Bool → Ctx → Prop), Stt K B c σ G H ∧ t c Q' ∧ ∀ b c' G' H', Stt K B c' σ G' H' → Same G G' → Q' b c' → Q b H'
def rdG (K : PySem.W.Frag) (js : List Nat) (t : TGd) : TG := fun v σ H Q => ∃ (B : Base) (c : Ctx) (G : Hp) (x : PyData) (Q' : Ctx → Prop), Stt K B c σ G H ∧ Dp K G v x ∧ t x c Q' ∧ ∀ c' s', Stt K B c' s' G H → But js σ s' → Q' c' → Q s' H
section
variable {X : Cx} {e : Expr} {ifs : List Expr} {t : TD} {tb : TB} {js : List Nat} {tg : TGd}
theorem DE.pe (h : DE X e t) : PE X e (rdE X.K t) := (by
  obtain ⟨te, p, v⟩ := h.ex
  exact ⟨fun pins s σ H Q I ⟨B, c, G, Q', st, q, k⟩ => p.run pins s σ H Q I (v B c σ G H Q' Q st q k)⟩
  )
theorem DG.pg (h : DG X e js tg) : PG X e (rdG X.K js tg) := (by
  obtain ⟨te, p, v⟩ := h.ex
  exact ⟨fun pins s σ H x u Q I r ⟨B, c, G, y, Q', st, d, q, k⟩ => p.run pins s σ H x u Q I r (v B c σ G H x y Q' Q st d q k)⟩
  )
/-- a clause's tests -/
structure DTs (X : Cx) (ifs : List Expr) (t : TB) : Prop where
  pt : PTs X ifs (rdT X.K t)
def bYes : TB := fun c Q => Q true c
theorem b_yes : DTs X [] bYes := ⟨⟨fun pins s σ H Q I ⟨B, c, G, Q', st, q, k⟩ => pts_nil.run pins s σ H Q I (k true c G H st (Same.refl _) q)⟩⟩
theorem b_one (h : DT X e tb) : DTs X [e] tb := (by
  obtain ⟨te, p, v⟩ := h.ex
  exact ⟨⟨fun pins s σ H Q I ⟨B, c, G, Q', st, q, k⟩ => (pts_one p).run pins s σ H Q I (v B c σ G H Q' Q st q k)⟩⟩
  )
end

/-! ### the owned list on top set aside -/
section
variable {K : PySem.W.Frag} {B : Base} {G G' H H' : Hp} {c : Ctx} {s : L2.St} {acc : List PyData} {v : V}
theorem reps_base {B B' : Base} {G H : Hp} {c : Ctx} {s : L2.St} {A : List Addr} (h : Reps K B G H c s A) (hw : ∀ w v Aj, (∀ a ∈ Aj, a ∈ A) → WOk B w v Aj → WOk B' w v Aj) : Reps K B' G H c s A := (by
  induction h with
  | nil => exact .nil
  | no _ ih => exact .no (ih hw)
  | d hd _ ih => exact .d hd (ih hw)
  | f hd _ ih => exact .f hd (ih hw)
  | o ho hw1 _ ih => exact .o ho (hw _ _ _ (fun a ha => List.mem_append_left _ ha) hw1) (ih fun w v Aj hA => hw w v Aj fun a ha => List.mem_append_right _ (hA a ha))
  )
theorem Stt.under (st : Stt K B (.o none (.lst acc) :: c) (some v :: s) G H) : ∃ (D : Addr) (vs : List V) (B' : Base), v = .ref D ∧ H D = some (.lst vs) ∧ DpAll K G vs acc ∧ Stt K B' c s G H ∧
    ∀ c2 s2 G2 H2, Stt K B' c2 s2 G2 H2 → Same G G2 ∧ H2 D = some (.lst vs) ∧ Stt K B (.o none (.lst acc) :: c2) (some v :: s2) G2 H2 ∧ ∀ vs2 acc2, DpAll K G2 vs2 acc2 → Stt K B (.o none (.lst acc2) :: c2) (some v :: s2) G2 (upd H2 D (.lst vs2)) := (by
  classical
  obtain ⟨A0, r0, w⟩ := st.ex
  cases r0 with
  | @o _ _ _ _ _ AD A hD hWD r =>
    obtain ⟨D, vs, rfl, rfl, hp, hd⟩ := hD
    obtain ⟨n1, n2, n3⟩ := List.nodup_append.mp w.nd
    have DA : D ∉ A := fun z => n3 D (by simp) D z rfl
    have hWD : B.H0 D = none := hWD D (by simp)
    let B' : Base := ⟨fun a => if a ∈ A then B.H0 a else H a, G, B.io.filter fun a => decide (a ∈ A)⟩
    have bA : ∀ a ∈ A, B'.H0 a = B.H0 a := fun a ha => if_pos ha
    have bN : ∀ a, a ∉ A → B'.H0 a = H a := fun a ha => if_neg ha
    have bio : ∀ a, a ∈ B'.io ↔ a ∈ B.io ∧ a ∈ A := fun a => by simp [B']
    have nb : ∀ a, B'.H0 a = none → B.H0 a = none := fun a q => by
      by_cases ha : a ∈ A
      · rw [← bA a ha]; exact q
      · rw [bN a ha] at q; exact w.dom a q
    refine ⟨D, vs, B', rfl, hp, hd, ⟨A, reps_base r fun u x Aj hA hw => ?_, w.sub, n2, fun a ha => w.out a (List.mem_append_right _ ha), Same.refl _, fun a o q hn => ?_, fun a q => ?_, fun a _ q => .inl rfl, fun a ha => ?_⟩, ?_⟩
    · cases u with
      | none => exact fun a ha => (bA a (hA a ha)).trans (hw a ha)
      | some u => exact ⟨hw.1, fun a ha => (hw.2 a ha).imp id fun z => (bA a (hA a ha)).trans z⟩
    · by_cases ha : a ∈ A
      · rw [bA a ha] at q
        exact w.stay a o q fun z => hn ((bio a).mpr ⟨z, ha⟩)
      · rw [bN a ha] at q; exact q
    · by_cases ha : a ∈ A
      · rw [bA a ha]; exact w.dom a q
      · rw [bN a ha]; exact q
    · rcases w.lim a (List.mem_append_right _ ha) with z | z
      · exact .inl ((bio a).mpr ⟨z, ha⟩)
      · exact .inr ((bA a ha).trans z)
    intro c2 s2 G2 H2 st2
    obtain ⟨A2, r2, w2⟩ := st2.ex
    have hD2 : H2 D = some (.lst vs) := w2.stay D _ ((bN D DA).trans hp) fun z => DA ((bio D).mp z).2
    have DA2 : D ∉ A2 := fun z => by
      rcases w2.lim D z with y | y
      · exact DA ((bio D).mp y).2
      · rw [bN D DA, hp] at y; cases y
    have gD : G2 D = none := by
      rcases w2.newG D (fun y => DA ((bio D).mp y).2) (by rw [bN D DA, hp]; exact fun z => nomatch z) with e | ⟨o, e, t⟩
      · rw [e]; exact w.out D (by simp)
      · rw [bN D DA, hp] at e
        cases e
        cases t
    have e2 : Same G G2 := w2.old
    have key : ∀ (H3 : Hp) (vs2 : List V) (acc2 : List PyData), H3 D = some (.lst vs2) → (∀ a, a ≠ D → H3 a = H2 a) → DpAll K G2 vs2 acc2 → Stt K B (.o none (.lst acc2) :: c2) (some (.ref D) :: s2) G2 H3 := by
      intro H3 vs2 acc2 h3 h4 d2
      have nD : ∀ a ∈ A2, a ≠ D := fun a ha z => DA2 (z ▸ ha)
      refine ⟨[D] ++ A2, .o (R := .lst acc2) ⟨D, vs2, rfl, rfl, h3, d2⟩ (fun a ha => ?_) ((reps_base r2 fun u x Aj hA hw => ?_).mono (Same.refl _) fun a ha => h4 a (nD a ha)), fun a o q => ?_, List.nodup_append.mpr ⟨by simp, w2.nd, fun a ha b hb z => ?_⟩, fun a ha => ?_, w.old.trans e2, fun a o q hn => ?_, fun a q => ?_, fun a i q => ?_, fun a ha => ?_⟩
      · obtain rfl : a = D := by simpa using ha
        exact hWD
      · cases u with
        | none => exact fun a ha => nb a (hw a ha)
        | some u => exact ⟨hw.1, fun a ha => (hw.2 a ha).imp id fun z => nb a z⟩
      · by_cases ha : a = D
        · subst ha; rw [gD] at q; cases q
        · rw [h4 a ha]; exact w2.sub a o q
      · obtain rfl : a = D := by simpa using ha
        exact DA2 (z ▸ hb)
      · rcases List.mem_append.mp ha with z | z
        · obtain rfl : a = D := by simpa using z
          exact gD
        · exact w2.out a z
      · have ha : a ≠ D := fun z => by rw [z, hWD] at q; cases q
        rw [h4 a ha]
        by_cases hA : a ∈ A
        · exact w2.stay a o ((bA a hA).trans q) fun z => hn ((bio a).mp z).1
        · exact w2.stay a o ((bN a hA).trans (w.stay a o q hn)) fun z => hA ((bio a).mp z).2
      · by_cases ha : a = D
        · subst ha; exact hWD
        · rw [h4 a ha] at q; exact nb a (w2.dom a q)
      · have hA : a ∉ A := fun z => (w.lim a (List.mem_append_right _ z)).elim i q
        rcases w2.newG a (fun y => hA ((bio a).mp y).2) (fun z => q (nb a z)) with e | ⟨o, e, t⟩
        · rw [e]; exact w.newG a i q
        · rw [bN a hA] at e
          cases z : B.H0 a with
          | none => exact absurd z q
          | some o' =>
            have := w.stay a o' z i
            rw [e] at this
            cases this
            exact .inr ⟨o, z, t⟩
      · rcases List.mem_append.mp ha with z | z
        · obtain rfl : a = D := by simpa using z
          exact .inr hWD
        · rcases w2.lim a z with y | y
          · exact .inl ((bio a).mp y).1
          · exact .inr (nb a y)
    exact ⟨e2, hD2, key H2 vs acc hD2 (fun _ _ => rfl) (dpa_mono e2 _ _ hd), fun vs2 acc2 d2 => key _ vs2 acc2 upd_same (fun a ha => upd_ne ha) d2⟩
  )
/-! ### the block's own names -/
/-- slots forgotten -/
def clr : List Nat → Ctx → Ctx
  | [], c => c
  | j :: js, c => (clr js c).set j .no
/-- .. and back again -/
def keep1 : Ctx → Nat → S
  | .d x :: _, 0 => .d x
  | _ :: c, i + 1 => keep1 c i
  | _, _ => .no
def clr2 : List Nat → Ctx → Ctx
  | [], c => c
  | j :: js, c => clr2 js (c.set j .no)
def rest (c0 : Ctx) : List Nat → Ctx → Ctx
  | [], c => c
  | j :: js, c => rest c0 js (c.set j (keep1 c0 j))
theorem clr_n {c : Ctx} : clr [] c = c := id rfl
theorem clr_c {j : Nat} {js : List Nat} {c : Ctx} : clr (j :: js) c = (clr js c).set j .no := id rfl
theorem clr2_n {c : Ctx} : clr2 [] c = c := id rfl
theorem clr2_c {j : Nat} {js : List Nat} {c : Ctx} : clr2 (j :: js) c = clr2 js (c.set j .no) := id rfl
theorem rest_n {c0 c : Ctx} : rest c0 [] c = c := id rfl
theorem rest_c {j : Nat} {js : List Nat} {c0 c : Ctx} : rest c0 (j :: js) c = rest c0 js (c.set j (keep1 c0 j)) := id rfl
theorem keep1_d {x : PyData} {c : Ctx} : keep1 (.d x :: c) 0 = .d x := id rfl
theorem keep1_o {w : Option Lt} {R : Res} {c : Ctx} : keep1 (.o w R :: c) 0 = .no := id rfl
theorem keep1_f {F : FrG} {c : Ctx} : keep1 (.f F :: c) 0 = .no := id rfl
theorem keep1_no {c : Ctx} : keep1 (.no :: c) 0 = .no := id rfl
theorem keep1_s {y : S} {c : Ctx} {i : Nat} : keep1 (y :: c) (i + 1) = keep1 c i := by cases y <;> rfl
theorem keep1_of : ∀ {c : Ctx} {j : Nat}, keep1 c j = .no ∨ ∃ x, keep1 c j = .d x ∧ c[j]? = some (.d x)
  | [], 0 => .inl rfl
  | [], _ + 1 => .inl rfl
  | .no :: _, 0 => .inl rfl
  | .f _ :: _, 0 => .inl rfl
  | .o _ _ :: _, 0 => .inl rfl
  | .d x :: _, 0 => .inr ⟨x, rfl, rfl⟩
  | y :: c, i + 1 => by
    rw [keep1_s]
    simpa using keep1_of (c := c) (j := i)
theorem Stt.wipe (st : Stt K B c s G H) : ∀ vs : List Nat, Stt K B (clr vs c) (L2.wipe s vs) G H
  | [] => st
  | v :: vs => (Stt.wipe st vs).set_no v none
theorem Stt.unwipe : ∀ {vs : List Nat} {x : S} {u : Option V} {c : Ctx} {s : L2.St}, Stt K B (x :: c) (u :: L2.wipe s vs) G H → Stt K B (x :: clr2 vs c) (u :: s) G H
  | [], x, u, c, s, st => st
  | v :: vs, x, u, c, s, st => by
    have st' : Stt K B (x :: c) (u :: (L2.wipe s vs).set v none) G H := st
    have h := Stt.set_no st' (v + 1) (if h : v < (L2.wipe s vs).length then (L2.wipe s vs)[v] else none)
    rw [List.set_cons_succ, List.set_cons_succ, List.set_set] at h
    refine Stt.unwipe (vs := vs) ?_
    by_cases hv : v < (L2.wipe s vs).length
    · rw [dif_pos hv, List.set_getElem_self] at h
      exact h
    · rw [List.set_eq_of_length_le (Nat.le_of_not_lt hv)] at h
      exact h
theorem Stt.rest {c0 : Ctx} {G0 H0 : Hp} (st0 : Stt K B c0 s G0 H0) (e : Same G0 G) : ∀ {vs : List Nat} {x : S} {u : Option V} {c : Ctx}, Stt K B (x :: c) (u :: s) G H → Stt K B (x :: Dl.rest c0 vs c) (u :: s) G H
  | [], x, u, c, st => st
  | v :: vs, x, u, c, st => by
    rw [rest_c]
    refine Stt.rest st0 e (vs := vs) ?_
    rcases keep1_of (c := c0) (j := v) with h | ⟨y, h, hy⟩
    · rw [h]
      by_cases hv : v < s.length
      · have := Stt.set_no st (v + 1) s[v]
        rw [List.set_cons_succ, List.set_cons_succ, List.set_getElem_self] at this
        exact this
      · have := Stt.set_no st (v + 1) none
        rw [List.set_cons_succ, List.set_cons_succ, List.set_eq_of_length_le (Nat.le_of_not_lt hv)] at this
        exact this
    · rw [h]
      obtain ⟨w, e1, d⟩ := st0.get_d hy
      have := Stt.set_d st (v + 1) (dp_mono e _ _ d)
      rw [List.set_cons_succ, List.set_cons_succ, set_same e1] at this
      exact this
theorem wipe_get {σ : L2.St} {i : Nat} : ∀ {vs : List Nat}, i ∈ vs → (L2.wipe σ vs)[i]? = if i < σ.length then some none else none
  | [], h => by simp at h
  | v :: vs, h => by
    show ((L2.wipe σ vs).set v none)[i]? = _
    by_cases hv : v = i
    · subst hv
      by_cases hl : v < σ.length
      · rw [List.getElem?_set_self (by rw [wipe_length]; exact hl), if_pos hl]
      · rw [if_neg hl, List.getElem?_eq_none (by rw [List.length_set, wipe_length]; omega)]
    · rw [List.getElem?_set_ne hv]
      exact wipe_get ((List.mem_cons.mp h).resolve_left fun z => hv z.symm)
theorem wipe_but {σ σ2 : L2.St} {js vs : List Nat} (b : But js σ σ2) (h : ∀ j ∈ js, j ∈ vs) : L2.wipe σ2 vs = L2.wipe σ vs := (by
  refine List.ext_getElem? fun i => ?_
  by_cases hi : i ∈ vs
  · rw [wipe_get hi, wipe_get hi, b.1]
  · rw [wipe_out hi, wipe_out hi]
    exact b.2 i fun z => hi (h i z)
  )
theorem But.wipe {σ σ0 : L2.St} {js vs : List Nat} (b : But js (L2.wipe σ0 vs) σ) (h : ∀ j ∈ js, j ∈ vs) : L2.wipe σ vs = L2.wipe σ0 vs := (by
  rw [wipe_but b h]
  refine List.ext_getElem? fun i => ?_
  by_cases hi : i ∈ vs
  · rw [wipe_get hi, wipe_get hi, wipe_length]
  · rw [wipe_out hi]
  )
end

/-! ### [elt for tg in iter if ..] -/
/-- the items so far; the names -/
def zComp (vs : List Nat) (tg : TGd) (tt : TB) (te : TD) (ys : List PyData) (c1 : Ctx) (Q : List PyData → Ctx → Prop) : Prop := ∃ I : Nat → List PyData → Ctx → Prop, I 0 [] (clr vs c1) ∧
  (∀ i y acc c, ys[i]? = some y → I i acc c → tg y c fun c2 => tt c2 fun b c3 => if b = true then te c3 fun x c4 => acc.length < sizeLine ∧ I (i + 1) (acc ++ [x]) (clr vs c4) else I (i + 1) acc (clr vs c3)) ∧
  ∀ acc c, I ys.length acc c → Q acc (Dl.rest c1 vs (clr2 vs c))
def oLc (ti : TL) (vs : List Nat) (tg : TGd) (tt : TB) (te : TD) : TR := fun c Q => ti c fun ys c1 => zComp vs tg tt te ys c1 fun acc c2 => Q (.lst acc) c2
section
variable {X : Cx}
theorem lc_v {K : PySem.W.Frag} {wi : TI} {ti : TL} {tg : TGd} {tt : TB} {te : TD} {js vs : List Nat} (hi : DIv K wi ti) (hj : ∀ j ∈ js, j ∈ vs) : DOv K (tLc wi (rdG K js tg) (rdT K tt) (rdE K te) vs) (oLc ti vs tg tt te) := (by
  intro B c s G H Q R st q k
  refine hi B c s G H _ _ st q fun J ys c1 G1 H1 st1 e1 ok q1 => ?_
  obtain ⟨I, i0, turn, fin⟩ := q1
  intro D hD
  refine ⟨fun i m H => m = ys.length - i ∧ i ≤ ys.length ∧ ∃ acc c' G', Stt K B (.o none (.lst acc) :: c') (some (.ref D) :: L2.wipe s vs) G' H ∧ Same G1 G' ∧ I i acc c', ⟨ys.length, by simp, Nat.zero_le _, [], _, G1, (st1.wipe vs).laidL hD .nil, Same.refl _, i0⟩, ?_⟩
  rintro i m H2 ⟨rfl, hi, acc, c', G', st', e', hI⟩
  by_cases hlt : i < ys.length
  · refine .inr ⟨((ok B _ _ G' H2 st' e' i).2 hlt).1, fun H3 => ∃ acc c' G', Stt K B (.o none (.lst acc) :: c') (some (.ref D) :: L2.wipe s vs) G' H3 ∧ Same G1 G' ∧ I (i + 1) acc c', fun H3 ⟨a3, c3, G3, st3, e3, i3⟩ => ⟨ys.length - (i + 1), by omega, rfl, hlt, a3, c3, G3, st3, e3, i3⟩, fun x H3 hy => ?_⟩
    obtain ⟨G2, y, hy1, st2, e2, dy⟩ := ((ok B _ _ G' H2 st' e' i).2 hlt).2 x H3 hy
    obtain ⟨D', us, B', hv, hDl, hacc, stU, back⟩ := st2.under
    cases hv
    have e12 : Same G1 G2 := e'.trans e2
    refine ⟨B', c', G2, y, _, stU, dy, turn i y acc c' hy1 hI, fun c3 s3 st3 but q3 => ⟨But.wipe but hj, ?_⟩⟩
    have hw : L2.wipe s3 vs = L2.wipe s vs := But.wipe but hj
    refine ⟨B', c3, G2, _, st3, q3, fun b c4 G4 H4 st4 e4 q4 => ?_⟩
    cases b with
    | false =>
      rw [if_neg Bool.false_ne_true] at q4 ⊢
      obtain ⟨e5, _, st5, _⟩ := back _ _ _ _ (st4.wipe vs)
      rw [hw] at st5
      exact ⟨acc, _, G4, st5, e12.trans e5, q4⟩
    | true =>
      rw [if_pos rfl] at q4 ⊢
      refine ⟨B', c4, G4, _, st4, q4, fun z d c5 G5 H5 st5 e5 dz q5 => ?_⟩
      obtain ⟨e6, hD6, _, up6⟩ := back _ _ _ _ (st5.wipe vs)
      have hl := dpa_len hacc
      have st7 := up6 (us ++ [z]) (acc ++ [d]) (dpa_app (dpa_mono e6 _ _ hacc) (.cons dz .nil))
      rw [hw] at st7
      exact ⟨us, hD6, by rw [hl]; exact q5.1, acc ++ [d], _, G5, st7, e12.trans e6, q5.2⟩
  · have e : i = ys.length := by omega
    subst e
    refine .inl ⟨(ok B _ _ G' H2 st' e' _).1 (Nat.le_refl _), ?_⟩
    exact k (.ref D) (.lst acc) _ G' H2 (Stt.rest st1 e' (Stt.unwipe st')) (e1.trans e') (fin acc c' hI)
  )
variable {elt tg iter : Expr} {ifs : List Expr} {scope : Scope} {own : List (Str × Nat)} {pos : Pos} {ti : TL} {g : TGd} {tt : TB} {te : TD} {js : List Nat}
theorem o_lc (own : List (Str × Nat)) (hc : X.calm = true) (hN : X.N.Nodup) (hi : DI X tg iter ti) (ok : blkC X.N X.env.scope scope own = true)
    (hg : ∀ (s : Shared) (H : Hp) (C : Addr) (cl : List (Str × Addr)) (fp : List Addr), DG (X.blk s H scope (compEnvC scope cl C X.env) fp) tg js g) (ht : ∀ (s : Shared) (H : Hp) (C : Addr) (cl : List (Str × Addr)) (fp : List Addr), DTs (X.blk s H scope (compEnvC scope cl C X.env) fp) ifs tt)
    (he : ∀ (s : Shared) (H : Hp) (C : Addr) (cl : List (Str × Addr)) (fp : List Addr), DE (X.blk s H scope (compEnvC scope cl C X.env) fp) elt te) (hj : ∀ j ∈ js, j ∈ own.map (·.2)) (hs : ∀ x, foldedSetIterable iter X.env x = pure x := by intro _; rfl) :
    DO X (.ListComp elt [⟨tg, iter, ifs, 0⟩] scope pos) (oLc ti (own.map (·.2)) g tt te) := (by
  obtain ⟨wi, pi, vi⟩ := hi.ex
  exact ⟨_, pe_lc (g := rdG X.K js g) (tt := rdT X.K tt) (te := rdE X.K te) hc hN pi (blkOk_by ok) (fun s H C cl fp => (hg s H C cl fp).pg) (fun s H C cl fp => (ht s H C cl fp).pt) (fun s H C cl fp => (he s H C cl fp).pe) hs, lc_v vi hj⟩
  )
/-- name = [..] -/
theorem s_setLc (own : List (Str × Nat)) {i : Nat} {y : Str} {py spos : Pos} (hc : X.calm = true) (hN : X.N.Nodup) (hi : DI X tg iter ti) (ok : blkC X.N X.env.scope scope own = true)
    (hg : ∀ (s : Shared) (H : Hp) (C : Addr) (cl : List (Str × Addr)) (fp : List Addr), DG (X.blk s H scope (compEnvC scope cl C X.env) fp) tg js g) (ht : ∀ (s : Shared) (H : Hp) (C : Addr) (cl : List (Str × Addr)) (fp : List Addr), DTs (X.blk s H scope (compEnvC scope cl C X.env) fp) ifs tt)
    (he : ∀ (s : Shared) (H : Hp) (C : Addr) (cl : List (Str × Addr)) (fp : List Addr), DE (X.blk s H scope (compEnvC scope cl C X.env) fp) elt te) (hj : ∀ j ∈ js, j ∈ own.map (·.2)) (hsw : swapsWith (.ListComp elt [⟨tg, iter, ifs, 0⟩] scope pos) (some (.Name y py)) spos.line X.env = pure true)
    (hyl : X.env.scope.names.lookup y = some .local := by rfl) (hy : X.N[i]? = some y := by rfl) (hs : ∀ x, foldedSetIterable iter X.env x = pure x := by intro _; rfl) :
    DS X (.Assign [.Name y py] (.ListComp elt [⟨tg, iter, ifs, 0⟩] scope pos) spos) (zSetO i (oLc ti (own.map (·.2)) g tt te)) := (by
  obtain ⟨wi, pi, vi⟩ := hi.ex
  refine ⟨_, ps_setLc (g := rdG X.K js g) (tt := rdT X.K tt) (te := rdE X.K te) hc hN hy hyl hsw pi (blkOk_by ok) (fun s H C cl fp => (hg s H C cl fp).pg) (fun s H C cl fp => (ht s H C cl fp).pt) (fun s H C cl fp => (he s H C cl fp).pe) hs, fun B c s G H D E st k q => ?_⟩
  exact lc_v vi hj B c s G H _ _ st q fun v x c1 G1 H1 st1 e1 q1 => k.nx _ _ G1 H1 (st1.set_o i) e1 q1
  )
/-! ### comprehensions by what they compute -/
/-- by a word of one's own; the walk sees letters for what is to be reached -/
theorem comp_by {vs : List Nat} {tg : TGd} {tt : TB} {te : TD} {ys : List PyData} {c1 : Ctx} {Q : List PyData → Ctx → Prop} (I : Nat → List PyData → Ctx → Prop) (h0 : I 0 [] (clr vs c1))
    (turn : ∀ (i : Nat) (y : PyData) (acc : List PyData) (c : Ctx) (N : PyData → Ctx → Prop) (M : Ctx → Prop), ys[i]? = some y → I i acc c → (∀ x c, acc.length < sizeLine → I (i + 1) (acc ++ [x]) (clr vs c) → N x c) → (∀ c, I (i + 1) acc (clr vs c) → M c) → tg y c fun c2 => tt c2 fun b c3 => if b = true then te c3 N else M c3)
    (fin : ∀ acc c, I ys.length acc c → Q acc (Dl.rest c1 vs (clr2 vs c))) : zComp vs tg tt te ys c1 Q :=
  ⟨I, h0, fun i y acc c hy hI => turn i y acc c _ _ hy hI (fun _ _ h1 h2 => ⟨h1, h2⟩) (fun _ h => h), fin⟩
/-- items kept by p, told by f; no name is changed -/
theorem comp_fm {vs : List Nat} {tg : TGd} {tt : TB} {te : TD} {ys : List PyData} {c1 : Ctx} {Q : List PyData → Ctx → Prop} (p : PyData → Bool) (f : PyData → PyData) (hl : ys.length ≤ sizeLine)
    (h : ∀ y ∈ ys, ∀ (N : PyData → Ctx → Prop) (M : Ctx → Prop), (p y = true → ∀ c, clr vs c = clr vs c1 → N (f y) c) → (p y = false → ∀ c, clr vs c = clr vs c1 → M c) → tg y (clr vs c1) fun c2 => tt c2 fun b c3 => if b = true then te c3 N else M c3)
    (q : Q ((ys.filter p).map f) (Dl.rest c1 vs (clr2 vs (clr vs c1)))) : zComp vs tg tt te ys c1 Q := (by
  refine comp_by (fun i acc c => c = clr vs c1 ∧ acc = ((ys.take i).filter p).map f) ⟨rfl, by simp⟩ (fun i y acc c N M hy hI hN hM => ?_) fun acc c hI => ?_
  · obtain ⟨rfl, rfl⟩ := hI
    have hi : i < ys.length := (List.getElem?_eq_some_iff.mp hy).1
    have e : ys.take (i + 1) = ys.take i ++ [y] := by rw [List.take_add_one, hy]; rfl
    have hacc : (((ys.take i).filter p).map f).length < sizeLine := by
      have h1 := List.length_filter_le p (ys.take i)
      rw [List.length_take] at h1
      rw [List.length_map]
      omega
    refine h y (List.mem_of_getElem? hy) N M (fun hp c hc => hN _ c hacc ⟨hc, ?_⟩) fun hp c hc => hM c ⟨hc, ?_⟩
    · rw [e, List.filter_append, List.map_append, List.filter_cons_of_pos hp, List.filter_nil]; rfl
    · rw [e, List.filter_append, List.map_append, List.filter_cons_of_neg (by rw [hp]; exact Bool.false_ne_true), List.filter_nil]; simp
  · obtain ⟨rfl, rfl⟩ := hI
    rw [List.take_length]
    exact q
  )
/-- each item told by f -/
theorem comp_map {vs : List Nat} {tg : TGd} {te : TD} {ys : List PyData} {c1 : Ctx} {Q : List PyData → Ctx → Prop} (f : PyData → PyData) (hl : ys.length ≤ sizeLine)
    (h : ∀ y ∈ ys, ∀ (N : PyData → Ctx → Prop), (∀ c, clr vs c = clr vs c1 → N (f y) c) → tg y (clr vs c1) fun c2 => te c2 N)
    (q : Q (ys.map f) (Dl.rest c1 vs (clr2 vs (clr vs c1)))) : zComp vs tg bYes te ys c1 Q := (by
  refine comp_fm (fun _ => true) f hl (fun y hy N M hN _ => ?_) ?_
  · have := h y hy N (hN rfl)
    exact this
  · rw [List.filter_eq_self.mpr fun _ _ => rfl]
    exact q
  )
end
end Dl

/-! Lists of lists of one's own. -/
namespace Dl
open PySem PySem.Spec PyProof.Rows L2
section
variable {K : PySem.W.Frag} {B : Base} {G H : Hp} {c : Ctx} {s : L2.St}
/-- the owned thing in slot j, written -/
theorem Stt.foc (st : Stt K B c s G H) {j : Nat} {w : Option Lt} {R : Res} (e : c[j]? = some (.o w R)) : ∃ v A1, s[j]? = some (some v) ∧ R.P K G H v A1 ∧ A1.Nodup ∧
    ∀ (H' : Hp) (R' : Res) (A1' : List Addr), (∀ a, a ∉ A1' → H' a = H a) → (∀ a ∈ A1', a ∈ A1 ∨ H a = none) → (∀ a ∈ A1', H' a ≠ none) → A1'.Nodup → R'.P K G H' v A1' → Stt K B (c.set j (.o w R')) s G H' := (by
  obtain ⟨A, r, wd⟩ := st.ex
  obtain ⟨v, A1, h1, h2, h3, h4, h5, k⟩ := r.focus wd.nd e
  refine ⟨v, A1, h1, h2, h4, fun H' R' A1' k1 k2 k3 k4 k5 => ?_⟩
  have kw : WOk B w v A1' := by
    cases w with
    | none =>
      intro a ha
      rcases k2 a ha with z | z
      · exact h3 a z
      · exact wd.dom a z
    | some u =>
      refine ⟨h3.1, fun a ha => ?_⟩
      rcases k2 a ha with z | z
      · exact h3.2 a z
      · exact .inr (wd.dom a z)
  have kk : ∀ a ∈ A, a ∉ A1 → H' a = H a := fun a ha hn => k1 a fun z => by
    rcases k2 a z with y | y
    · exact hn y
    · exact r.here a ha y
  obtain ⟨A', r', n, q⟩ := k (G' := G) (H' := H') (R' := R') (w' := w) (A1' := A1') (Same.refl _) kk k5 kw k4 (fun a ha => (k2 a ha).imp id fun z y => r.here a y z)
  · have inA : ∀ a ∈ A', (a ∈ A1' ∧ (a ∈ A1 ∨ H a = none)) ∨ (a ∈ A ∧ a ∉ A1) := fun a ha => (q a ha).imp (fun z => ⟨z, k2 a z⟩) id
    refine ⟨A', r', fun a o z => ?_, n, fun a ha => ?_, wd.old, fun a o z hn => ?_, fun a z => ?_, wd.newG, fun a ha => ?_⟩
    · have ha : a ∉ A1' := fun y => by
        rcases k2 a y with x | x
        · rw [wd.out a (h5 a x)] at z; cases z
        · rw [wd.sub a o z] at x; cases x
      rw [k1 a ha]; exact wd.sub a o z
    · rcases inA a ha with ⟨_, z | z⟩ | ⟨z, _⟩
      · exact wd.out a (h5 a z)
      · exact wd.sub.free z
      · exact wd.out a z
    · have hs := wd.stay a o z hn
      have ha : a ∉ A1' := fun y => by
        rcases k2 a y with x | x
        · rcases wd.lim a (h5 a x) with u | u
          · exact hn u
          · rw [u] at z; cases z
        · rw [hs] at x; cases x
      rw [k1 a ha]; exact hs
    · have ha : a ∉ A1' := fun y => k3 a y z
      rw [k1 a ha] at z
      exact wd.dom a z
    · rcases inA a ha with ⟨_, z | z⟩ | ⟨z, _⟩
      · exact wd.lim a (h5 a z)
      · exact .inr (wd.dom a z)
      · exact wd.lim a z
  )
/-- a new owned thing laid at fresh addresses -/
theorem Stt.laidR (st : Stt K B c s G H) {H' : Hp} {R : Res} {v : V} {A1 : List Addr} (k1 : ∀ a, a ∉ A1 → H' a = H a) (k2 : ∀ a ∈ A1, H a = none) (k3 : ∀ a ∈ A1, H' a ≠ none) (k4 : A1.Nodup) (k5 : R.P K G H' v A1) : Stt K B (.o none R :: c) (some v :: s) G H' := (by
  obtain ⟨A, r, w⟩ := st.ex
  have np : ∀ a ∈ A, a ∉ A1 := fun a ha z => r.here a ha (k2 a z)
  have n0 : ∀ a ∈ A1, B.H0 a = none := fun a ha => w.dom a (k2 a ha)
  refine ⟨A1 ++ A, .o k5 n0 (r.mono (Same.refl _) fun a ha => k1 a (np a ha)), fun a o q => ?_, List.nodup_append.mpr ⟨k4, w.nd, fun a ha b hb e => np b hb (by rw [← e]; exact ha)⟩, fun a ha => ?_, w.old, fun a o q hi => ?_, fun a q => ?_, w.newG, fun a ha => ?_⟩
  · have ha : a ∉ A1 := fun z => by have := w.sub a o q; rw [k2 a z] at this; cases this
    rw [k1 a ha]; exact w.sub a o q
  · rcases List.mem_append.mp ha with z | z
    · exact w.sub.free (k2 a z)
    · exact w.out a z
  · have ha : a ∉ A1 := fun z => by rw [n0 a z] at q; cases q
    rw [k1 a ha]; exact w.stay a o q hi
  · have ha : a ∉ A1 := fun z => k3 a z q
    rw [k1 a ha] at q; exact w.dom a q
  · rcases List.mem_append.mp ha with z | z
    · exact .inr (n0 a z)
    · exact w.lim a z
  )
/-- an owned thing on top set aside: the rest is changed without it -/
theorem Stt.underR {R : Res} {v : V} (st : Stt K B (.o none R :: c) (some v :: s) G H) : ∃ (A1 : List Addr) (B' : Base), R.P K G H v A1 ∧ Stt K B' c s G H ∧
    ∀ c2 s2 G2 H2, Stt K B' c2 s2 G2 H2 → Same G G2 ∧ (∀ a ∈ A1, H2 a = H a) ∧ Stt K B (.o none R :: c2) (some v :: s2) G2 H2 := (by
  classical
  obtain ⟨A0, r0, w⟩ := st.ex
  cases r0 with
  | @o _ _ _ _ _ AD A hR hWD r =>
    obtain ⟨n1, n2, n3⟩ := List.nodup_append.mp w.nd
    have DA : ∀ a ∈ AD, a ∉ A := fun a ha z => n3 a ha a z rfl
    have hWD : ∀ a ∈ AD, B.H0 a = none := hWD
    have hp : ∀ a ∈ AD, H a ≠ none := Res.here hR
    let B' : Base := ⟨fun a => if a ∈ A then B.H0 a else H a, G, B.io.filter fun a => decide (a ∈ A)⟩
    have bA : ∀ a ∈ A, B'.H0 a = B.H0 a := fun a ha => if_pos ha
    have bN : ∀ a, a ∉ A → B'.H0 a = H a := fun a ha => if_neg ha
    have bio : ∀ a, a ∈ B'.io ↔ a ∈ B.io ∧ a ∈ A := fun a => by simp [B']
    have nb : ∀ a, B'.H0 a = none → B.H0 a = none := fun a q => by
      by_cases ha : a ∈ A
      · rw [← bA a ha]; exact q
      · rw [bN a ha] at q; exact w.dom a q
    refine ⟨AD, B', hR, ⟨A, reps_base r fun u x Aj hA hw => ?_, w.sub, n2, fun a ha => w.out a (List.mem_append_right _ ha), Same.refl _, fun a o q hn => ?_, fun a q => ?_, fun a _ q => .inl rfl, fun a ha => ?_⟩, ?_⟩
    · cases u with
      | none => exact fun a ha => (bA a (hA a ha)).trans (hw a ha)
      | some u => exact ⟨hw.1, fun a ha => (hw.2 a ha).imp id fun z => (bA a (hA a ha)).trans z⟩
    · by_cases ha : a ∈ A
      · rw [bA a ha] at q
        exact w.stay a o q fun z => hn ((bio a).mpr ⟨z, ha⟩)
      · rw [bN a ha] at q; exact q
    · by_cases ha : a ∈ A
      · rw [bA a ha]; exact w.dom a q
      · rw [bN a ha]; exact q
    · rcases w.lim a (List.mem_append_right _ ha) with z | z
      · exact .inl ((bio a).mpr ⟨z, ha⟩)
      · exact .inr ((bA a ha).trans z)
    intro c2 s2 G2 H2 st2
    obtain ⟨A2, r2, w2⟩ := st2.ex
    have hD2 : ∀ a ∈ AD, H2 a = H a := fun a ha => by
      cases q : H a with
      | none => exact absurd q (hp a ha)
      | some o => exact w2.stay a o ((bN a (DA a ha)).trans q) fun z => DA a ha ((bio a).mp z).2
    have DA2 : ∀ a ∈ AD, a ∉ A2 := fun a ha z => by
      rcases w2.lim a z with y | y
      · exact DA a ha ((bio a).mp y).2
      · rw [bN a (DA a ha)] at y; exact hp a ha y
    have e2 : Same G G2 := w2.old
    refine ⟨e2, hD2, AD ++ A2, .o (Res.mono hR e2 hD2) hWD (reps_base r2 fun u x Aj hA hw => ?_), w2.sub, List.nodup_append.mpr ⟨n1, w2.nd, fun a ha b hb z => ?_⟩, fun a ha => ?_, w.old.trans e2, fun a o q hn => ?_, fun a q => nb a (w2.dom a q), fun a i q => ?_, fun a ha => ?_⟩
    · cases u with
      | none => exact fun a ha => nb a (hw a ha)
      | some u => exact ⟨hw.1, fun a ha => (hw.2 a ha).imp id fun z => nb a z⟩
    · subst z
      exact DA2 a ha hb
    · rcases List.mem_append.mp ha with z | z
      · rcases w2.newG a (fun y => DA a z ((bio a).mp y).2) (by rw [bN a (DA a z)]; exact hp a z) with e | ⟨o, e, t⟩
        · rw [e]; exact w.out a (List.mem_append_left _ z)
        · rw [bN a (DA a z)] at e
          rw [Res.nt hR a z o e] at t; cases t
      · exact w2.out a z
    · by_cases hA : a ∈ A
      · exact w2.stay a o ((bA a hA).trans q) fun z => hn ((bio a).mp z).1
      · exact w2.stay a o ((bN a hA).trans (w.stay a o q hn)) fun z => hA ((bio a).mp z).2
    · have hA : a ∉ A := fun z => (w.lim a (List.mem_append_right _ z)).elim i q
      rcases w2.newG a (fun y => hA ((bio a).mp y).2) (fun z => q (nb a z)) with e | ⟨o, e, t⟩
      · rw [e]; exact w.newG a i q
      · rw [bN a hA] at e
        cases z : B.H0 a with
        | none => exact absurd z q
        | some o' =>
          have := w.stay a o' z i
          rw [e] at this
          cases this
          exact .inr ⟨o, z, t⟩
    · rcases List.mem_append.mp ha with z | z
      · exact .inr (hWD a z)
      · rcases w2.lim a z with y | y
        · exact .inl ((bio a).mp y).1
        · exact .inr (nb a y)
  )
theorem ownLs_get : ∀ {ps : List Addr} {dss : List (List PyData)} {i : Nat} {ds : List PyData}, OwnLs K G H ps dss → dss[i]? = some ds → ∃ p vs, ps[i]? = some p ∧ H p = some (.lst vs) ∧ DpAll K G vs ds
  | _, [], i, ds, h, e => by simp at e
  | _, d :: dss, 0, ds, h, e => by
    cases h with
    | cons h1 h2 h3 => simp at e; subst e; exact ⟨_, _, rfl, h1, h2⟩
  | _, d :: dss, i + 1, ds, h, e => by
    cases h with
    | cons h1 h2 h3 =>
      obtain ⟨p, vs, a1, a2⟩ := ownLs_get (i := i) h3 (by simpa using e)
      exact ⟨p, vs, by simpa using a1, a2⟩
theorem ownLs_len {ps : List Addr} {dss : List (List PyData)} (h : OwnLs K G H ps dss) : ps.length = dss.length := (by
  induction h with
  | nil => rfl
  | cons _ _ _ ih => simp [ih]
  )
theorem ownLs_app {ps ps' : List Addr} {dss dss' : List (List PyData)} (h : OwnLs K G H ps dss) (h' : OwnLs K G H ps' dss') : OwnLs K G H (ps ++ ps') (dss ++ dss') := (by
  induction h with
  | nil => exact h'
  | cons h1 h2 _ ih => exact .cons h1 h2 ih
  )
theorem ownLs_set {vs' : List V} {ds' : List PyData} (d' : DpAll K G vs' ds') : ∀ {ps : List Addr} {dss : List (List PyData)} {i : Nat} {p : Addr}, OwnLs K G H ps dss → ps.Nodup → ps[i]? = some p → OwnLs K G (upd H p (.lst vs')) ps (dss.set i ds')
  | [], _, i, p, h, _, e => by simp at e
  | q :: ps, _, 0, p, h, nd, e => by
    cases h with
    | cons h1 h2 h3 =>
      have e' : q = p := by simpa using e
      subst e'
      exact .cons upd_same d' (ownLs_mono h3 (Same.refl _) fun a ha => upd_ne fun z => (List.nodup_cons.mp nd).1 (z ▸ ha))
  | q :: ps, _, i + 1, p, h, nd, e => by
    cases h with
    | cons h1 h2 h3 =>
      have e' : ps[i]? = some p := by simpa using e
      have hq : q ≠ p := fun z => (List.nodup_cons.mp nd).1 (z ▸ List.mem_of_getElem? e')
      exact .cons (by rw [upd_ne hq]; exact h1) h2 (ownLs_set d' h3 (List.nodup_cons.mp nd).2 e')
end
def asLL (R : Res) (Q : List (List PyData) → Prop) : Prop := match R with
  | .lls dss => Q dss
  | _ => False
theorem asLL_l {dss : List (List PyData)} {Q : List (List PyData) → Prop} : asLL (.lls dss) Q = Q dss := id rfl
theorem asLL_of {R : Res} {Q : List (List PyData) → Prop} (h : asLL R Q) : ∃ dss, R = .lls dss ∧ Q dss := (by
  cases R <;> first | exact ⟨_, rfl, h⟩ | exact False.elim h
  )
section
variable {X : Cx} {a e : Expr} {ta : TD} {pos cpos apos p p1 p2 : Pos} {x : Str}
/-- [[]] -/
def oLL0 : TR := fun c Q => Q (.lls [[]]) c
theorem o_ll0 : DO X (.List [.List [] p1] pos) oLL0 := (by
  refine ⟨_, pe_lst (pa_cons (pe_lst pa_nil) pa_nil), fun B c s G H Q R st q k => ?_⟩
  refine ⟨Nat.zero_le _, fun q1 h1 => ⟨by show 1 ≤ sizeLine; decide, fun q2 h2 => ?_⟩⟩
  have ne : q2 ≠ q1 := fun z => by rw [z, upd_same] at h2; cases h2
  have h2' : H q2 = none := by rw [upd_ne ne] at h2; exact h2
  refine k _ (.lls [[]]) c G _ (st.laidR (A1 := [q2, q1]) (fun a ha => ?_) (fun a ha => ?_) (fun a ha => ?_) (by simp [ne]) ?_) (Same.refl _) q
  · simp at ha
    rw [upd_ne ha.1, upd_ne ha.2]
  · simp at ha
    rcases ha with rfl | rfl
    · exact h2'
    · exact h1
  · simp at ha
    rcases ha with rfl | rfl
    · rw [upd_same]; exact fun z => nomatch z
    · rw [upd_ne (Ne.symm ne), upd_same]; exact fun z => nomatch z
  · refine ⟨q2, [q1], rfl, rfl, upd_same, .cons (vs := []) ?_ .nil .nil⟩
    rw [upd_ne (Ne.symm ne), upd_same]
  )
/-- xss.append([]) -/
def zLLn (j : Nat) : TSd := fun E c => slO c j fun w R => asLL R fun dss => dss.length < sizeLine ∧ E.nx (c.set j (.o w (.lls (dss ++ [[]]))))
theorem s_lln (j : Nat)
    (hN : X.N[j]? = some x := by rfl) (hv : Vis X.env.scope x := by first | exact Or.inl rfl | exact Or.inr (Or.inl rfl) | exact Or.inr (Or.inr rfl)) (hd : (x == ("__debug__" : Str)) = false := by decide)
    (hcd : (x == ("__classdict__" : Str)) = false := by decide) (hbase : attributeBase (.Name x p) "append" X.env (eval (.Name x p) X.env) = eval (.Name x p) X.env := by rfl)
    (hfew : ((backTo cpos (starEach [.List [] p1] X.env)).all (fun x => !x.1) && (backToKw cpos (keywordEach [] X.env)).all (fun x => x.1.isSome)
      && decide ([Expr.List [] p1].length + ([] : List Keyword).length + (if ([] : List Keyword).isEmpty then 0 else 1) < 30)) = true := by rfl)
    (hline : (apos.endLine == cpos.line) = true := by rfl) (hs : starEach [.List [] p1] X.env = (false, eval (.List [] p1) X.env) :: starEach [] X.env := by rfl) (hplain : (backTo cpos (starEach [] X.env)).any (·.1) = false := by rfl)
    (hsw : swapsWith (.Call (.Attribute (.Name x p) "append" apos) [.List [] p1] [] cpos) none pos.line X.env = pure false := by rfl) : DS X (.Expr (.Call (.Attribute (.Name x p) "append" apos) [.List [] p1] [] cpos) pos) (zLLn j) := (by
  refine ⟨_, ps_expr (pe_bm F.plainAttrs_list F.slot_list_append F.type_list_append mt_append (pe_var hN hv hd hcd) (pa_cons (pe_lst pa_nil) pa_nil hs) hbase hfew hline hs hplain) hsw, fun B c s G H D E st k q => ?_⟩
  obtain ⟨w, R0, e0, q⟩ := slO_of q
  obtain ⟨dss, rfl, hl, q⟩ := asLL_of q
  obtain ⟨v, A1, g1, ⟨p, ps, rfl, rfl, h1, h2⟩, nd, wr⟩ := st.foc e0
  refine ⟨_, g1, .inl ⟨rfl, _, SqL.of h1⟩, by decide, fun q1 hq => ?_⟩
  have ne : q1 ≠ p := fun z => by rw [z, h1] at hq; cases hq
  have nps : q1 ∉ ps := fun z => ownLs_here h2 q1 z hq
  have lps := ownLs_len h2
  refine ⟨p, ps.map V.ref, .ref q1, rfl, rfl, by rw [upd_ne (Ne.symm ne)]; exact h1, by rw [List.length_map]; omega, ?_⟩
  refine k.nx _ _ G _ (wr _ (.lls (dss ++ [[]])) (p :: (ps ++ [q1])) (fun a ha => ?_) (fun a ha => ?_) (fun a ha => ?_) ?_ ?_) (Same.refl _) q
  · simp at ha
    rw [upd_ne ha.1, upd_ne ha.2.2]
  · simp at ha
    rcases ha with rfl | z | rfl
    · exact .inl List.mem_cons_self
    · exact .inl (List.mem_cons_of_mem _ z)
    · exact .inr hq
  · by_cases hp : a = p
    · rw [hp, upd_same]; exact fun z => nomatch z
    · rw [upd_ne hp]
      by_cases hq1 : a = q1
      · rw [hq1, upd_same]; exact fun z => nomatch z
      · rw [upd_ne hq1]
        simp [hp, hq1] at ha
        exact ownLs_here h2 a ha
  · obtain ⟨n1, n2⟩ := List.nodup_cons.mp nd
    refine List.nodup_cons.mpr ⟨fun z => ?_, List.nodup_append.mpr ⟨n2, by simp, fun a ha b hb z => ?_⟩⟩
    · rcases List.mem_append.mp z with y | y
      · exact n1 y
      · exact ne (by simpa using y : p = q1).symm
    · obtain rfl : b = q1 := by simpa using hb
      subst z
      exact nps ha
  · have np : ∀ a ∈ ps, a ≠ p := fun a ha z => (List.nodup_cons.mp nd).1 (z ▸ ha)
    refine ⟨p, ps ++ [q1], rfl, rfl, ?_, ownLs_app (ownLs_mono h2 (Same.refl _) fun a ha => ?_) (.cons (vs := []) ?_ .nil .nil)⟩
    · rw [upd_same, List.map_append]; rfl
    · rw [upd_ne (np a ha), upd_ne fun z => nps (by rw [← z]; exact ha)]
    · rw [upd_ne ne, upd_same]
  )
/-- the last one -/
def lastLL (dss : List (List PyData)) (Q : List PyData → List (List PyData) → Prop) : Prop := ∃ l ds, dss = l ++ [ds] ∧ Q ds l
theorem last_atI {α : Type} (l : List α) (x : α) : atI (l ++ [x]) (-1) = some x := atI_last l x
theorem snoc_of {α : Type} {ps : List α} {n : Nat} {p : α} (hl : ps.length = n + 1) (h : ps[n]? = some p) : ∃ qs, ps = qs ++ [p] := (by
  refine ⟨ps.take n, ?_⟩
  have e : ps.take (n + 1) = ps.take n ++ [p] := by rw [List.take_add_one, h]; rfl
  rw [← e, ← hl, List.take_length]
  )
/-- len(xss[-1]) -/
def uLLlen (j : Nat) : TD := fun c Q => slO c j fun _ R => asLL R fun dss => lastLL dss fun ds _ => Q (.int ds.length) c
theorem d_lllen (j : Nat) {pl pn ps pc pu : Pos} (hm : X.mg "len" = none) (hg : Gl X "len" := by rfl)
    (hN : X.N[j]? = some x := by rfl) (hv : Vis X.env.scope x := by first | exact Or.inl rfl | exact Or.inr (Or.inl rfl) | exact Or.inr (Or.inr rfl)) (hd : (x == ("__debug__" : Str)) = false := by decide)
    (hcd : (x == ("__classdict__" : Str)) = false := by decide) (hs : PlainIx (.UnaryOp .USub (.Constant (.int 1) 0 pc) pu) := by exact fun _ _ => rfl)
    (he : starEach [.Subscript (.Name x pn) (.UnaryOp .USub (.Constant (.int 1) 0 pc) pu) ps] X.env = (false, eval (.Subscript (.Name x pn) (.UnaryOp .USub (.Constant (.int 1) 0 pc) pu) ps) X.env) :: starEach [] X.env := by rfl) :
    DE X (.Call (.Name "len" pl) [.Subscript (.Name x pn) (.UnaryOp .USub (.Constant (.int 1) 0 pc) pu) ps] [] pos) (uLLlen j) := (by
  refine ⟨_, pe_callB call_len_seq hg hm boot_len (pa_cons (pe_ix ix_seq (pe_var hN hv hd hcd) (pe_un un_neg pe_int) hs) pa_nil he) (by decide) (by decide) he, fun B c s G H Q R st q k => ?_⟩
  obtain ⟨w, R0, e0, q⟩ := slO_of q
  obtain ⟨dss, rfl, q⟩ := asLL_of q
  obtain ⟨l, ds, el, q2⟩ := q
  subst el
  obtain ⟨v, A1, g1, ⟨p, ps, rfl, rfl, h1, h2⟩, nd, wr⟩ := st.foc e0
  obtain ⟨p2, vs, a1, a2, a3⟩ := ownLs_get (i := l.length) (ds := ds) h2 (by simp)
  have hl := ownLs_len h2
  refine ⟨_, g1, 1, rfl, .inl ⟨p, ps.map V.ref, -1, .ref p2, rfl, rfl, SqL.of h1, ?_, p2, vs, rfl, .inl (SqL.of a2), ?_⟩⟩
  · obtain ⟨qs, rfl⟩ := snoc_of (ps := ps) (by simpa using hl) a1
    rw [List.map_append]
    exact atI_last _ _
  · rw [dpa_len a3]
    exact k _ _ c G H st (Same.refl _) (.int _) q2
  )
/-- xss[-1].append(e); e without xss -/
def zLLa (j : Nat) (ta : TD) : TSd := fun E c => slO c j fun w R => w = none ∧ asLL R fun dss => lastLL dss fun ds l => ds.length < sizeLine ∧ ta (c.set j .no) fun y c1 => E.nx (c1.set j (.o none (.lls (l ++ [ds ++ [y]]))))
theorem s_lla (j : Nat) {pn ps pc pu : Pos} (ha : DE X a ta)
    (hN : X.N[j]? = some x := by rfl) (hv : Vis X.env.scope x := by first | exact Or.inl rfl | exact Or.inr (Or.inl rfl) | exact Or.inr (Or.inr rfl)) (hd : (x == ("__debug__" : Str)) = false := by decide)
    (hcd : (x == ("__classdict__" : Str)) = false := by decide) (hs : PlainIx (.UnaryOp .USub (.Constant (.int 1) 0 pc) pu) := by exact fun _ _ => rfl)
    (hbase : attributeBase (.Subscript (.Name x pn) (.UnaryOp .USub (.Constant (.int 1) 0 pc) pu) ps) "append" X.env (eval (.Subscript (.Name x pn) (.UnaryOp .USub (.Constant (.int 1) 0 pc) pu) ps) X.env) = eval (.Subscript (.Name x pn) (.UnaryOp .USub (.Constant (.int 1) 0 pc) pu) ps) X.env := by rfl)
    (hfew : ((backTo cpos (starEach [a] X.env)).all (fun x => !x.1) && (backToKw cpos (keywordEach [] X.env)).all (fun x => x.1.isSome)
      && decide ([a].length + ([] : List Keyword).length + (if ([] : List Keyword).isEmpty then 0 else 1) < 30)) = true := by rfl)
    (hline : (apos.endLine == cpos.line) = true := by rfl) (he : starEach [a] X.env = (false, eval a X.env) :: starEach [] X.env := by rfl) (hplain : (backTo cpos (starEach [] X.env)).any (·.1) = false := by rfl)
    (hsw : swapsWith (.Call (.Attribute (.Subscript (.Name x pn) (.UnaryOp .USub (.Constant (.int 1) 0 pc) pu) ps) "append" apos) [a] [] cpos) none pos.line X.env = pure false := by rfl) :
    DS X (.Expr (.Call (.Attribute (.Subscript (.Name x pn) (.UnaryOp .USub (.Constant (.int 1) 0 pc) pu) ps) "append" apos) [a] [] cpos) pos) (zLLa j ta) := (by
  obtain ⟨tea, pa, va⟩ := ha.ex
  refine ⟨_, ps_expr (pe_bm F.plainAttrs_list F.slot_list_append F.type_list_append mt_append (pe_ix ix_seq (pe_var hN hv hd hcd) (pe_un un_neg pe_int) hs) (pa_cons pa pa_nil he) hbase hfew hline he hplain) hsw, fun B c s G H D E st k q => ?_⟩
  obtain ⟨w, R0, e0, hw, q⟩ := slO_of q
  subst hw
  obtain ⟨dss, rfl, q⟩ := asLL_of q
  obtain ⟨l, ds, el, hl, q2⟩ := q
  subst el
  obtain ⟨v, g1, stT⟩ := st.take_o e0
  obtain ⟨A1, B', ⟨p, ps, rfl, rfl, h1, h2⟩, stU, back⟩ := stT.underR
  have hlen := ownLs_len h2
  obtain ⟨q0, vs0, a1, a2, a3⟩ := ownLs_get (i := l.length) (ds := ds) h2 (by simp)
  obtain ⟨ps0, rfl⟩ := snoc_of (ps := ps) (by simpa using hlen) a1
  have eix : atI ((ps0 ++ [q0]).map V.ref) (-1) = some (.ref q0) := by
    rw [List.map_append]
    exact atI_last _ _
  refine ⟨_, g1, 1, rfl, .inl ⟨p, _, -1, .ref q0, rfl, rfl, SqL.of h1, eix, .inl ⟨rfl, _, SqL.of a2⟩, va B' _ s G H _ _ stU q2 fun v y c1 G1 H1 st1 e1 d1 q1 => ?_⟩⟩
  obtain ⟨e3, hkeep, st3⟩ := back _ _ _ _ st1
  have hp1 : H1 p = some (.lst ((ps0 ++ [q0]).map V.ref)) := (hkeep p List.mem_cons_self).trans h1
  have hq1 : H1 q0 = some (.lst vs0) := (hkeep q0 (List.mem_cons_of_mem _ (by simp))).trans a2
  have a3' := dpa_mono e3 _ _ a3
  refine ⟨q0, vs0, v, rfl, rfl, hq1, by rw [dpa_len a3]; exact hl, ?_⟩
  obtain ⟨u, A2, f1, ⟨p', ps', ep, rfl, f2, f3⟩, nd, wr⟩ := st3.foc (j := 0) rfl
  have eu : u = .ref p := by simpa using f1.symm
  rw [eu] at ep
  cases ep
  rw [hp1] at f2
  have eps : ps' = ps0 ++ [q0] := by
    have e4 : (ps0 ++ [q0]).map V.ref = ps'.map V.ref := by
      have := Option.some.inj f2
      injection this
    exact (List.map_inj_right (fun x y z => by injection z)).mp e4.symm
  subst eps
  obtain ⟨n1, n2⟩ := List.nodup_cons.mp nd
  have st4 := wr (upd H1 q0 (.lst (vs0 ++ [v]))) (.lls ((l ++ [ds]).set l.length (ds ++ [y]))) (p :: (ps0 ++ [q0])) (fun a ha => upd_ne fun z => ha (by simp [z])) (fun a ha => .inl ha) (fun a ha => ?_) nd (by
    rw [eu]
    refine ⟨p, _, rfl, rfl, ?_, ownLs_set (dpa_app a3' (.cons d1 .nil)) f3 n2 ?_⟩
    · rw [upd_ne fun z => n1 (by simp [z])]; exact hp1
    · have : ps0.length = l.length := by simp at hlen; exact hlen
      rw [← this]; simp)
  · have st5 : Stt X.K B (.o none (.lls ((l ++ [ds]).set l.length (ds ++ [y]))) :: c1) (some (.ref p) :: s) G1 (upd H1 q0 (.lst (vs0 ++ [v]))) := st4
    have st6 := st5.set_o j
    rw [set_same g1] at st6
    have e5 : (l ++ [ds]).set l.length (ds ++ [y]) = l ++ [ds ++ [y]] := by simp
    rw [e5] at st6
    exact k.nx _ _ G1 _ st6 e1 q1
  · by_cases hq : a = q0
    · rw [hq, upd_same]; exact fun z => nomatch z
    · rw [upd_ne hq]
      rcases List.mem_cons.mp ha with rfl | ha
      · rw [hp1]; exact fun z => nomatch z
      · exact ownLs_here f3 a ha
  )
end
end Dl
namespace Dl
open PySem PySem.Spec PyProof.Rows L2
section
variable {c : Ctx} {as : List Arg} {x : PyData} {F : FrG} {j : Nat}
theorem lok_n : lentOk c [] = True := id rfl
theorem lok_s : lentOk c (.s j :: as) = ((slO c j fun _ _ => True) ∧ j ∉ lent as ∧ lentOk c as) := id rfl
theorem lok_d : lentOk c (.d x :: as) = lentOk c as := id rfl
theorem lok_f : lentOk c (.f F :: as) = lentOk c as := id rfl
theorem lent_n : lent [] = [] := id rfl
theorem lent_s : lent (.s j :: as) = j :: lent as := id rfl
theorem lent_d : lent (.d x :: as) = lent as := id rfl
theorem lent_f : lent (.f F :: as) = lent as := id rfl
end
theorem eqv_none : PyData.eqv .none .none = true := by simp [PyData.eqv]
end Dl
namespace Dl
open PySem PySem.Spec PyProof.Rows L2
theorem fz_ll {dss : List (List PyData)} {Q : PyData → Prop} : (Res.lls dss).fz Q = Q (.list (dss.map PyData.list)) := id rfl
end Dl
namespace Dl
open PySem PySem.Spec PyProof.Rows L2
section
variable {X : Cx} {a : Expr} {ta : TD} {pos pos' : Pos}
end
end Dl

/-! More constructs: isinstance of what is seen, sums, least and greatest, all, any, sorted, zip, enumerate, reversed, list(range), chains of comparisons, texts. -/
namespace Dl
open PySem PySem.Spec PyProof.Rows L2

/-! ### a walk by steps -/
theorem seq_gen {t u : TSd} {E : De} {c : Ctx} (h : ∀ N : Ctx → Prop, (∀ c', u E c' → N c') → t { E with nx := N } c) : zSeq t u E c := h (u E) fun _ h => h
/-- a call to which nothing was lent -/
theorem retA_kO {ls : List (Option (Lt × Res))} {Q : Res → Prop} {R : Res} : retA ls (kO Q) (.o none R) = Q R := propext ⟨fun h => h _ (pat_self ls), fun h _ _ => h⟩
theorem retA_kD {ls : List (Option (Lt × Res))} {Q : PyData → Prop} {x : PyData} : retA ls (kD Q) (.d x) = Q x := propext ⟨fun h => h _ (pat_self ls), fun h _ _ => h⟩
theorem retA_kDo {ls : List (Option (Lt × Res))} {Q : PyData → Prop} {R : Res} : retA ls (kD Q) (.o none R) = R.fz Q := propext ⟨fun h => h _ (pat_self ls), fun h _ _ => h⟩
theorem retA_kS {ls : List (Option (Lt × Res))} {Q : PyData → Prop} {x : PyData} : retA ls (kS Q) (.d x) = (scal x = true ∧ Q x) := propext ⟨fun h => h _ (pat_self ls), fun h _ _ => h⟩

/-! ### items of one kind -/
def asBs (ds : List PyData) (Q : List Bool → Prop) : Prop := ∃ ns, ds = ns.map PyData.bool ∧ Q ns
def asSs (ds : List PyData) (Q : List Str → Prop) : Prop := ∃ ns, ds = ns.map PyData.str ∧ Q ns
theorem asBs_m {ns : List Bool} {Q : List Bool → Prop} : asBs (ns.map PyData.bool) Q = Q ns := propext ⟨fun ⟨_, e, q⟩ => by
  rw [(List.map_inj_right (fun x y z => by injection z)).mp e]; exact q, fun q => ⟨_, rfl, q⟩⟩
theorem asSs_m {ns : List Str} {Q : List Str → Prop} : asSs (ns.map PyData.str) Q = Q ns := propext ⟨fun ⟨_, e, q⟩ => by
  rw [(List.map_inj_right (fun x y z => by injection z)).mp e]; exact q, fun q => ⟨_, rfl, q⟩⟩
theorem asBs_f {α : Type} {f : α → Bool} {xs : List α} {Q : List Bool → Prop} : asBs (xs.map fun x => PyData.bool (f x)) Q = Q (xs.map f) := (by
  have : xs.map (fun x => PyData.bool (f x)) = (xs.map f).map PyData.bool := by rw [List.map_map]; rfl
  rw [this, asBs_m]
  )
section
variable {X : Cx} {pos p : Pos} {a b e : Expr} {ta tb tc : TD} {tg : Expr}

/-! ### isinstance of what is seen -/
theorem d_isiV {p2 : Pos} {T : Str} {n : String} (hm : X.mg "isinstance" = none) (hT : X.mg T = none) (hv : bootBuiltins T = some (.type n)) (ha : DV X a ta) {fi : PyData → Bool} (hk : ∀ x : PyData, (∀ kv, x ≠ .dict kv) → PySem.W.kitOne X.K (tyD x) (.type n) = some (fi x)) (hg : Gl X "isinstance" := by rfl) (hg2 : Gl X T := by rfl)
    (h1 : T ≠ "__name__" := by decide) (h2 : (T == ("__debug__" : Str)) = false := by decide) (he : starEach (a :: [.Name T p2]) X.env = (false, eval a X.env) :: starEach [.Name T p2] X.env := by rfl) (hpl : (backTo pos (starEach [.Name T p2] X.env)).any (·.1) = false := by rfl) :
    DE X (.Call (.Name "isinstance" p) [a, .Name T p2] [] pos) (u1 (fun x Q => Q (.bool (fi x))) ta) := (by
  obtain ⟨tea, pa, va⟩ := ha.ex
  refine ⟨_, pe_callB call_isi hg hm (by decide +kernel) (pa_cons pa (pa_cons (pe_bltn (v := .ty n) hg2 hT hv rfl h1 h2) pa_nil) he) (by decide) (by decide) he hpl, fun B c s G H Q R st q k => va B c s G H _ _ st q fun v x c1 G1 H1 st1 e1 d1 q1 => ?_⟩
  have d2 := d1.dp st1.sub
  exact ⟨v, .ty n, tyD x, .type n, fi x, rfl, .ty n, tyX_of (Same.refl _) d2, hk x (fun kv z => by subst z; cases d2), k _ _ c1 G1 H1 st1 e1 (.bl _) q1⟩
  )
/-! ### of a list of numbers, of truths -/
def fAll : PyData → (PyData → Prop) → Prop := fun x Q => asL x fun ds => asBs ds fun ns => Q (.bool (ns.all id))
theorem Vw.bls {K : PySem.W.Frag} {G H : Hp} {v : V} {ns : List Bool} (h : Vw K G H v (.list (ns.map PyData.bool))) (e : Same G H) : ∃ p, v = .ref p ∧ SqL K H p (ns.map V.bl) := (by
  obtain ⟨p, vs, rfl, h1, h2⟩ := h.lst e
  rw [dpa_bls_inv h2] at h1
  exact ⟨p, rfl, h1⟩
  )
theorem Vw.strs {K : PySem.W.Frag} {G H : Hp} {v : V} {ns : List Str} (h : Vw K G H v (.list (ns.map PyData.str))) (e : Same G H) : ∃ p, v = .ref p ∧ SqL K H p (ns.map V.str) := (by
  obtain ⟨p, vs, rfl, h1, h2⟩ := h.lst e
  rw [dpa_strs_inv h2] at h1
  exact ⟨p, rfl, h1⟩
  )
theorem d_all (hc : X.calm = true) (hm : X.mg "all" = none) (ha : DV X a ta) (hg : Gl X "all" := by rfl) (he : starEach [a] X.env = (false, eval a X.env) :: starEach [] X.env := by rfl) (hpl : (backTo pos (starEach [] X.env)).any (·.1) = false := by rfl) : DE X (.Call (.Name "all" p) [a] [] pos) (u1 fAll ta) := (by
  refine d_oneB (cr_all hc) (fun B c s G H v x Q R st d h k => ?_) hm (by decide +kernel) ha hg (by decide) (by decide) he hpl
  obtain ⟨ds, rfl, ns, rfl, q⟩ := asL_of h
  obtain ⟨p, rfl, hs⟩ := d.bls st.sub
  exact ⟨p, ns, rfl, hs, k _ _ G H st (Same.refl _) (.bl _) q⟩
  )
/-! ### min, max of two; str(int), int(str) -/
variable {es : List Expr} {tl : TL}
def fStr : PyData → (PyData → Prop) → Prop := fun x Q => asI x fun i => i.natAbs.log2 < 1920 ∧ Q (.str (toString i))
theorem d_str_ (hm : X.mg "str" = none) (ha : DV X a ta) (hg : Gl X "str" := by rfl) (he : starEach [a] X.env = (false, eval a X.env) :: starEach [] X.env := by rfl) (hpl : (backTo pos (starEach [] X.env)).any (·.1) = false := by rfl) : DE X (.Call (.Name "str" p) [a] [] pos) (u1 fStr ta) := (by
  refine d_oneT call_str_int (fun B c s G H v x Q R st d h k => ?_) hm bb_str ha hg (by decide) (by decide) he hpl
  obtain ⟨i, rfl, hl, q⟩ := asI_of h
  exact ⟨i, by rw [dp_int (d.dp st.sub)], hl, k _ _ G H st (Same.refl _) (.str _) q⟩
  )
def fIntS : PyData → (PyData → Prop) → Prop := fun x Q => match x with
  | .int i => Q (.int i)
  | .bool b => Q (.int (if b then 1 else 0))
  | .str z => ∃ n, PySem.intText? z = some n ∧ z.length ≤ 640 ∧ Q (.int n)
  | _ => False
theorem fIntS_i {i : Int} {Q : PyData → Prop} : fIntS (.int i) Q = Q (.int i) := id rfl
theorem fIntS_b {b : Bool} {Q : PyData → Prop} : fIntS (.bool b) Q = Q (.int (if b then 1 else 0)) := id rfl
theorem fIntS_s {z : Str} {Q : PyData → Prop} : fIntS (.str z) Q = ∃ n, PySem.intText? z = some n ∧ z.length ≤ 640 ∧ Q (.int n) := id rfl
theorem d_intS (hm : X.mg "int" = none) (ha : DV X a ta) (hg : Gl X "int" := by rfl) (he : starEach [a] X.env = (false, eval a X.env) :: starEach [] X.env := by rfl) (hpl : (backTo pos (starEach [] X.env)).any (·.1) = false := by rfl) : DE X (.Call (.Name "int" p) [a] [] pos) (u1 fIntS ta) := (by
  refine d_oneT (CallR.or call_int1 call_int_str) (fun B c s G H v x Q R st d1 h k => ?_) hm bb_int ha hg (by decide) (by decide) he hpl
  cases x with
  | int i => exact .inl (.inl ⟨i, by rw [dp_int (d1.dp st.sub)], k _ _ G H st (Same.refl _) (.int _) h⟩)
  | bool b => exact .inl (.inr ⟨b, by rw [dp_bl (d1.dp st.sub)], k _ _ G H st (Same.refl _) (.int _) h⟩)
  | str z =>
    obtain ⟨n, h1, h2, q⟩ := h
    exact .inr ⟨z, n, by rw [dp_str (d1.dp st.sub)], h1, h2, k _ _ G H st (Same.refl _) (.int _) q⟩
  | list _ => exact h.elim
  | tuple _ => exact h.elim
  | none => exact h.elim
  | dict _ => exact h.elim
  )
/-! ### list(range(..)) -/
/-! ### a < b < c -/
def uChain (f g : PyData → PyData → (PyData → Prop) → Prop) (ta tb tc : TD) : TD := fun c Q => ta c fun x c1 => tb c1 fun y c2 => f x y fun z => asB z fun k => if k = true then tc c2 fun w c3 => g y w fun z => Q z c3 else Q (.bool false) c2
section
variable {ce : Expr} {op op' : CmpOp} {r r' : R2} {f f' : PyData → PyData → (PyData → Prop) → Prop}
theorem chain_v {tea teb tec : TE} (ha : DEv X.K tea ta) (hb : DEv X.K teb tb) (hc : DEv X.K tec tc) (hr : OpD X.K r f) (hr' : OpD X.K r' f') : DEv X.K (tChain r r' tea teb tec) (uChain f f' ta tb tc) := (by
  intro B c s G H Q R st q k
  refine ha B c s G H _ _ st q fun v x c1 G1 H1 st1 e1 d1 q1 => ?_
  refine hb B c1 s G1 H1 _ _ st1 q1 fun w y c2 G2 H2 st2 e2 d2 q2 => ?_
  refine hr B c2 s G2 H2 v w x y _ _ st2 (dp_mono e2 _ _ d1) d2 q2 fun z d G3 H3 st3 e3 d3 q3 => ?_
  obtain ⟨b, rfl, q3⟩ := asB_of q3
  refine ⟨b, dp_bl d3, ?_⟩
  cases b with
  | true =>
    have q3 : if (true = true) then tc c2 fun w c3 => f' y w fun z => Q z c3 else Q (.bool false) c2 := q3
    rw [if_pos rfl] at q3 ⊢
    refine hc B c2 s G3 H3 _ _ st3 q3 fun u t c4 G4 H4 st4 e4 d4 q4 => ?_
    exact hr' B c4 s G4 H4 w u y t _ R st4 (dp_mono (e3.trans e4) _ _ d2) d4 q4 fun z d G5 H5 st5 e5 d5 q5 => k z d c4 G5 H5 st5 ((((e1.trans e2).trans e3).trans e4).trans e5) d5 q5
  | false =>
    have q3 : if (false = true) then tc c2 fun w c3 => f' y w fun z => Q z c3 else Q (.bool false) c2 := q3
    rw [if_neg Bool.false_ne_true] at q3 ⊢
    exact k _ _ c2 G3 H3 st3 ((e1.trans e2).trans e3) (.bl _) q3
  )
theorem d_chain (ho : OpR X (compareOp op) r) (ho' : OpR X (compareOp op') r') (hr : OpD X.K r f) (hr' : OpD X.K r' f') (ha : DE X a ta) (hb : DE X b tb) (hc : DE X ce tc) (hm : lastMarks [op, op'] [b, ce] = false := by with_unfolding_all rfl) : DE X (.Compare a [op, op'] [b, ce] pos) (uChain f f' ta tb tc) := (by
  obtain ⟨tea, pa, va⟩ := ha.ex
  obtain ⟨teb, pb, vb⟩ := hb.ex
  obtain ⟨tec, pc, vc⟩ := hc.ex
  exact ⟨_, pe_chain ho ho' pa pb pc hm, chain_v va vb vc hr hr'⟩
  )
theorem t_chain (ho : OpR X (compareOp op) r) (ho' : OpR X (compareOp op') r') (hr : OpD X.K r f) (hr' : OpD X.K r' f') (ha : DE X a ta) (hb : DE X b tb) (hc : DE X ce tc) (hm : lastMarks [op, op'] [b, ce] = false := by with_unfolding_all rfl) : DT X (.Compare a [op, op'] [b, ce] pos) (wB (uChain f f' ta tb tc)) := (by
  obtain ⟨tea, pa, va⟩ := ha.ex
  obtain ⟨teb, pb, vb⟩ := hb.ex
  obtain ⟨tec, pc, vc⟩ := hc.ex
  refine ⟨_, pt_chain ho ho' pa pb pc hm, fun B c s G H Q R st q k => chain_v va vb vc hr hr' B c s G H _ _ st q fun v x c1 G1 H1 st1 e1 d1 q1 => ?_⟩
  obtain ⟨b, rfl, q⟩ := asB_of q1
  exact ⟨b, dp_bl d1, k b c1 G1 H1 st1 e1 q⟩
  )
end

/-! ### zip, enumerate, reversed -/
end
end Dl

/-! Lists of owned lists: read, written, grown; a list so many times; join; sorted of texts, of pairs. -/
namespace Dl
open PySem PySem.Spec PyProof.Rows L2
section
variable {K : PySem.W.Frag} {B : Base} {G H : Hp} {c : Ctx} {s : L2.St}
/-- the owned thing on top given to the owned thing in slot j -/
theorem Stt.foc2 {Rt : Res} {vt : V} (st : Stt K B (.o none Rt :: c) (some vt :: s) G H) {j : Nat} {w : Option Lt} {R : Res} (e : c[j]? = some (.o w R)) : ∃ v A1 At, s[j]? = some (some v) ∧ R.P K G H v A1 ∧ Rt.P K G H vt At ∧ (A1 ++ At).Nodup ∧
    ∀ (H' : Hp) (R' : Res) (A1' : List Addr), (∀ a, a ∉ A1' → H' a = H a) → (∀ a ∈ A1', a ∈ A1 ∨ a ∈ At ∨ H a = none) → (∀ a ∈ A1', H' a ≠ none) → A1'.Nodup → R'.P K G H' v A1' → Stt K B (c.set j (.o w R')) s G H' := (by
  obtain ⟨A0, r0, wd⟩ := st.ex
  cases r0 with
  | @o _ _ _ _ _ At A hRt hWt r =>
  obtain ⟨nd1, nd2, nd3⟩ := List.nodup_append.mp wd.nd
  have hWt : ∀ a ∈ At, B.H0 a = none := hWt
  obtain ⟨v, A1, h1, h2, h3, h4, h5, k⟩ := r.focus nd2 e
  refine ⟨v, A1, At, h1, h2, hRt, List.nodup_append.mpr ⟨h4, nd1, fun a ha b hb z => nd3 b hb a (h5 a ha) z.symm⟩, fun H' R' A1' k1 k2 k3 k4 k5 => ?_⟩
  have kw : WOk B w v A1' := by
    cases w with
    | none =>
      intro a ha
      rcases k2 a ha with z | z | z
      · exact h3 a z
      · exact hWt a z
      · exact wd.dom a z
    | some u =>
      refine ⟨h3.1, fun a ha => ?_⟩
      rcases k2 a ha with z | z | z
      · exact h3.2 a z
      · exact .inr (hWt a z)
      · exact .inr (wd.dom a z)
  have hAt : ∀ a ∈ At, a ∉ A := fun a ha z => nd3 a ha a z rfl
  have kk : ∀ a ∈ A, a ∉ A1 → H' a = H a := fun a ha hn => k1 a fun z => by
    rcases k2 a z with y | y | y
    · exact hn y
    · exact hAt a y ha
    · exact r.here a ha y
  obtain ⟨A', r', n, q⟩ := k (G' := G) (H' := H') (R' := R') (w' := w) (A1' := A1') (Same.refl _) kk k5 kw k4 (fun a ha => by
    rcases k2 a ha with z | z | z
    · exact .inl z
    · exact .inr (hAt a z)
    · exact .inr fun y => r.here a y z)
  have inA : ∀ a ∈ A', (a ∈ A1' ∧ (a ∈ A1 ∨ a ∈ At ∨ H a = none)) ∨ (a ∈ A ∧ a ∉ A1) := fun a ha => (q a ha).imp (fun z => ⟨z, k2 a z⟩) id
  refine ⟨A', r', fun a o z => ?_, n, fun a ha => ?_, wd.old, fun a o z hn => ?_, fun a z => ?_, wd.newG, fun a ha => ?_⟩
  · have ha : a ∉ A1' := fun y => by
      rcases k2 a y with x | x | x
      · rw [wd.out a (List.mem_append_right _ (h5 a x))] at z; cases z
      · rw [wd.out a (List.mem_append_left _ x)] at z; cases z
      · rw [wd.sub a o z] at x; cases x
    rw [k1 a ha]; exact wd.sub a o z
  · rcases inA a ha with ⟨_, z | z | z⟩ | ⟨z, _⟩
    · exact wd.out a (List.mem_append_right _ (h5 a z))
    · exact wd.out a (List.mem_append_left _ z)
    · exact wd.sub.free z
    · exact wd.out a (List.mem_append_right _ z)
  · have hs := wd.stay a o z hn
    have ha : a ∉ A1' := fun y => by
      rcases k2 a y with x | x | x
      · rcases wd.lim a (List.mem_append_right _ (h5 a x)) with u | u
        · exact hn u
        · rw [u] at z; cases z
      · rw [hWt a x] at z; cases z
      · rw [hs] at x; cases x
    rw [k1 a ha]; exact hs
  · have ha : a ∉ A1' := fun y => k3 a y z
    rw [k1 a ha] at z
    exact wd.dom a z
  · rcases inA a ha with ⟨_, z | z | z⟩ | ⟨z, _⟩
    · exact wd.lim a (List.mem_append_right _ (h5 a z))
    · exact wd.lim a (List.mem_append_left _ z)
    · exact .inr (wd.dom a z)
    · exact wd.lim a (List.mem_append_right _ z)
  )
end
section
variable {X : Cx} {a b e : Expr} {ta tb te : TD} {to : TR} {pos cpos apos p p1 p2 : Pos} {x : Str}
/-! ### a new list so many times -/
def repD (ds : List PyData) (k : Int) : List PyData := (List.replicate k.toNat ds).flatten
def oRep (to : TR) (tb : TD) : TR := fun c Q => to c fun R c1 => asR R fun ds => tb c1 fun y c2 => asI y fun k => -(2 ^ 63) ≤ k ∧ k < 2 ^ 63 ∧ ds.length * k.toNat ≤ sizeLine ∧ Q (.lst (repD ds k)) c2
theorem dpa_flat {K : PySem.W.Frag} {G : Hp} {vs : List V} {ds : List PyData} (h : DpAll K G vs ds) : ∀ n : Nat, DpAll K G (List.replicate n vs).flatten (List.replicate n ds).flatten
  | 0 => .nil
  | n + 1 => by
    rw [List.replicate_succ, List.replicate_succ, List.flatten_cons, List.flatten_cons]
    exact dpa_app h (dpa_flat h n)
theorem o_rep (ha : DO X a to) (hb : DE X b tb) : DO X (.BinOp a .Mult b pos) (oRep to tb) := (by
  obtain ⟨tea, pa, va⟩ := ha.ex
  obtain ⟨teb, pb, vb⟩ := hb.ex
  refine ⟨_, pe_op op_rep pa pb, fun B c s G H Q R st q k => va B c s G H _ _ st q fun v Rv c1 G1 H1 st1 e1 q1 => ?_⟩
  obtain ⟨ds, rfl, q1⟩ := asR_of q1
  obtain ⟨A1, B', ⟨p, vs, rfl, rfl, h1, h2⟩, stU, back⟩ := st1.underR
  refine vb B' c1 s G1 H1 _ _ stU q1 fun y0 y c2 G2 H2 st2 e2 d2 q2 => ?_
  obtain ⟨e3, hk, st3⟩ := back _ _ _ _ st2
  obtain ⟨n, rfl, b1, b2, b3, q3⟩ := asI_of q2
  refine ⟨p, n, vs, rfl, dp_int d2, (hk p (by simp)).trans h1, b1, b2, by rw [dpa_len h2]; exact b3, fun l hl => ?_⟩
  exact k _ _ _ _ _ (st3.pop.laidL hl (dpa_flat (dpa_mono e3 _ _ h2) n.toNat)) (e1.trans e3) q3
  )
/-! ### join, sorted of texts, of pairs of numbers -/
def fSortS : PyData → (Res → Prop) → Prop := fun x Q => asL x fun ds => asSs ds fun ns => ns.length < 64 ∧ ∀ ns' : List Str, ns'.Perm ns → sortedS ns' = true → Q (.lst (ns'.map PyData.str))
theorem o_sortS (hm : X.mg "sorted" = none) (ha : DV X a ta) (hg : Gl X "sorted" := by rfl) (he : starEach [a] X.env = (false, eval a X.env) :: starEach [] X.env := by rfl) (hpl : (backTo pos (starEach [] X.env)).any (·.1) = false := by rfl) : DO X (.Call (.Name "sorted" p) [a] [] pos) (o1 fSortS ta) := (by
  refine o_oneB cr_sortedS (fun B c s G H v x Q R st d h k => ?_) hm (by decide +kernel) ha hg (by decide) (by decide) he hpl
  obtain ⟨ds, rfl, ns, rfl, hl, q⟩ := asL_of h
  obtain ⟨p, rfl, hs⟩ := d.strs st.sub
  exact ⟨p, ns, rfl, hs, hl, fun ns' l h1 h2 hn => k _ _ _ _ (st.laidL hn (dpa_strs ns')) (Same.refl _) (q ns' h1 h2)⟩
  )
end
end Dl

/-! Words, layers, bores: what the laws' drawn things are. -/
namespace Dl
open PySem PySem.Spec PyProof.Rows L2

/-! ### things lent and not changed -/
/-- a slot where a list is seen: data, or lent -/
def Lk (X : S) (ds : List PyData) : Prop := X = .d (.list ds) ∨ ∃ u, X = .o (some u) (.lst ds)
def pat1 : S → Option (Lt × Res)
  | .o (some u) R => some (u, R)
  | _ => none
theorem lk_o {u : Lt} {ds : List PyData} {ds' : List PyData} : Lk (.o (some u) (.lst ds)) ds' ↔ ds' = ds := ⟨fun h => by rcases h with h | ⟨u, h⟩ <;> cases h; rfl, fun h => by subst h; exact .inr ⟨u, rfl⟩⟩
theorem lk_facts {X : S} {ds : List PyData} (h : Lk X ds) : (∀ (c : Ctx) (P : PyData → Prop), slW (X :: c) 0 P = P (.list ds)) ∧ ∀ c : Ctx, hasS (X :: c) 0 = True := (by
  rcases h with rfl | ⟨u, rfl⟩ <;> exact ⟨fun _ _ => rfl, fun _ => rfl⟩
  )
theorem pat_nil {c' : Ctx} : Pat [] c' := ⟨Nat.zero_le _, by simp⟩
theorem pat_cons {X : S} {ls : List (Option (Lt × Res))} {c' : Ctx} (h : Pat ls c') : Pat (pat1 X :: ls) (X :: c') := ⟨by have := h.1; simpa using this, fun i u R e => by
  cases i with
  | zero =>
    have e' : pat1 X = some (u, R) := by simpa using e
    cases X with
    | o w R' =>
      cases w with
      | none => cases e'
      | some w => cases e'; rfl
    | _ => cases e'
  | succ i => simpa using h.2 i u R (by simpa using e)⟩
theorem pat_consN {X : S} {ls : List (Option (Lt × Res))} {c' : Ctx} (h : Pat ls c') : Pat (none :: ls) (X :: c') := ⟨by have := h.1; simpa using this, fun i u R e => by
  cases i with
  | zero => simp at e
  | succ i => simpa using h.2 i u R (by simpa using e)⟩
theorem pat_consO {u : Lt} {R : Res} {ls : List (Option (Lt × Res))} {c' : Ctx} (h : Pat ls c') : Pat (some (u, R) :: ls) (.o (some u) R :: c') := pat_cons (X := .o (some u) R) h

/-! ### words -/
def chOk (n : Nat) : Bool := decide (97 ≤ n) && decide (n ≤ 122)
def WordOk (w : Str) : Prop := 1 ≤ w.cps.size ∧ w.cps.size ≤ 8 ∧ w.cps.toList.all chOk = true
theorem word_len {w : Str} (h : WordOk w) : w.length ≤ 8 := h.2.1
theorem strOk_of {w : Str} (h : w.cps.toList.all chOk = true) : PyData.strOk w = true := (by
  rw [List.all_eq_true] at h
  unfold PyData.strOk
  rw [Array.all_eq_true_iff_forall_mem]
  intro n hn
  have := h n (Array.mem_toList_iff.mpr hn)
  unfold chOk at this
  rw [Bool.and_eq_true, decide_eq_true_eq, decide_eq_true_eq] at this
  exact decide_eq_true (by omega)
  )
theorem word_ok {w : Str} (h : WordOk w) : PyData.strOk w = true := strOk_of h.2.2
theorem sh_strs {ws : List Str} (h : ∀ w ∈ ws, PyData.strOk w = true) : Sh 64 (.list (ws.map PyData.str)) := sh_list.mpr fun d hd => by
  obtain ⟨w, hw, rfl⟩ := List.mem_map.mp hd
  exact sh_str.mpr (h w hw)
theorem any_str {ws : List Str} {w : Str} : ((ws.map PyData.str).any fun z => PyData.eqv z (.str w)) = decide (w ∈ ws) := (by
  induction ws with
  | nil => simp
  | cons a ws ih =>
    rw [List.map_cons, List.any_cons, ih, eqv_str]
    by_cases h : a = w
    · subst h; simp
    · have h' : w ≠ a := fun z => h z.symm
      rw [beq_eq_false_iff_ne.mpr h, Bool.false_or]
      simp [h']
  )
theorem str_inj {ws ws' : List Str} (h : ws.map PyData.str = ws'.map PyData.str) : ws = ws' := (List.map_inj_right (fun x y z => by injection z)).mp h
theorem insD_map {α : Type} (f : α → PyData) (ws : List α) (n : Nat) (w : α) : insD (ws.map f) n (f w) = (ws.take n ++ [w] ++ ws.drop n).map f := (by
  unfold insD
  rw [List.map_append, List.map_append, List.map_take, List.map_drop]; rfl
  )
theorem mem_ins {α : Type} {ws : List α} {n : Nat} {w x : α} : x ∈ ws.take n ++ [w] ++ ws.drop n ↔ x = w ∨ x ∈ ws := (by
  have : x ∈ ws ↔ x ∈ ws.take n ∨ x ∈ ws.drop n := by
    conv => lhs; rw [← List.take_append_drop n ws]
    exact List.mem_append
  rw [this, List.mem_append, List.mem_append, List.mem_singleton]
  constructor
  · rintro ((h | h) | h)
    · exact .inr (.inl h)
    · exact .inl h
    · exact .inr (.inr h)
  · rintro (h | h | h)
    · exact .inl (.inr h)
    · exact .inl (.inl h)
    · exact .inr h
  )
theorem len_ins {α : Type} {ws : List α} {n : Nat} {w : α} : (ws.take n ++ [w] ++ ws.drop n).length = ws.length + 1 := (by
  rw [List.length_append, List.length_append, List.length_take, List.length_drop, List.length_singleton]
  omega
  )
theorem perm_ins {α : Type} {ws : List α} {n : Nat} {w : α} : (ws.take n ++ [w] ++ ws.drop n).Perm (w :: ws) := (by
  have h1 : (ws.take n ++ [w] ++ ws.drop n).Perm (([w] ++ ws.take n) ++ ws.drop n) := (List.perm_append_comm).append_right _
  have e : ([w] ++ ws.take n) ++ ws.drop n = w :: ws := by
    rw [List.append_assoc, List.take_append_drop]; rfl
  rw [e] at h1
  exact h1
  )
theorem nodup_ins {α : Type} {ws : List α} {n : Nat} {w : α} (h : ws.Nodup) (hw : w ∉ ws) : (ws.take n ++ [w] ++ ws.drop n).Nodup := perm_ins.nodup_iff.mpr (List.nodup_cons.mpr ⟨hw, h⟩)
/-- a word longer by one letter; a word's begin -/
theorem cut_word {w : Str} (h : WordOk w) (k : Nat) (hk : 1 ≤ k) : WordOk (cutS w none (some (k : Int))) := (by
  obtain ⟨h1, h2, h3⟩ := h
  have e1 : HT.sIx w.length 0 none = 0 := rfl
  have e2 : HT.sIx w.length w.length (some (k : Int)) = min k w.length := by
    unfold HT.sIx
    simp
    omega
  have hs : 1 ≤ w.length := h1
  unfold cutS
  rw [e1, e2]
  refine ⟨?_, ?_, ?_⟩
  · simp [Str.length] at hs ⊢; omega
  · simp [Str.length] at h2 ⊢; omega
  · rw [List.all_eq_true] at h3 ⊢
    intro n hn
    simp at hn
    exact h3 n (List.mem_of_mem_take hn)
  )
theorem cut_few (w : Str) (k : Nat) : (cutS w none (some (k : Int))).cps.size ≤ k := (by
  have e1 : HT.sIx w.length 0 none = 0 := rfl
  have e2 : HT.sIx w.length w.length (some (k : Int)) = min k w.length := by
    unfold HT.sIx
    simp
    omega
  unfold cutS
  rw [e1, e2]
  simp; omega
  )
theorem atD_mem {ds : List PyData} {k : Int} {Q : PyData → Prop} (h0 : 0 ≤ k) (h1 : k < ds.length) (h : ∀ d ∈ ds, Q d) : atD ds k Q := (by
  have hk : k.toNat < ds.length := by omega
  exact ⟨ds[k.toNat], by rw [atI_of h0 h1, List.getElem?_eq_getElem hk], h _ (List.getElem_mem _)⟩
  )
theorem atD_get {ns : List Str} {i : Nat} {Q : PyData → Prop} (hi : i < ns.length) (h : ∀ z, ns[i]? = some z → Q (.str z)) : atD (ns.map PyData.str) (0 + (i : Int)) Q := (by
  rw [Int.zero_add]
  exact ⟨.str ns[i], atI_nat (by rw [List.getElem?_map, List.getElem?_eq_getElem hi]; rfl), h _ (List.getElem?_eq_getElem hi)⟩
  )
theorem nodup_len {α : Type} [DecidableEq α] : ∀ {l m : List α}, l.Nodup → (∀ x ∈ l, x ∈ m) → l.length ≤ m.length
  | [], m, _, _ => Nat.zero_le _
  | a :: l, m, nd, h => by
    obtain ⟨n1, n2⟩ := List.nodup_cons.mp nd
    have ha := h a List.mem_cons_self
    have h2 : l.length ≤ (m.erase a).length := nodup_len n2 fun x hx => (List.mem_erase_of_ne fun z => n1 (by rw [← z]; exact hx)).mpr (h x (List.mem_cons_of_mem _ hx))
    rw [List.length_erase_of_mem ha] at h2
    have := List.length_pos_of_mem ha
    rw [List.length_cons]
    omega

/-! ### numbers drawn -/
/-- 10 ** 59 -/
def big : Int := 10 ^ 59
theorem big_pos : 0 < big := by decide
/-! ### layers, bores -/
def lyD (l : Str × Int) : PyData := .tuple [.str l.1, .int l.2]
def blD (k : List (Str × Int)) : PyData := .tuple (k.map lyD)
structure Bo where
  nm : Str
  at_ : Int
  top : Int
  bl : List (List (Str × Int))
def boD (b : Bo) : PyData := .tuple [.str b.nm, .int b.at_, .int b.top, .tuple (b.bl.map blD)]
def Bo.lays (b : Bo) : List (Str × Int) := b.bl.flatten
/-- blocks of layers with marks of ms -/
structure BlOk (ms : List Str) (bl : List (List (Str × Int))) : Prop where
  ne : bl ≠ []
  each : ∀ k ∈ bl, k ≠ []
  few : bl.flatten.length ≤ 6
  some_ : 1 ≤ bl.flatten.length
  ly : ∀ l ∈ bl.flatten, l.1 ∈ ms ∧ 1 ≤ l.2 ∧ l.2 ≤ big
structure BoOk (ms : List Str) (b : Bo) : Prop where
  bl : BlOk ms b.bl
  at0 : 0 ≤ b.at_
  atB : b.at_ ≤ 100 * big
  top0 : 0 ≤ b.top
  topB : b.top ≤ big
/-- bores of these names -/
structure BosOk (ns ms : List Str) (bs : List Bo) : Prop where
  nm : (bs.map Bo.nm).Perm ns
  each : ∀ b ∈ bs, BoOk ms b
  far : (bs.map Bo.at_).Nodup
/-- pairs, both numbers rising, from i and j on -/
def PpOk (n m : Nat) : Nat → Nat → List (Nat × Nat) → Prop
  | _, _, [] => True
  | i, j, (a, b) :: ps => i ≤ a ∧ j ≤ b ∧ a < n ∧ b < m ∧ PpOk n m (a + 1) (b + 1) ps
/-- two bores, pairs of their layers, a place -/
structure TwoOk (l r : Bo) (ps : List (Nat × Nat)) (pl : Int) : Prop where
  okL : ∃ ms, BoOk ms l
  okR : ∃ ms, BoOk ms r
  lt : l.at_ < r.at_
  pp : PpOk l.lays.length r.lays.length 0 0 ps
  few : ps.length ≤ 6
  lo : l.at_ ≤ pl
  hi : pl ≤ r.at_
section
variable {b : Bo} {Q : PyData → Prop}
theorem ixbo_0 : ixD (boD b) 0 Q = Q (.str b.nm) := by unfold boD; rw [ixD_t, atD_0]
theorem ixbo_1 : ixD (boD b) 1 Q = Q (.int b.at_) := by unfold boD; rw [ixD_t, atD_1]
theorem ixbo_2 : ixD (boD b) 2 Q = Q (.int b.top) := by unfold boD; rw [ixD_t, atD_2]
theorem ixbo_3 : ixD (boD b) 3 Q = Q (.tuple (b.bl.map blD)) := by unfold boD; rw [ixD_t, atD_3]
end

/-! ### what is told by data is told by what it is of -/
/-! ### items of a list that is told by another one -/
theorem map_get {α β : Type} {f : α → β} {xs : List α} {i : Nat} {y : β} (h : (xs.map f)[i]? = some y) : ∃ x, xs[i]? = some x ∧ f x = y := (by
  rw [List.getElem?_map] at h
  cases e : xs[i]? with
  | none => rw [e] at h; cases h
  | some x => rw [e] at h; exact ⟨x, rfl, Option.some.inj h⟩
  )
theorem take_map {α β : Type} {f : α → β} {xs : List α} {i : Nat} {x : α} (h : xs[i]? = some x) : (xs.take (i + 1)).map f = (xs.take i).map f ++ [f x] := (by
  rw [List.take_add_one, h, List.map_append]; rfl
  )
theorem drop_get {α : Type} {xs : List α} {i : Nat} {x : α} (h : xs[i]? = some x) : xs.drop i = x :: xs.drop (i + 1) := (by
  obtain ⟨hi, e⟩ := List.getElem?_eq_some_iff.mp h
  rw [List.drop_eq_getElem_cons hi, e]
  )
theorem get_lt {α : Type} {xs : List α} {i : Nat} {x : α} (h : xs[i]? = some x) : i < xs.length := (List.getElem?_eq_some_iff.mp h).1
theorem get_mem {α : Type} {xs : List α} {i : Nat} {x : α} (h : xs[i]? = some x) : x ∈ xs := List.mem_of_getElem? h
/-- an item by its place -/
theorem atD_nat {ds : List PyData} {i : Nat} {d : PyData} {Q : PyData → Prop} (h : ds[i]? = some d) (q : Q d) : atD ds (i : Int) Q := ⟨d, atI_nat h, q⟩
theorem atD_map {α : Type} {f : α → PyData} {xs : List α} {i : Nat} {x : α} {Q : PyData → Prop} (h : xs[i]? = some x) (q : Q (f x)) : atD (xs.map f) (i : Int) Q := atD_nat (by rw [List.getElem?_map, h]; rfl) q
/-! ### comprehensions over a list that is told by another one -/
theorem comp_fmm {α : Type} {g : α → PyData} {xs : List α} {vs : List Nat} {tg : TGd} {tt : TB} {te : TD} {c1 : Ctx} {Q : List PyData → Ctx → Prop} (p : α → Bool) (f : α → PyData) (hl : xs.length ≤ sizeLine)
    (h : ∀ x ∈ xs, ∀ (N : PyData → Ctx → Prop) (M : Ctx → Prop), (p x = true → ∀ c, clr vs c = clr vs c1 → N (f x) c) → (p x = false → ∀ c, clr vs c = clr vs c1 → M c) → tg (g x) (clr vs c1) fun c2 => tt c2 fun b c3 => if b = true then te c3 N else M c3)
    (q : Q ((xs.filter p).map f) (Dl.rest c1 vs (clr2 vs (clr vs c1)))) : zComp vs tg tt te (xs.map g) c1 Q := (by
  refine comp_by (fun i acc c => c = clr vs c1 ∧ acc = ((xs.take i).filter p).map f) ⟨rfl, by simp⟩ (fun i y acc c N M hy hI hN hM => ?_) fun acc c hI => ?_
  · obtain ⟨rfl, rfl⟩ := hI
    obtain ⟨x, hx, rfl⟩ := map_get hy
    have hi : i < xs.length := get_lt hx
    have e : xs.take (i + 1) = xs.take i ++ [x] := by rw [List.take_add_one, hx]; rfl
    have hacc : (((xs.take i).filter p).map f).length < sizeLine := by
      have h1 := List.length_filter_le p (xs.take i)
      rw [List.length_take] at h1
      rw [List.length_map]
      omega
    refine h x (get_mem hx) N M (fun hp c hc => hN _ c hacc ⟨hc, ?_⟩) fun hp c hc => hM c ⟨hc, ?_⟩
    · rw [e, List.filter_append, List.map_append, List.filter_cons_of_pos hp, List.filter_nil]; rfl
    · rw [e, List.filter_append, List.map_append, List.filter_cons_of_neg (by rw [hp]; exact Bool.false_ne_true), List.filter_nil]; simp
  · obtain ⟨rfl, rfl⟩ := hI
    rw [List.length_map, List.take_length]
    exact q
  )
theorem comp_mm {α : Type} {g : α → PyData} {xs : List α} {vs : List Nat} {tg : TGd} {te : TD} {c1 : Ctx} {Q : List PyData → Ctx → Prop} (f : α → PyData) (hl : xs.length ≤ sizeLine)
    (h : ∀ x ∈ xs, ∀ (N : PyData → Ctx → Prop), (∀ c, clr vs c = clr vs c1 → N (f x) c) → tg (g x) (clr vs c1) fun c2 => te c2 N)
    (q : Q (xs.map f) (Dl.rest c1 vs (clr2 vs (clr vs c1)))) : zComp vs tg bYes te (xs.map g) c1 Q := (by
  refine comp_fmm (fun _ => true) f hl (fun y hy N M hN _ => ?_) ?_
  · have := h y hy N (hN rfl)
    exact this
  · rw [List.filter_eq_self.mpr fun _ _ => rfl]
    exact q
  )
/-! ### == of data without truths -/
mutual
def nb : PyData → Bool
  | .none => true
  | .int _ => true
  | .str _ => true
  | .list ds => nbAll ds
  | .tuple ds => nbAll ds
  | .bool _ => false
  | .dict _ => false
def nbAll : List PyData → Bool
  | [] => true
  | x :: xs => nb x && nbAll xs
end
theorem nbAll_iff : ∀ {ds : List PyData}, nbAll ds = true ↔ ∀ d ∈ ds, nb d = true
  | [] => by simp [nbAll]
  | x :: xs => by
    rw [nbAll, Bool.and_eq_true, nbAll_iff]
    simp
theorem nb_list {ds : List PyData} : nb (.list ds) = true ↔ ∀ d ∈ ds, nb d = true := by rw [nb, nbAll_iff]
theorem nb_tuple {ds : List PyData} : nb (.tuple ds) = true ↔ ∀ d ∈ ds, nb d = true := by rw [nb, nbAll_iff]
mutual
theorem eqv_iff : ∀ (x y : PyData), nb x = true → nb y = true → (PyData.eqv x y = true ↔ x = y)
  | .none, y, _, hy => by cases y <;> simp [PyData.eqv]
  | .int i, y, _, hy => by cases y <;> simp [PyData.eqv] <;> simp [nb] at hy
  | .str i, y, _, hy => by cases y <;> simp [PyData.eqv]
  | .list xs, y, hx, hy => by
    cases y with
    | list ys => rw [eqv_list, eqvAll_iff xs ys hx hy]; simp
    | _ => simp [PyData.eqv]
  | .tuple xs, y, hx, hy => by
    cases y with
    | tuple ys => rw [eqv_tuple, eqvAll_iff xs ys hx hy]; simp
    | _ => simp [PyData.eqv]
  | .bool _, _, hx, _ => by simp [nb] at hx
  | .dict _, _, hx, _ => by simp [nb] at hx
theorem eqvAll_iff : ∀ (xs ys : List PyData), nbAll xs = true → nbAll ys = true → (PyData.eqvAll xs ys = true ↔ xs = ys)
  | [], ys, _, hy => by cases ys <;> simp [PyData.eqvAll]
  | x :: xs, ys, hx, hy => by
    cases ys with
    | nil => simp [PyData.eqvAll]
    | cons y ys =>
      rw [nbAll, Bool.and_eq_true] at hx hy
      rw [eqvAll_cons, Bool.and_eq_true, eqv_iff x y hx.1 hy.1, eqvAll_iff xs ys hx.2 hy.2]
      simp
end
noncomputable instance decPD : DecidableEq PyData := fun a b => Classical.propDecidable (a = b)
theorem eqv_dec {x y : PyData} (hx : nb x = true) (hy : nb y = true) : PyData.eqv x y = decide (x = y) := (by
  rw [Bool.eq_iff_iff, eqv_iff x y hx hy, decide_eq_true_eq]
  )
/-- data laid out, told apart, both at once: plain data, at most n deep -/
def Pl (n : Nat) (d : PyData) : Prop := Sh n d ∧ nb d = true
theorem pl_int {n : Nat} {i : Int} : Pl n (.int i) := ⟨sh_int.mpr trivial, rfl⟩
theorem pl_str {n : Nat} {w : Str} (h : PyData.strOk w = true) : Pl n (.str w) := ⟨sh_str.mpr h, rfl⟩
theorem pl_list {n : Nat} {ds : List PyData} (h : ∀ d ∈ ds, Pl n d) : Pl (n + 1) (.list ds) := ⟨sh_list.mpr fun d hd => (h d hd).1, nb_list.mpr fun d hd => (h d hd).2⟩
theorem pl_tuple {n : Nat} {ds : List PyData} (h : ∀ d ∈ ds, Pl n d) : Pl (n + 1) (.tuple ds) := ⟨sh_tuple.mpr fun d hd => (h d hd).1, nb_tuple.mpr fun d hd => (h d hd).2⟩
theorem pl_map {α : Type} {f : α → PyData} {n : Nat} {xs : List α} (h : ∀ x ∈ xs, Pl n (f x)) : Pl (n + 1) (.list (xs.map f)) := pl_list fun d hd => by
  obtain ⟨x, hx, rfl⟩ := List.mem_map.mp hd
  exact h x hx
theorem pl_t3 {n : Nat} {x y z : PyData} (h1 : Pl n x) (h2 : Pl n y) (h3 : Pl n z) : Pl (n + 1) (.tuple [x, y, z]) := pl_tuple fun d hd => by
  simp at hd; rcases hd with rfl | rfl | rfl <;> assumption
theorem Pl.mono {n m : Nat} {d : PyData} (h : Pl n d) (hm : n ≤ m) : Pl m d := ⟨h.1.mono hm, h.2⟩
theorem Pl.sh {n : Nat} {d : PyData} (h : Pl n d) (hm : n ≤ 64 := by decide) : Sh 64 d := h.1.mono hm
theorem Pl.eqv {n m : Nat} {x y : PyData} (hx : Pl n x) (hy : Pl m y) : PyData.eqv x y = decide (x = y) := eqv_dec hx.2 hy.2
theorem Pl.self {n : Nat} {x : PyData} (hx : Pl n x) : PyData.eqv x x = true := by rw [hx.eqv hx]; simp
end Dl

/-! Likenings: rows of n and m places, p the points of two places. -/
namespace Dl
/-- the greatest worth, a and b places left -/
def wR (p : Nat → Nat → Int) (n m : Nat) : Nat → Nat → Int
  | 0, _ => 0
  | _ + 1, 0 => 0
  | a + 1, b + 1 => if 0 < p (n - (a + 1)) (m - (b + 1)) then max (max (wR p n m a (b + 1)) (wR p n m (a + 1) b)) (p (n - (a + 1)) (m - (b + 1)) + wR p n m a b) else max (wR p n m a (b + 1)) (wR p n m (a + 1) b)
termination_by a b => a + b
/-- .. from the places i and j on -/
def wN (p : Nat → Nat → Int) (n m i j : Nat) : Int := wR p n m (n - i) (m - j)
section
variable {p : Nat → Nat → Int} {n m : Nat}
/-- a pair with which the worth is kept -/
def Keeps (p : Nat → Nat → Int) (n m i j a b : Nat) : Prop := i ≤ a ∧ a < n ∧ j ≤ b ∧ b < m ∧ 0 < p a b ∧ p a b + wN p n m (a + 1) (b + 1) = wN p n m i j
/-- the first one -/
structure IsFst (p : Nat → Nat → Int) (n m i j a b : Nat) : Prop where
  keeps : Keeps p n m i j a b
  first : ∀ a' b', Keeps p n m i j a' b' → a < a' ∨ (a = a' ∧ b ≤ b')
/-- the first likening of the greatest worth -/
inductive IsLik (p : Nat → Nat → Int) (n m : Nat) : Nat → Nat → List (Nat × Nat) → Prop
  | nil {i j : Nat} : ¬ 0 < wN p n m i j → IsLik p n m i j []
  | cons {i j a b : Nat} {ps : List (Nat × Nat)} : 0 < wN p n m i j → IsFst p n m i j a b → IsLik p n m (a + 1) (b + 1) ps → IsLik p n m i j ((a, b) :: ps)
theorem IsLik.few : ∀ {ps : List (Nat × Nat)} {i j : Nat}, IsLik p n m i j ps → ps.length ≤ n - i ∧ ∀ q ∈ ps, i ≤ q.1 ∧ q.1 < n ∧ j ≤ q.2 ∧ q.2 < m
  | [], _, _, _ => ⟨Nat.zero_le _, fun q hq => absurd hq List.not_mem_nil⟩
  | (a, b) :: ps, i, j, h => by
    cases h with
    | cons _ h1 h2 =>
      obtain ⟨k1, k2, k3, k4, _⟩ := h1.keeps
      obtain ⟨g1, g2⟩ := IsLik.few h2
      refine ⟨by rw [List.length_cons]; omega, fun q hq => ?_⟩
      rcases List.mem_cons.mp hq with rfl | hq
      · exact ⟨k1, k2, k3, k4⟩
      · have := g2 q hq
        omega
end

/-! ### likes, points, tables -/
open PySem PySem.Spec PyProof.Rows L2
/-- a like; its data -/
abbrev Lk3 := Str × Str × Int
def lkD (l : Lk3) : PyData := .tuple [.str l.1, .str l.2.1, .int l.2.2]
def LksOk (ls : List Lk3) : Prop := ∀ l ∈ ls, PyData.strOk l.1 = true ∧ PyData.strOk l.2.1 = true ∧ 1 ≤ l.2.2 ∧ l.2.2 ≤ 9
theorem getD_at {r : List Str} {a : Int} (h0 : 0 ≤ a) (h1 : a < r.length) : (∃ w ∈ r, w = r.getD a.toNat "") ∧ ∀ {Q : PyData → Prop}, Q (.str (r.getD a.toNat "")) → atD (r.map PyData.str) a Q := (by
  have hk : a.toNat < r.length := by omega
  have e : r.getD a.toNat "" = r[a.toNat] := by rw [List.getD_eq_getElem?_getD, List.getElem?_eq_getElem hk]; rfl
  rw [e]
  refine ⟨⟨_, List.getElem_mem hk, rfl⟩, fun {Q} q => ?_⟩
  rw [show a = ((a.toNat : Nat) : Int) by omega]
  exact atD_map (List.getElem?_eq_getElem hk) q
  )
end Dl

/-! Less of data. -/
namespace Dl
open PySem PySem.Spec PyProof.Rows L2
/-! ### zip of lists, of tuples -/
/-! ### none is worth more -/
section
variable {p : Nat → Nat → Int} {n m : Nat}
end
end Dl

/-! Lists of lists: seen by a call; each list of one appended to in a loop. -/
namespace Dl
open PySem PySem.Spec PyProof.Rows L2
section
variable {K : PySem.W.Frag} {B : Base} {G H : Hp} {c : Ctx} {s : L2.St}
end
section
variable {x : PyData} {y : S} {w : Option Lt} {ds : List PyData} {dss : List (List PyData)} {c : Ctx} {i : Nat} {Q : PyData → Prop}
end
section
variable {K : PySem.W.Frag} {B : Base} {G H : Hp} {c : Ctx} {s : L2.St}
theorem ownLs_dp (e : Same G H) {ps : List Addr} {dss : List (List PyData)} (h : OwnLs K G H ps dss) : DpAll K H (ps.map V.ref) (dss.map PyData.list) := (by
  induction h with
  | nil => exact .nil
  | cons h1 h2 _ ih => exact .cons (.lst (SqL.of h1) (dpa_mono e _ _ h2)) ih
  )
end
section
variable {c : Ctx} {as : List Arg} {x : PyData} {j : Nat} {Q : List PyData → Prop}
end
section
variable {X : Cx} {e : Expr} {es : List Expr} {t tr : TAr} {x : Str} {k : Nat} {ps : List Str} {T : TF} {p pos : Pos}
end
section
variable {X : Cx}
theorem pi_listN {tg e : Expr} {tp : TE} (p : PE X e tp) : PI X tg e (fun σ H R => tp σ H fun x H1 => ∃ a, x = .ref a ∧ (∃ xs, SqL X.K H1 a xs) ∧ R (Itl X.K a) H1) := (by
  refine PI.mk fun pins st s H R I h => ?_
  refine thn (p.run pins st s H _ I h) fun u s1 ⟨x, H1, I1, r1, q1⟩ => ?_
  obtain ⟨a, rfl, ⟨xs, hq⟩, q⟩ := q1
  cases r1
  obtain ⟨its, rv, pl, hz⟩ := I1.list hq
  refine wpAny_pyIter_list pl.isList ?_
  refine ⟨s1.heap.objs.size, [s1.heap.objs.size], _, _, H1, rfl, I1.kept (t' := s1.toks) fun b o e => Heap.get?_push_of_some _ e, turn_list a _, ⟨_, Heap.get?_push_size _ rfl, rfl, rfl⟩, fun b hb => ?_, q⟩
  obtain rfl : b = s1.heap.objs.size := by simpa using hb
  exact I1.fpOk (Nat.le_refl _) (I1.hok.fresh (Nat.le_refl _))
  )
end
section
variable {K : PySem.W.Frag} {B : Base} {G H : Hp} {c : Ctx} {s : L2.St}
theorem Stt.lent (st : Stt K B c s G H) {j : Nat} {u : Lt} {R : Res} (e : c[j]? = some (.o (some u) R)) : s[j]? = some (some u.v) := (by
  obtain ⟨A, r, w⟩ := st.ex
  obtain ⟨v, A1, h1, h2, h3, _⟩ := r.focus w.nd e
  have : v = u.v := h3.1
  rw [← this]; exact h1
  )
end
section
variable {X : Cx} {pos : Pos}
end
end Dl

/-! sorted of a tuple of texts; sorted texts are one list. -/
namespace PyProof.Rows
open PySem PySem.Spec
section
variable {prog : Program} {w : World} {A : Around} {E : Value → Shared → Prop} {s : Shared}
theorem collect_tuple {l : Addr} {vs : List Value} {Q : List Value → Shared → Prop} (hl : s.heap.IsTuple l vs.toArray)
    (h : Q vs { s with heap := (s.heap.push (seqObj "list" #[] 0)).update s.heap.objs.size (Obj.mapSeq (· ++ vs.toArray)) }) (hsz : vs.length ≤ sizeLine) :
    wpAny (model prog w) A (collect (.ref l)) Q E s := (by
  obtain ⟨o, ho, hc, n, hd⟩ := id hl
  unfold collect
  refine wpAny_bind (wpAny_runValue (codeAny_builtin entry_proto_collect' ?_))
  show wpAny _ _ (do again (.builtin "list.__iadd__" ⟨[← newList [], .ref l], []⟩)) _ _ s
  refine wpAny_bind (wpAny_newList (wpAny_pure ⟨Code.quiet_builtin _ (by decide +kernel), codeAny_builtin entry_list_iadd' ?_⟩))
  show wpAny _ _ (Builtin.List.listExtendWith (.ref s.heap.objs.size) (.ref l) (.ref s.heap.objs.size)) _ _ { s with heap := s.heap.push (seqObj "list" #[] 0) }
  unfold Builtin.List.listExtendWith
  have ho' : (s.heap.push (seqObj "list" #[] 0)).get? l = some o := Heap.get?_push_of_some _ ho
  refine wpAny_bind (wpAny_typeOf (T := "tuple") ⟨o, ho', hc⟩ ?_)
  have ht : (Value.type "tuple" == Value.type "tuple") = true := by rfl
  rw [if_pos (by rw [ht]; simp)]
  refine wpAny_bind (listItems_at ho' hd ?_)
  refine wpAny_bind (listItems_at (xs := #[]) (n := 0) (Heap.get?_push_size _ rfl) rfl ?_)
  rw [if_neg (by simp)]
  refine wpAny_bind (listUpdate_at (xs := #[]) (n := 0) (Heap.get?_push_size _ rfl) rfl ?_ (Nat.zero_le _) (by show (#[] ++ vs.toArray).size ≤ sizeLine + 1; simp only [Array.size_append, List.size_toArray, List.length_nil]; omega))
  refine wpAny_pure ?_
  show wpAny (model prog w) A (do
      let o ← load s.heap.objs.size
      match o.data with
      | .seq xs _ => pure xs.toList
      | _ => unsupported "internal:collect") Q E { s with heap := (s.heap.push (seqObj "list" #[] 0)).update s.heap.objs.size (Obj.mapSeq (· ++ vs.toArray)) }
  refine wpAny_bind (wpAny_load (get?_update_seq (Heap.get?_push_size _ rfl) _) ?_)
  show wpAny _ _ (pure ((#[] : Array Value) ++ vs.toArray).toList) Q E _
  rw [show ((#[] : Array Value) ++ vs.toArray).toList = vs by simp]
  exact wpAny_pure h
  )
theorem sortedKT {κ : KeyKind} (hO : κ.OneLt) {l : Addr} {vs : List Value} {Q : Value → Shared → Prop} (hl : s.heap.IsTuple l vs.toArray) (h0 : KeysOf κ (pairsOf vs)) (hkk : ∀ v₁ v₂ rest, vs = v₁ :: v₂ :: rest → keyKind' (v₁ :: v₂ :: rest).toArray = pure oneType') (h64 : vs.length < 64)
    (h : ∀ st' : SortSt, (arrOf st').Perm (pairsOf vs) → SortedToK κ (arrOf st') (pairsOf vs).size → Q (.ref (s.heap.objs.size + 1)) { s with heap := sortedAll s.heap vs ((arrOf st').map (·.2)) }) :
    wpAny (model prog w) A (call (.builtin "sorted") [.ref l]) Q E s := (by
  have hL : vs.length ≤ sizeLine := by rw [sizeLine_eq]; omega
  refine Calls.call_function_entry kind_sorted plain_sorted entry_sorted (args_sorted1 _) ?_
  unfold Builtin.«sorted»
  refine wpAny_bind (m := checkCount "sorted" 1 1 _) (wpAny_pure ?_)
  refine wpAny_bind (collect_tuple hl ?_ hL)
  refine wpAny_bind (wpAny_newList ?_)
  have hsz : ((s.heap.push (seqObj "list" #[] 0)).update s.heap.objs.size (Obj.mapSeq (· ++ vs.toArray))).objs.size = s.heap.objs.size + 1 := by
    rw [Heap.size_update, size_push']
  have hoL : (((s.heap.push (seqObj "list" #[] 0)).update s.heap.objs.size (Obj.mapSeq (· ++ vs.toArray))).push (seqObj "list" vs.toArray 0)).get? (s.heap.objs.size + 1) = some (seqObj "list" vs.toArray 0) := by
    rw [← hsz]; exact Heap.get?_push_size _ rfl
  show wpAny _ _ _ _ _ { s with heap := ((s.heap.push (seqObj "list" #[] 0)).update s.heap.objs.size (Obj.mapSeq (· ++ vs.toArray))).push (seqObj "list" vs.toArray 0) }
  rw [hsz]
  refine wpAny_bind (wpAny_holding (wpAny_call_entry slot_list_sort ⟨_, hoL, rfl⟩ entry_list_sort (list_sort_treeK hO hoL h0 hkk h64 fun st' a1 a2 => ⟨_, rfl, ?_⟩) (args_list_sort _)))
  exact wpAny_pure ⟨_, rfl, h st' a1 a2⟩
  )
theorem sorted_strsT {l : Addr} {vs : List Value} {ss : List Str} {Q : Value → Shared → Prop} (hl : s.heap.IsTuple l vs.toArray) (hS : StrsAre vs ss) (h64 : vs.length < 64)
    (h : ∀ (out : Array Value) (ss' : List Str), StrsAre out.toList ss' → ss'.Perm ss → sortedS ss' = true → Q (.ref (s.heap.objs.size + 1)) { s with heap := sortedAll s.heap vs out }) :
    wpAny (model prog w) A (call (.builtin "sorted") [.ref l]) Q E s := (by
  refine sortedKT strKind_oneLt hl hS.keysOf (fun v₁ v₂ rest e => keyKind_strs (by rw [← e]; exact hS)) h64 fun st' hp hs => ?_
  obtain ⟨ss', h1, h2, h3⟩ := sorted_out_str hS hp hs
  exact h _ ss' h1 h2 h3
  )
end
end PyProof.Rows
namespace Dl
open PySem PySem.Spec PyProof.Rows L2
def rSortedST (K : PySem.W.Frag) : List V → Hp → VK → Prop := fun vs H Q => ∃ (a : Addr) (ns : List Str), vs = [V.ref a] ∧ SqT K H a (ns.map V.str) ∧ ns.length < 64 ∧
  ∀ (ns' : List Str) (l : Addr), ns'.Perm ns → sortedS ns' = true → H l = none → Q (.ref l) (upd H l (.lst (ns'.map V.str)))
theorem cr_sortedST {X : Cx} : CallR X (.builtin "sorted") (rSortedST X.K) := (by
  intro pins s σ H vs us Q I r h
  obtain ⟨a, xs, rfl, hs, h64, q⟩ := h
  obtain ⟨its, rv, hl, _⟩ := I.tuple hs
  rw [Vals.ref1 r]
  have hlen0 := rv.length
  rw [List.length_map] at hlen0
  refine PyProof.Rows.sorted_strsT hl rv.strs (by rw [← hlen0]; exact h64) fun out ys h1 h2 h3 => ?_
  obtain ⟨ep, he'⟩ := PyProof.Rows.sortedAll_at s.heap its out
  have hlen : (ys.map V.str).length ≤ sizeLine := by rw [List.length_map, h2.length_eq, sizeLine_eq]; omega
  exact ⟨.ref _, upd H (s.heap.objs.size + 1) (.lst (ys.map V.str)), I.laid (t' := s.toks) (fun _ _ => PyProof.Rows.sortedAll_old) (Nat.le_succ _) ⟨hlen, out.toList, ep, vals_of_strs h1, he'⟩, rfl, q ys _ h2 h3 (I.hok.fresh (Nat.le_succ _))⟩
  )
section
variable {X : Cx} {a : Expr} {ta : TD} {p pos : Pos}
def fSortST : PyData → (Res → Prop) → Prop := fun x Q => asT x fun ds => asSs ds fun ns => ns.length < 64 ∧ ∀ ns' : List Str, ns'.Perm ns → sortedS ns' = true → Q (.lst (ns'.map PyData.str))
theorem o_sortST (hm : X.mg "sorted" = none) (ha : DV X a ta) (hg : Gl X "sorted" := by rfl) (he : starEach [a] X.env = (false, eval a X.env) :: starEach [] X.env := by rfl) (hpl : (backTo pos (starEach [] X.env)).any (·.1) = false := by rfl) : DO X (.Call (.Name "sorted" p) [a] [] pos) (o1 fSortST ta) := (by
  refine o_oneB cr_sortedST (fun B c s G H v x Q R st d h k => ?_) hm (by decide +kernel) ha hg (by decide) (by decide) he hpl
  obtain ⟨ds, rfl, ns, rfl, hl, q⟩ := asT_of h
  obtain ⟨p, us, rfl, h1, h2⟩ := dp_tup (d.oth fun _ z => nomatch z)
  have := dpa_strs_inv h2
  subst this
  exact ⟨p, ns, rfl, same_t st.sub h1, hl, fun ns' l h1 h2 hn => k _ _ _ _ (st.laidL hn (dpa_strs ns')) (Same.refl _) (q ns' h1 h2)⟩
  )
end
/-! ### [elt for tg in xs if ..], xs a list of one's own -/
def zCompJ (j : Nat) (w : Option Lt) (vs : List Nat) (tg : TGd) (tt : TB) (te : TD) (ys : List PyData) (c1 : Ctx) (Q : List PyData → Ctx → Prop) : Prop := ∃ I : Nat → List PyData → Ctx → Prop, I 0 [] (clr vs c1) ∧ (∀ i acc c, I i acc c → c[j]? = some (.o w (.lst ys))) ∧
  (∀ i y acc c, ys[i]? = some y → I i acc c → tg y c fun c2 => tt c2 fun b c3 => if b = true then te c3 fun x c4 => acc.length < sizeLine ∧ I (i + 1) (acc ++ [x]) (clr vs c4) else I (i + 1) acc (clr vs c3)) ∧
  ∀ acc c, I ys.length acc c → Q acc (Dl.rest c1 vs (clr2 vs c))
def oLcN (j : Nat) (vs : List Nat) (tg : TGd) (tt : TB) (te : TD) : TR := fun c Q => slO c j fun w R => asR R fun ys => zCompJ j w vs tg tt te ys c fun acc c2 => Q (.lst acc) c2
section
variable {X : Cx}
theorem lc_vN {K : PySem.W.Frag} {j : Nat} {tp : TE} {tg : TGd} {tt : TB} {te : TD} {js vs : List Nat} (htp : ∀ (s : L2.St) (H : Hp) (R : VK) (v : V), s[j]? = some (some v) → R v H → tp s H R) (hj : ∀ j ∈ js, j ∈ vs) (hjv : j ∉ vs) :
    DOv K (tLc (fun σ H R => tp σ H fun x H1 => ∃ a, x = .ref a ∧ (∃ xs, SqL K H1 a xs) ∧ R (Itl K a) H1) (rdG K js tg) (rdT K tt) (rdE K te) vs) (oLcN j vs tg tt te) := (by
  intro B c s G H Q R st q k
  obtain ⟨w, R0, e0, q⟩ := slO_of q
  obtain ⟨ys, rfl, I, i0, hI0, turn, fin⟩ := asR_of q
  obtain ⟨p, xs, e1, h1, h2, _⟩ := st.own e0
  refine htp _ _ _ _ e1 ⟨p, rfl, ⟨_, SqL.of h1⟩, ?_⟩
  intro D hD
  have cur : ∀ {i acc c' G' H'}, I i acc c' → Stt K B (.o none (.lst acc) :: c') (some (.ref D) :: L2.wipe s vs) G' H' → ∃ xs', H' p = some (.lst xs') ∧ DpAll K G' xs' ys := fun {i acc c' G' H'} hI st' => by
    obtain ⟨p', xs', e3, h3, h4, _⟩ := st'.own (j := j + 1) (wo := w) (ds := ys) (by rw [List.getElem?_cons_succ]; exact hI0 i acc c' hI)
    rw [List.getElem?_cons_succ, wipe_out hjv, e1] at e3
    cases e3
    exact ⟨xs', h3, h4⟩
  refine ⟨fun i m H => m = ys.length - i ∧ i ≤ ys.length ∧ ∃ acc c' G', Stt K B (.o none (.lst acc) :: c') (some (.ref D) :: L2.wipe s vs) G' H ∧ Same G G' ∧ I i acc c', ⟨ys.length, by simp, Nat.zero_le _, [], _, G, (st.wipe vs).laidL hD .nil, Same.refl _, i0⟩, ?_⟩
  rintro i m H2 ⟨rfl, hi, acc, c', G', st', e', hI⟩
  obtain ⟨xs', h3, h4⟩ := cur hI st'
  have hl := dpa_len h4
  by_cases hlt : i < ys.length
  · obtain ⟨x0, hx0, dx⟩ := dpa_get h4 (List.getElem?_eq_getElem hlt)
    refine .inr ⟨⟨_, x0, SqL.of h3, hx0⟩, fun H3 => ∃ acc c' G', Stt K B (.o none (.lst acc) :: c') (some (.ref D) :: L2.wipe s vs) G' H3 ∧ Same G G' ∧ I (i + 1) acc c', fun H3 ⟨a3, c3, G3, st3, e3, i3⟩ => ⟨ys.length - (i + 1), by omega, rfl, hlt, a3, c3, G3, st3, e3, i3⟩, fun x H3 hy => ?_⟩
    obtain ⟨rfl, hz⟩ := hy
    have := hz _ (SqL.of h3)
    rw [hx0] at this
    cases this
    obtain ⟨D', us, B', hv, hDl, hacc, stU, back⟩ := st'.under
    cases hv
    refine ⟨B', c', G', ys[i], _, stU, dx, turn i ys[i] acc c' (List.getElem?_eq_getElem hlt) hI, fun c3 s3 st3 but q3 => ⟨But.wipe but hj, ?_⟩⟩
    have hw : L2.wipe s3 vs = L2.wipe s vs := But.wipe but hj
    refine ⟨B', c3, G', _, st3, q3, fun b c4 G4 H4 st4 e4 q4 => ?_⟩
    cases b with
    | false =>
      rw [if_neg Bool.false_ne_true] at q4 ⊢
      obtain ⟨e5, _, st5, _⟩ := back _ _ _ _ (st4.wipe vs)
      rw [hw] at st5
      exact ⟨acc, _, G4, st5, e'.trans e5, q4⟩
    | true =>
      rw [if_pos rfl] at q4 ⊢
      refine ⟨B', c4, G4, _, st4, q4, fun z d c5 G5 H5 st5 e5 dz q5 => ?_⟩
      obtain ⟨e6, hD6, _, up6⟩ := back _ _ _ _ (st5.wipe vs)
      have hl := dpa_len hacc
      have st7 := up6 (us ++ [z]) (acc ++ [d]) (dpa_app (dpa_mono e6 _ _ hacc) (.cons dz .nil))
      rw [hw] at st7
      exact ⟨us, hD6, by rw [hl]; exact q5.1, acc ++ [d], _, G5, st7, e'.trans e6, q5.2⟩
  · have e : i = ys.length := by omega
    subst e
    refine .inl ⟨⟨_, SqL.of h3, by omega⟩, ?_⟩
    exact k (.ref D) (.lst acc) _ G' H2 (Stt.rest st e' (Stt.unwipe st')) e' (fin acc c' hI)
  )
variable {elt tg : Expr} {ifs : List Expr} {scope : Scope} {pos px : Pos} {g : TGd} {tt : TB} {te : TD} {js : List Nat} {x : Str}
theorem o_lcN (j : Nat) (own : List (Str × Nat)) (hc : X.calm = true) (hN : X.N.Nodup) (ok : blkC X.N X.env.scope scope own = true)
    (hg : ∀ (s : Shared) (H : Hp) (C : Addr) (cl : List (Str × Addr)) (fp : List Addr), DG (X.blk s H scope (compEnvC scope cl C X.env) fp) tg js g) (ht : ∀ (s : Shared) (H : Hp) (C : Addr) (cl : List (Str × Addr)) (fp : List Addr), DTs (X.blk s H scope (compEnvC scope cl C X.env) fp) ifs tt)
    (he : ∀ (s : Shared) (H : Hp) (C : Addr) (cl : List (Str × Addr)) (fp : List Addr), DE (X.blk s H scope (compEnvC scope cl C X.env) fp) elt te) (hj : ∀ j ∈ js, j ∈ own.map (·.2)) (hjv : j ∉ own.map (·.2) := by decide)
    (hNj : X.N[j]? = some x := by rfl) (hv : Vis X.env.scope x := by first | exact Or.inl rfl | exact Or.inr (Or.inl rfl) | exact Or.inr (Or.inr rfl)) (hd : (x == ("__debug__" : Str)) = false := by decide)
    (hcd : (x == ("__classdict__" : Str)) = false := by decide) (hs : ∀ z, foldedSetIterable (.Name x px) X.env z = pure z := by intro _; rfl) :
    DO X (.ListComp elt [⟨tg, .Name x px, ifs, 0⟩] scope pos) (oLcN j (own.map (·.2)) g tt te) :=
  ⟨_, pe_lc (g := rdG X.K js g) (tt := rdT X.K tt) (te := rdE X.K te) hc hN (pi_listN (pe_var hNj hv hd hcd)) (blkOk_by ok) (fun s H C cl fp => (hg s H C cl fp).pg) (fun s H C cl fp => (ht s H C cl fp).pt) (fun s H C cl fp => (he s H C cl fp).pe) hs, lc_vN (fun _ _ _ v e r => ⟨v, e, r⟩) hj hjv⟩
theorem compJ_mm {α : Type} {f0 : α → PyData} {zs : List α} {j : Nat} {w : Option Lt} {vs : List Nat} {tg : TGd} {te : TD} {c1 : Ctx} {Q : List PyData → Ctx → Prop} (f : α → PyData) (hl : zs.length ≤ sizeLine) (hjc : (clr vs c1)[j]? = some (.o w (.lst (zs.map f0))))
    (h : ∀ z ∈ zs, ∀ (N : PyData → Ctx → Prop), (∀ c, clr vs c = clr vs c1 → N (f z) c) → tg (f0 z) (clr vs c1) fun c2 => te c2 N)
    (q : Q (zs.map f) (Dl.rest c1 vs (clr2 vs (clr vs c1)))) : zCompJ j w vs tg bYes te (zs.map f0) c1 Q := (by
  refine ⟨fun i acc c => c = clr vs c1 ∧ acc = (zs.take i).map f, ⟨rfl, by simp⟩, fun i acc c hI => by rw [hI.1]; exact hjc, fun i y acc c hy hI => ?_, fun acc c hI => ?_⟩
  · obtain ⟨rfl, rfl⟩ := hI
    obtain ⟨z, hz, rfl⟩ := map_get hy
    have hi := get_lt hz
    refine h z (get_mem hz) (fun x c4 => ((zs.take i).map f).length < sizeLine ∧ (clr vs c4 = clr vs c1 ∧ (zs.take i).map f ++ [x] = (zs.take (i + 1)).map f)) fun c hc => ⟨?_, hc, ?_⟩
    · rw [List.length_map, List.length_take]; omega
    · exact (take_map hz).symm
  · obtain ⟨rfl, rfl⟩ := hI
    rw [List.length_map, List.take_length]
    exact q
  )
end
end Dl

/-! sorted of tuples of numbers and texts that differ where their kinds do. -/
namespace SrtT
open PySem PySem.Spec PyProof.Rows SrtO PySem.W
section
variable {prog : Program} {w : World} {A : Around} {E : Value → Shared → Prop} {s : Shared}
/-- a tuple of the heap -/
def TupAt (h : Heap) (v : Value) (xs : List Value) : Prop := ∃ a o its n, v = .ref a ∧ h.get? a = some o ∧ o.cls = .type "tuple" ∧ o.data = .seq its n ∧ its.toList = xs
theorem TupAt.keeps {h h' : Heap} {v : Value} {xs : List Value} (p : TupAt h v xs) (k : ∀ b o, h.get? b = some o → o.cls = .type "tuple" → h'.get? b = some o) : TupAt h' v xs := (by
  obtain ⟨a, o, its, n, e, ho, hc, hd, hx⟩ := p
  exact ⟨a, o, its, n, e, k _ _ ho hc, hc, hd, hx⟩
  )
end
end SrtT
namespace Dl
open PySem PySem.Spec PyProof.Rows L2
/-- a number or a text -/
def isAt : PyData → Prop
  | .int _ => True
  | .str _ => True
  | _ => False
def vAt : PyData → V
  | .int n => .int n
  | .str x => .str x
  | _ => .non
section
variable {X : Cx} {a : Expr} {ta : TD} {p pos : Pos}
theorem dpa_at {K : PySem.W.Frag} {G : Hp} : ∀ {es : List PyData} {vs : List V}, (∀ e ∈ es, isAt e) → DpAll K G vs es → vs = es.map vAt
  | [], _, _, h => by cases h; rfl
  | e :: es, _, ha, h => by
    cases h with
    | cons h1 h2 =>
      have := ha e List.mem_cons_self
      rw [dpa_at (fun z hz => ha z (List.mem_cons_of_mem _ hz)) h2]
      cases e with
      | int n => rw [dp_int h1]; rfl
      | str n => rw [dp_str h1]; rfl
      | _ => exact this.elim
end
end Dl

/-! Tuples: one behind another, so many times; a text that the top names. -/
namespace L2
open PySem PySem.Spec PyProof.Rows
section
variable {X : Cx}
end
end L2
namespace Dl
open PySem PySem.Spec PyProof.Rows L2
section
variable {X : Cx} {a b : Expr} {ta tb : TD} {pos : Pos} {x : Str}
/-- + of numbers, of texts, of tuples -/
def fAddA : PyData → PyData → (PyData → Prop) → Prop := fun x y Q => match x with
  | .int i => asI y fun j => Q (.int (i + j))
  | .str i => asS y fun j => i.length + j.length ≤ sizeLine ∧ Q (.str (i ++ j))
  | .tuple ds => asT y fun es => ds.length + es.length ≤ sizeLine ∧ Q (.tuple (ds ++ es))
  | _ => False
theorem fAddA_i {i j : Int} {Q : PyData → Prop} : fAddA (.int i) (.int j) Q = Q (.int (i + j)) := id rfl
theorem fAddA_s {i j : Str} {Q : PyData → Prop} : fAddA (.str i) (.str j) Q = (i.length + j.length ≤ sizeLine ∧ Q (.str (i ++ j))) := id rfl
theorem fAddA_t {i j : List PyData} {Q : PyData → Prop} : fAddA (.tuple i) (.tuple j) Q = (i.length + j.length ≤ sizeLine ∧ Q (.tuple (i ++ j))) := id rfl
theorem d_addA (ha : DE X a ta) (hb : DE X b tb) : DE X (.BinOp a .Add b pos) (u2 fAddA ta tb) := (by
  refine d_op (OpR.or2 (OpR.or2 op_add op_add_str) op_catA) (fun B c s G H x y a b Q R st dx dy h k => ?_) ha hb
  cases a with
  | int i =>
    obtain ⟨j, rfl, q⟩ := asI_of h
    exact .inl (.inl ⟨i, j, dp_int dx, dp_int dy, k _ _ G H st (Same.refl _) (.int _) q⟩)
  | str i =>
    obtain ⟨j, rfl, hl, q⟩ := asS_of h
    exact .inl (.inr ⟨i, j, dp_str dx, dp_str dy, hl, k _ _ G H st (Same.refl _) (.str _) q⟩)
  | tuple ds =>
    obtain ⟨es, rfl, hl, q⟩ := asT_of h
    obtain ⟨t, vs, rfl, g1, g2⟩ := dp_tup dx
    obtain ⟨u, ws, rfl, g3, g4⟩ := dp_tup dy
    have l1 := dpa_len g2
    have l2 := dpa_len g4
    refine .inr ⟨t, u, vs, ws, rfl, rfl, same_t st.sub g1, same_t st.sub g3, by omega, fun z => ?_, fun _ z => ?_, fun _ _ p hp => ?_⟩
    · subst z
      have : ds = [] := List.eq_nil_of_length_eq_zero l1.symm
      subst this
      exact k _ _ G H st (Same.refl _) dy q
    · subst z
      have : es = [] := List.eq_nil_of_length_eq_zero l2.symm
      subst this
      rw [List.append_nil] at q
      exact k _ _ G H st (Same.refl _) dx q
    · obtain ⟨st2, e2⟩ := st.laid (o := .tup (vs ++ ws)) hp
      exact k _ _ _ _ st2 e2 (.tup (.inl (.inl upd_same)) (dpa_mono e2 _ _ (dpa_app g2 g4))) q
  | none => exact h.elim
  | bool _ => exact h.elim
  | list _ => exact h.elim
  | dict _ => exact h.elim
  )
/-- a text that the top names -/
theorem d_globS {z : Str} (hc : ∃ t, X.mg x = some (.str z t)) (hg : Gl X x := by rfl) (hd : (x == ("__debug__" : Str)) = false := by decide) : DE X (.Name x pos) (uC (.str z)) := (by
  obtain ⟨t, hc⟩ := hc
  exact ⟨_, pe_glob (v := .str z) hg hc ⟨t, rfl⟩ hd, fun _ c _ G H _ _ st h k => k _ _ c G H st (Same.refl _) (.str z) h⟩
  )
end
end Dl

/-! Defs that raise classes of the text; try around a call; the head's further facts. -/
namespace Dl
open PySem PySem.Spec PyProof.Rows L2
/-! ### further facts of the head -/
abbrev AlX : Type := He.AlD × List Bool
def obsX (fa : List He.Fa) (fn : List He.DefD) (xs : List (PySem.W.Frag → Bool)) (K : PySem.W.Frag) : AlX := (He.obsD fa fn K, xs.map fun t => t K)
def valX (fn : List He.DefD) (xs : List (PySem.W.Frag → Bool)) : AlX := (He.valD fn, xs.map fun _ => true)
def SaysX (fa : List He.Fa) (fn : List He.DefD) (xs : List (PySem.W.Frag → Bool)) (K : PySem.W.Frag) : Prop := obsX fa fn xs K = valX fn xs
section
variable {fa : List He.Fa} {fn : List He.DefD} {xs : List (PySem.W.Frag → Bool)} {K : PySem.W.Frag}
theorem SaysX.d (c : SaysX fa fn xs K) : He.SaysD fa fn K := congrArg (fun z : AlX => z.1) c
theorem SaysX.x (c : SaysX fa fn xs K) (i : Nat) {t : PySem.W.Frag → Bool} (h : xs[i]? = some t := by rfl) : t K = true := (by
  have e : xs.map (fun t => t K) = xs.map fun _ => true := congrArg (fun z : AlX => z.2) c
  have e2 : (xs.map fun t => t K)[i]? = (xs.map fun _ => true)[i]? := by rw [e]
  rw [List.getElem?_map, List.getElem?_map, h] at e2
  exact Option.some.inj e2
  )
end
/-- the class x is one whose instances isinstance asks rightly -/
def excB (x : Str) (K : PySem.W.Frag) : Bool :=
  decide (PySem.W.findIn K (.ref (He.ga K x)) "__getattribute__" = some (some (.builtin "BaseException.__getattribute__"))) && (decide (PySem.W.findIn K (.ref (He.ga K x)) "__getattr__" = some none) && (decide (PySem.W.subIn K (.ref (He.ga K x)) (.type "BaseException") = some true) && (PySem.W.hasDictIn K (He.ga K x) &&
  (decide (PySem.W.findIn K (.ref (He.ga K x)) "__class__" = some (some (.builtin "object.__class__"))) && (decide (PySem.W.specialIn K (.builtin "object.__class__") "__get__" = some (some (.builtin "getset_descriptor.__get__"))) && (decide (PySem.W.takesIn K (.builtin "object.__class__") = some true) && decide (PySem.W.mroIn K (He.ga K x) (.type "object") = some true)))))))
theorem excB_ok {x : Str} {K : PySem.W.Frag} (h : excB x K = true) : ExcC K (He.ga K x) := (by
  unfold excB at h
  simp only [Bool.and_eq_true, decide_eq_true_eq] at h
  obtain ⟨h1, h2, h3, h4, h5, h6, h7, h8⟩ := h
  exact ⟨h1, h2, h3, h4, h5, h6, h7, h8⟩
  )
/-- an instance of x is one of y -/
def kitB (x y : Str) (b : Bool) (K : PySem.W.Frag) : Bool := decide (PySem.W.kitOne K (.ref (He.ga K x)) (.ref (He.ga K y)) = some b)
def kitT (x : Str) (y : String) (b : Bool) (K : PySem.W.Frag) : Bool := decide (PySem.W.kitOne K (.ref (He.ga K x)) (.type y) = some b)
/-- what the text's class x is to a raise -/
structure ExF (K : PySem.W.Frag) (mg : Str → Option Value) (x : Str) : Prop where
  q : PySem.W.excIn K (He.ga K x) He.veBase "ValueError.__new__" = true
  g : mg x = some (.ref (He.ga K x))
  k : PySem.W.keepIn K (.ref (He.ga K x)) = true
  s : PySem.W.subIn K (.ref (He.ga K x)) (.type "BaseException") = some true
  t : PySem.W.typeIn K (.ref (He.ga K x)) = some (.type "type")
theorem exF_of {K : PySem.W.Frag} {h : Heap} {mg : Str → Option Value} (X : K.In h) (G : h.Ns mainGlobals mg) {x : Str} (c1 : (He.Fa.glo x).ok K = true) (c2 : (He.Fa.exc x).ok K = true) : ExF K mg x := (by
  obtain ⟨h1, h2, h3, h4⟩ := He.exc_ok c2
  exact ⟨h1, He.glo_ok X G c1, h2, h3, h4⟩
  )
/-! ### defs that raise -/
abbrev TFX := Ctx → (S → Ctx → Prop) → (Str → Prop) → Prop
def SpX (K : PySem.W.Frag) (T : TFX) : Sp := fun vs H Q E => ∃ (G : Hp) (io : List Addr) (a : Ctx) (Q1 : S → Ctx → Prop) (E1 : Str → Prop), Stt K ⟨H, G, io⟩ a (vs.map some) G H ∧ T a Q1 E1 ∧
  (∀ r c v s G' H', Stt K ⟨H, G, io⟩ (r :: c) (some v :: s) G' H' → Q1 r c → Q v H') ∧ (∀ x c s G' H', Stt K ⟨H, G, io⟩ c s G' H' → E1 x → E (.ref (He.ga K x)) none H')
abbrev TSX := (Str → Prop) → TSd
def DSvX (K : PySem.W.Frag) (Ex : XK) (ts : TS) (t : TSX) : Prop := ∀ (B : Base) (c : Ctx) (s : L2.St) (G H : Hp) (D : Ends) (E : De) (E1 : Str → Prop), Stt K B c s G H → Conn K B G D E →
  (∀ x c s G' H', Stt K B c s G' H' → Same G G' → E1 x → Ex (.ref (He.ga K x)) none H') → t E1 E c → ts D s H
structure DSX (X : Cx) (Ex : XK) (st : Stmt) (t : TSX) : Prop where
  ex : ∃ ts, PS X st ts ∧ DSvX X.K Ex ts t
structure DSsX (X : Cx) (Ex : XK) (st : List Stmt) (t : TSX) : Prop where
  ex : ∃ ts, PSs X st ts ∧ DSvX X.K Ex ts t
section
variable {X : Cx} {Ex : XK} {st : Stmt} {rest : List Stmt} {t u : TSX} {td : TSd} {e : Expr} {tb : TB} {pos : Pos}
theorem x_of (h : DS X st td) : DSX X Ex st (fun _ => td) := (by
  obtain ⟨ts, p, v⟩ := h.ex
  exact ⟨ts, p, fun B c s G H D E E1 st k _ q => v B c s G H D E st k q⟩
  )
theorem xs_of {l : List Stmt} (h : DSs X l td) : DSsX X Ex l (fun _ => td) := (by
  obtain ⟨ts, p, v⟩ := h.ex
  exact ⟨ts, p, fun B c s G H D E E1 st k _ q => v B c s G H D E st k q⟩
  )
def zSeqX (t u : TSX) : TSX := fun E1 => zSeq (t E1) (u E1)
theorem qx_one (h : DSX X Ex st t) : DSsX X Ex [st] t := let ⟨ts, p, v⟩ := h.ex; ⟨ts, pss_one p, v⟩
theorem qx_cons (h : DSX X Ex st t) (h2 : DSsX X Ex rest u) : DSsX X Ex (st :: rest) (zSeqX t u) := (by
  obtain ⟨ts, p, v⟩ := h.ex
  obtain ⟨ts2, p2, v2⟩ := h2.ex
  exact ⟨_, pss_cons p p2, fun B c s G H D E E1 st k hx q => v B c s G H _ { E with nx := u E1 E } E1 st ⟨fun c' s' G' H' st' e' q' => v2 B c' s' G' H' D E E1 st' (k.mono e') (fun x c s G2 H2 st2 e2 => hx x c s G2 H2 st2 (e'.trans e2)) q', k.rt, k.bk, k.ct⟩ hx q⟩
  )
def zIfX (tb : TB) (t u : TSX) : TSX := fun E1 => zIf tb (t E1) (u E1)
theorem s_ifX {a b : List Stmt} (hc : DT X e tb) (ha : DSsX X Ex a t) (hb : DSsX X Ex b u) : DSX X Ex (.If e a b pos) (zIfX tb t u) := (by
  obtain ⟨tp, p, v⟩ := hc.ex
  obtain ⟨t1, p1, v1⟩ := ha.ex
  obtain ⟨t2, p2, v2⟩ := hb.ex
  refine ⟨_, ps_if p p1 p2, fun B c s G H D E E1 st k hx q => v B c s G H _ _ st q fun b c1 G1 H1 st1 e1 q1 => ?_⟩
  have hx1 : ∀ x c s G' H', Stt X.K B c s G' H' → Same G1 G' → E1 x → Ex (.ref (He.ga X.K x)) none H' := fun x c s G2 H2 st2 e2 => hx x c s G2 H2 st2 (e1.trans e2)
  cases b with
  | true =>
    rw [if_pos rfl] at q1 ⊢
    exact v1 B c1 s G1 H1 D E E1 st1 (k.mono e1) hx1 q1
  | false =>
    rw [if_neg Bool.false_ne_true] at q1 ⊢
    exact v2 B c1 s G1 H1 D E E1 st1 (k.mono e1) hx1 q1
  )
/-- raise x('m') -/
def zRaise (x : Str) : TSX := fun E1 _ _ => E1 x
theorem s_raise {x m : Str} {j : Nat} {p p2 pos' : Pos} (hc : X.calm = true) (tk : Takes X fun cls d _ H => Ex cls d H) (F : ExF X.K X.mg x) (hg : Gl X x := by rfl) (hdb : (x == ("__debug__" : Str)) = false := by decide) :
    DSX X Ex (.Raise (some (.Call (.Name x p) [.Constant (.str m) j p2] [] pos)) none pos') (zRaise x) :=
  ⟨_, ps_raise hc tk (pmk_own PySem.F.excBase_ValueError F.q F.g F.k (raises_own F.s F.t) hg hdb), fun B c s G H D E E1 st k hx q => hx x c s G H st (Same.refl _) q⟩
end

/-- THE RULE for a def that may raise -/
theorem fn_dX {P : Program} {w : World} {K : PySem.W.Frag} {mg : Str → Option Value} {base : Heap} {x qual : Str} {st : Stmt} {f : Addr} {fd : FuncData} {N ps : List Str} {k : Nat} {T : TFX} {t : TSX} (F : Fun K x qual st f fd) (sc : FnScope N ps (defScope st))
    (hT : ∀ a Q E1, T a Q E1 → a.length = ps.length ∧ t E1 { nx := fun c => Q (.d .none) c, rt := Q } (a ++ List.replicate (N.length - ps.length) .no))
    (body : ∀ (cdv : Value) (A : Around) (outer : List Env) (s : Shared) (H : Hp) (E : XK), Room k (A.deeper (envOfC qual (defScope st) s.heap.objs.size f cdv)) →
      Takes (cxOf (L2.CX P w) P w K mg base N qual (defScope st) f cdv A outer s H E) (fun cls d _ H => E cls d H) → DSsX (cxOf (L2.CX P w) P w K mg base N qual (defScope st) f cdv A outer s H E) E (defBody st) t) : FnOk P w K mg base (L2.CX P w) (k + 1) f fd ps (SpX K T) := (by
  have hl : ∀ vs H Q E, SpX K T vs H Q E → vs.length = ps.length := fun vs H Q E h => by
    obtain ⟨G, io, a, Q1, E1, ⟨A, r, _⟩, h2, _⟩ := h
    have := r.len
    rw [List.length_map] at this
    rw [this]
    exact (hT a Q1 E1 h2).1
  refine F.okX sc hl (fun cdv A outer s H vs Q E hr h => ?_)
  obtain ⟨ts, p, v⟩ := (body cdv A outer s H E hr (takes_of rfl rfl rfl rfl)).ex
  refine ⟨ts, p, ?_⟩
  have lv := hl _ _ _ _ h
  obtain ⟨G, io, a, Q1, E1, ⟨A1, r, wd⟩, h2, h3, h4⟩ := h
  have st0 : Stt K ⟨H, G, io⟩ (a ++ List.replicate (N.length - ps.length) .no) (L2.start N vs) G H := by
    refine ⟨A1, ?_, wd⟩
    unfold L2.start
    rw [lv]
    exact reps_more r _
  exact v ⟨H, G, io⟩ _ _ G H _ { nx := fun c => Q1 (.d .none) c, rt := Q1 } E1 st0 ⟨fun c s' G' H' st' _ q => h3 (.d .none) c .non s' G' H' (st'.push_d .non) q, fun r c v s' G' H' st' _ q => h3 r c v s' G' H' st' q, fun _ _ _ _ _ _ q => q.elim, fun _ _ _ _ _ _ q => q.elim⟩ (fun x c s G' H' st' _ q => h4 x c s G' H' st' q) (hT a Q1 E1 h2).2
  )
/-- a def of the text that keeps its promise, and may raise -/
structure CalX (P : Program) (w : World) (K : PySem.W.Frag) (mg : Str → Option Value) (base : Heap) (x : Str) (k : Nat) (ps : List Str) (T : TFX) : Prop where
  ex : ∃ f fd, FnOk P w K mg base (L2.CX P w) k f fd ps (SpX K T) ∧ mg x = some (.ref f) ∧ PySem.W.keepIn K (.ref f) = true ∧ Binds K fd ps []
/-- .. called where it raises nothing -/
theorem CalX.cal {P : Program} {w : World} {K : PySem.W.Frag} {mg : Str → Option Value} {base : Heap} {x : Str} {k : Nat} {ps : List Str} {T : TFX} (C : CalX P w K mg base x k ps T) : Cal P w K mg base x k ps (fun a Q => T a Q fun _ => False) := (by
  obtain ⟨f, fd, F, h2, h3, h4⟩ := C.ex
  have up : ∀ vs H Q E, SpD K (fun a Q => T a Q fun _ => False) vs H Q E → SpX K T vs H Q fun _ _ _ => False := fun vs H Q E h => by
    obtain ⟨G, io, a, Q1, st, hT, q⟩ := h
    exact ⟨G, io, a, Q1, _, st, hT, q, fun _ _ _ _ _ _ z => z⟩
  refine ⟨f, fd, ⟨fun vs H Q E h => F.len _ _ _ _ (up vs H Q E h), fun A outer s H args us vs Q E hr e0 hb hv h => ?_⟩, h2, h3, h4⟩
  refine codeAny_mono (F.run A outer s H args us vs Q _ hr e0 hb hv (up vs H Q E h)) fun r s' hq => ?_
  cases r with
  | error e =>
    obtain ⟨_, _, _, _, _, _, _, _, _, _, _, _, z⟩ := hq
    exact z.elim
  | ok fl => cases fl <;> exact hq
  )
theorem Reps.set_f {K : PySem.W.Frag} {B : Base} {G H : Hp} {c : Ctx} {s : L2.St} {A : List Addr} {v : V} {F : FrG} (hx : F.P K G v) (h : Reps K B G H c s A) : ∀ (j : Nat), ∃ A', Reps K B G H (c.set j (.f F)) (s.set j (some v)) A' ∧ A'.Sublist A := (by
  induction h with
  | nil => intro j; exact ⟨[], by simpa using .nil, List.Sublist.refl _⟩
  | no h ih =>
    intro j
    cases j with
    | zero => exact ⟨_, .f hx h, List.Sublist.refl _⟩
    | succ j =>
      obtain ⟨A', r, q⟩ := ih j
      exact ⟨A', .no r, q⟩
  | d hd h ih =>
    intro j
    cases j with
    | zero => exact ⟨_, .f hx h, List.Sublist.refl _⟩
    | succ j =>
      obtain ⟨A', r, q⟩ := ih j
      exact ⟨A', .d hd r, q⟩
  | f hd h ih =>
    intro j
    cases j with
    | zero => exact ⟨_, .f hx h, List.Sublist.refl _⟩
    | succ j =>
      obtain ⟨A', r, q⟩ := ih j
      exact ⟨A', .f hd r, q⟩
  | o ho w h ih =>
    intro j
    cases j with
    | zero => exact ⟨_, .f hx h, List.sublist_append_right _ _⟩
    | succ j =>
      obtain ⟨A', r, q⟩ := ih j
      exact ⟨_, .o ho w r, List.Sublist.append (List.Sublist.refl _) q⟩
  )
theorem Stt.set_f {K : PySem.W.Frag} {B : Base} {G H : Hp} {c : Ctx} {s : L2.St} (h : Stt K B c s G H) (j : Nat) {v : V} {F : FrG} (hx : F.P K G v) : Stt K B (c.set j (.f F)) (s.set j (some v)) G H := (by
  obtain ⟨A, r, w⟩ := h.ex
  obtain ⟨A', r', q⟩ := r.set_f hx j
  exact ⟨A', r', w.sub_of q⟩
  )
theorem Reps.get_f {K : PySem.W.Frag} {B : Base} {G H : Hp} {c : Ctx} {s : L2.St} {A : List Addr} (h : Reps K B G H c s A) : ∀ {i : Nat} {F : FrG}, c[i]? = some (.f F) → ∃ v, s[i]? = some (some v) ∧ F.P K G v := (by
  induction h with
  | nil => intro i x e; simp at e
  | no _ ih =>
    intro i x e
    cases i with
    | zero => simp at e
    | succ i => simpa using ih (by simpa using e)
  | d h _ ih =>
    intro i x e
    cases i with
    | zero => simp at e
    | succ i => simpa using ih (by simpa using e)
  | f h _ ih =>
    intro i x e
    cases i with
    | zero => simp at e; subst e; exact ⟨_, rfl, h⟩
    | succ i => simpa using ih (by simpa using e)
  | o h w _ ih =>
    intro i x e
    cases i with
    | zero => simp at e
    | succ i => simpa using ih (by simpa using e)
  )
section
variable {X : Cx} {T : TFX} {e : Expr} {es : List Expr} {tl : TL} {i k : Nat} {n x g : Str} {ps : List Str} {ys : List Str} {ts : Addr → TSd} {b₀ : Stmt} {suite : List Stmt} {gp cpos epos np pos pos' : Pos}
end
/-! ### split -/
def oSplit (ta tb : TD) : TR := fun c Q => ta c fun x c1 => asS x fun z => tb c1 fun y c2 => asS y fun w => w.length ≠ 0 ∧ z.length + 2 ≤ sizeLine ∧ Q (.lst ((Txt.split z w).map PyData.str)) c2
theorem o_split {X : Cx} {a b : Expr} {ta tb : TD} {apos pos : Pos} (ha : DE X a ta) (hb : DE X b tb) (hs : starEach [b] X.env = [(false, eval b X.env)] := by rfl) (hbase : attributeBase a "split" X.env (eval a X.env) = eval a X.env := by rfl) (hline : (apos.endLine == pos.line) = true := by rfl) :
    DO X (.Call (.Attribute a "split" apos) [b] [] pos) (oSplit ta tb) := (by
  obtain ⟨tea, pa, va⟩ := ha.ex
  obtain ⟨teb, pb, vb⟩ := hb.ex
  refine ⟨_, pe_split pa pb hs hbase hline, fun B c s G H Q R st q k => va B c s G H _ _ st q fun v x c1 G1 H1 st1 e1 d1 q1 => ?_⟩
  obtain ⟨z, rfl, q1⟩ := asS_of q1
  refine ⟨⟨z, dp_str d1⟩, vb B c1 s G1 H1 _ _ st1 q1 fun w y c2 G2 H2 st2 e2 d2 q2 => ?_⟩
  obtain ⟨u, rfl, h1, h2, q2⟩ := asS_of q2
  exact ⟨z, u, dp_str d1, by rw [dp_str d2], by rw [beq_eq_false_iff_ne]; exact h1, h2, fun p hp => k _ _ c2 _ _ (st2.laidL hp (dpa_strs _)) (e1.trans e2) q2⟩
  )
/-! ### a new owned thing lent as the first argument, and forgotten behind the call -/
end Dl

/-! What is read in lists of one's own, as data; names of inner lists; displays of lists of one's own. -/
namespace Dl
open PySem PySem.Spec PyProof.Rows L2
/-- what is seen of a slot -/
def bare : S → S
  | .d x => .d x
  | .o _ (.lst ds) => .d (.list ds)
  | .o _ (.lls dss) => .d (.list (dss.map PyData.list))
  | .o _ (.tr t) => if t.isD = true then .d t.toD else .no
  | .f F => .f F
  | _ => .no
section
variable {x : PyData} {w : Option Lt} {ds : List PyData} {dss : List (List PyData)} {F : FrG} {R : ResG} {P : List PyData → Prop} {kvs : List (PyData × PyData)}
theorem bare_d : bare (.d x) = .d x := id rfl
theorem bare_o : bare (.o w (.lst ds)) = .d (.list ds) := id rfl
theorem bare_l : bare (.o w (.lls dss)) = .d (.list (dss.map PyData.list)) := id rfl
theorem bare_no : bare .no = .no := id rfl
theorem bare_f : bare (.f F) = .f F := id rfl
theorem bare_tr {t : OT} : bare (.o w (.tr t)) = if t.isD = true then .d t.toD else .no := id rfl
theorem bare_g : bare (.o w (.gen R)) = .no := id rfl
theorem bare_P : bare (.o w (.lstP P)) = .no := id rfl
theorem bare_dic : bare (.o w (.dic kvs)) = .no := id rfl
end
section
variable {K : PySem.W.Frag} {B : Base} {G H : Hp} {c : Ctx} {s : L2.St} {A : List Addr}
theorem reps_bare (e : Same G H) (h : Reps K B G H c s A) : Reps K ⟨H, H, []⟩ H H (c.map bare) s [] := (by
  induction h with
  | nil => exact .nil
  | no _ ih => exact .no ih
  | d h _ ih => exact .d (dp_mono e _ _ h) ih
  | f h _ ih => exact .f (FrG.grow _ _ _ _ _ h e) ih
  | @o w v R c s A A' h _ _ ih =>
    cases R with
    | lst ds =>
      obtain ⟨p, vs, rfl, rfl, h1, h2⟩ := h
      exact .d (.lst (SqL.of h1) (dpa_mono e _ _ h2)) ih
    | lls dss =>
      obtain ⟨p, ps, rfl, rfl, h1, h2⟩ := h
      exact .d (.lst (SqL.of h1) (ownLs_dp e h2)) ih
    | lstP P => exact .no ih
    | gen R => exact .no ih
    | dic _ => exact .no ih
    | tr t =>
      show Reps K ⟨H, H, []⟩ H H ((if t.isD = true then S.d t.toD else S.no) :: _) _ _
      by_cases d : t.isD = true
      · rw [if_pos d]
        exact .d (ot_dp e t _ _ h d fun _ _ => rfl) ih
      · rw [if_neg d]
        exact .no ih
  )
theorem Stt.bare (st : Stt K B c s G H) : Stt K ⟨H, H, []⟩ (c.map bare) s H H := (by
  obtain ⟨A, r, w⟩ := st.ex
  exact ⟨[], reps_bare w.sub r, Same.refl _, List.nodup_nil, by simp, Same.refl _, fun a o h _ => h, fun a h => h, fun a _ _ => .inl rfl, by simp⟩
  )
end
def layS : Ctx → List (Nat × PyData) → Ctx
  | c, [] => c
  | c, (i, x) :: l => layS (c.set i (.d x)) l
theorem Stt.lay {K : PySem.W.Frag} {H : Hp} {s : L2.St} : ∀ {l : List (Nat × PyData)} {c : Ctx}, Stt K ⟨H, H, []⟩ c s H H → (∀ z ∈ l, ∃ v, s[z.1]? = some (some v) ∧ Dp K H v z.2) → Stt K ⟨H, H, []⟩ (layS c l) s H H
  | [], _, st, _ => st
  | (i, x) :: l, c, st, h => by
    obtain ⟨v, e, d⟩ := h (i, x) List.mem_cons_self
    have st2 := st.set_d i d
    rw [set_same e] at st2
    exact Stt.lay (l := l) (c := c.set i (.d x)) st2 fun z hz => h z (List.mem_cons_of_mem _ hz)
section
variable {X : Cx} {a : Expr} {ta : TD} {tb : TB}
end
/-! ### inner lists by their addresses -/
section
variable {K : PySem.W.Frag} {B : Base} {G H : Hp} {c : Ctx} {s : L2.St}
end
section
variable {X : Cx} {a e : Expr} {ta : TD} {pos cpos apos p pn : Pos} {x y : Str}
end
/-! ### displays of lists of one's own -/
def lsP (ps : List Addr) (dss : List (List PyData)) : ResG where
  nt _ _ _ _ _ h := by
    obtain ⟨rfl, h2⟩ := h
    exact ownLs_nt h2
  P K G H _ A := A = ps ∧ OwnLs K G H ps dss
  grow _ _ _ _ _ _ h e := ⟨h.1, ownLs_mono h.2 e fun _ _ => rfl⟩
  loc _ _ _ _ _ _ h k := by
    obtain ⟨rfl, h2⟩ := h
    exact ⟨rfl, ownLs_mono h2 (Same.refl _) k⟩
  here _ _ _ _ _ h := by
    obtain ⟨rfl, h2⟩ := h
    exact ownLs_here h2
abbrev TLL := Ctx → (List (List PyData) → Ctx → Prop) → Prop
def DOsv (K : PySem.W.Frag) (te : TA) (t : TLL) : Prop := ∀ (B : Base) (c : Ctx) (s : L2.St) (G H : Hp) (Q : List (List PyData) → Ctx → Prop) (R : List V → Hp → Prop), Stt K B c s G H → t c Q →
  (∀ ps dss c' G' H', Stt K B (.o none (.gen (lsP ps dss)) :: c') (some (.ref 0) :: s) G' H' → Same G G' → ps.length = dss.length → Q dss c' → R (ps.map V.ref) H') → te s H R
structure DOs (X : Cx) (es : List Expr) (t : TLL) : Prop where
  ex : ∃ te, PA X es te ∧ DOsv X.K te t
section
variable {X : Cx} {e : Expr} {es : List Expr} {to : TR} {t : TLL} {pos : Pos}
end
/-! ### inner lists changed, by their numbers -/
section
variable {X : Cx} {a : Expr} {ta : TD} {pos cpos apos pn ps pc : Pos} {x : Str} {jj : Nat}
end
end Dl

/-! sorted of a tuple by a def of ours whose answers are whole numbers. -/
namespace PySem.W
open PySem PySem.Calls PyProof.Rows
section
variable {prog : Program} {w : World} {A : Around} {E : Value → Shared → Prop} {s : Shared} {a kS : Addr} {vs : List Value} {keys : Array Value} {e e1 : Nat} {P : PySem.Fin → Shared → Prop}
end
end PySem.W
namespace L2
open PySem PySem.Spec PyProof.Rows
section
variable {X : Cx} {pins : List (Addr × Obj)} {σ : St} {H H' : Hp} {s : Shared} {h' : Heap} {a k : Addr} {o : HO}
end
end L2
namespace Dl
open PySem PySem.Spec PyProof.Rows L2
section
variable {X : Cx} {T : TF} {k : Nat} {f : Addr} {fd : FuncData} {ps : List Str}
end
section
variable {K : PySem.W.Frag} {B : Base} {G H H1 : Hp} {c : Ctx} {s : L2.St}
end
section
variable {X : Cx} {T : TF} {k : Nat} {ps : List Str} {a : Expr} {ta : TD} {y : Str} {p py kp pos : Pos}
end
end Dl

/-! Dicts of one's own whose keys are flat tuples. -/
namespace Dl
open PySem PySem.Spec PyProof.Rows L2
def kOf : PyData → L2.Key
  | .int i => .inl i
  | .str x => .inr x
  | _ => .inl 0
theorem kV_vAt {d : PyData} (h : isAt d) : kV (kOf d) = vAt d := (by
  cases d with
  | int _ => rfl
  | str _ => rfl
  | _ => exact h.elim
  )
theorem keyD_kOf {d : PyData} (h : isAt d) : keyD (kOf d) = d := (by
  cases d with
  | int _ => rfl
  | str _ => rfl
  | _ => exact h.elim
  )
theorem kVs_vAt : ∀ {ds : List PyData}, (∀ d ∈ ds, isAt d) → (ds.map kOf).map kV = ds.map vAt
  | [], _ => rfl
  | d :: ds, h => by
    rw [List.map_cons, List.map_cons, List.map_cons, kV_vAt (h d List.mem_cons_self), kVs_vAt fun e he => h e (List.mem_cons_of_mem _ he)]
theorem keyDs_kOf : ∀ {ds : List PyData}, (∀ d ∈ ds, isAt d) → (ds.map kOf).map keyD = ds
  | [], _ => rfl
  | d :: ds, h => by
    rw [List.map_cons, List.map_cons, keyD_kOf (h d List.mem_cons_self), keyDs_kOf fun e he => h e (List.mem_cons_of_mem _ he)]
theorem keyD_in {k l : L2.Key} (h : keyD k = keyD l) : k = l := (by
  cases k <;> cases l <;> first | (cases h; done) | (injection h with h; rw [h])
  )
theorem keyDs_in : ∀ {k l : List L2.Key}, k.map keyD = l.map keyD → k = l
  | [], [], _ => rfl
  | [], _ :: _, h => by cases h
  | _ :: _, [], h => by cases h
  | k :: ks, l :: ls, h => by
    rw [List.map_cons, List.map_cons] at h
    injection h with h1 h2
    rw [keyD_in h1, keyDs_in h2]
/-- a flat tuple, known by what it is -/
def tupR (ds : List PyData) : FrG := { P := fun _ G v => ∃ b, v = .ref b ∧ G b = some (.tup (ds.map vAt)), grow := fun _ _ _ _ ⟨b, e, h⟩ s => ⟨b, e, s _ _ h⟩ }
/-- what stands at a key -/
noncomputable def dicAt (kvs : List (PyData × PyData)) (x : PyData) : Option PyData := (kvs.find? fun kv => decide (kv.1 = x)).map (·.2)
noncomputable def dicPut (kvs : List (PyData × PyData)) (x y : PyData) : List (PyData × PyData) := if (kvs.any fun kv => decide (kv.1 = x)) = true then kvs.map (fun kv => if kv.1 = x then (kv.1, y) else kv) else kvs ++ [(x, y)]
theorem dicE_at {K : PySem.W.Frag} {G : Hp} {ks : List L2.Key} : ∀ {ws : List (List L2.Key × V)} {kvs : List (PyData × PyData)}, DicE K G ws kvs → (valV ws ks = none ∧ dicAt kvs (.tuple (ks.map keyD)) = none) ∨ ∃ v d, valV ws ks = some v ∧ dicAt kvs (.tuple (ks.map keyD)) = some d ∧ Dp K G v d
  | _, _, .nil => .inl ⟨rfl, rfl⟩
  | (k, v) :: ws, (_, d) :: kvs, .cons h1 hs h2 => by
    by_cases e : k = ks
    · subst e
      exact .inr ⟨v, d, valV_pos rfl, by simp [dicAt, List.find?_cons], h1⟩
    · have e2 : ¬ (PyData.tuple (k.map keyD) = .tuple (ks.map keyD)) := fun z => e (keyDs_in (PyData.tuple.inj z))
      have q : dicAt ((.tuple (k.map keyD), d) :: kvs) (.tuple (ks.map keyD)) = dicAt kvs (.tuple (ks.map keyD)) := by simp [dicAt, List.find?_cons, e2]
      rw [valV_neg (p := (k, v)) e, q]
      exact dicE_at h2
theorem dicE_any {K : PySem.W.Frag} {G : Hp} {ks : List L2.Key} : ∀ {ws : List (List L2.Key × V)} {kvs : List (PyData × PyData)}, DicE K G ws kvs → (ws.any fun kv => decide (kv.1 = ks)) = kvs.any fun kv => decide (kv.1 = .tuple (ks.map keyD))
  | _, _, .nil => rfl
  | (k, v) :: ws, (_, d) :: kvs, .cons h1 hs h2 => by
    rw [List.any_cons, List.any_cons, dicE_any h2]
    congr 1
    by_cases e : k = ks
    · subst e; simp
    · have e2 : ¬ (PyData.tuple (k.map keyD) = .tuple (ks.map keyD)) := fun z => e (keyDs_in (PyData.tuple.inj z))
      simp [e, e2]
theorem dicE_len {K : PySem.W.Frag} {G : Hp} {ws : List (List L2.Key × V)} {kvs : List (PyData × PyData)} (h : DicE K G ws kvs) : ws.length = kvs.length := (by
  induction h with
  | nil => rfl
  | cons _ _ _ ih => simp [ih]
  )
theorem dicE_snoc {K : PySem.W.Frag} {G : Hp} {ks : List L2.Key} {v : V} {d : PyData} (hd : Dp K G v d) (hv : TupV G v d) {ws : List (List L2.Key × V)} {kvs : List (PyData × PyData)} (h : DicE K G ws kvs) : DicE K G (ws ++ [(ks, v)]) (kvs ++ [(.tuple (ks.map keyD), d)]) := (by
  induction h with
  | nil => exact .cons hd hv .nil
  | cons h1 hs _ ih => exact .cons h1 hs ih
  )
theorem dicE_repl {K : PySem.W.Frag} {G : Hp} {ks : List L2.Key} {v : V} {d : PyData} (hd : Dp K G v d) (hv : TupV G v d) {ws : List (List L2.Key × V)} {kvs : List (PyData × PyData)} (h : DicE K G ws kvs) :
    DicE K G (ws.map fun kv => if kv.1 = ks then (kv.1, v) else kv) (kvs.map fun kv => if kv.1 = .tuple (ks.map keyD) then (kv.1, d) else kv) := (by
  induction h with
  | nil => exact .nil
  | @cons k v0 d0 ws kvs h1 hs _ ih =>
    rw [List.map_cons, List.map_cons]
    by_cases e : k = ks
    · subst e
      rw [if_pos rfl, if_pos rfl]
      exact .cons hd hv ih
    · have e2 : ¬ (PyData.tuple (k.map keyD) = .tuple (ks.map keyD)) := fun z => e (keyDs_in (PyData.tuple.inj z))
      rw [if_neg (show ¬ (k, v0).1 = ks from e), if_neg (show ¬ ((PyData.tuple (k.map keyD), d0).1 = .tuple (ks.map keyD)) from e2)]
      exact .cons h1 hs ih
  )
theorem dicE_put {K : PySem.W.Frag} {G : Hp} {ks : List L2.Key} {v : V} {d : PyData} (hd : Dp K G v d) (hv : TupV G v d) {ws : List (List L2.Key × V)} {kvs : List (PyData × PyData)} (h : DicE K G ws kvs) : DicE K G (putK ws ks v) (dicPut kvs (.tuple (ks.map keyD)) d) := (by
  unfold putK dicPut
  rw [dicE_any h]
  split
  · exact dicE_repl hd hv h
  · exact dicE_snoc hd hv h
  )
def asDic (R : Res) (Q : List (PyData × PyData) → Prop) : Prop := match R with
  | .dic kvs => Q kvs
  | _ => False
theorem asDic_d {kvs : List (PyData × PyData)} {Q : List (PyData × PyData) → Prop} : asDic (.dic kvs) Q = Q kvs := id rfl
theorem asDic_of {R : Res} {Q : List (PyData × PyData) → Prop} (h : asDic R Q) : ∃ kvs, R = .dic kvs ∧ Q kvs := (by
  cases R with
  | dic kvs => exact ⟨kvs, rfl, h⟩
  | _ => exact h.elim
  )
section
variable {X : Cx} {j i : Nat} {x y : Str} {pos p : Pos}
/-- {} -/
def oDic0 : TR := fun c Q => Q (.dic []) c
theorem o_dic0 : DO X (.Dict [] [] pos) oDic0 := (by
  refine ⟨_, pe_dnewT, fun B c s G H Q R st q k => fun q1 h1 => ?_⟩
  refine k _ (.dic []) c G _ (st.laidR (A1 := [q1]) (fun a ha => ?_) (fun a ha => ?_) (fun a ha => ?_) (by simp) ?_) (Same.refl _) q
  · simp at ha
    rw [upd_ne ha]
  · simp at ha
    subst ha
    exact h1
  · simp at ha
    subst ha
    rw [upd_same]; exact fun z => nomatch z
  · exact ⟨q1, [], rfl, rfl, upd_same, .nil⟩
  )
def zSetK (i : Nat) (t : TL) : TSd := fun E c => t c fun ds c1 => ds.length ≤ sizeLine ∧ (∀ d ∈ ds, isAt d) ∧ E.nx (c1.set i (.f (tupR ds)))
theorem s_setK {es : List Expr} {kk : Nat} {tpos px : Pos} {t : TL} (hN : X.N.Nodup) (h : DA X es t) (hi : X.N[i]? = some x := by rfl) (hx : Loc X.env.scope x := by first | exact Or.inl rfl | exact Or.inr rfl) (hs : swapsWith (.Tuple es kk tpos) (some (.Name x px)) pos.line X.env = pure false := by rfl) (hf : X.fn x = true ∨ X.env.scope.names.lookup x = some .local := by first | exact .inl rfl | exact .inr rfl | assumption) : DS X (.Assign [.Name x px] (.Tuple es kk tpos) pos) (zSetK i t) := (by
  obtain ⟨ta, pa, va⟩ := h.ex
  refine ⟨_, ps_set hN hi hx (pe_tup pa) hs hf, fun B c s G H D E st k q => va B c s G H _ _ st q fun vs ds c1 G1 H1 st1 e1 d1 q1 => ⟨by rw [dpa_len d1]; exact q1.1, fun p hp => ?_⟩⟩
  obtain ⟨st2, e2⟩ := st1.laid (o := .tup vs) hp
  exact k.nx _ _ _ _ (st2.set_f i (v := .ref p) (F := tupR ds) ⟨p, rfl, by rw [← dpa_at q1.2.1 d1]; exact upd_same⟩) (e1.trans e2) q1.2.2
  )
/-- x in d, x a key's slot -/
def uDin (i j : Nat) (neg : Bool) : TD := fun c Q => ∃ ds, c[i]? = some (.f (tupR ds)) ∧ (∀ d ∈ ds, isAt d) ∧ slO c j fun _ R => asDic R fun kvs => Q (.bool (if neg then !(dicAt kvs (.tuple ds)).isSome else (dicAt kvs (.tuple ds)).isSome)) c
theorem din_of {K : PySem.W.Frag} {B : Base} {c : Ctx} {s : L2.St} {G H : Hp} (st : Stt K B c s G H) {ds : List PyData} {kvs : List (PyData × PyData)} {w : Option Lt} (h1 : c[i]? = some (.f (tupR ds))) (ha : ∀ d ∈ ds, isAt d) (h2 : c[j]? = some (.o w (.dic kvs))) :
    ∃ b p ws, s[i]? = some (some (.ref b)) ∧ s[j]? = some (some (.ref p)) ∧ H p = some (.dT ws) ∧ DicE K G ws kvs ∧ H b = some (.tup ((ds.map kOf).map kV)) ∧ (valV ws (ds.map kOf)).isSome = (dicAt kvs (.tuple ds)).isSome ∧ (∀ v, valV ws (ds.map kOf) = some v → ∃ d, dicAt kvs (.tuple ds) = some d ∧ Dp K G v d) := (by
  obtain ⟨A, r, wd⟩ := st.ex
  obtain ⟨v, f1, b, rfl, f2⟩ := r.get_f h1
  obtain ⟨v, A1, g1, ⟨p, ws, rfl, rfl, g2, g3⟩, _, _⟩ := st.foc h2
  refine ⟨b, p, ws, f1, g1, g2, g3, by rw [kVs_vAt ha]; exact wd.sub _ _ f2, ?_, fun v hv => ?_⟩
  · rcases dicE_at (ks := ds.map kOf) g3 with ⟨a1, a2⟩ | ⟨v, d, a1, a2, _⟩
    · rw [keyDs_kOf ha] at a2
      rw [a1, a2]; rfl
    · rw [keyDs_kOf ha] at a2
      rw [a1, a2]; rfl
  · rcases dicE_at (ks := ds.map kOf) g3 with ⟨a1, a2⟩ | ⟨u, d, a1, a2, a3⟩
    · rw [a1] at hv; cases hv
    · rw [keyDs_kOf ha] at a2
      rw [a1] at hv
      cases hv
      exact ⟨d, a2, a3⟩
  )
variable {p1 p2 : Pos}
theorem t_din (i j : Nat) (hu : X.A.units + 1 < cLine) (hN : X.N[i]? = some x := by rfl) (hv : Vis X.env.scope x := by first | exact Or.inl rfl | exact Or.inr (Or.inl rfl) | exact Or.inr (Or.inr rfl)) (hd : (x == ("__debug__" : Str)) = false := by decide) (hcd : (x == ("__classdict__" : Str)) = false := by decide)
    (hN2 : X.N[j]? = some y := by rfl) (hv2 : Vis X.env.scope y := by first | exact Or.inl rfl | exact Or.inr (Or.inl rfl) | exact Or.inr (Or.inr rfl)) (hd2 : (y == ("__debug__" : Str)) = false := by decide) (hcd2 : (y == ("__classdict__" : Str)) = false := by decide) (hm : behindInMarks .In (.Name y p2) = false := by rfl) :
    DT X (.Compare (.Name x p1) [.In] [.Name y p2] pos) (wB (uDin i j false)) := (by
  refine ⟨_, pt_cmp (pc_din hu (pe_var hN hv hd hcd) (pe_var hN2 hv2 hd2 hcd2)) hm, fun B c s G H Q R st q k => ?_⟩
  obtain ⟨ds, h1, ha, q⟩ := q
  obtain ⟨w, R0, e0, q⟩ := slO_of q
  obtain ⟨kvs, rfl, q⟩ := asDic_of q
  obtain ⟨b, p, ws, f1, f2, f3, f4, f5, f6, _⟩ := din_of st h1 ha e0
  refine ⟨.ref b, f1, .ref p, f2, p, _, rfl, DGet.t f3 f5, ?_⟩
  rw [f6]
  exact ⟨_, rfl, k _ c G H st (Same.refl _) q⟩
  )
/-- d[x] = e, x a key's slot -/
def zDput (i j : Nat) (te : TD) : TSd := fun E c => te c fun e c1 => scal e = true ∧ ∃ ds, c1[i]? = some (.f (tupR ds)) ∧ (∀ d ∈ ds, isAt d) ∧ slO c1 j fun w R => asDic R fun kvs => kvs.length < sizeLine ∧ E.nx (c1.set j (.o w (.dic (dicPut kvs (.tuple ds) e))))
theorem s_dput (i j : Nat) {e : Expr} {te : TD} {p3 : Pos} (hu : X.A.units + 1 < cLine) (he : DE X e te) (hN : X.N[i]? = some x := by rfl) (hv : Vis X.env.scope x := by first | exact Or.inl rfl | exact Or.inr (Or.inl rfl) | exact Or.inr (Or.inr rfl)) (hd : (x == ("__debug__" : Str)) = false := by decide) (hcd : (x == ("__classdict__" : Str)) = false := by decide)
    (hN2 : X.N[j]? = some y := by rfl) (hv2 : Vis X.env.scope y := by first | exact Or.inl rfl | exact Or.inr (Or.inl rfl) | exact Or.inr (Or.inr rfl)) (hd2 : (y == ("__debug__" : Str)) = false := by decide) (hcd2 : (y == ("__classdict__" : Str)) = false := by decide)
    (hs : swapsWith e (some (.Subscript (.Name y p2) (.Name x p1) p3)) pos.line X.env = pure false := by rfl) :
    DS X (.Assign [.Subscript (.Name y p2) (.Name x p1) p3] e pos) (zDput i j te) := (by
  obtain ⟨tee, pe, ve⟩ := he.ex
  refine ⟨_, ps_dput hu (pe_var hN2 hv2 hd2 hcd2) (pe_var hN hv hd hcd) pe hs, fun B c s G H D E st k q => ve B c s G H _ _ st q fun v0 d0 c1 G1 H1 st1 e1 d1 q1 => ?_⟩
  obtain ⟨hsc, ds, h1, ha, q1⟩ := q1
  obtain ⟨w, R0, e0, q1⟩ := slO_of q1
  obtain ⟨kvs, rfl, hl, q1⟩ := asDic_of q1
  obtain ⟨b, p, ws, f1, f2, f3, f4, f5, _, _⟩ := din_of st1 h1 ha e0
  have hws := dicE_len f4
  refine ⟨.ref p, f2, .ref b, f1, p, _, rfl, DPut.t f3 f5 (by omega), ?_⟩
  obtain ⟨v, A1, g1, ⟨p', ws', rfl, rfl, g2, g3⟩, nd, wr⟩ := st1.foc e0
  rw [f2] at g1
  cases g1
  rw [f3] at g2
  cases g2
  have st2 := wr (upd H1 p (.dT (putK ws (ds.map kOf) v0))) (.dic (dicPut kvs (.tuple ds) d0)) [p] (fun a ha => by
    simp at ha
    rw [upd_ne ha]) (fun a ha => .inl ha) (fun a ha => by
    simp at ha
    subst ha
    rw [upd_same]; exact fun z => nomatch z) (by simp) ⟨p, _, rfl, rfl, upd_same, by have := dicE_put (ks := ds.map kOf) d1 (fun ks z => by rw [z] at hsc; cases hsc) g3; rw [keyDs_kOf ha] at this; exact this⟩
  exact k.nx _ _ _ _ st2 e1 q1
  )
end
end Dl

/-! How many unlike ones stand in a list of numbers and texts: len(set(xs)). -/
namespace L2
/-- keys, each once, in the order in which they are met -/
def metK {α : Type} [DecidableEq α] (ks : List α) : List α := ks.foldl (fun σ v => if v ∈ σ then σ else σ ++ [v]) []
section
variable {α : Type} [DecidableEq α]
theorem metK_snoc {ks : List α} {k : α} : metK (ks ++ [k]) = if k ∈ metK ks then metK ks else metK ks ++ [k] := (by
  unfold metK
  rw [List.foldl_append]; rfl
  )
theorem metK_ok : ∀ (n : Nat) {ks : List α}, ks.length = n → (∀ k, k ∈ metK ks ↔ k ∈ ks) ∧ (metK ks).length ≤ ks.length ∧ ((metK ks).length = ks.length ↔ ks.Nodup)
  | 0, ks, h => by
    obtain rfl := List.length_eq_zero_iff.mp h
    exact ⟨fun k => Iff.rfl, Nat.le_refl _, by simp [metK]⟩
  | n + 1, ks, h => by
    obtain ⟨l, k, rfl⟩ : ∃ l k, ks = l ++ [k] := ⟨ks.dropLast, ks.getLast (fun z => by rw [z] at h; cases h), (List.dropLast_concat_getLast _).symm⟩
    have hl : l.length = n := by rw [List.length_append] at h; simp at h; exact h
    obtain ⟨h1, h2, h3⟩ := metK_ok n hl
    rw [metK_snoc]
    have nd : (l ++ [k]).Nodup ↔ l.Nodup ∧ k ∉ l := by
      rw [List.nodup_append]
      constructor
      · exact fun ⟨a, b, c⟩ => ⟨a, fun z => c k z k (by simp) rfl⟩
      · exact fun ⟨a, b⟩ => ⟨a, by simp, fun x hx y hy z => b (by obtain rfl := List.mem_singleton.mp hy; rw [← z]; exact hx)⟩
    rw [nd]
    by_cases hk : k ∈ metK l
    · rw [if_pos hk]
      have hk2 := (h1 k).mp hk
      refine ⟨fun x => by rw [h1, List.mem_append]; exact ⟨.inl, fun z => z.elim id fun z => by obtain rfl := List.mem_singleton.mp z; exact hk2⟩, by rw [List.length_append]; omega, ⟨fun z => ?_, fun z => absurd hk2 z.2⟩⟩
      rw [List.length_append] at z
      simp at z
      omega
    · rw [if_neg hk]
      have hk2 : k ∉ l := fun z => hk ((h1 k).mpr z)
      refine ⟨fun x => by rw [List.mem_append, List.mem_append, h1], by rw [List.length_append, List.length_append]; simp; omega, ?_⟩
      rw [List.length_append, List.length_append]
      simp only [List.length_cons, List.length_nil]
      exact ⟨fun z => ⟨h3.mp (by omega), hk2⟩, fun z => by rw [h3.mpr z.1]⟩
/-- membership, decided -/
def memD (x : α) (l : List α) : Bool := decide (x ∈ l)
theorem memD_iff {x : α} {l : List α} : memD x l = true ↔ x ∈ l := by unfold memD; exact decide_eq_true_iff
theorem memD_snoc {x y : α} {l : List α} : memD x (l ++ [y]) = (memD x l || decide (x = y)) := (by
  unfold memD
  by_cases h1 : x ∈ l
  · simp [h1]
  · by_cases h2 : x = y
    · simp [h2]
    · simp [h1, h2]
  )
theorem memD_nil {x : α} : memD x [] = false := by simp [memD]
theorem metK_mem {ks : List α} {k : α} : k ∈ metK ks ↔ k ∈ ks := (metK_ok _ rfl).1 k
theorem metK_le {ks : List α} : (metK ks).length ≤ ks.length := (metK_ok _ rfl).2.1
theorem metK_nd {ks : List α} : (metK ks).length = ks.length ↔ ks.Nodup := (metK_ok _ rfl).2.2
end
end L2
namespace PyProof.Rows
open PySem PySem.Spec
theorem SetOf_congrK {prog : Program} {w : World} {K : Type} [DecidableEq K] {knd : PySem.KeyKind prog w K} {h : Heap} {a : Addr} {S S' : K → Bool} {n n' : Nat}
    (hS : h.SetOf knd a S n) (e : ∀ k, S k = S' k) (en : n = n') : h.SetOf knd a S' n' := (by
  have : S = S' := funext e
  subst this; subst en; exact hS
  )
section
variable {prog : Program} {w : World} {A : Around} {R : Result → Shared → Prop} {I : Addr} {fp wr : List Addr} {G : Array GenState → Array GenState → Prop} {n : Nat} {P : Nat → Value → Prop} {St : Nat → Shared → Prop}
theorem codeAny_set_loopK (W : WalksS prog w A.in1 I fp wr G n P St) (S : Addr) (hSf : S ∉ fp) (ks : List L2.Key) (hl : ks.length = n)
    (hval : ∀ i v, P i v → ∃ k, ks[i]? = some k ∧ (L2.mixKind prog w).is k v = true ∧ v.scannable = true) (hb : n + 1 < scanBound) :
    ∀ (k i : Nat) (s : Shared), n - i = k → i ≤ n → St i s →
      s.heap.SetOf (L2.mixKind prog w) S (fun k' => L2.memD k' (ks.take i)) (L2.metK (ks.take i)).length →
      (∀ s', Moved (S :: wr) G s s' → s'.heap.SetOf (L2.mixKind prog w) S (fun k' => L2.memD k' ks) (L2.metK ks).length → R (.ok (.ret .none)) s') →
      codeAny (model prog w) A (.builtin "set.update.loop" ⟨[.ref S, .ref I], []⟩) R s := (by
  have hSw : S ∉ wr := fun h => hSf (W.sub _ h)
  have hsub : ∀ b ∈ wr, b ∈ S :: wr := fun b hb => List.mem_cons_of_mem _ hb
  intro k
  induction k with
  | zero =>
    intro i s hk hi hst hS hR
    have hin : i = n := by omega
    subst hin
    rw [List.take_of_length_le (Nat.le_of_eq hl)] at hS
    refine codeAny_builtin F.entry_set_update_loop ?_
    rw [Around.under_plainId F.plain_set_update_loop _]
    show wpAny _ A.in1 (pyNext (.ref I) >>= _) _ _ s
    refine wpAny_bind (W.done s _ _ hst fun s' hm => ?_)
    show wpAny _ A.in1 (ret Value.none) _ _ s'
    exact wpAny_pure (hR s' (hm.mono hsub) (by
      obtain ⟨o, es, ep, t, ho, rest⟩ := hS
      exact ⟨o, es, ep, t, hm.heap S _ hSw ho, rest⟩))
  | succ k ih =>
    intro i s hk hi hst hS hR
    have hlt : i < n := by omega
    refine codeAny_builtin F.entry_set_update_loop ?_
    rw [Around.under_plainId F.plain_set_update_loop _]
    show wpAny _ A.in1 (pyNext (.ref I) >>= _) _ _ s
    refine wpAny_bind (W.item i s _ _ hlt hst fun v s' hP hst' hm => ?_)
    obtain ⟨key, hki, his, hsc⟩ := hval i v hP
    have hS' : s'.heap.SetOf (L2.mixKind prog w) S (fun k' => L2.memD k' (ks.take i)) (L2.metK (ks.take i)).length := by
      obtain ⟨o, es, ep, tb, ho, rest⟩ := hS
      exact ⟨o, es, ep, tb, hm.heap S _ hSw ho, rest⟩
    show wpAny _ A.in1 (holding [v] (setAdd S v) >>= _) _ _ s'
    refine wpAny_bind (wpAny_holding ?_)
    unfold setAdd
    refine wpAny_holding ?_
    refine wpAny_bind ((L2.mixKind prog w).pyHash (k := key) his ?_)
    have hroom : (L2.metK (ks.take i)).length + 1 < scanBound := by
      have h1 := L2.metK_le (ks := ks.take i)
      rw [List.length_take] at h1
      omega
    refine wpAny_setAddHashed_of (knd := L2.mixKind prog w) (s := { s' with toks := s'.toks + 1 }) his hsc hS' hroom fun h' hsb hS2 => ?_
    have et : ks.take (i + 1) = ks.take i ++ [key] := by rw [List.take_add_one, hki]; rfl
    have hSi : h'.SetOf (L2.mixKind prog w) S (fun k' => L2.memD k' (ks.take (i + 1))) (L2.metK (ks.take (i + 1))).length := by
      refine SetOf_congrK hS2 (fun k' => ?_) ?_
      · rw [et, L2.memD_snoc]
      · rw [et, L2.metK_snoc]
        by_cases h1 : key ∈ ks.take i
        · rw [if_pos (L2.memD_iff.mpr h1), if_pos (L2.metK_mem.mpr h1)]
        · rw [if_neg fun z => h1 (L2.memD_iff.mp z), if_neg fun z => h1 (L2.metK_mem.mp z), List.length_append]; rfl
    refine wpAny_pure ⟨plainId_quiet F.plain_set_update_loop _, ih (i + 1) _ (by omega) hlt (W.frame _ s' _ _ hst' (Nat.le_succ _) fun b hb o e => ?_) hSi fun s'' hm'' hS'' => ?_⟩
    · rw [hsb.2 b (fun h : b = S => hSf (by rw [← h]; exact hb))]; exact e
    · refine hR s'' (Moved.trans W.gtrans ((hm.mono hsub).then_heap (Nat.le_succ _) fun b o hb e => ?_) hm'') hS''
      rw [hsb.2 b (fun h : b = S => hb (by rw [h]; exact List.mem_cons_self))]; exact e
  )
end
end PyProof.Rows
namespace PySem
section
variable {prog : Program} {w : World} {A : Around} {E : Value → Shared → Prop} {s : Shared}
set_option maxHeartbeats 6400000 in
theorem call_set_listK {l : Addr} {items : Array Value} {ks : List L2.Key} {Q : Value → Shared → Prop}
    (hh : A.handled = none) (hl : s.heap.IsList l items) (hlen : ks.length = items.size) (hi : ∀ (i : Nat) (v : Value), items[i]? = some v → ∃ k, ks[i]? = some k ∧ (L2.mixKind prog w).is k v = true ∧ v.scannable = true) (hb : items.size + 1 < scanBound)
    (h : ∀ (h' : Heap) (tk : Nat), h'.SetOf (L2.mixKind prog w) s.heap.objs.size (fun k' => L2.memD k' ks) (L2.metK ks).length →
      (∀ b o, b < s.heap.objs.size → s.heap.get? b = some o → h'.get? b = some o) → Q (.ref s.heap.objs.size) { s with heap := h', toks := tk }) :
    wpAny (model prog w) A (call (.type "set") [.ref l]) Q E s := (by
  obtain ⟨c, tl, hmro⟩ := F.called_set.mro
  have hmade := F.called_set.made
  have hsub := F.called_set.sub
  refine wpAny_call (codeAny_of_tree ?_)
  show wpAny _ _ (callAny (.type "set") _) _ _ _
  refine wpAny_pure ⟨Code.quiet_builtin _ (by decide +kernel), codeAny_builtin F.entry_type_call ?_⟩
  rw [Around.under_plain (weight_type_call_type "set" [.ref l] []) rfl]
  have h1 := F.called_set.notType
  have h2 := F.called_set.canCreate
  have hct := F.typeCall_set_1 (.ref l)
  repeat (any_goals (first | assumption | wp_step))
  refine codeAny_mono (code_set_new_1 (.ref l) (E := E) (Q₁ := fun obj s₁ => ∃ led : Bool, obj = .ref s.heap.objs.size ∧ s₁ = { s with heap := s.heap.push { cls := .type "set", dict := none, data := .set #[] 0 (.fresh 0 0 led) } }) fun led => ⟨led, rfl, rfl⟩) fun r s₁ hr => ?_
  cases r with
  | error e => exact hr
  | ok fl =>
    cases fl with
    | ret obj =>
      obtain ⟨led, rfl, rfl⟩ := hr
      have hS : (s.heap.push { cls := .type "set", dict := none, data := .set #[] 0 (.fresh 0 0 led) }).get? s.heap.objs.size = some { cls := .type "set", dict := none, data := .set #[] 0 (.fresh 0 0 led) } := Heap.get?_push_size _ rfl
      have hT : Shared.TypeIs { s with heap := s.heap.push { cls := .type "set", dict := none, data := .set #[] 0 (.fresh 0 0 led) } } (.ref s.heap.objs.size) "set" := ⟨_, hS, rfl⟩
      have hli := F.called_set.init.lookup
      have hbi := F.called_set.init.bind (.ref s.heap.objs.size)
      repeat (any_goals (first | assumption | wp_step))
      refine codeAny_mono (codeAny_call_builtin (R := wants (fun r s₂ => r = .none ∧ ∃ h' tk, s₂ = { s with heap := h', toks := tk } ∧
          h'.SetOf (L2.mixKind prog w) s.heap.objs.size (fun k' => L2.memD k' ks) (L2.metK ks).length ∧
          (∀ b o, b < s.heap.objs.size → s.heap.get? b = some o → h'.get? b = some o)) E) F.called_set.init.plain F.entry_set_init (check_set_init_1 hT ?_)) fun r₂ s₂ hr₂ => ?_
      · obtain ⟨ol, hol, hcl, nl, hdl⟩ := hl
        obtain ⟨ocls, odict, odata, oslots⟩ := ol
        simp only at hcl hdl
        subst hcl; subst hdl
        have hol' : (s.heap.push { cls := .type "set", dict := none, data := .set #[] 0 (.fresh 0 0 led) }).get? l = some { cls := .type "list", dict := odict, data := .seq items nl, slots := oslots } := Heap.get?_push_of_some _ hol
        have hsls := F.sub_list_set
        have hslf := F.sub_list_frozenset
        have hne : (Value.type "list" == Value.type "dict") = false := by decide
        have hl1 : (s.heap.push { cls := .type "set", dict := none, data := .set #[] 0 (.fresh 0 0 led) }).IsList l items := ⟨_, hol', rfl, nl, rfl⟩
        unfold Builtin.«set.__init__» noKeywords Builtin.Frozenset.updateFrom
        generalize hPI : pyIter = PI
        wp_walk
        subst hPI
        refine wpAny_pyIter_list hl1 ?_
        refine wpAny_bind (wpAny_runValue ?_)
        have hlS : l < s.heap.objs.size := Heap.lt_size hol
        have hh3 : A.in1.in1.in1.handled = none := by simp [hh]
        have hneI : l ≠ (s.heap.push { cls := .type "set", dict := none, data := .set #[] 0 (.fresh 0 0 led) }).objs.size := by
          rw [Heap.size_push]; exact Nat.ne_of_lt (Nat.lt_succ_of_lt hlS)
        have hSf : s.heap.objs.size ∉ [(s.heap.push { cls := .type "set", dict := none, data := .set #[] 0 (.fresh 0 0 led) }).objs.size, l] := by
          rw [Heap.size_push]; simp only [List.mem_cons, List.mem_singleton, List.not_mem_nil, or_false, not_or]
          exact ⟨Nat.ne_of_lt (Nat.lt_succ_self _), Nat.ne_of_gt hlS⟩
        refine PyProof.Rows.codeAny_set_loopK ((Walks.list hh3 _ l hneI items).toS) s.heap.objs.size
          hSf ks hlen hi hb (items.size - 0) 0 _ (by omega) (Nat.zero_le _)
          ⟨⟨_, Heap.get?_push_size _ rfl, rfl, rfl⟩, (hl1.push _)⟩ ?hS0 ?hR
        case hS0 =>
          have hget : ((s.heap.push { cls := .type "set", dict := none, data := .set #[] 0 (.fresh 0 0 led) }).push { cls := .type "list_iterator", data := .fields #[.ref l, .int 0 0] }).get? s.heap.objs.size
              = some { cls := .type "set", dict := none, data := .set #[] 0 (.fresh 0 0 led) } := Heap.get?_push_of_some _ hS
          exact PyProof.Rows.SetOf_congrK (S := fun _ => false) (n := 0) ⟨_, #[], 0, _, hget, ⟨rfl, rfl, rfl⟩, rfl, fun e he => by simp at he, fun k => by simp, by unfold scanBound; decide, by rfl, rfl⟩ (fun _ => by rw [List.take_zero, L2.memD_nil]) (by rw [List.take_zero]; rfl)
        case hR =>
          intro s' hm hS'
          obtain ⟨h', g', d', tk', os'⟩ := s'
          have eg : g' = s.gens := hm.gens
          have ed : d' = s.drawn := hm.drawn
          have eo : os' = s.os := hm.os
          subst eg; subst ed; subst eo
          show wpAny _ _ _ _ _ _
          refine wpAny_pure ?_
          show wpAny _ _ (ret Value.none) _ _ _
          refine wpAny_pure ⟨rfl, h', tk', rfl, hS', fun b o hb e => ?_⟩
          have hb1 : b ≠ s.heap.objs.size := Nat.ne_of_lt hb
          have hb2 : b ≠ (s.heap.push { cls := .type "set", dict := none, data := .set #[] 0 (.fresh 0 0 led) }).objs.size := by
            rw [Heap.size_push]; exact Nat.ne_of_lt (Nat.lt_succ_of_lt hb)
          exact hm.heap b o (by simp only [List.mem_cons, List.mem_singleton, List.not_mem_nil, or_false, not_or]; exact ⟨hb1, hb2⟩) (Heap.get?_push_of_some _ (Heap.get?_push_of_some _ e))
      · cases r₂ with
        | error e => exact hr₂
        | ok fl₂ =>
          cases fl₂ with
          | ret r =>
            obtain ⟨rfl, h', tk, rfl, hS', hk'⟩ := hr₂
            repeat (any_goals (first | assumption | wp_step))
            exact h _ _ hS' hk'
          | _ => exact hr₂.elim
    | _ => exact hr.elim
  )
end
end PySem
namespace PySem
section
variable {prog : Program} {w : World} {A : Around} {E : Value → Shared → Prop} {s : Shared}
theorem CmpOf.strs_lt {P : Nat → Value → Prop} (val : Nat → Str) (hval : ∀ i v, P i v → ∃ t, v = .str (val i) t) :
    CmpOf prog w A .Lt P (fun i j => decide ((val i).cps.toList < (val j).cps.toList)) := fun i j vi vj s Q E hi hj h => by
  obtain ⟨t, rfl⟩ := hval i vi hi
  obtain ⟨u, rfl⟩ := hval j vj hj
  exact richCompare_gives (op := .Lt) (typeIs_str s _ t) (typeIs_str s _ u) F.slot_str_lt F.entry_str_lt (F.args_str_lt_2 _ _) (gives_str_lt _ _ t u) (fun x => nomatch x) h
theorem CmpOf.strs_gt {P : Nat → Value → Prop} (val : Nat → Str) (hval : ∀ i v, P i v → ∃ t, v = .str (val i) t) :
    CmpOf prog w A .Gt P (fun i j => decide ((val j).cps.toList < (val i).cps.toList)) := fun i j vi vj s Q E hi hj h => by
  obtain ⟨t, rfl⟩ := hval i vi hi
  obtain ⟨u, rfl⟩ := hval j vj hj
  exact richCompare_gives (op := .Gt) (typeIs_str s _ t) (typeIs_str s _ u) F.slot_str_gt F.entry_str_gt (F.args_str_gt_2 _ _) (gives_str_gt _ _ t u) (fun x => nomatch x) h
def txtAt (a b : Str) (i : Nat) : Str := if i = 0 then a else b
theorem two_txt {a b : Str} {t u : Tok} {i : Nat} {v : Value} (h : (#[Value.str a t, Value.str b u])[i]? = some v) : ∃ t, v = .str (txtAt a b i) t := (by
  match i, h with
  | 0, h => exact ⟨t, by simpa [txtAt] using h.symm⟩
  | 1, h => exact ⟨u, by simpa [txtAt] using h.symm⟩
  | i + 2, h => simp at h
  )
theorem min_two_strs {a b : Str} {t u : Tok} {Q : Value → Shared → Prop} (hh : A.handled = none)
    (h : ∀ h' tk, (∀ c o, s.heap.get? c = some o → h'.get? c = some o) → Q (if b.cps.toList < a.cps.toList then .str b u else .str a t) { s with heap := h', toks := tk }) :
    wpAny (model prog w) A (call (.builtin "min") [.str a t, .str b u]) Q E s := (by
  have hT : (s.heap.push { cls := .type "tuple", data := .seq #[.str a t, .str b u] }).IsTuple s.heap.objs.size #[.str a t, .str b u] := ⟨_, Heap.get?_push_size _ rfl, rfl, 0, rfl⟩
  refine call_min_two (wpAny_pyIter_tuple hT ?_)
  have hsz : (s.heap.push { cls := .type "tuple", data := .seq #[.str a t, .str b u] }).objs.size = s.heap.objs.size + 1 := Heap.size_push ..
  refine ⟨_, [_, s.heap.objs.size], [_], _, _, _, _, rfl, Walks.tuple (A := A.in1) hh _ s.heap.objs.size (by rw [hsz]; exact Nat.ne_of_lt (Nat.lt_succ_self _)) #[.str a t, .str b u],
    ⟨⟨_, Heap.get?_push_size _ rfl, rfl, rfl⟩, hT.push _⟩, fun c hc => ?_, by simp, CmpOf.strs_lt (txtAt a b) (fun _ _ => two_txt), fun v h' tk hP hk => ?_⟩
  · show c < ((s.heap.push _).push _).objs.size
    rw [Heap.size_push, hsz]
    rcases List.mem_cons.mp hc with rfl | hc
    · rw [hsz]; exact Nat.lt_succ_self _
    · rcases List.mem_cons.mp hc with rfl | hc
      · exact Nat.lt_succ_of_lt (Nat.lt_succ_self _)
      · cases hc
  · have hold : ∀ c o, s.heap.get? c = some o → h'.get? c = some o := fun c o e => by
      refine hk c o (fun hm => ?_) (Heap.get?_push_of_some _ (Heap.get?_push_of_some _ e))
      rcases List.mem_cons.mp hm with e1 | hm
      · have := Heap.lt_size e; rw [e1, hsz] at this; exact Nat.lt_irrefl _ (Nat.lt_of_succ_lt this)
      · cases hm
    have := h h' tk hold
    have hP' : (#[Value.str a t, Value.str b u])[argBest (fun i j => decide ((txtAt a b i).cps.toList < (txtAt a b j).cps.toList)) 1]? = some v := hP
    have hv : v = if b.cps.toList < a.cps.toList then Value.str b u else .str a t := by
      by_cases hba : b.cps.toList < a.cps.toList
      · have e : argBest (fun i j => decide ((txtAt a b i).cps.toList < (txtAt a b j).cps.toList)) 1 = 1 := by
          show (if decide ((txtAt a b 1).cps.toList < (txtAt a b 0).cps.toList) = true then 1 else 0) = 1
          exact if_pos (decide_eq_true hba)
        rw [e] at hP'
        rw [if_pos hba]
        exact (Option.some.inj hP').symm
      · have e : argBest (fun i j => decide ((txtAt a b i).cps.toList < (txtAt a b j).cps.toList)) 1 = 0 := by
          show (if decide ((txtAt a b 1).cps.toList < (txtAt a b 0).cps.toList) = true then 1 else 0) = 0
          exact if_neg fun z => hba (of_decide_eq_true z)
        rw [e] at hP'
        rw [if_neg hba]
        exact (Option.some.inj hP').symm
    rw [hv]
    exact this
  )
theorem max_two_strs {a b : Str} {t u : Tok} {Q : Value → Shared → Prop} (hh : A.handled = none)
    (h : ∀ h' tk, (∀ c o, s.heap.get? c = some o → h'.get? c = some o) → Q (if a.cps.toList < b.cps.toList then .str b u else .str a t) { s with heap := h', toks := tk }) :
    wpAny (model prog w) A (call (.builtin "max") [.str a t, .str b u]) Q E s := (by
  have hT : (s.heap.push { cls := .type "tuple", data := .seq #[.str a t, .str b u] }).IsTuple s.heap.objs.size #[.str a t, .str b u] := ⟨_, Heap.get?_push_size _ rfl, rfl, 0, rfl⟩
  refine call_max_two (wpAny_pyIter_tuple hT ?_)
  have hsz : (s.heap.push { cls := .type "tuple", data := .seq #[.str a t, .str b u] }).objs.size = s.heap.objs.size + 1 := Heap.size_push ..
  refine ⟨_, [_, s.heap.objs.size], [_], _, _, _, _, rfl, Walks.tuple (A := A.in1) hh _ s.heap.objs.size (by rw [hsz]; exact Nat.ne_of_lt (Nat.lt_succ_self _)) #[.str a t, .str b u],
    ⟨⟨_, Heap.get?_push_size _ rfl, rfl, rfl⟩, hT.push _⟩, fun c hc => ?_, by simp, CmpOf.strs_gt (txtAt a b) (fun _ _ => two_txt), fun v h' tk hP hk => ?_⟩
  · show c < ((s.heap.push _).push _).objs.size
    rw [Heap.size_push, hsz]
    rcases List.mem_cons.mp hc with rfl | hc
    · rw [hsz]; exact Nat.lt_succ_self _
    · rcases List.mem_cons.mp hc with rfl | hc
      · exact Nat.lt_succ_of_lt (Nat.lt_succ_self _)
      · cases hc
  · have hold : ∀ c o, s.heap.get? c = some o → h'.get? c = some o := fun c o e => by
      refine hk c o (fun hm => ?_) (Heap.get?_push_of_some _ (Heap.get?_push_of_some _ e))
      rcases List.mem_cons.mp hm with e1 | hm
      · have := Heap.lt_size e; rw [e1, hsz] at this; exact Nat.lt_irrefl _ (Nat.lt_of_succ_lt this)
      · cases hm
    have := h h' tk hold
    have hP' : (#[Value.str a t, Value.str b u])[argBest (fun i j => decide ((txtAt a b j).cps.toList < (txtAt a b i).cps.toList)) 1]? = some v := hP
    have hv : v = if a.cps.toList < b.cps.toList then Value.str b u else .str a t := by
      by_cases hba : a.cps.toList < b.cps.toList
      · have e : argBest (fun i j => decide ((txtAt a b j).cps.toList < (txtAt a b i).cps.toList)) 1 = 1 := by
          show (if decide ((txtAt a b 0).cps.toList < (txtAt a b 1).cps.toList) = true then 1 else 0) = 1
          exact if_pos (decide_eq_true hba)
        rw [e] at hP'
        rw [if_pos hba]
        exact (Option.some.inj hP').symm
      · have e : argBest (fun i j => decide ((txtAt a b j).cps.toList < (txtAt a b i).cps.toList)) 1 = 0 := by
          show (if decide ((txtAt a b 0).cps.toList < (txtAt a b 1).cps.toList) = true then 1 else 0) = 0
          exact if_neg fun z => hba (of_decide_eq_true z)
        rw [e] at hP'
        rw [if_neg hba]
        exact (Option.some.inj hP').symm
    rw [hv]
    exact this
  )
end
end PySem
namespace L2
open PySem PySem.Spec PyProof.Rows
section
variable {X : Cx}
theorem call_min2S (hc : X.calm = true) : CallR X (.builtin "min") (fun xs H Q => ∃ i j, xs = [.str i, .str j] ∧ Q (.str (if j.cps.toList < i.cps.toList then j else i)) H) := (by
  intro pins s σ H xs us Q I r h
  obtain ⟨i, j, rfl, q⟩ := h
  obtain ⟨u, w', rfl, ⟨t, rfl⟩, ⟨t', rfl⟩⟩ := vals2 r
  refine min_two_strs (I.ok.hd hc) fun h' tk k => ⟨_, H, I.kept k, ?_, q⟩
  by_cases hj : j.cps.toList < i.cps.toList
  · rw [if_pos hj, if_pos hj]; exact ⟨_, rfl⟩
  · rw [if_neg hj, if_neg hj]; exact ⟨_, rfl⟩
  )
theorem call_max2S (hc : X.calm = true) : CallR X (.builtin "max") (fun xs H Q => ∃ i j, xs = [.str i, .str j] ∧ Q (.str (if i.cps.toList < j.cps.toList then j else i)) H) := (by
  intro pins s σ H xs us Q I r h
  obtain ⟨i, j, rfl, q⟩ := h
  obtain ⟨u, w', rfl, ⟨t, rfl⟩, ⟨t', rfl⟩⟩ := vals2 r
  refine max_two_strs (I.ok.hd hc) fun h' tk k => ⟨_, H, I.kept k, ?_, q⟩
  by_cases hj : i.cps.toList < j.cps.toList
  · rw [if_pos hj, if_pos hj]; exact ⟨_, rfl⟩
  · rw [if_neg hj, if_neg hj]; exact ⟨_, rfl⟩
  )
/-- len(set(xs)), xs a list of numbers and texts -/
def tLenSetK (K : PySem.W.Frag) (ta : TE) : TE := fun σ H Q => ta σ H fun x H1 => ∃ (l : Addr) (ks : List Key), x = V.ref l ∧ SqL K H1 l (ks.map kV) ∧ ks.length ≤ 1000 ∧ Q (.int (metK ks).length) H1
theorem pe_lenSetK {a : Expr} {ta : TE} {p p2 q pos : Pos} (hc : X.calm = true) (hm : X.mg "len" = none) (hm2 : X.mg "set" = none) (ha : PE X a ta) (hg : Gl X "len" := by rfl) (hg2 : Gl X "set" := by rfl)
    (na : starEach [a] X.env = (false, eval a X.env) :: starEach [] X.env := by rfl) : PE X (.Call (.Name "len" p) [.Call (.Name "set" p2) [a] [] q] [] pos) (tLenSetK X.K ta) := (by
  refine ⟨fun pins s σ H Q I h => ?_⟩
  refine Call_ (ld_blt I hg hm boot_len ?_)
  refine PyProof.Rows.callWith_builtin1 (PyProof.Rows.args_cons ?_ rfl) rfl rfl
  refine Call_ (ld_blt I hg2 hm2 boot_set ?_)
  refine PyProof.Rows.callWith_type1 (PyProof.Rows.args_cons (thn (ha.run pins s σ H _ I h) fun v s1 ⟨x, H1, I1, r1, q1⟩ => PyProof.Rows.args_nil ?_) na) na rfl
  obtain ⟨l, ks, rfl, hq, h1, q1⟩ := q1
  cases r1
  obtain ⟨its, r, pl, hz⟩ := I1.list hq
  have hl : its.toArray.size = ks.length := by rw [List.size_toArray, ← r.length, List.length_map]
  refine PySem.call_set_listK (ks := ks) (I1.ok.hd hc) pl.isList hl.symm (fun i v hv => ?_) (by rw [hl]; unfold scanBound; omega) fun h' tk hS hk => ?_
  · have hi : i < ks.length := by rw [← hl]; exact (Array.getElem?_eq_some_iff.mp hv).1
    obtain ⟨u, hu, ru⟩ := r.get (i := i) (x := kV ks[i]) (by rw [List.getElem?_map, List.getElem?_eq_getElem hi]; rfl)
    have : v = u := by
      have : its[i]? = some v := by simpa using hv
      rw [this] at hu
      exact Option.some.inj hu
    subst this
    exact ⟨ks[i], List.getElem?_eq_getElem hi, kV_is ru, key_scan ru⟩
  · refine PyProof.Rows.args_nil ?_
    obtain ⟨o, es, ep, t, ho, hex, hd, _, _, _, hf, hn⟩ := hS
    have I2 : Inv X pins σ H1 { s1 with heap := h', toks := tk } := I1.kept fun b o e => hk b o (Heap.lt_size e) e
    have hle := metK_le (ks := ks)
    refine call_len_set ho hex hd hf (by rw [hn]; omega) ⟨.int (metK ks).length, H1, I2.tok _, ⟨_, by rw [hn]⟩, q1⟩
  )
end
end L2

namespace Dl
open PySem PySem.Spec PyProof.Rows L2
theorem hu1 {k : Nat} {A : Around} (r : Room k A) : A.units + 1 < cLine := by have := r.units; omega
section
variable {X : Cx} {a b : Expr} {es : List Expr} {ta tb : TD} {tl : TL} {p p2 pos q : Pos} {n : Str}
def fMin2S (xs : List PyData) (Q : PyData → Prop) : Prop := arg2 xs fun x y => asS x fun i => asS y fun j => Q (.str (if j.cps.toList < i.cps.toList then j else i))
def fMax2S (xs : List PyData) (Q : PyData → Prop) : Prop := arg2 xs fun x y => asS x fun i => asS y fun j => Q (.str (if i.cps.toList < j.cps.toList then j else i))
theorem d_min2S (hc : X.calm = true) (hm : X.mg "min" = none) (ha : DA X (a :: es) tl) (hg : Gl X "min" := by rfl) (he : starEach (a :: es) X.env = (false, eval a X.env) :: starEach es X.env := by rfl) (hpl : (backTo pos (starEach es X.env)).any (·.1) = false := by rfl) : DE X (.Call (.Name "min" p) (a :: es) [] pos) (uCB fMin2S tl) := (by
  refine d_callB (call_min2S hc) (fun B c s G H vs xs Q R st da h k => ?_) hm (by decide +kernel) ha hg (by decide) (by decide) he hpl
  obtain ⟨x, y, rfl, h⟩ := arg2_of h
  obtain ⟨i, rfl, h⟩ := asS_of h
  obtain ⟨j, rfl, q⟩ := asS_of h
  obtain ⟨v, w, rfl, d1, d2⟩ := dpa_2 da
  cases d1
  cases d2
  exact ⟨i, j, rfl, k _ _ G H st (Same.refl _) (.str _) q⟩
  )
theorem d_max2S (hc : X.calm = true) (hm : X.mg "max" = none) (ha : DA X (a :: es) tl) (hg : Gl X "max" := by rfl) (he : starEach (a :: es) X.env = (false, eval a X.env) :: starEach es X.env := by rfl) (hpl : (backTo pos (starEach es X.env)).any (·.1) = false := by rfl) : DE X (.Call (.Name "max" p) (a :: es) [] pos) (uCB fMax2S tl) := (by
  refine d_callB (call_max2S hc) (fun B c s G H vs xs Q R st da h k => ?_) hm (by decide +kernel) ha hg (by decide) (by decide) he hpl
  obtain ⟨x, y, rfl, h⟩ := arg2_of h
  obtain ⟨i, rfl, h⟩ := asS_of h
  obtain ⟨j, rfl, q⟩ := asS_of h
  obtain ⟨v, w, rfl, d1, d2⟩ := dpa_2 da
  cases d1
  cases d2
  exact ⟨i, j, rfl, k _ _ G H st (Same.refl _) (.str _) q⟩
  )
theorem nodup_keys {ds : List PyData} (h : ∀ d ∈ ds, isAt d) : (ds.map kOf).Nodup ↔ ds.Nodup := (by
  have inj : ∀ {x y : PyData}, isAt x → isAt y → kOf x = kOf y → x = y := fun hx hy e => by rw [← keyD_kOf hx, ← keyD_kOf hy, e]
  unfold List.Nodup
  rw [List.pairwise_map]
  constructor
  · exact fun q => q.imp fun z e => z (by rw [e])
  · intro q
    refine List.Pairwise.imp_of_mem (R := fun a b => a ≠ b) (fun ha hb z e => z (inj (h _ ha) (h _ hb) e)) q
  )
/-- len(set(xs)), xs a list of numbers and texts: as many as there are unlike ones -/
def uLenSet (ta : TD) : TD := fun c Q => ta c fun x c1 => asL x fun ds => ds.length ≤ 1000 ∧ (∀ d ∈ ds, isAt d) ∧ ∀ m : Nat, m ≤ ds.length → (m = ds.length ↔ ds.Nodup) → Q (.int m) c1
theorem d_lenSet (hc : X.calm = true) (hm : X.mg "len" = none) (hm2 : X.mg "set" = none) (ha : DE X a ta) (hg : Gl X "len" := by rfl) (hg2 : Gl X "set" := by rfl)
    (na : starEach [a] X.env = (false, eval a X.env) :: starEach [] X.env := by rfl) : DE X (.Call (.Name "len" p) [.Call (.Name "set" p2) [a] [] q] [] pos) (uLenSet ta) := (by
  obtain ⟨tea, pa, va⟩ := ha.ex
  refine ⟨_, pe_lenSetK hc hm hm2 pa hg hg2 na, fun B c s G H Q R st q k => va B c s G H _ _ st q fun v x c1 G1 H1 st1 e1 d1 q1 => ?_⟩
  obtain ⟨ds, rfl, hl, hat, q1⟩ := asL_of q1
  obtain ⟨l, vs, rfl, h1, h2⟩ := dp_lst d1
  refine ⟨l, ds.map kOf, rfl, by rw [kVs_vAt hat, ← dpa_at hat h2]; exact Same.seq st1.sub h1, by rw [List.length_map]; exact hl, ?_⟩
  refine k _ _ c1 G1 H1 st1 e1 (.int _) (q1 (metK (ds.map kOf)).length ?_ ?_)
  · have := metK_le (ks := ds.map kOf)
    rwa [List.length_map] at this
  · have := metK_nd (ks := ds.map kOf)
    rw [List.length_map, nodup_keys hat] at this
    exact this
  )
/-- isinstance(e, (classes)) -/
structure Clss (X : Cx) (es : List Expr) (as : List Addr) : Prop where
  ex : ∃ t, PA X es t ∧ ∀ σ H (Q : List V → Hp → Prop), Q (as.map V.ref) H → t σ H Q
end
end Dl

/-! Dicts whose keys are tuples: d.values(), keys that are data. -/
namespace L2
open PySem PySem.Spec PyProof.Rows
section
variable {X : Cx} {pins : List (Addr × Obj)} {σ : St} {H : Hp} {s : Shared} {d : Addr} {o : Obj}
end
section
variable {P : Program} {w : World} {K : PySem.W.Frag} {tg : Expr} {d : Addr} {o : Obj} {es : Array DictEntry} {ep : Nat}
end
section
variable {X : Cx} {tg e : Expr} {td : TE} {apos cpos : Pos}
end
/-! ### keys that are data: a tuple of the heap, however it is held -/
section
variable {X : Cx} {pins : List (Addr × Obj)} {σ : St} {H : Hp} {s : Shared} {a b : Addr} {v : V} {Q : Value → Shared → Prop} {A : Around} {E : Value → Shared → Prop}
end
end L2
namespace Dl
open PySem PySem.Spec PyProof.Rows L2
section
variable {K : PySem.W.Frag} {B : Base} {G H : Hp} {c : Ctx} {s : L2.St}
/-- the dict of slot j -/
theorem Stt.dic (st : Stt K B c s G H) {j : Nat} {w : Option Lt} {kvs : List (PyData × PyData)} (e : c[j]? = some (.o w (.dic kvs))) : ∃ p ws, s[j]? = some (some (.ref p)) ∧ H p = some (.dT ws) ∧ DicE K G ws kvs ∧
    ∀ ws' kvs', DicE K G ws' kvs' → Stt K B (c.set j (.o w (.dic kvs'))) s G (upd H p (.dT ws')) := (by
  obtain ⟨v, A1, g1, ⟨p, ws, rfl, rfl, h1, h2⟩, nd, wr⟩ := st.foc e
  refine ⟨p, ws, g1, h1, h2, fun ws' kvs' h' => wr _ (.dic kvs') [p] (fun a ha => ?_) (fun a ha => .inl ha) (fun a ha => ?_) (by simp) ⟨p, ws', rfl, rfl, upd_same, h'⟩⟩
  · simp at ha
    rw [upd_ne ha]
  · simp at ha
    subst ha
    rw [upd_same]; exact fun z => nomatch z
  )
end
section
variable {X : Cx} {a : Expr} {ta : TD} {x y : Str} {p pos apos cpos p1 p2 : Pos}
/-! ### for y in d.values() -/
def lkP (p : Addr) (od : Obj) (ws : List (List L2.Key × V)) (kvs : List (PyData × PyData)) : ResG where
  nt _ _ _ _ _ h := by
    obtain ⟨rfl, rfl, h1, h2⟩ := h
    intro a ha o e
    obtain rfl : a = p := by simpa using ha
    rw [h1] at e
    cases e; rfl
  P K G H v A := v = .ref p ∧ A = [p] ∧ H p = some (.frz od (.dT ws)) ∧ DicE K G ws kvs
  grow _ _ _ _ _ _ h e := ⟨h.1, h.2.1, h.2.2.1, dicE_mono h.2.2.2 e⟩
  loc _ _ _ _ _ _ h k := by
    obtain ⟨rfl, rfl, h1, h2⟩ := h
    exact ⟨rfl, rfl, (k p (by simp)).trans h1, h2⟩
  here _ _ _ _ _ h := by
    obtain ⟨rfl, rfl, h1, h2⟩ := h
    intro a ha
    obtain rfl : a = p := by simpa using ha
    rw [h1]; exact fun z => nomatch z
end
section
variable {K : PySem.W.Frag} {B : Base} {G H : Hp} {c : Ctx} {s : L2.St}
theorem Stt.locked (st : Stt K B c s G H) {j : Nat} {w : Option Lt} {p : Addr} {od : Obj} {ws : List (List L2.Key × V)} {kvs : List (PyData × PyData)} (e : c[j]? = some (.o w (.gen (lkP p od ws kvs)))) :
    H p = some (.frz od (.dT ws)) ∧ DicE K G ws kvs ∧ Stt K B (c.set j (.o w (.dic kvs))) s G (upd H p (.dT ws)) := (by
  obtain ⟨v, A1, g1, ⟨rfl, rfl, h1, h2⟩, nd, wr⟩ := st.foc e
  refine ⟨h1, h2, wr _ (.dic kvs) [p] (fun a ha => ?_) (fun a ha => .inl ha) (fun a ha => ?_) (by simp) ⟨p, ws, rfl, rfl, upd_same, h2⟩⟩
  · simp at ha
    rw [upd_ne ha]
  · simp at ha
    subst ha
    rw [upd_same]; exact fun z => nomatch z
  )
end
section
variable {X : Cx} {x y : Str} {p pos apos cpos yp : Pos}
end
end Dl
namespace L2
open PySem PySem.Spec PyProof.Rows
section
variable {X : Cx} {e : Expr} {td : TE} {p apos cpos pos : Pos}
end
end L2
namespace Dl
open PySem PySem.Spec PyProof.Rows L2
section
variable {X : Cx} {x : Str} {p p2 apos cpos pos pn ps : Pos}
end
end Dl

/-! Trees of one's own: places, reading, changing; calls that answer anything. -/
namespace Dl
open PySem PySem.Spec PyProof.Rows L2
/-! ### parts of trees -/
def OT.ch : OT → List OT
  | .dat _ => []
  | .lst ts => ts
  | .tup ts => ts
  | .dic _ _ _ ts => ts
  | .obj _ _ ts => ts
def OT.wch : OT → List OT → OT
  | .dat x, _ => .dat x
  | .lst _, ts => .lst ts
  | .tup _, ts => .tup ts
  | .dic P w ks _, ts => .dic P w ks ts
  | .obj C fs _, ts => .obj C fs ts
def OT.get : OT → List Nat → Option OT
  | T, [] => some T
  | T, n :: π => match T.ch[n]? with
    | some t => t.get π
    | none => none
def OT.upd : OT → OT → List Nat → OT
  | _, T', [] => T'
  | T, T', n :: π => T.wch (T.ch.set n (OT.upd ((T.ch[n]?).getD (.dat .none)) T' π))
/-- a part looked at and changed -/
structure FocT (K : PySem.W.Frag) (G H : Hp) (A : List Addr) (t : OT) (v : V) (A1 : List Addr) (up : Hp → Hp → OT → List Addr → Prop) : Prop where
  own : OwnT K G H t v A1
  nd : A1.Nodup
  sub : ∀ a ∈ A1, a ∈ A
  put : ∀ {G' H' : Hp} {t' : OT} {A1' : List Addr}, Same G G' → (∀ a ∈ A, a ∉ A1 → H' a = H a) → OwnT K G' H' t' v A1' → A1'.Nodup → (∀ a ∈ A1', a ∈ A1 ∨ a ∉ A) → ∃ A', up G' H' t' A' ∧ A'.Nodup ∧ (∀ a ∈ A', a ∈ A1' ∨ (a ∈ A ∧ a ∉ A1)) ∧ ∀ a ∈ A1', a ∈ A'
section
variable {K : PySem.W.Frag} {G H : Hp}
theorem ots_len : ∀ {ts : List OT} {vs : List V} {A : List Addr}, OwnTs K G H ts vs A → vs.length = ts.length
  | [], _, _, h => by cases h; rfl
  | t :: ts, _, _, h => by
    cases h with
    | cons h1 h2 => rw [List.length_cons, List.length_cons, ots_len h2]
theorem ots_focus : ∀ {ts : List OT} {vs : List V} {A : List Addr} {n : Nat} {t : OT}, OwnTs K G H ts vs A → A.Nodup → ts[n]? = some t → ∃ v A1, vs[n]? = some v ∧ FocT K G H A t v A1 (fun G' H' t' A' => OwnTs K G' H' (ts.set n t') vs A')
  | [], _, _, n, _, _, _, h => by simp at h
  | t :: ts, _, _, 0, t0, h, nd, e => by
    cases h with
    | @cons _ _ v vs Ah At h1 h2 =>
      obtain ⟨n1, n2, n3⟩ := List.nodup_append.mp nd
      simp at e
      subst e
      refine ⟨v, Ah, rfl, h1, n1, fun a ha => List.mem_append_left _ ha, fun {G' H' t' A1'} e1 e2 e3 e4 e5 => ?_⟩
      have nin : ∀ a ∈ At, a ∉ Ah := fun a ha z => n3 a z a ha rfl
      refine ⟨A1' ++ At, .cons e3 (ots_mono e1 ts _ _ h2 fun a ha => e2 a (List.mem_append_right _ ha) (nin a ha)), ?_, fun a ha => ?_, fun a ha => List.mem_append_left _ ha⟩
      · refine List.nodup_append.mpr ⟨e4, n2, fun a ha b hb e => ?_⟩
        subst e
        rcases e5 a ha with z | z
        · exact nin a hb z
        · exact z (List.mem_append_right _ hb)
      · rcases List.mem_append.mp ha with z | z
        · exact .inl z
        · exact .inr ⟨List.mem_append_right _ z, nin a z⟩
  | t :: ts, _, _, n + 1, t0, h, nd, e => by
    cases h with
    | @cons _ _ v vs Ah At h1 h2 =>
      obtain ⟨n1, n2, n3⟩ := List.nodup_append.mp nd
      obtain ⟨u, A1, g1, F⟩ := ots_focus (n := n) h2 n2 (by simpa using e)
      refine ⟨u, A1, by simpa using g1, F.own, F.nd, fun a ha => List.mem_append_right _ (F.sub a ha), fun {G' H' t' A1'} e1 e2 e3 e4 e5 => ?_⟩
      have nA1 : ∀ a ∈ Ah, a ∉ A1 := fun a ha z => n3 a ha a (F.sub a z) rfl
      obtain ⟨A', r, m1, m2, m3⟩ := F.put e1 (fun a ha hn => e2 a (List.mem_append_right _ ha) hn) e3 e4 fun a ha => by
        rcases e5 a ha with z | z
        · exact .inl z
        · exact .inr fun y => z (List.mem_append_right _ y)
      refine ⟨Ah ++ A', .cons (ot_mono e1 t _ _ h1 fun a ha => e2 a (List.mem_append_left _ ha) (nA1 a ha)) r, ?_, fun a ha => ?_, fun a ha => List.mem_append_right _ (m3 a ha)⟩
      · refine List.nodup_append.mpr ⟨n1, m1, fun a ha b hb e => ?_⟩
        subst e
        rcases m2 a hb with z | ⟨z, _⟩
        · rcases e5 a z with y | y
          · exact nA1 a ha y
          · exact y (List.mem_append_left _ ha)
        · exact n3 a ha a z rfl
      · rcases List.mem_append.mp ha with z | z
        · exact .inr ⟨List.mem_append_left _ z, nA1 a z⟩
        · rcases m2 a z with y | ⟨y1, y2⟩
          · exact .inl y
          · exact .inr ⟨List.mem_append_right _ y1, y2⟩
/-- a node: its own addresses, its children -/
inductive Node (K : PySem.W.Frag) (G H : Hp) : OT → V → List Addr → List V → List Addr → Prop
  | lst {p : Addr} {ts : List OT} {vs : List V} {A : List Addr} : H p = some (.lst vs) → OwnTs K G H ts vs A → Node K G H (.lst ts) (.ref p) [p] vs A
  | tup {p : Addr} {ts : List OT} {vs : List V} {A : List Addr} : G p = some (.tup vs) → OwnTs K G H ts vs A → Node K G H (.tup ts) (.ref p) [] vs A
  | dic {P : Program} {w : World} {p : Addr} {kb : List (NestedKey × Addr)} {ks : List PyData} {ts : List OT} {vs : List V} {A : List Addr} : H p = some (NkO P w p kb vs) → (kb.length = vs.length ∧ DpAll K G (kb.map fun x => .ref x.2) ks ∧ (∀ k ∈ ks, keyOk k) ∧ kb.map (·.1) = ks.map nkOf) → OwnTs K G H ts vs A → Node K G H (.dic P w ks ts) (.ref p) [p] vs A
  | obj {p dx : Addr} {C : Str} {fs : List Str} {ts : List OT} {vs : List V} {A : List Addr} : H p = some (.ins (He.ga K C) dx (fs.zip vs)) → H dx = some (.own p) → fs.length = vs.length → OwnTs K G H ts vs A → Node K G H (.obj C fs ts) (.ref p) [p, dx] vs A
theorem Node.kids {T : OT} {v : V} {A0 A : List Addr} {vs : List V} (h : Node K G H T v A0 vs A) : OwnTs K G H T.ch vs A := (by
  cases h <;> assumption
  )
theorem Node.mono {T : OT} {v : V} {A0 A : List Addr} {vs : List V} (h : Node K G H T v A0 vs A) {G' H' : Hp} (e : Same G G') (k : ∀ a ∈ A0, H' a = H a) (k2 : ∀ a ∈ A, H' a = H a) : Node K G' H' T v A0 vs A := (by
  cases h with
  | lst h1 h2 => exact .lst ((k _ List.mem_cons_self).trans h1) (ots_mono e _ _ _ h2 k2)
  | tup h1 h2 => exact .tup (e _ _ h1) (ots_mono e _ _ _ h2 k2)
  | dic h1 h3 h2 => exact .dic ((k _ List.mem_cons_self).trans h1) ⟨h3.1, dpa_mono e _ _ h3.2.1, h3.2.2⟩ (ots_mono e _ _ _ h2 k2)
  | obj h1 h3 h4 h2 => exact .obj ((k _ List.mem_cons_self).trans h1) ((k _ (List.mem_cons_of_mem _ List.mem_cons_self)).trans h3) h4 (ots_mono e _ _ _ h2 k2)
  )
theorem Node.mk {T : OT} {v : V} {A0 A : List Addr} {vs : List V} (h : Node K G H T v A0 vs A) {G' H' : Hp} {ts : List OT} {A' : List Addr} (e : Same G G') (k : ∀ a ∈ A0, H' a = H a) (h' : OwnTs K G' H' ts vs A') : OwnT K G' H' (T.wch ts) v (A0 ++ A') := (by
  cases h with
  | lst h1 _ => exact .lst ((k _ List.mem_cons_self).trans h1) h'
  | tup h1 _ => exact .tup (e _ _ h1) h'
  | dic h1 h2 _ => exact .dic ((k _ List.mem_cons_self).trans h1) ⟨h2.1, dpa_mono e _ _ h2.2.1, h2.2.2⟩ h'
  | obj h1 h2 h3 _ => exact .obj ((k _ List.mem_cons_self).trans h1) ((k _ (List.mem_cons_of_mem _ List.mem_cons_self)).trans h2) h3 h'
  )
theorem node_of {T : OT} {v : V} {A : List Addr} (h : OwnT K G H T v A) {n : Nat} {t : OT} (hn : T.ch[n]? = some t) : ∃ A0 vs A', A = A0 ++ A' ∧ Node K G H T v A0 vs A' := (by
  cases h with
  | dat _ => simp [OT.ch] at hn
  | @lst p _ vs A h1 h2 => exact ⟨[p], vs, A, rfl, .lst h1 h2⟩
  | @tup p _ vs A h1 h2 => exact ⟨[], vs, _, rfl, .tup h1 h2⟩
  | @dic _ _ p _ _ _ vs A h1 h3 h2 => exact ⟨[p], vs, A, rfl, .dic h1 h3 h2⟩
  | @obj p dx _ _ _ vs A h1 h3 h4 h2 => exact ⟨[p, dx], vs, A, rfl, .obj h1 h3 h4 h2⟩
  )
/-- a child of a part -/
theorem FocT.child {A : List Addr} {T : OT} {v : V} {A1 : List Addr} {up : Hp → Hp → OT → List Addr → Prop} (F : FocT K G H A T v A1 up) {n : Nat} {t : OT} (hn : T.ch[n]? = some t) :
    ∃ A0 vs As u A2, Node K G H T v A0 vs As ∧ (∀ a ∈ A0, a ∈ A) ∧ (∀ a ∈ As, a ∈ A) ∧ vs[n]? = some u ∧ FocT K G H A t u A2 (fun G' H' t' A' => up G' H' (T.wch (T.ch.set n t')) A') := (by
  obtain ⟨A0, vs, As, rfl, N⟩ := node_of F.own hn
  obtain ⟨n1, n2, n3⟩ := List.nodup_append.mp F.nd
  obtain ⟨u, A2, g1, F2⟩ := ots_focus N.kids n2 hn
  refine ⟨A0, vs, As, u, A2, N, fun a ha => F.sub a (List.mem_append_left _ ha), fun a ha => F.sub a (List.mem_append_right _ ha), g1, F2.own, F2.nd, fun a ha => F.sub a (List.mem_append_right _ (F2.sub a ha)), fun {G' H' t' A1'} e1 e2 e3 e4 e5 => ?_⟩
  have z0 : ∀ a ∈ A0, a ∉ A2 := fun a ha z => n3 a ha a (F2.sub a z) rfl
  obtain ⟨A', r, m1, m2, m3⟩ := F2.put e1 (fun a ha hn => e2 a (F.sub a (List.mem_append_right _ ha)) hn) e3 e4 fun a ha => by
    rcases e5 a ha with z | z
    · exact .inl z
    · exact .inr fun y => z (F.sub a (List.mem_append_right _ y))
  have own' := N.mk e1 (fun a ha => e2 a (F.sub a (List.mem_append_left _ ha)) (z0 a ha)) r
  have dj : ∀ a ∈ A0, a ∉ A' := fun a ha z => by
    rcases m2 a z with y | ⟨y, _⟩
    · rcases e5 a y with q | q
      · exact z0 a ha q
      · exact q (F.sub a (List.mem_append_left _ ha))
    · exact n3 a ha a y rfl
  obtain ⟨A'', r', k1, k2, k3⟩ := F.put e1 (fun a ha hn => e2 a ha fun z => hn (List.mem_append_right _ (F2.sub a z))) own' (List.nodup_append.mpr ⟨n1, m1, fun a ha b hb e => dj a ha (e ▸ hb)⟩) fun a ha => by
    rcases List.mem_append.mp ha with z | z
    · exact .inl (List.mem_append_left _ z)
    · rcases m2 a z with y | ⟨y, _⟩
      · rcases e5 a y with q | q
        · exact .inl (List.mem_append_right _ (F2.sub a q))
        · exact .inr q
      · exact .inl (List.mem_append_right _ y)
  refine ⟨A'', r', k1, fun a ha => ?_, fun a ha => k3 a (List.mem_append_right _ (m3 a ha))⟩
  rcases k2 a ha with z | ⟨z1, z2⟩
  · rcases List.mem_append.mp z with y | y
    · exact .inr ⟨F.sub a (List.mem_append_left _ y), z0 a y⟩
    · rcases m2 a y with q | ⟨q1, q2⟩
      · exact .inl q
      · exact .inr ⟨F.sub a (List.mem_append_right _ q1), q2⟩
  · exact .inr ⟨z1, fun y => z2 (List.mem_append_right _ (F2.sub a y))⟩
  )
theorem get_app : ∀ {π : List Nat} {T t t' : OT} {n : Nat}, T.get π = some t → t.ch[n]? = some t' → T.get (π ++ [n]) = some t' ∧ ∀ x, T.upd x (π ++ [n]) = T.upd (t.wch (t.ch.set n x)) π
  | [], T, t, t', n, h, e => by
    cases h
    refine ⟨?_, fun x => rfl⟩
    show (match T.ch[n]? with
      | some t => t.get []
      | none => none) = some t'
    rw [e]; rfl
  | m :: π, T, t, t', n, h, e => by
    have h : (match T.ch[m]? with
      | some t => t.get π
      | none => none) = some t := h
    cases hm : T.ch[m]? with
    | none => rw [hm] at h; cases h
    | some s =>
      rw [hm] at h
      obtain ⟨i1, i2⟩ := get_app (π := π) h e
      refine ⟨?_, fun x => ?_⟩
      · show (match T.ch[m]? with
          | some t => t.get (π ++ [n])
          | none => none) = some t'
        rw [hm]
        exact i1
      · show T.wch (T.ch.set m (OT.upd ((T.ch[m]?).getD (.dat .none)) x (π ++ [n]))) = T.wch (T.ch.set m (OT.upd ((T.ch[m]?).getD (.dat .none)) _ π))
        rw [hm, Option.getD_some, i2]
end
/-! ### pins: a thing of one's own held as it is -/
def pinR (v0 : V) (A0 : List Addr) (H0 : Hp) : ResG where
  P _ _ H v A := v = v0 ∧ A = A0 ∧ (∀ a ∈ A0, H a = H0 a) ∧ ∀ a ∈ A0, H a ≠ none ∧ ∀ o, H a = some o → isTup o = false
  grow _ _ _ _ _ _ h _ := h
  loc _ _ H H' v A h k := by
    obtain ⟨rfl, rfl, h1, h2⟩ := h
    exact ⟨rfl, rfl, fun a ha => (k a ha).trans (h1 a ha), fun a ha => by rw [k a ha]; exact h2 a ha⟩
  here _ _ _ _ _ h := by
    obtain ⟨rfl, rfl, h1, h2⟩ := h
    exact fun a ha => (h2 a ha).1
  nt _ _ _ _ _ h := by
    obtain ⟨rfl, rfl, h1, h2⟩ := h
    exact fun a ha => (h2 a ha).2
section
variable {K : PySem.W.Frag} {B : Base} {G H : Hp} {c : Ctx} {s : L2.St}
theorem Stt.pin (st : Stt K B c s G H) {j : Nat} {w : Option Lt} {R : Res} (e : c[j]? = some (.o w R)) : ∃ v A, s[j]? = some (some v) ∧ R.P K G H v A ∧ A.Nodup ∧ Stt K B (c.set j (.o w (.gen (pinR v A H)))) s G H := (by
  obtain ⟨v, A, g, h, nd, wr⟩ := st.foc e
  have here := Res.here h
  exact ⟨v, A, g, h, nd, wr H (.gen (pinR v A H)) A (fun _ _ => rfl) (fun a ha => .inl ha) here nd ⟨rfl, rfl, fun _ _ => rfl, fun a ha => ⟨here a ha, Res.nt h a ha⟩⟩⟩
  )
theorem Stt.unpin (st : Stt K B c s G H) {j : Nat} {w : Option Lt} {v : V} {A : List Addr} {H0 : Hp} (e : c[j]? = some (.o w (.gen (pinR v A H0)))) : s[j]? = some (some v) ∧ (∀ a ∈ A, H a = H0 a) ∧
    ∀ (H' : Hp) (R' : Res) (A' : List Addr), (∀ a, a ∉ A' → H' a = H a) → (∀ a ∈ A', a ∈ A ∨ H a = none) → (∀ a ∈ A', H' a ≠ none) → A'.Nodup → R'.P K G H' v A' → Stt K B (c.set j (.o w R')) s G H' := (by
  obtain ⟨v', A', g, ⟨rfl, rfl, h1, h2⟩, nd, wr⟩ := st.foc e
  exact ⟨g, h1, wr⟩
  )
theorem Stt.unpin2 {Rt : Res} {vt : V} (st : Stt K B (.o none Rt :: c) (some vt :: s) G H) {j : Nat} {w : Option Lt} {v : V} {A : List Addr} {H0 : Hp} (e : c[j]? = some (.o w (.gen (pinR v A H0)))) : ∃ At, s[j]? = some (some v) ∧ (∀ a ∈ A, H a = H0 a) ∧ Rt.P K G H vt At ∧ (A ++ At).Nodup ∧
    ∀ (H' : Hp) (R' : Res) (A' : List Addr), (∀ a, a ∉ A' → H' a = H a) → (∀ a ∈ A', a ∈ A ∨ a ∈ At ∨ H a = none) → (∀ a ∈ A', H' a ≠ none) → A'.Nodup → R'.P K G H' v A' → Stt K B (c.set j (.o w R')) s G H' := (by
  obtain ⟨v', A', At, g, ⟨rfl, rfl, h1, h2⟩, ht, nd, wr⟩ := st.foc2 e
  exact ⟨At, g, h1, ht, nd, wr⟩
  )
theorem set_back {c : Ctx} {j : Nat} {x y : S} (e : c[j]? = some x) : (c.set j y).set j x = c := (by
  rw [List.set_set]
  refine List.ext_getElem? fun i => ?_
  by_cases h : j = i
  · subst h
    rw [List.getElem?_set_self (List.getElem?_eq_some_iff.mp e).1, e]
  · rw [List.getElem?_set_ne h]
  )
end
/-! ### calm expressions: they lay frozen things at most -/
abbrev TC := Ctx → (PyData → Prop) → Prop
def DCv (K : PySem.W.Frag) (te : TE) (t : TC) : Prop := ∀ (B : Base) (c : Ctx) (s : L2.St) (G H : Hp) (Q : PyData → Prop) (R : VK), Stt K B c s G H → t c Q →
  (∀ v x G' H', (∀ (B2 : Base) c2 s2, Stt K B2 c2 s2 G H → Stt K B2 c2 s2 G' H') → Same G G' → Same H H' → Dp K G' v x → Q x → R v H') → te s H R
structure DC (X : Cx) (e : Expr) (t : TC) : Prop where
  ex : ∃ te, PE X e te ∧ DCv X.K te t
abbrev TCs := Ctx → (List PyData → Prop) → Prop
def DCsv (K : PySem.W.Frag) (te : TA) (t : TCs) : Prop := ∀ (B : Base) (c : Ctx) (s : L2.St) (G H : Hp) (Q : List PyData → Prop) (R : List V → Hp → Prop), Stt K B c s G H → t c Q →
  (∀ vs xs G' H', (∀ (B2 : Base) c2 s2, Stt K B2 c2 s2 G H → Stt K B2 c2 s2 G' H') → Same G G' → Same H H' → DpAll K G' vs xs → Q xs → R vs H') → te s H R
structure DCs (X : Cx) (es : List Expr) (t : TCs) : Prop where
  ex : ∃ te, PA X es te ∧ DCsv X.K te t
def kC (x : PyData) : TC := fun _ Q => Q x
section
variable {X : Cx} {pos : Pos} {e : Expr} {es : List Expr} {t : TC} {u : TCs}
theorem k_int {i j} : DC X (.Constant (.int i) j pos) (kC (.int i)) := ⟨_, pe_int, fun _ c _ G H _ _ st h k => k _ _ G H (fun _ _ _ z => z) (Same.refl _) (Same.refl _) (.int i) h⟩
end
end Dl

/-! Trees of one's own: rules. -/
namespace Dl
open PySem PySem.Spec PyProof.Rows L2
def asTr (R : Res) (Q : OT → Prop) : Prop := match R with
  | .tr t => Q t
  | _ => False
theorem asTr_t {t : OT} {Q : OT → Prop} : asTr (.tr t) Q = Q t := id rfl
theorem asTr_of {R : Res} {Q : OT → Prop} (h : asTr R Q) : ∃ t, R = .tr t ∧ Q t := (by
  cases R <;> first | exact ⟨_, rfl, h⟩ | exact False.elim h
  )
/-- a list of data -/
def asDs (t : OT) (Q : List PyData → Prop) : Prop := ∃ xs : List PyData, t = .lst (xs.map .dat) ∧ Q xs
theorem dats_in : ∀ {xs ys : List PyData}, xs.map OT.dat = ys.map OT.dat → xs = ys
  | [], [], _ => rfl
  | [], _ :: _, h => by cases h
  | _ :: _, [], h => by cases h
  | x :: xs, y :: ys, h => by
    rw [List.map_cons, List.map_cons] at h
    injection h with h1 h2
    injection h1 with h1
    rw [h1, dats_in h2]
theorem asDs_l {xs : List PyData} {Q : List PyData → Prop} : asDs (.lst (xs.map .dat)) Q = Q xs := propext ⟨fun ⟨ys, e, q⟩ => by
  injection e with e
  rw [dats_in e]; exact q, fun q => ⟨xs, rfl, q⟩⟩
theorem asDs_n {Q : List PyData → Prop} : asDs (.lst []) Q = Q [] := asDs_l (xs := [])
section
variable {K : PySem.W.Frag} {G H : Hp}
theorem ots_dats : ∀ {xs : List PyData} {vs : List V} {A : List Addr}, OwnTs K G H (xs.map .dat) vs A → A = [] ∧ DpAll K G vs xs
  | [], _, _, h => by cases h; exact ⟨rfl, .nil⟩
  | x :: xs, _, _, h => by
    cases h with
    | cons h1 h2 =>
      cases h1 with
      | dat d =>
        obtain ⟨rfl, d2⟩ := ots_dats h2
        exact ⟨rfl, .cons d d2⟩
theorem dats_ots : ∀ {xs : List PyData} {vs : List V}, DpAll K G vs xs → OwnTs K G H (xs.map .dat) vs []
  | [], _, h => by cases h; exact .nil
  | x :: xs, _, h => by
    cases h with
    | cons h1 h2 => exact .cons (A := []) (.dat h1) (dats_ots h2)
theorem ots_app : ∀ {ts us : List OT} {vs ws : List V} {A A' : List Addr}, OwnTs K G H ts vs A → OwnTs K G H us ws A' → OwnTs K G H (ts ++ us) (vs ++ ws) (A ++ A')
  | [], _, _, _, _, _, h, h' => by cases h; exact h'
  | t :: ts, _, _, _, _, _, h, h' => by
    cases h with
    | cons h1 h2 =>
      rw [List.append_assoc]
      exact .cons h1 (ots_app h2 h')
end
/-! ### places -/
abbrev TPl := Ctx → (List Nat → OT → Ctx → Prop) → Prop
/-- what is known at a place: the whole is pinned -/
structure Plc (K : PySem.W.Frag) (B : Base) (s : L2.St) (j : Nat) (c' : Ctx) (G' H' : Hp) (w : Option Lt) (T : OT) (root : V) (u : V) (π : List Nat) (T' : OT) (A A1 : List Addr) (G0 H0 : Hp) : Prop where
  slot : c'[j]? = some (.o w (.tr T))
  val : s[j]? = some (some root)
  st : Stt K B (c'.set j (.o w (.gen (pinR root A H0)))) s G' H'
  ext : Same G0 G'
  nd : A.Nodup
  own : OwnT K G0 H0 T root A
  get : T.get π = some T'
  foc : FocT K G0 H0 A T' u A1 (fun G' H' t' A' => OwnT K G' H' (T.upd t' π) root A')
def DPlv (K : PySem.W.Frag) (te : TE) (j : Nat) (t : TPl) : Prop := ∀ (B : Base) (c : Ctx) (s : L2.St) (G H : Hp) (Q : List Nat → OT → Ctx → Prop) (R : VK), Stt K B c s G H → t c Q →
  (∀ c' G' H' w T root u π T' A A1 G0 H0, Plc K B s j c' G' H' w T root u π T' A A1 G0 H0 → Same G G' → Q π T' c' → R u H') → te s H R
structure DPl (X : Cx) (e : Expr) (j : Nat) (t : TPl) : Prop where
  ex : ∃ te, PE X e te ∧ DPlv X.K te j t
section
variable {K : PySem.W.Frag} {B : Base} {s : L2.St} {j : Nat} {c' : Ctx} {G' H' : Hp} {w : Option Lt} {T : OT} {root u : V} {π : List Nat} {T' : OT} {A A1 : List Addr} {G0 H0 : Hp}
theorem Plc.at_pin (p : Plc K B s j c' G' H' w T root u π T' A A1 G0 H0) : (c'.set j (.o w (.gen (pinR root A H0))))[j]? = some (.o w (.gen (pinR root A H0))) := List.getElem?_set_self (List.getElem?_eq_some_iff.mp p.slot).1
theorem Plc.same (p : Plc K B s j c' G' H' w T root u π T' A A1 G0 H0) : ∀ a ∈ A, H' a = H0 a := (p.st.unpin p.at_pin).2.1
theorem Plc.here (p : Plc K B s j c' G' H' w T root u π T' A A1 G0 H0) : ∀ a ∈ A, H' a ≠ none := fun a ha => by
  rw [p.same a ha]
  obtain ⟨o, h, _⟩ := ot_here _ _ _ p.own a ha
  rw [h]; exact fun z => nomatch z
/-- the state without the pin -/
theorem Plc.un (p : Plc K B s j c' G' H' w T root u π T' A A1 G0 H0) : Stt K B c' s G' H' := (by
  obtain ⟨_, h1, wr⟩ := p.st.unpin p.at_pin
  have := wr H' (.tr T) A (fun _ _ => rfl) (fun a ha => .inl ha) p.here p.nd (ot_mono p.ext T _ _ p.own fun a ha => h1 a ha)
  rwa [set_back p.slot] at this
  )
theorem Plc.here' (p : Plc K B s j c' G' H' w T root u π T' A A1 G0 H0) : OwnT K G' H' T' u A1 := ot_mono p.ext T' _ _ p.foc.own fun a ha => p.same a (p.foc.sub a ha)
/-- the place grown -/
theorem Plc.grow (p : Plc K B s j c' G' H' w T root u π T' A A1 G0 H0) {G2 H2 : Hp} (f : ∀ (B2 : Base) c2 s2, Stt K B2 c2 s2 G' H' → Stt K B2 c2 s2 G2 H2) (e : Same G' G2) : Plc K B s j c' G2 H2 w T root u π T' A A1 G0 H0 :=
  { p with st := f _ _ _ p.st, ext := p.ext.trans e }
/-- the part changed -/
theorem Plc.put (p : Plc K B s j c' G' H' w T root u π T' A A1 G0 H0) {c2 : Ctx} {G2 H2 : Hp} (st2 : Stt K B c2 s G2 H2) (e2 : c2[j]? = some (.o w (.gen (pinR root A H0)))) (e : Same G' G2) {H3 : Hp} {t' : OT} {A1' : List Addr}
    (k1 : ∀ a, a ∉ A1' → H3 a = H2 a) (k2 : ∀ a ∈ A1', a ∈ A1 ∨ H2 a = none) (k3 : ∀ a ∈ A1', H3 a ≠ none) (k4 : A1'.Nodup) (k5 : OwnT K G2 H3 t' u A1') : Stt K B (c2.set j (.o w (.tr (T.upd t' π)))) s G2 H3 := (by
  obtain ⟨_, h1, wr⟩ := st2.unpin e2
  have hn : ∀ a ∈ A, H2 a ≠ none := fun a ha => by
    rw [h1 a ha, ← p.same a ha]; exact p.here a ha
  have out : ∀ a ∈ A, a ∉ A1 → a ∉ A1' := fun a ha hn' z => by
    rcases k2 a z with y | y
    · exact hn' y
    · exact hn a ha y
  obtain ⟨A', r, m1, m2, m3⟩ := p.foc.put (G' := G2) (H' := H3) (p.ext.trans e) (fun a ha hn' => (k1 a (out a ha hn')).trans (h1 a ha)) k5 k4 fun a ha => by
    rcases k2 a ha with z | z
    · exact .inl z
    · exact .inr fun y => hn a y z
  refine wr H3 (.tr (T.upd t' π)) A' (fun a ha => k1 a fun z => ha (m3 a z)) (fun a ha => ?_) (fun a ha => ?_) m1 r
  · rcases m2 a ha with z | z
    · rcases k2 a z with y | y
      · exact .inl (p.foc.sub a y)
      · exact .inr y
    · exact .inl z.1
  · rcases m2 a ha with z | z
    · exact k3 a z
    · rw [k1 a (out a z.1 z.2)]; exact hn a z.1
  )
theorem Plc.put2 (p : Plc K B s j c' G' H' w T root u π T' A A1 G0 H0) {Rt : Res} {vt : V} {c2 : Ctx} {G2 H2 : Hp} (st2 : Stt K B (.o none Rt :: c2) (some vt :: s) G2 H2) (e2 : c2[j]? = some (.o w (.gen (pinR root A H0)))) (e : Same G' G2) : ∃ At, Rt.P K G2 H2 vt At ∧ (A ++ At).Nodup ∧ (∀ a ∈ A, H2 a = H0 a) ∧ ∀ {H3 : Hp} {t' : OT} {A1' : List Addr},
    (∀ a, a ∉ A1' → H3 a = H2 a) → (∀ a ∈ A1', a ∈ A1 ∨ a ∈ At ∨ H2 a = none) → (∀ a ∈ A1', H3 a ≠ none) → A1'.Nodup → OwnT K G2 H3 t' u A1' → Stt K B (c2.set j (.o w (.tr (T.upd t' π)))) s G2 H3 := (by
  obtain ⟨At, _, h1, ht, nd, wr⟩ := st2.unpin2 e2
  obtain ⟨n1, n2, n3⟩ := List.nodup_append.mp nd
  refine ⟨At, ht, nd, h1, fun {H3 t' A1'} k1 k2 k3 k4 k5 => ?_⟩
  have hn : ∀ a ∈ A, H2 a ≠ none := fun a ha => by
    rw [h1 a ha, ← p.same a ha]; exact p.here a ha
  have out : ∀ a ∈ A, a ∉ A1 → a ∉ A1' := fun a ha hn' z => by
    rcases k2 a z with y | y | y
    · exact hn' y
    · exact n3 a ha a y rfl
    · exact hn a ha y
  obtain ⟨A', r, m1, m2, m3⟩ := p.foc.put (G' := G2) (H' := H3) (p.ext.trans e) (fun a ha hn' => (k1 a (out a ha hn')).trans (h1 a ha)) k5 k4 fun a ha => by
    rcases k2 a ha with z | z | z
    · exact .inl z
    · exact .inr fun y => n3 a y a z rfl
    · exact .inr fun y => hn a y z
  refine wr H3 (.tr (T.upd t' π)) A' (fun a ha => k1 a fun z => ha (m3 a z)) (fun a ha => ?_) (fun a ha => ?_) m1 r
  · rcases m2 a ha with z | z
    · rcases k2 a z with y | y | y
      · exact .inl (p.foc.sub a y)
      · exact .inr (.inl y)
      · exact .inr (.inr y)
    · exact .inl z.1
  · rcases m2 a ha with z | z
    · exact k3 a z
    · rw [k1 a (out a z.1 z.2)]; exact hn a z.1
  )
end
def pVar (j : Nat) : TPl := fun c Q => slO c j fun _ R => asTr R fun T => Q [] T c
section
variable {X : Cx} {pos : Pos} {e b : Expr} {j : Nat} {tp : TPl} {tk : TC} {te : TD}
theorem plc_root {K : PySem.W.Frag} {B : Base} {c : Ctx} {s : L2.St} {G H : Hp} (st : Stt K B c s G H) {w : Option Lt} {T : OT} (e : c[j]? = some (.o w (.tr T))) : ∃ root A, s[j]? = some (some root) ∧ Plc K B s j c G H w T root root [] T A A G H := (by
  obtain ⟨v, A, g, h, nd, st2⟩ := st.pin e
  exact ⟨v, A, g, e, g, st2, Same.refl _, nd, h, rfl, h, nd, fun _ z => z, fun {G' H' t' A1'} e1 e2 e3 e4 e5 => ⟨A1', e3, e4, fun a ha => .inl ha, fun a ha => ha⟩⟩
  )
theorem pl_var (j : Nat) {x : Str} (hN : X.N[j]? = some x := by rfl) (hv : Vis X.env.scope x := by first | exact Or.inl rfl | exact Or.inr (Or.inl rfl) | exact Or.inr (Or.inr rfl)) (hd : (x == ("__debug__" : Str)) = false := by decide)
    (hcd : (x == ("__classdict__" : Str)) = false := by decide) : DPl X (.Name x pos) j (pVar j) := (by
  refine ⟨_, pe_var hN hv hd hcd, fun B c s G H Q R st h k => ?_⟩
  obtain ⟨w, R0, e0, h⟩ := slO_of h
  obtain ⟨T, rfl, q⟩ := asTr_of h
  obtain ⟨root, A, g, p⟩ := plc_root st e0
  exact ⟨root, g, k _ _ _ _ _ _ _ _ _ _ _ _ _ p (Same.refl _) q⟩
  )
/-- an item by its number -/
def ixT (t : OT) (y : PyData) (Q : Nat → OT → Prop) : Prop := match t with
  | .lst ts => asI y fun i => ∃ n t, ixN ts.length i = some n ∧ ts[n]? = some t ∧ Q n t
  | .tup ts => asI y fun i => ∃ n t, ixN ts.length i = some n ∧ ts[n]? = some t ∧ Q n t
  | _ => False
def pIx (tp : TPl) (tk : TC) : TPl := fun c Q => tp c fun π T c' => tk c' fun y => ixT T y fun n t => Q (π ++ [n]) t c'
theorem Plc.kid {K : PySem.W.Frag} {B : Base} {s : L2.St} {j : Nat} {c' : Ctx} {G' H' : Hp} {w : Option Lt} {T : OT} {root u : V} {π : List Nat} {T' : OT} {A A1 : List Addr} {G0 H0 : Hp} (p : Plc K B s j c' G' H' w T root u π T' A A1 G0 H0) {n : Nat} {t : OT} (hn : T'.ch[n]? = some t) :
    ∃ A0 vs As x A2, Node K G' H' T' u A0 vs As ∧ vs[n]? = some x ∧ Plc K B s j c' G' H' w T root x (π ++ [n]) t A A2 G0 H0 := (by
  obtain ⟨A0, vs, As, x, A2, N, z0, z1, g, F⟩ := p.foc.child hn
  obtain ⟨a1, a2⟩ := get_app p.get hn
  refine ⟨A0, vs, As, x, A2, N.mono p.ext (fun a ha => p.same a (z0 a ha)) fun a ha => p.same a (z1 a ha), g, { p with get := a1, foc := ⟨F.own, F.nd, F.sub, fun {G' H' t' A1'} e1 e2 e3 e4 e5 => ?_⟩ }⟩
  rw [a2]
  exact F.put e1 e2 e3 e4 e5
  )
theorem pl_ix (hs : PlainIx b) (ha : DPl X e j tp) (hb : DC X b tk) : DPl X (.Subscript e b pos) j (pIx tp tk) := (by
  obtain ⟨tea, pa, va⟩ := ha.ex
  obtain ⟨teb, pb, vb⟩ := hb.ex
  refine ⟨_, pe_ix ix_seq pa pb hs, fun B c s G H Q R st q k => va B c s G H _ _ st q fun c' G' H' w T root u π T' A A1 G0 H0 p e1 q1 => vb B c' s G' H' _ _ p.un q1 fun v y G2 H2 f2 e2 h2 d2 q2 => ?_⟩
  have p2 := p.grow f2 e2
  cases T' with
  | lst ts =>
    obtain ⟨i, rfl, q3⟩ := asI_of q2
    obtain ⟨n, t, hn, ht, q3⟩ := q3
    obtain ⟨A0, vs, As, x, A2, N, g, p3⟩ := p2.kid (T' := .lst ts) (n := n) ht
    cases N with
    | lst n1 n2 =>
      refine .inl ⟨_, vs, i, x, rfl, dp_int d2, SqL.of n1, ?_, k _ _ _ _ _ _ _ _ _ _ _ _ _ p3 (e1.trans e2) q3⟩
      unfold atI
      rw [ots_len n2, hn]
      exact g
  | tup ts =>
    obtain ⟨i, rfl, q3⟩ := asI_of q2
    obtain ⟨n, t, hn, ht, q3⟩ := q3
    obtain ⟨A0, vs, As, x, A2, N, g, p3⟩ := p2.kid (T' := .tup ts) (n := n) ht
    cases N with
    | tup n1 n2 =>
      refine .inr (.inl ⟨_, vs, i, x, rfl, dp_int d2, .inl (.inl (p3.un.sub _ _ n1)), ?_, k _ _ _ _ _ _ _ _ _ _ _ _ _ p3 (e1.trans e2) q3⟩)
      unfold atI
      rw [ots_len n2, hn]
      exact g
  | dat _ => exact q2.elim
  | dic _ _ _ _ => exact q2.elim
  | obj _ _ _ => exact q2.elim
  )
/-! ### what is read there -/
def uPlV (tp : TPl) : TD := fun c Q => tp c fun _ T c' => asDs T fun xs => Q (.list xs) c'
theorem v_pl (ha : DPl X e j tp) : DV X e (uPlV tp) := (by
  obtain ⟨tea, pa, va⟩ := ha.ex
  refine ⟨_, pa, fun B c s G H Q R st q k => va B c s G H _ _ st q fun c' G' H' w T root u π T' A A1 G0 H0 p e1 q1 => ?_⟩
  obtain ⟨xs, rfl, q⟩ := q1
  have own := p.here'
  cases own with
  | lst h1 h2 => exact k _ _ c' G' H' p.un e1 (.inr ⟨_, _, xs, rfl, rfl, SqL.of h1, (ots_dats h2).2⟩) q
  )
/-! ### append -/
def asLs (t : OT) (Q : List OT → Prop) : Prop := match t with
  | .lst ts => Q ts
  | _ => False
theorem asLs_l {ts : List OT} {Q : List OT → Prop} : asLs (.lst ts) Q = Q ts := id rfl
theorem asLs_of {t : OT} {Q : List OT → Prop} (h : asLs t Q) : ∃ ts, t = .lst ts ∧ Q ts := (by
  cases t <;> first | exact ⟨_, rfl, h⟩ | exact False.elim h
  )
variable {a : Expr} {ta : TD} {to : TR} {apos cpos : Pos}
/-- a thing of one's own as a tree -/
def asOT (R : Res) (Q : OT → Prop) : Prop := match R with
  | .lst xs => Q (.lst (xs.map .dat))
  | .lls dss => Q (.lst (dss.map fun ds => .lst (ds.map .dat)))
  | .tr t => Q t
  | _ => False
theorem asOT_ll {dss : List (List PyData)} {Q : OT → Prop} : asOT (.lls dss) Q = Q (.lst (dss.map fun ds => .lst (ds.map .dat))) := id rfl
theorem ownLs_ots {K : PySem.W.Frag} {G H : Hp} {ps : List Addr} {dss : List (List PyData)} (h : OwnLs K G H ps dss) : OwnTs K G H (dss.map fun ds => .lst (ds.map .dat)) (ps.map V.ref) ps := (by
  induction h with
  | nil => exact .nil
  | @cons p vs ds ps dss h1 h2 _ ih =>
    have := OwnTs.cons (OwnT.lst h1 (dats_ots h2)) ih
    exact this
  )
theorem asOT_l {xs : List PyData} {Q : OT → Prop} : asOT (.lst xs) Q = Q (.lst (xs.map .dat)) := id rfl
theorem asOT_t {t : OT} {Q : OT → Prop} : asOT (.tr t) Q = Q t := id rfl
theorem asOT_of {R : Res} {Q : OT → Prop} (h : asOT R Q) : ∃ t, Q t ∧ ∀ {K G H v A}, R.P K G H v A → OwnT K G H t v A := (by
  cases R with
  | lst xs => exact ⟨_, h, fun ⟨p, vs, e1, e2, h1, h2⟩ => by subst e1 e2; exact .lst h1 (dats_ots h2)⟩
  | lls dss => exact ⟨_, h, fun ⟨p, ps, e1, e2, h1, h2⟩ => by subst e1 e2; exact .lst h1 (ownLs_ots h2)⟩
  | tr t => exact ⟨_, h, fun z => z⟩
  | _ => exact h.elim
  )
end
end Dl

/-! Trees of one's own: stores into dicts; answers of any kind; dicts locked for good. -/
namespace Dl
open PySem PySem.Spec PyProof.Rows L2
section
variable {X : Cx} {pos : Pos} {e b a : Expr} {j : Nat} {tp : TPl} {tk : TC} {te ta : TD} {to : TR} {apos cpos : Pos}
/-! ### a list calmly laid, frozen -/
/-! ### d[k] = v -/
variable {y : Str} {p2 : Pos}
end
end Dl

/-! Answers of any kind; dicts locked for good. -/
namespace Dl
open PySem PySem.Spec PyProof.Rows L2
/-! ### expressions that give anything -/
abbrev TX := Ctx → (S → Ctx → Prop) → Prop
def DXv (K : PySem.W.Frag) (te : TE) (t : TX) : Prop := ∀ (B : Base) (c : Ctx) (s : L2.St) (G H : Hp) (Q : S → Ctx → Prop) (R : VK), Stt K B c s G H → t c Q →
  (∀ v x c' G' H', Stt K B (x :: c') (some v :: s) G' H' → Same G G' → Q x c' → R v H') → te s H R
structure DX (X : Cx) (e : Expr) (t : TX) : Prop where
  ex : ∃ te, PE X e te ∧ DXv X.K te t
/-- an answer: data, a frozen thing, a new thing of one's own -/
def mvS (x : S) (P : S → Prop) (O : S → Prop) : Prop := match x with
  | .d y => P (.d y)
  | .f F => P (.f F)
  | .o none R => O (.o none R)
  | _ => False
theorem mvS_d {y : PyData} {P O : S → Prop} : mvS (.d y) P O = P (.d y) := id rfl
theorem mvS_f {F : FrG} {P O : S → Prop} : mvS (.f F) P O = P (.f F) := id rfl
theorem mvS_o {R : Res} {P O : S → Prop} : mvS (.o none R) P O = O (.o none R) := id rfl
section
variable {K : PySem.W.Frag} {B : Base} {c : Ctx} {s : L2.St} {G H : Hp}
theorem Stt.top_d {v : V} {y : PyData} (st : Stt K B (.d y :: c) (some v :: s) G H) : Stt K B c s G H ∧ Dp K G v y := (by
  obtain ⟨A, r, w⟩ := st.ex
  cases r with
  | d h r => exact ⟨⟨A, r, w⟩, h⟩
  )
theorem Stt.top_f {v : V} {F : FrG} (st : Stt K B (.f F :: c) (some v :: s) G H) : Stt K B c s G H ∧ F.P K G v := (by
  obtain ⟨A, r, w⟩ := st.ex
  cases r with
  | f h r => exact ⟨⟨A, r, w⟩, h⟩
  )
theorem Stt.push_f (st : Stt K B c s G H) {v : V} {F : FrG} (h : F.P K G v) : Stt K B (.f F :: c) (some v :: s) G H := (by
  obtain ⟨A, r, w⟩ := st.ex
  exact ⟨A, .f h r, w⟩
  )
end
section
variable {X : Cx} {pos : Pos} {e a : Expr} {es : List Expr} {te : TD} {to : TR} {tx : TX}
theorem x_o (h : DO X e to) : DX X e (fun c Q => to c fun R c1 => Q (.o none R) c1) := let ⟨t, p, v⟩ := h.ex; ⟨t, p, fun B c s G H Q R st q k => v B c s G H _ R st q fun u x c1 G1 H1 st1 e1 q1 => k u _ c1 G1 H1 st1 e1 q1⟩
/-- return e -/
def zRetX (tx : TX) : TSd := fun E c => tx c fun x c1 => E.rt x c1
theorem s_retX (he : DX X e tx) : DS X (.Return (some e) pos) (zRetX tx) := (by
  obtain ⟨tp, p, v⟩ := he.ex
  refine ⟨_, ps_ret p, fun B c s G H D E st k q => v B c s G H _ _ st q fun w y c1 G1 H1 st1 e1 q1 => k.rt _ _ _ _ G1 H1 st1 e1 q1⟩
  )
def oX (tx : TX) : TR := fun c Q => tx c fun x c1 => kO (fun x => Q x c1) x c1
theorem o_x (h : DX X e tx) : DO X e (oX tx) := (by
  obtain ⟨t, p, v⟩ := h.ex
  refine ⟨t, p, fun B c s G H Q R st q k => v B c s G H _ R st q fun u x c1 G1 H1 st1 e1 q1 => ?_⟩
  cases x with
  | no => exact q1.elim
  | d y => exact q1.elim
  | f F => exact q1.elim
  | o w R =>
    cases w with
    | none => exact k u R c1 G1 H1 st1 e1 q1
    | some _ => exact q1.elim
  )
/-! ### calls -/
/-- what is wanted of a call's answer -/
def kX (Q : S → Prop) : S → Ctx → Prop := fun r _ => mvS r Q Q
def plainA : List Arg → Prop
  | [] => True
  | .d _ :: as => plainA as
  | .f _ :: as => plainA as
  | .s _ :: _ => False
def frS : Arg → S
  | .d x => .d x
  | .f F => .f F
  | .s _ => .no
theorem frS_d {x : PyData} : frS (.d x) = .d x := id rfl
theorem frS_f {x : FrG} : frS (.f x) = .f x := id rfl
theorem plainA_n : plainA [] = True := id rfl
theorem plainA_d {x : PyData} {as : List Arg} : plainA (.d x :: as) = plainA as := id rfl
theorem plainA_f {x : FrG} {as : List Arg} : plainA (.f x :: as) = plainA as := id rfl
theorem ret_xd {Q : S → Prop} {x : PyData} : ret (kX Q) (.d x) = Q (.d x) := propext ⟨fun h => h [], fun h _ => h⟩
theorem ret_xf {Q : S → Prop} {x : FrG} : ret (kX Q) (.f x) = Q (.f x) := propext ⟨fun h => h [], fun h _ => h⟩
theorem ret_xo {Q : S → Prop} {R : Res} : ret (kX Q) (.o none R) = Q (.o none R) := propext ⟨fun h => h [], fun h _ => h⟩
theorem stt_plain {K : PySem.W.Frag} {s : L2.St} {G H : Hp} {as : List Arg} {vs : List V} (e : Same G H) (hp : plainA as) (h : ArgVs K G s as vs) : Stt K ⟨H, G, []⟩ (as.map frS) (vs.map some) G H := (by
  have r : Reps K ⟨H, G, []⟩ G H (as.map frS) (vs.map some) [] := by
    induction h with
    | nil => exact .nil
    | @cons a v as vs h1 h2 ih =>
      cases a with
      | d x => exact .d h1 (ih hp)
      | f F => exact .f h1 (ih hp)
      | s j => exact hp.elim
  exact ⟨[], r, e, List.nodup_nil, by simp, Same.refl _, fun a o q _ => q, fun a q => q, fun a _ q => .inl rfl, by simp⟩
  )
variable {x : Str} {p : Pos} {k : Nat} {ps : List Str} {T : TF} {t : TAr}
/-- .. slots lent, too -/
def kAX (v : Nat → Lt) (as : List Arg) (c1 : Ctx) (Q : S → Ctx → Prop) : S → Ctx → Prop := fun r c' => back v as c' c1 fun c2 => kX (fun x => Q x c2) r c'
theorem retA_xd {v : Nat → Lt} {as : List Arg} {ls : List (Option (Lt × Res))} {c1 : Ctx} {Q : S → Ctx → Prop} {x : PyData} : retA ls (kAX v as c1 Q) (.d x) = backL v as ls c1 fun c2 => Q (.d x) c2 :=
  propext ⟨fun h => back_self (h _ (pat_self ls)), fun h c' p => back_pat p h⟩
theorem retA_xf {v : Nat → Lt} {as : List Arg} {ls : List (Option (Lt × Res))} {c1 : Ctx} {Q : S → Ctx → Prop} {x : FrG} : retA ls (kAX v as c1 Q) (.f x) = backL v as ls c1 fun c2 => Q (.f x) c2 :=
  propext ⟨fun h => back_self (h _ (pat_self ls)), fun h c' p => back_pat p h⟩
theorem retA_xo {v : Nat → Lt} {as : List Arg} {ls : List (Option (Lt × Res))} {c1 : Ctx} {Q : S → Ctx → Prop} {R : Res} : retA ls (kAX v as c1 Q) (.o none R) = backL v as ls c1 fun c2 => Q (.o none R) c2 :=
  propext ⟨fun h => back_self (h _ (pat_self ls)), fun h c' p => back_pat p h⟩
end
/-! ### dicts locked for good -/
section
variable {X : Cx} {pos : Pos} {e a b : Expr} {es : List Expr} {te : TD} {to : TR} {tx : TX} {x : Str} {p : Pos}
end
end Dl

/-! Calls to which things are lent to be looked at, which answer with data without lists, or a new list of such. -/
namespace Dl
open PySem PySem.Spec PyProof.Rows L2
section
variable {K : PySem.W.Frag} {G G2 : Hp}
end
section
variable {K : PySem.W.Frag} {B : Base} {G H : Hp} {c : Ctx} {s : L2.St}
end
/-! ### such calls -/
def okV (x : S) (Q : S → Prop) : Prop := match x with
  | .d y => kOk y = true ∧ Q (.d y)
  | .o none (.lst ds) => kOks ds = true ∧ Q (.o none (.lst ds))
  | _ => False
def kV (Q : S → Prop) : S → Ctx → Prop := fun r _ => okV r Q
theorem ret_vd {Q : S → Prop} {x : PyData} : ret (kV Q) (.d x) = (kOk x = true ∧ Q (.d x)) := propext ⟨fun h => h [], fun h _ => h⟩
theorem ret_vo {Q : S → Prop} {ds : List PyData} : ret (kV Q) (.o none (.lst ds)) = (kOks ds = true ∧ Q (.o none (.lst ds))) := propext ⟨fun h => h [], fun h _ => h⟩
section
variable {X : Cx} {pos : Pos} {e : Expr} {es : List Expr} {x : Str} {p : Pos} {k : Nat} {ps : List Str} {T : TF} {t : TAr}
end
/-! ### calm or -/
section
variable {X : Cx} {pos : Pos} {a b : Expr} {ta tb : TC}
end
/-! ### tests -/
section
variable {X : Cx} {pos : Pos} {e a b : Expr} {te : TD} {tx : TX}
variable {x : Str} {pn pos' : Pos}
end
/-! ### helpers -/
theorem ite_n {c : Prop} [Decidable c] {a b : Prop} (h : ¬ c) (q : b) : if c then a else b := by rw [if_neg h]; exact q
theorem toDs_eq : ∀ {ts : List OT}, OT.toDs ts = ts.map OT.toD
  | [] => rfl
  | t :: ts => by
    show t.toD :: OT.toDs ts = _
    rw [toDs_eq]; rfl
theorem areD_of : ∀ {ts : List OT}, (∀ t ∈ ts, t.isD = true) → OT.areD ts = true
  | [], _ => rfl
  | t :: ts, h => by
    show (t.isD && OT.areD ts) = true
    rw [h t List.mem_cons_self, areD_of fun u hu => h u (List.mem_cons_of_mem _ hu)]; rfl
theorem areD_dats {xs : List PyData} : OT.areD (xs.map .dat) = true := areD_of fun t ht => by
  obtain ⟨x, _, rfl⟩ := List.mem_map.mp ht
  rfl
theorem toDs_dats {xs : List PyData} : OT.toDs (xs.map .dat) = xs := (by
  rw [toDs_eq, List.map_map]
  exact (List.map_congr_left fun x _ => rfl).trans (List.map_id _)
  )
theorem set_at {α : Type} : ∀ {xs : List α} {n : Nat} {x : α}, xs[n]? = some x → xs.set n x = xs
  | [], _, _, _ => rfl
  | a :: xs, 0, x, h => by simp at h; subst h; rfl
  | a :: xs, n + 1, x, h => by rw [List.set_cons_succ, set_at (by simpa using h)]
end Dl

namespace L2
open PySem PySem.Spec PyProof.Rows Dl
section
variable {X : Cx} {e : Expr} {td : TE} {p pos : Pos}
end
end L2
namespace Dl
open PySem PySem.Spec PyProof.Rows L2
section
variable {X : Cx} {pos : Pos} {e : Expr} {st : Stmt} {t : TSd} {x : Str} {p : Pos}
end
end Dl

/-! Tuples with a thing of one's own in them. -/
namespace Dl
open PySem PySem.Spec PyProof.Rows L2
def asOw (x : S) (Q : Res → Prop) : Prop := match x with
  | .o none R => Q R
  | _ => False
theorem asOw_o {R : Res} {Q : Res → Prop} : asOw (.o none R) Q = Q R := id rfl
theorem asOw_of {x : S} {Q : Res → Prop} (h : asOw x Q) : ∃ R, x = .o none R ∧ Q R := (by
  match x, h with
  | .o none R, h => exact ⟨R, rfl, h⟩
  )
theorem Stt.top_re {K : PySem.W.Frag} {B : Base} {c : Ctx} {s : L2.St} {G H : Hp} {R R' : Res} {v v' : V} (st : Stt K B (.o none R :: c) (some v :: s) G H) (h : ∀ A, R.P K G H v A → R'.P K G H v' A) : Stt K B (.o none R' :: c) (some v' :: s) G H := (by
  obtain ⟨A, r, w⟩ := st.ex
  cases r with
  | @o _ _ _ _ _ Ah At h1 h2 r => exact ⟨Ah ++ At, .o (h _ h1) h2 r, w⟩
  )
section
variable {X : Cx} {pos : Pos} {e : Expr} {tx : TX}
end
end Dl

namespace Dl
open PySem PySem.Spec PyProof.Rows L2
section
variable {X : Cx} {pos p1 p2 p3 : Pos} {e : Expr} {te : TD}
end
end Dl

/-! Dicts of one's own whose keys are texts and whole numbers. -/
namespace Dl
open PySem PySem.Spec PyProof.Rows L2
inductive DkE (K : PySem.W.Frag) (G : Hp) : List (L2.Key × V) → List (PyData × PyData) → Prop
  | nil : DkE K G [] []
  | cons {k : L2.Key} {v : V} {d : PyData} {ws : List (L2.Key × V)} {kvs : List (PyData × PyData)} : Dp K G v d → DkE K G ws kvs → DkE K G ((k, v) :: ws) ((keyD k, d) :: kvs)
section
variable {K : PySem.W.Frag} {G G' : Hp} {ks : L2.Key} {v : V} {d : PyData} {ws : List (L2.Key × V)} {kvs : List (PyData × PyData)}
end
section
variable {X : Cx} {j : Nat} {x y : Str} {pos p p1 p2 p3 : Pos} {e i : Expr} {te tk : TD}
end
end Dl

/-! Defs that raise, things lent to them; what an exception brings along; try around statements. -/
namespace Dl
open PySem PySem.Spec PyProof.Rows L2
/-- what is wanted where an exception leaves: its class, its fields (data), the slots -/
abbrev EEt := Str → List (Str × PyData) → Ctx → Prop
/-- the exception's dict holds these fields -/
def XdOk (K : PySem.W.Frag) (G : Hp) (fd : List (Str × PyData)) (d : Option Addr) : Prop := (fd = [] ∧ d = none) ∨ ∃ dd fs, d = some dd ∧ G dd = some (.xd fs) ∧ fs.map (·.1) = fd.map (·.1) ∧ DpAll K G (fs.map (·.2)) (fd.map (·.2))
theorem XdOk.none {K : PySem.W.Frag} {G : Hp} : XdOk K G [] none := .inl ⟨rfl, rfl⟩
theorem XdOk.mono {K : PySem.W.Frag} {G G' : Hp} {fd : List (Str × PyData)} {d : Option Addr} (h : XdOk K G fd d) (e : Same G G') : XdOk K G' fd d := (by
  rcases h with h | ⟨dd, fs, h1, h2, h3, h4⟩
  · exact .inl h
  · exact .inr ⟨dd, fs, h1, e _ _ h2, h3, dpa_mono e _ _ h4⟩
  )
/-- what is taken, by what is wanted -/
def Lnk (K : PySem.W.Frag) (W : WX) (B : Base) (G : Hp) (EE : EEt) : Prop := ∀ x fd d c s G' H', Stt K B c s G' H' → Same G G' → XdOk K G' fd d → EE x fd c → W (.ref (He.ga K x)) d s H'
theorem Lnk.mono {K : PySem.W.Frag} {W : WX} {B : Base} {G G1 : Hp} {EE : EEt} (h : Lnk K W B G EE) (e : Same G G1) : Lnk K W B G1 EE := fun x fd d c s G' H' st e' hd q => h x fd d c s G' H' st (e.trans e') hd q
/-- fewer slots wanted otherwise -/
theorem Lnk.imp {K : PySem.W.Frag} {W : WX} {B : Base} {G : Hp} {EE EE' : EEt} (h : Lnk K W B G EE) (f : ∀ x fd c s G' H', Stt K B c s G' H' → Same G G' → EE' x fd c → ∃ c', Stt K B c' s G' H' ∧ EE x fd c') : Lnk K W B G EE' := fun x fd d c s G' H' st e' hd q => by
  obtain ⟨c', st', q'⟩ := f x fd c s G' H' st e' q
  exact h x fd d c' s G' H' st' e' hd q'
abbrev TXY := EEt → TX
abbrev TDY := EEt → TD
abbrev TLY := EEt → TL
abbrev TSY := EEt → TSd
def DXYv (K : PySem.W.Frag) (W : WX) (te : TE) (t : TXY) : Prop := ∀ (B : Base) (c : Ctx) (s : L2.St) (G H : Hp) (Q : S → Ctx → Prop) (R : VK) (EE : EEt), Stt K B c s G H → Lnk K W B G EE → t EE c Q →
  (∀ v x c' G' H', Stt K B (x :: c') (some v :: s) G' H' → Same G G' → Q x c' → R v H') → te s H R
structure DXY (X : Cx) (W : WX) (e : Expr) (t : TXY) : Prop where
  ex : ∃ te, PE X e te ∧ DXYv X.K W te t
def DEYv (K : PySem.W.Frag) (W : WX) (te : TE) (t : TDY) : Prop := ∀ (B : Base) (c : Ctx) (s : L2.St) (G H : Hp) (Q : PyData → Ctx → Prop) (R : VK) (EE : EEt), Stt K B c s G H → Lnk K W B G EE → t EE c Q →
  (∀ v x c' G' H', Stt K B c' s G' H' → Same G G' → Dp K G' v x → Q x c' → R v H') → te s H R
structure DEY (X : Cx) (W : WX) (e : Expr) (t : TDY) : Prop where
  ex : ∃ te, PE X e te ∧ DEYv X.K W te t
def DAYv (K : PySem.W.Frag) (W : WX) (te : TA) (t : TLY) : Prop := ∀ (B : Base) (c : Ctx) (s : L2.St) (G H : Hp) (Q : List PyData → Ctx → Prop) (R : List V → Hp → Prop) (EE : EEt), Stt K B c s G H → Lnk K W B G EE → t EE c Q →
  (∀ vs xs c' G' H', Stt K B c' s G' H' → Same G G' → DpAll K G' vs xs → Q xs c' → R vs H') → te s H R
structure DAY (X : Cx) (W : WX) (es : List Expr) (t : TLY) : Prop where
  ex : ∃ te, PA X es te ∧ DAYv X.K W te t
def DSYv (K : PySem.W.Frag) (W : WX) (ts : TS) (t : TSY) : Prop := ∀ (B : Base) (c : Ctx) (s : L2.St) (G H : Hp) (D : Ends) (E : De) (EE : EEt), Stt K B c s G H → Conn K B G D E → Lnk K W B G EE → t EE E c → ts D s H
structure DSY (X : Cx) (W : WX) (st : Stmt) (t : TSY) : Prop where
  ex : ∃ ts, PS X st ts ∧ DSYv X.K W ts t
structure DSsY (X : Cx) (W : WX) (st : List Stmt) (t : TSY) : Prop where
  ex : ∃ ts, PSs X st ts ∧ DSYv X.K W ts t

/-! ### expressions -/
section
variable {X : Cx} {W : WX} {pos p : Pos} {e a : Expr} {es : List Expr} {td : TD} {tx : TX} {tdy : TDY} {txy : TXY} {tly : TLY}
theorem ey_e (h : DE X e td) : DEY X W e (fun _ => td) := let ⟨te, p, v⟩ := h.ex; ⟨te, p, fun B c s G H Q R _ st _ q k => v B c s G H Q R st q k⟩
def yNil : TLY := fun _ c Q => Q [] c
def yCons (t : TDY) (u : TLY) : TLY := fun EE c Q => t EE c fun x c1 => u EE c1 fun xs c2 => Q (x :: xs) c2
theorem ay_nil : DAY X W [] yNil := ⟨_, pa_nil, fun B c s G H Q R _ st _ q k => k [] [] c G H st (Same.refl _) .nil q⟩
theorem ay_cons (h : DEY X W a tdy) (hr : DAY X W es tly) (hs : starEach (a :: es) X.env = (false, eval a X.env) :: starEach es X.env := by rfl) : DAY X W (a :: es) (yCons tdy tly) := (by
  obtain ⟨te, p, v⟩ := h.ex
  obtain ⟨ta, pa, va⟩ := hr.ex
  refine ⟨_, pa_cons p pa hs, fun B c s G H Q R EE st l q k => v B c s G H _ _ EE st l q fun u x c1 G1 H1 st1 e1 d1 q1 => ?_⟩
  exact va B c1 s G1 H1 _ _ EE st1 (l.mono e1) q1 fun us xs c2 G2 H2 st2 e2 d2 q2 => k _ _ c2 G2 H2 st2 (e1.trans e2) (.cons (dp_mono e2 _ _ d1) d2) q2
  )
end

/-! ### statements -/
section
variable {X : Cx} {W : WX} {pos p : Pos} {e : Expr} {st : Stmt} {rest : List Stmt} {td : TSd} {t u : TSY} {tb : TB} {txy : TXY} {tdy : TDY} {ti : TL}
theorem y_of (h : DS X st td) : DSY X W st (fun _ => td) := let ⟨ts, p, v⟩ := h.ex; ⟨ts, p, fun B c s G H D E _ st k _ q => v B c s G H D E st k q⟩
theorem ys_of {l : List Stmt} (h : DSs X l td) : DSsY X W l (fun _ => td) := let ⟨ts, p, v⟩ := h.ex; ⟨ts, p, fun B c s G H D E _ st k _ q => v B c s G H D E st k q⟩
def zSeqY (t u : TSY) : TSY := fun EE => zSeq (t EE) (u EE)
theorem qy_one (h : DSY X W st t) : DSsY X W [st] t := let ⟨ts, p, v⟩ := h.ex; ⟨ts, pss_one p, v⟩
theorem qy_cons (h : DSY X W st t) (h2 : DSsY X W rest u) : DSsY X W (st :: rest) (zSeqY t u) := (by
  obtain ⟨ts, p, v⟩ := h.ex
  obtain ⟨ts2, p2, v2⟩ := h2.ex
  exact ⟨_, pss_cons p p2, fun B c s G H D E EE st k l q => v B c s G H _ { E with nx := u EE E } EE st ⟨fun c' s' G' H' st' e' q' => v2 B c' s' G' H' D E EE st' (k.mono e') (l.mono e') q', k.rt, k.bk, k.ct⟩ l q⟩
  )
def zIfY (tb : TB) (t u : TSY) : TSY := fun EE => zIf tb (t EE) (u EE)
theorem s_ifY {a b : List Stmt} (hc : DT X e tb) (ha : DSsY X W a t) (hb : DSsY X W b u) : DSY X W (.If e a b pos) (zIfY tb t u) := (by
  obtain ⟨tp, p, v⟩ := hc.ex
  obtain ⟨t1, p1, v1⟩ := ha.ex
  obtain ⟨t2, p2, v2⟩ := hb.ex
  refine ⟨_, ps_if p p1 p2, fun B c s G H D E EE st k l q => v B c s G H _ _ st q fun b c1 G1 H1 st1 e1 q1 => ?_⟩
  cases b with
  | true =>
    rw [if_pos rfl] at q1 ⊢
    exact v1 B c1 s G1 H1 D E EE st1 (k.mono e1) (l.mono e1) q1
  | false =>
    rw [if_neg Bool.false_ne_true] at q1 ⊢
    exact v2 B c1 s G1 H1 D E EE st1 (k.mono e1) (l.mono e1) q1
  )
/-- raise x('m') -/
def zRaiseY (x : Str) : TSY := fun EE _ c => EE x [] c
theorem s_raiseY {x m : Str} {j : Nat} {p2 pos' : Pos} (hc : X.calm = true) (tk : Takes X W) (F : ExF X.K X.mg x) (hg : Gl X x := by rfl) (hdb : (x == ("__debug__" : Str)) = false := by decide) :
    DSY X W (.Raise (some (.Call (.Name x p) [.Constant (.str m) j p2] [] pos)) none pos') (zRaiseY x) :=
  ⟨_, ps_raise hc tk (pmk_own PySem.F.excBase_ValueError F.q F.g F.k (raises_own F.s F.t) hg hdb), fun B c s G H D E EE st k l q => l x [] none c s G H st (Same.refl _) .none q⟩
def zExY (t : TXY) : TSY := fun EE E c => t EE c fun _ c1 => E.nx c1
theorem sy_expr (he : DXY X W e txy) (hs : swapsWith e none pos.line X.env = pure false := by rfl) : DSY X W (.Expr e pos) (zExY txy) := (by
  obtain ⟨tp, p, v⟩ := he.ex
  exact ⟨_, ps_expr p hs, fun B c s G H D E EE st k l q => v B c s G H _ _ EE st l q fun w y c1 G1 H1 st1 e1 q1 => k.nx _ _ G1 H1 st1.pop e1 q1⟩
  )
def zRetXY (t : TXY) : TSY := fun EE E c => t EE c fun x c1 => E.rt x c1
theorem sy_ret (he : DXY X W e txy) : DSY X W (.Return (some e) pos) (zRetXY txy) := (by
  obtain ⟨tp, p, v⟩ := he.ex
  exact ⟨_, ps_ret p, fun B c s G H D E EE st k l q => v B c s G H _ _ EE st l q fun w y c1 G1 H1 st1 e1 q1 => k.rt _ _ _ _ G1 H1 st1 e1 q1⟩
  )
/-- for -/
def zForY (ti : TL) (tg : TGd) (tb : TSY) : TSY := fun EE => zFor ti tg (tb EE)
theorem s_forY {iter tg : Expr} {body : List Stmt} {tG : TGd} {tb : TSY} {js : List Nat} (hp : PassesOwn (model X.prog X.w) X.A X.env X.xe) (hc : X.calm = true) (hi : DI X tg iter ti) (hg : DG X tg js tG) (hb : DSsY X W body tb)
    (hs : ∀ x, foldedSetIterable iter X.env x = pure x := by intro _; rfl) : DSY X W (.For tg iter body [] pos) (zForY ti tG tb) := (by
  obtain ⟨wi, pi, vi⟩ := hi.ex
  obtain ⟨g, pg, vg⟩ := hg.ex
  obtain ⟨ts, pb, vb⟩ := hb.ex
  refine ⟨_, ps_for hp hc pi pg pb hs, fun B c s G H D E EE st k l q => vi B c s G H _ _ st q fun J ys c1 G1 H1 st1 e1 ok q1 => ?_⟩
  obtain ⟨I, i0, turn, fin⟩ := q1
  refine ⟨fun i m s' H' => m = ys.length - i ∧ i ≤ ys.length ∧ ∃ c' G', Stt X.K B c' s' G' H' ∧ Same G1 G' ∧ I i c', ⟨ys.length, rfl, Nat.zero_le _, c1, G1, st1, Same.refl _, i0⟩, ?_⟩
  rintro i m s' H' ⟨rfl, hi, c', G', st', e', hI⟩
  by_cases hlt : i < ys.length
  · refine .inr ⟨((ok B c' s' G' H' st' e' i).2 hlt).1, fun s2 H2 => ∃ c2 G2, Stt X.K B c2 s2 G2 H2 ∧ Same G1 G2 ∧ I (i + 1) c2, fun s2 H2 ⟨c2, G2, st2, e2, hI2⟩ => ⟨ys.length - (i + 1), by omega, rfl, hlt, c2, G2, st2, e2, hI2⟩, fun x H2 hy => ?_⟩
    obtain ⟨G2, y, hy1, st2, e2, dy⟩ := ((ok B c' s' G' H' st' e' i).2 hlt).2 x H2 hy
    refine vg B c' s' G2 H2 x y _ _ st2 dy (turn i y c' hy1 hI) fun c3 s3 st3 _ q3 => ?_
    have e13 : Same G1 G2 := e'.trans e2
    exact vb B c3 s3 G2 H2 _ { E with nx := I (i + 1), ct := I (i + 1), bk := E.nx } EE st3 ⟨fun c4 s4 G4 H4 st4 e4 q4 => ⟨c4, G4, st4, e13.trans e4, q4⟩, fun r c4 v s4 G4 H4 st4 e4 q4 => k.rt r c4 v s4 G4 H4 st4 ((e1.trans e13).trans e4) q4, fun c4 s4 G4 H4 st4 e4 q4 => k.nx c4 s4 G4 H4 st4 ((e1.trans e13).trans e4) q4, fun c4 s4 G4 H4 st4 e4 q4 => ⟨c4, G4, st4, e13.trans e4, q4⟩⟩ (l.mono (e1.trans e13)) q3
  · have e : i = ys.length := by omega
    subst e
    exact .inl ⟨(ok B c' s' G' H' st' e' _).1 (Nat.le_refl _), k.nx c' s' G' H' st' (e1.trans e') (fin c' hI)⟩
  )
theorem Plc.free {K : PySem.W.Frag} {B : Base} {s : L2.St} {j : Nat} {c' : Ctx} {G' H' : Hp} {w : Option Lt} {T : OT} {root u : V} {π : List Nat} {T' : OT} {A A1 : List Addr} {G0 H0 : Hp} (p : Plc K B s j c' G' H' w T root u π T' A A1 G0 H0) {c2 : Ctx} {s2 : L2.St} {G2 H2 : Hp} (st2 : Stt K B c2 s2 G2 H2) (e2 : c2[j]? = some (.o w (.gen (pinR root A H0)))) (e : Same G' G2) : Stt K B (c2.set j (.o w (.tr T))) s2 G2 H2 ∧ ∀ a ∈ A, H2 a = H0 a := (by
  obtain ⟨_, h1, wr⟩ := st2.unpin e2
  refine ⟨wr H2 (.tr T) A (fun _ _ => rfl) (fun a ha => .inl ha) (fun a ha => ?_) p.nd (ot_mono (p.ext.trans e) T _ _ p.own fun a ha => h1 a ha), h1⟩
  rw [h1 a ha, ← p.same a ha]; exact p.here a ha
  )
end

/-! ### defs that raise -/
abbrev TFY := Ctx → (S → Ctx → Prop) → EEt → Prop
def SpY (K : PySem.W.Frag) (T : TFY) : Sp := fun vs H Q E => ∃ (G : Hp) (io : List Addr) (a : Ctx) (Q1 : S → Ctx → Prop) (E1 : EEt), Stt K ⟨H, G, io⟩ a (vs.map some) G H ∧ T a Q1 E1 ∧
  (∀ r c v s G' H', Stt K ⟨H, G, io⟩ (r :: c) (some v :: s) G' H' → Q1 r c → Q v H') ∧ ∀ x fd d c s G' H', Stt K ⟨H, G, io⟩ c s G' H' → XdOk K G' fd d → E1 x fd c → E (.ref (He.ga K x)) d H'
/-- THE RULE for a def that may raise -/
theorem fn_dY {P : Program} {w : World} {K : PySem.W.Frag} {mg : Str → Option Value} {base : Heap} {x qual : Str} {st : Stmt} {f : Addr} {fd : FuncData} {N ps : List Str} {k : Nat} {T : TFY} {t : TSY} (F : Fun K x qual st f fd) (sc : FnScope N ps (defScope st))
    (hT : ∀ a Q E1, T a Q E1 → a.length = ps.length ∧ t E1 { nx := fun c => Q (.d .none) c, rt := Q } (a ++ List.replicate (N.length - ps.length) .no))
    (body : ∀ (cdv : Value) (A : Around) (outer : List Env) (s : Shared) (H : Hp) (E : XK), Room k (A.deeper (envOfC qual (defScope st) s.heap.objs.size f cdv)) →
      Takes (cxOf (L2.CX P w) P w K mg base N qual (defScope st) f cdv A outer s H E) (fun cls d _ H => E cls d H) → DSsY (cxOf (L2.CX P w) P w K mg base N qual (defScope st) f cdv A outer s H E) (fun cls d _ H => E cls d H) (defBody st) t) : FnOk P w K mg base (L2.CX P w) (k + 1) f fd ps (SpY K T) := (by
  have hl : ∀ vs H Q E, SpY K T vs H Q E → vs.length = ps.length := fun vs H Q E h => by
    obtain ⟨G, io, a, Q1, E1, ⟨A, r, _⟩, h2, _⟩ := h
    have := r.len
    rw [List.length_map] at this
    rw [this]
    exact (hT a Q1 E1 h2).1
  refine F.okX sc hl (fun cdv A outer s H vs Q E hr h => ?_)
  obtain ⟨ts, p, v⟩ := (body cdv A outer s H E hr (takes_of rfl rfl rfl rfl)).ex
  refine ⟨ts, p, ?_⟩
  have lv := hl _ _ _ _ h
  obtain ⟨G, io, a, Q1, E1, ⟨A1, r, wd⟩, h2, h3, h4⟩ := h
  have st0 : Stt K ⟨H, G, io⟩ (a ++ List.replicate (N.length - ps.length) .no) (L2.start N vs) G H := by
    refine ⟨A1, ?_, wd⟩
    unfold L2.start
    rw [lv]
    exact reps_more r _
  exact v ⟨H, G, io⟩ _ _ G H _ { nx := fun c => Q1 (.d .none) c, rt := Q1 } E1 st0 ⟨fun c s' G' H' st' _ q => h3 (.d .none) c .non s' G' H' (st'.push_d .non) q, fun r c v s' G' H' st' _ q => h3 r c v s' G' H' st' q, fun _ _ _ _ _ _ q => q.elim, fun _ _ _ _ _ _ q => q.elim⟩ (fun x fd d c s' G' H' st' _ hd q => h4 x fd d c s' G' H' st' hd q) (hT a Q1 E1 h2).2
  )
/-- a def of the text that keeps its promise, and may raise -/
structure CalY (P : Program) (w : World) (K : PySem.W.Frag) (mg : Str → Option Value) (base : Heap) (x : Str) (k : Nat) (ps : List Str) (T : TFY) : Prop where
  ex : ∃ f fd, FnOk P w K mg base (L2.CX P w) k f fd ps (SpY K T) ∧ mg x = some (.ref f) ∧ PySem.W.keepIn K (.ref f) = true ∧ Binds K fd ps []
/-- a method -/
structure MtY (P : Program) (w : World) (K : PySem.W.Frag) (mg : Str → Option Value) (base : Heap) (C m : Str) (k : Nat) (ps : List Str) (T : TFY) : Prop where
  ex : ∃ f fd, FnOk P w K mg base (L2.CX P w) k f fd ps (SpY K T) ∧ Meth K (He.ga K C) m f ∧ Cls K (He.ga K C) ∧ Binds K fd ps []
/-- .. called where it raises nothing -/
theorem CalY.cal {P : Program} {w : World} {K : PySem.W.Frag} {mg : Str → Option Value} {base : Heap} {x : Str} {k : Nat} {ps : List Str} {T : TFY} (C : CalY P w K mg base x k ps T) : Cal P w K mg base x k ps (fun a Q => T a Q fun _ _ _ => False) := (by
  obtain ⟨f, fd, F, h2, h3, h4⟩ := C.ex
  have up : ∀ vs H Q E, SpD K (fun a Q => T a Q fun _ _ _ => False) vs H Q E → SpY K T vs H Q fun _ _ _ => False := fun vs H Q E h => by
    obtain ⟨G, io, a, Q1, st, hT, q⟩ := h
    exact ⟨G, io, a, Q1, _, st, hT, q, fun _ _ _ _ _ _ _ _ _ z => z⟩
  refine ⟨f, fd, ⟨fun vs H Q E h => F.len _ _ _ _ (up vs H Q E h), fun A outer s H args us vs Q E hr e0 hb hv h => ?_⟩, h2, h3, h4⟩
  refine codeAny_mono (F.run A outer s H args us vs Q _ hr e0 hb hv (up vs H Q E h)) fun r s' hq => ?_
  cases r with
  | error e =>
    obtain ⟨_, _, _, _, _, _, _, _, _, _, _, _, z⟩ := hq
    exact z.elim
  | ok fl => cases fl <;> exact hq
  )
/-- one that raises nothing, as one that may -/
theorem Cal.y {P : Program} {w : World} {K : PySem.W.Frag} {mg : Str → Option Value} {base : Heap} {x : Str} {k : Nat} {ps : List Str} {T : TFX} (C : CalX P w K mg base x k ps T) : CalY P w K mg base x k ps (fun a Q E1 => T a Q fun x => ∀ c, E1 x [] c) := (by
  obtain ⟨f, fd, F, h2, h3, h4⟩ := C.ex
  have up : ∀ vs H Q E, SpY K (fun a Q E1 => T a Q fun x => ∀ c, E1 x [] c) vs H Q E → SpX K T vs H Q E := fun vs H Q E h => by
    obtain ⟨G, io, a, Q1, E1, st, hT, q, q2⟩ := h
    exact ⟨G, io, a, Q1, _, st, hT, q, fun x c s G' H' st' hx => q2 x [] none c s G' H' st' .none (hx c)⟩
  exact ⟨f, fd, ⟨fun vs H Q E h => F.len _ _ _ _ (up vs H Q E h), fun A outer s H args us vs Q E hr e0 hb hv h => F.run A outer s H args us vs Q E hr e0 hb hv (up vs H Q E h)⟩, h2, h3, h4⟩
  )
/-! ### calls -/
/-- where an exception leaves a call: the slots that were lent hold what the callee's parameters hold -/
def kE (v : Nat → Lt) (as : List Arg) (c1 : Ctx) (EE : EEt) : EEt := fun x fd c' => back v as c' c1 fun c2 => EE x fd c2
def retE (ls : List (Option (Lt × Res))) (E1 : EEt) (x : Str) (fd : List (Str × PyData)) : Prop := ∀ c', Pat ls c' → E1 x fd c'
theorem retE_k {v : Nat → Lt} {as : List Arg} {ls : List (Option (Lt × Res))} {c1 : Ctx} {EE : EEt} {x : Str} {fd : List (Str × PyData)} : retE ls (kE v as c1 EE) x fd = backL v as ls c1 fun c2 => EE x fd c2 :=
  propext ⟨fun h => back_self (h _ (pat_self ls)), fun h c' p => back_pat p h⟩
section
variable {X : Cx} {W : WX} {e : Expr} {es : List Expr} {t : TAr} {x : Str} {p pos : Pos} {k : Nat} {ps : List Str} {T : TFY} {tly : TLY}
def yCallA (T : TFY) (t : TAr) : TXY := fun EE c Q => t c fun as c1 => lentOk c1 as ∧ ∀ v : Nat → Lt, T (as.map (toS c1 v)) (kAX v as c1 Q) (kE v as c1 EE)
/-- behind a call to which slots were lent -/
theorem aft_call {K : PySem.W.Frag} {B : Base} {c1 : Ctx} {s : L2.St} {G1 H1 : Hp} {as : List Arg} {vs : List V} {T : TFY} {R : VK} {EE : EEt} {Q : S → Ctx → Prop} (st1 : Stt K B c1 s G1 H1) (d1 : ArgVs K G1 s as vs) (l : Lnk K W B G1 EE) (q1 : lentOk c1 as ∧ ∀ v : Nat → Lt, T (as.map (toS c1 v)) (kAX v as c1 Q) (kE v as c1 EE))
    (k : ∀ v x c' G' H', Stt K B (x :: c') (some v :: s) G' H' → Same G1 G' → Q x c' → R v H') : SpY K T vs H1 R (fun cls d H => W cls d s H) := (by
  obtain ⟨hl, q1⟩ := q1
  obtain ⟨l1, l2⟩ := lentOk_of hl
  obtain ⟨io, tg, st2, aft⟩ := lendA st1 l1 l2 d1
  refine ⟨G1, io, _, _, _, st2, q1 tg, fun r c' vr s' G' H' st' q2 => ?_, fun x fd d c' s' G' H' st' hd q2 => ?_⟩
  · obtain ⟨e2, c2, q3, g1, g2, g3⟩ := aft st' q2
    cases r with
    | d y =>
      obtain ⟨hd, st3⟩ := g1 y rfl
      exact k vr _ _ G' H' (st3.push_d hd) e2 q3
    | o w R2 =>
      cases w with
      | none => exact k vr _ _ G' H' (g2 R2 rfl) e2 q3
      | some _ => exact q3.elim
    | no => exact q3.elim
    | f F =>
      obtain ⟨hF, st3⟩ := g3 F rfl
      exact k vr _ _ G' H' (st3.push_f hF) e2 q3
  · obtain ⟨e2, c2, q3, g1, _⟩ := aft (st'.push_d (v := .non) (x := .none) .non) q2
    exact l x fd d c2 s G' H' (g1 _ rfl).2 e2 hd q3
  )
theorem y_callA (tk : Takes X W) (C : CalY X.prog X.w X.K X.mg X.base x k ps T) (hr : Room k X.A) (ha : DAr X (e :: es) t) (hg : Gl X x := by rfl)
    (hdb : (x == ("__debug__" : Str)) = false := by decide) (he : starEach (e :: es) X.env = (false, eval e X.env) :: starEach es X.env := by rfl) (hpl : (backTo pos (starEach es X.env)).any (·.1) = false := by rfl) : DXY X W (.Call (.Name x p) (e :: es) [] pos) (yCallA T t) := (by
  obtain ⟨f, fd, F, h2, h3, h4⟩ := C.ex
  obtain ⟨ta, pa, va⟩ := ha.ex
  refine ⟨_, pe_callS F hr hg h2 h3 h4 (passAt tk) pa hdb he hpl, fun B c s G H Q R EE st l q kk => va B c s G H _ _ st q fun vs as c1 G1 H1 st1 e1 d1 q1 => ?_⟩
  exact aft_call st1 d1 (l.mono e1) q1 fun v x c' G' H' st' e' q' => kk v x c' G' H' st' (e1.trans e') q'
  )
end
end Dl

/-! Instances of the text's classes: made, their fields, methods called with a part of a tree lent. -/
namespace L2
open PySem PySem.Spec PyProof.Rows
section
variable {X : Cx} {CX : CXT} {k : Nat} {f C : Addr} {fd : FuncData} {ps : List Str} {sp : Sp} {E : St → XK} {m : Str} {pos apos : Pos} {e o : Expr} {es : List Expr} {ta : TE} {t : TA}
end
end L2
namespace Dl
open PySem PySem.Spec PyProof.Rows L2
section
variable {X : Cx} {W : WX} {pos p : Pos} {e a : Expr} {es : List Expr} {j : Nat} {tp : TPl}
end

/-! ### a part of a tree taken out, and put back -/
section
variable {K : PySem.W.Frag} {B : Base} {G0 H0 G2 H2 : Hp} {A A1 : List Addr} {T T' : OT} {root u : V} {π : List Nat} {c2 : Ctx} {s : L2.St} {j : Nat} {w : Option Lt}
open Classical in
/-- what of A is not of A1 -/
noncomputable def less (A A1 : List Addr) : List Addr := A.filter fun a => decide (a ∉ A1)
/-- two on top, the other way about -/
theorem Stt.swap {x y : S} {a b : Option V} {c : Ctx} (st : Stt K B (x :: y :: c) (a :: b :: s) G2 H2) : Stt K B (y :: x :: c) (b :: a :: s) G2 H2 := (by
  obtain ⟨A, r, w⟩ := st.ex
  have key : ∀ {x : S} {a : Option V} {c : Ctx} {s : L2.St} {A : List Addr}, Reps K B G2 H2 (x :: c) (a :: s) A → ∃ Ax Ac, A = Ax ++ Ac ∧ Reps K B G2 H2 c s Ac ∧ ∀ {c' : Ctx} {s' : L2.St} {A' : List Addr}, Reps K B G2 H2 c' s' A' → Reps K B G2 H2 (x :: c') (a :: s') (Ax ++ A') := by
    intro x a c s A r
    cases r with
    | no r => exact ⟨[], _, rfl, r, fun r' => .no r'⟩
    | d h r => exact ⟨[], _, rfl, r, fun r' => .d h r'⟩
    | f h r => exact ⟨[], _, rfl, r, fun r' => .f h r'⟩
    | o h hw r => exact ⟨_, _, rfl, r, fun r' => .o h hw r'⟩
  obtain ⟨Ax, Ac, rfl, r1, k1⟩ := key r
  obtain ⟨Ay, Ad, rfl, r2, k2⟩ := key r1
  have pm : (Ay ++ (Ax ++ Ad)).Perm (Ax ++ (Ay ++ Ad)) := by
    rw [← List.append_assoc, ← List.append_assoc]
    exact List.Perm.append_right _ List.perm_append_comm
  exact ⟨Ay ++ (Ax ++ Ad), k2 (k1 r2), w.sub, pm.nodup_iff.mpr w.nd, fun a ha => w.out a (pm.mem_iff.mp ha), w.old, w.stay, w.dom, w.newG, fun a ha => w.lim a (pm.mem_iff.mp ha)⟩
  )
end
/-! ### methods -/
section
variable {X : Cx} {W : WX} {pos apos : Pos} {o e : Expr} {es : List Expr} {j k : Nat} {tp : TPl} {tly : TLY} {T : TFY} {C m : Str} {ps : List Str}
/-! ### .. that raise nothing, in a def that raises nothing -/
/-- a method that raises nothing -/
structure MtN (P : Program) (w : World) (K : PySem.W.Frag) (mg : Str → Option Value) (base : Heap) (C m : Str) (k : Nat) (ps : List Str) (T : TF) : Prop where
  ex : ∃ f fd, FnOk P w K mg base CX0 k f fd ps (SpD K T) ∧ Meth K (He.ga K C) m f ∧ Cls K (He.ga K C) ∧ Binds K fd ps []
theorem MtY.n {P : Program} {w : World} {K : PySem.W.Frag} {mg : Str → Option Value} {base : Heap} {C m : Str} {k : Nat} {ps : List Str} {T : TFY} (M : MtY P w K mg base C m k ps T) : MtN P w K mg base C m k ps (fun a Q => T a Q fun _ _ _ => False) := (by
  obtain ⟨f, fd, F, h2, h3, h4⟩ := M.ex
  have up : ∀ vs H Q E, SpD K (fun a Q => T a Q fun _ _ _ => False) vs H Q E → SpY K T vs H Q fun _ _ _ => False := fun vs H Q E h => by
    obtain ⟨G, io, a, Q1, st, hT, q⟩ := h
    exact ⟨G, io, a, Q1, _, st, hT, q, fun _ _ _ _ _ _ _ _ _ z => z⟩
  refine ⟨f, fd, ⟨fun vs H Q E h => F.len _ _ _ _ (up vs H Q E h), fun A outer s H args us vs Q E hr e0 hb hv h => ?_⟩, h2, h3, h4⟩
  refine codeAny_mono (F.run A outer s H args us vs Q _ hr e0 hb hv (up vs H Q E h)) fun r s' hq => ?_
  cases r with
  | error e =>
    obtain ⟨_, _, _, _, _, _, _, _, _, _, _, _, z⟩ := hq
    exact z.elim
  | ok fl => cases fl <;> exact hq
  )
variable {TN : TF} {tl : TL}
/-! ### C() -/
end
end Dl

/-! Exceptions with fields: made by the class's __init__, asked, their fields read; try around statements; a field put. -/
namespace L2
open PySem PySem.Spec PyProof.Rows
section
variable {X : Cx} {e : Expr} {es : List Expr} {ta : TA} {B : Str} {CB : Addr} {p1 p2 pos : Pos}
/-- what the base class must have for B.__init__(self, ..) -/
structure BinC (K : PySem.W.Frag) (C : Addr) : Prop where
  sp : PySem.W.specialIn K (.ref C) "__getattribute__" = some (some (.builtin "type.__getattribute__"))
  rd : PySem.W.readsIn K C (.type "type") = true
  at_ : PySem.W.findCls K (.ref C) (.type "type") "__init__" = some (.val (.builtin "ValueError.__init__"))
/-- B.__init__(self, ..), B a class of the text over ValueError -/
theorem pe_binit {pl : Sem Bool} (hg : Gl X B) (hm : X.mg B = some (.ref CB)) (hB : BinC X.K CB) (ha : PA X (e :: es) ta) (hdb : (B == ("__debug__" : Str)) = false := by decide)
    (hc : eval (.Call (.Attribute (.Name B p1) "__init__" p2) (e :: es) [] pos) X.env = (do let ov ← eval (.Name B p1) X.env; standAt p2.atName; let (f, first) ← holding [ov] (getMethod ov "__init__" pl); callWith pos f first (backTo pos (starEach (e :: es) X.env)) (backToKw pos (keywordEach [] X.env))) := by rfl)
    (he : starEach (e :: es) X.env = (false, eval e X.env) :: starEach es X.env := by rfl) (hpl : (backTo pos (starEach es X.env)).any (·.1) = false := by rfl) :
    PE X (.Call (.Attribute (.Name B p1) "__init__" p2) (e :: es) [] pos) (tVeI X.K ta) := (by
  refine ⟨fun pins s σ H Q I h => PySem.W.methodCall_KW (ld_glob I hg hm ?_ hdb) hc⟩
  refine PySem.W.method_cls I.kIn hB.sp (PySem.W.cls_value I.kIn hB.rd hB.at_ rfl ?_)
  show wpAny _ _ (callWith pos (Value.builtin "ValueError.__init__") [] (backTo pos (starEach (e :: es) X.env)) []) _ _ _
  refine PyProof.Rows.callWith_method1 (thn (ha.run pos pins _ σ H _ (I.tok _) h) fun us s1 hh => ?_) he hpl
  obtain ⟨vs, H1, I1, r1, a, C, ws, rfl, hl, T, ea, q⟩ := hh
  cases r1 with
  | @cons _ u0 _ ur ra rw' =>
    have eu : u0 = Value.ref a := ra
    subst eu
    exact oinit_ok T I1 ea (by rw [← Paired.length rw', sizeLine_eq]; omega) fun s' J => ⟨.non, H1, J, rfl, q⟩
  )
end
/-- what a class with two fields must have -/
structure Ex2 (K : PySem.W.Frag) (C : Addr) (f1 f2 : Str) : Prop where
  o : OexC K C
  n1 : PySem.W.findIn K (.ref C) f1 = some none
  n2 : PySem.W.findIn K (.ref C) f2 = some none
/-- the promise of an __init__ that keeps two fields -/
def spEx2 (K : PySem.W.Frag) (C : Addr) (f1 f2 : Str) : Sp := fun vs H Q _ => ∃ e a b, vs = [.ref e, a, b] ∧ H e = some (exo e C none) ∧ ∀ d, H d = none → d ≠ e → Q .non (upd (upd (upd H d (exd d [(f1, a)])) e (exo e C (some d))) d (exd d [(f2, b), (f1, a)]))
end L2
namespace Dl
open PySem PySem.Spec PyProof.Rows L2
/-- an exception at a, its dict d, its fields -/
def excR (a : Addr) (d : Option Addr) (fd : List (Str × PyData)) : FrG := { P := fun K G v => v = .ref a ∧ XdOk K G fd d, grow := fun _ _ _ _ h e => ⟨h.1, h.2.mono e⟩ }
theorem xd_look {K : PySem.W.Frag} {G : Hp} {f : Str} {x : PyData} : ∀ {fs : List (Str × V)} {fd : List (Str × PyData)}, fs.map (·.1) = fd.map (·.1) → DpAll K G (fs.map (·.2)) (fd.map (·.2)) → fd.lookup f = some x → ∃ v, fs.lookup f = some v ∧ Dp K G v x
  | _, [], _, _, h => by cases h
  | [], _ :: _, h, _, _ => by cases h
  | (g, v) :: fs, (g', y) :: fd, e, d, h => by
    rw [List.map_cons, List.map_cons] at e d
    injection e with e1 e2
    have e1 : g = g' := e1
    subst e1
    cases d with
    | cons d1 d2 =>
      unfold List.lookup at h ⊢
      cases q : f == g with
      | true => rw [q] at h; cases h; exact ⟨v, rfl, d1⟩
      | false => rw [q] at h; exact xd_look e2 d2 h
section
variable {X : Cx} {W : WX} {e : Expr} {n x : Str} {pos p p1 p2 : Pos}
/-- raise C(e1, e2) -/
def zRaise2 (C f1 f2 : Str) (tl : TLY) : TSY := fun EE _ c => tl EE c fun xs c1 => arg2 xs fun x y => EE C [(f2, y), (f1, x)] c1
theorem s_raise2 {C f1 f2 : Str} {fI : Addr} {fd : FuncData} {ps : List Str} {k : Nat} {e1 e2 : Expr} {tly : TLY} {pos' : Pos} (hc : X.calm = true) (tk : Takes X W) (T : Ex2 X.K (He.ga X.K C) f1 f2) (iC : PySem.W.findIn X.K (.ref (He.ga X.K C)) "__init__" = some (some (.ref fI))) (tI : PySem.W.typeIn X.K (.ref fI) = some (.type "function"))
    (F1 : FnOk X.prog X.w X.K X.mg X.base CX0 k fI fd ps (spEx2 X.K (He.ga X.K C) f1 f2)) (hb : Binds X.K fd ps []) (hr : Room (k + 1) X.A) (hm : X.mg C = some (.ref (He.ga X.K C))) (ha : DAY X W [e1, e2] tly) (hg : Gl X C := by rfl)
    (hdb : (C == ("__debug__" : Str)) = false := by decide) (he : starEach [e1, e2] X.env = (false, eval e1 X.env) :: starEach [e2] X.env := by rfl) (hpl : (backTo pos (starEach [e2] X.env)).any (·.1) = false := by rfl) :
    DSY X W (.Raise (some (.Call (.Name C p) [e1, e2] [] pos)) none pos') (zRaise2 C f1 f2 tly) := (by
  obtain ⟨ta, pa, va⟩ := ha.ex
  refine ⟨_, ps_raise hc tk (pmk_oex (sp := spEx2 X.K (He.ga X.K C) f1 f2) (dvs := []) T.o iC tI F1 hr hb .nil pass0 hg hm pa hdb he hpl), fun B c s G H D E EE st k l q => va B c s G H _ _ EE st l q fun vs xs c1 G1 H1 st1 e1' d1 q1 => ?_⟩
  obtain ⟨x, y, rfl, q2⟩ := arg2_of q1
  obtain ⟨v1, v2, rfl, d2, d3⟩ := dpa_2 d1
  refine ⟨by show 2 ≤ 1000; decide, fun a ha => ⟨a, v1, v2, rfl, upd_same, fun d hd hne => ⟨rfl, d, [(f2, v2), (f1, v1)], ?_, upd_same, ?_, ?_⟩⟩⟩
  · rw [upd_ne hne.symm, upd_same]
  · rwa [upd_ne hne] at hd
  · have hd1 : H1 d = none := by rwa [upd_ne hne] at hd
    have eH : upd (del (upd (upd (upd (upd H1 a (exo a (He.ga X.K C) none)) d (exd d [(f1, v1)])) a (exo a (He.ga X.K C) (some d))) d (exd d [(f2, v2), (f1, v1)])) a) d (.xd [(f2, v2), (f1, v1)]) = upd H1 d (.xd [(f2, v2), (f1, v1)]) := by
      funext b
      by_cases hb : b = d
      · rw [hb, upd_same, upd_same]
      · rw [upd_ne hb, upd_ne hb]
        by_cases hba : b = a
        · rw [hba, del_same, ha]
        · rw [del_ne hba, upd_ne hb, upd_ne hba, upd_ne hb, upd_ne hba]
    show W _ _ s (upd (del _ a) d _)
    rw [eH]
    obtain ⟨st2, e2'⟩ := st1.laid (o := .xd [(f2, v2), (f1, v1)]) hd1
    exact l C [(f2, y), (f1, x)] (some d) c1 s _ _ st2 (e1'.trans e2') (.inr ⟨d, _, rfl, upd_same, rfl, .cons (dp_mono e2' _ _ d3) (.cons (dp_mono e2' _ _ d2) .nil)⟩) q2
  )
/-! ### the exception in hand -/
theorem xd_here {K : PySem.W.Frag} {G H : Hp} {fd : List (Str × PyData)} {d : Option Addr} (h : XdOk K G fd d) (e : Same G H) : d = none ∨ ∃ dd fs, d = some dd ∧ H dd = some (.xd fs) := (by
  rcases h with h | ⟨dd, fs, h1, h2, _⟩
  · exact .inl h.2
  · exact .inr ⟨dd, fs, h1, e _ _ h2⟩
  )
/-- e.f, a field of the exception in hand -/
def uXf (j : Nat) (a : Addr) (d : Option Addr) (f : Str) : TD := fun c Q => ∃ fd x, c[j]? = some (.f (excR a d fd)) ∧ fd.lookup f = some x ∧ Q x c
theorem d_xf {a C : Addr} {d : Option Addr} {oe : Obj} {pn : List (Addr × Obj)} {f : Str} (j : Nat) (T : XfC X.K C) (hno : PySem.W.findIn X.K (.ref C) f = some none) (hz : Zc (.ref C) d oe) (hfl : ∃ vs, oe.data = .fields vs)
    (hN : X.N[j]? = some n := by rfl) (hv : Vis X.env.scope n := by first | exact Or.inl rfl | exact Or.inr (Or.inl rfl) | exact Or.inr (Or.inr rfl)) (hd : (n == ("__debug__" : Str)) = false := by decide) (hcd : (n == ("__classdict__" : Str)) = false := by decide)
    (hb : attributeBase (.Name n p1) f X.env (eval (.Name n p1) X.env) = eval (.Name n p1) X.env := by rfl) : DE (X.suite a ((a, oe) :: pn)) (.Attribute (.Name n p1) f pos) (uXf j a d f) := (by
  refine ⟨_, pe_xf T hno hz hfl (pe_var (X := X.suite a ((a, oe) :: pn)) (i := j) hN hv hd hcd) hb, fun B c s G H Q R st q k => ?_⟩
  obtain ⟨fd, x, hj, hx, q⟩ := q
  obtain ⟨A, r, _⟩ := st.ex
  obtain ⟨v, h3, rfl, hxd⟩ := r.get_f hj
  rcases hxd with ⟨z, _⟩ | ⟨dd, fs, e1, e2, e3, e4⟩
  · rw [z] at hx; cases hx
  · obtain ⟨v, h5, h6⟩ := xd_look e3 e4 hx
    exact ⟨.ref a, h3, rfl, rfl, dd, fs, v, e1, st.sub _ _ e2, h5, k v x c G H st (Same.refl _) h6 q⟩
  )
/-! ### try -/
end
/-! ### a field put -/
section
variable {X : Cx} {pos pos' p : Pos} {e : Expr} {to : TR} {y : Str}
end
end Dl

/-! The head's facts for classes; calls to which a part of a tree is lent to be looked at. -/
namespace Dl
open PySem PySem.Spec PyProof.Rows L2
/-- the class x may be made by an __init__ of its own -/
def oexB (x : Str) (K : PySem.W.Frag) : Bool := (match K.lookup (He.ga K x) with
  | some ⟨.type "type", _, .cls cd, sl⟩ => (match cd.mro, sl.toList with
    | .ref C' :: bm, [_, _, _, _, some (.builtin n), _] => C' == He.ga K x && n == "ValueError.__new__" && !cd.hasDel && cd.hasDict && PySem.HandSPX.refsVE bm
    | _, _ => false)
  | _ => false) && (decide (PySem.W.findIn K (.ref (He.ga K x)) "__setattr__" = some (some (.builtin "object.__setattr__"))) && (decide (PySem.W.subIn K (.ref (He.ga K x)) (.type "BaseException") = some true) && (decide (PySem.W.typeIn K (.ref (He.ga K x)) = some (.type "type")) && PySem.W.keepIn K (.ref (He.ga K x)))))
theorem oexB_ok {x : Str} {K : PySem.W.Frag} (h : oexB x K = true) : OexC K (He.ga K x) := (by
  unfold oexB at h
  simp only [Bool.and_eq_true, decide_eq_true_eq] at h
  obtain ⟨h1, h2, h3, h4, h5⟩ := h
  refine ⟨?_, h2, h3, h4, h5⟩
  split at h1
  · rename_i dd cd sl ho
    split at h1
    · rename_i C' bm k0 k1 k2 k3 n k5 hm hs
      simp only [Bool.and_eq_true, beq_iff_eq, Bool.not_eq_true'] at h1
      obtain ⟨⟨⟨⟨e1, e2⟩, hdel⟩, hd⟩, hr⟩ := h1
      obtain ⟨nm, bs, mro, ns, qn, hdd, sn, sub, ab, col, del⟩ := cd
      dsimp only at hm hdel hd
      subst hm hdel hd e1 e2
      have hsl : sl = #[k0, k1, k2, k3, some (.builtin "ValueError.__new__"), k5] := by
        obtain ⟨l⟩ := sl
        simp only at hs
        rw [hs]
      subst hsl
      exact ⟨nm, qn, ns, bs, bm, sn, sub, ab, col, dd, k0, k1, k2, k3, k5, ho, hr⟩
    · cases h1
  · cases h1
  )
def noatB (x f : Str) (K : PySem.W.Frag) : Bool := decide (PySem.W.findIn K (.ref (He.ga K x)) f = some none)
/-- .. with two fields -/
def ex2B (x f1 f2 : Str) (K : PySem.W.Frag) : Bool := oexB x K && (noatB x f1 K && noatB x f2 K)
theorem ex2B_ok {x f1 f2 : Str} {K : PySem.W.Frag} (h : ex2B x f1 f2 K = true) : Ex2 K (He.ga K x) f1 f2 := (by
  unfold ex2B noatB at h
  simp only [Bool.and_eq_true, decide_eq_true_eq] at h
  exact ⟨oexB_ok h.1, h.2.1, h.2.2⟩
  )
def isCls : PySem.W.CFound → Bool
  | .val (.builtin n) => n == "ValueError.__init__"
  | _ => false
def binB (x : Str) (K : PySem.W.Frag) : Bool := decide (PySem.W.specialIn K (.ref (He.ga K x)) "__getattribute__" = some (some (.builtin "type.__getattribute__"))) && (PySem.W.readsIn K (He.ga K x) (.type "type") && (PySem.W.findCls K (.ref (He.ga K x)) (.type "type") "__init__").any isCls)
theorem binB_ok {x : Str} {K : PySem.W.Frag} (h : binB x K = true) : BinC K (He.ga K x) := (by
  unfold binB at h
  simp only [Bool.and_eq_true, decide_eq_true_eq] at h
  obtain ⟨h1, h2, h3⟩ := h
  refine ⟨h1, h2, ?_⟩
  cases q : PySem.W.findCls K (.ref (He.ga K x)) (.type "type") "__init__" with
  | none => rw [q] at h3; cases h3
  | some r =>
    rw [q] at h3
    have h3 : isCls r = true := h3
    unfold isCls at h3
    split at h3
    · rw [beq_iff_eq.mp h3]
    · cases h3
  )
/-- the __init__ of x is its own def -/
def initB (x : Str) (K : PySem.W.Frag) : Bool := decide (PySem.W.findIn K (.ref (He.ga K x)) "__init__" = some (some (.ref (He.ma K (He.ga K x) "__init__")))) && decide (PySem.W.typeIn K (.ref (He.ma K (He.ga K x) "__init__")) = some (.type "function"))
theorem initB_ok {x : Str} {K : PySem.W.Frag} (h : initB x K = true) : PySem.W.findIn K (.ref (He.ga K x)) "__init__" = some (some (.ref (He.ma K (He.ga K x) "__init__"))) ∧ PySem.W.typeIn K (.ref (He.ma K (He.ga K x) "__init__")) = some (.type "function") := (by
  unfold initB at h
  simp only [Bool.and_eq_true, decide_eq_true_eq] at h
  exact h
  )
def xfcB (x : Str) (K : PySem.W.Frag) : Bool := xfB K (He.ga K x)
/-! ### defs by another name, methods -/
structure DfA (K : PySem.W.Frag) (mg : Str → Option Value) (g x : Str) (st : Stmt) (ps : List Str) : Prop where
  ex : ∃ f fd, Fun K x x st f fd ∧ mg g = some (.ref f) ∧ Binds K fd ps []
structure DfM (K : PySem.W.Frag) (C m q : Str) (st : Stmt) (ps : List Str) : Prop where
  ex : ∃ fd, Fun K m q st (He.ma K (He.ga K C) m) fd ∧ Binds K fd ps []
theorem dfm_of {K : PySem.W.Frag} {fa : List He.Fa} {fn : List He.DefD} {C m q : Str} {st : Stmt} {ps : List Str} (c : He.SaysD fa fn K) (i : Nat)
    (hd : fn[i]? = some ⟨(C, some m), m, q, defArgs st, defBody st, defScope st, [], []⟩)
    (hb : ∀ (kV doc pm : Value) (an : Option Addr) (cdv ct : Value) (us : List Value), us.length = ps.length → bindArgs (PySem.W.fnOf m q (defArgs st) (defBody st) (defScope st) .none kV doc pm an cdv ct) ⟨us, []⟩ = pure (ps.zip us)) : DfM K C m q st ps := (by
  obtain ⟨fd, F⟩ := c.def_ i hd
  have F2 := fun_ofD F
  exact ⟨fd, F2, F2.binds hb⟩
  )
/-- the hook with the statics -/
def obsZG (n : Nat) (fa : List He.Fa) (fn : List He.DefD) (xs : List (PySem.W.Frag → Bool)) (g : Addr → Option Obj) : AlX := obsX fa fn xs (He.frG g (cStatics :: He.asD g n))
def hookZ (n : Nat) (fa : List He.Fa) (fn : List He.DefD) (xs : List (PySem.W.Frag → Bool)) : PySem.W.Hook where
  α := AlX
  obs := fun s => obsZG n fa fn xs s.heap.get?
  val := fun _ => valX fn xs
  says := fun _ h => ∃ K : PySem.W.Frag, K.In h ∧ SaysX fa fn xs K
  of := fun _ _ e => ⟨_, He.frG_in, e⟩
  keeps := fun _ _ _ ⟨K, hK, c⟩ k => ⟨K, PySem.W.Frag.In.keeps hK k, c⟩
theorem obsZG_eq {n : Nat} {fa : List He.Fa} {fn : List He.DefD} {xs : List (PySem.W.Frag → Bool)} {g : Addr → Option Obj} {s : Shared} (h : ∀ a, g a = s.heap.get? a) : obsZG n fa fn xs g = (hookZ n fa fn xs).obs s := (by
  have e : g = s.heap.get? := funext h
  rw [e] <;> rfl
  )
/-! ### trees whose data has no lists -/
mutual
def OT.pln : OT → Bool
  | .dat x => kOk x
  | .lst ts => OT.plns ts
  | .tup ts => OT.plns ts
  | .dic _ _ ks ts => kOks ks && OT.plns ts
  | .obj _ _ ts => OT.plns ts
def OT.plns : List OT → Bool
  | [] => true
  | t :: ts => OT.pln t && OT.plns ts
end
section
variable {K : PySem.W.Frag} {G G2 H : Hp}
end
def okW (x : S) (Q : S → Prop) : Prop := match x with
  | .d y => kOk y = true ∧ Q (.d y)
  | .o none (.lst ds) => kOks ds = true ∧ Q (.o none (.lst ds))
  | .o none (.tr t) => t.pln = true ∧ Q (.o none (.tr t))
  | _ => False
def kW (Q : S → Prop) : S → Ctx → Prop := fun r _ => okW r Q
theorem ret_wd {Q : S → Prop} {x : PyData} : ret (kW Q) (.d x) = (kOk x = true ∧ Q (.d x)) := propext ⟨fun h => h [], fun h _ => h⟩
theorem ret_wo {Q : S → Prop} {ds : List PyData} : ret (kW Q) (.o none (.lst ds)) = (kOks ds = true ∧ Q (.o none (.lst ds))) := propext ⟨fun h => h [], fun h _ => h⟩
theorem ret_wt {Q : S → Prop} {t : OT} : ret (kW Q) (.o none (.tr t)) = (t.pln = true ∧ Q (.o none (.tr t))) := propext ⟨fun h => h [], fun h _ => h⟩
section
variable {X : Cx} {pos : Pos} {e : Expr} {es : List Expr} {x : Str} {p : Pos} {k : Nat} {ps : List Str} {T : TF} {j : Nat} {tp : TPl} {tks : TCs} {tx : TX}
end
end Dl

/-! What an __init__ promises, kept in a row; try whose suites come in a list. -/
namespace Dl
open PySem PySem.Spec PyProof.Rows L2
/-- a class's __init__ keeps its promise -/
structure InN (P : Program) (w : World) (K : PySem.W.Frag) (mg : Str → Option Value) (base : Heap) (C : Str) (k : Nat) (ps : List Str) (T : TF) : Prop where
  ex : ∃ fd, FnOk P w K mg base CX0 k (He.ma K (He.ga K C) "__init__") fd ps (SpD K T) ∧ Binds K fd ps []
/-- the __init__ of an exception of two fields -/
structure InEx (P : Program) (w : World) (K : PySem.W.Frag) (mg : Str → Option Value) (base : Heap) (C f1 f2 : Str) (k : Nat) : Prop where
  ex : ∃ fd ps, FnOk P w K mg base CX0 k (He.ma K (He.ga K C) "__init__") fd ps (spEx2 K (He.ga K C) f1 f2) ∧ Binds K fd ps []
theorem in_ex {P : Program} {w : World} {K : PySem.W.Frag} {mg : Str → Option Value} {base : Heap} {C f1 f2 q n1 n2 n3 m : Str} {st : Stmt} {k : Nat} (D : DfM K C "__init__" q st [n1, n2, n3]) (sc : FnScope [n1, n2, n3] [n1, n2, n3] (defScope st)) (T : Ex2 K (He.ga K C) f1 f2)
    (body : ∀ (f : Addr) (cdv : Value) (A : Around) (outer : List Env) (s : Shared) (H : Hp) (E : XK), PSs (cxOf CX0 P w K mg base [n1, n2, n3] q (defScope st) f cdv A outer s H E).nox (defBody st) (tSeq (tDrop (tVeI K (tCons (tVar 0) (tCons (tC (.str m)) tNil)))) (tSeq (tOst K f1 (tVar 0) (tVar 1)) (tOst K f2 (tVar 0) (tVar 2))))) :
    InEx P w K mg base C f1 f2 (k + 1) := (by
  obtain ⟨fd, F, hB⟩ := D.ex
  refine ⟨fd, _, F.ok (k := k) sc (fun vs H Q E h => ?_) (fun cdv A outer s H vs Q E hr h => ⟨_, body _ cdv A outer s H E, ?_⟩), hB⟩
  · obtain ⟨_, _, _, rfl, _⟩ := h
    rfl
  · obtain ⟨e, a, b, rfl, he, q⟩ := h
    refine ⟨.ref e, rfl, e, He.ga K C, [.str m], rfl, by simp, T.o, he, a, rfl, .ref e, rfl, e, He.ga K C, rfl, T.o, T.n1, .inl ⟨he, fun dx hd ne => ?_⟩⟩
    refine ⟨b, rfl, .ref e, rfl, e, He.ga K C, rfl, T.o, T.n2, .inr ⟨dx, [(f1, a)], upd_same, ?_, by simp, q dx hd ne⟩⟩
    rw [upd_ne ne, upd_same]
  )
/-! ### try, the suites in a list -/
/-- what stands in a row under a class's name -/
def atY {β : Type} : List (Str × β) → Str → (β → Prop) → Prop
  | [], _, _ => False
  | (z, b) :: l, y, Q => if y = z then Q b else atY l y Q
theorem atY_cons {β : Type} {y z : Str} {b : β} {l : List (Str × β)} {Q : β → Prop} : atY ((z, b) :: l) y Q = if y = z then Q b else atY l y Q := rfl
theorem atY_of {β : Type} {y : Str} {Q : β → Prop} : ∀ {l : List (Str × β)}, atY l y Q → ∃ b, (y, b) ∈ l ∧ Q b
  | [], h => h.elim
  | (z, b) :: l, h => by
    unfold atY at h
    split at h
    · rename_i e
      subst e
      exact ⟨b, List.mem_cons_self, h⟩
    · obtain ⟨b', h1, h2⟩ := atY_of h
      exact ⟨b', List.mem_cons_of_mem _ h1, h2⟩
/-- the suites of the classes that come -/
inductive SuAll (X : Cx) (x : Str) (b₀ : Stmt) (suite : List Stmt) : List (Str × (Addr → Option Addr → TSd)) → Prop
  | nil : SuAll X x b₀ suite []
  | cons {y : Str} {ts : Addr → Option Addr → TSd} {l : List (Str × (Addr → Option Addr → TSd))} (hk : PySem.W.exmOne X.K (.ref (He.ga X.K y)) (.ref (He.ga X.K x)) = some true)
      (h : ∀ (a : Addr) (d : Option Addr) (oe : Obj) (pn : List (Addr × Obj)), Zc (.ref (He.ga X.K y)) d oe → (∃ vs, oe.data = .fields vs) → DSs (X.suite a ((a, oe) :: pn)) (b₀ :: suite) (ts a d)) (r : SuAll X x b₀ suite l) : SuAll X x b₀ suite ((y, ts) :: l)
theorem SuAll.get {X : Cx} {x : Str} {b₀ : Stmt} {suite : List Stmt} {y : Str} {ts : Addr → Option Addr → TSd} : ∀ {l : List (Str × (Addr → Option Addr → TSd))}, SuAll X x b₀ suite l → (y, ts) ∈ l →
    PySem.W.exmOne X.K (.ref (He.ga X.K y)) (.ref (He.ga X.K x)) = some true ∧ ∀ (a : Addr) (d : Option Addr) (oe : Obj) (pn : List (Addr × Obj)), Zc (.ref (He.ga X.K y)) d oe → (∃ vs, oe.data = .fields vs) → DSs (X.suite a ((a, oe) :: pn)) (b₀ :: suite) (ts a d)
  | _, .cons hk h r, hm => by
    rcases List.mem_cons.mp hm with e | e
    · cases e
      exact ⟨hk, h⟩
    · exact r.get e
section
variable {X : Cx} {W : WX} {n x : Str} {pos : Pos}
def zTryL (t : TSY) (i : Nat) (yts : List (Str × (Addr → Option Addr → TSd))) : TSd := fun E c => t (fun y fd c1 => atY yts y fun ts => ∀ a d, ts a d { nx := fun c' => E.nx (c'.set i .no), rt := E.rt, bk := fun c' => E.bk (c'.set i .no), ct := fun c' => E.ct (c'.set i .no) } (c1.set i (.f (excR a d fd)))) E c
theorem s_tryL {t : TSY} {i : Nat} {yts : List (Str × (Addr → Option Addr → TSd))} {body suite : List Stmt} {b₀ : Stmt} {np pos' : Pos} (hs : X.stack = X.env :: X.outer) (hf : X.env.frame = some X.env.locals) (hN : X.N.Nodup) (hx : X.mg x = some (.ref (He.ga X.K x)))
    (hb : ∀ (W : WX) pn xe, Takes (X.tr pn xe) W → PassesOwn (model X.prog X.w) X.A X.env xe → DSsY (X.tr pn xe) W body t) (hsu : SuAll X x b₀ suite yts)
    (hi : X.N[i]? = some n := by rfl) (hln : X.env.kindOf n = some .local := by rfl) (hgx : Gl X x := by rfl) (hdx : (x == ("__debug__" : Str)) = false := by decide) :
    DS X (.Try body [.ExceptHandler (some (.Name x np)) (some n) (b₀ :: suite) pos'] [] [] pos) (zTryL t i yts) := (by
  let tb : WX → TS := fun W D σ H => ∀ ts0 : TS, DSYv X.K W ts0 t → ts0 D σ H
  let tsA : Addr → Value → Option Addr → TS := fun a cls d D σ H => ∃ y ts, (y, ts) ∈ yts ∧ cls = .ref (He.ga X.K y) ∧ ∀ ts0 : TS, DSv X.K ts0 (ts a d) → ts0 D σ H
  refine ⟨_, ps_try_as (tb := tb) (ts := tsA) (Wout := fun _ _ _ _ => False) hs hf hN hi hln ⟨hgx, hdx, .inl hx⟩ (fun u s' ⟨_, _, _, _, _, _, _, _, _, _, _, _, _, _, _, _, w⟩ => w.elim) (fun W pn xe tk po => ?_) (fun a oe cls d pn hz hfl => ?_), fun B c s G H D E st kk q => ?_⟩
  · obtain ⟨ts0, p, v⟩ := (hb W pn xe tk po).ex
    exact ⟨fun pins s σ H D I h => p.run pins s σ H D I (h ts0 v)⟩
  · refine ⟨fun pins s σ H D I h => ?_⟩
    obtain ⟨y, ts, hy, rfl, h⟩ := h
    obtain ⟨ts0, p, v⟩ := ((hsu.get hy).2 a d oe pn hz hfl).ex
    exact p.run pins s σ H D I (h ts0 v)
  · intro ts0 v0
    refine v0 B c s G H D E _ st kk (fun y fd d c1 s1 G1 H1 st1 e1 hd hy => ?_) q
    obtain ⟨ts, hm, hy⟩ := atY_of hy
    refine ⟨true, (hsu.get hm).1, fun _ a _ => ⟨y, ts, hm, rfl, fun ts1 v1 => ?_⟩, fun z => nomatch z⟩
    exact v1 B (c1.set i (.f (excR a d fd))) _ G1 H1 _ { nx := fun c' => E.nx (c'.set i .no), rt := E.rt, bk := fun c' => E.bk (c'.set i .no), ct := fun c' => E.ct (c'.set i .no) } (st1.set_f i (v := .ref a) ⟨rfl, hd⟩) ⟨fun c s G2 H2 st3 e3 q3 => kk.nx _ _ G2 H2 (st3.set_no i none) (e1.trans e3) q3, fun r c v s G2 H2 st3 e3 q3 => kk.rt r c v s G2 H2 st3 (e1.trans e3) q3,
      fun c s G2 H2 st3 e3 q3 => kk.bk _ _ G2 H2 (st3.set_no i none) (e1.trans e3) q3, fun c s G2 H2 st3 e3 q3 => kk.ct _ _ G2 H2 (st3.set_no i none) (e1.trans e3) q3⟩ (hy a d)
  )
/-- raise C(e1, e2), by what its __init__ promises -/
theorem s_raiseI {C f1 f2 : Str} {k : Nat} {e1 e2 : Expr} {tly : TLY} {p pos' : Pos} (hc : X.calm = true) (tk : Takes X W) (T : Ex2 X.K (He.ga X.K C) f1 f2) (iT : PySem.W.findIn X.K (.ref (He.ga X.K C)) "__init__" = some (some (.ref (He.ma X.K (He.ga X.K C) "__init__"))) ∧ PySem.W.typeIn X.K (.ref (He.ma X.K (He.ga X.K C) "__init__")) = some (.type "function"))
    (I : InEx X.prog X.w X.K X.mg X.base C f1 f2 k) (hr : Room (k + 1) X.A) (hm : X.mg C = some (.ref (He.ga X.K C))) (ha : DAY X W [e1, e2] tly) (hg : Gl X C := by rfl)
    (hdb : (C == ("__debug__" : Str)) = false := by decide) (he : starEach [e1, e2] X.env = (false, eval e1 X.env) :: starEach [e2] X.env := by rfl) (hpl : (backTo pos (starEach [e2] X.env)).any (·.1) = false := by rfl) :
    DSY X W (.Raise (some (.Call (.Name C p) [e1, e2] [] pos)) none pos') (zRaise2 C f1 f2 tly) := (by
  obtain ⟨fd, ps, F, hb⟩ := I.ex
  exact s_raise2 hc tk T iT.1 iT.2 F hb hr hm ha hg hdb he hpl
  )
end
end Dl

/-! sorted(set(numbers)). -/
namespace PySem
open PySem PySem.Spec PyProof.Rows
section
variable {prog : Program} {w : World} {A : Around} {E : Value → Shared → Prop} {s : Shared}
end
end PySem
namespace Dl
open PySem PySem.Spec PyProof.Rows L2
section
variable {X : Cx} {a : Expr} {ta : TD} {p p2 q pos : Pos}
end
end Dl

/-! isinstance(e, (C, ..)), e an exception that may have fields. -/
namespace Dl
open PySem PySem.Spec PyProof.Rows L2
section
variable {X : Cx} {n : Str} {es : List Expr} {pos p p1 : Pos}
end
end Dl

/-! isinstance(x, (T1, T2)) of data. -/
namespace Dl
open PySem PySem.Spec PyProof.Rows L2
section
variable {X : Cx} {pos p : Pos} {a : Expr} {ta : TD}
end
end Dl

/-! What is never come to: expressions and statements of which nothing is asked but that no way leads there. -/
namespace Dl
open PySem PySem.Spec PyProof.Rows L2
section
variable {X : Cx} {e : Expr} {st : Stmt} {ss : List Stmt}
end
end Dl

/-! [list(..) for ..]: a list of new lists. -/
namespace Dl
open PySem PySem.Spec PyProof.Rows L2
def rdO (K : PySem.W.Frag) (t : TR) : TE := fun σ H Q => ∃ (B : Base) (c : Ctx) (G : Hp) (Q' : Res → Ctx → Prop), Stt K B c σ G H ∧ t c Q' ∧ ∀ v R c' G' H', Stt K B (.o none R :: c') (some v :: σ) G' H' → Same G G' → Q' R c' → Q v H'
section
variable {K : PySem.W.Frag} {B : Base} {G H : Hp} {c : Ctx} {s : L2.St}
end
section
variable {X : Cx}
theorem DO.pe {e : Expr} {t : TR} (h : DO X e t) : PE X e (rdO X.K t) := (by
  obtain ⟨te, p, v⟩ := h.ex
  exact ⟨fun pins s σ H Q I ⟨B, c, G, Q', st, q, k⟩ => p.run pins s σ H Q I (v B c σ G H Q' Q st q k)⟩
  )
variable {elt tg iter : Expr} {scope : Scope} {own : List (Str × Nat)} {pos : Pos} {ti : TL} {g : TGd} {te : TR} {js : List Nat}
end
end Dl

/-! A tuple once or more. -/
namespace L2
open PySem PySem.Spec PyProof.Rows
section
variable {X : Cx}
end
end L2
namespace Dl
open PySem PySem.Spec PyProof.Rows L2
section
variable {X : Cx} {a b : Expr} {ta tb : TD} {pos : Pos}
end
end Dl

/-! != of two locked dicts of the same keys and texts. -/
namespace PySem.W
open Lean Elab Tactic Meta PySem PySem.Calls PyProof.Rows PyProof.V PySem.Spec
section
variable {prog : Program} {w : World} {K : Type} [DecidableEq K] {knd : HeapKind prog w K} {A : Around} {E : Value → Shared → Prop} {s : Shared}
end
end PySem.W
namespace L2
open PySem PySem.Spec PyProof.Rows
section
variable {X : Cx}
end
end L2
namespace Dl
open PySem PySem.Spec PyProof.Rows L2
section
variable {X : Cx} {a b : Expr} {ta tb : TX} {pos : Pos}
end
end Dl

/-! Dicts with any plain keys, locked: d.values() walked. -/
namespace L2
open PySem PySem.Spec PyProof.Rows
section
variable {X : Cx} {pins : List (Addr × Obj)} {σ : St} {H : Hp} {s : Shared} {a : Addr} {kb : List (NestedKey × Addr)} {vs : List V}
end
section
variable {X : Cx} {tg e : Expr} {td : TE} {apos cpos : Pos}
end
end L2
namespace Dl
open PySem PySem.Spec PyProof.Rows L2
section
variable {X : Cx} {e : Expr} {tx : TX} {apos cpos : Pos}
end
end Dl

/-! Trees that grow by things of one's own; tuples that end with one; len of a tree. -/
namespace Dl
open PySem PySem.Spec PyProof.Rows L2
/-- an answer as a tree: data, or a thing of one's own -/
def asOTx (x : S) (Q : OT → Prop) : Prop := match x with
  | .d y => Q (.dat y)
  | .o none R => asOT R Q
  | _ => False
theorem asOTx_d {y : PyData} {Q : OT → Prop} : asOTx (.d y) Q = Q (.dat y) := id rfl
theorem asOTx_o {R : Res} {Q : OT → Prop} : asOTx (.o none R) Q = asOT R Q := id rfl
section
variable {X : Cx} {pos : Pos} {e a : Expr} {es : List Expr}
/-! ### (a, b, .., own thing) -/
abbrev TAO := Ctx → (List PyData → S → Ctx → Prop) → Prop
def DAOv (K : PySem.W.Frag) (te : TA) (t : TAO) : Prop := ∀ (B : Base) (c : Ctx) (s : L2.St) (G H : Hp) (Q : List PyData → S → Ctx → Prop) (R : List V → Hp → Prop), Stt K B c s G H → t c Q →
  (∀ vs v xs x c' G' H', Stt K B (x :: c') (some v :: s) G' H' → Same G G' → DpAll K G' vs xs → Q xs x c' → R (vs ++ [v]) H') → te s H R
structure DAO (X : Cx) (es : List Expr) (t : TAO) : Prop where
  ex : ∃ te, PA X es te ∧ DAOv X.K te t
def aoLast (tx : TX) : TAO := fun c Q => tx c fun x c1 => Q [] x c1
def aoCons (te : TD) (t : TAO) : TAO := fun c Q => te c fun x c1 => t c1 fun xs y c2 => Q (x :: xs) y c2
theorem ao_last {tx : TX} (h : DX X e tx) (hs : starEach [e] X.env = (false, eval e X.env) :: starEach [] X.env := by rfl) : DAO X [e] (aoLast tx) := (by
  obtain ⟨te, p, v⟩ := h.ex
  exact ⟨_, pa_cons p pa_nil hs, fun B c s G H Q R st q k => v B c s G H _ _ st q fun u x c1 G1 H1 st1 e1 q1 => k [] u [] x c1 G1 H1 st1 e1 .nil q1⟩
  )
theorem ao_cons {te : TD} {t : TAO} (ha : DE X a te) (hr : DAO X es t) (hs : starEach (a :: es) X.env = (false, eval a X.env) :: starEach es X.env := by rfl) : DAO X (a :: es) (aoCons te t) := (by
  obtain ⟨tea, pa, va⟩ := ha.ex
  obtain ⟨ter, pr, vr⟩ := hr.ex
  refine ⟨_, pa_cons pa pr hs, fun B c s G H Q R st q k => va B c s G H _ _ st q fun v x c1 G1 H1 st1 e1 d1 q1 => ?_⟩
  exact vr B c1 s G1 H1 _ _ st1 q1 fun vs u xs y c2 G2 H2 st2 e2 d2 q2 => k (v :: vs) u (x :: xs) y c2 G2 H2 st2 (e1.trans e2) (.cons (dp_mono e2 _ _ d1) d2) q2
  )
def xTupL (t : TAO) : TX := fun c Q => t c fun xs x c1 => xs.length < sizeLine ∧ asOw x fun R => asOT R fun u => Q (.o none (.tr (.tup (xs.map .dat ++ [u])))) c1
theorem x_tupL {t : TAO} {k0 : Nat} (h : DAO X es t) : DX X (.Tuple es k0 pos) (xTupL t) := (by
  obtain ⟨te, p, v⟩ := h.ex
  refine ⟨_, pe_tup p, fun B c s G H Q R st q k => v B c s G H _ _ st q fun vs u xs x c1 G1 H1 st1 e1 d1 q1 => ?_⟩
  obtain ⟨hl, q1⟩ := q1
  obtain ⟨R0, rfl, q2⟩ := asOw_of q1
  obtain ⟨t0, q3, hot⟩ := asOT_of q2
  refine ⟨by rw [List.length_append, dpa_len d1]; exact hl, fun a ha => ?_⟩
  obtain ⟨st2, e2⟩ := st1.laid (o := .tup (vs ++ [u])) ha
  refine k _ _ _ _ _ (st2.top_re (R' := .tr (.tup (xs.map .dat ++ [t0]))) (v' := .ref a) fun A hR => .tup upd_same ?_) (e1.trans e2) q3
  have := ots_app (dats_ots (H := upd H1 a (.tup (vs ++ [u]))) (dpa_mono e2 _ _ d1)) (OwnTs.cons (hot hR) .nil)
  simpa using this
  )
/-- [] as a tree -/
def oTl0 : TR := fun c Q => Q (.tr (.lst [])) c
theorem o_tl0 : DO X (.List [] pos) oTl0 := (by
  obtain ⟨t, p, v⟩ := (o_lst (X := X) (pos := pos) a_nil).ex
  refine ⟨t, p, fun B c s G H Q R st q k => v B c s G H (fun r c1 => r = .lst [] ∧ c1 = c) R st ?_ fun u r c1 G1 H1 st1 e1 q1 => ?_⟩
  · simp [oLst, aNil]
  · obtain ⟨rfl, rfl⟩ := q1
    refine k u _ _ _ _ (st1.top_re (R' := .tr (.lst [])) (v' := u) fun A hR => ?_) e1 q
    obtain ⟨p0, vs, rfl, rfl, h1, h2⟩ := hR
    cases h2
    exact .lst h1 .nil
  )
/-- -1 -/
theorem k_neg {i : Int} {j0 p1} : DC X (.UnaryOp .USub (.Constant (.int i) j0 p1) pos) (kC (.int (-i))) := ⟨_, pe_un un_neg pe_int, fun _ c _ G H _ _ st h k => ⟨i, rfl, k _ _ G H (fun _ _ _ z => z) (Same.refl _) (Same.refl _) (.int _) h⟩⟩
/-! ### len(place) -/
variable {j : Nat} {tp : TPl} {p : Pos}
def uLenPl (tp : TPl) : TD := fun c Q => tp c fun _ T c' => asLs T fun ts => Q (.int ts.length) c'
theorem d_lenPl (hm : X.mg "len" = none) (ha : DPl X a j tp) (hg : Gl X "len" := by rfl) (he : starEach [a] X.env = (false, eval a X.env) :: starEach [] X.env := by rfl) (hpl : (backTo pos (starEach [] X.env)).any (·.1) = false := by rfl) : DE X (.Call (.Name "len" p) [a] [] pos) (uLenPl tp) := (by
  obtain ⟨tea, pa, va⟩ := ha.ex
  refine ⟨_, pe_callB call_len_seq hg hm boot_len (pa_cons pa pa_nil he) (by decide) (by decide) he hpl, fun B c s G H Q R st q k => va B c s G H _ _ st q fun c' G' H' w T root u π T' A A1 G0 H0 p e1 q1 => ?_⟩
  obtain ⟨ts, rfl, q2⟩ := asLs_of q1
  have own := p.here'
  cases own with
  | @lst a _ vs _ h1 h2 =>
    refine ⟨a, vs, rfl, .inl (SqL.of h1), ?_⟩
    have := ots_len h2
    rw [this]
    exact k _ _ c' G' H' p.un e1 (.int _) q2
  )
/-! ### place.append(anything) -/
variable {W : WX} {apos cpos : Pos}
def zPlAppY (j : Nat) (tp : TPl) (t : TXY) : TSY := fun EE E c => tp c fun π T' c' => asLs T' fun ts => slO c' j fun w R => asTr R fun T => ∀ root A H0, t (fun x fd c4 => c4[j]? = some (.o w (.gen (pinR root A H0))) ∧ EE x fd (c4.set j (.o w R))) (c'.set j (.o w (.gen (pinR root A H0)))) fun y c2 => c2[j]? = some (.o w (.gen (pinR root A H0))) ∧ ts.length < sizeLine ∧ asOTx y fun u => E.nx (c2.set j (.o w (.tr (T.upd (.lst (ts ++ [u])) π))))

theorem plapp_end {K : PySem.W.Frag} {B : Base} {s : L2.St} {c' c2 : Ctx} {G' H' G2 H2 : Hp} {w : Option Lt} {T : OT} {root v : V} {q0 : Addr} {π : List Nat} {ts : List OT} {vs : List V} {A As : List Addr} {G0 H0 : Hp} {x : S}
    (p : Plc K B s j c' G' H' w T root (.ref q0) π (.lst ts) A (q0 :: As) G0 H0) (h1 : H' q0 = some (.lst vs)) (h2 : OwnTs K G' H' ts vs As) (st2 : Stt K B (x :: c2) (some v :: s) G2 H2) (e2 : Same G' G2) (ep : c2[j]? = some (.o w (.gen (pinR root A H0))))
    {N : Ctx → Prop} (hN : asOTx x fun u => N (c2.set j (.o w (.tr (T.upd (.lst (ts ++ [u])) π))))) : H2 q0 = some (.lst vs) ∧ ∃ c3, Stt K B c3 s G2 (upd H2 q0 (.lst (vs ++ [v]))) ∧ N c3 := (by
  have ep' : (x :: c2)[j + 1]? = some (.o w (.gen (pinR root A H0))) := ep
  have same2 := (st2.unpin ep').2.1
  have kp : ∀ a ∈ q0 :: As, H2 a = H' a := fun a ha => (same2 a (p.foc.sub a ha)).trans (p.same a (p.foc.sub a ha)).symm
  have g2 : H2 q0 = some (.lst vs) := (kp q0 List.mem_cons_self).trans h1
  have h2' := ots_mono e2 _ _ _ h2 fun a ha => kp a (List.mem_cons_of_mem _ ha)
  obtain ⟨m1, m2⟩ := List.nodup_cons.mp p.foc.nd
  have h3 := ots_mono (H' := upd H2 q0 (.lst (vs ++ [v]))) (Same.refl _) _ _ _ h2' fun a ha => upd_ne fun z => m1 (z ▸ ha)
  have here : ∀ a ∈ q0 :: As, upd H2 q0 (.lst (vs ++ [v])) a ≠ none := fun a ha => by
    by_cases hq : a = q0
    · rw [hq, upd_same]; exact fun z => nomatch z
    · rw [upd_ne hq, kp a ha]
      exact p.here a (p.foc.sub a ha)
  refine ⟨g2, ?_⟩
  cases x with
  | no => exact hN.elim
  | f F => exact hN.elim
  | d y =>
    obtain ⟨st3, d2⟩ := st2.top_d
    rw [asOTx_d] at hN
    refine ⟨_, p.put (t' := .lst (ts ++ [.dat y])) (A1' := q0 :: As) st3 ep e2 (fun a ha => upd_ne fun z => ha (z ▸ List.mem_cons_self)) (fun a ha => .inl ha) here p.foc.nd ?_, hN⟩
    have h4 := ots_app h3 (OwnTs.cons (A := []) (.dat d2) .nil)
    rw [List.append_nil] at h4
    exact .lst upd_same (by simpa using h4)
  | o wo R =>
    cases wo with
    | some _ => exact hN.elim
    | none =>
      rw [asOTx_o] at hN
      obtain ⟨u, hN, hot⟩ := asOT_of hN
      obtain ⟨At, ht, nd, sm, wr⟩ := p.put2 st2 ep e2
      obtain ⟨n1, n2, n3⟩ := List.nodup_append.mp nd
      have hu := hot ht
      have nq : ∀ a ∈ At, a ≠ q0 := fun a ha z => n3 q0 (p.foc.sub q0 List.mem_cons_self) a ha z.symm
      have hu' := ot_mono (H' := upd H2 q0 (.lst (vs ++ [v]))) (Same.refl _) _ _ _ hu fun a ha => upd_ne (nq a ha)
      refine ⟨_, wr (H3 := upd H2 q0 (.lst (vs ++ [v]))) (t' := .lst (ts ++ [u])) (A1' := (q0 :: As) ++ At) (fun a ha => upd_ne fun z => ha (z ▸ List.mem_cons_self)) (fun a ha => ?_) (fun a ha => ?_) ?_ ?_, hN⟩
      · rcases List.mem_append.mp ha with z | z
        · exact .inl z
        · exact .inr (.inl z)
      · rcases List.mem_append.mp ha with z | z
        · exact here a z
        · obtain ⟨o, h, _⟩ := ot_here _ _ _ hu' a z
          rw [h]; exact fun z => nomatch z
      · refine List.nodup_append.mpr ⟨p.foc.nd, n2, fun a ha b hb e => n3 a (p.foc.sub a ha) b hb e⟩
      · have h4 := ots_app h3 (OwnTs.cons hu' .nil)
        refine .lst upd_same ?_
        simpa using h4
  )
theorem sy_plapp {txy : TXY} (hp : DPl X e j tp) (ha : DXY X W a txy) (hbase : attributeBase e "append" X.env (eval e X.env) = eval e X.env := by rfl)
    (hfew : ((backTo cpos (starEach [a] X.env)).all (fun x => !x.1) && (backToKw cpos (keywordEach [] X.env)).all (fun x => x.1.isSome)
      && decide ([a].length + ([] : List Keyword).length + (if ([] : List Keyword).isEmpty then 0 else 1) < 30)) = true := by rfl)
    (hline : (apos.endLine == cpos.line) = true := by rfl) (hs : starEach [a] X.env = (false, eval a X.env) :: starEach [] X.env := by rfl) (hplain : (backTo cpos (starEach [] X.env)).any (·.1) = false := by rfl)
    (hsw : swapsWith (.Call (.Attribute e "append" apos) [a] [] cpos) none pos.line X.env = pure false := by rfl) : DSY X W (.Expr (.Call (.Attribute e "append" apos) [a] [] cpos) pos) (zPlAppY j tp txy) := (by
  obtain ⟨tep, pp, vp⟩ := hp.ex
  obtain ⟨tea, pa, va⟩ := ha.ex
  refine ⟨_, ps_expr (pe_bm F.plainAttrs_list F.slot_list_append F.type_list_append mt_append pp (pa_cons pa pa_nil hs) hbase hfew hline hs hplain) hsw, fun B c s G H D E EE st k l q => vp B c s G H _ _ st q fun c' G' H' w T root u π T' A A1 G0 H0 p e1 q1 => ?_⟩
  obtain ⟨ts, rfl, q1⟩ := asLs_of q1
  obtain ⟨w', R', e0, q1⟩ := slO_of q1
  have es := p.slot
  rw [e0] at es
  cases es
  have own := p.here'
  cases own with
  | @lst q0 _ vs As h1 h2 =>
    refine ⟨.inl ⟨rfl, _, SqL.of h1⟩, va B _ s G' H' _ _ _ p.st (Lnk.imp (l.mono e1) fun x fd c4 s4 G4 H4 st4 e4 q4 => ?_) (q1 root A H0) fun v x c2 G2 H2 st2 e2 q2 => ?_⟩
    · obtain ⟨st5, _⟩ := p.free st4 q4.1 e4
      exact ⟨_, st5, q4.2⟩
    · obtain ⟨ep, hl, q2⟩ := q2
      obtain ⟨g2, c3, st3, n3⟩ := plapp_end p h1 h2 st2 e2 ep q2
      exact ⟨q0, vs, v, rfl, rfl, g2, by rw [ots_len h2]; exact hl, k.nx _ _ _ _ st3 (e1.trans e2) n3⟩
  )
/-- .. where nothing is raised -/
def zPlAppX (j : Nat) (tp : TPl) (t : TX) : TSd := fun E c => tp c fun π T' c' => asLs T' fun ts => slO c' j fun w R => asTr R fun T => ∀ root A H0, t (c'.set j (.o w (.gen (pinR root A H0)))) fun y c2 => c2[j]? = some (.o w (.gen (pinR root A H0))) ∧ ts.length < sizeLine ∧ asOTx y fun u => E.nx (c2.set j (.o w (.tr (T.upd (.lst (ts ++ [u])) π))))
theorem s_plappX {tx : TX} (hp : DPl X e j tp) (ha : DX X a tx) (hbase : attributeBase e "append" X.env (eval e X.env) = eval e X.env := by rfl)
    (hfew : ((backTo cpos (starEach [a] X.env)).all (fun x => !x.1) && (backToKw cpos (keywordEach [] X.env)).all (fun x => x.1.isSome)
      && decide ([a].length + ([] : List Keyword).length + (if ([] : List Keyword).isEmpty then 0 else 1) < 30)) = true := by rfl)
    (hline : (apos.endLine == cpos.line) = true := by rfl) (hs : starEach [a] X.env = (false, eval a X.env) :: starEach [] X.env := by rfl) (hplain : (backTo cpos (starEach [] X.env)).any (·.1) = false := by rfl)
    (hsw : swapsWith (.Call (.Attribute e "append" apos) [a] [] cpos) none pos.line X.env = pure false := by rfl) : DS X (.Expr (.Call (.Attribute e "append" apos) [a] [] cpos) pos) (zPlAppX j tp tx) := (by
  obtain ⟨tep, pp, vp⟩ := hp.ex
  obtain ⟨tea, pa, va⟩ := ha.ex
  refine ⟨_, ps_expr (pe_bm F.plainAttrs_list F.slot_list_append F.type_list_append mt_append pp (pa_cons pa pa_nil hs) hbase hfew hline hs hplain) hsw, fun B c s G H D E st k q => vp B c s G H _ _ st q fun c' G' H' w T root u π T' A A1 G0 H0 p e1 q1 => ?_⟩
  obtain ⟨ts, rfl, q1⟩ := asLs_of q1
  obtain ⟨w', R', e0, q1⟩ := slO_of q1
  have es := p.slot
  rw [e0] at es
  cases es
  have own := p.here'
  cases own with
  | @lst q0 _ vs As h1 h2 =>
    refine ⟨.inl ⟨rfl, _, SqL.of h1⟩, va B _ s G' H' _ _ p.st (q1 root A H0) fun v x c2 G2 H2 st2 e2 q2 => ?_⟩
    obtain ⟨ep, hl, q2⟩ := q2
    obtain ⟨g2, c3, st3, n3⟩ := plapp_end p h1 h2 st2 e2 ep q2
    exact ⟨q0, vs, v, rfl, rfl, g2, by rw [ots_len h2]; exact hl, k.nx _ _ _ _ st3 (e1.trans e2) n3⟩
  )
end
end Dl

/-! The exception in hand given to a def of the text. -/
namespace L2
open PySem PySem.Spec PyProof.Rows L2H
/-- what a def promises that is given the exception in hand: its address, class and dict -/
structure FnE (P : Program) (w : World) (K : PySem.W.Frag) (mg : Str → Option Value) (base : Heap) (k : Nat) (f : Addr) (fd : FuncData) (ps : List Str) (sp : Addr → Value → Option Addr → Sp) : Prop where
  len : ∀ a cls d vs H Q E, sp a cls d vs H Q E → vs.length = ps.length
  run : ∀ (A : Around) (outer : List Env) (s : Shared) (H : Hp) (args : Args) (us : List Value) (vs : List V) (Q : VK) (E : XK) (p : Addr × Obj) (cls : Value) (d : Option Addr), RoomH k A → PinOk outer H s p → Zc cls d p.2 → (∃ zs, p.2.data = .fields zs) → Env0 P w K mg base A outer s H → BindsTo s fd args (ps.zip us) → Vals vs us → sp p.1 cls d vs H Q E →
    codeAny (model P w) A (.call (.ref f) args) (CR CX0 outer P w H s Q E) s
theorem Fun.okE {P : Program} {w : World} {K : PySem.W.Frag} {mg : Str → Option Value} {base : Heap} {x qual : Str} {st : Stmt} {f : Addr} {fd : FuncData} {N ps : List Str} {k : Nat} {sp : Addr → Value → Option Addr → Sp} (F : Fun K x qual st f fd) (S : FnScope N ps (defScope st)) (len : ∀ a cls d vs H Q E, sp a cls d vs H Q E → vs.length = ps.length)
    (hbody : ∀ (cdv : Value) (A : Around) (outer : List Env) (s : Shared) (H : Hp) (vs : List V) (Q : VK) (E : XK) (p : Addr × Obj) (cls : Value) (d : Option Addr), Zc cls d p.2 → (∃ zs, p.2.data = .fields zs) → RoomH k (A.deeper (envOfC qual (defScope st) s.heap.objs.size f cdv)) → sp p.1 cls d vs H Q E →
      ∃ t, PSs (cxH CX0 P w K mg base N qual (defScope st) f cdv A outer s H E p) (defBody st) t ∧ t { nx := fun _ H' => Q .non H', rt := Q } (L2.start N vs) H) : FnE P w K mg base (k + 1) f fd ps sp := (by
  obtain ⟨oc, od, kV, doc, pm, an, cdv, ct, osl, rfl, lk, hcd⟩ := F.ex
  refine ⟨len, fun A outer s H args us vs Q E p cls d hr hpin hz hf e0 hb r hsp => ?_⟩
  have hl := len _ _ _ _ _ _ _ hsp
  have KX : K.In s.heap := e0.mod.kin.keeps (fun b o e => (e0.bs b o e).1)
  have lim : s.heap.NoLimit := e0.mod.nolimit.keeps (fun b o e => (e0.bs b o e).1)
  obtain ⟨sc, hsc⟩ : ∃ sc, sc = defScope st := ⟨_, rfl⟩
  have hkind : ∀ y ∈ ps.zip us, sc.names.lookup y.1 = some .local ∨ (sc.names.lookup y.1 = some .cell ∧ ((cellsFrom (s.heap.objs.size + 1) sc.names []).lookup y.1).isSome = true) := fun ⟨n, v⟩ hy => (show _ ∨ _ from by
    rw [hsc]
    exact (S.par n (List.of_mem_zip hy).1).imp id fun q => ⟨q, PySem.W.cellsFrom_some _ _ _ (.inl q)⟩)
  subst hsc
  refine codeAny_call_function hr.depth (KX _ _ lk) rfl S.co S.gen rfl (PySem.W.codeRec_of KX hcd) (hb _ _ _ _ (wpAny_newFunctionEnv_cells S.kind hkind fun env he s1 z => ?_))
  subst he
  obtain ⟨t, ht, hq⟩ := hbody cdv A outer s H vs Q E p cls d hz hf (hr.deeper _) hsp
  have I : Inv (cxH CX0 P w K mg base N qual (defScope st) f cdv A outer s H E p) [] (L2.start N vs) H s1 := (inv_startH S hpin e0 hl r z)
  refine ⟨lim.keeps z.toInCall.keep, codeAny_func (wpAny_mono (ht.run [] s1 (L2.start N vs) H _ I hq) (fun fl s' hs => ?_) fun e s' hs => hs)⟩
  cases fl with
  | ret u =>
    obtain ⟨v, σ', H', J, rv, q⟩ := hs
    exact ⟨v, H', J.os, J.bare, J.base, J.hok, rv, q⟩
  | next =>
    obtain ⟨σ', H', J, q⟩ := hs
    exact ⟨V.non, H', J.os, J.bare, J.base, J.hok, rfl, q⟩
  | brk =>
    obtain ⟨_, _, _, z⟩ := hs
    exact z.elim
  | cont =>
    obtain ⟨_, _, _, z⟩ := hs
    exact z.elim
  )
section
variable {X : Cx} {k : Nat} {f a : Addr} {fd : FuncData} {ps : List Str} {sp : Addr → Value → Option Addr → Sp} {oe : Obj} {pn pins : List (Addr × Obj)} {σ : St} {H : Hp} {s : Shared} {Q : VK} {us : List Value} {vs : List V} {x : Str} {e : Expr} {ta : TA} {pos p : Pos} {cls : Value} {d : Option Addr}
theorem run_fnE (F : FnE X.prog X.w X.K X.mg X.base k f fd ps sp) (hr : RoomH k X.A) (hp : (a, oe) ∈ X.pn) (hz : Zc cls d oe) (hf : ∃ zs, oe.data = .fields zs) (hb : Binds X.K fd ps []) (I : Inv X pins σ H s) (r : Vals vs us) (h : sp a cls d vs H Q fun _ _ _ => False) : wpAny (model X.prog X.w) X.A (call (.ref f) us) (EP X pins σ Q) X.xe s := (by
  have len : us.length = ps.length := (Vals.length r).symm.trans (F.len _ _ _ _ _ _ _ h)
  have bd : BindsTo s fd ⟨us, []⟩ (ps.zip us) := by
    have := hb s us I.kIn ((List.append_nil us).symm ▸ len)
    rwa [List.append_nil] at this
  have P1 := I.pin (a, oe) (List.mem_append_left _ hp)
  refine wpAny_call (codeAny_mono (F.run X.A X.stack s H ⟨us, []⟩ us vs Q _ (a, oe) cls d hr ⟨P1.1, P1.2.1, fun hm => ((List.mem_cons.mp (I.stkSub a hm)).elim P1.2.2.1 P1.2.2.2.1), P1.2.2.2.2⟩ hz hf I.env0 bd r h) fun r s' hq => ?_)
  cases r with
  | error e => exact hq.elim
  | ok fl =>
    cases fl with
    | ret u => exact I.after hq
    | _ => exact hq.elim
  )
theorem pe_callE (F : FnE X.prog X.w X.K X.mg X.base k f fd ps sp) (hr : RoomH k X.A) (hp : (a, oe) ∈ X.pn) (hz : Zc cls d oe) (hf : ∃ zs, oe.data = .fields zs) (hg : Gl X x) (hm : X.mg x = some (.ref f)) (hk : PySem.W.keepIn X.K (.ref f) = true) (hb : Binds X.K fd ps []) (ha : PA X [e] ta)
    (hdb : (x == ("__debug__" : Str)) = false := by decide) (he : starEach [e] X.env = (false, eval e X.env) :: starEach [] X.env := by rfl) (hpl : (backTo pos (starEach [] X.env)).any (·.1) = false := by rfl) : PE X (.Call (.Name x p) [e] [] pos) (fun σ H Q => ta σ H fun vs H1 => sp a cls d vs H1 Q fun _ _ _ => False) :=
  ⟨fun pins s σ H Q I h => wpAny_Call_Name_kw (ld_glob I hg hm (PySem.W.callWith_K (h₀ := X.base) I.ok.mod.kin hk (thn (ha.run pos pins s σ H _ I h) fun us s1 ⟨vs, H1, I1, r, q⟩ => ⟨I1.kIn, run_fnE F hr hp hz hf hb I1 r q⟩) he hpl) hdb)⟩
/-! ### isinstance(e, C), e the exception that was given -/
theorem call_isP {D : Addr} (hp : (a, oe) ∈ X.pn) (hz : Zc (.ref D) d oe) (hf : ∃ zs, oe.data = .fields zs) : CallR X (.builtin "isinstance") (fun xs H Q => ExcC X.K D ∧ (d = none ∨ ∃ dd fs, d = some dd ∧ H dd = some (.xd fs)) ∧ rIsE X.K D a xs H Q) := (by
  intro pins s σ H xs us Q I r h
  obtain ⟨C, hdd, c, cv, b, rfl, hcv, e, q⟩ := h
  obtain ⟨u1, u2, rfl, r1, r2⟩ := vals2 r
  cases (show u1 = Value.ref a from r1)
  cases hcv _ r2
  have hget : s.heap.get? a = some oe := (I.pin (a, oe) (List.mem_append_left _ hp)).1
  obtain ⟨zs, hv⟩ := hf
  obtain ⟨od, J⟩ : ∃ od, PySem.W.InstAt s.heap a oe D od := by
    have hno : PySem.W.notCls oe = true := (by unfold PySem.W.notCls; rw [hv])
    rcases hdd with hd | ⟨dd, fs, hd, hx⟩
    · exact ⟨none, hget, hz.1, hno, (by rw [hz.2, hd]; trivial)⟩
    · obtain ⟨mA, hns, hr⟩ := (show ObjOk X.prog X.w H s.heap dd (.xd fs) from I.hok dd _ hx)
      obtain ⟨od, ho, _⟩ := lookIn_ns hns
      exact ⟨some od, hget, hz.1, hno, (by rw [hz.2, hd]; exact ho)⟩
  have hcl : (PySem.W.clsIn X.K D).isSome = true := by
    have h0 := C.hd
    unfold PySem.W.hasDictIn at h0
    cases q0 : PySem.W.clsIn X.K D with
    | some _ => rfl
    | none => rw [q0] at h0; cases h0
  exact PySem.W.kia_one (PySem.W.kitx_exc hcl C.hg C.hk C.hs C.ha C.hn C.ht C.hm) I.kIn J e (fun z => nomatch z) fun tk => ⟨.bl b, H, I.kept (t' := tk) fun _ _ z => z, rfl, q⟩
  )
end
end L2
namespace Dl
open PySem PySem.Spec PyProof.Rows L2 L2H
/-- a table: for each class what isinstance tells -/
structure IsTab (K : PySem.W.Frag) (cv : Value) (tab : List (Str × Bool)) : Prop where
  each : ∀ q ∈ tab, ExcC K (He.ga K q.1) ∧ PySem.W.kitOne K (.ref (He.ga K q.1)) cv = some q.2
theorem tab_nil {K : PySem.W.Frag} {cv : Value} : IsTab K cv [] := ⟨fun q h => by cases h⟩
theorem tab_cons {K : PySem.W.Frag} {cv : Value} {y : Str} {b : Bool} {tab : List (Str × Bool)} (h1 : ExcC K (He.ga K y)) (h2 : PySem.W.kitOne K (.ref (He.ga K y)) cv = some b) (h : IsTab K cv tab) : IsTab K cv ((y, b) :: tab) := ⟨fun q hq => by
  rcases List.mem_cons.mp hq with rfl | hq
  · exact ⟨h1, h2⟩
  · exact h.each q hq⟩
abbrev TFE := Str → Addr → Option Addr → TF
def SpE (K : PySem.W.Frag) (T : TFE) : Addr → Value → Option Addr → Sp := fun a cls d vs H Q E => ∃ y, cls = .ref (He.ga K y) ∧ SpD K (T y a d) vs H Q E
/-- a def of the text that is given the exception in hand -/
structure CalE (P : Program) (w : World) (K : PySem.W.Frag) (mg : Str → Option Value) (base : Heap) (x : Str) (k : Nat) (ps : List Str) (T : TFE) : Prop where
  ex : ∃ f fd, FnE P w K mg base k f fd ps (SpE K T) ∧ mg x = some (.ref f) ∧ PySem.W.keepIn K (.ref f) = true ∧ Binds K fd ps []
theorem fn_dE {P : Program} {w : World} {K : PySem.W.Frag} {mg : Str → Option Value} {base : Heap} {x qual : Str} {st : Stmt} {f : Addr} {fd : FuncData} {N ps : List Str} {k : Nat} {T : TFE} {t : Str → Addr → Option Addr → TSd} (F : Fun K x qual st f fd) (sc : FnScope N ps (defScope st))
    (hT : ∀ y a d c Q, T y a d c Q → c.length = ps.length ∧ t y a d { nx := fun c => Q (.d .none) c, rt := Q } (c ++ List.replicate (N.length - ps.length) .no))
    (body : ∀ (cdv : Value) (A : Around) (outer : List Env) (s : Shared) (H : Hp) (E : XK) (a : Addr) (oe : Obj) (y : Str) (d : Option Addr), Zc (.ref (He.ga K y)) d oe → (∃ zs, oe.data = .fields zs) → RoomH k (A.deeper (envOfC qual (defScope st) s.heap.objs.size f cdv)) →
      DSs (cxH CX0 P w K mg base N qual (defScope st) f cdv A outer s H E (a, oe)) (defBody st) (t y a d)) : FnE P w K mg base (k + 1) f fd ps (SpE K T) := (by
  have hl : ∀ a cls d vs H Q E, SpE K T a cls d vs H Q E → vs.length = ps.length := fun a cls d vs H Q E h => by
    obtain ⟨y, _, G, io, c, Q1, ⟨A, r, _⟩, h2, _⟩ := h
    have := r.len
    rw [List.length_map] at this
    rw [this]
    exact (hT y a d c Q1 h2).1
  refine F.okE sc hl fun cdv A outer s H vs Q E p cls d hz hf hr h => ?_
  have lv := hl _ _ _ _ _ _ _ h
  obtain ⟨y, rfl, G, io, c, Q1, ⟨A1, r, wd⟩, h2, h3⟩ := h
  obtain ⟨ts, ps_, v⟩ := (body cdv A outer s H E p.1 p.2 y d hz hf hr).ex
  refine ⟨ts, ps_, ?_⟩
  have st0 : Stt K ⟨H, G, io⟩ (c ++ List.replicate (N.length - ps.length) .no) (L2.start N vs) G H := by
    refine ⟨A1, ?_, wd⟩
    unfold L2.start
    rw [lv]
    exact reps_more r _
  exact v ⟨H, G, io⟩ _ _ G H _ { nx := fun c => Q1 (.d .none) c, rt := Q1 } st0 ⟨fun c s' G' H' st' _ q => h3 (.d .none) c .non s' G' H' (st'.push_d .non) q, fun r c v s' G' H' st' _ q => h3 r c v s' G' H' st' q, fun _ _ _ _ _ _ q => q.elim, fun _ _ _ _ _ _ q => q.elim⟩ (hT y p.1 d c Q1 h2).2
  )
/-- isinstance(e, C) there -/
def uIsP (j : Nat) (a : Addr) (d : Option Addr) (y : Str) (tab : List (Str × Bool)) : TD := fun c Q => (∃ fd, c[j]? = some (.f (excR a d fd))) ∧ atY tab y fun b => Q (.bool b) c
section
variable {X : Cx} {pos p p1 : Pos} {n x y : Str} {k : Nat} {ps : List Str} {T : TFE} {a : Addr} {d : Option Addr} {oe : Obj} {pn : List (Addr × Obj)}
theorem isP_v {K : PySem.W.Frag} {j : Nat} {tab : List (Str × Bool)} {cv : Value} {zc : V} (hT : IsTab K cv tab) (hcv : ∀ u, RelV zc u → u = cv) {B : Base} {c : Ctx} {s : L2.St} {G H : Hp} {Q : PyData → Ctx → Prop} {R : VK} (st : Stt K B c s G H) (q : uIsP j a d y tab c Q) (k : ∀ v x c' G' H', Stt K B c' s G' H' → Same G G' → Dp K G' v x → Q x c' → R v H') :
    ∃ v, s[j]? = some (some v) ∧ ExcC K (He.ga K y) ∧ (d = none ∨ ∃ dd fs, d = some dd ∧ H dd = some (.xd fs)) ∧ rIsE K (He.ga K y) a [v, zc] H R := (by
  obtain ⟨⟨fd, hj⟩, q⟩ := q
  obtain ⟨b, hm, q⟩ := atY_of q
  obtain ⟨e1, e2⟩ := hT.each _ hm
  obtain ⟨A, r, w⟩ := st.ex
  obtain ⟨v, h1, rfl, hx⟩ := r.get_f hj
  exact ⟨.ref a, h1, e1, xd_here hx w.sub, zc, cv, b, rfl, hcv, e2, k _ _ c G H st (Same.refl _) (.bl b) q⟩
  )
theorem d_isP (j : Nat) {y2 : Str} {p2 : Pos} {tab : List (Str × Bool)} (hp : (a, oe) ∈ X.pn) (hz : Zc (.ref (He.ga X.K y)) d oe) (hf : ∃ zs, oe.data = .fields zs) (hT : IsTab X.K (.ref (He.ga X.K y2)) tab) (hm : X.mg "isinstance" = none) (hy : X.mg y2 = some (.ref (He.ga X.K y2)))
    (hN : X.N[j]? = some n := by rfl) (hv : Vis X.env.scope n := by first | exact Or.inl rfl | exact Or.inr (Or.inl rfl) | exact Or.inr (Or.inr rfl)) (hd : (n == ("__debug__" : Str)) = false := by decide) (hcd : (n == ("__classdict__" : Str)) = false := by decide)
    (hg : Gl X "isinstance" := by rfl) (hg2 : Gl X y2 := by rfl) (h2 : (y2 == ("__debug__" : Str)) = false := by decide) (he : starEach ((.Name n p1) :: [.Name y2 p2]) X.env = (false, eval (.Name n p1) X.env) :: starEach [.Name y2 p2] X.env := by rfl) (hpl : (backTo pos (starEach [.Name y2 p2] X.env)).any (·.1) = false := by rfl) :
    DE X (.Call (.Name "isinstance" p) [.Name n p1, .Name y2 p2] [] pos) (uIsP j a d y tab) :=
  ⟨_, pe_callB (call_isP hp hz hf) hg hm (by decide +kernel) (pa_cons (pe_var (i := j) hN hv hd hcd) (pa_cons (pe_glob (v := .ref (He.ga X.K y2)) hg2 hy rfl h2) pa_nil) he) (by decide) (by decide) he hpl, fun B c s G H Q R st q k => (isP_v (zc := .ref (He.ga X.K y2)) hT (fun u h => h) st q k)⟩
theorem d_isPB (j : Nat) {y2 : Str} {p2 : Pos} {ty : String} {tab : List (Str × Bool)} (hp : (a, oe) ∈ X.pn) (hz : Zc (.ref (He.ga X.K y)) d oe) (hf : ∃ zs, oe.data = .fields zs) (hT : IsTab X.K (.type ty) tab) (hm : X.mg "isinstance" = none) (hy : X.mg y2 = none) (hvb : bootBuiltins y2 = some (.type ty))
    (hN : X.N[j]? = some n := by rfl) (hv : Vis X.env.scope n := by first | exact Or.inl rfl | exact Or.inr (Or.inl rfl) | exact Or.inr (Or.inr rfl)) (hd : (n == ("__debug__" : Str)) = false := by decide) (hcd : (n == ("__classdict__" : Str)) = false := by decide)
    (hg : Gl X "isinstance" := by rfl) (hg2 : Gl X y2 := by rfl) (h1 : y2 ≠ "__name__" := by decide) (h2 : (y2 == ("__debug__" : Str)) = false := by decide) (he : starEach ((.Name n p1) :: [.Name y2 p2]) X.env = (false, eval (.Name n p1) X.env) :: starEach [.Name y2 p2] X.env := by rfl) (hpl : (backTo pos (starEach [.Name y2 p2] X.env)).any (·.1) = false := by rfl) :
    DE X (.Call (.Name "isinstance" p) [.Name n p1, .Name y2 p2] [] pos) (uIsP j a d y tab) :=
  ⟨_, pe_callB (call_isP hp hz hf) hg hm (by decide +kernel) (pa_cons (pe_var (i := j) hN hv hd hcd) (pa_cons (pe_bltn (v := .ty ty) hg2 hy hvb rfl h1 h2) pa_nil) he) (by decide) (by decide) he hpl, fun B c s G H Q R st q k => (isP_v (zc := .ty ty) hT (fun u h => h) st q k)⟩
/-- x(e), e the exception in hand -/
def xHand (j : Nat) (a : Addr) (d : Option Addr) (y : Str) (T : TFE) : TX := fun c Q => ∃ fd, c[j]? = some (.f (excR a d fd)) ∧ T y a d [.f (excR a d fd)] (kX fun x => Q x c)
theorem x_hand (j : Nat) (C : CalE X.prog X.w X.K X.mg X.base x k ps T) (hr : Room k X.A) (hz : Zc (.ref (He.ga X.K y)) d oe) (hfl : ∃ zs, oe.data = .fields zs)
    (hN : X.N[j]? = some n := by rfl) (hv : Vis X.env.scope n := by first | exact Or.inl rfl | exact Or.inr (Or.inl rfl) | exact Or.inr (Or.inr rfl)) (hd : (n == ("__debug__" : Str)) = false := by decide) (hcd : (n == ("__classdict__" : Str)) = false := by decide)
    (hg : Gl X x := by rfl) (hdb : (x == ("__debug__" : Str)) = false := by decide) (he : starEach [Expr.Name n p1] X.env = (false, eval (Expr.Name n p1) X.env) :: starEach [] X.env := by rfl) (hpl : (backTo pos (starEach [] X.env)).any (·.1) = false := by rfl) :
    DX (X.suite a ((a, oe) :: pn)) (.Call (.Name x p) [Expr.Name n p1] [] pos) (xHand j a d y T) := (by
  obtain ⟨f, fd, h1, h2, h3, h4⟩ := C.ex
  refine ⟨_, pe_callE (X := X.suite a ((a, oe) :: pn)) (a := a) (oe := oe) h1 ⟨hr.dp, hr.un⟩ List.mem_cons_self hz hfl hg h2 h3 h4 (pa_cons (pe_var (X := X.suite a ((a, oe) :: pn)) (i := j) hN hv hd hcd) pa_nil he) hdb he hpl, fun B c s G H Q R st q kk => ?_⟩
  obtain ⟨fd', hj, q⟩ := q
  obtain ⟨A, r, w⟩ := st.ex
  obtain ⟨v, g1, rfl, hx⟩ := r.get_f hj
  refine ⟨.ref a, g1, y, rfl, G, [], [.f (excR a d fd')], _, stt_plain (s := s) (as := [.f (excR a d fd')]) (vs := [.ref a]) w.sub trivial (.cons (a := .f (excR a d fd')) ⟨rfl, hx⟩ .nil), q, fun r c' v s' G' H' st' q2 => ?_⟩
  cases r with
  | d y =>
    obtain ⟨st2, e2⟩ := after0 st st'
    exact kk v _ c G' H' (st2.push_d st'.top_d.2) e2 q2
  | f F =>
    obtain ⟨st2, e2⟩ := after0 st st'
    exact kk v _ c G' H' (st2.push_f st'.top_f.2) e2 q2
  | o w R2 =>
    cases w with
    | none =>
      obtain ⟨st2, e2⟩ := after0o st st'
      exact kk v _ c G' H' st2 e2 q2
    | some _ => exact q2.elim
  | no => exact q2.elim
  )
end
end Dl

namespace Bores
open PySem PySem.Spec PyProof.Rows L2 Dl
def topS (i : Nat) : Stmt := PySem.Challenge.pw_bores_k13_refusals_apart.main.body.getD i (.Pass ⟨0, 0, 0, 0⟩)
def mtS (i j : Nat) : Stmt := match topS i with
  | .ClassDef _ _ _ body _ _ _ _ _ _ _ => body.getD j (.Pass ⟨0, 0, 0, 0⟩)
  | _ => .Pass ⟨0, 0, 0, 0⟩
local macro_rules | `(tactic| walk_at "wp") => `(tactic| simp (maxSteps := 1000000) only [↓reduceIte, xHand, uIsP, zPlAppY, zPlAppX, xTupL, aoLast, aoCons, uLenPl, oTl0, ↓asOTx_d, ↓asOTx_o, yNil, yCons, zSeqY, zIfY, zRaiseY, zExY, zRetXY, zForY, yCallA, ↓retE_k, zRaise2, uXf, zTryL, ↓atY_cons, ↓ret_wd, ↓ret_wo, ↓ret_wt, kC, ↓asTr_t, ↓asDs_l, ↓asDs_n, ↓asLs_l, ↓asOT_l, ↓asOT_t, ↓asOT_ll, pVar, pIx, uPlV, ↓asOw_o, ↓mvS_d, ↓mvS_f, ↓mvS_o, zRetX, oX, ↓frS_d, ↓frS_f, ↓plainA_n, ↓plainA_d, ↓plainA_f, ↓ret_xd, ↓ret_xf, ↓ret_xo, ↓retA_xd, ↓retA_xf, ↓retA_xo, ↓ret_vd, ↓ret_vo, OT.areD, OT.isD, OT.toDs, OT.toD, OT.upd, OT.wch, OT.ch, ↓retA_kO, ↓retA_kD, ↓retA_kDo, ↓retA_kS, ↓asBs_m, ↓asSs_m, fAll, fStr, ↓fIntS_i, ↓fIntS_b, ↓fIntS_s, oLcN, fSortST, zSeqX, zIfX, zRaise, ↓bare_d, ↓bare_o, ↓bare_l, ↓bare_no, ↓bare_f, ↓bare_tr, ↓bare_g, ↓bare_P, ↓bare_dic, oDic0, zSetK, uDin, ↓asDic_d, zDput, fMin2S, fMax2S, uLenSet, oSplit, S.f.injEq, eq_self, ↓fAddA_i, ↓fAddA_s, ↓fAddA_t, uChain, oRep, fSortS, ↓slW_d, ↓slW_o, ↓slW_P, ↓slW_s, ↓hasS_d, ↓hasS_o, ↓hasS_f, ↓hasS_s, uV, uN, u1, o1, o2, oN, ↓fIn_l, ↓fIn_s, fCat, ↓fList_l, ↓fList_t, ↓fTup_l, ↓fTup_t, ↓lstR_l, ↓lstR_P, zM1, fApp, zIns, ↓slF_d, ↓slF_o, ↓slF_s, uVf, pNo, pSo, ↓fSl_s, ↓fSl_t, uSl, ↓scal_n, ↓scal_b, ↓scal_i, ↓scal_s, ↓kS_d, ↓ret_S, rNil, rD, rS, uCallA, ↓toS_d, ↓toS_f, ↓toS_s, ↓slS_0, ↓slS_s, ↓retA_d, ↓retA_o, ↓retA_O, ↓backL_n, ↓backL_s, ↓backL_d, ↓backL_f, ↓lok_n, ↓lok_s, ↓lok_d, ↓lok_f, ↓lent_n, ↓lent_s, ↓lent_d, ↓lent_f, bYes, oLc, ↓clr_n, ↓clr_c, ↓clr2_n, ↓clr2_c, ↓rest_n, ↓rest_c, ↓keep1_d, ↓keep1_o, ↓keep1_f, ↓keep1_no, ↓keep1_s, ↓asLL_l, oLL0, zLLn, zLLa, uLLlen, List.mem_cons, List.not_mem_nil, Nat.reduceEqDiff, eqv_list, eqv_tuple, eqv_none, ↓asI_i, ↓asB_b, ↓asS_s, ↓asL_l, ↓asT_t, ↓slD_0, ↓slD_s, ↓slO_0, ↓slO_s, ↓asR_l, ↓fAdd_i, ↓fAdd_s, ↓ixbo_0, ↓ixbo_1, ↓ixbo_2, ↓ixbo_3, ↓ixD_l, ↓ixD_t, ↓ixD_s, ↓arg2_2, ↓fLen1_l, ↓fLen1_t, ↓fLen1_s, ↓asC_c, ↓asQ_l, ↓asQ_t, ↓asQ_s, ↓kD_d, ↓kD_o, ↓kO_o, ↓fz_l, ↓fz_P, ↓fz_ll, ↓ret_d, ↓ret_o, ↓ret_O, ↓retL_d, ↓retL_o, ↓retL_O, ↓atD_0, ↓atD_1, ↓atD_2, ↓atD_3, ↓atD_b1, ↓atD_b2, ↓atD_b3, ↓ixP_30, ↓ixP_31, ↓ixP_32, ↓if_true, ↓if_false, zNext, zSeq, zSet, zSetO, zRet, zRetO, zRetP, zIf, zAsg, zPut, gN, gsNil, gsCons, gT, uVar, uC, uFz, u2, fI, fI0, fEq, uCB, wB, wNot, wAnd, wOr, uAnd, uOr, aNil, aCons, uTup, oLst, fIx, oVar, iSeq, iR1, uCall, oCall, uLend, oLend, shaped_iff, sh_non, sh_int, sh_bool, sh_str, eqv_int, eqv_str, eqv_bool, ixN_30, ixN_31, ixN_32, ixN_20, ixN_21, atI_0, atI_1, atI_2, atI_3, atI_b1, atI_b2, atI_b3, List.length_map, Int.reduceEq, forall_const, implies_true, and_assoc, sz_0, sz_1, sz_2, sz_3, sz_4, sz_5, sz_6, sz_7, sz_8, Bool.not_eq_true', beq_eq_false_iff_ne, beq_iff_eq, ne_eq, Bool.and_eq_true, Bool.or_eq_true, decide_eq_false_iff_not, not_false_eq_true, not_true_eq_false, Bool.not_true, Bool.not_false, isS_n, isS_b, isS_i, isS_s, isS_l, isS_t, ca_0, ca_1, ca_2, ca_3, ca_4, ca_5, ca_6, Int.reduceToNat, Int.toNat_natCast, Int.reducePow, Int.reduceMul, Int.reduceLT, Int.reduceLE, Int.reduceNeg, zFor, List.replicate, List.length_cons, List.length_nil, List.nil_append, List.cons_append, List.append_nil, List.map_cons, List.map_nil, List.set_cons_zero, List.set_cons_succ, List.getElem?_cons_zero, List.getElem?_cons_succ, Option.some.injEq, S.d.injEq, S.o.injEq, Res.lst.injEq, Res.lstP.injEq, PyData.int.injEq, PyData.str.injEq, PyData.bool.injEq, PyData.list.injEq, PyData.tuple.injEq, List.cons.injEq, reduceCtorEq, exists_eq_left', exists_eq_left, exists_eq_right, exists_eq_right', true_and, and_true, false_and, and_false, exists_false, false_or, or_false, exists_and_left, exists_and_right, exists_eq', exists_eq, exists_const, Bool.false_eq_true, ite_true, ite_false, decide_eq_true_eq, Nat.sub_self, Nat.zero_add, Nat.add_sub_cancel, Nat.reduceSub, Nat.reduceAdd])
def fnsL : List He.DefD := [⟨("is_name", none), "is_name", "is_name", defArgs (topS 10), defBody (topS 10), defScope (topS 10), [], []⟩, ⟨("is_number", none), "is_number", "is_number", defArgs (topS 11), defBody (topS 11), defScope (topS 11), [], []⟩, ⟨("words_of", none), "words_of", "words_of", defArgs (topS 12), defBody (topS 12), defScope (topS 12), [], []⟩, ⟨("rows_of", none), "rows_of", "rows_of", defArgs (topS 13), defBody (topS 13), defScope (topS 13), [], []⟩, ⟨("block_fits", none), "block_fits", "block_fits", defArgs (topS 15), defBody (topS 15), defScope (topS 15), [], []⟩, ⟨("bore_fits", none), "bore_fits", "bore_fits", defArgs (topS 16), defBody (topS 16), defScope (topS 16), [], []⟩, ⟨("likes_fit", none), "likes_fit", "likes_fit", defArgs (topS 17), defBody (topS 17), defScope (topS 17), [], []⟩, ⟨("fits", none), "fits", "fits", defArgs (topS 18), defBody (topS 18), defScope (topS 18), [], []⟩, ⟨("fitted", none), "fitted", "fitted", defArgs (topS 19), defBody (topS 19), defScope (topS 19), [], []⟩, ⟨("need", none), "need", "need", defArgs (topS 21), defBody (topS 21), defScope (topS 21), [], []⟩, ⟨("head_of", none), "head_of", "head_of", defArgs (topS 22), defBody (topS 22), defScope (topS 22), [], []⟩, ⟨("layer_of", none), "layer_of", "layer_of", defArgs (topS 23), defBody (topS 23), defScope (topS 23), [], []⟩, ⟨("like_of", none), "like_of", "like_of", defArgs (topS 24), defBody (topS 24), defScope (topS 24), [], []⟩, ⟨("lay_row", none), "lay_row", "lay_row", defArgs (topS 25), defBody (topS 25), defScope (topS 25), [], []⟩, ⟨("read", none), "read", "read", defArgs (topS 26), defBody (topS 26), defScope (topS 26), [], []⟩, ⟨("_law_draw", none), "_law_draw", "_law_draw", defArgs (topS 28), defBody (topS 28), defScope (topS 28), [], []⟩, ⟨("_law_feed", none), "_law_feed", "_law_feed", defArgs (topS 29), defBody (topS 29), defScope (topS 29), [], []⟩, ⟨("_law_next", none), "_law_next", "_law_next", defArgs (topS 30), defBody (topS 30), defScope (topS 30), [], []⟩, ⟨("_law_great", none), "_law_great", "_law_great", defArgs (topS 31), defBody (topS 31), defScope (topS 31), [], []⟩, ⟨("_law_long", none), "_law_long", "_law_long", defArgs (topS 32), defBody (topS 32), defScope (topS 32), [], []⟩, ⟨("_law_name", none), "_law_name", "_law_name", defArgs (topS 33), defBody (topS 33), defScope (topS 33), [], []⟩, ⟨("_law_names", none), "_law_names", "_law_names", defArgs (topS 34), defBody (topS 34), defScope (topS 34), [], []⟩, ⟨("_law_blocks", none), "_law_blocks", "_law_blocks", defArgs (topS 35), defBody (topS 35), defScope (topS 35), [], []⟩, ⟨("_law_bores", none), "_law_bores", "_law_bores", defArgs (topS 36), defBody (topS 36), defScope (topS 36), [], []⟩, ⟨("_law_likes", none), "_law_likes", "_law_likes", defArgs (topS 37), defBody (topS 37), defScope (topS 37), [], []⟩, ⟨("_law_marks", none), "_law_marks", "_law_marks", defArgs (topS 38), defBody (topS 38), defScope (topS 38), [], []⟩, ⟨("_law_field", none), "_law_field", "_law_field", defArgs (topS 39), defBody (topS 39), defScope (topS 39), [], []⟩, ⟨("_law_kinds", none), "_law_kinds", "_law_kinds", defArgs (topS 40), defBody (topS 40), defScope (topS 40), [], []⟩, ⟨("_law_deed", none), "_law_deed", "_law_deed", defArgs (topS 41), defBody (topS 41), defScope (topS 41), [], []⟩, ⟨("_law_told", none), "_law_told", "_law_told", defArgs (topS 42), defBody (topS 42), defScope (topS 42), [], []⟩, ⟨("_law_kept", none), "_law_kept", "_law_kept", defArgs (topS 43), defBody (topS 43), defScope (topS 43), [], []⟩, ⟨("law", none), "law", "law", defArgs (topS 44), defBody (topS 44), defScope (topS 44), [], []⟩, ⟨("Clash", some "__init__"), "__init__", "Clash.__init__", defArgs (mtS 6 0), defBody (mtS 6 0), defScope (mtS 6 0), [], []⟩]
def facL : List He.Fa := [.glo "is_name", .glo "is_number", .glo "words_of", .glo "rows_of", .glo "block_fits", .glo "bore_fits", .glo "likes_fit", .glo "fits", .glo "fitted", .glo "need", .glo "head_of", .glo "layer_of", .glo "like_of", .glo "lay_row", .glo "read", .glo "_law_draw", .glo "_law_feed", .glo "_law_next", .glo "_law_great", .glo "_law_long", .glo "_law_name", .glo "_law_names", .glo "_law_blocks", .glo "_law_bores", .glo "_law_likes", .glo "_law_marks", .glo "_law_field", .glo "_law_kinds", .glo "_law_deed", .glo "_law_told", .glo "_law_kept", .glo "law", .free "ValueError", .free "all", .free "int", .free "isinstance", .free "len", .free "list", .free "max", .free "min", .free "range", .free "set", .free "sorted", .free "str", .free "tuple", .str "LETTERS" "abcdefghijklmnopqrstuvwxyz", .str "FIGURES" "0123456789", .glo "BoreError", .glo "NoText", .glo "Unfit", .glo "Unknown", .glo "Twice", .glo "Clash", .exm "Clash" "BoreError" true, .exm "Clash" "Clash" true, .exc "NoText", .exm "NoText" "BoreError" true, .exc "Unfit", .exm "Unfit" "BoreError" true]
abbrev rowL : PySem.W.OpenRow := PySem.W.OpenLaw.row PySem.Challenge.rw_bores_k13_refusals_apart
def xsL : List (PySem.W.Frag → Bool) := [excB "Clash", kitB "Clash" "BoreError" true, kitB "Clash" "Clash" true, kitB "Clash" "NoText" false, kitB "Clash" "Twice" false, kitB "Clash" "Unfit" false, kitB "Clash" "Unknown" false, kitT "Clash" "ValueError" true, excB "NoText", kitB "NoText" "BoreError" true, kitB "NoText" "Clash" false, kitB "NoText" "NoText" true, kitB "NoText" "Twice" false, kitB "NoText" "Unfit" false, kitB "NoText" "Unknown" false, kitT "NoText" "ValueError" true, excB "Unfit", kitB "Unfit" "BoreError" true, kitB "Unfit" "Clash" false, kitB "Unfit" "NoText" false, kitB "Unfit" "Twice" false, kitB "Unfit" "Unfit" true, kitB "Unfit" "Unknown" false, kitT "Unfit" "ValueError" true, ex2B "Clash" "numbers" "ring", initB "Clash", binB "BoreError", xfcB "Clash", noatB "Clash" "numbers", noatB "Clash" "ring"]
abbrev hookL : PySem.W.Hook := hookZ 6 facL fnsL xsL
def obL (s : PySem.W.SharedT) : AlX := obsZG 6 facL fnsL xsL (HandSHeadRun.getT s)
theorem obL_eq (s : PySem.W.SharedT) : obL s = hookL.obs s.abs := obsZG_eq (HandSHeadRun.getT_eq s)
theorem runL (w : World) : HandSHeadRun.RunEq rowL (PySem.W.view rowL.prog [44]) hookL obL 12000 (("BoreError" : PySem.Str) :: ("NoText" : PySem.Str) :: ("Unfit" : PySem.Str) :: ("Unknown" : PySem.Str) :: ("Twice" : PySem.Str) :: ("Clash" : PySem.Str) :: ("LETTERS" : PySem.Str) :: ("FIGURES" : PySem.Str) :: ("is_name" : PySem.Str) :: ("is_number" : PySem.Str) :: ("words_of" : PySem.Str) :: ("rows_of" : PySem.Str) :: ("block_fits" : PySem.Str) :: ("bore_fits" : PySem.Str) :: ("likes_fit" : PySem.Str) :: ("fits" : PySem.Str) :: ("fitted" : PySem.Str) :: ("need" : PySem.Str) :: ("head_of" : PySem.Str) :: ("layer_of" : PySem.Str) :: ("like_of" : PySem.Str) :: ("lay_row" : PySem.Str) :: ("read" : PySem.Str) :: ("_law_draw" : PySem.Str) :: ("_law_feed" : PySem.Str) :: ("_law_next" : PySem.Str) :: ("_law_great" : PySem.Str) :: ("_law_long" : PySem.Str) :: ("_law_name" : PySem.Str) :: ("_law_names" : PySem.Str) :: ("_law_blocks" : PySem.Str) :: ("_law_bores" : PySem.Str) :: ("_law_likes" : PySem.Str) :: ("_law_marks" : PySem.Str) :: ("_law_field" : PySem.Str) :: ("_law_kinds" : PySem.Str) :: ("_law_deed" : PySem.Str) :: ("_law_told" : PySem.Str) :: ("_law_kept" : PySem.Str) :: []) w := (by
  intro os
  kernel_rfl
  )
structure Bi (K : PySem.W.Frag) (mg : Str → Option Value) : Prop where
  ValueError : mg "ValueError" = none
  all : mg "all" = none
  int : mg "int" = none
  isinstance : mg "isinstance" = none
  len : mg "len" = none
  list : mg "list" = none
  max : mg "max" = none
  min : mg "min" = none
  range : mg "range" = none
  set : mg "set" = none
  sorted : mg "sorted" = none
  str : mg "str" = none
  tuple : mg "tuple" = none
  LETTERS : ∃ t, mg "LETTERS" = some (.str "abcdefghijklmnopqrstuvwxyz" t)
  FIGURES : ∃ t, mg "FIGURES" = some (.str "0123456789" t)
  cls_BoreError : mg "BoreError" = some (.ref (He.ga K "BoreError"))
  cls_NoText : mg "NoText" = some (.ref (He.ga K "NoText"))
  cls_Unfit : mg "Unfit" = some (.ref (He.ga K "Unfit"))
  cls_Unknown : mg "Unknown" = some (.ref (He.ga K "Unknown"))
  cls_Twice : mg "Twice" = some (.ref (He.ga K "Twice"))
  cls_Clash : mg "Clash" = some (.ref (He.ga K "Clash"))
  exc_Clash : ExcC K (He.ga K "Clash")
  exm_Clash_BoreError : PySem.W.exmOne K (.ref (He.ga K "Clash")) (.ref (He.ga K "BoreError")) = some true
  exm_Clash_Clash : PySem.W.exmOne K (.ref (He.ga K "Clash")) (.ref (He.ga K "Clash")) = some true
  kit_Clash_BoreError : PySem.W.kitOne K (.ref (He.ga K "Clash")) (.ref (He.ga K "BoreError")) = some true
  kit_Clash_Clash : PySem.W.kitOne K (.ref (He.ga K "Clash")) (.ref (He.ga K "Clash")) = some true
  kit_Clash_NoText : PySem.W.kitOne K (.ref (He.ga K "Clash")) (.ref (He.ga K "NoText")) = some false
  kit_Clash_Twice : PySem.W.kitOne K (.ref (He.ga K "Clash")) (.ref (He.ga K "Twice")) = some false
  kit_Clash_Unfit : PySem.W.kitOne K (.ref (He.ga K "Clash")) (.ref (He.ga K "Unfit")) = some false
  kit_Clash_Unknown : PySem.W.kitOne K (.ref (He.ga K "Clash")) (.ref (He.ga K "Unknown")) = some false
  kit_Clash_ValueError : PySem.W.kitOne K (.ref (He.ga K "Clash")) (.type "ValueError") = some true
  exf_NoText : ExF K mg "NoText"
  exc_NoText : ExcC K (He.ga K "NoText")
  exm_NoText_BoreError : PySem.W.exmOne K (.ref (He.ga K "NoText")) (.ref (He.ga K "BoreError")) = some true
  kit_NoText_BoreError : PySem.W.kitOne K (.ref (He.ga K "NoText")) (.ref (He.ga K "BoreError")) = some true
  kit_NoText_Clash : PySem.W.kitOne K (.ref (He.ga K "NoText")) (.ref (He.ga K "Clash")) = some false
  kit_NoText_NoText : PySem.W.kitOne K (.ref (He.ga K "NoText")) (.ref (He.ga K "NoText")) = some true
  kit_NoText_Twice : PySem.W.kitOne K (.ref (He.ga K "NoText")) (.ref (He.ga K "Twice")) = some false
  kit_NoText_Unfit : PySem.W.kitOne K (.ref (He.ga K "NoText")) (.ref (He.ga K "Unfit")) = some false
  kit_NoText_Unknown : PySem.W.kitOne K (.ref (He.ga K "NoText")) (.ref (He.ga K "Unknown")) = some false
  kit_NoText_ValueError : PySem.W.kitOne K (.ref (He.ga K "NoText")) (.type "ValueError") = some true
  exf_Unfit : ExF K mg "Unfit"
  exc_Unfit : ExcC K (He.ga K "Unfit")
  exm_Unfit_BoreError : PySem.W.exmOne K (.ref (He.ga K "Unfit")) (.ref (He.ga K "BoreError")) = some true
  kit_Unfit_BoreError : PySem.W.kitOne K (.ref (He.ga K "Unfit")) (.ref (He.ga K "BoreError")) = some true
  kit_Unfit_Clash : PySem.W.kitOne K (.ref (He.ga K "Unfit")) (.ref (He.ga K "Clash")) = some false
  kit_Unfit_NoText : PySem.W.kitOne K (.ref (He.ga K "Unfit")) (.ref (He.ga K "NoText")) = some false
  kit_Unfit_Twice : PySem.W.kitOne K (.ref (He.ga K "Unfit")) (.ref (He.ga K "Twice")) = some false
  kit_Unfit_Unfit : PySem.W.kitOne K (.ref (He.ga K "Unfit")) (.ref (He.ga K "Unfit")) = some true
  kit_Unfit_Unknown : PySem.W.kitOne K (.ref (He.ga K "Unfit")) (.ref (He.ga K "Unknown")) = some false
  kit_Unfit_ValueError : PySem.W.kitOne K (.ref (He.ga K "Unfit")) (.type "ValueError") = some true
  ex2_Clash : Ex2 K (He.ga K "Clash") "numbers" "ring"
  init_Clash : PySem.W.findIn K (.ref (He.ga K "Clash")) "__init__" = some (some (.ref (He.ma K (He.ga K "Clash") "__init__"))) ∧ PySem.W.typeIn K (.ref (He.ma K (He.ga K "Clash") "__init__")) = some (.type "function")
  bin_BoreError : BinC K (He.ga K "BoreError")
  xf_Clash : XfC K (He.ga K "Clash")
  no_Clash_numbers : PySem.W.findIn K (.ref (He.ga K "Clash")) "numbers" = some none
  no_Clash_ring : PySem.W.findIn K (.ref (He.ga K "Clash")) "ring" = some none
theorem ne_Clash_NoText : (("Clash" : Str) = "NoText") = False := eq_false (by decide)
theorem ne_Clash_Unfit : (("Clash" : Str) = "Unfit") = False := eq_false (by decide)
theorem ne_NoText_Clash : (("NoText" : Str) = "Clash") = False := eq_false (by decide)
theorem ne_NoText_Unfit : (("NoText" : Str) = "Unfit") = False := eq_false (by decide)
theorem ne_Unfit_Clash : (("Unfit" : Str) = "Clash") = False := eq_false (by decide)
theorem ne_Unfit_NoText : (("Unfit" : Str) = "NoText") = False := eq_false (by decide)

theorem sc_Clash___init__ : FnScope ["self", "numbers", "ring"] ["self", "numbers", "ring"] (defScope (mtS 6 0)) := ⟨rfl, rfl, rfl, by decide +kernel, rfl, by decide +kernel, by decide +kernel⟩
theorem c_Clash___init__ {P : Program} {w : World} {K : PySem.W.Frag} {mg : Str → Option Value} {base : Heap} (hb : Bi K mg) (D : DfM K "Clash" "__init__" "Clash.__init__" (mtS 6 0) ["self", "numbers", "ring"]) : InEx P w K mg base "Clash" "numbers" "ring" 1 := 
  in_ex (k := 0) (m := "these records clash") D sc_Clash___init__ hb.ex2_Clash (fun f cdv A outer s H E => pss_cons (ps_expr (pe_binit rfl hb.cls_BoreError hb.bin_BoreError (pa_cons (pe_var (i := 0) rfl (Or.inl rfl)) (pa_cons pe_str pa_nil)))) (pss_cons (ps_ost (pe_var (i := 0) rfl (Or.inl rfl)) (pe_var (i := 1) rfl (Or.inl rfl))) (pss_one (ps_ost (pe_var (i := 0) rfl (Or.inl rfl)) (pe_var (i := 2) rfl (Or.inl rfl))))))

/-- a sign that is a small letter, as the text is searched -/
def isLetN (n : Nat) : Bool := !(Builtin.Str.occurrences (Str.ofString "abcdefghijklmnopqrstuvwxyz") ⟨#[n]⟩ 0 (Str.ofString "abcdefghijklmnopqrstuvwxyz").length 1).isEmpty
def isNm (w : Str) : Bool := decide (1 ≤ (w.length : Int)) && (decide ((w.length : Int) ≤ 8) && w.cps.toList.all isLetN)
def lyFit (l : Str × Int) : Bool := isNm l.1 && decide (1 ≤ l.2)
def blFit (k : List (Str × Int)) : Bool := decide (0 < (k.length : Int)) && k.all lyFit
def boFit (b : Bo) : Bool := isNm b.nm && (decide (0 ≤ b.at_) && (decide (0 ≤ b.top) && (decide (0 < (b.bl.length : Int)) && b.bl.all blFit)))
/-- short words, few layers -/
def BlSz (n : Nat) (k : List (Str × Int)) : Prop := k.length ≤ n ∧ ∀ l ∈ k, l.1.length ≤ 100
structure BoSz (n m : Nat) (b : Bo) : Prop where
  nm : b.nm.length ≤ 100
  few : b.bl.length ≤ m
  bl : ∀ k ∈ b.bl, BlSz n k
def T_is_name : TF := fun a Q => ∃ (w : Str), a = [.d (.str w)] ∧ w.length ≤ 100000 ∧ ret Q (.d (.bool (isNm w)))
theorem TE_is_name {w : Str} {Q : S → Dl.Ctx → Prop} : T_is_name [.d (.str w)] Q = (w.length ≤ 100000 ∧ ret Q (.d (.bool (isNm w)))) := propext ⟨fun ⟨_, e, q⟩ => by cases e; exact q, fun q => ⟨_, rfl, q⟩⟩
theorem sc_is_name : FnScope ["word", "sign"] ["word"] (defScope (topS 10)) := ⟨rfl, rfl, rfl, by decide +kernel, rfl, by decide +kernel, by decide +kernel⟩
local macro_rules | `(tactic| walk_at "wpt") => `(tactic| simp (maxSteps := 1000000) only [↓reduceIte, xHand, uIsP, zPlAppY, zPlAppX, xTupL, aoLast, aoCons, uLenPl, oTl0, ↓asOTx_d, ↓asOTx_o, yNil, yCons, zSeqY, zIfY, zRaiseY, zExY, zRetXY, zForY, yCallA, ↓retE_k, zRaise2, uXf, zTryL, ↓atY_cons, ↓ret_wd, ↓ret_wo, ↓ret_wt, kC, ↓asTr_t, ↓asDs_l, ↓asDs_n, ↓asLs_l, ↓asOT_l, ↓asOT_t, ↓asOT_ll, pVar, pIx, uPlV, ↓asOw_o, ↓mvS_d, ↓mvS_f, ↓mvS_o, zRetX, oX, ↓frS_d, ↓frS_f, ↓plainA_n, ↓plainA_d, ↓plainA_f, ↓ret_xd, ↓ret_xf, ↓ret_xo, ↓retA_xd, ↓retA_xf, ↓retA_xo, ↓ret_vd, ↓ret_vo, OT.areD, OT.isD, OT.toDs, OT.toD, OT.upd, OT.wch, OT.ch, ↓retA_kO, ↓retA_kD, ↓retA_kDo, ↓retA_kS, ↓asBs_m, ↓asSs_m, fAll, fStr, ↓fIntS_i, ↓fIntS_b, ↓fIntS_s, oLcN, fSortST, zSeqX, zIfX, zRaise, ↓bare_d, ↓bare_o, ↓bare_l, ↓bare_no, ↓bare_f, ↓bare_tr, ↓bare_g, ↓bare_P, ↓bare_dic, oDic0, zSetK, uDin, ↓asDic_d, zDput, fMin2S, fMax2S, uLenSet, oSplit, S.f.injEq, eq_self, ↓fAddA_i, ↓fAddA_s, ↓fAddA_t, uChain, oRep, fSortS, ↓slW_d, ↓slW_o, ↓slW_P, ↓slW_s, ↓hasS_d, ↓hasS_o, ↓hasS_f, ↓hasS_s, uV, uN, u1, o1, o2, oN, ↓fIn_l, ↓fIn_s, fCat, ↓fList_l, ↓fList_t, ↓fTup_l, ↓fTup_t, ↓lstR_l, ↓lstR_P, zM1, fApp, zIns, ↓slF_d, ↓slF_o, ↓slF_s, uVf, pNo, pSo, ↓fSl_s, ↓fSl_t, uSl, ↓scal_n, ↓scal_b, ↓scal_i, ↓scal_s, ↓kS_d, ↓ret_S, rNil, rD, rS, uCallA, ↓toS_d, ↓toS_f, ↓toS_s, ↓slS_0, ↓slS_s, ↓retA_d, ↓retA_o, ↓retA_O, ↓backL_n, ↓backL_s, ↓backL_d, ↓backL_f, ↓lok_n, ↓lok_s, ↓lok_d, ↓lok_f, ↓lent_n, ↓lent_s, ↓lent_d, ↓lent_f, bYes, oLc, ↓clr_n, ↓clr_c, ↓clr2_n, ↓clr2_c, ↓rest_n, ↓rest_c, ↓keep1_d, ↓keep1_o, ↓keep1_f, ↓keep1_no, ↓keep1_s, ↓asLL_l, oLL0, zLLn, zLLa, uLLlen, List.mem_cons, List.not_mem_nil, Nat.reduceEqDiff, eqv_list, eqv_tuple, eqv_none, ↓asI_i, ↓asB_b, ↓asS_s, ↓asL_l, ↓asT_t, ↓slD_0, ↓slD_s, ↓slO_0, ↓slO_s, ↓asR_l, ↓fAdd_i, ↓fAdd_s, ↓ixbo_0, ↓ixbo_1, ↓ixbo_2, ↓ixbo_3, ↓ixD_l, ↓ixD_t, ↓ixD_s, ↓arg2_2, ↓fLen1_l, ↓fLen1_t, ↓fLen1_s, ↓asC_c, ↓asQ_l, ↓asQ_t, ↓asQ_s, ↓kD_d, ↓kD_o, ↓kO_o, ↓fz_l, ↓fz_P, ↓fz_ll, ↓ret_d, ↓ret_o, ↓ret_O, ↓retL_d, ↓retL_o, ↓retL_O, ↓atD_0, ↓atD_1, ↓atD_2, ↓atD_3, ↓atD_b1, ↓atD_b2, ↓atD_b3, ↓ixP_30, ↓ixP_31, ↓ixP_32, ↓if_true, ↓if_false, zNext, zSeq, zSet, zSetO, zRet, zRetO, zRetP, zIf, zAsg, zPut, gN, gsNil, gsCons, gT, uVar, uC, uFz, u2, fI, fI0, fEq, uCB, wB, wNot, wAnd, wOr, uAnd, uOr, aNil, aCons, uTup, oLst, fIx, oVar, iSeq, iR1, uCall, oCall, uLend, oLend, shaped_iff, sh_non, sh_int, sh_bool, sh_str, eqv_int, eqv_str, eqv_bool, ixN_30, ixN_31, ixN_32, ixN_20, ixN_21, atI_0, atI_1, atI_2, atI_3, atI_b1, atI_b2, atI_b3, List.length_map, Int.reduceEq, forall_const, implies_true, and_assoc, sz_0, sz_1, sz_2, sz_3, sz_4, sz_5, sz_6, sz_7, sz_8, Bool.not_eq_true', beq_eq_false_iff_ne, beq_iff_eq, ne_eq, Bool.and_eq_true, Bool.or_eq_true, decide_eq_false_iff_not, not_false_eq_true, not_true_eq_false, Bool.not_true, Bool.not_false, isS_n, isS_b, isS_i, isS_s, isS_l, isS_t, ca_0, ca_1, ca_2, ca_3, ca_4, ca_5, ca_6, Int.reduceToNat, Int.toNat_natCast, Int.reducePow, Int.reduceMul, Int.reduceLT, Int.reduceLE, Int.reduceNeg, zFor, List.replicate, List.length_cons, List.length_nil, List.nil_append, List.cons_append, List.append_nil, List.map_cons, List.map_nil, List.set_cons_zero, List.set_cons_succ, List.getElem?_cons_zero, List.getElem?_cons_succ, Option.some.injEq, S.d.injEq, S.o.injEq, Res.lst.injEq, Res.lstP.injEq, PyData.int.injEq, PyData.str.injEq, PyData.bool.injEq, PyData.list.injEq, PyData.tuple.injEq, List.cons.injEq, reduceCtorEq, exists_eq_left', exists_eq_left, exists_eq_right, exists_eq_right', true_and, and_true, false_and, and_false, exists_false, false_or, or_false, exists_and_left, exists_and_right, exists_eq', exists_eq, exists_const, Bool.false_eq_true, ite_true, ite_false, decide_eq_true_eq, Nat.sub_self, Nat.zero_add, Nat.add_sub_cancel, Nat.reduceSub, Nat.reduceAdd, ne_Clash_NoText, ne_Clash_Unfit, ne_NoText_Clash, ne_NoText_Unfit, ne_Unfit_Clash, ne_Unfit_NoText])
local macro_rules | `(tactic| walk_at "st") => `(tactic| simp (maxSteps := 1000000) only [true_and, ↓reduceIte, xHand, uIsP, zPlAppY, zPlAppX, xTupL, aoLast, aoCons, uLenPl, oTl0, ↓asOTx_d, ↓asOTx_o, yNil, yCons, zSeqY, zIfY, zRaiseY, zExY, zRetXY, zForY, yCallA, ↓retE_k, zRaise2, uXf, zTryL, ↓atY_cons, ↓ret_wd, ↓ret_wo, ↓ret_wt, kC, ↓asTr_t, ↓asDs_l, ↓asDs_n, ↓asLs_l, ↓asOT_l, ↓asOT_t, ↓asOT_ll, pVar, pIx, uPlV, ↓asOw_o, ↓mvS_d, ↓mvS_f, ↓mvS_o, zRetX, oX, ↓frS_d, ↓frS_f, ↓plainA_n, ↓plainA_d, ↓plainA_f, ↓ret_xd, ↓ret_xf, ↓ret_xo, ↓retA_xd, ↓retA_xf, ↓retA_xo, ↓ret_vd, ↓ret_vo, OT.areD, OT.isD, OT.toDs, OT.toD, OT.upd, OT.wch, OT.ch, ↓retA_kO, ↓retA_kD, ↓retA_kDo, ↓retA_kS, ↓asBs_m, ↓asSs_m, fAll, fStr, ↓fIntS_i, ↓fIntS_b, ↓fIntS_s, oLcN, fSortST, zSeqX, zIfX, zRaise, ↓bare_d, ↓bare_o, ↓bare_l, ↓bare_no, ↓bare_f, ↓bare_tr, ↓bare_g, ↓bare_P, ↓bare_dic, oDic0, zSetK, uDin, ↓asDic_d, zDput, fMin2S, fMax2S, uLenSet, oSplit, S.f.injEq, eq_self, ↓fAddA_i, ↓fAddA_s, ↓fAddA_t, uChain, oRep, fSortS, ↓slW_d, ↓slW_o, ↓slW_P, ↓slW_s, ↓hasS_d, ↓hasS_o, ↓hasS_f, ↓hasS_s, uV, uN, u1, o1, o2, oN, ↓fIn_l, ↓fIn_s, fCat, ↓fList_l, ↓fList_t, ↓fTup_l, ↓fTup_t, ↓lstR_l, ↓lstR_P, zM1, fApp, zIns, ↓slF_d, ↓slF_o, ↓slF_s, uVf, pNo, pSo, ↓fSl_s, ↓fSl_t, uSl, ↓scal_n, ↓scal_b, ↓scal_i, ↓scal_s, ↓kS_d, ↓ret_S, rNil, rD, rS, uCallA, ↓toS_d, ↓toS_f, ↓toS_s, ↓slS_0, ↓slS_s, ↓retA_d, ↓retA_o, ↓retA_O, ↓backL_n, ↓backL_s, ↓backL_d, ↓backL_f, ↓lok_n, ↓lok_s, ↓lok_d, ↓lok_f, ↓lent_n, ↓lent_s, ↓lent_d, ↓lent_f, bYes, oLc, ↓clr_n, ↓clr_c, ↓clr2_n, ↓clr2_c, ↓rest_n, ↓rest_c, ↓keep1_d, ↓keep1_o, ↓keep1_f, ↓keep1_no, ↓keep1_s, ↓asLL_l, oLL0, zLLn, zLLa, uLLlen, List.mem_cons, List.not_mem_nil, Nat.reduceEqDiff, eqv_list, eqv_tuple, eqv_none, ↓asI_i, ↓asB_b, ↓asS_s, ↓asL_l, ↓asT_t, ↓slD_0, ↓slD_s, ↓slO_0, ↓slO_s, ↓asR_l, ↓fAdd_i, ↓fAdd_s, ↓ixbo_0, ↓ixbo_1, ↓ixbo_2, ↓ixbo_3, ↓ixD_l, ↓ixD_t, ↓ixD_s, ↓arg2_2, ↓fLen1_l, ↓fLen1_t, ↓fLen1_s, ↓asC_c, ↓asQ_l, ↓asQ_t, ↓asQ_s, ↓kD_d, ↓kD_o, ↓kO_o, ↓fz_l, ↓fz_P, ↓fz_ll, ↓ret_d, ↓ret_o, ↓ret_O, ↓retL_d, ↓retL_o, ↓retL_O, ↓atD_0, ↓atD_1, ↓atD_2, ↓atD_3, ↓atD_b1, ↓atD_b2, ↓atD_b3, ↓ixP_30, ↓ixP_31, ↓ixP_32, ↓if_true, ↓if_false, zNext, zSet, zSetO, zRet, zRetO, zRetP, zIf, zAsg, zPut, gN, gsNil, gsCons, gT, uVar, uC, uFz, u2, fI, fI0, fEq, uCB, wB, wNot, wAnd, wOr, uAnd, uOr, aNil, aCons, uTup, oLst, fIx, oVar, iSeq, iR1, uCall, oCall, uLend, oLend, shaped_iff, sh_non, sh_int, sh_bool, sh_str, eqv_int, eqv_str, eqv_bool, ixN_30, ixN_31, ixN_32, ixN_20, ixN_21, atI_0, atI_1, atI_2, atI_3, atI_b1, atI_b2, atI_b3, List.length_map, Int.reduceEq, forall_const, implies_true, and_assoc, sz_0, sz_1, sz_2, sz_3, sz_4, sz_5, sz_6, sz_7, sz_8, Bool.not_eq_true', beq_eq_false_iff_ne, beq_iff_eq, ne_eq, Bool.and_eq_true, Bool.or_eq_true, decide_eq_false_iff_not, not_false_eq_true, not_true_eq_false, Bool.not_true, Bool.not_false, isS_n, isS_b, isS_i, isS_s, isS_l, isS_t, ca_0, ca_1, ca_2, ca_3, ca_4, ca_5, ca_6, Int.reduceToNat, Int.toNat_natCast, Int.reducePow, Int.reduceMul, Int.reduceLT, Int.reduceLE, Int.reduceNeg, zFor, List.replicate, List.length_cons, List.length_nil, List.nil_append, List.cons_append, List.append_nil, List.map_cons, List.map_nil, List.set_cons_zero, List.set_cons_succ, List.getElem?_cons_zero, List.getElem?_cons_succ, Option.some.injEq, S.d.injEq, S.o.injEq, Res.lst.injEq, Res.lstP.injEq, PyData.int.injEq, PyData.str.injEq, PyData.bool.injEq, PyData.list.injEq, PyData.tuple.injEq, List.cons.injEq, reduceCtorEq, exists_eq_left', exists_eq_left, exists_eq_right, exists_eq_right', true_and, and_true, false_and, and_false, exists_false, false_or, or_false, exists_and_left, exists_and_right, exists_eq', exists_eq, exists_const, Bool.false_eq_true, ite_true, ite_false, decide_eq_true_eq, Nat.sub_self, Nat.zero_add, Nat.add_sub_cancel, Nat.reduceSub, Nat.reduceAdd, ne_Clash_NoText, ne_Clash_Unfit, ne_NoText_Clash, ne_NoText_Unfit, ne_Unfit_Clash, ne_Unfit_NoText])
theorem c_is_name {P : Program} {w : World} {K : PySem.W.Frag} {mg : Str → Option Value} {base : Heap} (hb : Bi K mg) (D : Df K mg "is_name" (topS 10) ["word"])  : Cal P w K mg base "is_name" 1 ["word"] T_is_name := (by
  obtain ⟨f, fd, F, hm, hB⟩ := D
  refine ⟨f, fd, fn_d (k := 0) F sc_is_name ?hT (fun cdv A outer s H E hr => (q_one (s_ret (d_and (d_chain op_le op_le op_b0 op_b0 d_int (d_lenV hb.len (vv 0)) d_int) (d_one (d_all rfl hb.all (DE.dv (d_fz (o_lc [("sign", 1)] rfl sc_is_name.nd (i_seq (dv 0)) (by show blkC ["word", "sign"] (defScope (topS 10)) _ _ = true; decide +kernel) (fun _ _ _ _ _ => (g_name 1 sc_is_name.nd)) (fun _ _ _ _ _ => b_yes) (fun _ _ _ _ _ => (d_cmpN 1 (op_inA (hu65 hr)) opv_in (DE.dv (d_globS hb.LETTERS)) (by rfl))) (by decide)))))))))), hm, F.kp, hB⟩
  case hT =>
    intro a Q h
    obtain ⟨w, rfl, hl, q⟩ := h
    refine ⟨rfl, ?_⟩
    have hsz := sizeLine_eq
    (try walk_at "wpt")
    refine ⟨by omega, ?_⟩
    unfold isNm at q
    by_cases h1 : 1 ≤ (w.length : Int)
    · rw [if_pos h1]
      rw [decide_eq_true h1, Bool.true_and] at q
      by_cases h8 : (w.length : Int) ≤ 8
      · rw [if_pos h8]
        rw [decide_eq_true h8, Bool.true_and] at q
        refine comp_mm (g := fun (n : Nat) => .str ⟨#[n]⟩) (xs := w.cps.toList) (fun n => .bool (isLetN n)) (by show w.cps.toList.length ≤ _; rw [Array.length_toList]; have : w.cps.size = w.length := rfl; omega) (fun n hn N hN => ?_) ?_
        · (try walk_at "wpt")
          exact hN _ rfl
        (try walk_at "wpt")
        rw [asBs_f, List.all_map]
        exact q _
      · rw [if_neg h8]
        rw [decide_eq_false h8] at q
        exact q _
    · rw [if_neg h1]
      rw [decide_eq_false h1] at q
      exact q _
  )
/-- a sign of z, as the text is searched -/
def inSt (z : Str) (n : Nat) : Bool := !(Builtin.Str.occurrences z ⟨#[n]⟩ 0 z.length 1).isEmpty
/-- one to m signs of z -/
def ofN (w z : Str) (m : Int) : Bool := decide (1 ≤ (w.length : Int)) && (decide ((w.length : Int) ≤ m) && w.cps.toList.all (inSt z))
/-- 0, or no 0 ahead -/
def no0 (w : Str) : Bool := w == Str.ofString "0" || !((⟨#[w.cps.toList.headD 0]⟩ : Str) == Str.ofString "0")
def isNum (w : Str) : Bool := ofN w (Str.ofString "0123456789") 60 && no0 w
theorem head_at {w : Str} (h : 1 ≤ w.length) : atI w.cps.toList 0 = some (w.cps.toList.headD 0) := (by
  have h : 0 < w.cps.toList.length := by rw [Array.length_toList]; exact h
  rw [atI_of (by decide) (by omega)]
  cases e : w.cps.toList with
  | nil => rw [e] at h; cases h
  | cons a l => rfl
  )
/-- texts one behind the other, n between -/
def jn (n : Nat) : List (List Nat) → List Nat
  | [] => []
  | [p] => p
  | p :: q :: r => p ++ n :: jn n (q :: r)
theorem jn_cons {n : Nat} {p : List Nat} {ps : List (List Nat)} (h : ps ≠ []) : jn n (p :: ps) = p ++ n :: jn n ps := (by
  cases ps with
  | nil => exact absurd rfl h
  | cons q r => rfl
  )
theorem free_app {n : Nat} : ∀ {p q A B : List Nat}, n ∉ p → n ∉ q → p ++ n :: A = q ++ n :: B → p = q ∧ A = B
  | [], [], A, B, _, _, h => ⟨rfl, (List.cons.inj h).2⟩
  | [], b :: q, A, B, _, hq, h => absurd (List.cons.inj h).1 (fun z => hq (z ▸ List.mem_cons_self))
  | a :: p, [], A, B, hp, _, h => absurd (List.cons.inj h).1 (fun z => hp (z ▸ List.mem_cons_self))
  | a :: p, b :: q, A, B, hp, hq, h => by
    obtain ⟨h1, h2⟩ := List.cons.inj h
    obtain ⟨h3, h4⟩ := free_app (fun z => hp (List.mem_cons_of_mem _ z)) (fun z => hq (List.mem_cons_of_mem _ z)) h2
    exact ⟨by rw [h1, h3], h4⟩
theorem jn_uniq {n : Nat} : ∀ {ps qs : List (List Nat)}, ps ≠ [] → qs ≠ [] → (∀ p ∈ ps, n ∉ p) → (∀ q ∈ qs, n ∉ q) → jn n ps = jn n qs → ps = qs
  | [], _, h, _, _, _, _ => absurd rfl h
  | _, [], _, h, _, _, _ => absurd rfl h
  | [p], [q], _, _, _, _, e => by rw [show p = q from e]
  | [p], q :: q2 :: r, _, _, hp, _, e => by
    have e : p = q ++ n :: jn n (q2 :: r) := e
    exact absurd (show n ∈ p by rw [e]; simp) (hp p List.mem_cons_self)
  | p :: p2 :: r, [q], _, _, _, hq, e => by
    have e : p ++ n :: jn n (p2 :: r) = q := e
    exact absurd (show n ∈ q by rw [← e]; simp) (hq q List.mem_cons_self)
  | p :: p2 :: r, q :: q2 :: r', _, _, hp, hq, e => by
    have e : p ++ n :: jn n (p2 :: r) = q ++ n :: jn n (q2 :: r') := e
    obtain ⟨h1, h2⟩ := free_app (hp p List.mem_cons_self) (hq q List.mem_cons_self) e
    rw [h1, jn_uniq (by simp) (by simp) (fun x hx => hp x (List.mem_cons_of_mem _ hx)) (fun x hx => hq x (List.mem_cons_of_mem _ hx)) h2]
theorem jn_mem {n a : Nat} {p : List Nat} : ∀ {ps : List (List Nat)}, p ∈ ps → a ∈ p → a ∈ jn n ps
  | [q], hp, ha => by obtain rfl := List.mem_singleton.mp hp; exact ha
  | q :: q2 :: r, hp, ha => by
    show a ∈ q ++ n :: jn n (q2 :: r)
    rcases List.mem_cons.mp hp with rfl | hp
    · exact List.mem_append_left _ ha
    · exact List.mem_append_right _ (List.mem_cons_of_mem _ (jn_mem hp ha))
theorem jn_len {n : Nat} : ∀ {ps : List (List Nat)}, ps.length ≤ (jn n ps).length + 1
  | [] => Nat.zero_le _
  | [q] => by simp
  | q :: q2 :: r => by
    have := jn_len (n := n) (ps := q2 :: r)
    show (q :: q2 :: r).length ≤ (q ++ n :: jn n (q2 :: r)).length + 1
    simp at this ⊢
    omega
theorem jn_each {n : Nat} {p : List Nat} : ∀ {ps : List (List Nat)}, p ∈ ps → p.length ≤ (jn n ps).length
  | [q], hp => by obtain rfl := List.mem_singleton.mp hp; exact Nat.le_refl _
  | q :: q2 :: r, hp => by
    show p.length ≤ (q ++ n :: jn n (q2 :: r)).length
    rw [List.length_append, List.length_cons]
    rcases List.mem_cons.mp hp with rfl | hp
    · omega
    · have := jn_each (n := n) hp
      omega
theorem join_jn (n : Nat) : ∀ ps : List Str, (Str.join ⟨#[n]⟩ ps).cps.toList = jn n (ps.map fun p => p.cps.toList)
  | [] => rfl
  | [p] => rfl
  | p :: q :: r => by
    show ((p ++ ⟨#[n]⟩ ++ Str.join ⟨#[n]⟩ (q :: r)).cps).toList = p.cps.toList ++ n :: jn n ((q :: r).map fun p => p.cps.toList)
    rw [← join_jn n (q :: r)]
    show ((p.cps ++ #[n]) ++ (Str.join ⟨#[n]⟩ (q :: r)).cps).toList = _
    simp
theorem split_jn (w : Str) (n : Nat) : jn n ((Txt.split w ⟨#[n]⟩).map fun p => p.cps.toList) = w.cps.toList := (by
  rw [← join_jn, PySem.StrLaws.join_split]
  )
theorem split_ne (w : Str) (n : Nat) : Txt.split w ⟨#[n]⟩ ≠ [] := (by
  unfold Txt.split
  split
  · simp
  · split
    · simp
    · rw [PySem.StrLaws.partsBetween_eq]
      obtain ⟨p, q, e⟩ := PySem.StrLaws.partsFrom_ne w (Str.length ⟨#[n]⟩) 0 (Builtin.Str.occurrences w ⟨#[n]⟩ 0 w.length (w.length + 1))
      rw [e]; simp
  )
theorem strOk_iff {w : Str} : PyData.strOk w = true ↔ ∀ n ∈ w.cps.toList, n < 0x110000 := (by
  unfold PyData.strOk
  rw [Array.all_eq_true_iff_forall_mem]
  constructor
  · intro h n hn
    exact of_decide_eq_true (h n (Array.mem_toList_iff.mp hn))
  · intro h n hn
    exact decide_eq_true (h n (Array.mem_toList_iff.mpr hn))
  )
theorem strOk_one {n : Nat} (h : n < 0x110000) : PyData.strOk ⟨#[n]⟩ = true := strOk_iff.mpr fun m hm => by
  have : m = n := by simpa using hm
  rw [this]; exact h
theorem strOk_at {w : Str} (h : PyData.strOk w = true) {n : Nat} (hn : n ∈ w.cps.toList) : PyData.strOk ⟨#[n]⟩ = true := strOk_one (strOk_iff.mp h n hn)
theorem split_ok {w : Str} {n : Nat} (h : PyData.strOk w = true) : ∀ p ∈ Txt.split w ⟨#[n]⟩, PyData.strOk p = true := fun p hp => strOk_iff.mpr fun m hm => by
  refine strOk_iff.mp h m ?_
  rw [← split_jn w n]
  exact jn_mem (List.mem_map.mpr ⟨p, hp, rfl⟩) hm
theorem split_few (w : Str) (n : Nat) : (Txt.split w ⟨#[n]⟩).length ≤ w.length + 1 := (by
  have h := jn_len (n := n) (ps := (Txt.split w ⟨#[n]⟩).map fun p => p.cps.toList)
  rw [split_jn, List.length_map] at h
  exact h
  )
theorem split_len {w p : Str} {n : Nat} (h : p ∈ Txt.split w ⟨#[n]⟩) : p.length ≤ w.length := (by
  have h := jn_each (n := n) (List.mem_map.mpr ⟨p, h, rfl⟩ : p.cps.toList ∈ (Txt.split w ⟨#[n]⟩).map fun p => p.cps.toList)
  rw [split_jn] at h
  exact h
  )
def T_is_number : TF := fun a Q => ∃ (w : Str), a = [.d (.str w)] ∧ PyData.strOk w = true ∧ w.length ≤ 100000 ∧ ret Q (.d (.bool (isNum w)))
theorem TE_is_number {w : Str} {Q : S → Dl.Ctx → Prop} : T_is_number [.d (.str w)] Q = (PyData.strOk w = true ∧ w.length ≤ 100000 ∧ ret Q (.d (.bool (isNum w)))) := propext ⟨fun ⟨_, e, q⟩ => by cases e; exact q, fun q => ⟨_, rfl, q⟩⟩
theorem sc_is_number : FnScope ["word", "sign"] ["word"] (defScope (topS 11)) := ⟨rfl, rfl, rfl, by decide +kernel, rfl, by decide +kernel, by decide +kernel⟩
local macro_rules | `(tactic| walk_at "wpt") => `(tactic| simp (maxSteps := 1000000) only [↓reduceIte, xHand, uIsP, zPlAppY, zPlAppX, xTupL, aoLast, aoCons, uLenPl, oTl0, ↓asOTx_d, ↓asOTx_o, yNil, yCons, zSeqY, zIfY, zRaiseY, zExY, zRetXY, zForY, yCallA, ↓retE_k, zRaise2, uXf, zTryL, ↓atY_cons, ↓ret_wd, ↓ret_wo, ↓ret_wt, kC, ↓asTr_t, ↓asDs_l, ↓asDs_n, ↓asLs_l, ↓asOT_l, ↓asOT_t, ↓asOT_ll, pVar, pIx, uPlV, ↓asOw_o, ↓mvS_d, ↓mvS_f, ↓mvS_o, zRetX, oX, ↓frS_d, ↓frS_f, ↓plainA_n, ↓plainA_d, ↓plainA_f, ↓ret_xd, ↓ret_xf, ↓ret_xo, ↓retA_xd, ↓retA_xf, ↓retA_xo, ↓ret_vd, ↓ret_vo, OT.areD, OT.isD, OT.toDs, OT.toD, OT.upd, OT.wch, OT.ch, ↓retA_kO, ↓retA_kD, ↓retA_kDo, ↓retA_kS, ↓asBs_m, ↓asSs_m, fAll, fStr, ↓fIntS_i, ↓fIntS_b, ↓fIntS_s, oLcN, fSortST, zSeqX, zIfX, zRaise, ↓bare_d, ↓bare_o, ↓bare_l, ↓bare_no, ↓bare_f, ↓bare_tr, ↓bare_g, ↓bare_P, ↓bare_dic, oDic0, zSetK, uDin, ↓asDic_d, zDput, fMin2S, fMax2S, uLenSet, oSplit, S.f.injEq, eq_self, ↓fAddA_i, ↓fAddA_s, ↓fAddA_t, uChain, oRep, fSortS, ↓slW_d, ↓slW_o, ↓slW_P, ↓slW_s, ↓hasS_d, ↓hasS_o, ↓hasS_f, ↓hasS_s, uV, uN, u1, o1, o2, oN, ↓fIn_l, ↓fIn_s, fCat, ↓fList_l, ↓fList_t, ↓fTup_l, ↓fTup_t, ↓lstR_l, ↓lstR_P, zM1, fApp, zIns, ↓slF_d, ↓slF_o, ↓slF_s, uVf, pNo, pSo, ↓fSl_s, ↓fSl_t, uSl, ↓scal_n, ↓scal_b, ↓scal_i, ↓scal_s, ↓kS_d, ↓ret_S, rNil, rD, rS, uCallA, ↓toS_d, ↓toS_f, ↓toS_s, ↓slS_0, ↓slS_s, ↓retA_d, ↓retA_o, ↓retA_O, ↓backL_n, ↓backL_s, ↓backL_d, ↓backL_f, ↓lok_n, ↓lok_s, ↓lok_d, ↓lok_f, ↓lent_n, ↓lent_s, ↓lent_d, ↓lent_f, bYes, oLc, ↓clr_n, ↓clr_c, ↓clr2_n, ↓clr2_c, ↓rest_n, ↓rest_c, ↓keep1_d, ↓keep1_o, ↓keep1_f, ↓keep1_no, ↓keep1_s, ↓asLL_l, oLL0, zLLn, zLLa, uLLlen, List.mem_cons, List.not_mem_nil, Nat.reduceEqDiff, eqv_list, eqv_tuple, eqv_none, ↓asI_i, ↓asB_b, ↓asS_s, ↓asL_l, ↓asT_t, ↓slD_0, ↓slD_s, ↓slO_0, ↓slO_s, ↓asR_l, ↓fAdd_i, ↓fAdd_s, ↓ixbo_0, ↓ixbo_1, ↓ixbo_2, ↓ixbo_3, ↓ixD_l, ↓ixD_t, ↓ixD_s, ↓arg2_2, ↓fLen1_l, ↓fLen1_t, ↓fLen1_s, ↓asC_c, ↓asQ_l, ↓asQ_t, ↓asQ_s, ↓kD_d, ↓kD_o, ↓kO_o, ↓fz_l, ↓fz_P, ↓fz_ll, ↓ret_d, ↓ret_o, ↓ret_O, ↓retL_d, ↓retL_o, ↓retL_O, ↓atD_0, ↓atD_1, ↓atD_2, ↓atD_3, ↓atD_b1, ↓atD_b2, ↓atD_b3, ↓ixP_30, ↓ixP_31, ↓ixP_32, ↓if_true, ↓if_false, zNext, zSeq, zSet, zSetO, zRet, zRetO, zRetP, zIf, zAsg, zPut, gN, gsNil, gsCons, gT, uVar, uC, uFz, u2, fI, fI0, fEq, uCB, wB, wNot, wAnd, wOr, uAnd, uOr, aNil, aCons, uTup, oLst, fIx, oVar, iSeq, iR1, uCall, oCall, uLend, oLend, shaped_iff, sh_non, sh_int, sh_bool, sh_str, eqv_int, eqv_str, eqv_bool, ixN_30, ixN_31, ixN_32, ixN_20, ixN_21, atI_0, atI_1, atI_2, atI_3, atI_b1, atI_b2, atI_b3, List.length_map, Int.reduceEq, forall_const, implies_true, and_assoc, sz_0, sz_1, sz_2, sz_3, sz_4, sz_5, sz_6, sz_7, sz_8, Bool.not_eq_true', beq_eq_false_iff_ne, beq_iff_eq, ne_eq, Bool.and_eq_true, Bool.or_eq_true, decide_eq_false_iff_not, not_false_eq_true, not_true_eq_false, Bool.not_true, Bool.not_false, isS_n, isS_b, isS_i, isS_s, isS_l, isS_t, ca_0, ca_1, ca_2, ca_3, ca_4, ca_5, ca_6, Int.reduceToNat, Int.toNat_natCast, Int.reducePow, Int.reduceMul, Int.reduceLT, Int.reduceLE, Int.reduceNeg, zFor, List.replicate, List.length_cons, List.length_nil, List.nil_append, List.cons_append, List.append_nil, List.map_cons, List.map_nil, List.set_cons_zero, List.set_cons_succ, List.getElem?_cons_zero, List.getElem?_cons_succ, Option.some.injEq, S.d.injEq, S.o.injEq, Res.lst.injEq, Res.lstP.injEq, PyData.int.injEq, PyData.str.injEq, PyData.bool.injEq, PyData.list.injEq, PyData.tuple.injEq, List.cons.injEq, reduceCtorEq, exists_eq_left', exists_eq_left, exists_eq_right, exists_eq_right', true_and, and_true, false_and, and_false, exists_false, false_or, or_false, exists_and_left, exists_and_right, exists_eq', exists_eq, exists_const, Bool.false_eq_true, ite_true, ite_false, decide_eq_true_eq, Nat.sub_self, Nat.zero_add, Nat.add_sub_cancel, Nat.reduceSub, Nat.reduceAdd, ne_Clash_NoText, ne_Clash_Unfit, ne_NoText_Clash, ne_NoText_Unfit, ne_Unfit_Clash, ne_Unfit_NoText])
local macro_rules | `(tactic| walk_at "st") => `(tactic| simp (maxSteps := 1000000) only [true_and, ↓reduceIte, xHand, uIsP, zPlAppY, zPlAppX, xTupL, aoLast, aoCons, uLenPl, oTl0, ↓asOTx_d, ↓asOTx_o, yNil, yCons, zSeqY, zIfY, zRaiseY, zExY, zRetXY, zForY, yCallA, ↓retE_k, zRaise2, uXf, zTryL, ↓atY_cons, ↓ret_wd, ↓ret_wo, ↓ret_wt, kC, ↓asTr_t, ↓asDs_l, ↓asDs_n, ↓asLs_l, ↓asOT_l, ↓asOT_t, ↓asOT_ll, pVar, pIx, uPlV, ↓asOw_o, ↓mvS_d, ↓mvS_f, ↓mvS_o, zRetX, oX, ↓frS_d, ↓frS_f, ↓plainA_n, ↓plainA_d, ↓plainA_f, ↓ret_xd, ↓ret_xf, ↓ret_xo, ↓retA_xd, ↓retA_xf, ↓retA_xo, ↓ret_vd, ↓ret_vo, OT.areD, OT.isD, OT.toDs, OT.toD, OT.upd, OT.wch, OT.ch, ↓retA_kO, ↓retA_kD, ↓retA_kDo, ↓retA_kS, ↓asBs_m, ↓asSs_m, fAll, fStr, ↓fIntS_i, ↓fIntS_b, ↓fIntS_s, oLcN, fSortST, zSeqX, zIfX, zRaise, ↓bare_d, ↓bare_o, ↓bare_l, ↓bare_no, ↓bare_f, ↓bare_tr, ↓bare_g, ↓bare_P, ↓bare_dic, oDic0, zSetK, uDin, ↓asDic_d, zDput, fMin2S, fMax2S, uLenSet, oSplit, S.f.injEq, eq_self, ↓fAddA_i, ↓fAddA_s, ↓fAddA_t, uChain, oRep, fSortS, ↓slW_d, ↓slW_o, ↓slW_P, ↓slW_s, ↓hasS_d, ↓hasS_o, ↓hasS_f, ↓hasS_s, uV, uN, u1, o1, o2, oN, ↓fIn_l, ↓fIn_s, fCat, ↓fList_l, ↓fList_t, ↓fTup_l, ↓fTup_t, ↓lstR_l, ↓lstR_P, zM1, fApp, zIns, ↓slF_d, ↓slF_o, ↓slF_s, uVf, pNo, pSo, ↓fSl_s, ↓fSl_t, uSl, ↓scal_n, ↓scal_b, ↓scal_i, ↓scal_s, ↓kS_d, ↓ret_S, rNil, rD, rS, uCallA, ↓toS_d, ↓toS_f, ↓toS_s, ↓slS_0, ↓slS_s, ↓retA_d, ↓retA_o, ↓retA_O, ↓backL_n, ↓backL_s, ↓backL_d, ↓backL_f, ↓lok_n, ↓lok_s, ↓lok_d, ↓lok_f, ↓lent_n, ↓lent_s, ↓lent_d, ↓lent_f, bYes, oLc, ↓clr_n, ↓clr_c, ↓clr2_n, ↓clr2_c, ↓rest_n, ↓rest_c, ↓keep1_d, ↓keep1_o, ↓keep1_f, ↓keep1_no, ↓keep1_s, ↓asLL_l, oLL0, zLLn, zLLa, uLLlen, List.mem_cons, List.not_mem_nil, Nat.reduceEqDiff, eqv_list, eqv_tuple, eqv_none, ↓asI_i, ↓asB_b, ↓asS_s, ↓asL_l, ↓asT_t, ↓slD_0, ↓slD_s, ↓slO_0, ↓slO_s, ↓asR_l, ↓fAdd_i, ↓fAdd_s, ↓ixbo_0, ↓ixbo_1, ↓ixbo_2, ↓ixbo_3, ↓ixD_l, ↓ixD_t, ↓ixD_s, ↓arg2_2, ↓fLen1_l, ↓fLen1_t, ↓fLen1_s, ↓asC_c, ↓asQ_l, ↓asQ_t, ↓asQ_s, ↓kD_d, ↓kD_o, ↓kO_o, ↓fz_l, ↓fz_P, ↓fz_ll, ↓ret_d, ↓ret_o, ↓ret_O, ↓retL_d, ↓retL_o, ↓retL_O, ↓atD_0, ↓atD_1, ↓atD_2, ↓atD_3, ↓atD_b1, ↓atD_b2, ↓atD_b3, ↓ixP_30, ↓ixP_31, ↓ixP_32, ↓if_true, ↓if_false, zNext, zSet, zSetO, zRet, zRetO, zRetP, zIf, zAsg, zPut, gN, gsNil, gsCons, gT, uVar, uC, uFz, u2, fI, fI0, fEq, uCB, wB, wNot, wAnd, wOr, uAnd, uOr, aNil, aCons, uTup, oLst, fIx, oVar, iSeq, iR1, uCall, oCall, uLend, oLend, shaped_iff, sh_non, sh_int, sh_bool, sh_str, eqv_int, eqv_str, eqv_bool, ixN_30, ixN_31, ixN_32, ixN_20, ixN_21, atI_0, atI_1, atI_2, atI_3, atI_b1, atI_b2, atI_b3, List.length_map, Int.reduceEq, forall_const, implies_true, and_assoc, sz_0, sz_1, sz_2, sz_3, sz_4, sz_5, sz_6, sz_7, sz_8, Bool.not_eq_true', beq_eq_false_iff_ne, beq_iff_eq, ne_eq, Bool.and_eq_true, Bool.or_eq_true, decide_eq_false_iff_not, not_false_eq_true, not_true_eq_false, Bool.not_true, Bool.not_false, isS_n, isS_b, isS_i, isS_s, isS_l, isS_t, ca_0, ca_1, ca_2, ca_3, ca_4, ca_5, ca_6, Int.reduceToNat, Int.toNat_natCast, Int.reducePow, Int.reduceMul, Int.reduceLT, Int.reduceLE, Int.reduceNeg, zFor, List.replicate, List.length_cons, List.length_nil, List.nil_append, List.cons_append, List.append_nil, List.map_cons, List.map_nil, List.set_cons_zero, List.set_cons_succ, List.getElem?_cons_zero, List.getElem?_cons_succ, Option.some.injEq, S.d.injEq, S.o.injEq, Res.lst.injEq, Res.lstP.injEq, PyData.int.injEq, PyData.str.injEq, PyData.bool.injEq, PyData.list.injEq, PyData.tuple.injEq, List.cons.injEq, reduceCtorEq, exists_eq_left', exists_eq_left, exists_eq_right, exists_eq_right', true_and, and_true, false_and, and_false, exists_false, false_or, or_false, exists_and_left, exists_and_right, exists_eq', exists_eq, exists_const, Bool.false_eq_true, ite_true, ite_false, decide_eq_true_eq, Nat.sub_self, Nat.zero_add, Nat.add_sub_cancel, Nat.reduceSub, Nat.reduceAdd, ne_Clash_NoText, ne_Clash_Unfit, ne_NoText_Clash, ne_NoText_Unfit, ne_Unfit_Clash, ne_Unfit_NoText])
theorem c_is_number {P : Program} {w : World} {K : PySem.W.Frag} {mg : Str → Option Value} {base : Heap} (hb : Bi K mg) (D : Df K mg "is_number" (topS 11) ["word"])  : Cal P w K mg base "is_number" 1 ["word"] T_is_number := (by
  obtain ⟨f, fd, F, hm, hB⟩ := D
  refine ⟨f, fd, fn_d (k := 0) F sc_is_number ?hT (fun cdv A outer s H E hr => (q_cons (s_if (DW.dt (w_or (t_not (t_chain op_le op_le op_b0 op_b0 d_int (d_lenV hb.len (vv 0)) d_int)) (w_or1 (t_not (tv (d_all rfl hb.all (DE.dv (d_fz (o_lc [("sign", 1)] rfl sc_is_number.nd (i_seq (dv 0)) (by show blkC ["word", "sign"] (defScope (topS 11)) _ _ = true; decide +kernel) (fun _ _ _ _ _ => (g_name 1 sc_is_number.nd)) (fun _ _ _ _ _ => b_yes) (fun _ _ _ _ _ => (d_cmpN 1 (op_inA (hu65 hr)) opv_in (DE.dv (d_globS hb.FIGURES)) (by rfl))) (by decide))))))))))
 (q_one (s_ret d_bl)) q_nil)
 (q_one (s_ret (d_or (d_eq hr.units (dv 0) d_str) (d_one (d_ne hr.units (d_ixN 0 (fun _ _ => rfl) d_int) d_str))))))), hm, F.kp, hB⟩
  case hT =>
    intro a Q h
    obtain ⟨w, rfl, hw, hl, q⟩ := h
    refine ⟨rfl, ?_⟩
    have hsz := sizeLine_eq
    (try walk_at "wpt")
    refine ⟨by omega, ?_⟩
    unfold isNum at q
    by_cases h1 : 1 ≤ (w.length : Int)
    · rw [if_pos h1]
      by_cases h2 : (w.length : Int) ≤ 60
      · rw [if_neg (fun z => z h2)]
        refine comp_mm (g := fun (n : Nat) => .str ⟨#[n]⟩) (xs := w.cps.toList) (fun n => .bool (inSt (Str.ofString "0123456789") n)) (by show w.cps.toList.length ≤ _; rw [Array.length_toList]; have : w.cps.size = w.length := rfl; omega) (fun n hn N hN => ?_) ?_
        · (try walk_at "wpt")
          exact hN _ rfl
        (try walk_at "wpt")
        rw [asBs_f, List.all_map]
        have eA : ofN w (Str.ofString "0123456789") 60 = w.cps.toList.all (id ∘ inSt (Str.ofString "0123456789")) := by unfold ofN; rw [decide_eq_true h1, decide_eq_true h2]; rfl
        rw [eA] at q
        split
        · rename_i hA
          rw [hA] at q
          exact q _
        · rename_i hA
          rw [show w.cps.toList.all (id ∘ inSt (Str.ofString "0123456789")) = true by simpa using hA, Bool.true_and] at q
          refine ⟨hw, by decide +kernel, ?_⟩
          unfold no0 at q
          by_cases h0 : w = Str.ofString "0"
          · rw [if_pos h0]
            rw [show (w == Str.ofString "0") = true by rw [h0]; rfl, Bool.true_or] at q
            exact q _
          · rw [if_neg h0]
            rw [beq_eq_false_iff_ne.mpr h0, Bool.false_or] at q
            have hd := head_at (w := w) (by omega)
            have hm : w.cps.toList.headD 0 ∈ w.cps.toList := by
              cases e : w.cps.toList with
              | nil => have : w.cps.toList.length = w.length := Array.length_toList; rw [e] at this; simp at this; omega
              | cons a l => simp
            exact ⟨by omega, _, hd, strOk_at hw hm, by decide +kernel, q _⟩
      · rw [if_pos h2]
        rw [show ofN w (Str.ofString "0123456789") 60 = false by unfold ofN; rw [decide_eq_false h2]; simp] at q
        exact q _
    · rw [if_neg h1]
      rw [show ofN w (Str.ofString "0123456789") 60 = false by unfold ofN; rw [decide_eq_false h1]; rfl] at q
      exact q _
  )
def T_words_of : TFX := fun a Q E1 => ∃ (w : Str), a = [.d (.str w)] ∧ PyData.strOk w = true ∧ w.length ≤ 100000 ∧ (∀ p ∈ Txt.split w (Str.ofString " "), PyData.strOk p = true) ∧ if Str.ofString "" ∈ Txt.split w (Str.ofString " ") then E1 "NoText" else ret Q (.o none (.lst ((Txt.split w (Str.ofString " ")).map PyData.str)))
theorem sc_words_of : FnScope ["row", "words"] ["row"] (defScope (topS 12)) := ⟨rfl, rfl, rfl, by decide +kernel, rfl, by decide +kernel, by decide +kernel⟩
local macro_rules | `(tactic| walk_at "wpt") => `(tactic| simp (maxSteps := 1000000) only [↓reduceIte, xHand, uIsP, zPlAppY, zPlAppX, xTupL, aoLast, aoCons, uLenPl, oTl0, ↓asOTx_d, ↓asOTx_o, yNil, yCons, zSeqY, zIfY, zRaiseY, zExY, zRetXY, zForY, yCallA, ↓retE_k, zRaise2, uXf, zTryL, ↓atY_cons, ↓ret_wd, ↓ret_wo, ↓ret_wt, kC, ↓asTr_t, ↓asDs_l, ↓asDs_n, ↓asLs_l, ↓asOT_l, ↓asOT_t, ↓asOT_ll, pVar, pIx, uPlV, ↓asOw_o, ↓mvS_d, ↓mvS_f, ↓mvS_o, zRetX, oX, ↓frS_d, ↓frS_f, ↓plainA_n, ↓plainA_d, ↓plainA_f, ↓ret_xd, ↓ret_xf, ↓ret_xo, ↓retA_xd, ↓retA_xf, ↓retA_xo, ↓ret_vd, ↓ret_vo, OT.areD, OT.isD, OT.toDs, OT.toD, OT.upd, OT.wch, OT.ch, ↓retA_kO, ↓retA_kD, ↓retA_kDo, ↓retA_kS, ↓asBs_m, ↓asSs_m, fAll, fStr, ↓fIntS_i, ↓fIntS_b, ↓fIntS_s, oLcN, fSortST, zSeqX, zIfX, zRaise, ↓bare_d, ↓bare_o, ↓bare_l, ↓bare_no, ↓bare_f, ↓bare_tr, ↓bare_g, ↓bare_P, ↓bare_dic, oDic0, zSetK, uDin, ↓asDic_d, zDput, fMin2S, fMax2S, uLenSet, oSplit, S.f.injEq, eq_self, ↓fAddA_i, ↓fAddA_s, ↓fAddA_t, uChain, oRep, fSortS, ↓slW_d, ↓slW_o, ↓slW_P, ↓slW_s, ↓hasS_d, ↓hasS_o, ↓hasS_f, ↓hasS_s, uV, uN, u1, o1, o2, oN, ↓fIn_l, ↓fIn_s, fCat, ↓fList_l, ↓fList_t, ↓fTup_l, ↓fTup_t, ↓lstR_l, ↓lstR_P, zM1, fApp, zIns, ↓slF_d, ↓slF_o, ↓slF_s, uVf, pNo, pSo, ↓fSl_s, ↓fSl_t, uSl, ↓scal_n, ↓scal_b, ↓scal_i, ↓scal_s, ↓kS_d, ↓ret_S, rNil, rD, rS, uCallA, ↓toS_d, ↓toS_f, ↓toS_s, ↓slS_0, ↓slS_s, ↓retA_d, ↓retA_o, ↓retA_O, ↓backL_n, ↓backL_s, ↓backL_d, ↓backL_f, ↓lok_n, ↓lok_s, ↓lok_d, ↓lok_f, ↓lent_n, ↓lent_s, ↓lent_d, ↓lent_f, bYes, oLc, ↓clr_n, ↓clr_c, ↓clr2_n, ↓clr2_c, ↓rest_n, ↓rest_c, ↓keep1_d, ↓keep1_o, ↓keep1_f, ↓keep1_no, ↓keep1_s, ↓asLL_l, oLL0, zLLn, zLLa, uLLlen, List.mem_cons, List.not_mem_nil, Nat.reduceEqDiff, eqv_list, eqv_tuple, eqv_none, ↓asI_i, ↓asB_b, ↓asS_s, ↓asL_l, ↓asT_t, ↓slD_0, ↓slD_s, ↓slO_0, ↓slO_s, ↓asR_l, ↓fAdd_i, ↓fAdd_s, ↓ixbo_0, ↓ixbo_1, ↓ixbo_2, ↓ixbo_3, ↓ixD_l, ↓ixD_t, ↓ixD_s, ↓arg2_2, ↓fLen1_l, ↓fLen1_t, ↓fLen1_s, ↓asC_c, ↓asQ_l, ↓asQ_t, ↓asQ_s, ↓kD_d, ↓kD_o, ↓kO_o, ↓fz_l, ↓fz_P, ↓fz_ll, ↓ret_d, ↓ret_o, ↓ret_O, ↓retL_d, ↓retL_o, ↓retL_O, ↓atD_0, ↓atD_1, ↓atD_2, ↓atD_3, ↓atD_b1, ↓atD_b2, ↓atD_b3, ↓ixP_30, ↓ixP_31, ↓ixP_32, ↓if_true, ↓if_false, zNext, zSeq, zSet, zSetO, zRet, zRetO, zRetP, zIf, zAsg, zPut, gN, gsNil, gsCons, gT, uVar, uC, uFz, u2, fI, fI0, fEq, uCB, wB, wNot, wAnd, wOr, uAnd, uOr, aNil, aCons, uTup, oLst, fIx, oVar, iSeq, iR1, uCall, oCall, uLend, oLend, shaped_iff, sh_non, sh_int, sh_bool, sh_str, eqv_int, eqv_str, eqv_bool, ixN_30, ixN_31, ixN_32, ixN_20, ixN_21, atI_0, atI_1, atI_2, atI_3, atI_b1, atI_b2, atI_b3, List.length_map, Int.reduceEq, forall_const, implies_true, and_assoc, sz_0, sz_1, sz_2, sz_3, sz_4, sz_5, sz_6, sz_7, sz_8, Bool.not_eq_true', beq_eq_false_iff_ne, beq_iff_eq, ne_eq, Bool.and_eq_true, Bool.or_eq_true, decide_eq_false_iff_not, not_false_eq_true, not_true_eq_false, Bool.not_true, Bool.not_false, isS_n, isS_b, isS_i, isS_s, isS_l, isS_t, ca_0, ca_1, ca_2, ca_3, ca_4, ca_5, ca_6, Int.reduceToNat, Int.toNat_natCast, Int.reducePow, Int.reduceMul, Int.reduceLT, Int.reduceLE, Int.reduceNeg, zFor, List.replicate, List.length_cons, List.length_nil, List.nil_append, List.cons_append, List.append_nil, List.map_cons, List.map_nil, List.set_cons_zero, List.set_cons_succ, List.getElem?_cons_zero, List.getElem?_cons_succ, Option.some.injEq, S.d.injEq, S.o.injEq, Res.lst.injEq, Res.lstP.injEq, PyData.int.injEq, PyData.str.injEq, PyData.bool.injEq, PyData.list.injEq, PyData.tuple.injEq, List.cons.injEq, reduceCtorEq, exists_eq_left', exists_eq_left, exists_eq_right, exists_eq_right', true_and, and_true, false_and, and_false, exists_false, false_or, or_false, exists_and_left, exists_and_right, exists_eq', exists_eq, exists_const, Bool.false_eq_true, ite_true, ite_false, decide_eq_true_eq, Nat.sub_self, Nat.zero_add, Nat.add_sub_cancel, Nat.reduceSub, Nat.reduceAdd, ne_Clash_NoText, ne_Clash_Unfit, ne_NoText_Clash, ne_NoText_Unfit, ne_Unfit_Clash, ne_Unfit_NoText])
local macro_rules | `(tactic| walk_at "st") => `(tactic| simp (maxSteps := 1000000) only [true_and, ↓reduceIte, xHand, uIsP, zPlAppY, zPlAppX, xTupL, aoLast, aoCons, uLenPl, oTl0, ↓asOTx_d, ↓asOTx_o, yNil, yCons, zSeqY, zIfY, zRaiseY, zExY, zRetXY, zForY, yCallA, ↓retE_k, zRaise2, uXf, zTryL, ↓atY_cons, ↓ret_wd, ↓ret_wo, ↓ret_wt, kC, ↓asTr_t, ↓asDs_l, ↓asDs_n, ↓asLs_l, ↓asOT_l, ↓asOT_t, ↓asOT_ll, pVar, pIx, uPlV, ↓asOw_o, ↓mvS_d, ↓mvS_f, ↓mvS_o, zRetX, oX, ↓frS_d, ↓frS_f, ↓plainA_n, ↓plainA_d, ↓plainA_f, ↓ret_xd, ↓ret_xf, ↓ret_xo, ↓retA_xd, ↓retA_xf, ↓retA_xo, ↓ret_vd, ↓ret_vo, OT.areD, OT.isD, OT.toDs, OT.toD, OT.upd, OT.wch, OT.ch, ↓retA_kO, ↓retA_kD, ↓retA_kDo, ↓retA_kS, ↓asBs_m, ↓asSs_m, fAll, fStr, ↓fIntS_i, ↓fIntS_b, ↓fIntS_s, oLcN, fSortST, zSeqX, zIfX, zRaise, ↓bare_d, ↓bare_o, ↓bare_l, ↓bare_no, ↓bare_f, ↓bare_tr, ↓bare_g, ↓bare_P, ↓bare_dic, oDic0, zSetK, uDin, ↓asDic_d, zDput, fMin2S, fMax2S, uLenSet, oSplit, S.f.injEq, eq_self, ↓fAddA_i, ↓fAddA_s, ↓fAddA_t, uChain, oRep, fSortS, ↓slW_d, ↓slW_o, ↓slW_P, ↓slW_s, ↓hasS_d, ↓hasS_o, ↓hasS_f, ↓hasS_s, uV, uN, u1, o1, o2, oN, ↓fIn_l, ↓fIn_s, fCat, ↓fList_l, ↓fList_t, ↓fTup_l, ↓fTup_t, ↓lstR_l, ↓lstR_P, zM1, fApp, zIns, ↓slF_d, ↓slF_o, ↓slF_s, uVf, pNo, pSo, ↓fSl_s, ↓fSl_t, uSl, ↓scal_n, ↓scal_b, ↓scal_i, ↓scal_s, ↓kS_d, ↓ret_S, rNil, rD, rS, uCallA, ↓toS_d, ↓toS_f, ↓toS_s, ↓slS_0, ↓slS_s, ↓retA_d, ↓retA_o, ↓retA_O, ↓backL_n, ↓backL_s, ↓backL_d, ↓backL_f, ↓lok_n, ↓lok_s, ↓lok_d, ↓lok_f, ↓lent_n, ↓lent_s, ↓lent_d, ↓lent_f, bYes, oLc, ↓clr_n, ↓clr_c, ↓clr2_n, ↓clr2_c, ↓rest_n, ↓rest_c, ↓keep1_d, ↓keep1_o, ↓keep1_f, ↓keep1_no, ↓keep1_s, ↓asLL_l, oLL0, zLLn, zLLa, uLLlen, List.mem_cons, List.not_mem_nil, Nat.reduceEqDiff, eqv_list, eqv_tuple, eqv_none, ↓asI_i, ↓asB_b, ↓asS_s, ↓asL_l, ↓asT_t, ↓slD_0, ↓slD_s, ↓slO_0, ↓slO_s, ↓asR_l, ↓fAdd_i, ↓fAdd_s, ↓ixbo_0, ↓ixbo_1, ↓ixbo_2, ↓ixbo_3, ↓ixD_l, ↓ixD_t, ↓ixD_s, ↓arg2_2, ↓fLen1_l, ↓fLen1_t, ↓fLen1_s, ↓asC_c, ↓asQ_l, ↓asQ_t, ↓asQ_s, ↓kD_d, ↓kD_o, ↓kO_o, ↓fz_l, ↓fz_P, ↓fz_ll, ↓ret_d, ↓ret_o, ↓ret_O, ↓retL_d, ↓retL_o, ↓retL_O, ↓atD_0, ↓atD_1, ↓atD_2, ↓atD_3, ↓atD_b1, ↓atD_b2, ↓atD_b3, ↓ixP_30, ↓ixP_31, ↓ixP_32, ↓if_true, ↓if_false, zNext, zSet, zSetO, zRet, zRetO, zRetP, zIf, zAsg, zPut, gN, gsNil, gsCons, gT, uVar, uC, uFz, u2, fI, fI0, fEq, uCB, wB, wNot, wAnd, wOr, uAnd, uOr, aNil, aCons, uTup, oLst, fIx, oVar, iSeq, iR1, uCall, oCall, uLend, oLend, shaped_iff, sh_non, sh_int, sh_bool, sh_str, eqv_int, eqv_str, eqv_bool, ixN_30, ixN_31, ixN_32, ixN_20, ixN_21, atI_0, atI_1, atI_2, atI_3, atI_b1, atI_b2, atI_b3, List.length_map, Int.reduceEq, forall_const, implies_true, and_assoc, sz_0, sz_1, sz_2, sz_3, sz_4, sz_5, sz_6, sz_7, sz_8, Bool.not_eq_true', beq_eq_false_iff_ne, beq_iff_eq, ne_eq, Bool.and_eq_true, Bool.or_eq_true, decide_eq_false_iff_not, not_false_eq_true, not_true_eq_false, Bool.not_true, Bool.not_false, isS_n, isS_b, isS_i, isS_s, isS_l, isS_t, ca_0, ca_1, ca_2, ca_3, ca_4, ca_5, ca_6, Int.reduceToNat, Int.toNat_natCast, Int.reducePow, Int.reduceMul, Int.reduceLT, Int.reduceLE, Int.reduceNeg, zFor, List.replicate, List.length_cons, List.length_nil, List.nil_append, List.cons_append, List.append_nil, List.map_cons, List.map_nil, List.set_cons_zero, List.set_cons_succ, List.getElem?_cons_zero, List.getElem?_cons_succ, Option.some.injEq, S.d.injEq, S.o.injEq, Res.lst.injEq, Res.lstP.injEq, PyData.int.injEq, PyData.str.injEq, PyData.bool.injEq, PyData.list.injEq, PyData.tuple.injEq, List.cons.injEq, reduceCtorEq, exists_eq_left', exists_eq_left, exists_eq_right, exists_eq_right', true_and, and_true, false_and, and_false, exists_false, false_or, or_false, exists_and_left, exists_and_right, exists_eq', exists_eq, exists_const, Bool.false_eq_true, ite_true, ite_false, decide_eq_true_eq, Nat.sub_self, Nat.zero_add, Nat.add_sub_cancel, Nat.reduceSub, Nat.reduceAdd, ne_Clash_NoText, ne_Clash_Unfit, ne_NoText_Clash, ne_NoText_Unfit, ne_Unfit_Clash, ne_Unfit_NoText])
theorem c_words_of {P : Program} {w : World} {K : PySem.W.Frag} {mg : Str → Option Value} {base : Heap} (hb : Bi K mg) (D : Df K mg "words_of" (topS 12) ["row"])  : CalX P w K mg base "words_of" 1 ["row"] T_words_of := (by
  obtain ⟨f, fd, F, hm, hB⟩ := D
  refine ⟨f, fd, fn_dX (k := 0) F sc_words_of ?hT (fun cdv A outer s H E hr tk => (qx_cons (x_of (s_setO (j := 1) sc_words_of.nd (o_split (dv 0) d_str)))
 (qx_cons (s_ifX (t_cmpL (op_inA (hu65 hr)) opv_in d_str (vv 1) (by rfl))
 (qx_one (s_raise rfl tk hb.exf_NoText)) (xs_of q_nil))
 (xs_of (q_one (s_retO (o_var 1))))))), hm, F.kp, hB⟩
  case hT =>
    intro a Q E1 h
    obtain ⟨w, rfl, hw, hl, hp, q⟩ := h
    refine ⟨rfl, ?_⟩
    have hsz := sizeLine_eq
    (try walk_at "wpt")
    refine ⟨by decide +kernel, by omega, by decide +kernel, sh_strs hp, ?_⟩
    rw [any_str]
    by_cases hm : Str.ofString "" ∈ Txt.split w (Str.ofString " ")
    · rw [if_pos hm] at q
      rw [if_pos (decide_eq_true hm)]
      exact q
    · rw [if_neg hm] at q
      rw [if_neg (by rw [decide_eq_true_eq]; exact hm)]
      exact q _
  )
def T_words_of__y : TFY := fun a Q E1 => ∃ (w : Str), a = [.d (.str w)] ∧ PyData.strOk w = true ∧ w.length ≤ 100000 ∧ (∀ p ∈ Txt.split w (Str.ofString " "), PyData.strOk p = true) ∧ if Str.ofString "" ∈ Txt.split w (Str.ofString " ") then retE [none] E1 "NoText" [] else retA [none] Q (.o none (.lst ((Txt.split w (Str.ofString " ")).map PyData.str)))
theorem sc_words_of__y : FnScope ["row", "words"] ["row"] (defScope (topS 12)) := ⟨rfl, rfl, rfl, by decide +kernel, rfl, by decide +kernel, by decide +kernel⟩
local macro_rules | `(tactic| walk_at "wpt") => `(tactic| simp (maxSteps := 1000000) only [↓reduceIte, xHand, uIsP, zPlAppY, zPlAppX, xTupL, aoLast, aoCons, uLenPl, oTl0, ↓asOTx_d, ↓asOTx_o, yNil, yCons, zSeqY, zIfY, zRaiseY, zExY, zRetXY, zForY, yCallA, ↓retE_k, zRaise2, uXf, zTryL, ↓atY_cons, ↓ret_wd, ↓ret_wo, ↓ret_wt, kC, ↓asTr_t, ↓asDs_l, ↓asDs_n, ↓asLs_l, ↓asOT_l, ↓asOT_t, ↓asOT_ll, pVar, pIx, uPlV, ↓asOw_o, ↓mvS_d, ↓mvS_f, ↓mvS_o, zRetX, oX, ↓frS_d, ↓frS_f, ↓plainA_n, ↓plainA_d, ↓plainA_f, ↓ret_xd, ↓ret_xf, ↓ret_xo, ↓retA_xd, ↓retA_xf, ↓retA_xo, ↓ret_vd, ↓ret_vo, OT.areD, OT.isD, OT.toDs, OT.toD, OT.upd, OT.wch, OT.ch, ↓retA_kO, ↓retA_kD, ↓retA_kDo, ↓retA_kS, ↓asBs_m, ↓asSs_m, fAll, fStr, ↓fIntS_i, ↓fIntS_b, ↓fIntS_s, oLcN, fSortST, zSeqX, zIfX, zRaise, ↓bare_d, ↓bare_o, ↓bare_l, ↓bare_no, ↓bare_f, ↓bare_tr, ↓bare_g, ↓bare_P, ↓bare_dic, oDic0, zSetK, uDin, ↓asDic_d, zDput, fMin2S, fMax2S, uLenSet, oSplit, S.f.injEq, eq_self, ↓fAddA_i, ↓fAddA_s, ↓fAddA_t, uChain, oRep, fSortS, ↓slW_d, ↓slW_o, ↓slW_P, ↓slW_s, ↓hasS_d, ↓hasS_o, ↓hasS_f, ↓hasS_s, uV, uN, u1, o1, o2, oN, ↓fIn_l, ↓fIn_s, fCat, ↓fList_l, ↓fList_t, ↓fTup_l, ↓fTup_t, ↓lstR_l, ↓lstR_P, zM1, fApp, zIns, ↓slF_d, ↓slF_o, ↓slF_s, uVf, pNo, pSo, ↓fSl_s, ↓fSl_t, uSl, ↓scal_n, ↓scal_b, ↓scal_i, ↓scal_s, ↓kS_d, ↓ret_S, rNil, rD, rS, uCallA, ↓toS_d, ↓toS_f, ↓toS_s, ↓slS_0, ↓slS_s, ↓retA_d, ↓retA_o, ↓retA_O, ↓backL_n, ↓backL_s, ↓backL_d, ↓backL_f, ↓lok_n, ↓lok_s, ↓lok_d, ↓lok_f, ↓lent_n, ↓lent_s, ↓lent_d, ↓lent_f, bYes, oLc, ↓clr_n, ↓clr_c, ↓clr2_n, ↓clr2_c, ↓rest_n, ↓rest_c, ↓keep1_d, ↓keep1_o, ↓keep1_f, ↓keep1_no, ↓keep1_s, ↓asLL_l, oLL0, zLLn, zLLa, uLLlen, List.mem_cons, List.not_mem_nil, Nat.reduceEqDiff, eqv_list, eqv_tuple, eqv_none, ↓asI_i, ↓asB_b, ↓asS_s, ↓asL_l, ↓asT_t, ↓slD_0, ↓slD_s, ↓slO_0, ↓slO_s, ↓asR_l, ↓fAdd_i, ↓fAdd_s, ↓ixbo_0, ↓ixbo_1, ↓ixbo_2, ↓ixbo_3, ↓ixD_l, ↓ixD_t, ↓ixD_s, ↓arg2_2, ↓fLen1_l, ↓fLen1_t, ↓fLen1_s, ↓asC_c, ↓asQ_l, ↓asQ_t, ↓asQ_s, ↓kD_d, ↓kD_o, ↓kO_o, ↓fz_l, ↓fz_P, ↓fz_ll, ↓ret_d, ↓ret_o, ↓ret_O, ↓retL_d, ↓retL_o, ↓retL_O, ↓atD_0, ↓atD_1, ↓atD_2, ↓atD_3, ↓atD_b1, ↓atD_b2, ↓atD_b3, ↓ixP_30, ↓ixP_31, ↓ixP_32, ↓if_true, ↓if_false, zNext, zSeq, zSet, zSetO, zRet, zRetO, zRetP, zIf, zAsg, zPut, gN, gsNil, gsCons, gT, uVar, uC, uFz, u2, fI, fI0, fEq, uCB, wB, wNot, wAnd, wOr, uAnd, uOr, aNil, aCons, uTup, oLst, fIx, oVar, iSeq, iR1, uCall, oCall, uLend, oLend, shaped_iff, sh_non, sh_int, sh_bool, sh_str, eqv_int, eqv_str, eqv_bool, ixN_30, ixN_31, ixN_32, ixN_20, ixN_21, atI_0, atI_1, atI_2, atI_3, atI_b1, atI_b2, atI_b3, List.length_map, Int.reduceEq, forall_const, implies_true, and_assoc, sz_0, sz_1, sz_2, sz_3, sz_4, sz_5, sz_6, sz_7, sz_8, Bool.not_eq_true', beq_eq_false_iff_ne, beq_iff_eq, ne_eq, Bool.and_eq_true, Bool.or_eq_true, decide_eq_false_iff_not, not_false_eq_true, not_true_eq_false, Bool.not_true, Bool.not_false, isS_n, isS_b, isS_i, isS_s, isS_l, isS_t, ca_0, ca_1, ca_2, ca_3, ca_4, ca_5, ca_6, Int.reduceToNat, Int.toNat_natCast, Int.reducePow, Int.reduceMul, Int.reduceLT, Int.reduceLE, Int.reduceNeg, zFor, List.replicate, List.length_cons, List.length_nil, List.nil_append, List.cons_append, List.append_nil, List.map_cons, List.map_nil, List.set_cons_zero, List.set_cons_succ, List.getElem?_cons_zero, List.getElem?_cons_succ, Option.some.injEq, S.d.injEq, S.o.injEq, Res.lst.injEq, Res.lstP.injEq, PyData.int.injEq, PyData.str.injEq, PyData.bool.injEq, PyData.list.injEq, PyData.tuple.injEq, List.cons.injEq, reduceCtorEq, exists_eq_left', exists_eq_left, exists_eq_right, exists_eq_right', true_and, and_true, false_and, and_false, exists_false, false_or, or_false, exists_and_left, exists_and_right, exists_eq', exists_eq, exists_const, Bool.false_eq_true, ite_true, ite_false, decide_eq_true_eq, Nat.sub_self, Nat.zero_add, Nat.add_sub_cancel, Nat.reduceSub, Nat.reduceAdd, ne_Clash_NoText, ne_Clash_Unfit, ne_NoText_Clash, ne_NoText_Unfit, ne_Unfit_Clash, ne_Unfit_NoText])
local macro_rules | `(tactic| walk_at "st") => `(tactic| simp (maxSteps := 1000000) only [true_and, ↓reduceIte, xHand, uIsP, zPlAppY, zPlAppX, xTupL, aoLast, aoCons, uLenPl, oTl0, ↓asOTx_d, ↓asOTx_o, yNil, yCons, zSeqY, zIfY, zRaiseY, zExY, zRetXY, zForY, yCallA, ↓retE_k, zRaise2, uXf, zTryL, ↓atY_cons, ↓ret_wd, ↓ret_wo, ↓ret_wt, kC, ↓asTr_t, ↓asDs_l, ↓asDs_n, ↓asLs_l, ↓asOT_l, ↓asOT_t, ↓asOT_ll, pVar, pIx, uPlV, ↓asOw_o, ↓mvS_d, ↓mvS_f, ↓mvS_o, zRetX, oX, ↓frS_d, ↓frS_f, ↓plainA_n, ↓plainA_d, ↓plainA_f, ↓ret_xd, ↓ret_xf, ↓ret_xo, ↓retA_xd, ↓retA_xf, ↓retA_xo, ↓ret_vd, ↓ret_vo, OT.areD, OT.isD, OT.toDs, OT.toD, OT.upd, OT.wch, OT.ch, ↓retA_kO, ↓retA_kD, ↓retA_kDo, ↓retA_kS, ↓asBs_m, ↓asSs_m, fAll, fStr, ↓fIntS_i, ↓fIntS_b, ↓fIntS_s, oLcN, fSortST, zSeqX, zIfX, zRaise, ↓bare_d, ↓bare_o, ↓bare_l, ↓bare_no, ↓bare_f, ↓bare_tr, ↓bare_g, ↓bare_P, ↓bare_dic, oDic0, zSetK, uDin, ↓asDic_d, zDput, fMin2S, fMax2S, uLenSet, oSplit, S.f.injEq, eq_self, ↓fAddA_i, ↓fAddA_s, ↓fAddA_t, uChain, oRep, fSortS, ↓slW_d, ↓slW_o, ↓slW_P, ↓slW_s, ↓hasS_d, ↓hasS_o, ↓hasS_f, ↓hasS_s, uV, uN, u1, o1, o2, oN, ↓fIn_l, ↓fIn_s, fCat, ↓fList_l, ↓fList_t, ↓fTup_l, ↓fTup_t, ↓lstR_l, ↓lstR_P, zM1, fApp, zIns, ↓slF_d, ↓slF_o, ↓slF_s, uVf, pNo, pSo, ↓fSl_s, ↓fSl_t, uSl, ↓scal_n, ↓scal_b, ↓scal_i, ↓scal_s, ↓kS_d, ↓ret_S, rNil, rD, rS, uCallA, ↓toS_d, ↓toS_f, ↓toS_s, ↓slS_0, ↓slS_s, ↓retA_d, ↓retA_o, ↓retA_O, ↓backL_n, ↓backL_s, ↓backL_d, ↓backL_f, ↓lok_n, ↓lok_s, ↓lok_d, ↓lok_f, ↓lent_n, ↓lent_s, ↓lent_d, ↓lent_f, bYes, oLc, ↓clr_n, ↓clr_c, ↓clr2_n, ↓clr2_c, ↓rest_n, ↓rest_c, ↓keep1_d, ↓keep1_o, ↓keep1_f, ↓keep1_no, ↓keep1_s, ↓asLL_l, oLL0, zLLn, zLLa, uLLlen, List.mem_cons, List.not_mem_nil, Nat.reduceEqDiff, eqv_list, eqv_tuple, eqv_none, ↓asI_i, ↓asB_b, ↓asS_s, ↓asL_l, ↓asT_t, ↓slD_0, ↓slD_s, ↓slO_0, ↓slO_s, ↓asR_l, ↓fAdd_i, ↓fAdd_s, ↓ixbo_0, ↓ixbo_1, ↓ixbo_2, ↓ixbo_3, ↓ixD_l, ↓ixD_t, ↓ixD_s, ↓arg2_2, ↓fLen1_l, ↓fLen1_t, ↓fLen1_s, ↓asC_c, ↓asQ_l, ↓asQ_t, ↓asQ_s, ↓kD_d, ↓kD_o, ↓kO_o, ↓fz_l, ↓fz_P, ↓fz_ll, ↓ret_d, ↓ret_o, ↓ret_O, ↓retL_d, ↓retL_o, ↓retL_O, ↓atD_0, ↓atD_1, ↓atD_2, ↓atD_3, ↓atD_b1, ↓atD_b2, ↓atD_b3, ↓ixP_30, ↓ixP_31, ↓ixP_32, ↓if_true, ↓if_false, zNext, zSet, zSetO, zRet, zRetO, zRetP, zIf, zAsg, zPut, gN, gsNil, gsCons, gT, uVar, uC, uFz, u2, fI, fI0, fEq, uCB, wB, wNot, wAnd, wOr, uAnd, uOr, aNil, aCons, uTup, oLst, fIx, oVar, iSeq, iR1, uCall, oCall, uLend, oLend, shaped_iff, sh_non, sh_int, sh_bool, sh_str, eqv_int, eqv_str, eqv_bool, ixN_30, ixN_31, ixN_32, ixN_20, ixN_21, atI_0, atI_1, atI_2, atI_3, atI_b1, atI_b2, atI_b3, List.length_map, Int.reduceEq, forall_const, implies_true, and_assoc, sz_0, sz_1, sz_2, sz_3, sz_4, sz_5, sz_6, sz_7, sz_8, Bool.not_eq_true', beq_eq_false_iff_ne, beq_iff_eq, ne_eq, Bool.and_eq_true, Bool.or_eq_true, decide_eq_false_iff_not, not_false_eq_true, not_true_eq_false, Bool.not_true, Bool.not_false, isS_n, isS_b, isS_i, isS_s, isS_l, isS_t, ca_0, ca_1, ca_2, ca_3, ca_4, ca_5, ca_6, Int.reduceToNat, Int.toNat_natCast, Int.reducePow, Int.reduceMul, Int.reduceLT, Int.reduceLE, Int.reduceNeg, zFor, List.replicate, List.length_cons, List.length_nil, List.nil_append, List.cons_append, List.append_nil, List.map_cons, List.map_nil, List.set_cons_zero, List.set_cons_succ, List.getElem?_cons_zero, List.getElem?_cons_succ, Option.some.injEq, S.d.injEq, S.o.injEq, Res.lst.injEq, Res.lstP.injEq, PyData.int.injEq, PyData.str.injEq, PyData.bool.injEq, PyData.list.injEq, PyData.tuple.injEq, List.cons.injEq, reduceCtorEq, exists_eq_left', exists_eq_left, exists_eq_right, exists_eq_right', true_and, and_true, false_and, and_false, exists_false, false_or, or_false, exists_and_left, exists_and_right, exists_eq', exists_eq, exists_const, Bool.false_eq_true, ite_true, ite_false, decide_eq_true_eq, Nat.sub_self, Nat.zero_add, Nat.add_sub_cancel, Nat.reduceSub, Nat.reduceAdd, ne_Clash_NoText, ne_Clash_Unfit, ne_NoText_Clash, ne_NoText_Unfit, ne_Unfit_Clash, ne_Unfit_NoText])
theorem c_words_of__y {P : Program} {w : World} {K : PySem.W.Frag} {mg : Str → Option Value} {base : Heap} (hb : Bi K mg) (D : Df K mg "words_of" (topS 12) ["row"])  : CalY P w K mg base "words_of" 1 ["row"] T_words_of__y := (by
  obtain ⟨f, fd, F, hm, hB⟩ := D
  refine ⟨f, fd, fn_dY (k := 0) F sc_words_of__y ?hT (fun cdv A outer s H E hr tk => (qy_cons (y_of (s_setO (j := 1) sc_words_of__y.nd (o_split (dv 0) d_str)))
 (qy_cons (s_ifY (t_cmpL (op_inA (hu65 hr)) opv_in d_str (vv 1) (by rfl))
 (qy_one (s_raiseY rfl tk hb.exf_NoText)) (ys_of q_nil))
 (ys_of (q_one (s_retO (o_var 1))))))), hm, F.kp, hB⟩
  case hT =>
    intro a Q E1 h
    obtain ⟨w, rfl, hw, hl, hp, q⟩ := h
    refine ⟨rfl, ?_⟩
    have hsz := sizeLine_eq
    (try walk_at "wpt")
    refine ⟨by decide +kernel, by omega, by decide +kernel, sh_strs hp, ?_⟩
    rw [any_str]
    by_cases hm : Str.ofString "" ∈ Txt.split w (Str.ofString " ")
    · rw [if_pos hm] at q
      rw [if_pos (decide_eq_true hm)]
      exact q _ (pat_consN pat_nil)
    · rw [if_neg hm] at q
      rw [if_neg (by rw [decide_eq_true_eq]; exact hm)]
      exact q _ (pat_consN pat_nil)
  )
def T_rows_of : TF := fun a Q => ∃ (w : Str), a = [.d (.str w)] ∧ PyData.strOk w = true ∧ w.length ≤ 100000 ∧ ret Q (.o none (.lst (if w = Str.ofString "" then [] else (Txt.split w (Str.ofString "\n")).map PyData.str)))
theorem sc_rows_of : FnScope ["text"] ["text"] (defScope (topS 13)) := ⟨rfl, rfl, rfl, by decide +kernel, rfl, by decide +kernel, by decide +kernel⟩
local macro_rules | `(tactic| walk_at "wpt") => `(tactic| simp (maxSteps := 1000000) only [↓reduceIte, xHand, uIsP, zPlAppY, zPlAppX, xTupL, aoLast, aoCons, uLenPl, oTl0, ↓asOTx_d, ↓asOTx_o, yNil, yCons, zSeqY, zIfY, zRaiseY, zExY, zRetXY, zForY, yCallA, ↓retE_k, zRaise2, uXf, zTryL, ↓atY_cons, ↓ret_wd, ↓ret_wo, ↓ret_wt, kC, ↓asTr_t, ↓asDs_l, ↓asDs_n, ↓asLs_l, ↓asOT_l, ↓asOT_t, ↓asOT_ll, pVar, pIx, uPlV, ↓asOw_o, ↓mvS_d, ↓mvS_f, ↓mvS_o, zRetX, oX, ↓frS_d, ↓frS_f, ↓plainA_n, ↓plainA_d, ↓plainA_f, ↓ret_xd, ↓ret_xf, ↓ret_xo, ↓retA_xd, ↓retA_xf, ↓retA_xo, ↓ret_vd, ↓ret_vo, OT.areD, OT.isD, OT.toDs, OT.toD, OT.upd, OT.wch, OT.ch, ↓retA_kO, ↓retA_kD, ↓retA_kDo, ↓retA_kS, ↓asBs_m, ↓asSs_m, fAll, fStr, ↓fIntS_i, ↓fIntS_b, ↓fIntS_s, oLcN, fSortST, zSeqX, zIfX, zRaise, ↓bare_d, ↓bare_o, ↓bare_l, ↓bare_no, ↓bare_f, ↓bare_tr, ↓bare_g, ↓bare_P, ↓bare_dic, oDic0, zSetK, uDin, ↓asDic_d, zDput, fMin2S, fMax2S, uLenSet, oSplit, S.f.injEq, eq_self, ↓fAddA_i, ↓fAddA_s, ↓fAddA_t, uChain, oRep, fSortS, ↓slW_d, ↓slW_o, ↓slW_P, ↓slW_s, ↓hasS_d, ↓hasS_o, ↓hasS_f, ↓hasS_s, uV, uN, u1, o1, o2, oN, ↓fIn_l, ↓fIn_s, fCat, ↓fList_l, ↓fList_t, ↓fTup_l, ↓fTup_t, ↓lstR_l, ↓lstR_P, zM1, fApp, zIns, ↓slF_d, ↓slF_o, ↓slF_s, uVf, pNo, pSo, ↓fSl_s, ↓fSl_t, uSl, ↓scal_n, ↓scal_b, ↓scal_i, ↓scal_s, ↓kS_d, ↓ret_S, rNil, rD, rS, uCallA, ↓toS_d, ↓toS_f, ↓toS_s, ↓slS_0, ↓slS_s, ↓retA_d, ↓retA_o, ↓retA_O, ↓backL_n, ↓backL_s, ↓backL_d, ↓backL_f, ↓lok_n, ↓lok_s, ↓lok_d, ↓lok_f, ↓lent_n, ↓lent_s, ↓lent_d, ↓lent_f, bYes, oLc, ↓clr_n, ↓clr_c, ↓clr2_n, ↓clr2_c, ↓rest_n, ↓rest_c, ↓keep1_d, ↓keep1_o, ↓keep1_f, ↓keep1_no, ↓keep1_s, ↓asLL_l, oLL0, zLLn, zLLa, uLLlen, List.mem_cons, List.not_mem_nil, Nat.reduceEqDiff, eqv_list, eqv_tuple, eqv_none, ↓asI_i, ↓asB_b, ↓asS_s, ↓asL_l, ↓asT_t, ↓slD_0, ↓slD_s, ↓slO_0, ↓slO_s, ↓asR_l, ↓fAdd_i, ↓fAdd_s, ↓ixbo_0, ↓ixbo_1, ↓ixbo_2, ↓ixbo_3, ↓ixD_l, ↓ixD_t, ↓ixD_s, ↓arg2_2, ↓fLen1_l, ↓fLen1_t, ↓fLen1_s, ↓asC_c, ↓asQ_l, ↓asQ_t, ↓asQ_s, ↓kD_d, ↓kD_o, ↓kO_o, ↓fz_l, ↓fz_P, ↓fz_ll, ↓ret_d, ↓ret_o, ↓ret_O, ↓retL_d, ↓retL_o, ↓retL_O, ↓atD_0, ↓atD_1, ↓atD_2, ↓atD_3, ↓atD_b1, ↓atD_b2, ↓atD_b3, ↓ixP_30, ↓ixP_31, ↓ixP_32, ↓if_true, ↓if_false, zNext, zSeq, zSet, zSetO, zRet, zRetO, zRetP, zIf, zAsg, zPut, gN, gsNil, gsCons, gT, uVar, uC, uFz, u2, fI, fI0, fEq, uCB, wB, wNot, wAnd, wOr, uAnd, uOr, aNil, aCons, uTup, oLst, fIx, oVar, iSeq, iR1, uCall, oCall, uLend, oLend, shaped_iff, sh_non, sh_int, sh_bool, sh_str, eqv_int, eqv_str, eqv_bool, ixN_30, ixN_31, ixN_32, ixN_20, ixN_21, atI_0, atI_1, atI_2, atI_3, atI_b1, atI_b2, atI_b3, List.length_map, Int.reduceEq, forall_const, implies_true, and_assoc, sz_0, sz_1, sz_2, sz_3, sz_4, sz_5, sz_6, sz_7, sz_8, Bool.not_eq_true', beq_eq_false_iff_ne, beq_iff_eq, ne_eq, Bool.and_eq_true, Bool.or_eq_true, decide_eq_false_iff_not, not_false_eq_true, not_true_eq_false, Bool.not_true, Bool.not_false, isS_n, isS_b, isS_i, isS_s, isS_l, isS_t, ca_0, ca_1, ca_2, ca_3, ca_4, ca_5, ca_6, Int.reduceToNat, Int.toNat_natCast, Int.reducePow, Int.reduceMul, Int.reduceLT, Int.reduceLE, Int.reduceNeg, zFor, List.replicate, List.length_cons, List.length_nil, List.nil_append, List.cons_append, List.append_nil, List.map_cons, List.map_nil, List.set_cons_zero, List.set_cons_succ, List.getElem?_cons_zero, List.getElem?_cons_succ, Option.some.injEq, S.d.injEq, S.o.injEq, Res.lst.injEq, Res.lstP.injEq, PyData.int.injEq, PyData.str.injEq, PyData.bool.injEq, PyData.list.injEq, PyData.tuple.injEq, List.cons.injEq, reduceCtorEq, exists_eq_left', exists_eq_left, exists_eq_right, exists_eq_right', true_and, and_true, false_and, and_false, exists_false, false_or, or_false, exists_and_left, exists_and_right, exists_eq', exists_eq, exists_const, Bool.false_eq_true, ite_true, ite_false, decide_eq_true_eq, Nat.sub_self, Nat.zero_add, Nat.add_sub_cancel, Nat.reduceSub, Nat.reduceAdd, ne_Clash_NoText, ne_Clash_Unfit, ne_NoText_Clash, ne_NoText_Unfit, ne_Unfit_Clash, ne_Unfit_NoText])
local macro_rules | `(tactic| walk_at "st") => `(tactic| simp (maxSteps := 1000000) only [true_and, ↓reduceIte, xHand, uIsP, zPlAppY, zPlAppX, xTupL, aoLast, aoCons, uLenPl, oTl0, ↓asOTx_d, ↓asOTx_o, yNil, yCons, zSeqY, zIfY, zRaiseY, zExY, zRetXY, zForY, yCallA, ↓retE_k, zRaise2, uXf, zTryL, ↓atY_cons, ↓ret_wd, ↓ret_wo, ↓ret_wt, kC, ↓asTr_t, ↓asDs_l, ↓asDs_n, ↓asLs_l, ↓asOT_l, ↓asOT_t, ↓asOT_ll, pVar, pIx, uPlV, ↓asOw_o, ↓mvS_d, ↓mvS_f, ↓mvS_o, zRetX, oX, ↓frS_d, ↓frS_f, ↓plainA_n, ↓plainA_d, ↓plainA_f, ↓ret_xd, ↓ret_xf, ↓ret_xo, ↓retA_xd, ↓retA_xf, ↓retA_xo, ↓ret_vd, ↓ret_vo, OT.areD, OT.isD, OT.toDs, OT.toD, OT.upd, OT.wch, OT.ch, ↓retA_kO, ↓retA_kD, ↓retA_kDo, ↓retA_kS, ↓asBs_m, ↓asSs_m, fAll, fStr, ↓fIntS_i, ↓fIntS_b, ↓fIntS_s, oLcN, fSortST, zSeqX, zIfX, zRaise, ↓bare_d, ↓bare_o, ↓bare_l, ↓bare_no, ↓bare_f, ↓bare_tr, ↓bare_g, ↓bare_P, ↓bare_dic, oDic0, zSetK, uDin, ↓asDic_d, zDput, fMin2S, fMax2S, uLenSet, oSplit, S.f.injEq, eq_self, ↓fAddA_i, ↓fAddA_s, ↓fAddA_t, uChain, oRep, fSortS, ↓slW_d, ↓slW_o, ↓slW_P, ↓slW_s, ↓hasS_d, ↓hasS_o, ↓hasS_f, ↓hasS_s, uV, uN, u1, o1, o2, oN, ↓fIn_l, ↓fIn_s, fCat, ↓fList_l, ↓fList_t, ↓fTup_l, ↓fTup_t, ↓lstR_l, ↓lstR_P, zM1, fApp, zIns, ↓slF_d, ↓slF_o, ↓slF_s, uVf, pNo, pSo, ↓fSl_s, ↓fSl_t, uSl, ↓scal_n, ↓scal_b, ↓scal_i, ↓scal_s, ↓kS_d, ↓ret_S, rNil, rD, rS, uCallA, ↓toS_d, ↓toS_f, ↓toS_s, ↓slS_0, ↓slS_s, ↓retA_d, ↓retA_o, ↓retA_O, ↓backL_n, ↓backL_s, ↓backL_d, ↓backL_f, ↓lok_n, ↓lok_s, ↓lok_d, ↓lok_f, ↓lent_n, ↓lent_s, ↓lent_d, ↓lent_f, bYes, oLc, ↓clr_n, ↓clr_c, ↓clr2_n, ↓clr2_c, ↓rest_n, ↓rest_c, ↓keep1_d, ↓keep1_o, ↓keep1_f, ↓keep1_no, ↓keep1_s, ↓asLL_l, oLL0, zLLn, zLLa, uLLlen, List.mem_cons, List.not_mem_nil, Nat.reduceEqDiff, eqv_list, eqv_tuple, eqv_none, ↓asI_i, ↓asB_b, ↓asS_s, ↓asL_l, ↓asT_t, ↓slD_0, ↓slD_s, ↓slO_0, ↓slO_s, ↓asR_l, ↓fAdd_i, ↓fAdd_s, ↓ixbo_0, ↓ixbo_1, ↓ixbo_2, ↓ixbo_3, ↓ixD_l, ↓ixD_t, ↓ixD_s, ↓arg2_2, ↓fLen1_l, ↓fLen1_t, ↓fLen1_s, ↓asC_c, ↓asQ_l, ↓asQ_t, ↓asQ_s, ↓kD_d, ↓kD_o, ↓kO_o, ↓fz_l, ↓fz_P, ↓fz_ll, ↓ret_d, ↓ret_o, ↓ret_O, ↓retL_d, ↓retL_o, ↓retL_O, ↓atD_0, ↓atD_1, ↓atD_2, ↓atD_3, ↓atD_b1, ↓atD_b2, ↓atD_b3, ↓ixP_30, ↓ixP_31, ↓ixP_32, ↓if_true, ↓if_false, zNext, zSet, zSetO, zRet, zRetO, zRetP, zIf, zAsg, zPut, gN, gsNil, gsCons, gT, uVar, uC, uFz, u2, fI, fI0, fEq, uCB, wB, wNot, wAnd, wOr, uAnd, uOr, aNil, aCons, uTup, oLst, fIx, oVar, iSeq, iR1, uCall, oCall, uLend, oLend, shaped_iff, sh_non, sh_int, sh_bool, sh_str, eqv_int, eqv_str, eqv_bool, ixN_30, ixN_31, ixN_32, ixN_20, ixN_21, atI_0, atI_1, atI_2, atI_3, atI_b1, atI_b2, atI_b3, List.length_map, Int.reduceEq, forall_const, implies_true, and_assoc, sz_0, sz_1, sz_2, sz_3, sz_4, sz_5, sz_6, sz_7, sz_8, Bool.not_eq_true', beq_eq_false_iff_ne, beq_iff_eq, ne_eq, Bool.and_eq_true, Bool.or_eq_true, decide_eq_false_iff_not, not_false_eq_true, not_true_eq_false, Bool.not_true, Bool.not_false, isS_n, isS_b, isS_i, isS_s, isS_l, isS_t, ca_0, ca_1, ca_2, ca_3, ca_4, ca_5, ca_6, Int.reduceToNat, Int.toNat_natCast, Int.reducePow, Int.reduceMul, Int.reduceLT, Int.reduceLE, Int.reduceNeg, zFor, List.replicate, List.length_cons, List.length_nil, List.nil_append, List.cons_append, List.append_nil, List.map_cons, List.map_nil, List.set_cons_zero, List.set_cons_succ, List.getElem?_cons_zero, List.getElem?_cons_succ, Option.some.injEq, S.d.injEq, S.o.injEq, Res.lst.injEq, Res.lstP.injEq, PyData.int.injEq, PyData.str.injEq, PyData.bool.injEq, PyData.list.injEq, PyData.tuple.injEq, List.cons.injEq, reduceCtorEq, exists_eq_left', exists_eq_left, exists_eq_right, exists_eq_right', true_and, and_true, false_and, and_false, exists_false, false_or, or_false, exists_and_left, exists_and_right, exists_eq', exists_eq, exists_const, Bool.false_eq_true, ite_true, ite_false, decide_eq_true_eq, Nat.sub_self, Nat.zero_add, Nat.add_sub_cancel, Nat.reduceSub, Nat.reduceAdd, ne_Clash_NoText, ne_Clash_Unfit, ne_NoText_Clash, ne_NoText_Unfit, ne_Unfit_Clash, ne_Unfit_NoText])
theorem c_rows_of {P : Program} {w : World} {K : PySem.W.Frag} {mg : Str → Option Value} {base : Heap} (hb : Bi K mg) (D : Df K mg "rows_of" (topS 13) ["text"])  : Cal P w K mg base "rows_of" 1 ["text"] T_rows_of := (by
  obtain ⟨f, fd, F, hm, hB⟩ := D
  refine ⟨f, fd, fn_d (k := 0) F sc_rows_of ?hT (fun cdv A outer s H E hr => (q_cons (s_if (t_eq hr.units (dv 0) d_str)
 (q_one (s_retO (o_lst a_nil))) q_nil)
 (q_one (s_retO (o_split (dv 0) d_str))))), hm, F.kp, hB⟩
  case hT =>
    intro a Q h
    obtain ⟨w, rfl, hw, hl, q⟩ := h
    refine ⟨rfl, ?_⟩
    have hsz := sizeLine_eq
    (try walk_at "wpt")
    refine ⟨hw, by decide +kernel, ?_⟩
    split
    · rename_i h
      rw [if_pos h] at q
      exact q _
    · rename_i h
      rw [if_neg h] at q
      exact ⟨by decide +kernel, by omega, q _⟩
  )
def T_block_fits : TF := fun a Q => ∃ (k : List (Str × Int)), a = [.d (blD k)] ∧ BlSz 1000 k ∧ ret Q (.d (.bool (blFit k)))
theorem sc_block_fits : FnScope ["block", "mark", "thick"] ["block"] (defScope (topS 15)) := ⟨rfl, rfl, rfl, by decide +kernel, rfl, by decide +kernel, by decide +kernel⟩
local macro_rules | `(tactic| walk_at "wpt") => `(tactic| simp (maxSteps := 1000000) only [↓TE_is_name, ↓reduceIte, xHand, uIsP, zPlAppY, zPlAppX, xTupL, aoLast, aoCons, uLenPl, oTl0, ↓asOTx_d, ↓asOTx_o, yNil, yCons, zSeqY, zIfY, zRaiseY, zExY, zRetXY, zForY, yCallA, ↓retE_k, zRaise2, uXf, zTryL, ↓atY_cons, ↓ret_wd, ↓ret_wo, ↓ret_wt, kC, ↓asTr_t, ↓asDs_l, ↓asDs_n, ↓asLs_l, ↓asOT_l, ↓asOT_t, ↓asOT_ll, pVar, pIx, uPlV, ↓asOw_o, ↓mvS_d, ↓mvS_f, ↓mvS_o, zRetX, oX, ↓frS_d, ↓frS_f, ↓plainA_n, ↓plainA_d, ↓plainA_f, ↓ret_xd, ↓ret_xf, ↓ret_xo, ↓retA_xd, ↓retA_xf, ↓retA_xo, ↓ret_vd, ↓ret_vo, OT.areD, OT.isD, OT.toDs, OT.toD, OT.upd, OT.wch, OT.ch, ↓retA_kO, ↓retA_kD, ↓retA_kDo, ↓retA_kS, ↓asBs_m, ↓asSs_m, fAll, fStr, ↓fIntS_i, ↓fIntS_b, ↓fIntS_s, oLcN, fSortST, zSeqX, zIfX, zRaise, ↓bare_d, ↓bare_o, ↓bare_l, ↓bare_no, ↓bare_f, ↓bare_tr, ↓bare_g, ↓bare_P, ↓bare_dic, oDic0, zSetK, uDin, ↓asDic_d, zDput, fMin2S, fMax2S, uLenSet, oSplit, S.f.injEq, eq_self, ↓fAddA_i, ↓fAddA_s, ↓fAddA_t, uChain, oRep, fSortS, ↓slW_d, ↓slW_o, ↓slW_P, ↓slW_s, ↓hasS_d, ↓hasS_o, ↓hasS_f, ↓hasS_s, uV, uN, u1, o1, o2, oN, ↓fIn_l, ↓fIn_s, fCat, ↓fList_l, ↓fList_t, ↓fTup_l, ↓fTup_t, ↓lstR_l, ↓lstR_P, zM1, fApp, zIns, ↓slF_d, ↓slF_o, ↓slF_s, uVf, pNo, pSo, ↓fSl_s, ↓fSl_t, uSl, ↓scal_n, ↓scal_b, ↓scal_i, ↓scal_s, ↓kS_d, ↓ret_S, rNil, rD, rS, uCallA, ↓toS_d, ↓toS_f, ↓toS_s, ↓slS_0, ↓slS_s, ↓retA_d, ↓retA_o, ↓retA_O, ↓backL_n, ↓backL_s, ↓backL_d, ↓backL_f, ↓lok_n, ↓lok_s, ↓lok_d, ↓lok_f, ↓lent_n, ↓lent_s, ↓lent_d, ↓lent_f, bYes, oLc, ↓clr_n, ↓clr_c, ↓clr2_n, ↓clr2_c, ↓rest_n, ↓rest_c, ↓keep1_d, ↓keep1_o, ↓keep1_f, ↓keep1_no, ↓keep1_s, ↓asLL_l, oLL0, zLLn, zLLa, uLLlen, List.mem_cons, List.not_mem_nil, Nat.reduceEqDiff, eqv_list, eqv_tuple, eqv_none, ↓asI_i, ↓asB_b, ↓asS_s, ↓asL_l, ↓asT_t, ↓slD_0, ↓slD_s, ↓slO_0, ↓slO_s, ↓asR_l, ↓fAdd_i, ↓fAdd_s, ↓ixbo_0, ↓ixbo_1, ↓ixbo_2, ↓ixbo_3, ↓ixD_l, ↓ixD_t, ↓ixD_s, ↓arg2_2, ↓fLen1_l, ↓fLen1_t, ↓fLen1_s, ↓asC_c, ↓asQ_l, ↓asQ_t, ↓asQ_s, ↓kD_d, ↓kD_o, ↓kO_o, ↓fz_l, ↓fz_P, ↓fz_ll, ↓ret_d, ↓ret_o, ↓ret_O, ↓retL_d, ↓retL_o, ↓retL_O, ↓atD_0, ↓atD_1, ↓atD_2, ↓atD_3, ↓atD_b1, ↓atD_b2, ↓atD_b3, ↓ixP_30, ↓ixP_31, ↓ixP_32, ↓if_true, ↓if_false, zNext, zSeq, zSet, zSetO, zRet, zRetO, zRetP, zIf, zAsg, zPut, gN, gsNil, gsCons, gT, uVar, uC, uFz, u2, fI, fI0, fEq, uCB, wB, wNot, wAnd, wOr, uAnd, uOr, aNil, aCons, uTup, oLst, fIx, oVar, iSeq, iR1, uCall, oCall, uLend, oLend, shaped_iff, sh_non, sh_int, sh_bool, sh_str, eqv_int, eqv_str, eqv_bool, ixN_30, ixN_31, ixN_32, ixN_20, ixN_21, atI_0, atI_1, atI_2, atI_3, atI_b1, atI_b2, atI_b3, List.length_map, Int.reduceEq, forall_const, implies_true, and_assoc, sz_0, sz_1, sz_2, sz_3, sz_4, sz_5, sz_6, sz_7, sz_8, Bool.not_eq_true', beq_eq_false_iff_ne, beq_iff_eq, ne_eq, Bool.and_eq_true, Bool.or_eq_true, decide_eq_false_iff_not, not_false_eq_true, not_true_eq_false, Bool.not_true, Bool.not_false, isS_n, isS_b, isS_i, isS_s, isS_l, isS_t, ca_0, ca_1, ca_2, ca_3, ca_4, ca_5, ca_6, Int.reduceToNat, Int.toNat_natCast, Int.reducePow, Int.reduceMul, Int.reduceLT, Int.reduceLE, Int.reduceNeg, zFor, List.replicate, List.length_cons, List.length_nil, List.nil_append, List.cons_append, List.append_nil, List.map_cons, List.map_nil, List.set_cons_zero, List.set_cons_succ, List.getElem?_cons_zero, List.getElem?_cons_succ, Option.some.injEq, S.d.injEq, S.o.injEq, Res.lst.injEq, Res.lstP.injEq, PyData.int.injEq, PyData.str.injEq, PyData.bool.injEq, PyData.list.injEq, PyData.tuple.injEq, List.cons.injEq, reduceCtorEq, exists_eq_left', exists_eq_left, exists_eq_right, exists_eq_right', true_and, and_true, false_and, and_false, exists_false, false_or, or_false, exists_and_left, exists_and_right, exists_eq', exists_eq, exists_const, Bool.false_eq_true, ite_true, ite_false, decide_eq_true_eq, Nat.sub_self, Nat.zero_add, Nat.add_sub_cancel, Nat.reduceSub, Nat.reduceAdd, ne_Clash_NoText, ne_Clash_Unfit, ne_NoText_Clash, ne_NoText_Unfit, ne_Unfit_Clash, ne_Unfit_NoText])
local macro_rules | `(tactic| walk_at "st") => `(tactic| simp (maxSteps := 1000000) only [↓TE_is_name, ↓reduceIte, xHand, uIsP, zPlAppY, zPlAppX, xTupL, aoLast, aoCons, uLenPl, oTl0, ↓asOTx_d, ↓asOTx_o, yNil, yCons, zSeqY, zIfY, zRaiseY, zExY, zRetXY, zForY, yCallA, ↓retE_k, zRaise2, uXf, zTryL, ↓atY_cons, ↓ret_wd, ↓ret_wo, ↓ret_wt, kC, ↓asTr_t, ↓asDs_l, ↓asDs_n, ↓asLs_l, ↓asOT_l, ↓asOT_t, ↓asOT_ll, pVar, pIx, uPlV, ↓asOw_o, ↓mvS_d, ↓mvS_f, ↓mvS_o, zRetX, oX, ↓frS_d, ↓frS_f, ↓plainA_n, ↓plainA_d, ↓plainA_f, ↓ret_xd, ↓ret_xf, ↓ret_xo, ↓retA_xd, ↓retA_xf, ↓retA_xo, ↓ret_vd, ↓ret_vo, OT.areD, OT.isD, OT.toDs, OT.toD, OT.upd, OT.wch, OT.ch, ↓retA_kO, ↓retA_kD, ↓retA_kDo, ↓retA_kS, ↓asBs_m, ↓asSs_m, fAll, fStr, ↓fIntS_i, ↓fIntS_b, ↓fIntS_s, oLcN, fSortST, zSeqX, zIfX, zRaise, ↓bare_d, ↓bare_o, ↓bare_l, ↓bare_no, ↓bare_f, ↓bare_tr, ↓bare_g, ↓bare_P, ↓bare_dic, oDic0, zSetK, uDin, ↓asDic_d, zDput, fMin2S, fMax2S, uLenSet, oSplit, S.f.injEq, eq_self, ↓fAddA_i, ↓fAddA_s, ↓fAddA_t, uChain, oRep, fSortS, ↓slW_d, ↓slW_o, ↓slW_P, ↓slW_s, ↓hasS_d, ↓hasS_o, ↓hasS_f, ↓hasS_s, uV, uN, u1, o1, o2, oN, ↓fIn_l, ↓fIn_s, fCat, ↓fList_l, ↓fList_t, ↓fTup_l, ↓fTup_t, ↓lstR_l, ↓lstR_P, zM1, fApp, zIns, ↓slF_d, ↓slF_o, ↓slF_s, uVf, pNo, pSo, ↓fSl_s, ↓fSl_t, uSl, ↓scal_n, ↓scal_b, ↓scal_i, ↓scal_s, ↓kS_d, ↓ret_S, rNil, rD, rS, uCallA, ↓toS_d, ↓toS_f, ↓toS_s, ↓slS_0, ↓slS_s, ↓retA_d, ↓retA_o, ↓retA_O, ↓backL_n, ↓backL_s, ↓backL_d, ↓backL_f, ↓lok_n, ↓lok_s, ↓lok_d, ↓lok_f, ↓lent_n, ↓lent_s, ↓lent_d, ↓lent_f, bYes, oLc, ↓clr_n, ↓clr_c, ↓clr2_n, ↓clr2_c, ↓rest_n, ↓rest_c, ↓keep1_d, ↓keep1_o, ↓keep1_f, ↓keep1_no, ↓keep1_s, ↓asLL_l, oLL0, zLLn, zLLa, uLLlen, List.mem_cons, List.not_mem_nil, Nat.reduceEqDiff, eqv_list, eqv_tuple, eqv_none, ↓asI_i, ↓asB_b, ↓asS_s, ↓asL_l, ↓asT_t, ↓slD_0, ↓slD_s, ↓slO_0, ↓slO_s, ↓asR_l, ↓fAdd_i, ↓fAdd_s, ↓ixbo_0, ↓ixbo_1, ↓ixbo_2, ↓ixbo_3, ↓ixD_l, ↓ixD_t, ↓ixD_s, ↓arg2_2, ↓fLen1_l, ↓fLen1_t, ↓fLen1_s, ↓asC_c, ↓asQ_l, ↓asQ_t, ↓asQ_s, ↓kD_d, ↓kD_o, ↓kO_o, ↓fz_l, ↓fz_P, ↓fz_ll, ↓ret_d, ↓ret_o, ↓ret_O, ↓retL_d, ↓retL_o, ↓retL_O, ↓atD_0, ↓atD_1, ↓atD_2, ↓atD_3, ↓atD_b1, ↓atD_b2, ↓atD_b3, ↓ixP_30, ↓ixP_31, ↓ixP_32, ↓if_true, ↓if_false, zNext, zSet, zSetO, zRet, zRetO, zRetP, zIf, zAsg, zPut, gN, gsNil, gsCons, gT, uVar, uC, uFz, u2, fI, fI0, fEq, uCB, wB, wNot, wAnd, wOr, uAnd, uOr, aNil, aCons, uTup, oLst, fIx, oVar, iSeq, iR1, uCall, oCall, uLend, oLend, shaped_iff, sh_non, sh_int, sh_bool, sh_str, eqv_int, eqv_str, eqv_bool, ixN_30, ixN_31, ixN_32, ixN_20, ixN_21, atI_0, atI_1, atI_2, atI_3, atI_b1, atI_b2, atI_b3, List.length_map, Int.reduceEq, forall_const, implies_true, and_assoc, sz_0, sz_1, sz_2, sz_3, sz_4, sz_5, sz_6, sz_7, sz_8, Bool.not_eq_true', beq_eq_false_iff_ne, beq_iff_eq, ne_eq, Bool.and_eq_true, Bool.or_eq_true, decide_eq_false_iff_not, not_false_eq_true, not_true_eq_false, Bool.not_true, Bool.not_false, isS_n, isS_b, isS_i, isS_s, isS_l, isS_t, ca_0, ca_1, ca_2, ca_3, ca_4, ca_5, ca_6, Int.reduceToNat, Int.toNat_natCast, Int.reducePow, Int.reduceMul, Int.reduceLT, Int.reduceLE, Int.reduceNeg, zFor, List.replicate, List.length_cons, List.length_nil, List.nil_append, List.cons_append, List.append_nil, List.map_cons, List.map_nil, List.set_cons_zero, List.set_cons_succ, List.getElem?_cons_zero, List.getElem?_cons_succ, Option.some.injEq, S.d.injEq, S.o.injEq, Res.lst.injEq, Res.lstP.injEq, PyData.int.injEq, PyData.str.injEq, PyData.bool.injEq, PyData.list.injEq, PyData.tuple.injEq, List.cons.injEq, reduceCtorEq, exists_eq_left', exists_eq_left, exists_eq_right, exists_eq_right', true_and, and_true, false_and, and_false, exists_false, false_or, or_false, exists_and_left, exists_and_right, exists_eq', exists_eq, exists_const, Bool.false_eq_true, ite_true, ite_false, decide_eq_true_eq, Nat.sub_self, Nat.zero_add, Nat.add_sub_cancel, Nat.reduceSub, Nat.reduceAdd, ne_Clash_NoText, ne_Clash_Unfit, ne_NoText_Clash, ne_NoText_Unfit, ne_Unfit_Clash, ne_Unfit_NoText])
theorem c_block_fits {P : Program} {w : World} {K : PySem.W.Frag} {mg : Str → Option Value} {base : Heap} (hb : Bi K mg) (D : Df K mg "block_fits" (topS 15) ["block"]) (C_is_name : Cal P w K mg base "is_name" 1 ["word"] T_is_name) : Cal P w K mg base "block_fits" 2 ["block"] T_block_fits := (by
  obtain ⟨f, fd, F, hm, hB⟩ := D
  refine ⟨f, fd, fn_d (k := 1) F sc_block_fits ?hT (fun cdv A outer s H E hr => (q_one (s_ret (d_and (d_gt (d_lenV hb.len (vv 0)) d_int) (d_one (d_all rfl hb.all (DE.dv (d_fz (o_lc [("mark", 1), ("thick", 2)] rfl sc_block_fits.nd (i_seq (dv 0)) (by show blkC ["block", "mark", "thick"] (defScope (topS 15)) _ _ = true; decide +kernel) (fun _ _ _ _ _ => (g_tup (n := 2) rfl (gs_cons (g_name 1 sc_block_fits.nd) (gs_cons (g_name 2 sc_block_fits.nd) gs_nil)))) (fun _ _ _ _ _ => b_yes) (fun _ _ _ _ _ => (d_and (d_callC C_is_name (hr.mono (by decide)) (a_cons (dv 1) a_nil)) (d_one (d_ge (dv 2) d_int)))) (by decide)))))))))), hm, F.kp, hB⟩
  case hT =>
    intro a Q h
    obtain ⟨k, rfl, hk, q⟩ := h
    refine ⟨rfl, ?_⟩
    have hsz := sizeLine_eq
    obtain ⟨k1, k2⟩ := hk
    rw [show blD k = .tuple (k.map lyD) from rfl]
    (try walk_at "wpt")
    unfold blFit at q
    by_cases h1 : 0 < (k.length : Int)
    · rw [if_pos h1]
      rw [decide_eq_true h1, Bool.true_and] at q
      refine comp_mm (g := lyD) (fun l => .bool (lyFit l)) (by omega) (fun l hl N hN => ?_) ?_
      · rw [show lyD l = .tuple [.str l.1, .int l.2] from rfl]
        have := k2 l hl
        (try walk_at "wpt")
        refine ⟨by omega, ?_⟩
        unfold lyFit at hN
        cases e : isNm l.1 with
        | true =>
          rw [e, Bool.true_and] at hN
          (try walk_at "wpt")
          exact hN _ rfl
        | false =>
          rw [e] at hN
          (try walk_at "wpt")
          exact hN _ rfl
      (try walk_at "wpt")
      rw [asBs_f, List.all_map]
      exact q _
    · rw [if_neg h1]
      rw [decide_eq_false h1] at q
      exact q _
  )
def T_bore_fits : TF := fun a Q => ∃ (b : Bo), a = [.d (boD b)] ∧ BoSz 1000 1000 b ∧ ret Q (.d (.bool (boFit b)))
theorem sc_bore_fits : FnScope ["bore", "name", "place", "top", "blocks", "block"] ["bore"] (defScope (topS 16)) := ⟨rfl, rfl, rfl, by decide +kernel, rfl, by decide +kernel, by decide +kernel⟩
local macro_rules | `(tactic| walk_at "wpt") => `(tactic| simp (maxSteps := 1000000) only [↓TE_is_name, ↓reduceIte, xHand, uIsP, zPlAppY, zPlAppX, xTupL, aoLast, aoCons, uLenPl, oTl0, ↓asOTx_d, ↓asOTx_o, yNil, yCons, zSeqY, zIfY, zRaiseY, zExY, zRetXY, zForY, yCallA, ↓retE_k, zRaise2, uXf, zTryL, ↓atY_cons, ↓ret_wd, ↓ret_wo, ↓ret_wt, kC, ↓asTr_t, ↓asDs_l, ↓asDs_n, ↓asLs_l, ↓asOT_l, ↓asOT_t, ↓asOT_ll, pVar, pIx, uPlV, ↓asOw_o, ↓mvS_d, ↓mvS_f, ↓mvS_o, zRetX, oX, ↓frS_d, ↓frS_f, ↓plainA_n, ↓plainA_d, ↓plainA_f, ↓ret_xd, ↓ret_xf, ↓ret_xo, ↓retA_xd, ↓retA_xf, ↓retA_xo, ↓ret_vd, ↓ret_vo, OT.areD, OT.isD, OT.toDs, OT.toD, OT.upd, OT.wch, OT.ch, ↓retA_kO, ↓retA_kD, ↓retA_kDo, ↓retA_kS, ↓asBs_m, ↓asSs_m, fAll, fStr, ↓fIntS_i, ↓fIntS_b, ↓fIntS_s, oLcN, fSortST, zSeqX, zIfX, zRaise, ↓bare_d, ↓bare_o, ↓bare_l, ↓bare_no, ↓bare_f, ↓bare_tr, ↓bare_g, ↓bare_P, ↓bare_dic, oDic0, zSetK, uDin, ↓asDic_d, zDput, fMin2S, fMax2S, uLenSet, oSplit, S.f.injEq, eq_self, ↓fAddA_i, ↓fAddA_s, ↓fAddA_t, uChain, oRep, fSortS, ↓slW_d, ↓slW_o, ↓slW_P, ↓slW_s, ↓hasS_d, ↓hasS_o, ↓hasS_f, ↓hasS_s, uV, uN, u1, o1, o2, oN, ↓fIn_l, ↓fIn_s, fCat, ↓fList_l, ↓fList_t, ↓fTup_l, ↓fTup_t, ↓lstR_l, ↓lstR_P, zM1, fApp, zIns, ↓slF_d, ↓slF_o, ↓slF_s, uVf, pNo, pSo, ↓fSl_s, ↓fSl_t, uSl, ↓scal_n, ↓scal_b, ↓scal_i, ↓scal_s, ↓kS_d, ↓ret_S, rNil, rD, rS, uCallA, ↓toS_d, ↓toS_f, ↓toS_s, ↓slS_0, ↓slS_s, ↓retA_d, ↓retA_o, ↓retA_O, ↓backL_n, ↓backL_s, ↓backL_d, ↓backL_f, ↓lok_n, ↓lok_s, ↓lok_d, ↓lok_f, ↓lent_n, ↓lent_s, ↓lent_d, ↓lent_f, bYes, oLc, ↓clr_n, ↓clr_c, ↓clr2_n, ↓clr2_c, ↓rest_n, ↓rest_c, ↓keep1_d, ↓keep1_o, ↓keep1_f, ↓keep1_no, ↓keep1_s, ↓asLL_l, oLL0, zLLn, zLLa, uLLlen, List.mem_cons, List.not_mem_nil, Nat.reduceEqDiff, eqv_list, eqv_tuple, eqv_none, ↓asI_i, ↓asB_b, ↓asS_s, ↓asL_l, ↓asT_t, ↓slD_0, ↓slD_s, ↓slO_0, ↓slO_s, ↓asR_l, ↓fAdd_i, ↓fAdd_s, ↓ixbo_0, ↓ixbo_1, ↓ixbo_2, ↓ixbo_3, ↓ixD_l, ↓ixD_t, ↓ixD_s, ↓arg2_2, ↓fLen1_l, ↓fLen1_t, ↓fLen1_s, ↓asC_c, ↓asQ_l, ↓asQ_t, ↓asQ_s, ↓kD_d, ↓kD_o, ↓kO_o, ↓fz_l, ↓fz_P, ↓fz_ll, ↓ret_d, ↓ret_o, ↓ret_O, ↓retL_d, ↓retL_o, ↓retL_O, ↓atD_0, ↓atD_1, ↓atD_2, ↓atD_3, ↓atD_b1, ↓atD_b2, ↓atD_b3, ↓ixP_30, ↓ixP_31, ↓ixP_32, ↓if_true, ↓if_false, zNext, zSeq, zSet, zSetO, zRet, zRetO, zRetP, zIf, zAsg, zPut, gN, gsNil, gsCons, gT, uVar, uC, uFz, u2, fI, fI0, fEq, uCB, wB, wNot, wAnd, wOr, uAnd, uOr, aNil, aCons, uTup, oLst, fIx, oVar, iSeq, iR1, uCall, oCall, uLend, oLend, shaped_iff, sh_non, sh_int, sh_bool, sh_str, eqv_int, eqv_str, eqv_bool, ixN_30, ixN_31, ixN_32, ixN_20, ixN_21, atI_0, atI_1, atI_2, atI_3, atI_b1, atI_b2, atI_b3, List.length_map, Int.reduceEq, forall_const, implies_true, and_assoc, sz_0, sz_1, sz_2, sz_3, sz_4, sz_5, sz_6, sz_7, sz_8, Bool.not_eq_true', beq_eq_false_iff_ne, beq_iff_eq, ne_eq, Bool.and_eq_true, Bool.or_eq_true, decide_eq_false_iff_not, not_false_eq_true, not_true_eq_false, Bool.not_true, Bool.not_false, isS_n, isS_b, isS_i, isS_s, isS_l, isS_t, ca_0, ca_1, ca_2, ca_3, ca_4, ca_5, ca_6, Int.reduceToNat, Int.toNat_natCast, Int.reducePow, Int.reduceMul, Int.reduceLT, Int.reduceLE, Int.reduceNeg, zFor, List.replicate, List.length_cons, List.length_nil, List.nil_append, List.cons_append, List.append_nil, List.map_cons, List.map_nil, List.set_cons_zero, List.set_cons_succ, List.getElem?_cons_zero, List.getElem?_cons_succ, Option.some.injEq, S.d.injEq, S.o.injEq, Res.lst.injEq, Res.lstP.injEq, PyData.int.injEq, PyData.str.injEq, PyData.bool.injEq, PyData.list.injEq, PyData.tuple.injEq, List.cons.injEq, reduceCtorEq, exists_eq_left', exists_eq_left, exists_eq_right, exists_eq_right', true_and, and_true, false_and, and_false, exists_false, false_or, or_false, exists_and_left, exists_and_right, exists_eq', exists_eq, exists_const, Bool.false_eq_true, ite_true, ite_false, decide_eq_true_eq, Nat.sub_self, Nat.zero_add, Nat.add_sub_cancel, Nat.reduceSub, Nat.reduceAdd, ne_Clash_NoText, ne_Clash_Unfit, ne_NoText_Clash, ne_NoText_Unfit, ne_Unfit_Clash, ne_Unfit_NoText])
local macro_rules | `(tactic| walk_at "st") => `(tactic| simp (maxSteps := 1000000) only [↓TE_is_name, ↓reduceIte, xHand, uIsP, zPlAppY, zPlAppX, xTupL, aoLast, aoCons, uLenPl, oTl0, ↓asOTx_d, ↓asOTx_o, yNil, yCons, zSeqY, zIfY, zRaiseY, zExY, zRetXY, zForY, yCallA, ↓retE_k, zRaise2, uXf, zTryL, ↓atY_cons, ↓ret_wd, ↓ret_wo, ↓ret_wt, kC, ↓asTr_t, ↓asDs_l, ↓asDs_n, ↓asLs_l, ↓asOT_l, ↓asOT_t, ↓asOT_ll, pVar, pIx, uPlV, ↓asOw_o, ↓mvS_d, ↓mvS_f, ↓mvS_o, zRetX, oX, ↓frS_d, ↓frS_f, ↓plainA_n, ↓plainA_d, ↓plainA_f, ↓ret_xd, ↓ret_xf, ↓ret_xo, ↓retA_xd, ↓retA_xf, ↓retA_xo, ↓ret_vd, ↓ret_vo, OT.areD, OT.isD, OT.toDs, OT.toD, OT.upd, OT.wch, OT.ch, ↓retA_kO, ↓retA_kD, ↓retA_kDo, ↓retA_kS, ↓asBs_m, ↓asSs_m, fAll, fStr, ↓fIntS_i, ↓fIntS_b, ↓fIntS_s, oLcN, fSortST, zSeqX, zIfX, zRaise, ↓bare_d, ↓bare_o, ↓bare_l, ↓bare_no, ↓bare_f, ↓bare_tr, ↓bare_g, ↓bare_P, ↓bare_dic, oDic0, zSetK, uDin, ↓asDic_d, zDput, fMin2S, fMax2S, uLenSet, oSplit, S.f.injEq, eq_self, ↓fAddA_i, ↓fAddA_s, ↓fAddA_t, uChain, oRep, fSortS, ↓slW_d, ↓slW_o, ↓slW_P, ↓slW_s, ↓hasS_d, ↓hasS_o, ↓hasS_f, ↓hasS_s, uV, uN, u1, o1, o2, oN, ↓fIn_l, ↓fIn_s, fCat, ↓fList_l, ↓fList_t, ↓fTup_l, ↓fTup_t, ↓lstR_l, ↓lstR_P, zM1, fApp, zIns, ↓slF_d, ↓slF_o, ↓slF_s, uVf, pNo, pSo, ↓fSl_s, ↓fSl_t, uSl, ↓scal_n, ↓scal_b, ↓scal_i, ↓scal_s, ↓kS_d, ↓ret_S, rNil, rD, rS, uCallA, ↓toS_d, ↓toS_f, ↓toS_s, ↓slS_0, ↓slS_s, ↓retA_d, ↓retA_o, ↓retA_O, ↓backL_n, ↓backL_s, ↓backL_d, ↓backL_f, ↓lok_n, ↓lok_s, ↓lok_d, ↓lok_f, ↓lent_n, ↓lent_s, ↓lent_d, ↓lent_f, bYes, oLc, ↓clr_n, ↓clr_c, ↓clr2_n, ↓clr2_c, ↓rest_n, ↓rest_c, ↓keep1_d, ↓keep1_o, ↓keep1_f, ↓keep1_no, ↓keep1_s, ↓asLL_l, oLL0, zLLn, zLLa, uLLlen, List.mem_cons, List.not_mem_nil, Nat.reduceEqDiff, eqv_list, eqv_tuple, eqv_none, ↓asI_i, ↓asB_b, ↓asS_s, ↓asL_l, ↓asT_t, ↓slD_0, ↓slD_s, ↓slO_0, ↓slO_s, ↓asR_l, ↓fAdd_i, ↓fAdd_s, ↓ixbo_0, ↓ixbo_1, ↓ixbo_2, ↓ixbo_3, ↓ixD_l, ↓ixD_t, ↓ixD_s, ↓arg2_2, ↓fLen1_l, ↓fLen1_t, ↓fLen1_s, ↓asC_c, ↓asQ_l, ↓asQ_t, ↓asQ_s, ↓kD_d, ↓kD_o, ↓kO_o, ↓fz_l, ↓fz_P, ↓fz_ll, ↓ret_d, ↓ret_o, ↓ret_O, ↓retL_d, ↓retL_o, ↓retL_O, ↓atD_0, ↓atD_1, ↓atD_2, ↓atD_3, ↓atD_b1, ↓atD_b2, ↓atD_b3, ↓ixP_30, ↓ixP_31, ↓ixP_32, ↓if_true, ↓if_false, zNext, zSet, zSetO, zRet, zRetO, zRetP, zIf, zAsg, zPut, gN, gsNil, gsCons, gT, uVar, uC, uFz, u2, fI, fI0, fEq, uCB, wB, wNot, wAnd, wOr, uAnd, uOr, aNil, aCons, uTup, oLst, fIx, oVar, iSeq, iR1, uCall, oCall, uLend, oLend, shaped_iff, sh_non, sh_int, sh_bool, sh_str, eqv_int, eqv_str, eqv_bool, ixN_30, ixN_31, ixN_32, ixN_20, ixN_21, atI_0, atI_1, atI_2, atI_3, atI_b1, atI_b2, atI_b3, List.length_map, Int.reduceEq, forall_const, implies_true, and_assoc, sz_0, sz_1, sz_2, sz_3, sz_4, sz_5, sz_6, sz_7, sz_8, Bool.not_eq_true', beq_eq_false_iff_ne, beq_iff_eq, ne_eq, Bool.and_eq_true, Bool.or_eq_true, decide_eq_false_iff_not, not_false_eq_true, not_true_eq_false, Bool.not_true, Bool.not_false, isS_n, isS_b, isS_i, isS_s, isS_l, isS_t, ca_0, ca_1, ca_2, ca_3, ca_4, ca_5, ca_6, Int.reduceToNat, Int.toNat_natCast, Int.reducePow, Int.reduceMul, Int.reduceLT, Int.reduceLE, Int.reduceNeg, zFor, List.replicate, List.length_cons, List.length_nil, List.nil_append, List.cons_append, List.append_nil, List.map_cons, List.map_nil, List.set_cons_zero, List.set_cons_succ, List.getElem?_cons_zero, List.getElem?_cons_succ, Option.some.injEq, S.d.injEq, S.o.injEq, Res.lst.injEq, Res.lstP.injEq, PyData.int.injEq, PyData.str.injEq, PyData.bool.injEq, PyData.list.injEq, PyData.tuple.injEq, List.cons.injEq, reduceCtorEq, exists_eq_left', exists_eq_left, exists_eq_right, exists_eq_right', true_and, and_true, false_and, and_false, exists_false, false_or, or_false, exists_and_left, exists_and_right, exists_eq', exists_eq, exists_const, Bool.false_eq_true, ite_true, ite_false, decide_eq_true_eq, Nat.sub_self, Nat.zero_add, Nat.add_sub_cancel, Nat.reduceSub, Nat.reduceAdd, ne_Clash_NoText, ne_Clash_Unfit, ne_NoText_Clash, ne_NoText_Unfit, ne_Unfit_Clash, ne_Unfit_NoText])
theorem c_bore_fits {P : Program} {w : World} {K : PySem.W.Frag} {mg : Str → Option Value} {base : Heap} (hb : Bi K mg) (D : Df K mg "bore_fits" (topS 16) ["bore"]) (C_block_fits : Cal P w K mg base "block_fits" 2 ["block"] T_block_fits) (C_is_name : Cal P w K mg base "is_name" 1 ["word"] T_is_name) : Cal P w K mg base "bore_fits" 3 ["bore"] T_bore_fits := (by
  obtain ⟨f, fd, F, hm, hB⟩ := D
  refine ⟨f, fd, fn_d (k := 2) F sc_bore_fits ?hT (fun cdv A outer s H E hr => (q_cons (s_asg (dv 0) (g_tup (n := 4) rfl (gs_cons (g_name 1 sc_bore_fits.nd) (gs_cons (g_name 2 sc_bore_fits.nd) (gs_cons (g_name 3 sc_bore_fits.nd) (gs_cons (g_name 4 sc_bore_fits.nd) gs_nil))))))
 (q_cons (s_if (DW.dt (w_or (t_not (tv (d_callC C_is_name (hr.mono (by decide)) (a_cons (dv 1) a_nil)))) (w_or (t_lt (dv 2) d_int) (w_or (t_lt (dv 3) d_int) (w_or1 (t_eq hr.units (d_lenV hb.len (vv 4)) d_int))))))
 (q_one (s_ret d_bl)) q_nil)
 (q_one (s_ret (d_all rfl hb.all (DE.dv (d_fz (o_lc [("block", 5)] rfl sc_bore_fits.nd (i_seq (dv 4)) (by show blkC ["bore", "name", "place", "top", "blocks", "block"] (defScope (topS 16)) _ _ = true; decide +kernel) (fun _ _ _ _ _ => (g_name 5 sc_bore_fits.nd)) (fun _ _ _ _ _ => b_yes) (fun _ _ _ _ _ => (d_callC C_block_fits (hr.mono (by decide)) (a_cons (dv 5) a_nil))) (by decide)))))))))), hm, F.kp, hB⟩
  case hT =>
    intro a Q h
    obtain ⟨b, rfl, hb, q⟩ := h
    refine ⟨rfl, ?_⟩
    have hsz := sizeLine_eq
    obtain ⟨b1, b2, b3⟩ := hb
    unfold boD
    (try walk_at "wpt")
    refine ⟨by omega, ?_⟩
    unfold boFit at q
    by_cases h1 : isNm b.nm = false
    · rw [if_pos h1]
      rw [h1] at q
      exact q _
    rw [if_neg h1]
    rw [show isNm b.nm = true by simpa using h1, Bool.true_and] at q
    by_cases h2 : b.at_ < 0
    · rw [if_pos h2]
      rw [decide_eq_false (by omega)] at q
      exact q _
    rw [if_neg h2]
    rw [decide_eq_true (show 0 ≤ b.at_ by omega), Bool.true_and] at q
    by_cases h3 : b.top < 0
    · rw [if_pos h3]
      rw [decide_eq_false (show ¬ 0 ≤ b.top by omega)] at q
      exact q _
    rw [if_neg h3]
    rw [decide_eq_true (show 0 ≤ b.top by omega), Bool.true_and] at q
    by_cases h4 : (b.bl.length : Int) = 0
    · rw [if_pos h4]
      rw [decide_eq_false (show ¬ 0 < (b.bl.length : Int) by omega)] at q
      exact q _
    rw [if_neg h4]
    rw [decide_eq_true (show 0 < (b.bl.length : Int) by omega), Bool.true_and] at q
    refine comp_mm (g := blD) (fun k => .bool (blFit k)) (by omega) (fun k hk N hN => ?_) ?_
    · (try walk_at "wpt")
      refine ⟨k, rfl, b3 k hk, ?_⟩
      (try walk_at "wpt")
      exact hN _ rfl
    (try walk_at "wpt")
    rw [asBs_f, List.all_map]
    exact q _
  )
def minS (a b : Str) : Str := if b.cps.toList < a.cps.toList then b else a
def maxS (a b : Str) : Str := if a.cps.toList < b.cps.toList then b else a
/-- of the same two marks -/
def sameLk (l s : Lk3) : Bool := decide (minS s.1 s.2.1 = minS l.1 l.2.1 ∧ maxS s.1 s.2.1 = maxS l.1 l.2.1)
def lkOk (seen : List Lk3) (l : Lk3) : Bool := !(seen.any (sameLk l)) && (isNm l.1 && (isNm l.2.1 && (decide (1 ≤ l.2.2) && decide (l.2.2 ≤ 9))))
def lkFrom : List Lk3 → List Lk3 → Bool
  | _, [] => true
  | seen, l :: r => lkOk seen l && lkFrom (seen ++ [l]) r
theorem lkFrom_cons {seen r : List Lk3} {l : Lk3} : lkFrom seen (l :: r) = (lkOk seen l && lkFrom (seen ++ [l]) r) := rfl
def lkKey (l : Lk3) : PyData := .tuple [.str (minS l.1 l.2.1), .str (maxS l.1 l.2.1)]
noncomputable def lkDic (ls : List Lk3) : List (PyData × PyData) := ls.map fun l => (lkKey l, .bool true)
theorem lkKey_iff {l s : Lk3} : lkKey s = lkKey l ↔ sameLk l s = true := (by
  unfold lkKey sameLk
  rw [decide_eq_true_iff]
  constructor
  · intro h
    injection h with h
    injection h with h1 h2
    injection h2 with h2 _
    injection h1 with h1
    injection h2 with h2
    exact ⟨h1, h2⟩
  · rintro ⟨h1, h2⟩
    rw [h1, h2]
  )
theorem lkDic_at {l : Lk3} : ∀ {ls : List Lk3}, (dicAt (lkDic ls) (lkKey l)).isSome = ls.any (sameLk l)
  | [] => rfl
  | s :: ls => by
    have ih := lkDic_at (l := l) (ls := ls)
    unfold dicAt lkDic at ih ⊢
    rw [List.map_cons, List.find?_cons, List.any_cons]
    by_cases h : lkKey s = lkKey l
    · rw [lkKey_iff.mp h]
      simp [h]
    · have h2 : sameLk l s = false := by
        cases e : sameLk l s with
        | false => rfl
        | true => exact absurd (lkKey_iff.mpr e) h
      rw [h2, Bool.false_or, ← ih]
      simp [h]
theorem lkDic_put {l : Lk3} {ls : List Lk3} (h : ls.any (sameLk l) = false) : dicPut (lkDic ls) (lkKey l) (.bool true) = lkDic (ls ++ [l]) := (by
  have e : ((lkDic ls).any fun kv => decide (kv.1 = lkKey l)) = false := by
    unfold lkDic
    rw [List.any_map, ← h]
    congr 1
    funext s
    show decide (lkKey s = lkKey l) = sameLk l s
    by_cases z : lkKey s = lkKey l
    · rw [lkKey_iff.mp z, decide_eq_true z]
    · rw [decide_eq_false z]
      cases e : sameLk l s with
      | false => rfl
      | true => exact absurd (lkKey_iff.mpr e) z
  unfold dicPut
  rw [e, if_neg Bool.false_ne_true]
  unfold lkDic
  rw [List.map_append]; rfl
  )
def T_likes_fit : TF := fun a Q => ∃ (ls : List Lk3), a = [.d (.tuple (ls.map lkD))] ∧ ls.length ≤ 1000 ∧ (∀ l ∈ ls, l.1.length ≤ 1000 ∧ l.2.1.length ≤ 1000) ∧ ret Q (.d (.bool (lkFrom [] ls)))
theorem sc_likes_fit : FnScope ["likes", "seen", "mark", "other", "points", "both"] ["likes"] (defScope (topS 17)) := ⟨rfl, rfl, rfl, by decide +kernel, rfl, by decide +kernel, by decide +kernel⟩
local macro_rules | `(tactic| walk_at "wpt") => `(tactic| simp (maxSteps := 1000000) only [↓TE_is_name, ↓reduceIte, xHand, uIsP, zPlAppY, zPlAppX, xTupL, aoLast, aoCons, uLenPl, oTl0, ↓asOTx_d, ↓asOTx_o, yNil, yCons, zSeqY, zIfY, zRaiseY, zExY, zRetXY, zForY, yCallA, ↓retE_k, zRaise2, uXf, zTryL, ↓atY_cons, ↓ret_wd, ↓ret_wo, ↓ret_wt, kC, ↓asTr_t, ↓asDs_l, ↓asDs_n, ↓asLs_l, ↓asOT_l, ↓asOT_t, ↓asOT_ll, pVar, pIx, uPlV, ↓asOw_o, ↓mvS_d, ↓mvS_f, ↓mvS_o, zRetX, oX, ↓frS_d, ↓frS_f, ↓plainA_n, ↓plainA_d, ↓plainA_f, ↓ret_xd, ↓ret_xf, ↓ret_xo, ↓retA_xd, ↓retA_xf, ↓retA_xo, ↓ret_vd, ↓ret_vo, OT.areD, OT.isD, OT.toDs, OT.toD, OT.upd, OT.wch, OT.ch, ↓retA_kO, ↓retA_kD, ↓retA_kDo, ↓retA_kS, ↓asBs_m, ↓asSs_m, fAll, fStr, ↓fIntS_i, ↓fIntS_b, ↓fIntS_s, oLcN, fSortST, zSeqX, zIfX, zRaise, ↓bare_d, ↓bare_o, ↓bare_l, ↓bare_no, ↓bare_f, ↓bare_tr, ↓bare_g, ↓bare_P, ↓bare_dic, oDic0, zSetK, uDin, ↓asDic_d, zDput, fMin2S, fMax2S, uLenSet, oSplit, S.f.injEq, eq_self, ↓fAddA_i, ↓fAddA_s, ↓fAddA_t, uChain, oRep, fSortS, ↓slW_d, ↓slW_o, ↓slW_P, ↓slW_s, ↓hasS_d, ↓hasS_o, ↓hasS_f, ↓hasS_s, uV, uN, u1, o1, o2, oN, ↓fIn_l, ↓fIn_s, fCat, ↓fList_l, ↓fList_t, ↓fTup_l, ↓fTup_t, ↓lstR_l, ↓lstR_P, zM1, fApp, zIns, ↓slF_d, ↓slF_o, ↓slF_s, uVf, pNo, pSo, ↓fSl_s, ↓fSl_t, uSl, ↓scal_n, ↓scal_b, ↓scal_i, ↓scal_s, ↓kS_d, ↓ret_S, rNil, rD, rS, uCallA, ↓toS_d, ↓toS_f, ↓toS_s, ↓slS_0, ↓slS_s, ↓retA_d, ↓retA_o, ↓retA_O, ↓backL_n, ↓backL_s, ↓backL_d, ↓backL_f, ↓lok_n, ↓lok_s, ↓lok_d, ↓lok_f, ↓lent_n, ↓lent_s, ↓lent_d, ↓lent_f, bYes, oLc, ↓clr_n, ↓clr_c, ↓clr2_n, ↓clr2_c, ↓rest_n, ↓rest_c, ↓keep1_d, ↓keep1_o, ↓keep1_f, ↓keep1_no, ↓keep1_s, ↓asLL_l, oLL0, zLLn, zLLa, uLLlen, List.mem_cons, List.not_mem_nil, Nat.reduceEqDiff, eqv_list, eqv_tuple, eqv_none, ↓asI_i, ↓asB_b, ↓asS_s, ↓asL_l, ↓asT_t, ↓slD_0, ↓slD_s, ↓slO_0, ↓slO_s, ↓asR_l, ↓fAdd_i, ↓fAdd_s, ↓ixbo_0, ↓ixbo_1, ↓ixbo_2, ↓ixbo_3, ↓ixD_l, ↓ixD_t, ↓ixD_s, ↓arg2_2, ↓fLen1_l, ↓fLen1_t, ↓fLen1_s, ↓asC_c, ↓asQ_l, ↓asQ_t, ↓asQ_s, ↓kD_d, ↓kD_o, ↓kO_o, ↓fz_l, ↓fz_P, ↓fz_ll, ↓ret_d, ↓ret_o, ↓ret_O, ↓retL_d, ↓retL_o, ↓retL_O, ↓atD_0, ↓atD_1, ↓atD_2, ↓atD_3, ↓atD_b1, ↓atD_b2, ↓atD_b3, ↓ixP_30, ↓ixP_31, ↓ixP_32, ↓if_true, ↓if_false, zNext, zSeq, zSet, zSetO, zRet, zRetO, zRetP, zIf, zAsg, zPut, gN, gsNil, gsCons, gT, uVar, uC, uFz, u2, fI, fI0, fEq, uCB, wB, wNot, wAnd, wOr, uAnd, uOr, aNil, aCons, uTup, oLst, fIx, oVar, iSeq, iR1, uCall, oCall, uLend, oLend, shaped_iff, sh_non, sh_int, sh_bool, sh_str, eqv_int, eqv_str, eqv_bool, ixN_30, ixN_31, ixN_32, ixN_20, ixN_21, atI_0, atI_1, atI_2, atI_3, atI_b1, atI_b2, atI_b3, List.length_map, Int.reduceEq, forall_const, implies_true, and_assoc, sz_0, sz_1, sz_2, sz_3, sz_4, sz_5, sz_6, sz_7, sz_8, Bool.not_eq_true', beq_eq_false_iff_ne, beq_iff_eq, ne_eq, Bool.and_eq_true, Bool.or_eq_true, decide_eq_false_iff_not, not_false_eq_true, not_true_eq_false, Bool.not_true, Bool.not_false, isS_n, isS_b, isS_i, isS_s, isS_l, isS_t, ca_0, ca_1, ca_2, ca_3, ca_4, ca_5, ca_6, Int.reduceToNat, Int.toNat_natCast, Int.reducePow, Int.reduceMul, Int.reduceLT, Int.reduceLE, Int.reduceNeg, zFor, List.replicate, List.length_cons, List.length_nil, List.nil_append, List.cons_append, List.append_nil, List.map_cons, List.map_nil, List.set_cons_zero, List.set_cons_succ, List.getElem?_cons_zero, List.getElem?_cons_succ, Option.some.injEq, S.d.injEq, S.o.injEq, Res.lst.injEq, Res.lstP.injEq, PyData.int.injEq, PyData.str.injEq, PyData.bool.injEq, PyData.list.injEq, PyData.tuple.injEq, List.cons.injEq, reduceCtorEq, exists_eq_left', exists_eq_left, exists_eq_right, exists_eq_right', true_and, and_true, false_and, and_false, exists_false, false_or, or_false, exists_and_left, exists_and_right, exists_eq', exists_eq, exists_const, Bool.false_eq_true, ite_true, ite_false, decide_eq_true_eq, Nat.sub_self, Nat.zero_add, Nat.add_sub_cancel, Nat.reduceSub, Nat.reduceAdd, ne_Clash_NoText, ne_Clash_Unfit, ne_NoText_Clash, ne_NoText_Unfit, ne_Unfit_Clash, ne_Unfit_NoText])
local macro_rules | `(tactic| walk_at "st") => `(tactic| simp (maxSteps := 1000000) only [↓TE_is_name, ↓reduceIte, xHand, uIsP, zPlAppY, zPlAppX, xTupL, aoLast, aoCons, uLenPl, oTl0, ↓asOTx_d, ↓asOTx_o, yNil, yCons, zSeqY, zIfY, zRaiseY, zExY, zRetXY, zForY, yCallA, ↓retE_k, zRaise2, uXf, zTryL, ↓atY_cons, ↓ret_wd, ↓ret_wo, ↓ret_wt, kC, ↓asTr_t, ↓asDs_l, ↓asDs_n, ↓asLs_l, ↓asOT_l, ↓asOT_t, ↓asOT_ll, pVar, pIx, uPlV, ↓asOw_o, ↓mvS_d, ↓mvS_f, ↓mvS_o, zRetX, oX, ↓frS_d, ↓frS_f, ↓plainA_n, ↓plainA_d, ↓plainA_f, ↓ret_xd, ↓ret_xf, ↓ret_xo, ↓retA_xd, ↓retA_xf, ↓retA_xo, ↓ret_vd, ↓ret_vo, OT.areD, OT.isD, OT.toDs, OT.toD, OT.upd, OT.wch, OT.ch, ↓retA_kO, ↓retA_kD, ↓retA_kDo, ↓retA_kS, ↓asBs_m, ↓asSs_m, fAll, fStr, ↓fIntS_i, ↓fIntS_b, ↓fIntS_s, oLcN, fSortST, zSeqX, zIfX, zRaise, ↓bare_d, ↓bare_o, ↓bare_l, ↓bare_no, ↓bare_f, ↓bare_tr, ↓bare_g, ↓bare_P, ↓bare_dic, oDic0, zSetK, uDin, ↓asDic_d, zDput, fMin2S, fMax2S, uLenSet, oSplit, S.f.injEq, eq_self, ↓fAddA_i, ↓fAddA_s, ↓fAddA_t, uChain, oRep, fSortS, ↓slW_d, ↓slW_o, ↓slW_P, ↓slW_s, ↓hasS_d, ↓hasS_o, ↓hasS_f, ↓hasS_s, uV, uN, u1, o1, o2, oN, ↓fIn_l, ↓fIn_s, fCat, ↓fList_l, ↓fList_t, ↓fTup_l, ↓fTup_t, ↓lstR_l, ↓lstR_P, zM1, fApp, zIns, ↓slF_d, ↓slF_o, ↓slF_s, uVf, pNo, pSo, ↓fSl_s, ↓fSl_t, uSl, ↓scal_n, ↓scal_b, ↓scal_i, ↓scal_s, ↓kS_d, ↓ret_S, rNil, rD, rS, uCallA, ↓toS_d, ↓toS_f, ↓toS_s, ↓slS_0, ↓slS_s, ↓retA_d, ↓retA_o, ↓retA_O, ↓backL_n, ↓backL_s, ↓backL_d, ↓backL_f, ↓lok_n, ↓lok_s, ↓lok_d, ↓lok_f, ↓lent_n, ↓lent_s, ↓lent_d, ↓lent_f, bYes, oLc, ↓clr_n, ↓clr_c, ↓clr2_n, ↓clr2_c, ↓rest_n, ↓rest_c, ↓keep1_d, ↓keep1_o, ↓keep1_f, ↓keep1_no, ↓keep1_s, ↓asLL_l, oLL0, zLLn, zLLa, uLLlen, List.mem_cons, List.not_mem_nil, Nat.reduceEqDiff, eqv_list, eqv_tuple, eqv_none, ↓asI_i, ↓asB_b, ↓asS_s, ↓asL_l, ↓asT_t, ↓slD_0, ↓slD_s, ↓slO_0, ↓slO_s, ↓asR_l, ↓fAdd_i, ↓fAdd_s, ↓ixbo_0, ↓ixbo_1, ↓ixbo_2, ↓ixbo_3, ↓ixD_l, ↓ixD_t, ↓ixD_s, ↓arg2_2, ↓fLen1_l, ↓fLen1_t, ↓fLen1_s, ↓asC_c, ↓asQ_l, ↓asQ_t, ↓asQ_s, ↓kD_d, ↓kD_o, ↓kO_o, ↓fz_l, ↓fz_P, ↓fz_ll, ↓ret_d, ↓ret_o, ↓ret_O, ↓retL_d, ↓retL_o, ↓retL_O, ↓atD_0, ↓atD_1, ↓atD_2, ↓atD_3, ↓atD_b1, ↓atD_b2, ↓atD_b3, ↓ixP_30, ↓ixP_31, ↓ixP_32, ↓if_true, ↓if_false, zNext, zSet, zSetO, zRet, zRetO, zRetP, zIf, zAsg, zPut, gN, gsNil, gsCons, gT, uVar, uC, uFz, u2, fI, fI0, fEq, uCB, wB, wNot, wAnd, wOr, uAnd, uOr, aNil, aCons, uTup, oLst, fIx, oVar, iSeq, iR1, uCall, oCall, uLend, oLend, shaped_iff, sh_non, sh_int, sh_bool, sh_str, eqv_int, eqv_str, eqv_bool, ixN_30, ixN_31, ixN_32, ixN_20, ixN_21, atI_0, atI_1, atI_2, atI_3, atI_b1, atI_b2, atI_b3, List.length_map, Int.reduceEq, forall_const, implies_true, and_assoc, sz_0, sz_1, sz_2, sz_3, sz_4, sz_5, sz_6, sz_7, sz_8, Bool.not_eq_true', beq_eq_false_iff_ne, beq_iff_eq, ne_eq, Bool.and_eq_true, Bool.or_eq_true, decide_eq_false_iff_not, not_false_eq_true, not_true_eq_false, Bool.not_true, Bool.not_false, isS_n, isS_b, isS_i, isS_s, isS_l, isS_t, ca_0, ca_1, ca_2, ca_3, ca_4, ca_5, ca_6, Int.reduceToNat, Int.toNat_natCast, Int.reducePow, Int.reduceMul, Int.reduceLT, Int.reduceLE, Int.reduceNeg, zFor, List.replicate, List.length_cons, List.length_nil, List.nil_append, List.cons_append, List.append_nil, List.map_cons, List.map_nil, List.set_cons_zero, List.set_cons_succ, List.getElem?_cons_zero, List.getElem?_cons_succ, Option.some.injEq, S.d.injEq, S.o.injEq, Res.lst.injEq, Res.lstP.injEq, PyData.int.injEq, PyData.str.injEq, PyData.bool.injEq, PyData.list.injEq, PyData.tuple.injEq, List.cons.injEq, reduceCtorEq, exists_eq_left', exists_eq_left, exists_eq_right, exists_eq_right', true_and, and_true, false_and, and_false, exists_false, false_or, or_false, exists_and_left, exists_and_right, exists_eq', exists_eq, exists_const, Bool.false_eq_true, ite_true, ite_false, decide_eq_true_eq, Nat.sub_self, Nat.zero_add, Nat.add_sub_cancel, Nat.reduceSub, Nat.reduceAdd, ne_Clash_NoText, ne_Clash_Unfit, ne_NoText_Clash, ne_NoText_Unfit, ne_Unfit_Clash, ne_Unfit_NoText])
theorem c_likes_fit {P : Program} {w : World} {K : PySem.W.Frag} {mg : Str → Option Value} {base : Heap} (hb : Bi K mg) (D : Df K mg "likes_fit" (topS 17) ["likes"]) (C_is_name : Cal P w K mg base "is_name" 1 ["word"] T_is_name) : Cal P w K mg base "likes_fit" 2 ["likes"] T_likes_fit := (by
  obtain ⟨f, fd, F, hm, hB⟩ := D
  refine ⟨f, fd, fn_d (k := 1) F sc_likes_fit ?hT (fun cdv A outer s H E hr => (q_cons (s_setO (j := 1) sc_likes_fit.nd o_dic0)
 (q_cons (s_for PassesOwn.never rfl (i_seq (dv 0)) (g_tup (n := 3) rfl (gs_cons (g_name 2 sc_likes_fit.nd) (gs_cons (g_name 3 sc_likes_fit.nd) (gs_cons (g_name 4 sc_likes_fit.nd) gs_nil))))
 (q_cons (s_setK (i := 5) sc_likes_fit.nd (a_cons (d_min2S rfl hb.min (a_cons (dv 2) (a_cons (dv 3) a_nil))) (a_cons (d_max2S rfl hb.max (a_cons (dv 2) (a_cons (dv 3) a_nil))) a_nil)))
 (q_cons (s_if (DW.dt (w_or (t_din 5 1 (hu1 hr)) (w_or (t_not (tv (d_callC C_is_name (hr.mono (by decide)) (a_cons (dv 2) a_nil)))) (w_or (t_not (tv (d_callC C_is_name (hr.mono (by decide)) (a_cons (dv 3) a_nil)))) (w_or1 (t_not (t_chain op_le op_le op_b0 op_b0 d_int (dv 4) d_int)))))))
 (q_one (s_ret d_bl)) q_nil)
 (q_one (s_dput 5 1 (hu1 hr) d_bl)))))
 (q_one (s_ret d_bl))))), hm, F.kp, hB⟩
  case hT =>
    intro a Q h
    obtain ⟨ls, rfl, hl, hw, q⟩ := h
    refine ⟨rfl, ?_⟩
    have hsz := sizeLine_eq
    obtain ⟨rs, hrs⟩ : ∃ b, b = lkFrom [] ls := ⟨_, rfl⟩
    rw [← hrs] at q
    (refine seq_gen fun Nx hS => ?_; walk_at "st")
    (refine hS _ ?_; try clear hS; (repeat (refine seq_gen fun Nx hS => ?_; walk_at "st"; refine hS _ ?_; clear hS)))
    (refine seq_gen fun Nx hS => ?_; walk_at "st")
    refine loop_by (fun i c => ∃ (x2 x3 x4 x5 : S), c = [.d (.tuple (ls.map lkD)), .o none (.dic (lkDic (ls.take i))), x2, x3, x4, x5] ∧ lkFrom (ls.take i) (ls.drop i) = rs) ⟨_, _, _, _, rfl, hrs.symm⟩ ?_ ?_
    · rintro i y c N hy ⟨x2, x3, x4, x5, rfl, hp⟩ hN
      obtain ⟨l, hli, rfl⟩ := map_get hy
      have hi := get_lt hli
      obtain ⟨w1, w2⟩ := hw l (List.mem_of_getElem? hli)
      rw [drop_get hli, lkFrom_cons] at hp
      rw [show lkD l = .tuple [.str l.1, .str l.2.1, .int l.2.2] from rfl]
      have bad : lkOk (ls.take i) l = false → ret Q (.d (.bool false)) := fun e => by
        rw [e, Bool.false_and] at hp
        rw [hp]
        exact q
      have ats : ∀ d ∈ [PyData.str (minS l.1 l.2.1), .str (maxS l.1 l.2.1)], isAt d := fun d hd => by
        simp at hd
        rcases hd with rfl | rfl <;> trivial
      simp only [↓asT_t, ↓asC_c, gT, gsCons, gsNil, gN, List.length_cons, List.length_nil, List.set_cons_zero, List.set_cons_succ, Nat.zero_add, Nat.reduceAdd, true_and]
      (try walk_at "wpt")
      refine ⟨fun d hd => by rcases hd with rfl | rfl <;> trivial, [PyData.str (minS l.1 l.2.1), .str (maxS l.1 l.2.1)], rfl, ats, ?_⟩
      rw [show PyData.tuple [PyData.str (minS l.1 l.2.1), .str (maxS l.1 l.2.1)] = lkKey l from rfl, lkDic_at]
      by_cases h1 : (ls.take i).any (sameLk l) = true
      · rw [if_pos h1]
        exact bad (by unfold lkOk; rw [h1]; rfl) _
      rw [if_neg h1]
      have h1 : (ls.take i).any (sameLk l) = false := by simpa using h1
      refine ⟨by omega, ?_⟩
      by_cases h2 : isNm l.1 = false
      · rw [if_pos h2]
        exact bad (by unfold lkOk; rw [h2]; simp) _
      rw [if_neg h2]
      refine ⟨by omega, ?_⟩
      by_cases h3 : isNm l.2.1 = false
      · rw [if_pos h3]
        exact bad (by unfold lkOk; rw [h3]; simp) _
      rw [if_neg h3]
      have h2 : isNm l.1 = true := by simpa using h2
      have h3 : isNm l.2.1 = true := by simpa using h3
      by_cases h4 : 1 ≤ l.2.2
      · rw [if_pos h4]
        by_cases h5 : l.2.2 ≤ 9
        · rw [if_neg (by simpa using h5)]
          have ok : lkOk (ls.take i) l = true := by unfold lkOk; rw [h1, h2, h3, decide_eq_true h4, decide_eq_true h5]; rfl
          rw [ok, Bool.true_and] at hp
          have et : ls.take (i + 1) = ls.take i ++ [l] := by rw [List.take_add_one, hli]; rfl
          refine ⟨[PyData.str (minS l.1 l.2.1), .str (maxS l.1 l.2.1)], rfl, ats, ?_, ?_⟩
          · unfold lkDic
            rw [List.length_map, List.length_take]
            omega
          rw [show PyData.tuple [PyData.str (minS l.1 l.2.1), .str (maxS l.1 l.2.1)] = lkKey l from rfl, lkDic_put h1, ← et]
          exact hN _ ⟨_, _, _, _, rfl, by rw [et]; exact hp⟩
        · rw [if_pos (by simpa using h5)]
          exact bad (by unfold lkOk; rw [decide_eq_false h5]; simp) _
      · rw [if_neg h4]
        exact bad (by unfold lkOk; rw [decide_eq_false h4]; simp) _
    rintro c ⟨x2, x3, x4, x5, rfl, hp⟩
    rw [List.length_map, List.drop_length] at hp
    have hp : true = rs := hp
    (refine hS _ ?_; try clear hS; (repeat (refine seq_gen fun Nx hS => ?_; walk_at "st"; refine hS _ ?_; clear hS)))
    (try walk_at "wpt")
    rw [hp]
    exact q _
  )
def fitF (bs : List Bo) (ls : List Lk3) : Bool := bs.all boFit && (lkFrom [] ls && (decide (bs.map Bo.nm).Nodup && decide (bs.map Bo.at_).Nodup))
/-- short words, few bores, layers and likes -/
structure FlSz (bs : List Bo) (ls : List Lk3) : Prop where
  bl : bs.length ≤ 1000
  bo : ∀ b ∈ bs, BoSz 1000 1000 b
  ll : ls.length ≤ 1000
  lw : ∀ l ∈ ls, l.1.length ≤ 1000 ∧ l.2.1.length ≤ 1000
def T_fits : TF := fun a Q => ∃ (bs : List Bo) (ls : List Lk3), a = [.d (.tuple [.tuple (bs.map boD), .tuple (ls.map lkD)])] ∧ FlSz bs ls ∧ ret Q (.d (.bool (fitF bs ls)))
theorem nodup_str {ws : List Str} : (ws.map PyData.str).Nodup ↔ ws.Nodup := (by
  unfold List.Nodup
  rw [List.pairwise_map]
  exact ⟨fun h => h.imp fun z e => z (by rw [e]), fun h => h.imp fun z e => z (by injection e)⟩
  )
theorem nodup_int {ws : List Int} : (ws.map PyData.int).Nodup ↔ ws.Nodup := (by
  unfold List.Nodup
  rw [List.pairwise_map]
  exact ⟨fun h => h.imp fun z e => z (by rw [e]), fun h => h.imp fun z e => z (by injection e)⟩
  )
theorem sc_fits : FnScope ["field", "names", "spots", "bores", "likes", "bore"] ["field"] (defScope (topS 18)) := ⟨rfl, rfl, rfl, by decide +kernel, rfl, by decide +kernel, by decide +kernel⟩
local macro_rules | `(tactic| walk_at "wpt") => `(tactic| simp (maxSteps := 1000000) only [true_and, ↓reduceIte, xHand, uIsP, zPlAppY, zPlAppX, xTupL, aoLast, aoCons, uLenPl, oTl0, ↓asOTx_d, ↓asOTx_o, yNil, yCons, zSeqY, zIfY, zRaiseY, zExY, zRetXY, zForY, yCallA, ↓retE_k, zRaise2, uXf, zTryL, ↓atY_cons, ↓ret_wd, ↓ret_wo, ↓ret_wt, kC, ↓asTr_t, ↓asDs_l, ↓asDs_n, ↓asLs_l, ↓asOT_l, ↓asOT_t, ↓asOT_ll, pVar, pIx, uPlV, ↓asOw_o, ↓mvS_d, ↓mvS_f, ↓mvS_o, zRetX, oX, ↓frS_d, ↓frS_f, ↓plainA_n, ↓plainA_d, ↓plainA_f, ↓ret_xd, ↓ret_xf, ↓ret_xo, ↓retA_xd, ↓retA_xf, ↓retA_xo, ↓ret_vd, ↓ret_vo, OT.areD, OT.isD, OT.toDs, OT.toD, OT.upd, OT.wch, OT.ch, ↓retA_kO, ↓retA_kD, ↓retA_kDo, ↓retA_kS, ↓asBs_m, ↓asSs_m, fAll, fStr, ↓fIntS_i, ↓fIntS_b, ↓fIntS_s, oLcN, fSortST, zSeqX, zIfX, zRaise, ↓bare_d, ↓bare_o, ↓bare_l, ↓bare_no, ↓bare_f, ↓bare_tr, ↓bare_g, ↓bare_P, ↓bare_dic, oDic0, zSetK, uDin, ↓asDic_d, zDput, fMin2S, fMax2S, uLenSet, oSplit, S.f.injEq, eq_self, ↓fAddA_i, ↓fAddA_s, ↓fAddA_t, uChain, oRep, fSortS, ↓slW_d, ↓slW_o, ↓slW_P, ↓slW_s, ↓hasS_d, ↓hasS_o, ↓hasS_f, ↓hasS_s, uV, uN, u1, o1, o2, oN, ↓fIn_l, ↓fIn_s, fCat, ↓fList_l, ↓fList_t, ↓fTup_l, ↓fTup_t, ↓lstR_l, ↓lstR_P, zM1, fApp, zIns, ↓slF_d, ↓slF_o, ↓slF_s, uVf, pNo, pSo, ↓fSl_s, ↓fSl_t, uSl, ↓scal_n, ↓scal_b, ↓scal_i, ↓scal_s, ↓kS_d, ↓ret_S, rNil, rD, rS, uCallA, ↓toS_d, ↓toS_f, ↓toS_s, ↓slS_0, ↓slS_s, ↓retA_d, ↓retA_o, ↓retA_O, ↓backL_n, ↓backL_s, ↓backL_d, ↓backL_f, ↓lok_n, ↓lok_s, ↓lok_d, ↓lok_f, ↓lent_n, ↓lent_s, ↓lent_d, ↓lent_f, bYes, oLc, ↓clr_n, ↓clr_c, ↓clr2_n, ↓clr2_c, ↓rest_n, ↓rest_c, ↓keep1_d, ↓keep1_o, ↓keep1_f, ↓keep1_no, ↓keep1_s, ↓asLL_l, oLL0, zLLn, zLLa, uLLlen, List.mem_cons, List.not_mem_nil, Nat.reduceEqDiff, eqv_list, eqv_tuple, eqv_none, ↓asI_i, ↓asB_b, ↓asS_s, ↓asL_l, ↓asT_t, ↓slD_0, ↓slD_s, ↓slO_0, ↓slO_s, ↓asR_l, ↓fAdd_i, ↓fAdd_s, ↓ixbo_0, ↓ixbo_1, ↓ixbo_2, ↓ixbo_3, ↓ixD_l, ↓ixD_t, ↓ixD_s, ↓arg2_2, ↓fLen1_l, ↓fLen1_t, ↓fLen1_s, ↓asC_c, ↓asQ_l, ↓asQ_t, ↓asQ_s, ↓kD_d, ↓kD_o, ↓kO_o, ↓fz_l, ↓fz_P, ↓fz_ll, ↓ret_d, ↓ret_o, ↓ret_O, ↓retL_d, ↓retL_o, ↓retL_O, ↓atD_0, ↓atD_1, ↓atD_2, ↓atD_3, ↓atD_b1, ↓atD_b2, ↓atD_b3, ↓ixP_30, ↓ixP_31, ↓ixP_32, ↓if_true, ↓if_false, zNext, zSeq, zSet, zSetO, zRet, zRetO, zRetP, zIf, zAsg, zPut, gN, gsNil, gsCons, gT, uVar, uC, uFz, u2, fI, fI0, fEq, uCB, wB, wNot, wAnd, wOr, uAnd, uOr, aNil, aCons, uTup, oLst, fIx, oVar, iSeq, iR1, uCall, oCall, uLend, oLend, shaped_iff, sh_non, sh_int, sh_bool, sh_str, eqv_int, eqv_str, eqv_bool, ixN_30, ixN_31, ixN_32, ixN_20, ixN_21, atI_0, atI_1, atI_2, atI_3, atI_b1, atI_b2, atI_b3, List.length_map, Int.reduceEq, forall_const, implies_true, and_assoc, sz_0, sz_1, sz_2, sz_3, sz_4, sz_5, sz_6, sz_7, sz_8, Bool.not_eq_true', beq_eq_false_iff_ne, beq_iff_eq, ne_eq, Bool.and_eq_true, Bool.or_eq_true, decide_eq_false_iff_not, not_false_eq_true, not_true_eq_false, Bool.not_true, Bool.not_false, isS_n, isS_b, isS_i, isS_s, isS_l, isS_t, ca_0, ca_1, ca_2, ca_3, ca_4, ca_5, ca_6, Int.reduceToNat, Int.toNat_natCast, Int.reducePow, Int.reduceMul, Int.reduceLT, Int.reduceLE, Int.reduceNeg, zFor, List.replicate, List.length_cons, List.length_nil, List.nil_append, List.cons_append, List.append_nil, List.map_cons, List.map_nil, List.set_cons_zero, List.set_cons_succ, List.getElem?_cons_zero, List.getElem?_cons_succ, Option.some.injEq, S.d.injEq, S.o.injEq, Res.lst.injEq, Res.lstP.injEq, PyData.int.injEq, PyData.str.injEq, PyData.bool.injEq, PyData.list.injEq, PyData.tuple.injEq, List.cons.injEq, reduceCtorEq, exists_eq_left', exists_eq_left, exists_eq_right, exists_eq_right', true_and, and_true, false_and, and_false, exists_false, false_or, or_false, exists_and_left, exists_and_right, exists_eq', exists_eq, exists_const, Bool.false_eq_true, ite_true, ite_false, decide_eq_true_eq, Nat.sub_self, Nat.zero_add, Nat.add_sub_cancel, Nat.reduceSub, Nat.reduceAdd, ne_Clash_NoText, ne_Clash_Unfit, ne_NoText_Clash, ne_NoText_Unfit, ne_Unfit_Clash, ne_Unfit_NoText])
local macro_rules | `(tactic| walk_at "st") => `(tactic| simp (maxSteps := 1000000) only [true_and, ↓reduceIte, xHand, uIsP, zPlAppY, zPlAppX, xTupL, aoLast, aoCons, uLenPl, oTl0, ↓asOTx_d, ↓asOTx_o, yNil, yCons, zSeqY, zIfY, zRaiseY, zExY, zRetXY, zForY, yCallA, ↓retE_k, zRaise2, uXf, zTryL, ↓atY_cons, ↓ret_wd, ↓ret_wo, ↓ret_wt, kC, ↓asTr_t, ↓asDs_l, ↓asDs_n, ↓asLs_l, ↓asOT_l, ↓asOT_t, ↓asOT_ll, pVar, pIx, uPlV, ↓asOw_o, ↓mvS_d, ↓mvS_f, ↓mvS_o, zRetX, oX, ↓frS_d, ↓frS_f, ↓plainA_n, ↓plainA_d, ↓plainA_f, ↓ret_xd, ↓ret_xf, ↓ret_xo, ↓retA_xd, ↓retA_xf, ↓retA_xo, ↓ret_vd, ↓ret_vo, OT.areD, OT.isD, OT.toDs, OT.toD, OT.upd, OT.wch, OT.ch, ↓retA_kO, ↓retA_kD, ↓retA_kDo, ↓retA_kS, ↓asBs_m, ↓asSs_m, fAll, fStr, ↓fIntS_i, ↓fIntS_b, ↓fIntS_s, oLcN, fSortST, zSeqX, zIfX, zRaise, ↓bare_d, ↓bare_o, ↓bare_l, ↓bare_no, ↓bare_f, ↓bare_tr, ↓bare_g, ↓bare_P, ↓bare_dic, oDic0, zSetK, uDin, ↓asDic_d, zDput, fMin2S, fMax2S, uLenSet, oSplit, S.f.injEq, eq_self, ↓fAddA_i, ↓fAddA_s, ↓fAddA_t, uChain, oRep, fSortS, ↓slW_d, ↓slW_o, ↓slW_P, ↓slW_s, ↓hasS_d, ↓hasS_o, ↓hasS_f, ↓hasS_s, uV, uN, u1, o1, o2, oN, ↓fIn_l, ↓fIn_s, fCat, ↓fList_l, ↓fList_t, ↓fTup_l, ↓fTup_t, ↓lstR_l, ↓lstR_P, zM1, fApp, zIns, ↓slF_d, ↓slF_o, ↓slF_s, uVf, pNo, pSo, ↓fSl_s, ↓fSl_t, uSl, ↓scal_n, ↓scal_b, ↓scal_i, ↓scal_s, ↓kS_d, ↓ret_S, rNil, rD, rS, uCallA, ↓toS_d, ↓toS_f, ↓toS_s, ↓slS_0, ↓slS_s, ↓retA_d, ↓retA_o, ↓retA_O, ↓backL_n, ↓backL_s, ↓backL_d, ↓backL_f, ↓lok_n, ↓lok_s, ↓lok_d, ↓lok_f, ↓lent_n, ↓lent_s, ↓lent_d, ↓lent_f, bYes, oLc, ↓clr_n, ↓clr_c, ↓clr2_n, ↓clr2_c, ↓rest_n, ↓rest_c, ↓keep1_d, ↓keep1_o, ↓keep1_f, ↓keep1_no, ↓keep1_s, ↓asLL_l, oLL0, zLLn, zLLa, uLLlen, List.mem_cons, List.not_mem_nil, Nat.reduceEqDiff, eqv_list, eqv_tuple, eqv_none, ↓asI_i, ↓asB_b, ↓asS_s, ↓asL_l, ↓asT_t, ↓slD_0, ↓slD_s, ↓slO_0, ↓slO_s, ↓asR_l, ↓fAdd_i, ↓fAdd_s, ↓ixbo_0, ↓ixbo_1, ↓ixbo_2, ↓ixbo_3, ↓ixD_l, ↓ixD_t, ↓ixD_s, ↓arg2_2, ↓fLen1_l, ↓fLen1_t, ↓fLen1_s, ↓asC_c, ↓asQ_l, ↓asQ_t, ↓asQ_s, ↓kD_d, ↓kD_o, ↓kO_o, ↓fz_l, ↓fz_P, ↓fz_ll, ↓ret_d, ↓ret_o, ↓ret_O, ↓retL_d, ↓retL_o, ↓retL_O, ↓atD_0, ↓atD_1, ↓atD_2, ↓atD_3, ↓atD_b1, ↓atD_b2, ↓atD_b3, ↓ixP_30, ↓ixP_31, ↓ixP_32, ↓if_true, ↓if_false, zNext, zSet, zSetO, zRet, zRetO, zRetP, zIf, zAsg, zPut, gN, gsNil, gsCons, gT, uVar, uC, uFz, u2, fI, fI0, fEq, uCB, wB, wNot, wAnd, wOr, uAnd, uOr, aNil, aCons, uTup, oLst, fIx, oVar, iSeq, iR1, uCall, oCall, uLend, oLend, shaped_iff, sh_non, sh_int, sh_bool, sh_str, eqv_int, eqv_str, eqv_bool, ixN_30, ixN_31, ixN_32, ixN_20, ixN_21, atI_0, atI_1, atI_2, atI_3, atI_b1, atI_b2, atI_b3, List.length_map, Int.reduceEq, forall_const, implies_true, and_assoc, sz_0, sz_1, sz_2, sz_3, sz_4, sz_5, sz_6, sz_7, sz_8, Bool.not_eq_true', beq_eq_false_iff_ne, beq_iff_eq, ne_eq, Bool.and_eq_true, Bool.or_eq_true, decide_eq_false_iff_not, not_false_eq_true, not_true_eq_false, Bool.not_true, Bool.not_false, isS_n, isS_b, isS_i, isS_s, isS_l, isS_t, ca_0, ca_1, ca_2, ca_3, ca_4, ca_5, ca_6, Int.reduceToNat, Int.toNat_natCast, Int.reducePow, Int.reduceMul, Int.reduceLT, Int.reduceLE, Int.reduceNeg, zFor, List.replicate, List.length_cons, List.length_nil, List.nil_append, List.cons_append, List.append_nil, List.map_cons, List.map_nil, List.set_cons_zero, List.set_cons_succ, List.getElem?_cons_zero, List.getElem?_cons_succ, Option.some.injEq, S.d.injEq, S.o.injEq, Res.lst.injEq, Res.lstP.injEq, PyData.int.injEq, PyData.str.injEq, PyData.bool.injEq, PyData.list.injEq, PyData.tuple.injEq, List.cons.injEq, reduceCtorEq, exists_eq_left', exists_eq_left, exists_eq_right, exists_eq_right', true_and, and_true, false_and, and_false, exists_false, false_or, or_false, exists_and_left, exists_and_right, exists_eq', exists_eq, exists_const, Bool.false_eq_true, ite_true, ite_false, decide_eq_true_eq, Nat.sub_self, Nat.zero_add, Nat.add_sub_cancel, Nat.reduceSub, Nat.reduceAdd, ne_Clash_NoText, ne_Clash_Unfit, ne_NoText_Clash, ne_NoText_Unfit, ne_Unfit_Clash, ne_Unfit_NoText])
theorem c_fits {P : Program} {w : World} {K : PySem.W.Frag} {mg : Str → Option Value} {base : Heap} (hb : Bi K mg) (D : Df K mg "fits" (topS 18) ["field"]) (C_likes_fit : Cal P w K mg base "likes_fit" 2 ["likes"] T_likes_fit) (C_bore_fits : Cal P w K mg base "bore_fits" 3 ["bore"] T_bore_fits) : Cal P w K mg base "fits" 4 ["field"] T_fits := (by
  obtain ⟨f, fd, F, hm, hB⟩ := D
  refine ⟨f, fd, fn_d (k := 3) F sc_fits ?hT (fun cdv A outer s H E hr => (q_cons (s_asg (dv 0) (g_tup (n := 2) rfl (gs_cons (g_name 3 sc_fits.nd) (gs_cons (g_name 4 sc_fits.nd) gs_nil))))
 (q_cons (s_if (DW.dt (w_or (t_not (tv (d_all rfl hb.all (DE.dv (d_fz (o_lc [("bore", 5)] rfl sc_fits.nd (i_seq (dv 3)) (by show blkC ["field", "names", "spots", "bores", "likes", "bore"] (defScope (topS 18)) _ _ = true; decide +kernel) (fun _ _ _ _ _ => (g_name 5 sc_fits.nd)) (fun _ _ _ _ _ => b_yes) (fun _ _ _ _ _ => (d_callC C_bore_fits (hr.mono (by decide)) (a_cons (dv 5) a_nil))) (by decide))))))) (w_or1 (t_not (tv (d_callC C_likes_fit (hr.mono (by decide)) (a_cons (dv 4) a_nil)))))))
 (q_one (s_ret d_bl)) q_nil)
 (q_cons (s_setLc (i := 1) [("bore", 5)] rfl sc_fits.nd (i_seq (dv 3)) (by show blkC ["field", "names", "spots", "bores", "likes", "bore"] (defScope (topS 18)) _ _ = true; decide +kernel) (fun _ _ _ _ _ => (g_name 5 sc_fits.nd)) (fun _ _ _ _ _ => b_yes) (fun _ _ _ _ _ => (d_ixN 5 (fun _ _ => rfl) d_int)) (by decide) (sw_true (by rfl) (by rfl) (by rfl) (by rfl)))
 (q_cons (s_setLc (i := 2) [("bore", 5)] rfl sc_fits.nd (i_seq (dv 3)) (by show blkC ["field", "names", "spots", "bores", "likes", "bore"] (defScope (topS 18)) _ _ = true; decide +kernel) (fun _ _ _ _ _ => (g_name 5 sc_fits.nd)) (fun _ _ _ _ _ => b_yes) (fun _ _ _ _ _ => (d_ixN 5 (fun _ _ => rfl) d_int)) (by decide) (sw_true (by rfl) (by rfl) (by rfl) (by rfl)))
 (q_one (s_ret (d_and (d_eq hr.units (d_lenSet rfl hb.len hb.set (dvf 1)) (d_lenV hb.len (vv 3))) (d_one (d_eq hr.units (d_lenSet rfl hb.len hb.set (dvf 2)) (d_lenV hb.len (vv 3)))))))))))), hm, F.kp, hB⟩
  case hT =>
    intro a Q h
    obtain ⟨bs, ls, rfl, hZ, q⟩ := h
    refine ⟨rfl, ?_⟩
    have hsz := sizeLine_eq
    have hb := hZ.bl
    (refine seq_gen fun Nx hS => ?_; walk_at "st")
    (refine hS _ ?_; try clear hS; (repeat (refine seq_gen fun Nx hS => ?_; walk_at "st"; refine hS _ ?_; clear hS)))
    (refine seq_gen fun Nx hS => ?_; walk_at "st")
    refine comp_mm (g := boD) (fun b => .bool (boFit b)) (by omega) (fun b hbm N hN => ?_) ?_
    · (try walk_at "wpt")
      refine ⟨b, rfl, hZ.bo b hbm, ?_⟩
      (try walk_at "wpt")
      exact hN _ rfl
    rw [asBs_f, show (bs.map boFit).all id = bs.all boFit by rw [List.all_map]; rfl]
    (try walk_at "wpt")
    unfold fitF at q
    by_cases h1 : bs.all boFit = false
    · rw [if_pos h1]
      rw [h1] at q
      exact q _
    rw [if_neg h1]
    rw [show bs.all boFit = true by simpa using h1, Bool.true_and] at q
    refine ⟨ls, rfl, hZ.ll, hZ.lw, ?_⟩
    (try walk_at "wpt")
    by_cases h2 : lkFrom [] ls = false
    · rw [if_pos h2]
      rw [h2] at q
      exact q _
    rw [if_neg h2]
    rw [show lkFrom [] ls = true by simpa using h2, Bool.true_and] at q
    (refine hS _ ?_; try clear hS; (repeat (refine seq_gen fun Nx hS => ?_; walk_at "st"; refine hS _ ?_; clear hS)))
    (refine seq_gen fun Nx hS => ?_; walk_at "st")
    refine comp_mm (g := boD) (fun b => .str b.nm) (by omega) (fun b hbm N hN => ?_) ?_
    · rw [show boD b = .tuple [.str b.nm, .int b.at_, .int b.top, .tuple (b.bl.map blD)] from rfl]
      (try walk_at "wpt")
      exact hN _ rfl
    (refine hS _ ?_; try clear hS; (repeat (refine seq_gen fun Nx hS => ?_; walk_at "st"; refine hS _ ?_; clear hS)))
    (refine seq_gen fun Nx hS => ?_; walk_at "st")
    refine comp_mm (g := boD) (fun b => .int b.at_) (by omega) (fun b hbm N hN => ?_) ?_
    · rw [show boD b = .tuple [.str b.nm, .int b.at_, .int b.top, .tuple (b.bl.map blD)] from rfl]
      (try walk_at "wpt")
      exact hN _ rfl
    (refine hS _ ?_; try clear hS; (repeat (refine seq_gen fun Nx hS => ?_; walk_at "st"; refine hS _ ?_; clear hS)))
    (try walk_at "wpt")
    have isn : ∀ d ∈ bs.map (fun b => PyData.str b.nm), isAt d := fun d hd => by
      obtain ⟨b, _, rfl⟩ := List.mem_map.mp hd
      trivial
    have isi : ∀ d ∈ bs.map (fun b => PyData.int b.at_), isAt d := fun d hd => by
      obtain ⟨b, _, rfl⟩ := List.mem_map.mp hd
      trivial
    refine ⟨hb, isn, fun m hm hmn => ?_⟩
    rw [show bs.map (fun b => PyData.str b.nm) = (bs.map Bo.nm).map PyData.str by rw [List.map_map]; rfl, nodup_str] at hmn
    by_cases hn : (bs.map Bo.nm).Nodup
    · rw [if_pos (by have := hmn.mpr hn; omega)]
      rw [decide_eq_true hn, Bool.true_and] at q
      refine ⟨hb, isi, fun m2 hm2 hmn2 => ?_⟩
      rw [show bs.map (fun b => PyData.int b.at_) = (bs.map Bo.at_).map PyData.int by rw [List.map_map]; rfl, nodup_int] at hmn2
      rw [show ((m2 : Int) == (bs.length : Int)) = decide (bs.map Bo.at_).Nodup by
        by_cases hs : (bs.map Bo.at_).Nodup
        · rw [decide_eq_true hs, hmn2.mpr hs]; simp
        · rw [decide_eq_false hs, beq_eq_false_iff_ne]
          exact fun z => hs (hmn2.mp (by omega))]
      exact q _
    · rw [if_neg fun z => hn (hmn.mp (by omega))]
      rw [decide_eq_false hn, Bool.false_and] at q
      exact q _
  )
def T_fitted : TFY := fun a Q E => ∃ (bs : List Bo) (ls : List Lk3), a = [.d (.tuple [.tuple (bs.map boD), .tuple (ls.map lkD)])] ∧ FlSz bs ls ∧ (fitF bs ls = false → retE [none] E "Unfit" []) ∧ (fitF bs ls = true → retA [none] Q (.d (.tuple [.tuple (bs.map boD), .tuple (ls.map lkD)])))
theorem sc_fitted : FnScope ["field"] ["field"] (defScope (topS 19)) := ⟨rfl, rfl, rfl, by decide +kernel, rfl, by decide +kernel, by decide +kernel⟩
local macro_rules | `(tactic| walk_at "wpt") => `(tactic| simp (maxSteps := 1000000) only [true_and, ↓reduceIte, xHand, uIsP, zPlAppY, zPlAppX, xTupL, aoLast, aoCons, uLenPl, oTl0, ↓asOTx_d, ↓asOTx_o, yNil, yCons, zSeqY, zIfY, zRaiseY, zExY, zRetXY, zForY, yCallA, ↓retE_k, zRaise2, uXf, zTryL, ↓atY_cons, ↓ret_wd, ↓ret_wo, ↓ret_wt, kC, ↓asTr_t, ↓asDs_l, ↓asDs_n, ↓asLs_l, ↓asOT_l, ↓asOT_t, ↓asOT_ll, pVar, pIx, uPlV, ↓asOw_o, ↓mvS_d, ↓mvS_f, ↓mvS_o, zRetX, oX, ↓frS_d, ↓frS_f, ↓plainA_n, ↓plainA_d, ↓plainA_f, ↓ret_xd, ↓ret_xf, ↓ret_xo, ↓retA_xd, ↓retA_xf, ↓retA_xo, ↓ret_vd, ↓ret_vo, OT.areD, OT.isD, OT.toDs, OT.toD, OT.upd, OT.wch, OT.ch, ↓retA_kO, ↓retA_kD, ↓retA_kDo, ↓retA_kS, ↓asBs_m, ↓asSs_m, fAll, fStr, ↓fIntS_i, ↓fIntS_b, ↓fIntS_s, oLcN, fSortST, zSeqX, zIfX, zRaise, ↓bare_d, ↓bare_o, ↓bare_l, ↓bare_no, ↓bare_f, ↓bare_tr, ↓bare_g, ↓bare_P, ↓bare_dic, oDic0, zSetK, uDin, ↓asDic_d, zDput, fMin2S, fMax2S, uLenSet, oSplit, S.f.injEq, eq_self, ↓fAddA_i, ↓fAddA_s, ↓fAddA_t, uChain, oRep, fSortS, ↓slW_d, ↓slW_o, ↓slW_P, ↓slW_s, ↓hasS_d, ↓hasS_o, ↓hasS_f, ↓hasS_s, uV, uN, u1, o1, o2, oN, ↓fIn_l, ↓fIn_s, fCat, ↓fList_l, ↓fList_t, ↓fTup_l, ↓fTup_t, ↓lstR_l, ↓lstR_P, zM1, fApp, zIns, ↓slF_d, ↓slF_o, ↓slF_s, uVf, pNo, pSo, ↓fSl_s, ↓fSl_t, uSl, ↓scal_n, ↓scal_b, ↓scal_i, ↓scal_s, ↓kS_d, ↓ret_S, rNil, rD, rS, uCallA, ↓toS_d, ↓toS_f, ↓toS_s, ↓slS_0, ↓slS_s, ↓retA_d, ↓retA_o, ↓retA_O, ↓backL_n, ↓backL_s, ↓backL_d, ↓backL_f, ↓lok_n, ↓lok_s, ↓lok_d, ↓lok_f, ↓lent_n, ↓lent_s, ↓lent_d, ↓lent_f, bYes, oLc, ↓clr_n, ↓clr_c, ↓clr2_n, ↓clr2_c, ↓rest_n, ↓rest_c, ↓keep1_d, ↓keep1_o, ↓keep1_f, ↓keep1_no, ↓keep1_s, ↓asLL_l, oLL0, zLLn, zLLa, uLLlen, List.mem_cons, List.not_mem_nil, Nat.reduceEqDiff, eqv_list, eqv_tuple, eqv_none, ↓asI_i, ↓asB_b, ↓asS_s, ↓asL_l, ↓asT_t, ↓slD_0, ↓slD_s, ↓slO_0, ↓slO_s, ↓asR_l, ↓fAdd_i, ↓fAdd_s, ↓ixbo_0, ↓ixbo_1, ↓ixbo_2, ↓ixbo_3, ↓ixD_l, ↓ixD_t, ↓ixD_s, ↓arg2_2, ↓fLen1_l, ↓fLen1_t, ↓fLen1_s, ↓asC_c, ↓asQ_l, ↓asQ_t, ↓asQ_s, ↓kD_d, ↓kD_o, ↓kO_o, ↓fz_l, ↓fz_P, ↓fz_ll, ↓ret_d, ↓ret_o, ↓ret_O, ↓retL_d, ↓retL_o, ↓retL_O, ↓atD_0, ↓atD_1, ↓atD_2, ↓atD_3, ↓atD_b1, ↓atD_b2, ↓atD_b3, ↓ixP_30, ↓ixP_31, ↓ixP_32, ↓if_true, ↓if_false, zNext, zSeq, zSet, zSetO, zRet, zRetO, zRetP, zIf, zAsg, zPut, gN, gsNil, gsCons, gT, uVar, uC, uFz, u2, fI, fI0, fEq, uCB, wB, wNot, wAnd, wOr, uAnd, uOr, aNil, aCons, uTup, oLst, fIx, oVar, iSeq, iR1, uCall, oCall, uLend, oLend, shaped_iff, sh_non, sh_int, sh_bool, sh_str, eqv_int, eqv_str, eqv_bool, ixN_30, ixN_31, ixN_32, ixN_20, ixN_21, atI_0, atI_1, atI_2, atI_3, atI_b1, atI_b2, atI_b3, List.length_map, Int.reduceEq, forall_const, implies_true, and_assoc, sz_0, sz_1, sz_2, sz_3, sz_4, sz_5, sz_6, sz_7, sz_8, Bool.not_eq_true', beq_eq_false_iff_ne, beq_iff_eq, ne_eq, Bool.and_eq_true, Bool.or_eq_true, decide_eq_false_iff_not, not_false_eq_true, not_true_eq_false, Bool.not_true, Bool.not_false, isS_n, isS_b, isS_i, isS_s, isS_l, isS_t, ca_0, ca_1, ca_2, ca_3, ca_4, ca_5, ca_6, Int.reduceToNat, Int.toNat_natCast, Int.reducePow, Int.reduceMul, Int.reduceLT, Int.reduceLE, Int.reduceNeg, zFor, List.replicate, List.length_cons, List.length_nil, List.nil_append, List.cons_append, List.append_nil, List.map_cons, List.map_nil, List.set_cons_zero, List.set_cons_succ, List.getElem?_cons_zero, List.getElem?_cons_succ, Option.some.injEq, S.d.injEq, S.o.injEq, Res.lst.injEq, Res.lstP.injEq, PyData.int.injEq, PyData.str.injEq, PyData.bool.injEq, PyData.list.injEq, PyData.tuple.injEq, List.cons.injEq, reduceCtorEq, exists_eq_left', exists_eq_left, exists_eq_right, exists_eq_right', true_and, and_true, false_and, and_false, exists_false, false_or, or_false, exists_and_left, exists_and_right, exists_eq', exists_eq, exists_const, Bool.false_eq_true, ite_true, ite_false, decide_eq_true_eq, Nat.sub_self, Nat.zero_add, Nat.add_sub_cancel, Nat.reduceSub, Nat.reduceAdd, ne_Clash_NoText, ne_Clash_Unfit, ne_NoText_Clash, ne_NoText_Unfit, ne_Unfit_Clash, ne_Unfit_NoText])
local macro_rules | `(tactic| walk_at "st") => `(tactic| simp (maxSteps := 1000000) only [true_and, ↓reduceIte, xHand, uIsP, zPlAppY, zPlAppX, xTupL, aoLast, aoCons, uLenPl, oTl0, ↓asOTx_d, ↓asOTx_o, yNil, yCons, zSeqY, zIfY, zRaiseY, zExY, zRetXY, zForY, yCallA, ↓retE_k, zRaise2, uXf, zTryL, ↓atY_cons, ↓ret_wd, ↓ret_wo, ↓ret_wt, kC, ↓asTr_t, ↓asDs_l, ↓asDs_n, ↓asLs_l, ↓asOT_l, ↓asOT_t, ↓asOT_ll, pVar, pIx, uPlV, ↓asOw_o, ↓mvS_d, ↓mvS_f, ↓mvS_o, zRetX, oX, ↓frS_d, ↓frS_f, ↓plainA_n, ↓plainA_d, ↓plainA_f, ↓ret_xd, ↓ret_xf, ↓ret_xo, ↓retA_xd, ↓retA_xf, ↓retA_xo, ↓ret_vd, ↓ret_vo, OT.areD, OT.isD, OT.toDs, OT.toD, OT.upd, OT.wch, OT.ch, ↓retA_kO, ↓retA_kD, ↓retA_kDo, ↓retA_kS, ↓asBs_m, ↓asSs_m, fAll, fStr, ↓fIntS_i, ↓fIntS_b, ↓fIntS_s, oLcN, fSortST, zSeqX, zIfX, zRaise, ↓bare_d, ↓bare_o, ↓bare_l, ↓bare_no, ↓bare_f, ↓bare_tr, ↓bare_g, ↓bare_P, ↓bare_dic, oDic0, zSetK, uDin, ↓asDic_d, zDput, fMin2S, fMax2S, uLenSet, oSplit, S.f.injEq, eq_self, ↓fAddA_i, ↓fAddA_s, ↓fAddA_t, uChain, oRep, fSortS, ↓slW_d, ↓slW_o, ↓slW_P, ↓slW_s, ↓hasS_d, ↓hasS_o, ↓hasS_f, ↓hasS_s, uV, uN, u1, o1, o2, oN, ↓fIn_l, ↓fIn_s, fCat, ↓fList_l, ↓fList_t, ↓fTup_l, ↓fTup_t, ↓lstR_l, ↓lstR_P, zM1, fApp, zIns, ↓slF_d, ↓slF_o, ↓slF_s, uVf, pNo, pSo, ↓fSl_s, ↓fSl_t, uSl, ↓scal_n, ↓scal_b, ↓scal_i, ↓scal_s, ↓kS_d, ↓ret_S, rNil, rD, rS, uCallA, ↓toS_d, ↓toS_f, ↓toS_s, ↓slS_0, ↓slS_s, ↓retA_d, ↓retA_o, ↓retA_O, ↓backL_n, ↓backL_s, ↓backL_d, ↓backL_f, ↓lok_n, ↓lok_s, ↓lok_d, ↓lok_f, ↓lent_n, ↓lent_s, ↓lent_d, ↓lent_f, bYes, oLc, ↓clr_n, ↓clr_c, ↓clr2_n, ↓clr2_c, ↓rest_n, ↓rest_c, ↓keep1_d, ↓keep1_o, ↓keep1_f, ↓keep1_no, ↓keep1_s, ↓asLL_l, oLL0, zLLn, zLLa, uLLlen, List.mem_cons, List.not_mem_nil, Nat.reduceEqDiff, eqv_list, eqv_tuple, eqv_none, ↓asI_i, ↓asB_b, ↓asS_s, ↓asL_l, ↓asT_t, ↓slD_0, ↓slD_s, ↓slO_0, ↓slO_s, ↓asR_l, ↓fAdd_i, ↓fAdd_s, ↓ixbo_0, ↓ixbo_1, ↓ixbo_2, ↓ixbo_3, ↓ixD_l, ↓ixD_t, ↓ixD_s, ↓arg2_2, ↓fLen1_l, ↓fLen1_t, ↓fLen1_s, ↓asC_c, ↓asQ_l, ↓asQ_t, ↓asQ_s, ↓kD_d, ↓kD_o, ↓kO_o, ↓fz_l, ↓fz_P, ↓fz_ll, ↓ret_d, ↓ret_o, ↓ret_O, ↓retL_d, ↓retL_o, ↓retL_O, ↓atD_0, ↓atD_1, ↓atD_2, ↓atD_3, ↓atD_b1, ↓atD_b2, ↓atD_b3, ↓ixP_30, ↓ixP_31, ↓ixP_32, ↓if_true, ↓if_false, zNext, zSet, zSetO, zRet, zRetO, zRetP, zIf, zAsg, zPut, gN, gsNil, gsCons, gT, uVar, uC, uFz, u2, fI, fI0, fEq, uCB, wB, wNot, wAnd, wOr, uAnd, uOr, aNil, aCons, uTup, oLst, fIx, oVar, iSeq, iR1, uCall, oCall, uLend, oLend, shaped_iff, sh_non, sh_int, sh_bool, sh_str, eqv_int, eqv_str, eqv_bool, ixN_30, ixN_31, ixN_32, ixN_20, ixN_21, atI_0, atI_1, atI_2, atI_3, atI_b1, atI_b2, atI_b3, List.length_map, Int.reduceEq, forall_const, implies_true, and_assoc, sz_0, sz_1, sz_2, sz_3, sz_4, sz_5, sz_6, sz_7, sz_8, Bool.not_eq_true', beq_eq_false_iff_ne, beq_iff_eq, ne_eq, Bool.and_eq_true, Bool.or_eq_true, decide_eq_false_iff_not, not_false_eq_true, not_true_eq_false, Bool.not_true, Bool.not_false, isS_n, isS_b, isS_i, isS_s, isS_l, isS_t, ca_0, ca_1, ca_2, ca_3, ca_4, ca_5, ca_6, Int.reduceToNat, Int.toNat_natCast, Int.reducePow, Int.reduceMul, Int.reduceLT, Int.reduceLE, Int.reduceNeg, zFor, List.replicate, List.length_cons, List.length_nil, List.nil_append, List.cons_append, List.append_nil, List.map_cons, List.map_nil, List.set_cons_zero, List.set_cons_succ, List.getElem?_cons_zero, List.getElem?_cons_succ, Option.some.injEq, S.d.injEq, S.o.injEq, Res.lst.injEq, Res.lstP.injEq, PyData.int.injEq, PyData.str.injEq, PyData.bool.injEq, PyData.list.injEq, PyData.tuple.injEq, List.cons.injEq, reduceCtorEq, exists_eq_left', exists_eq_left, exists_eq_right, exists_eq_right', true_and, and_true, false_and, and_false, exists_false, false_or, or_false, exists_and_left, exists_and_right, exists_eq', exists_eq, exists_const, Bool.false_eq_true, ite_true, ite_false, decide_eq_true_eq, Nat.sub_self, Nat.zero_add, Nat.add_sub_cancel, Nat.reduceSub, Nat.reduceAdd, ne_Clash_NoText, ne_Clash_Unfit, ne_NoText_Clash, ne_NoText_Unfit, ne_Unfit_Clash, ne_Unfit_NoText])
theorem c_fitted {P : Program} {w : World} {K : PySem.W.Frag} {mg : Str → Option Value} {base : Heap} (hb : Bi K mg) (D : Df K mg "fitted" (topS 19) ["field"]) (C_fits : Cal P w K mg base "fits" 4 ["field"] T_fits) : CalY P w K mg base "fitted" 5 ["field"] T_fitted := (by
  obtain ⟨f, fd, F, hm, hB⟩ := D
  refine ⟨f, fd, fn_dY (k := 4) F sc_fitted ?hT (fun cdv A outer s H E hr tk => (qy_cons (s_ifY (t_not (tv (d_callC C_fits (hr.mono (by decide)) (a_cons (dv 0) a_nil))))
 (qy_one (s_raiseY rfl tk hb.exf_Unfit)) (ys_of q_nil))
 (ys_of (q_one (s_ret (dv 0)))))), hm, F.kp, hB⟩
  case hT =>
    intro a Q E1 h
    obtain ⟨bs, ls, rfl, hZ, q1, q2⟩ := h
    refine ⟨rfl, ?_⟩
    (try walk_at "wpt")
    refine ⟨bs, ls, rfl, hZ, ?_⟩
    (try walk_at "wpt")
    cases hf : fitF bs ls with
    | true =>
      (try walk_at "wpt")
      exact q2 hf _ (pat_consN pat_nil)
    | false =>
      (try walk_at "wpt")
      exact q1 hf _ (pat_consN pat_nil)
  )
def T_need : TFY := fun a Q E => ∃ b : Bool, a = [.d (.bool b)] ∧ if b = true then retA [none] Q (.d .none) else retE [none] E "NoText" []
theorem TE_need {b : Bool} {Q : S → Dl.Ctx → Prop} {E : EEt} : T_need [.d (.bool b)] Q E = if b = true then retA [none] Q (.d .none) else retE [none] E "NoText" [] := propext ⟨fun ⟨_, e, q⟩ => by cases e; exact q, fun q => ⟨_, rfl, q⟩⟩
theorem sc_need : FnScope ["truth"] ["truth"] (defScope (topS 21)) := ⟨rfl, rfl, rfl, by decide +kernel, rfl, by decide +kernel, by decide +kernel⟩
local macro_rules | `(tactic| walk_at "wpt") => `(tactic| simp (maxSteps := 1000000) only [↓reduceIte, xHand, uIsP, zPlAppY, zPlAppX, xTupL, aoLast, aoCons, uLenPl, oTl0, ↓asOTx_d, ↓asOTx_o, yNil, yCons, zSeqY, zIfY, zRaiseY, zExY, zRetXY, zForY, yCallA, ↓retE_k, zRaise2, uXf, zTryL, ↓atY_cons, ↓ret_wd, ↓ret_wo, ↓ret_wt, kC, ↓asTr_t, ↓asDs_l, ↓asDs_n, ↓asLs_l, ↓asOT_l, ↓asOT_t, ↓asOT_ll, pVar, pIx, uPlV, ↓asOw_o, ↓mvS_d, ↓mvS_f, ↓mvS_o, zRetX, oX, ↓frS_d, ↓frS_f, ↓plainA_n, ↓plainA_d, ↓plainA_f, ↓ret_xd, ↓ret_xf, ↓ret_xo, ↓retA_xd, ↓retA_xf, ↓retA_xo, ↓ret_vd, ↓ret_vo, OT.areD, OT.isD, OT.toDs, OT.toD, OT.upd, OT.wch, OT.ch, ↓retA_kO, ↓retA_kD, ↓retA_kDo, ↓retA_kS, ↓asBs_m, ↓asSs_m, fAll, fStr, ↓fIntS_i, ↓fIntS_b, ↓fIntS_s, oLcN, fSortST, zSeqX, zIfX, zRaise, ↓bare_d, ↓bare_o, ↓bare_l, ↓bare_no, ↓bare_f, ↓bare_tr, ↓bare_g, ↓bare_P, ↓bare_dic, oDic0, zSetK, uDin, ↓asDic_d, zDput, fMin2S, fMax2S, uLenSet, oSplit, S.f.injEq, eq_self, ↓fAddA_i, ↓fAddA_s, ↓fAddA_t, uChain, oRep, fSortS, ↓slW_d, ↓slW_o, ↓slW_P, ↓slW_s, ↓hasS_d, ↓hasS_o, ↓hasS_f, ↓hasS_s, uV, uN, u1, o1, o2, oN, ↓fIn_l, ↓fIn_s, fCat, ↓fList_l, ↓fList_t, ↓fTup_l, ↓fTup_t, ↓lstR_l, ↓lstR_P, zM1, fApp, zIns, ↓slF_d, ↓slF_o, ↓slF_s, uVf, pNo, pSo, ↓fSl_s, ↓fSl_t, uSl, ↓scal_n, ↓scal_b, ↓scal_i, ↓scal_s, ↓kS_d, ↓ret_S, rNil, rD, rS, uCallA, ↓toS_d, ↓toS_f, ↓toS_s, ↓slS_0, ↓slS_s, ↓retA_d, ↓retA_o, ↓retA_O, ↓backL_n, ↓backL_s, ↓backL_d, ↓backL_f, ↓lok_n, ↓lok_s, ↓lok_d, ↓lok_f, ↓lent_n, ↓lent_s, ↓lent_d, ↓lent_f, bYes, oLc, ↓clr_n, ↓clr_c, ↓clr2_n, ↓clr2_c, ↓rest_n, ↓rest_c, ↓keep1_d, ↓keep1_o, ↓keep1_f, ↓keep1_no, ↓keep1_s, ↓asLL_l, oLL0, zLLn, zLLa, uLLlen, List.mem_cons, List.not_mem_nil, Nat.reduceEqDiff, eqv_list, eqv_tuple, eqv_none, ↓asI_i, ↓asB_b, ↓asS_s, ↓asL_l, ↓asT_t, ↓slD_0, ↓slD_s, ↓slO_0, ↓slO_s, ↓asR_l, ↓fAdd_i, ↓fAdd_s, ↓ixbo_0, ↓ixbo_1, ↓ixbo_2, ↓ixbo_3, ↓ixD_l, ↓ixD_t, ↓ixD_s, ↓arg2_2, ↓fLen1_l, ↓fLen1_t, ↓fLen1_s, ↓asC_c, ↓asQ_l, ↓asQ_t, ↓asQ_s, ↓kD_d, ↓kD_o, ↓kO_o, ↓fz_l, ↓fz_P, ↓fz_ll, ↓ret_d, ↓ret_o, ↓ret_O, ↓retL_d, ↓retL_o, ↓retL_O, ↓atD_0, ↓atD_1, ↓atD_2, ↓atD_3, ↓atD_b1, ↓atD_b2, ↓atD_b3, ↓ixP_30, ↓ixP_31, ↓ixP_32, ↓if_true, ↓if_false, zNext, zSeq, zSet, zSetO, zRet, zRetO, zRetP, zIf, zAsg, zPut, gN, gsNil, gsCons, gT, uVar, uC, uFz, u2, fI, fI0, fEq, uCB, wB, wNot, wAnd, wOr, uAnd, uOr, aNil, aCons, uTup, oLst, fIx, oVar, iSeq, iR1, uCall, oCall, uLend, oLend, shaped_iff, sh_non, sh_int, sh_bool, sh_str, eqv_int, eqv_str, eqv_bool, ixN_30, ixN_31, ixN_32, ixN_20, ixN_21, atI_0, atI_1, atI_2, atI_3, atI_b1, atI_b2, atI_b3, List.length_map, Int.reduceEq, forall_const, implies_true, and_assoc, sz_0, sz_1, sz_2, sz_3, sz_4, sz_5, sz_6, sz_7, sz_8, Bool.not_eq_true', beq_eq_false_iff_ne, beq_iff_eq, ne_eq, Bool.and_eq_true, Bool.or_eq_true, decide_eq_false_iff_not, not_false_eq_true, not_true_eq_false, Bool.not_true, Bool.not_false, isS_n, isS_b, isS_i, isS_s, isS_l, isS_t, ca_0, ca_1, ca_2, ca_3, ca_4, ca_5, ca_6, Int.reduceToNat, Int.toNat_natCast, Int.reducePow, Int.reduceMul, Int.reduceLT, Int.reduceLE, Int.reduceNeg, zFor, List.replicate, List.length_cons, List.length_nil, List.nil_append, List.cons_append, List.append_nil, List.map_cons, List.map_nil, List.set_cons_zero, List.set_cons_succ, List.getElem?_cons_zero, List.getElem?_cons_succ, Option.some.injEq, S.d.injEq, S.o.injEq, Res.lst.injEq, Res.lstP.injEq, PyData.int.injEq, PyData.str.injEq, PyData.bool.injEq, PyData.list.injEq, PyData.tuple.injEq, List.cons.injEq, reduceCtorEq, exists_eq_left', exists_eq_left, exists_eq_right, exists_eq_right', true_and, and_true, false_and, and_false, exists_false, false_or, or_false, exists_and_left, exists_and_right, exists_eq', exists_eq, exists_const, Bool.false_eq_true, ite_true, ite_false, decide_eq_true_eq, Nat.sub_self, Nat.zero_add, Nat.add_sub_cancel, Nat.reduceSub, Nat.reduceAdd, ne_Clash_NoText, ne_Clash_Unfit, ne_NoText_Clash, ne_NoText_Unfit, ne_Unfit_Clash, ne_Unfit_NoText])
local macro_rules | `(tactic| walk_at "st") => `(tactic| simp (maxSteps := 1000000) only [true_and, ↓reduceIte, xHand, uIsP, zPlAppY, zPlAppX, xTupL, aoLast, aoCons, uLenPl, oTl0, ↓asOTx_d, ↓asOTx_o, yNil, yCons, zSeqY, zIfY, zRaiseY, zExY, zRetXY, zForY, yCallA, ↓retE_k, zRaise2, uXf, zTryL, ↓atY_cons, ↓ret_wd, ↓ret_wo, ↓ret_wt, kC, ↓asTr_t, ↓asDs_l, ↓asDs_n, ↓asLs_l, ↓asOT_l, ↓asOT_t, ↓asOT_ll, pVar, pIx, uPlV, ↓asOw_o, ↓mvS_d, ↓mvS_f, ↓mvS_o, zRetX, oX, ↓frS_d, ↓frS_f, ↓plainA_n, ↓plainA_d, ↓plainA_f, ↓ret_xd, ↓ret_xf, ↓ret_xo, ↓retA_xd, ↓retA_xf, ↓retA_xo, ↓ret_vd, ↓ret_vo, OT.areD, OT.isD, OT.toDs, OT.toD, OT.upd, OT.wch, OT.ch, ↓retA_kO, ↓retA_kD, ↓retA_kDo, ↓retA_kS, ↓asBs_m, ↓asSs_m, fAll, fStr, ↓fIntS_i, ↓fIntS_b, ↓fIntS_s, oLcN, fSortST, zSeqX, zIfX, zRaise, ↓bare_d, ↓bare_o, ↓bare_l, ↓bare_no, ↓bare_f, ↓bare_tr, ↓bare_g, ↓bare_P, ↓bare_dic, oDic0, zSetK, uDin, ↓asDic_d, zDput, fMin2S, fMax2S, uLenSet, oSplit, S.f.injEq, eq_self, ↓fAddA_i, ↓fAddA_s, ↓fAddA_t, uChain, oRep, fSortS, ↓slW_d, ↓slW_o, ↓slW_P, ↓slW_s, ↓hasS_d, ↓hasS_o, ↓hasS_f, ↓hasS_s, uV, uN, u1, o1, o2, oN, ↓fIn_l, ↓fIn_s, fCat, ↓fList_l, ↓fList_t, ↓fTup_l, ↓fTup_t, ↓lstR_l, ↓lstR_P, zM1, fApp, zIns, ↓slF_d, ↓slF_o, ↓slF_s, uVf, pNo, pSo, ↓fSl_s, ↓fSl_t, uSl, ↓scal_n, ↓scal_b, ↓scal_i, ↓scal_s, ↓kS_d, ↓ret_S, rNil, rD, rS, uCallA, ↓toS_d, ↓toS_f, ↓toS_s, ↓slS_0, ↓slS_s, ↓retA_d, ↓retA_o, ↓retA_O, ↓backL_n, ↓backL_s, ↓backL_d, ↓backL_f, ↓lok_n, ↓lok_s, ↓lok_d, ↓lok_f, ↓lent_n, ↓lent_s, ↓lent_d, ↓lent_f, bYes, oLc, ↓clr_n, ↓clr_c, ↓clr2_n, ↓clr2_c, ↓rest_n, ↓rest_c, ↓keep1_d, ↓keep1_o, ↓keep1_f, ↓keep1_no, ↓keep1_s, ↓asLL_l, oLL0, zLLn, zLLa, uLLlen, List.mem_cons, List.not_mem_nil, Nat.reduceEqDiff, eqv_list, eqv_tuple, eqv_none, ↓asI_i, ↓asB_b, ↓asS_s, ↓asL_l, ↓asT_t, ↓slD_0, ↓slD_s, ↓slO_0, ↓slO_s, ↓asR_l, ↓fAdd_i, ↓fAdd_s, ↓ixbo_0, ↓ixbo_1, ↓ixbo_2, ↓ixbo_3, ↓ixD_l, ↓ixD_t, ↓ixD_s, ↓arg2_2, ↓fLen1_l, ↓fLen1_t, ↓fLen1_s, ↓asC_c, ↓asQ_l, ↓asQ_t, ↓asQ_s, ↓kD_d, ↓kD_o, ↓kO_o, ↓fz_l, ↓fz_P, ↓fz_ll, ↓ret_d, ↓ret_o, ↓ret_O, ↓retL_d, ↓retL_o, ↓retL_O, ↓atD_0, ↓atD_1, ↓atD_2, ↓atD_3, ↓atD_b1, ↓atD_b2, ↓atD_b3, ↓ixP_30, ↓ixP_31, ↓ixP_32, ↓if_true, ↓if_false, zNext, zSet, zSetO, zRet, zRetO, zRetP, zIf, zAsg, zPut, gN, gsNil, gsCons, gT, uVar, uC, uFz, u2, fI, fI0, fEq, uCB, wB, wNot, wAnd, wOr, uAnd, uOr, aNil, aCons, uTup, oLst, fIx, oVar, iSeq, iR1, uCall, oCall, uLend, oLend, shaped_iff, sh_non, sh_int, sh_bool, sh_str, eqv_int, eqv_str, eqv_bool, ixN_30, ixN_31, ixN_32, ixN_20, ixN_21, atI_0, atI_1, atI_2, atI_3, atI_b1, atI_b2, atI_b3, List.length_map, Int.reduceEq, forall_const, implies_true, and_assoc, sz_0, sz_1, sz_2, sz_3, sz_4, sz_5, sz_6, sz_7, sz_8, Bool.not_eq_true', beq_eq_false_iff_ne, beq_iff_eq, ne_eq, Bool.and_eq_true, Bool.or_eq_true, decide_eq_false_iff_not, not_false_eq_true, not_true_eq_false, Bool.not_true, Bool.not_false, isS_n, isS_b, isS_i, isS_s, isS_l, isS_t, ca_0, ca_1, ca_2, ca_3, ca_4, ca_5, ca_6, Int.reduceToNat, Int.toNat_natCast, Int.reducePow, Int.reduceMul, Int.reduceLT, Int.reduceLE, Int.reduceNeg, zFor, List.replicate, List.length_cons, List.length_nil, List.nil_append, List.cons_append, List.append_nil, List.map_cons, List.map_nil, List.set_cons_zero, List.set_cons_succ, List.getElem?_cons_zero, List.getElem?_cons_succ, Option.some.injEq, S.d.injEq, S.o.injEq, Res.lst.injEq, Res.lstP.injEq, PyData.int.injEq, PyData.str.injEq, PyData.bool.injEq, PyData.list.injEq, PyData.tuple.injEq, List.cons.injEq, reduceCtorEq, exists_eq_left', exists_eq_left, exists_eq_right, exists_eq_right', true_and, and_true, false_and, and_false, exists_false, false_or, or_false, exists_and_left, exists_and_right, exists_eq', exists_eq, exists_const, Bool.false_eq_true, ite_true, ite_false, decide_eq_true_eq, Nat.sub_self, Nat.zero_add, Nat.add_sub_cancel, Nat.reduceSub, Nat.reduceAdd, ne_Clash_NoText, ne_Clash_Unfit, ne_NoText_Clash, ne_NoText_Unfit, ne_Unfit_Clash, ne_Unfit_NoText])
theorem c_need {P : Program} {w : World} {K : PySem.W.Frag} {mg : Str → Option Value} {base : Heap} (hb : Bi K mg) (D : Df K mg "need" (topS 21) ["truth"])  : CalY P w K mg base "need" 1 ["truth"] T_need := (by
  obtain ⟨f, fd, F, hm, hB⟩ := D
  refine ⟨f, fd, fn_dY (k := 0) F sc_need ?hT (fun cdv A outer s H E hr tk => (qy_one (s_ifY (t_not (tv (dv 0)))
 (qy_one (s_raiseY rfl tk hb.exf_NoText)) (ys_of q_nil)))), hm, F.kp, hB⟩
  case hT =>
    intro a Q E1 h
    obtain ⟨b, rfl, q⟩ := h
    refine ⟨rfl, ?_⟩
    (try walk_at "wpt")
    cases b with
    | true =>
      rw [if_pos rfl] at q
      rw [if_neg (by decide)]
      exact q _ (pat_consN pat_nil)
    | false =>
      rw [if_neg (by decide)] at q
      rw [if_pos rfl]
      exact q _ (pat_consN pat_nil)
  )
/-! rows of texts read -/
theorem sign_dig {n : Nat} (h : inSt (Str.ofString "0123456789") n = true) : 48 ≤ n ∧ n ≤ 57 := (by
  unfold inSt at h
  rw [PySem.StrLaws.found_one, decide_eq_true_eq] at h
  have key : ∀ k ∈ (Str.ofString "0123456789").cps.toList, 48 ≤ k ∧ k ≤ 57 := by decide +kernel
  exact key n h
  )
theorem dig_sign {n : Nat} (h : 48 ≤ n ∧ n ≤ 57) : inSt (Str.ofString "0123456789") n = true := (by
  unfold inSt
  rw [PySem.StrLaws.found_one, decide_eq_true_eq]
  have key : ∀ k ∈ List.range 10, 48 + k ∈ (Str.ofString "0123456789").cps.toList := by decide +kernel
  have := key (n - 48) (List.mem_range.mpr (by omega))
  rwa [show 48 + (n - 48) = n by omega] at this
  )
/-- the number that a text writes -/
def numF (w : Str) : Int := (PySem.intText? w).getD 0
theorem num_int {w : Str} (h : isNum w = true) : PySem.intText? w = some (numF w) ∧ w.length ≤ 60 ∧ 0 ≤ numF w := (by
  unfold isNum at h
  obtain ⟨h1, _⟩ := Bool.and_eq_true_iff.mp h
  unfold ofN at h1
  obtain ⟨a1, h1⟩ := Bool.and_eq_true_iff.mp h1
  obtain ⟨a2, a3⟩ := Bool.and_eq_true_iff.mp h1
  have a1 := of_decide_eq_true a1
  have a2 := of_decide_eq_true a2
  have wl : w.cps.toList.length = w.length := Array.length_toList
  have ad : PySem.NumText.AllDigits w.cps.toList := fun c hc => sign_dig (List.all_eq_true.mp a3 c hc)
  have e := PySem.intText_digits (x := w) ad (fun z => by rw [z] at wl; simp at wl; omega) (by omega)
  unfold numF
  rw [e]
  exact ⟨rfl, by omega, Int.natCast_nonneg _⟩
  )
def headF : List Str → Option Bo
  | [_, n, p, t] => if isNm n = true ∧ isNum p = true ∧ isNum t = true then some ⟨n, numF p, numF t, [[]]⟩ else none
  | _ => none
def layF : List Str → Option (Str × Int)
  | [_, m, t] => if isNm m = true ∧ isNum t = true then some (m, numF t) else none
  | _ => none
def likF : List Str → Option Lk3
  | [_, a, b, p] => if isNm a = true ∧ isNm b = true ∧ isNum p = true then some (a, b, numF p) else none
  | _ => none
/-- whether the last block has layers -/
def shutR (bs : List Bo) : Bool := match bs.getLast? with
  | none => true
  | some b => match b.bl.getLast? with
    | none => false
    | some k => !k.isEmpty
def onLast (f : Bo → Bo) (bs : List Bo) : List Bo := match bs.getLast? with
  | none => bs
  | some b => bs.dropLast ++ [f b]
def addLy (l : Str × Int) (b : Bo) : Bo := match b.bl.getLast? with
  | none => b
  | some k => { b with bl := b.bl.dropLast ++ [k ++ [l]] }
def addBl (b : Bo) : Bo := { b with bl := b.bl ++ [[]] }
abbrev RdS := List Bo × List Lk3
/-- a row laid to what was found -/
def layR (s : RdS) (ws : List Str) : Option RdS :=
  if ws.headD "" = ("like" : Str) then (if shutR s.1 = true then (likF ws).map fun l => (s.1, s.2 ++ [l]) else none)
  else if ws.headD "" = ("bore" : Str) then (if shutR s.1 = true ∧ s.2 = [] then (headF ws).map fun b => (s.1 ++ [b], s.2) else none)
  else if ws.headD "" = ("layer" : Str) then (if s.1 ≠ [] ∧ s.2 = [] then (layF ws).map fun l => (onLast (addLy l) s.1, s.2) else none)
  else if ws = ([("fault" : Str)] : List Str) ∧ shutR s.1 = true ∧ s.1 ≠ [] ∧ s.2 = [] then some (onLast addBl s.1, s.2) else none
def layRs : RdS → List (List Str) → Option RdS
  | s, [] => some s
  | s, ws :: r => (layR s ws).bind fun s' => layRs s' r
/-! what was found, as a tree -/
def boT (b : Bo) : OT := .tup [.dat (.str b.nm), .dat (.int b.at_), .dat (.int b.top), .lst (b.bl.map fun k => .lst ((k.map lyD).map .dat))]
def fndT (bs : List Bo) : OT := .lst (bs.map boT)
def lksT (ls : List Lk3) : OT := .lst ((ls.map lkD).map .dat)
/-- words of a row, short ones -/
def WsOk (ws : List Str) : Prop := ws.length ≤ 100000 ∧ ws ≠ [] ∧ ∀ w ∈ ws, PyData.strOk w = true ∧ w.length ≤ 100000
theorem WsOk.at {ws : List Str} (h : WsOk ws) {w : Str} (hw : w ∈ ws) : PyData.strOk w = true ∧ w.length ≤ 100000 := h.2.2 w hw
/-- what was found is short enough -/
structure RdOk (s : RdS) (n : Nat) : Prop where
  bs : s.1.length ≤ n
  bl : ∀ b ∈ s.1, b.bl ≠ [] ∧ b.bl.length ≤ n ∧ isNm b.nm = true ∧ ∀ k ∈ b.bl, k.length ≤ n ∧ ∀ l ∈ k, isNm l.1 = true
  ls : s.2.length ≤ n ∧ ∀ l ∈ s.2, isNm l.1 = true ∧ isNm l.2.1 = true
theorem last_ex {α : Type} {l : List α} (h : l ≠ []) : ∃ k x, l = k ++ [x] := (by
  rcases List.eq_nil_or_concat l with z | ⟨k, x, rfl⟩
  · exact absurd z h
  · exact ⟨k, x, by rw [List.concat_eq_append]⟩
  )
theorem onLast_at {f : Bo → Bo} {bs : List Bo} {b : Bo} : onLast f (bs ++ [b]) = bs ++ [f b] := (by
  unfold onLast
  simp
  )
theorem addLy_at {l : Str × Int} {nm : Str} {p t : Int} {bl : List (List (Str × Int))} {k : List (Str × Int)} : addLy l ⟨nm, p, t, bl ++ [k]⟩ = ⟨nm, p, t, bl ++ [k ++ [l]]⟩ := (by
  unfold addLy
  simp
  )
theorem shutR_at {bs : List Bo} {nm : Str} {p t : Int} {bl : List (List (Str × Int))} {k : List (Str × Int)} : shutR (bs ++ [⟨nm, p, t, bl ++ [k]⟩]) = decide (0 < (k.length : Int)) := (by
  unfold shutR
  simp
  cases k <;> simp <;> omega
  )
theorem isNm_len {w : Str} (h : isNm w = true) : w.length ≤ 8 := (by
  unfold isNm at h
  obtain ⟨_, h⟩ := Bool.and_eq_true_iff.mp h
  obtain ⟨h, _⟩ := Bool.and_eq_true_iff.mp h
  have := of_decide_eq_true h
  omega
  )
theorem headF_some {ws : List Str} {b : Bo} (h : headF ws = some b) : isNm b.nm = true ∧ b.bl = [[]] := (by
  unfold headF at h
  split at h
  · split at h
    · cases h
      rename_i z
      exact ⟨z.1, rfl⟩
    · cases h
  · cases h
  )
theorem layF_some {ws : List Str} {l : Str × Int} (h : layF ws = some l) : isNm l.1 = true := (by
  unfold layF at h
  split at h
  · split at h
    · cases h
      rename_i z
      exact z.1
    · cases h
  · cases h
  )
theorem likF_some {ws : List Str} {l : Lk3} (h : likF ws = some l) : isNm l.1 = true ∧ isNm l.2.1 = true := (by
  unfold likF at h
  split at h
  · split at h
    · cases h
      rename_i z
      exact ⟨z.1, z.2.1⟩
    · cases h
  · cases h
  )
theorem layR_ok {s s' : RdS} {ws : List Str} {n : Nat} (ok : RdOk s n) (h : layR s ws = some s') : RdOk s' (n + 1) := (by
  obtain ⟨bs, ls⟩ := s
  obtain ⟨h1, h2, h3⟩ := ok
  have up : ∀ b ∈ bs, b.bl ≠ [] ∧ b.bl.length ≤ n + 1 ∧ isNm b.nm = true ∧ ∀ k ∈ b.bl, k.length ≤ n + 1 ∧ ∀ l ∈ k, isNm l.1 = true := fun b hb => by
    obtain ⟨a1, a2, a3, a4⟩ := h2 b hb
    exact ⟨a1, by omega, a3, fun k hk => ⟨by have := (a4 k hk).1; omega, (a4 k hk).2⟩⟩
  unfold layR at h
  simp only at h
  split at h
  · split at h
    · obtain ⟨l, hl, e⟩ := Option.map_eq_some_iff.mp h
      cases e
      refine ⟨Nat.le_succ_of_le h1, up, by rw [List.length_append]; exact Nat.succ_le_succ h3.1, fun x hx => ?_⟩
      rcases List.mem_append.mp hx with z | z
      · exact h3.2 x z
      · rw [List.mem_singleton.mp z]; exact likF_some hl
    · cases h
  · split at h
    · split at h
      · obtain ⟨b, hb, e⟩ := Option.map_eq_some_iff.mp h
        cases e
        refine ⟨by rw [List.length_append]; exact Nat.succ_le_succ h1, fun x hx => ?_, Nat.le_succ_of_le h3.1, h3.2⟩
        rcases List.mem_append.mp hx with z | z
        · exact up x z
        · obtain ⟨n1, n2⟩ := headF_some hb
          rw [List.mem_singleton.mp z, n2]
          exact ⟨by simp, by simp, n1, fun k hk => by rw [List.mem_singleton.mp hk]; exact ⟨Nat.zero_le _, fun l hl => by cases hl⟩⟩
      · cases h
    · split at h
      · split at h
        · obtain ⟨l, hl, e⟩ := Option.map_eq_some_iff.mp h
          cases e
          rename_i hne
          obtain ⟨bs, b, rfl⟩ := last_ex hne.1
          rw [onLast_at]
          obtain ⟨b1, b2, b3, b4⟩ := h2 b (List.mem_append_right _ (by simp))
          obtain ⟨nm, p, t, bl⟩ := b
          obtain ⟨bl, k, rfl⟩ := last_ex b1
          rw [addLy_at]
          refine ⟨by rw [List.length_append] at h1 ⊢; exact Nat.le_succ_of_le h1, fun x hx => ?_, Nat.le_succ_of_le h3.1, h3.2⟩
          rcases List.mem_append.mp hx with z | z
          · exact up x (List.mem_append_left _ z)
          · rw [List.mem_singleton.mp z]
            rw [List.length_append] at b2
            refine ⟨by simp, by rw [List.length_append]; exact Nat.le_succ_of_le b2, b3, fun k' hk => ?_⟩
            rcases List.mem_append.mp hk with z | z
            · have := b4 k' (List.mem_append_left _ z)
              exact ⟨by omega, this.2⟩
            · rw [List.mem_singleton.mp z]
              have := b4 k (List.mem_append_right _ (by simp))
              refine ⟨by rw [List.length_append]; exact Nat.succ_le_succ this.1, fun y hy => ?_⟩
              rcases List.mem_append.mp hy with z | z
              · exact this.2 y z
              · rw [List.mem_singleton.mp z]; exact layF_some hl
        · cases h
      · split at h
        · cases h
          rename_i hne
          obtain ⟨bs, b, rfl⟩ := last_ex hne.2.2.1
          rw [onLast_at]
          obtain ⟨b1, b2, b3, b4⟩ := up b (List.mem_append_right _ (by simp))
          have b2' := (h2 b (List.mem_append_right _ (by simp))).2.1
          refine ⟨by rw [List.length_append] at h1 ⊢; exact Nat.le_succ_of_le h1, fun x hx => ?_, Nat.le_succ_of_le h3.1, h3.2⟩
          rcases List.mem_append.mp hx with z | z
          · exact up x (List.mem_append_left _ z)
          · rw [List.mem_singleton.mp z]
            refine ⟨by unfold addBl; simp, by unfold addBl; rw [List.length_append]; exact Nat.succ_le_succ b2', b3, fun k hk => ?_⟩
            unfold addBl at hk
            rcases List.mem_append.mp hk with z | z
            · exact b4 k z
            · rw [List.mem_singleton.mp z]; exact ⟨Nat.zero_le _, fun l hl => by cases hl⟩
        · cases h
  )
theorem ixN_last {n : Nat} : ixN (n + 1) (-1) = some n := (by
  unfold ixN
  simp
  try omega
  )
theorem ixT_last {ts : List OT} {t : OT} {Q : Nat → OT → Prop} (h : Q ts.length t) : ixT (.lst (ts ++ [t])) (.int (-1)) Q := ⟨ts.length, t, by rw [List.length_append]; exact ixN_last, by simp, h⟩
theorem ixT_43 {a b c d : OT} {Q : Nat → OT → Prop} (h : Q 3 d) : ixT (.tup [a, b, c, d]) (.int 3) Q := ⟨3, d, by show ixN 4 3 = some 3; decide, rfl, h⟩
theorem getE_at {α : Type} {l : List α} {a d : α} : (l ++ [a])[l.length]?.getD d = a := by simp
theorem set_at {α : Type} {l : List α} {a b : α} : (l ++ [a]).set l.length b = l ++ [b] := by simp
theorem boT_at {nm : Str} {p t : Int} {bl : List (List (Str × Int))} {k : List (Str × Int)} : boT ⟨nm, p, t, bl ++ [k]⟩ = .tup [.dat (.str nm), .dat (.int p), .dat (.int t), .lst (bl.map (fun k => OT.lst ((k.map lyD).map .dat)) ++ [OT.lst ((k.map lyD).map .dat)])] := by unfold boT; rw [List.map_append]; rfl
theorem tup3_get {α : Type} {a b c d e : α} : [a, b, c, d][3]?.getD e = d := rfl
theorem tup3_set {α : Type} {a b c d e : α} : [a, b, c, d].set 3 e = [a, b, c, e] := rfl
theorem pl_strs {ws : List Str} (h : ∀ w ∈ ws, PyData.strOk w = true) : Pl 1 (.list (ws.map PyData.str)) := pl_map fun w hw => pl_str (h w hw)
theorem eqv_strs {ws vs : List Str} (h : ∀ w ∈ ws, PyData.strOk w = true) (h' : ∀ w ∈ vs, PyData.strOk w = true) : PyData.eqvAll (ws.map PyData.str) (vs.map PyData.str) = decide (ws = vs) := (by
  rw [← eqv_list, (pl_strs h).eqv (pl_strs h'), Bool.eq_iff_iff, decide_eq_true_eq, decide_eq_true_eq]
  constructor
  · intro z
    injection z with z
    exact str_inj z
  · intro z
    rw [z]
  )
def T_head_of : TFY := fun a Q E => ∃ (ws : List Str), a = [.d (.list (ws.map PyData.str))] ∧ WsOk ws ∧ (headF ws = none → retE [none] E "NoText" []) ∧ ∀ b, headF ws = some b → retA [none] Q (.o none (.tr (boT b)))
theorem sc_head_of : FnScope ["words"] ["words"] (defScope (topS 22)) := ⟨rfl, rfl, rfl, by decide +kernel, rfl, by decide +kernel, by decide +kernel⟩
local macro_rules | `(tactic| walk_at "wpt") => `(tactic| simp (maxSteps := 1000000) only [↓TE_need, ↓TE_is_number, ↓TE_is_name, ↓reduceIte, xHand, uIsP, zPlAppY, zPlAppX, xTupL, aoLast, aoCons, uLenPl, oTl0, ↓asOTx_d, ↓asOTx_o, yNil, yCons, zSeqY, zIfY, zRaiseY, zExY, zRetXY, zForY, yCallA, ↓retE_k, zRaise2, uXf, zTryL, ↓atY_cons, ↓ret_wd, ↓ret_wo, ↓ret_wt, kC, ↓asTr_t, ↓asDs_l, ↓asDs_n, ↓asLs_l, ↓asOT_l, ↓asOT_t, ↓asOT_ll, pVar, pIx, uPlV, ↓asOw_o, ↓mvS_d, ↓mvS_f, ↓mvS_o, zRetX, oX, ↓frS_d, ↓frS_f, ↓plainA_n, ↓plainA_d, ↓plainA_f, ↓ret_xd, ↓ret_xf, ↓ret_xo, ↓retA_xd, ↓retA_xf, ↓retA_xo, ↓ret_vd, ↓ret_vo, OT.areD, OT.isD, OT.toDs, OT.toD, OT.upd, OT.wch, OT.ch, ↓retA_kO, ↓retA_kD, ↓retA_kDo, ↓retA_kS, ↓asBs_m, ↓asSs_m, fAll, fStr, ↓fIntS_i, ↓fIntS_b, ↓fIntS_s, oLcN, fSortST, zSeqX, zIfX, zRaise, ↓bare_d, ↓bare_o, ↓bare_l, ↓bare_no, ↓bare_f, ↓bare_tr, ↓bare_g, ↓bare_P, ↓bare_dic, oDic0, zSetK, uDin, ↓asDic_d, zDput, fMin2S, fMax2S, uLenSet, oSplit, S.f.injEq, eq_self, ↓fAddA_i, ↓fAddA_s, ↓fAddA_t, uChain, oRep, fSortS, ↓slW_d, ↓slW_o, ↓slW_P, ↓slW_s, ↓hasS_d, ↓hasS_o, ↓hasS_f, ↓hasS_s, uV, uN, u1, o1, o2, oN, ↓fIn_l, ↓fIn_s, fCat, ↓fList_l, ↓fList_t, ↓fTup_l, ↓fTup_t, ↓lstR_l, ↓lstR_P, zM1, fApp, zIns, ↓slF_d, ↓slF_o, ↓slF_s, uVf, pNo, pSo, ↓fSl_s, ↓fSl_t, uSl, ↓scal_n, ↓scal_b, ↓scal_i, ↓scal_s, ↓kS_d, ↓ret_S, rNil, rD, rS, uCallA, ↓toS_d, ↓toS_f, ↓toS_s, ↓slS_0, ↓slS_s, ↓retA_d, ↓retA_o, ↓retA_O, ↓backL_n, ↓backL_s, ↓backL_d, ↓backL_f, ↓lok_n, ↓lok_s, ↓lok_d, ↓lok_f, ↓lent_n, ↓lent_s, ↓lent_d, ↓lent_f, bYes, oLc, ↓clr_n, ↓clr_c, ↓clr2_n, ↓clr2_c, ↓rest_n, ↓rest_c, ↓keep1_d, ↓keep1_o, ↓keep1_f, ↓keep1_no, ↓keep1_s, ↓asLL_l, oLL0, zLLn, zLLa, uLLlen, List.mem_cons, List.not_mem_nil, Nat.reduceEqDiff, eqv_list, eqv_tuple, eqv_none, ↓asI_i, ↓asB_b, ↓asS_s, ↓asL_l, ↓asT_t, ↓slD_0, ↓slD_s, ↓slO_0, ↓slO_s, ↓asR_l, ↓fAdd_i, ↓fAdd_s, ↓ixbo_0, ↓ixbo_1, ↓ixbo_2, ↓ixbo_3, ↓ixD_l, ↓ixD_t, ↓ixD_s, ↓arg2_2, ↓fLen1_l, ↓fLen1_t, ↓fLen1_s, ↓asC_c, ↓asQ_l, ↓asQ_t, ↓asQ_s, ↓kD_d, ↓kD_o, ↓kO_o, ↓fz_l, ↓fz_P, ↓fz_ll, ↓ret_d, ↓ret_o, ↓ret_O, ↓retL_d, ↓retL_o, ↓retL_O, ↓atD_0, ↓atD_1, ↓atD_2, ↓atD_3, ↓atD_b1, ↓atD_b2, ↓atD_b3, ↓ixP_30, ↓ixP_31, ↓ixP_32, ↓if_true, ↓if_false, zNext, zSeq, zSet, zSetO, zRet, zRetO, zRetP, zIf, zAsg, zPut, gN, gsNil, gsCons, gT, uVar, uC, uFz, u2, fI, fI0, fEq, uCB, wB, wNot, wAnd, wOr, uAnd, uOr, aNil, aCons, uTup, oLst, fIx, oVar, iSeq, iR1, uCall, oCall, uLend, oLend, shaped_iff, sh_non, sh_int, sh_bool, sh_str, eqv_int, eqv_str, eqv_bool, ixN_30, ixN_31, ixN_32, ixN_20, ixN_21, atI_0, atI_1, atI_2, atI_3, atI_b1, atI_b2, atI_b3, List.length_map, Int.reduceEq, forall_const, implies_true, and_assoc, sz_0, sz_1, sz_2, sz_3, sz_4, sz_5, sz_6, sz_7, sz_8, Bool.not_eq_true', beq_eq_false_iff_ne, beq_iff_eq, ne_eq, Bool.and_eq_true, Bool.or_eq_true, decide_eq_false_iff_not, not_false_eq_true, not_true_eq_false, Bool.not_true, Bool.not_false, isS_n, isS_b, isS_i, isS_s, isS_l, isS_t, ca_0, ca_1, ca_2, ca_3, ca_4, ca_5, ca_6, Int.reduceToNat, Int.toNat_natCast, Int.reducePow, Int.reduceMul, Int.reduceLT, Int.reduceLE, Int.reduceNeg, zFor, List.replicate, List.length_cons, List.length_nil, List.nil_append, List.cons_append, List.append_nil, List.map_cons, List.map_nil, List.set_cons_zero, List.set_cons_succ, List.getElem?_cons_zero, List.getElem?_cons_succ, Option.some.injEq, S.d.injEq, S.o.injEq, Res.lst.injEq, Res.lstP.injEq, PyData.int.injEq, PyData.str.injEq, PyData.bool.injEq, PyData.list.injEq, PyData.tuple.injEq, List.cons.injEq, reduceCtorEq, exists_eq_left', exists_eq_left, exists_eq_right, exists_eq_right', true_and, and_true, false_and, and_false, exists_false, false_or, or_false, exists_and_left, exists_and_right, exists_eq', exists_eq, exists_const, Bool.false_eq_true, ite_true, ite_false, decide_eq_true_eq, Nat.sub_self, Nat.zero_add, Nat.add_sub_cancel, Nat.reduceSub, Nat.reduceAdd, ne_Clash_NoText, ne_Clash_Unfit, ne_NoText_Clash, ne_NoText_Unfit, ne_Unfit_Clash, ne_Unfit_NoText])
local macro_rules | `(tactic| walk_at "st") => `(tactic| simp (maxSteps := 1000000) only [↓TE_need, ↓TE_is_number, ↓TE_is_name, ↓reduceIte, xHand, uIsP, zPlAppY, zPlAppX, xTupL, aoLast, aoCons, uLenPl, oTl0, ↓asOTx_d, ↓asOTx_o, yNil, yCons, zSeqY, zIfY, zRaiseY, zExY, zRetXY, zForY, yCallA, ↓retE_k, zRaise2, uXf, zTryL, ↓atY_cons, ↓ret_wd, ↓ret_wo, ↓ret_wt, kC, ↓asTr_t, ↓asDs_l, ↓asDs_n, ↓asLs_l, ↓asOT_l, ↓asOT_t, ↓asOT_ll, pVar, pIx, uPlV, ↓asOw_o, ↓mvS_d, ↓mvS_f, ↓mvS_o, zRetX, oX, ↓frS_d, ↓frS_f, ↓plainA_n, ↓plainA_d, ↓plainA_f, ↓ret_xd, ↓ret_xf, ↓ret_xo, ↓retA_xd, ↓retA_xf, ↓retA_xo, ↓ret_vd, ↓ret_vo, OT.areD, OT.isD, OT.toDs, OT.toD, OT.upd, OT.wch, OT.ch, ↓retA_kO, ↓retA_kD, ↓retA_kDo, ↓retA_kS, ↓asBs_m, ↓asSs_m, fAll, fStr, ↓fIntS_i, ↓fIntS_b, ↓fIntS_s, oLcN, fSortST, zSeqX, zIfX, zRaise, ↓bare_d, ↓bare_o, ↓bare_l, ↓bare_no, ↓bare_f, ↓bare_tr, ↓bare_g, ↓bare_P, ↓bare_dic, oDic0, zSetK, uDin, ↓asDic_d, zDput, fMin2S, fMax2S, uLenSet, oSplit, S.f.injEq, eq_self, ↓fAddA_i, ↓fAddA_s, ↓fAddA_t, uChain, oRep, fSortS, ↓slW_d, ↓slW_o, ↓slW_P, ↓slW_s, ↓hasS_d, ↓hasS_o, ↓hasS_f, ↓hasS_s, uV, uN, u1, o1, o2, oN, ↓fIn_l, ↓fIn_s, fCat, ↓fList_l, ↓fList_t, ↓fTup_l, ↓fTup_t, ↓lstR_l, ↓lstR_P, zM1, fApp, zIns, ↓slF_d, ↓slF_o, ↓slF_s, uVf, pNo, pSo, ↓fSl_s, ↓fSl_t, uSl, ↓scal_n, ↓scal_b, ↓scal_i, ↓scal_s, ↓kS_d, ↓ret_S, rNil, rD, rS, uCallA, ↓toS_d, ↓toS_f, ↓toS_s, ↓slS_0, ↓slS_s, ↓retA_d, ↓retA_o, ↓retA_O, ↓backL_n, ↓backL_s, ↓backL_d, ↓backL_f, ↓lok_n, ↓lok_s, ↓lok_d, ↓lok_f, ↓lent_n, ↓lent_s, ↓lent_d, ↓lent_f, bYes, oLc, ↓clr_n, ↓clr_c, ↓clr2_n, ↓clr2_c, ↓rest_n, ↓rest_c, ↓keep1_d, ↓keep1_o, ↓keep1_f, ↓keep1_no, ↓keep1_s, ↓asLL_l, oLL0, zLLn, zLLa, uLLlen, List.mem_cons, List.not_mem_nil, Nat.reduceEqDiff, eqv_list, eqv_tuple, eqv_none, ↓asI_i, ↓asB_b, ↓asS_s, ↓asL_l, ↓asT_t, ↓slD_0, ↓slD_s, ↓slO_0, ↓slO_s, ↓asR_l, ↓fAdd_i, ↓fAdd_s, ↓ixbo_0, ↓ixbo_1, ↓ixbo_2, ↓ixbo_3, ↓ixD_l, ↓ixD_t, ↓ixD_s, ↓arg2_2, ↓fLen1_l, ↓fLen1_t, ↓fLen1_s, ↓asC_c, ↓asQ_l, ↓asQ_t, ↓asQ_s, ↓kD_d, ↓kD_o, ↓kO_o, ↓fz_l, ↓fz_P, ↓fz_ll, ↓ret_d, ↓ret_o, ↓ret_O, ↓retL_d, ↓retL_o, ↓retL_O, ↓atD_0, ↓atD_1, ↓atD_2, ↓atD_3, ↓atD_b1, ↓atD_b2, ↓atD_b3, ↓ixP_30, ↓ixP_31, ↓ixP_32, ↓if_true, ↓if_false, zNext, zSet, zSetO, zRet, zRetO, zRetP, zIf, zAsg, zPut, gN, gsNil, gsCons, gT, uVar, uC, uFz, u2, fI, fI0, fEq, uCB, wB, wNot, wAnd, wOr, uAnd, uOr, aNil, aCons, uTup, oLst, fIx, oVar, iSeq, iR1, uCall, oCall, uLend, oLend, shaped_iff, sh_non, sh_int, sh_bool, sh_str, eqv_int, eqv_str, eqv_bool, ixN_30, ixN_31, ixN_32, ixN_20, ixN_21, atI_0, atI_1, atI_2, atI_3, atI_b1, atI_b2, atI_b3, List.length_map, Int.reduceEq, forall_const, implies_true, and_assoc, sz_0, sz_1, sz_2, sz_3, sz_4, sz_5, sz_6, sz_7, sz_8, Bool.not_eq_true', beq_eq_false_iff_ne, beq_iff_eq, ne_eq, Bool.and_eq_true, Bool.or_eq_true, decide_eq_false_iff_not, not_false_eq_true, not_true_eq_false, Bool.not_true, Bool.not_false, isS_n, isS_b, isS_i, isS_s, isS_l, isS_t, ca_0, ca_1, ca_2, ca_3, ca_4, ca_5, ca_6, Int.reduceToNat, Int.toNat_natCast, Int.reducePow, Int.reduceMul, Int.reduceLT, Int.reduceLE, Int.reduceNeg, zFor, List.replicate, List.length_cons, List.length_nil, List.nil_append, List.cons_append, List.append_nil, List.map_cons, List.map_nil, List.set_cons_zero, List.set_cons_succ, List.getElem?_cons_zero, List.getElem?_cons_succ, Option.some.injEq, S.d.injEq, S.o.injEq, Res.lst.injEq, Res.lstP.injEq, PyData.int.injEq, PyData.str.injEq, PyData.bool.injEq, PyData.list.injEq, PyData.tuple.injEq, List.cons.injEq, reduceCtorEq, exists_eq_left', exists_eq_left, exists_eq_right, exists_eq_right', true_and, and_true, false_and, and_false, exists_false, false_or, or_false, exists_and_left, exists_and_right, exists_eq', exists_eq, exists_const, Bool.false_eq_true, ite_true, ite_false, decide_eq_true_eq, Nat.sub_self, Nat.zero_add, Nat.add_sub_cancel, Nat.reduceSub, Nat.reduceAdd, ne_Clash_NoText, ne_Clash_Unfit, ne_NoText_Clash, ne_NoText_Unfit, ne_Unfit_Clash, ne_Unfit_NoText])
theorem c_head_of {P : Program} {w : World} {K : PySem.W.Frag} {mg : Str → Option Value} {base : Heap} (hb : Bi K mg) (D : Df K mg "head_of" (topS 22) ["words"]) (C_need : CalY P w K mg base "need" 1 ["truth"] T_need) (C_is_number : Cal P w K mg base "is_number" 1 ["word"] T_is_number) (C_is_name : Cal P w K mg base "is_name" 1 ["word"] T_is_name) : CalY P w K mg base "head_of" 2 ["words"] T_head_of := (by
  obtain ⟨f, fd, F, hm, hB⟩ := D
  refine ⟨f, fd, fn_dY (k := 1) F sc_head_of ?hT (fun cdv A outer s H E hr tk => (qy_cons (sy_expr (y_callA tk C_need (hr.mono (by decide)) (r_d (d_and (d_eq hr.units (d_lenV hb.len (vv 0)) d_int) (d_and (d_callC C_is_name (hr.mono (by decide)) (a_cons (d_ixN 0 (fun _ _ => rfl) d_int) a_nil)) (d_and (d_callC C_is_number (hr.mono (by decide)) (a_cons (d_ixN 0 (fun _ _ => rfl) d_int) a_nil)) (d_one (d_callC C_is_number (hr.mono (by decide)) (a_cons (d_ixN 0 (fun _ _ => rfl) d_int) a_nil)))))) r_nil)))
 (ys_of (q_one (s_retX (x_tupL (ao_cons (d_ixN 0 (fun _ _ => rfl) d_int) (ao_cons (d_intS hb.int (DE.dv (d_ixN 0 (fun _ _ => rfl) d_int))) (ao_cons (d_intS hb.int (DE.dv (d_ixN 0 (fun _ _ => rfl) d_int))) (ao_last (x_o o_ll0))))))))))), hm, F.kp, hB⟩
  case hT =>
    intro a Q E1 h
    obtain ⟨ws, rfl, hw, q1, q2⟩ := h
    refine ⟨rfl, ?_⟩
    have hsz := sizeLine_eq
    (refine seq_gen fun Nx hS => ?_; walk_at "st")
    have at_ : ∀ {i : Nat} {w : Str}, ws[i]? = some w → PyData.strOk w = true ∧ w.length ≤ 100000 := fun h => hw.at (List.mem_of_getElem? h)
    by_cases h4 : ws.length = 4
    · obtain ⟨a, n, p, t, rfl⟩ : ∃ a n p t, ws = [a, n, p, t] := by
        match ws, h4 with
        | [a, n, p, t], _ => exact ⟨a, n, p, t, rfl⟩
      obtain ⟨n1, n2⟩ := at_ (i := 1) rfl
      obtain ⟨p1, p2⟩ := at_ (i := 2) rfl
      obtain ⟨t1, t2⟩ := at_ (i := 3) rfl
      (try walk_at "wpt")
      refine ⟨n2, ?_⟩
      by_cases hn : isNm n = true
      · rw [if_pos hn]
        refine ⟨p1, p2, ?_⟩
        by_cases hp : isNum p = true
        · rw [if_pos hp]
          refine ⟨t1, t2, ?_⟩
          by_cases ht : isNum t = true
          · rw [if_pos ht]
            (refine hS _ ?_; try clear hS; (repeat (refine seq_gen fun Nx hS => ?_; walk_at "st"; refine hS _ ?_; clear hS)))
            (try walk_at "wpt")
            refine ⟨numF p, (num_int hp).1, by have := (num_int hp).2.1; omega, ?_⟩
            refine ⟨numF t, (num_int ht).1, by have := (num_int ht).2.1; omega, ?_⟩
            refine ⟨by omega, ?_⟩
            exact q2 ⟨n, numF p, numF t, [[]]⟩ (by simp [headF, hn, hp, ht]) _ (pat_consN pat_nil)
          · rw [if_neg ht]
            exact q1 (by simp [headF, hn, hp, ht]) _ (pat_consN pat_nil)
        · rw [if_neg hp]
          exact q1 (by simp [headF, hn, hp]) _ (pat_consN pat_nil)
      · rw [if_neg hn]
        exact q1 (by simp [headF, hn]) _ (pat_consN pat_nil)
    · rw [if_neg (by omega)]
      refine q1 ?_ _ (pat_consN pat_nil)
      unfold headF
      split
      · exact absurd rfl h4
      · rfl
  )
def T_layer_of : TFY := fun a Q E => ∃ (ws : List Str), a = [.d (.list (ws.map PyData.str))] ∧ WsOk ws ∧ (layF ws = none → retE [none] E "NoText" []) ∧ ∀ b, layF ws = some b → retA [none] Q (.d (lyD b))
theorem sc_layer_of : FnScope ["words"] ["words"] (defScope (topS 23)) := ⟨rfl, rfl, rfl, by decide +kernel, rfl, by decide +kernel, by decide +kernel⟩
local macro_rules | `(tactic| walk_at "wpt") => `(tactic| simp (maxSteps := 1000000) only [↓TE_need, ↓TE_is_number, ↓TE_is_name, ↓reduceIte, xHand, uIsP, zPlAppY, zPlAppX, xTupL, aoLast, aoCons, uLenPl, oTl0, ↓asOTx_d, ↓asOTx_o, yNil, yCons, zSeqY, zIfY, zRaiseY, zExY, zRetXY, zForY, yCallA, ↓retE_k, zRaise2, uXf, zTryL, ↓atY_cons, ↓ret_wd, ↓ret_wo, ↓ret_wt, kC, ↓asTr_t, ↓asDs_l, ↓asDs_n, ↓asLs_l, ↓asOT_l, ↓asOT_t, ↓asOT_ll, pVar, pIx, uPlV, ↓asOw_o, ↓mvS_d, ↓mvS_f, ↓mvS_o, zRetX, oX, ↓frS_d, ↓frS_f, ↓plainA_n, ↓plainA_d, ↓plainA_f, ↓ret_xd, ↓ret_xf, ↓ret_xo, ↓retA_xd, ↓retA_xf, ↓retA_xo, ↓ret_vd, ↓ret_vo, OT.areD, OT.isD, OT.toDs, OT.toD, OT.upd, OT.wch, OT.ch, ↓retA_kO, ↓retA_kD, ↓retA_kDo, ↓retA_kS, ↓asBs_m, ↓asSs_m, fAll, fStr, ↓fIntS_i, ↓fIntS_b, ↓fIntS_s, oLcN, fSortST, zSeqX, zIfX, zRaise, ↓bare_d, ↓bare_o, ↓bare_l, ↓bare_no, ↓bare_f, ↓bare_tr, ↓bare_g, ↓bare_P, ↓bare_dic, oDic0, zSetK, uDin, ↓asDic_d, zDput, fMin2S, fMax2S, uLenSet, oSplit, S.f.injEq, eq_self, ↓fAddA_i, ↓fAddA_s, ↓fAddA_t, uChain, oRep, fSortS, ↓slW_d, ↓slW_o, ↓slW_P, ↓slW_s, ↓hasS_d, ↓hasS_o, ↓hasS_f, ↓hasS_s, uV, uN, u1, o1, o2, oN, ↓fIn_l, ↓fIn_s, fCat, ↓fList_l, ↓fList_t, ↓fTup_l, ↓fTup_t, ↓lstR_l, ↓lstR_P, zM1, fApp, zIns, ↓slF_d, ↓slF_o, ↓slF_s, uVf, pNo, pSo, ↓fSl_s, ↓fSl_t, uSl, ↓scal_n, ↓scal_b, ↓scal_i, ↓scal_s, ↓kS_d, ↓ret_S, rNil, rD, rS, uCallA, ↓toS_d, ↓toS_f, ↓toS_s, ↓slS_0, ↓slS_s, ↓retA_d, ↓retA_o, ↓retA_O, ↓backL_n, ↓backL_s, ↓backL_d, ↓backL_f, ↓lok_n, ↓lok_s, ↓lok_d, ↓lok_f, ↓lent_n, ↓lent_s, ↓lent_d, ↓lent_f, bYes, oLc, ↓clr_n, ↓clr_c, ↓clr2_n, ↓clr2_c, ↓rest_n, ↓rest_c, ↓keep1_d, ↓keep1_o, ↓keep1_f, ↓keep1_no, ↓keep1_s, ↓asLL_l, oLL0, zLLn, zLLa, uLLlen, List.mem_cons, List.not_mem_nil, Nat.reduceEqDiff, eqv_list, eqv_tuple, eqv_none, ↓asI_i, ↓asB_b, ↓asS_s, ↓asL_l, ↓asT_t, ↓slD_0, ↓slD_s, ↓slO_0, ↓slO_s, ↓asR_l, ↓fAdd_i, ↓fAdd_s, ↓ixbo_0, ↓ixbo_1, ↓ixbo_2, ↓ixbo_3, ↓ixD_l, ↓ixD_t, ↓ixD_s, ↓arg2_2, ↓fLen1_l, ↓fLen1_t, ↓fLen1_s, ↓asC_c, ↓asQ_l, ↓asQ_t, ↓asQ_s, ↓kD_d, ↓kD_o, ↓kO_o, ↓fz_l, ↓fz_P, ↓fz_ll, ↓ret_d, ↓ret_o, ↓ret_O, ↓retL_d, ↓retL_o, ↓retL_O, ↓atD_0, ↓atD_1, ↓atD_2, ↓atD_3, ↓atD_b1, ↓atD_b2, ↓atD_b3, ↓ixP_30, ↓ixP_31, ↓ixP_32, ↓if_true, ↓if_false, zNext, zSeq, zSet, zSetO, zRet, zRetO, zRetP, zIf, zAsg, zPut, gN, gsNil, gsCons, gT, uVar, uC, uFz, u2, fI, fI0, fEq, uCB, wB, wNot, wAnd, wOr, uAnd, uOr, aNil, aCons, uTup, oLst, fIx, oVar, iSeq, iR1, uCall, oCall, uLend, oLend, shaped_iff, sh_non, sh_int, sh_bool, sh_str, eqv_int, eqv_str, eqv_bool, ixN_30, ixN_31, ixN_32, ixN_20, ixN_21, atI_0, atI_1, atI_2, atI_3, atI_b1, atI_b2, atI_b3, List.length_map, Int.reduceEq, forall_const, implies_true, and_assoc, sz_0, sz_1, sz_2, sz_3, sz_4, sz_5, sz_6, sz_7, sz_8, Bool.not_eq_true', beq_eq_false_iff_ne, beq_iff_eq, ne_eq, Bool.and_eq_true, Bool.or_eq_true, decide_eq_false_iff_not, not_false_eq_true, not_true_eq_false, Bool.not_true, Bool.not_false, isS_n, isS_b, isS_i, isS_s, isS_l, isS_t, ca_0, ca_1, ca_2, ca_3, ca_4, ca_5, ca_6, Int.reduceToNat, Int.toNat_natCast, Int.reducePow, Int.reduceMul, Int.reduceLT, Int.reduceLE, Int.reduceNeg, zFor, List.replicate, List.length_cons, List.length_nil, List.nil_append, List.cons_append, List.append_nil, List.map_cons, List.map_nil, List.set_cons_zero, List.set_cons_succ, List.getElem?_cons_zero, List.getElem?_cons_succ, Option.some.injEq, S.d.injEq, S.o.injEq, Res.lst.injEq, Res.lstP.injEq, PyData.int.injEq, PyData.str.injEq, PyData.bool.injEq, PyData.list.injEq, PyData.tuple.injEq, List.cons.injEq, reduceCtorEq, exists_eq_left', exists_eq_left, exists_eq_right, exists_eq_right', true_and, and_true, false_and, and_false, exists_false, false_or, or_false, exists_and_left, exists_and_right, exists_eq', exists_eq, exists_const, Bool.false_eq_true, ite_true, ite_false, decide_eq_true_eq, Nat.sub_self, Nat.zero_add, Nat.add_sub_cancel, Nat.reduceSub, Nat.reduceAdd, ne_Clash_NoText, ne_Clash_Unfit, ne_NoText_Clash, ne_NoText_Unfit, ne_Unfit_Clash, ne_Unfit_NoText])
local macro_rules | `(tactic| walk_at "st") => `(tactic| simp (maxSteps := 1000000) only [↓TE_need, ↓TE_is_number, ↓TE_is_name, ↓reduceIte, xHand, uIsP, zPlAppY, zPlAppX, xTupL, aoLast, aoCons, uLenPl, oTl0, ↓asOTx_d, ↓asOTx_o, yNil, yCons, zSeqY, zIfY, zRaiseY, zExY, zRetXY, zForY, yCallA, ↓retE_k, zRaise2, uXf, zTryL, ↓atY_cons, ↓ret_wd, ↓ret_wo, ↓ret_wt, kC, ↓asTr_t, ↓asDs_l, ↓asDs_n, ↓asLs_l, ↓asOT_l, ↓asOT_t, ↓asOT_ll, pVar, pIx, uPlV, ↓asOw_o, ↓mvS_d, ↓mvS_f, ↓mvS_o, zRetX, oX, ↓frS_d, ↓frS_f, ↓plainA_n, ↓plainA_d, ↓plainA_f, ↓ret_xd, ↓ret_xf, ↓ret_xo, ↓retA_xd, ↓retA_xf, ↓retA_xo, ↓ret_vd, ↓ret_vo, OT.areD, OT.isD, OT.toDs, OT.toD, OT.upd, OT.wch, OT.ch, ↓retA_kO, ↓retA_kD, ↓retA_kDo, ↓retA_kS, ↓asBs_m, ↓asSs_m, fAll, fStr, ↓fIntS_i, ↓fIntS_b, ↓fIntS_s, oLcN, fSortST, zSeqX, zIfX, zRaise, ↓bare_d, ↓bare_o, ↓bare_l, ↓bare_no, ↓bare_f, ↓bare_tr, ↓bare_g, ↓bare_P, ↓bare_dic, oDic0, zSetK, uDin, ↓asDic_d, zDput, fMin2S, fMax2S, uLenSet, oSplit, S.f.injEq, eq_self, ↓fAddA_i, ↓fAddA_s, ↓fAddA_t, uChain, oRep, fSortS, ↓slW_d, ↓slW_o, ↓slW_P, ↓slW_s, ↓hasS_d, ↓hasS_o, ↓hasS_f, ↓hasS_s, uV, uN, u1, o1, o2, oN, ↓fIn_l, ↓fIn_s, fCat, ↓fList_l, ↓fList_t, ↓fTup_l, ↓fTup_t, ↓lstR_l, ↓lstR_P, zM1, fApp, zIns, ↓slF_d, ↓slF_o, ↓slF_s, uVf, pNo, pSo, ↓fSl_s, ↓fSl_t, uSl, ↓scal_n, ↓scal_b, ↓scal_i, ↓scal_s, ↓kS_d, ↓ret_S, rNil, rD, rS, uCallA, ↓toS_d, ↓toS_f, ↓toS_s, ↓slS_0, ↓slS_s, ↓retA_d, ↓retA_o, ↓retA_O, ↓backL_n, ↓backL_s, ↓backL_d, ↓backL_f, ↓lok_n, ↓lok_s, ↓lok_d, ↓lok_f, ↓lent_n, ↓lent_s, ↓lent_d, ↓lent_f, bYes, oLc, ↓clr_n, ↓clr_c, ↓clr2_n, ↓clr2_c, ↓rest_n, ↓rest_c, ↓keep1_d, ↓keep1_o, ↓keep1_f, ↓keep1_no, ↓keep1_s, ↓asLL_l, oLL0, zLLn, zLLa, uLLlen, List.mem_cons, List.not_mem_nil, Nat.reduceEqDiff, eqv_list, eqv_tuple, eqv_none, ↓asI_i, ↓asB_b, ↓asS_s, ↓asL_l, ↓asT_t, ↓slD_0, ↓slD_s, ↓slO_0, ↓slO_s, ↓asR_l, ↓fAdd_i, ↓fAdd_s, ↓ixbo_0, ↓ixbo_1, ↓ixbo_2, ↓ixbo_3, ↓ixD_l, ↓ixD_t, ↓ixD_s, ↓arg2_2, ↓fLen1_l, ↓fLen1_t, ↓fLen1_s, ↓asC_c, ↓asQ_l, ↓asQ_t, ↓asQ_s, ↓kD_d, ↓kD_o, ↓kO_o, ↓fz_l, ↓fz_P, ↓fz_ll, ↓ret_d, ↓ret_o, ↓ret_O, ↓retL_d, ↓retL_o, ↓retL_O, ↓atD_0, ↓atD_1, ↓atD_2, ↓atD_3, ↓atD_b1, ↓atD_b2, ↓atD_b3, ↓ixP_30, ↓ixP_31, ↓ixP_32, ↓if_true, ↓if_false, zNext, zSet, zSetO, zRet, zRetO, zRetP, zIf, zAsg, zPut, gN, gsNil, gsCons, gT, uVar, uC, uFz, u2, fI, fI0, fEq, uCB, wB, wNot, wAnd, wOr, uAnd, uOr, aNil, aCons, uTup, oLst, fIx, oVar, iSeq, iR1, uCall, oCall, uLend, oLend, shaped_iff, sh_non, sh_int, sh_bool, sh_str, eqv_int, eqv_str, eqv_bool, ixN_30, ixN_31, ixN_32, ixN_20, ixN_21, atI_0, atI_1, atI_2, atI_3, atI_b1, atI_b2, atI_b3, List.length_map, Int.reduceEq, forall_const, implies_true, and_assoc, sz_0, sz_1, sz_2, sz_3, sz_4, sz_5, sz_6, sz_7, sz_8, Bool.not_eq_true', beq_eq_false_iff_ne, beq_iff_eq, ne_eq, Bool.and_eq_true, Bool.or_eq_true, decide_eq_false_iff_not, not_false_eq_true, not_true_eq_false, Bool.not_true, Bool.not_false, isS_n, isS_b, isS_i, isS_s, isS_l, isS_t, ca_0, ca_1, ca_2, ca_3, ca_4, ca_5, ca_6, Int.reduceToNat, Int.toNat_natCast, Int.reducePow, Int.reduceMul, Int.reduceLT, Int.reduceLE, Int.reduceNeg, zFor, List.replicate, List.length_cons, List.length_nil, List.nil_append, List.cons_append, List.append_nil, List.map_cons, List.map_nil, List.set_cons_zero, List.set_cons_succ, List.getElem?_cons_zero, List.getElem?_cons_succ, Option.some.injEq, S.d.injEq, S.o.injEq, Res.lst.injEq, Res.lstP.injEq, PyData.int.injEq, PyData.str.injEq, PyData.bool.injEq, PyData.list.injEq, PyData.tuple.injEq, List.cons.injEq, reduceCtorEq, exists_eq_left', exists_eq_left, exists_eq_right, exists_eq_right', true_and, and_true, false_and, and_false, exists_false, false_or, or_false, exists_and_left, exists_and_right, exists_eq', exists_eq, exists_const, Bool.false_eq_true, ite_true, ite_false, decide_eq_true_eq, Nat.sub_self, Nat.zero_add, Nat.add_sub_cancel, Nat.reduceSub, Nat.reduceAdd, ne_Clash_NoText, ne_Clash_Unfit, ne_NoText_Clash, ne_NoText_Unfit, ne_Unfit_Clash, ne_Unfit_NoText])
theorem c_layer_of {P : Program} {w : World} {K : PySem.W.Frag} {mg : Str → Option Value} {base : Heap} (hb : Bi K mg) (D : Df K mg "layer_of" (topS 23) ["words"]) (C_need : CalY P w K mg base "need" 1 ["truth"] T_need) (C_is_number : Cal P w K mg base "is_number" 1 ["word"] T_is_number) (C_is_name : Cal P w K mg base "is_name" 1 ["word"] T_is_name) : CalY P w K mg base "layer_of" 2 ["words"] T_layer_of := (by
  obtain ⟨f, fd, F, hm, hB⟩ := D
  refine ⟨f, fd, fn_dY (k := 1) F sc_layer_of ?hT (fun cdv A outer s H E hr tk => (qy_cons (sy_expr (y_callA tk C_need (hr.mono (by decide)) (r_d (d_and (d_eq hr.units (d_lenV hb.len (vv 0)) d_int) (d_and (d_callC C_is_name (hr.mono (by decide)) (a_cons (d_ixN 0 (fun _ _ => rfl) d_int) a_nil)) (d_one (d_callC C_is_number (hr.mono (by decide)) (a_cons (d_ixN 0 (fun _ _ => rfl) d_int) a_nil))))) r_nil)))
 (ys_of (q_one (s_ret (d_tup (a_cons (d_ixN 0 (fun _ _ => rfl) d_int) (a_cons (d_intS hb.int (DE.dv (d_ixN 0 (fun _ _ => rfl) d_int))) a_nil)))))))), hm, F.kp, hB⟩
  case hT =>
    intro a Q E1 h
    obtain ⟨ws, rfl, hw, q1, q2⟩ := h
    refine ⟨rfl, ?_⟩
    have hsz := sizeLine_eq
    (refine seq_gen fun Nx hS => ?_; walk_at "st")
    have at_ : ∀ {i : Nat} {w : Str}, ws[i]? = some w → PyData.strOk w = true ∧ w.length ≤ 100000 := fun h => hw.at (List.mem_of_getElem? h)
    by_cases h4 : ws.length = 3
    · obtain ⟨a, n, t, rfl⟩ : ∃ a n t, ws = [a, n, t] := by
        match ws, h4 with
        | [a, n, t], _ => exact ⟨a, n, t, rfl⟩
      obtain ⟨n1, n2⟩ := at_ (i := 1) rfl
      obtain ⟨t1, t2⟩ := at_ (i := 2) rfl
      (try walk_at "wpt")
      refine ⟨n2, ?_⟩
      by_cases hn : isNm n = true
      · rw [if_pos hn]
        refine ⟨t1, t2, ?_⟩
        by_cases ht : isNum t = true
        · rw [if_pos ht]
          (refine hS _ ?_; try clear hS; (repeat (refine seq_gen fun Nx hS => ?_; walk_at "st"; refine hS _ ?_; clear hS)))
          (try walk_at "wpt")
          refine ⟨numF t, (num_int ht).1, by have := (num_int ht).2.1; omega, ?_⟩
          exact q2 (n, numF t) (by simp [layF, hn, ht]) _ (pat_consN pat_nil)
        · rw [if_neg ht]
          exact q1 (by simp [layF, hn, ht]) _ (pat_consN pat_nil)
      · rw [if_neg hn]
        exact q1 (by simp [layF, hn]) _ (pat_consN pat_nil)
    · rw [if_neg (by omega)]
      refine q1 ?_ _ (pat_consN pat_nil)
      unfold layF
      split
      · exact absurd rfl h4
      · rfl
  )
def T_like_of : TFY := fun a Q E => ∃ (ws : List Str), a = [.d (.list (ws.map PyData.str))] ∧ WsOk ws ∧ (likF ws = none → retE [none] E "NoText" []) ∧ ∀ b, likF ws = some b → retA [none] Q (.d (lkD b))
theorem sc_like_of : FnScope ["words"] ["words"] (defScope (topS 24)) := ⟨rfl, rfl, rfl, by decide +kernel, rfl, by decide +kernel, by decide +kernel⟩
local macro_rules | `(tactic| walk_at "wpt") => `(tactic| simp (maxSteps := 1000000) only [↓TE_need, ↓TE_is_number, ↓TE_is_name, ↓reduceIte, xHand, uIsP, zPlAppY, zPlAppX, xTupL, aoLast, aoCons, uLenPl, oTl0, ↓asOTx_d, ↓asOTx_o, yNil, yCons, zSeqY, zIfY, zRaiseY, zExY, zRetXY, zForY, yCallA, ↓retE_k, zRaise2, uXf, zTryL, ↓atY_cons, ↓ret_wd, ↓ret_wo, ↓ret_wt, kC, ↓asTr_t, ↓asDs_l, ↓asDs_n, ↓asLs_l, ↓asOT_l, ↓asOT_t, ↓asOT_ll, pVar, pIx, uPlV, ↓asOw_o, ↓mvS_d, ↓mvS_f, ↓mvS_o, zRetX, oX, ↓frS_d, ↓frS_f, ↓plainA_n, ↓plainA_d, ↓plainA_f, ↓ret_xd, ↓ret_xf, ↓ret_xo, ↓retA_xd, ↓retA_xf, ↓retA_xo, ↓ret_vd, ↓ret_vo, OT.areD, OT.isD, OT.toDs, OT.toD, OT.upd, OT.wch, OT.ch, ↓retA_kO, ↓retA_kD, ↓retA_kDo, ↓retA_kS, ↓asBs_m, ↓asSs_m, fAll, fStr, ↓fIntS_i, ↓fIntS_b, ↓fIntS_s, oLcN, fSortST, zSeqX, zIfX, zRaise, ↓bare_d, ↓bare_o, ↓bare_l, ↓bare_no, ↓bare_f, ↓bare_tr, ↓bare_g, ↓bare_P, ↓bare_dic, oDic0, zSetK, uDin, ↓asDic_d, zDput, fMin2S, fMax2S, uLenSet, oSplit, S.f.injEq, eq_self, ↓fAddA_i, ↓fAddA_s, ↓fAddA_t, uChain, oRep, fSortS, ↓slW_d, ↓slW_o, ↓slW_P, ↓slW_s, ↓hasS_d, ↓hasS_o, ↓hasS_f, ↓hasS_s, uV, uN, u1, o1, o2, oN, ↓fIn_l, ↓fIn_s, fCat, ↓fList_l, ↓fList_t, ↓fTup_l, ↓fTup_t, ↓lstR_l, ↓lstR_P, zM1, fApp, zIns, ↓slF_d, ↓slF_o, ↓slF_s, uVf, pNo, pSo, ↓fSl_s, ↓fSl_t, uSl, ↓scal_n, ↓scal_b, ↓scal_i, ↓scal_s, ↓kS_d, ↓ret_S, rNil, rD, rS, uCallA, ↓toS_d, ↓toS_f, ↓toS_s, ↓slS_0, ↓slS_s, ↓retA_d, ↓retA_o, ↓retA_O, ↓backL_n, ↓backL_s, ↓backL_d, ↓backL_f, ↓lok_n, ↓lok_s, ↓lok_d, ↓lok_f, ↓lent_n, ↓lent_s, ↓lent_d, ↓lent_f, bYes, oLc, ↓clr_n, ↓clr_c, ↓clr2_n, ↓clr2_c, ↓rest_n, ↓rest_c, ↓keep1_d, ↓keep1_o, ↓keep1_f, ↓keep1_no, ↓keep1_s, ↓asLL_l, oLL0, zLLn, zLLa, uLLlen, List.mem_cons, List.not_mem_nil, Nat.reduceEqDiff, eqv_list, eqv_tuple, eqv_none, ↓asI_i, ↓asB_b, ↓asS_s, ↓asL_l, ↓asT_t, ↓slD_0, ↓slD_s, ↓slO_0, ↓slO_s, ↓asR_l, ↓fAdd_i, ↓fAdd_s, ↓ixbo_0, ↓ixbo_1, ↓ixbo_2, ↓ixbo_3, ↓ixD_l, ↓ixD_t, ↓ixD_s, ↓arg2_2, ↓fLen1_l, ↓fLen1_t, ↓fLen1_s, ↓asC_c, ↓asQ_l, ↓asQ_t, ↓asQ_s, ↓kD_d, ↓kD_o, ↓kO_o, ↓fz_l, ↓fz_P, ↓fz_ll, ↓ret_d, ↓ret_o, ↓ret_O, ↓retL_d, ↓retL_o, ↓retL_O, ↓atD_0, ↓atD_1, ↓atD_2, ↓atD_3, ↓atD_b1, ↓atD_b2, ↓atD_b3, ↓ixP_30, ↓ixP_31, ↓ixP_32, ↓if_true, ↓if_false, zNext, zSeq, zSet, zSetO, zRet, zRetO, zRetP, zIf, zAsg, zPut, gN, gsNil, gsCons, gT, uVar, uC, uFz, u2, fI, fI0, fEq, uCB, wB, wNot, wAnd, wOr, uAnd, uOr, aNil, aCons, uTup, oLst, fIx, oVar, iSeq, iR1, uCall, oCall, uLend, oLend, shaped_iff, sh_non, sh_int, sh_bool, sh_str, eqv_int, eqv_str, eqv_bool, ixN_30, ixN_31, ixN_32, ixN_20, ixN_21, atI_0, atI_1, atI_2, atI_3, atI_b1, atI_b2, atI_b3, List.length_map, Int.reduceEq, forall_const, implies_true, and_assoc, sz_0, sz_1, sz_2, sz_3, sz_4, sz_5, sz_6, sz_7, sz_8, Bool.not_eq_true', beq_eq_false_iff_ne, beq_iff_eq, ne_eq, Bool.and_eq_true, Bool.or_eq_true, decide_eq_false_iff_not, not_false_eq_true, not_true_eq_false, Bool.not_true, Bool.not_false, isS_n, isS_b, isS_i, isS_s, isS_l, isS_t, ca_0, ca_1, ca_2, ca_3, ca_4, ca_5, ca_6, Int.reduceToNat, Int.toNat_natCast, Int.reducePow, Int.reduceMul, Int.reduceLT, Int.reduceLE, Int.reduceNeg, zFor, List.replicate, List.length_cons, List.length_nil, List.nil_append, List.cons_append, List.append_nil, List.map_cons, List.map_nil, List.set_cons_zero, List.set_cons_succ, List.getElem?_cons_zero, List.getElem?_cons_succ, Option.some.injEq, S.d.injEq, S.o.injEq, Res.lst.injEq, Res.lstP.injEq, PyData.int.injEq, PyData.str.injEq, PyData.bool.injEq, PyData.list.injEq, PyData.tuple.injEq, List.cons.injEq, reduceCtorEq, exists_eq_left', exists_eq_left, exists_eq_right, exists_eq_right', true_and, and_true, false_and, and_false, exists_false, false_or, or_false, exists_and_left, exists_and_right, exists_eq', exists_eq, exists_const, Bool.false_eq_true, ite_true, ite_false, decide_eq_true_eq, Nat.sub_self, Nat.zero_add, Nat.add_sub_cancel, Nat.reduceSub, Nat.reduceAdd, ne_Clash_NoText, ne_Clash_Unfit, ne_NoText_Clash, ne_NoText_Unfit, ne_Unfit_Clash, ne_Unfit_NoText])
local macro_rules | `(tactic| walk_at "st") => `(tactic| simp (maxSteps := 1000000) only [↓TE_need, ↓TE_is_number, ↓TE_is_name, ↓reduceIte, xHand, uIsP, zPlAppY, zPlAppX, xTupL, aoLast, aoCons, uLenPl, oTl0, ↓asOTx_d, ↓asOTx_o, yNil, yCons, zSeqY, zIfY, zRaiseY, zExY, zRetXY, zForY, yCallA, ↓retE_k, zRaise2, uXf, zTryL, ↓atY_cons, ↓ret_wd, ↓ret_wo, ↓ret_wt, kC, ↓asTr_t, ↓asDs_l, ↓asDs_n, ↓asLs_l, ↓asOT_l, ↓asOT_t, ↓asOT_ll, pVar, pIx, uPlV, ↓asOw_o, ↓mvS_d, ↓mvS_f, ↓mvS_o, zRetX, oX, ↓frS_d, ↓frS_f, ↓plainA_n, ↓plainA_d, ↓plainA_f, ↓ret_xd, ↓ret_xf, ↓ret_xo, ↓retA_xd, ↓retA_xf, ↓retA_xo, ↓ret_vd, ↓ret_vo, OT.areD, OT.isD, OT.toDs, OT.toD, OT.upd, OT.wch, OT.ch, ↓retA_kO, ↓retA_kD, ↓retA_kDo, ↓retA_kS, ↓asBs_m, ↓asSs_m, fAll, fStr, ↓fIntS_i, ↓fIntS_b, ↓fIntS_s, oLcN, fSortST, zSeqX, zIfX, zRaise, ↓bare_d, ↓bare_o, ↓bare_l, ↓bare_no, ↓bare_f, ↓bare_tr, ↓bare_g, ↓bare_P, ↓bare_dic, oDic0, zSetK, uDin, ↓asDic_d, zDput, fMin2S, fMax2S, uLenSet, oSplit, S.f.injEq, eq_self, ↓fAddA_i, ↓fAddA_s, ↓fAddA_t, uChain, oRep, fSortS, ↓slW_d, ↓slW_o, ↓slW_P, ↓slW_s, ↓hasS_d, ↓hasS_o, ↓hasS_f, ↓hasS_s, uV, uN, u1, o1, o2, oN, ↓fIn_l, ↓fIn_s, fCat, ↓fList_l, ↓fList_t, ↓fTup_l, ↓fTup_t, ↓lstR_l, ↓lstR_P, zM1, fApp, zIns, ↓slF_d, ↓slF_o, ↓slF_s, uVf, pNo, pSo, ↓fSl_s, ↓fSl_t, uSl, ↓scal_n, ↓scal_b, ↓scal_i, ↓scal_s, ↓kS_d, ↓ret_S, rNil, rD, rS, uCallA, ↓toS_d, ↓toS_f, ↓toS_s, ↓slS_0, ↓slS_s, ↓retA_d, ↓retA_o, ↓retA_O, ↓backL_n, ↓backL_s, ↓backL_d, ↓backL_f, ↓lok_n, ↓lok_s, ↓lok_d, ↓lok_f, ↓lent_n, ↓lent_s, ↓lent_d, ↓lent_f, bYes, oLc, ↓clr_n, ↓clr_c, ↓clr2_n, ↓clr2_c, ↓rest_n, ↓rest_c, ↓keep1_d, ↓keep1_o, ↓keep1_f, ↓keep1_no, ↓keep1_s, ↓asLL_l, oLL0, zLLn, zLLa, uLLlen, List.mem_cons, List.not_mem_nil, Nat.reduceEqDiff, eqv_list, eqv_tuple, eqv_none, ↓asI_i, ↓asB_b, ↓asS_s, ↓asL_l, ↓asT_t, ↓slD_0, ↓slD_s, ↓slO_0, ↓slO_s, ↓asR_l, ↓fAdd_i, ↓fAdd_s, ↓ixbo_0, ↓ixbo_1, ↓ixbo_2, ↓ixbo_3, ↓ixD_l, ↓ixD_t, ↓ixD_s, ↓arg2_2, ↓fLen1_l, ↓fLen1_t, ↓fLen1_s, ↓asC_c, ↓asQ_l, ↓asQ_t, ↓asQ_s, ↓kD_d, ↓kD_o, ↓kO_o, ↓fz_l, ↓fz_P, ↓fz_ll, ↓ret_d, ↓ret_o, ↓ret_O, ↓retL_d, ↓retL_o, ↓retL_O, ↓atD_0, ↓atD_1, ↓atD_2, ↓atD_3, ↓atD_b1, ↓atD_b2, ↓atD_b3, ↓ixP_30, ↓ixP_31, ↓ixP_32, ↓if_true, ↓if_false, zNext, zSet, zSetO, zRet, zRetO, zRetP, zIf, zAsg, zPut, gN, gsNil, gsCons, gT, uVar, uC, uFz, u2, fI, fI0, fEq, uCB, wB, wNot, wAnd, wOr, uAnd, uOr, aNil, aCons, uTup, oLst, fIx, oVar, iSeq, iR1, uCall, oCall, uLend, oLend, shaped_iff, sh_non, sh_int, sh_bool, sh_str, eqv_int, eqv_str, eqv_bool, ixN_30, ixN_31, ixN_32, ixN_20, ixN_21, atI_0, atI_1, atI_2, atI_3, atI_b1, atI_b2, atI_b3, List.length_map, Int.reduceEq, forall_const, implies_true, and_assoc, sz_0, sz_1, sz_2, sz_3, sz_4, sz_5, sz_6, sz_7, sz_8, Bool.not_eq_true', beq_eq_false_iff_ne, beq_iff_eq, ne_eq, Bool.and_eq_true, Bool.or_eq_true, decide_eq_false_iff_not, not_false_eq_true, not_true_eq_false, Bool.not_true, Bool.not_false, isS_n, isS_b, isS_i, isS_s, isS_l, isS_t, ca_0, ca_1, ca_2, ca_3, ca_4, ca_5, ca_6, Int.reduceToNat, Int.toNat_natCast, Int.reducePow, Int.reduceMul, Int.reduceLT, Int.reduceLE, Int.reduceNeg, zFor, List.replicate, List.length_cons, List.length_nil, List.nil_append, List.cons_append, List.append_nil, List.map_cons, List.map_nil, List.set_cons_zero, List.set_cons_succ, List.getElem?_cons_zero, List.getElem?_cons_succ, Option.some.injEq, S.d.injEq, S.o.injEq, Res.lst.injEq, Res.lstP.injEq, PyData.int.injEq, PyData.str.injEq, PyData.bool.injEq, PyData.list.injEq, PyData.tuple.injEq, List.cons.injEq, reduceCtorEq, exists_eq_left', exists_eq_left, exists_eq_right, exists_eq_right', true_and, and_true, false_and, and_false, exists_false, false_or, or_false, exists_and_left, exists_and_right, exists_eq', exists_eq, exists_const, Bool.false_eq_true, ite_true, ite_false, decide_eq_true_eq, Nat.sub_self, Nat.zero_add, Nat.add_sub_cancel, Nat.reduceSub, Nat.reduceAdd, ne_Clash_NoText, ne_Clash_Unfit, ne_NoText_Clash, ne_NoText_Unfit, ne_Unfit_Clash, ne_Unfit_NoText])
theorem c_like_of {P : Program} {w : World} {K : PySem.W.Frag} {mg : Str → Option Value} {base : Heap} (hb : Bi K mg) (D : Df K mg "like_of" (topS 24) ["words"]) (C_need : CalY P w K mg base "need" 1 ["truth"] T_need) (C_is_number : Cal P w K mg base "is_number" 1 ["word"] T_is_number) (C_is_name : Cal P w K mg base "is_name" 1 ["word"] T_is_name) : CalY P w K mg base "like_of" 2 ["words"] T_like_of := (by
  obtain ⟨f, fd, F, hm, hB⟩ := D
  refine ⟨f, fd, fn_dY (k := 1) F sc_like_of ?hT (fun cdv A outer s H E hr tk => (qy_cons (sy_expr (y_callA tk C_need (hr.mono (by decide)) (r_d (d_and (d_eq hr.units (d_lenV hb.len (vv 0)) d_int) (d_and (d_callC C_is_name (hr.mono (by decide)) (a_cons (d_ixN 0 (fun _ _ => rfl) d_int) a_nil)) (d_and (d_callC C_is_name (hr.mono (by decide)) (a_cons (d_ixN 0 (fun _ _ => rfl) d_int) a_nil)) (d_one (d_callC C_is_number (hr.mono (by decide)) (a_cons (d_ixN 0 (fun _ _ => rfl) d_int) a_nil)))))) r_nil)))
 (ys_of (q_one (s_ret (d_tup (a_cons (d_ixN 0 (fun _ _ => rfl) d_int) (a_cons (d_ixN 0 (fun _ _ => rfl) d_int) (a_cons (d_intS hb.int (DE.dv (d_ixN 0 (fun _ _ => rfl) d_int))) a_nil))))))))), hm, F.kp, hB⟩
  case hT =>
    intro a Q E1 h
    obtain ⟨ws, rfl, hw, q1, q2⟩ := h
    refine ⟨rfl, ?_⟩
    have hsz := sizeLine_eq
    (refine seq_gen fun Nx hS => ?_; walk_at "st")
    have at_ : ∀ {i : Nat} {w : Str}, ws[i]? = some w → PyData.strOk w = true ∧ w.length ≤ 100000 := fun h => hw.at (List.mem_of_getElem? h)
    by_cases h4 : ws.length = 4
    · obtain ⟨a, n, p, t, rfl⟩ : ∃ a n p t, ws = [a, n, p, t] := by
        match ws, h4 with
        | [a, n, p, t], _ => exact ⟨a, n, p, t, rfl⟩
      obtain ⟨n1, n2⟩ := at_ (i := 1) rfl
      obtain ⟨p1, p2⟩ := at_ (i := 2) rfl
      obtain ⟨t1, t2⟩ := at_ (i := 3) rfl
      (try walk_at "wpt")
      refine ⟨n2, ?_⟩
      by_cases hn : isNm n = true
      · rw [if_pos hn]
        refine ⟨p2, ?_⟩
        by_cases hp : isNm p = true
        · rw [if_pos hp]
          refine ⟨t1, t2, ?_⟩
          by_cases ht : isNum t = true
          · rw [if_pos ht]
            (refine hS _ ?_; try clear hS; (repeat (refine seq_gen fun Nx hS => ?_; walk_at "st"; refine hS _ ?_; clear hS)))
            (try walk_at "wpt")
            refine ⟨numF t, (num_int ht).1, by have := (num_int ht).2.1; omega, ?_⟩
            exact q2 (n, p, numF t) (by simp [likF, hn, hp, ht]) _ (pat_consN pat_nil)
          · rw [if_neg ht]
            exact q1 (by simp [likF, hn, hp, ht]) _ (pat_consN pat_nil)
        · rw [if_neg hp]
          exact q1 (by simp [likF, hn, hp]) _ (pat_consN pat_nil)
      · rw [if_neg hn]
        exact q1 (by simp [likF, hn]) _ (pat_consN pat_nil)
    · rw [if_neg (by omega)]
      refine q1 ?_ _ (pat_consN pat_nil)
      unfold likF
      split
      · exact absurd rfl h4
      · rfl
  )
def T_lay_row : TFY := fun a Q E => ∃ (v u : Lt) (s : RdS) (n : Nat) (ws : List Str), a = [.o (some v) (.tr (fndT s.1)), .o (some u) (.tr (lksT s.2)), .d (.list (ws.map PyData.str))] ∧ RdOk s n ∧ n ≤ 100000 ∧ WsOk ws ∧ (layR s ws = none → retE [some (v, .tr (fndT s.1)), some (u, .tr (lksT s.2)), none] E "NoText" []) ∧ ∀ s', layR s ws = some s' → retA [some (v, .tr (fndT s'.1)), some (u, .tr (lksT s'.2)), none] Q (.d .none)
theorem sc_lay_row : FnScope ["found", "likes", "words", "shut"] ["found", "likes", "words"] (defScope (topS 25)) := ⟨rfl, rfl, rfl, by decide +kernel, rfl, by decide +kernel, by decide +kernel⟩
local macro_rules | `(tactic| walk_at "wpt") => `(tactic| simp (maxSteps := 1000000) only [↓TE_need, ↓reduceIte, xHand, uIsP, zPlAppY, zPlAppX, xTupL, aoLast, aoCons, uLenPl, oTl0, ↓asOTx_d, ↓asOTx_o, yNil, yCons, zSeqY, zIfY, zRaiseY, zExY, zRetXY, zForY, yCallA, ↓retE_k, zRaise2, uXf, zTryL, ↓atY_cons, ↓ret_wd, ↓ret_wo, ↓ret_wt, kC, ↓asTr_t, ↓asDs_l, ↓asDs_n, ↓asLs_l, ↓asOT_l, ↓asOT_t, ↓asOT_ll, pVar, pIx, uPlV, ↓asOw_o, ↓mvS_d, ↓mvS_f, ↓mvS_o, zRetX, oX, ↓frS_d, ↓frS_f, ↓plainA_n, ↓plainA_d, ↓plainA_f, ↓ret_xd, ↓ret_xf, ↓ret_xo, ↓retA_xd, ↓retA_xf, ↓retA_xo, ↓ret_vd, ↓ret_vo, OT.areD, OT.isD, OT.toDs, OT.toD, OT.upd, OT.wch, OT.ch, ↓retA_kO, ↓retA_kD, ↓retA_kDo, ↓retA_kS, ↓asBs_m, ↓asSs_m, fAll, fStr, ↓fIntS_i, ↓fIntS_b, ↓fIntS_s, oLcN, fSortST, zSeqX, zIfX, zRaise, ↓bare_d, ↓bare_o, ↓bare_l, ↓bare_no, ↓bare_f, ↓bare_tr, ↓bare_g, ↓bare_P, ↓bare_dic, oDic0, zSetK, uDin, ↓asDic_d, zDput, fMin2S, fMax2S, uLenSet, oSplit, S.f.injEq, eq_self, ↓fAddA_i, ↓fAddA_s, ↓fAddA_t, uChain, oRep, fSortS, ↓slW_d, ↓slW_o, ↓slW_P, ↓slW_s, ↓hasS_d, ↓hasS_o, ↓hasS_f, ↓hasS_s, uV, uN, u1, o1, o2, oN, ↓fIn_l, ↓fIn_s, fCat, ↓fList_l, ↓fList_t, ↓fTup_l, ↓fTup_t, ↓lstR_l, ↓lstR_P, zM1, fApp, zIns, ↓slF_d, ↓slF_o, ↓slF_s, uVf, pNo, pSo, ↓fSl_s, ↓fSl_t, uSl, ↓scal_n, ↓scal_b, ↓scal_i, ↓scal_s, ↓kS_d, ↓ret_S, rNil, rD, rS, uCallA, ↓toS_d, ↓toS_f, ↓toS_s, ↓slS_0, ↓slS_s, ↓retA_d, ↓retA_o, ↓retA_O, ↓backL_n, ↓backL_s, ↓backL_d, ↓backL_f, ↓lok_n, ↓lok_s, ↓lok_d, ↓lok_f, ↓lent_n, ↓lent_s, ↓lent_d, ↓lent_f, bYes, oLc, ↓clr_n, ↓clr_c, ↓clr2_n, ↓clr2_c, ↓rest_n, ↓rest_c, ↓keep1_d, ↓keep1_o, ↓keep1_f, ↓keep1_no, ↓keep1_s, ↓asLL_l, oLL0, zLLn, zLLa, uLLlen, List.mem_cons, List.not_mem_nil, Nat.reduceEqDiff, eqv_list, eqv_tuple, eqv_none, ↓asI_i, ↓asB_b, ↓asS_s, ↓asL_l, ↓asT_t, ↓slD_0, ↓slD_s, ↓slO_0, ↓slO_s, ↓asR_l, ↓fAdd_i, ↓fAdd_s, ↓ixbo_0, ↓ixbo_1, ↓ixbo_2, ↓ixbo_3, ↓ixD_l, ↓ixD_t, ↓ixD_s, ↓arg2_2, ↓fLen1_l, ↓fLen1_t, ↓fLen1_s, ↓asC_c, ↓asQ_l, ↓asQ_t, ↓asQ_s, ↓kD_d, ↓kD_o, ↓kO_o, ↓fz_l, ↓fz_P, ↓fz_ll, ↓ret_d, ↓ret_o, ↓ret_O, ↓retL_d, ↓retL_o, ↓retL_O, ↓atD_0, ↓atD_1, ↓atD_2, ↓atD_3, ↓atD_b1, ↓atD_b2, ↓atD_b3, ↓ixP_30, ↓ixP_31, ↓ixP_32, ↓if_true, ↓if_false, zNext, zSeq, zSet, zSetO, zRet, zRetO, zRetP, zIf, zAsg, zPut, gN, gsNil, gsCons, gT, uVar, uC, uFz, u2, fI, fI0, fEq, uCB, wB, wNot, wAnd, wOr, uAnd, uOr, aNil, aCons, uTup, oLst, fIx, oVar, iSeq, iR1, uCall, oCall, uLend, oLend, shaped_iff, sh_non, sh_int, sh_bool, sh_str, eqv_int, eqv_str, eqv_bool, ixN_30, ixN_31, ixN_32, ixN_20, ixN_21, atI_0, atI_1, atI_2, atI_3, atI_b1, atI_b2, atI_b3, List.length_map, Int.reduceEq, forall_const, implies_true, and_assoc, sz_0, sz_1, sz_2, sz_3, sz_4, sz_5, sz_6, sz_7, sz_8, Bool.not_eq_true', beq_eq_false_iff_ne, beq_iff_eq, ne_eq, Bool.and_eq_true, Bool.or_eq_true, decide_eq_false_iff_not, not_false_eq_true, not_true_eq_false, Bool.not_true, Bool.not_false, isS_n, isS_b, isS_i, isS_s, isS_l, isS_t, ca_0, ca_1, ca_2, ca_3, ca_4, ca_5, ca_6, Int.reduceToNat, Int.toNat_natCast, Int.reducePow, Int.reduceMul, Int.reduceLT, Int.reduceLE, Int.reduceNeg, zFor, List.replicate, List.length_cons, List.length_nil, List.nil_append, List.cons_append, List.append_nil, List.map_cons, List.map_nil, List.set_cons_zero, List.set_cons_succ, List.getElem?_cons_zero, List.getElem?_cons_succ, Option.some.injEq, S.d.injEq, S.o.injEq, Res.lst.injEq, Res.lstP.injEq, PyData.int.injEq, PyData.str.injEq, PyData.bool.injEq, PyData.list.injEq, PyData.tuple.injEq, List.cons.injEq, reduceCtorEq, exists_eq_left', exists_eq_left, exists_eq_right, exists_eq_right', true_and, and_true, false_and, and_false, exists_false, false_or, or_false, exists_and_left, exists_and_right, exists_eq', exists_eq, exists_const, Bool.false_eq_true, ite_true, ite_false, decide_eq_true_eq, Nat.sub_self, Nat.zero_add, Nat.add_sub_cancel, Nat.reduceSub, Nat.reduceAdd, ne_Clash_NoText, ne_Clash_Unfit, ne_NoText_Clash, ne_NoText_Unfit, ne_Unfit_Clash, ne_Unfit_NoText])
local macro_rules | `(tactic| walk_at "st") => `(tactic| simp (maxSteps := 1000000) only [↓TE_need, ↓reduceIte, xHand, uIsP, zPlAppY, zPlAppX, xTupL, aoLast, aoCons, uLenPl, oTl0, ↓asOTx_d, ↓asOTx_o, yNil, yCons, zSeqY, zIfY, zRaiseY, zExY, zRetXY, zForY, yCallA, ↓retE_k, zRaise2, uXf, zTryL, ↓atY_cons, ↓ret_wd, ↓ret_wo, ↓ret_wt, kC, ↓asTr_t, ↓asDs_l, ↓asDs_n, ↓asLs_l, ↓asOT_l, ↓asOT_t, ↓asOT_ll, pVar, pIx, uPlV, ↓asOw_o, ↓mvS_d, ↓mvS_f, ↓mvS_o, zRetX, oX, ↓frS_d, ↓frS_f, ↓plainA_n, ↓plainA_d, ↓plainA_f, ↓ret_xd, ↓ret_xf, ↓ret_xo, ↓retA_xd, ↓retA_xf, ↓retA_xo, ↓ret_vd, ↓ret_vo, OT.areD, OT.isD, OT.toDs, OT.toD, OT.upd, OT.wch, OT.ch, ↓retA_kO, ↓retA_kD, ↓retA_kDo, ↓retA_kS, ↓asBs_m, ↓asSs_m, fAll, fStr, ↓fIntS_i, ↓fIntS_b, ↓fIntS_s, oLcN, fSortST, zSeqX, zIfX, zRaise, ↓bare_d, ↓bare_o, ↓bare_l, ↓bare_no, ↓bare_f, ↓bare_tr, ↓bare_g, ↓bare_P, ↓bare_dic, oDic0, zSetK, uDin, ↓asDic_d, zDput, fMin2S, fMax2S, uLenSet, oSplit, S.f.injEq, eq_self, ↓fAddA_i, ↓fAddA_s, ↓fAddA_t, uChain, oRep, fSortS, ↓slW_d, ↓slW_o, ↓slW_P, ↓slW_s, ↓hasS_d, ↓hasS_o, ↓hasS_f, ↓hasS_s, uV, uN, u1, o1, o2, oN, ↓fIn_l, ↓fIn_s, fCat, ↓fList_l, ↓fList_t, ↓fTup_l, ↓fTup_t, ↓lstR_l, ↓lstR_P, zM1, fApp, zIns, ↓slF_d, ↓slF_o, ↓slF_s, uVf, pNo, pSo, ↓fSl_s, ↓fSl_t, uSl, ↓scal_n, ↓scal_b, ↓scal_i, ↓scal_s, ↓kS_d, ↓ret_S, rNil, rD, rS, uCallA, ↓toS_d, ↓toS_f, ↓toS_s, ↓slS_0, ↓slS_s, ↓retA_d, ↓retA_o, ↓retA_O, ↓backL_n, ↓backL_s, ↓backL_d, ↓backL_f, ↓lok_n, ↓lok_s, ↓lok_d, ↓lok_f, ↓lent_n, ↓lent_s, ↓lent_d, ↓lent_f, bYes, oLc, ↓clr_n, ↓clr_c, ↓clr2_n, ↓clr2_c, ↓rest_n, ↓rest_c, ↓keep1_d, ↓keep1_o, ↓keep1_f, ↓keep1_no, ↓keep1_s, ↓asLL_l, oLL0, zLLn, zLLa, uLLlen, List.mem_cons, List.not_mem_nil, Nat.reduceEqDiff, eqv_list, eqv_tuple, eqv_none, ↓asI_i, ↓asB_b, ↓asS_s, ↓asL_l, ↓asT_t, ↓slD_0, ↓slD_s, ↓slO_0, ↓slO_s, ↓asR_l, ↓fAdd_i, ↓fAdd_s, ↓ixbo_0, ↓ixbo_1, ↓ixbo_2, ↓ixbo_3, ↓ixD_l, ↓ixD_t, ↓ixD_s, ↓arg2_2, ↓fLen1_l, ↓fLen1_t, ↓fLen1_s, ↓asC_c, ↓asQ_l, ↓asQ_t, ↓asQ_s, ↓kD_d, ↓kD_o, ↓kO_o, ↓fz_l, ↓fz_P, ↓fz_ll, ↓ret_d, ↓ret_o, ↓ret_O, ↓retL_d, ↓retL_o, ↓retL_O, ↓atD_0, ↓atD_1, ↓atD_2, ↓atD_3, ↓atD_b1, ↓atD_b2, ↓atD_b3, ↓ixP_30, ↓ixP_31, ↓ixP_32, ↓if_true, ↓if_false, zNext, zSet, zSetO, zRet, zRetO, zRetP, zIf, zAsg, zPut, gN, gsNil, gsCons, gT, uVar, uC, uFz, u2, fI, fI0, fEq, uCB, wB, wNot, wAnd, wOr, uAnd, uOr, aNil, aCons, uTup, oLst, fIx, oVar, iSeq, iR1, uCall, oCall, uLend, oLend, shaped_iff, sh_non, sh_int, sh_bool, sh_str, eqv_int, eqv_str, eqv_bool, ixN_30, ixN_31, ixN_32, ixN_20, ixN_21, atI_0, atI_1, atI_2, atI_3, atI_b1, atI_b2, atI_b3, List.length_map, Int.reduceEq, forall_const, implies_true, and_assoc, sz_0, sz_1, sz_2, sz_3, sz_4, sz_5, sz_6, sz_7, sz_8, Bool.not_eq_true', beq_eq_false_iff_ne, beq_iff_eq, ne_eq, Bool.and_eq_true, Bool.or_eq_true, decide_eq_false_iff_not, not_false_eq_true, not_true_eq_false, Bool.not_true, Bool.not_false, isS_n, isS_b, isS_i, isS_s, isS_l, isS_t, ca_0, ca_1, ca_2, ca_3, ca_4, ca_5, ca_6, Int.reduceToNat, Int.toNat_natCast, Int.reducePow, Int.reduceMul, Int.reduceLT, Int.reduceLE, Int.reduceNeg, zFor, List.replicate, List.length_cons, List.length_nil, List.nil_append, List.cons_append, List.append_nil, List.map_cons, List.map_nil, List.set_cons_zero, List.set_cons_succ, List.getElem?_cons_zero, List.getElem?_cons_succ, Option.some.injEq, S.d.injEq, S.o.injEq, Res.lst.injEq, Res.lstP.injEq, PyData.int.injEq, PyData.str.injEq, PyData.bool.injEq, PyData.list.injEq, PyData.tuple.injEq, List.cons.injEq, reduceCtorEq, exists_eq_left', exists_eq_left, exists_eq_right, exists_eq_right', true_and, and_true, false_and, and_false, exists_false, false_or, or_false, exists_and_left, exists_and_right, exists_eq', exists_eq, exists_const, Bool.false_eq_true, ite_true, ite_false, decide_eq_true_eq, Nat.sub_self, Nat.zero_add, Nat.add_sub_cancel, Nat.reduceSub, Nat.reduceAdd, ne_Clash_NoText, ne_Clash_Unfit, ne_NoText_Clash, ne_NoText_Unfit, ne_Unfit_Clash, ne_Unfit_NoText])
theorem c_lay_row {P : Program} {w : World} {K : PySem.W.Frag} {mg : Str → Option Value} {base : Heap} (hb : Bi K mg) (D : Df K mg "lay_row" (topS 25) ["found", "likes", "words"]) (C_need : CalY P w K mg base "need" 1 ["truth"] T_need) (C_like_of : CalY P w K mg base "like_of" 2 ["words"] T_like_of) (C_head_of : CalY P w K mg base "head_of" 2 ["words"] T_head_of) (C_layer_of : CalY P w K mg base "layer_of" 2 ["words"] T_layer_of) : CalY P w K mg base "lay_row" 3 ["found", "likes", "words"] T_lay_row := (by
  obtain ⟨f, fd, F, hm, hB⟩ := D
  refine ⟨f, fd, fn_dY (k := 2) F sc_lay_row ?hT (fun cdv A outer s H E hr tk => (qy_cons (y_of (s_set (j := 3) sc_lay_row.nd (d_or (d_eq hr.units (d_lenPl hb.len (pl_var 0)) d_int) (d_one (d_gt (d_lenV hb.len (v_pl (pl_ix (fun _ _ => rfl) (pl_ix (fun _ _ => rfl) (pl_ix (fun _ _ => rfl) (pl_var 0) k_neg) k_int) k_neg))) d_int)))))
 (qy_one (s_ifY (t_eq hr.units (d_ixN 2 (fun _ _ => rfl) d_int) d_str)
 (qy_cons (sy_expr (y_callA tk C_need (hr.mono (by decide)) (r_d (dv 3) r_nil)))
 (qy_one (sy_plapp (pl_var 1) (y_callA tk C_like_of (hr.mono (by decide)) (r_d (dv 2) r_nil))))) (qy_one (s_ifY (t_eq hr.units (d_ixN 2 (fun _ _ => rfl) d_int) d_str)
 (qy_cons (sy_expr (y_callA tk C_need (hr.mono (by decide)) (r_d (d_and (dv 3) (d_one (d_eq hr.units (d_lenPl hb.len (pl_var 1)) d_int))) r_nil)))
 (qy_one (sy_plapp (pl_var 0) (y_callA tk C_head_of (hr.mono (by decide)) (r_d (dv 2) r_nil))))) (qy_one (s_ifY (t_eq hr.units (d_ixN 2 (fun _ _ => rfl) d_int) d_str)
 (qy_cons (sy_expr (y_callA tk C_need (hr.mono (by decide)) (r_d (d_and (d_gt (d_lenPl hb.len (pl_var 0)) d_int) (d_one (d_eq hr.units (d_lenPl hb.len (pl_var 1)) d_int))) r_nil)))
 (qy_one (sy_plapp (pl_ix (fun _ _ => rfl) (pl_ix (fun _ _ => rfl) (pl_ix (fun _ _ => rfl) (pl_var 0) k_neg) k_int) k_neg) (y_callA tk C_layer_of (hr.mono (by decide)) (r_d (dv 2) r_nil))))) (qy_cons (sy_expr (y_callA tk C_need (hr.mono (by decide)) (r_d (d_and (d_eq hr.units (dv 2) (d_fz (o_lst (a_cons d_str a_nil)))) (d_and (dv 3) (d_and (d_gt (d_lenPl hb.len (pl_var 0)) d_int) (d_one (d_eq hr.units (d_lenPl hb.len (pl_var 1)) d_int))))) r_nil)))
 (ys_of (q_one (s_plappX (pl_ix (fun _ _ => rfl) (pl_ix (fun _ _ => rfl) (pl_var 0) k_neg) k_int) (x_o (o_lst a_nil)))))))))))))), hm, F.kp, hB⟩
  case hT =>
    intro a Q E1 h
    obtain ⟨v, u, s, n, ws, rfl, ok, n5, hw, q1, q2⟩ := h
    refine ⟨rfl, ?_⟩
    have hsz := sizeLine_eq
    obtain ⟨bs, ls⟩ := s
    obtain ⟨w0, ws, rfl⟩ : ∃ w r, ws = w :: r := by
      cases ws with
      | nil => exact absurd rfl hw.2.1
      | cons w r => exact ⟨w, r, rfl⟩
    have P3 : ∀ {R R' : Res} {x : S} {c : Dl.Ctx}, Pat [some (v, R), some (u, R'), none] (.o (some v) R :: .o (some u) R' :: x :: c) := pat_consO (pat_consO (pat_consN ⟨Nat.zero_le _, by simp⟩))
    simp only [layR, List.headD_cons] at q1 q2
    unfold fndT lksT
    (refine seq_gen fun Nx hS => ?_; walk_at "st")
    have go : Nx ([.o (some v) (.tr (.lst (bs.map boT))), .o (some u) (.tr (.lst ((ls.map lkD).map .dat))), .d (.list ((w0 :: ws).map PyData.str)), .d (.bool (shutR bs))] : Dl.Ctx) := by
      (refine hS _ ?_; try clear hS; (repeat (refine seq_gen fun Nx hS => ?_; walk_at "st"; refine hS _ ?_; clear hS)))
      (try walk_at "wpt")
      have hw0 := (hw.at (w := w0) List.mem_cons_self).1
      have lb := ok.bs
      have ll := ok.ls.1
      have lb : bs.length ≤ n := lb
      have ll : ls.length ≤ n := ll
      have l0 : (ls.length : Int) = 0 ↔ ls = [] := ⟨fun z => List.length_eq_zero_iff.mp (by omega), fun z => by rw [z]; rfl⟩
      have b0 : 0 < (bs.length : Int) ↔ bs ≠ [] := ⟨fun z e => by rw [e] at z; simp at z, fun z => by have := List.length_pos_iff.mpr z; omega⟩
      refine ⟨hw0, by decide +kernel, ?_⟩
      by_cases c1 : w0 = Str.ofString "like"
      · rw [if_pos c1]
        rw [if_pos c1] at q1 q2
        by_cases hs : shutR bs = true
        · rw [if_pos hs]
          rw [if_pos hs] at q1 q2
          intro root A H0 v2
          refine ⟨w0 :: ws, rfl, hw, fun z => ?_, fun l hl => ?_⟩
          · (try walk_at "wpt")
            exact q1 (by rw [z]; rfl) _ P3
          · (try walk_at "wpt")
            refine ⟨by omega, ?_⟩
            have q := q2 (bs, ls ++ [l]) (by rw [hl]; rfl)
            rw [show lksT (bs, ls ++ [l]).2 = .lst (List.map OT.dat (List.map lkD ls) ++ [.dat (lkD l)]) by unfold lksT; rw [List.map_append, List.map_append]; rfl] at q
            exact q _ P3
        · rw [if_neg hs]
          rw [if_neg hs] at q1
          exact q1 rfl _ P3
      rw [if_neg c1]
      rw [if_neg c1] at q1 q2
      refine ⟨hw0, by decide +kernel, ?_⟩
      by_cases c2 : w0 = Str.ofString "bore"
      · rw [if_pos c2]
        rw [if_pos c2] at q1 q2
        by_cases hs : shutR bs = true
        · rw [if_pos hs]
          by_cases hl : ls = []
          · rw [if_pos (l0.mpr hl)]
            rw [if_pos ⟨hs, hl⟩] at q1 q2
            intro root A H0 v2
            refine ⟨w0 :: ws, rfl, hw, fun z => ?_, fun b hb => ?_⟩
            · (try walk_at "wpt")
              exact q1 (by rw [z]; rfl) _ P3
            · (try walk_at "wpt")
              refine ⟨by omega, ?_⟩
              have q := q2 (bs ++ [b], ls) (by rw [hb]; rfl)
              rw [show fndT (bs ++ [b], ls).1 = .lst (List.map boT bs ++ [boT b]) by unfold fndT; rw [List.map_append]; rfl] at q
              exact q _ P3
          · rw [if_neg (fun z => hl (l0.mp z))]
            rw [if_neg (fun z => hl z.2)] at q1
            exact q1 rfl _ P3
        · rw [if_neg hs]
          rw [if_neg (fun z => hs z.1)] at q1
          exact q1 rfl _ P3
      rw [if_neg c2]
      rw [if_neg c2] at q1 q2
      refine ⟨hw0, by decide +kernel, ?_⟩
      by_cases c3 : w0 = Str.ofString "layer"
      · rw [if_pos c3]
        rw [if_pos c3] at q1 q2
        by_cases hb : bs = []
        · rw [if_neg (fun z => b0.mp z hb)]
          rw [if_neg (fun z => z.1 hb)] at q1
          exact q1 rfl _ P3
        rw [if_pos (b0.mpr hb)]
        by_cases hl : ls = []
        · rw [if_pos (l0.mpr hl)]
          rw [if_pos ⟨hb, hl⟩] at q1 q2
          obtain ⟨bs, b, rfl⟩ := last_ex hb
          obtain ⟨b1, b2, b3, b4⟩ := ok.bl b (List.mem_append_right _ (by simp))
          obtain ⟨nm, p, t, bl⟩ := b
          obtain ⟨bl, k, rfl⟩ := last_ex b1
          have kl := (b4 k (List.mem_append_right _ (by simp))).1
          simp only [onLast_at, addLy_at] at q2
          rw [List.map_append, List.map_singleton, boT_at]
          refine ixT_last (ixT_43 (ixT_last ?_))
          simp only [getE_at, set_at, tup3_get, tup3_set]
          (try walk_at "wpt")
          intro root A H0 v2
          refine ⟨w0 :: ws, rfl, hw, fun z => ?_, fun l hl => ?_⟩
          · (try walk_at "wpt")
            have q := q1 (by rw [z]; rfl)
            rw [show fndT (bs ++ [⟨nm, p, t, bl ++ [k]⟩]) = .lst (List.map boT bs ++ [boT ⟨nm, p, t, bl ++ [k]⟩]) by unfold fndT; rw [List.map_append]; rfl, boT_at] at q
            exact q _ P3
          · (try walk_at "wpt")
            refine ⟨by omega, ?_⟩
            have q := q2 (bs ++ [⟨nm, p, t, bl ++ [k ++ [l]]⟩], ls) (by rw [hl]; rfl)
            rw [show fndT (bs ++ [⟨nm, p, t, bl ++ [k ++ [l]]⟩], ls).1 = .lst (List.map boT bs ++ [boT ⟨nm, p, t, bl ++ [k ++ [l]]⟩]) by unfold fndT; rw [List.map_append]; rfl, boT_at, List.map_append, List.map_append] at q
            exact q _ P3
        · rw [if_neg (fun z => hl (l0.mp z))]
          rw [if_neg (fun z => hl z.2)] at q1
          exact q1 rfl _ P3
      rw [if_neg c3]
      rw [if_neg c3] at q1 q2
      have hws : ∀ w ∈ w0 :: ws, PyData.strOk w = true := fun w h => (hw.at h).1
      have hfl : ∀ w ∈ [Str.ofString "fault"], PyData.strOk w = true := fun w h => by rw [List.mem_singleton.mp h]; decide +kernel
      refine ⟨(pl_strs hws).sh, (pl_strs hfl).sh, ?_⟩
      rw [show PyData.eqvAll (PyData.str w0 :: List.map PyData.str ws) [PyData.str (Str.ofString "fault")] = decide (w0 :: ws = [Str.ofString "fault"]) from eqv_strs hws hfl]
      by_cases c4 : w0 :: ws = [Str.ofString "fault"]
      · rw [if_pos (decide_eq_true c4)]
        by_cases hs : shutR bs = true
        · rw [if_pos hs]
          by_cases hb : bs = []
          · rw [if_neg (fun z => b0.mp z hb)]
            rw [if_neg (fun z => z.2.2.1 hb)] at q1
            exact q1 rfl _ P3
          rw [if_pos (b0.mpr hb)]
          by_cases hl : ls = []
          · rw [if_pos (l0.mpr hl)]
            rw [if_pos ⟨c4, hs, hb, hl⟩] at q2
            obtain ⟨bs, b, rfl⟩ := last_ex hb
            obtain ⟨b1, b2, b3, b4⟩ := ok.bl b (List.mem_append_right _ (by simp))
            obtain ⟨nm, p, t, bl⟩ := b
            have bl5 : bl.length ≤ n := b2
            have q := q2 _ rfl
            rw [onLast_at, show fndT (bs ++ [addBl ⟨nm, p, t, bl⟩], ls).1 = .lst (List.map boT bs ++ [boT ⟨nm, p, t, bl ++ [[]]⟩]) by unfold fndT; rw [List.map_append]; rfl, boT_at] at q
            rw [List.map_append, List.map_singleton, show boT ⟨nm, p, t, bl⟩ = .tup [.dat (.str nm), .dat (.int p), .dat (.int t), .lst (bl.map (fun k => OT.lst ((k.map lyD).map .dat)))] from rfl]
            refine ixT_last (ixT_43 ?_)
            simp only [getE_at, set_at, tup3_get, tup3_set]
            (try walk_at "wpt")
            refine ⟨by omega, ?_⟩
            exact q _ P3
          · rw [if_neg (fun z => hl (l0.mp z))]
            rw [if_neg (fun z => hl z.2.2.2)] at q1
            exact q1 rfl _ P3
        · rw [if_neg hs]
          rw [if_neg (fun z => hs z.2.1)] at q1
          exact q1 rfl _ P3
      · rw [if_neg (fun z => c4 (of_decide_eq_true z))]
        rw [if_neg (fun z => c4 z.1)] at q1
        exact q1 rfl _ P3
    by_cases hb : bs = []
    · subst hb
      rw [if_pos (by simp)]
      exact go
    obtain ⟨bs, b, rfl⟩ := last_ex hb
    obtain ⟨b1, _⟩ := ok.bl b (List.mem_append_right _ (by simp))
    obtain ⟨nm, p, t, bl⟩ := b
    obtain ⟨bl, k, rfl⟩ := last_ex b1
    rw [if_neg (by rw [List.length_append, List.length_singleton]; omega), List.map_append, List.map_singleton]
    rw [boT_at]
    refine ixT_last (ixT_43 (ixT_last ?_))
    rw [shutR_at, List.map_append, List.map_singleton, boT_at] at go
    (try walk_at "wpt")
    exact go
  )
def rowsF (w : Str) : List Str := if w = Str.ofString "" then [] else Txt.split w (Str.ofString "\n")
def wordsF (r : Str) : List Str := Txt.split r (Str.ofString " ")
def readF (w : Str) : Option RdS := (layRs ([], []) ((rowsF w).map wordsF)).bind fun s => if shutR s.1 = true then some s else none
def T_read : TFY := fun a Q E => ∃ (w : Str), a = [.d (.str w)] ∧ PyData.strOk w = true ∧ w.length ≤ 90000 ∧ (rowsF w).length ≤ 900 ∧ (∀ r ∈ rowsF w, Str.ofString "" ∉ wordsF r) ∧ (readF w = none → retE [none] E "NoText" []) ∧ ∀ s, readF w = some s → (fitF s.1 s.2 = false → retE [none] E "Unfit" []) ∧ (fitF s.1 s.2 = true → retA [none] Q (.d (.tuple [.tuple (s.1.map boD), .tuple (s.2.map lkD)])))
theorem layRs_app {a b : List (List Str)} : ∀ {s : RdS}, layRs s (a ++ b) = (layRs s a).bind fun s' => layRs s' b := (by
  induction a with
  | nil => intro s; rfl
  | cons x a ih =>
    intro s
    show (layR s x).bind (fun s' => layRs s' (a ++ b)) = ((layR s x).bind fun s' => layRs s' a).bind fun s' => layRs s' b
    cases layR s x with
    | none => rfl
    | some s' => exact ih
  )
theorem layRs_next {L : List (List Str)} {i : Nat} {ws : List Str} {s : RdS} (h : layRs ([], []) (L.take i) = some s) (hi : L[i]? = some ws) : layRs ([], []) (L.take (i + 1)) = layR s ws := (by
  rw [List.take_add_one, hi, show (some ws).toList = [ws] from rfl, layRs_app, h]
  show (layR s ws).bind (fun s' => layRs s' []) = layR s ws
  cases layR s ws <;> rfl
  )
theorem layRs_no {L : List (List Str)} {i : Nat} (h : layRs ([], []) (L.take i) = none) : layRs ([], []) L = none := (by
  rw [← List.take_append_drop i L, layRs_app, h]; rfl
  )
theorem rdOk_0 : RdOk ([], []) 0 := ⟨Nat.le_refl _, fun b hb => (by cases hb), ⟨Nat.le_refl _, fun l hl => (by cases hl)⟩⟩
theorem rd_sz {s : RdS} {n : Nat} (h : RdOk s n) (hn : n ≤ 1000) : FlSz s.1 s.2 := (by
  obtain ⟨h1, h2, h3⟩ := h
  refine ⟨by omega, fun b hb => ?_, by omega, fun l hl => ?_⟩
  · obtain ⟨a1, a2, a3, a4⟩ := h2 b hb
    refine ⟨by have := isNm_len a3; omega, by omega, fun k hk => ⟨by have := (a4 k hk).1; omega, fun l hl => by have := isNm_len ((a4 k hk).2 l hl); omega⟩⟩
  · obtain ⟨a1, a2⟩ := h3.2 l hl
    exact ⟨by have := isNm_len a1; omega, by have := isNm_len a2; omega⟩
  )
/-- a bore on the way: its blocks lists -/
def boE (b : Bo) : PyData := .tuple [.str b.nm, .int b.at_, .int b.top, .list (b.bl.map fun k => .list (k.map lyD))]
theorem boT_D (b : Bo) : (boT b).isD = true ∧ (boT b).toD = boE b := (by
  have e1 : OT.areD (b.bl.map fun k => OT.lst ((k.map lyD).map .dat)) = true := areD_of fun t ht => by
    obtain ⟨k, _, rfl⟩ := List.mem_map.mp ht
    exact areD_dats
  constructor
  · show (true && (true && (true && (OT.areD (b.bl.map fun k => OT.lst ((k.map lyD).map .dat)) && true)))) = true
    rw [e1]; rfl
  · show PyData.tuple [.str b.nm, .int b.at_, .int b.top, .list (OT.toDs (b.bl.map fun k => OT.lst ((k.map lyD).map .dat)))] = _
    rw [toDs_eq, List.map_map, show (OT.toD ∘ fun k => OT.lst ((k.map lyD).map .dat)) = fun k : List (Str × Int) => PyData.list (k.map lyD) from funext fun k => by
      show PyData.list (OT.toDs ((k.map lyD).map .dat)) = _
      rw [toDs_dats]]
    rfl
  )
theorem fndT_D (bs : List Bo) : (fndT bs).isD = true ∧ (fndT bs).toD = .list (bs.map boE) := (by
  constructor
  · exact areD_of fun t ht => by
      obtain ⟨b, _, rfl⟩ := List.mem_map.mp ht
      exact (boT_D b).1
  · show PyData.list (OT.toDs (bs.map boT)) = _
    rw [toDs_eq, List.map_map, show OT.toD ∘ boT = boE from funext fun b => (boT_D b).2]
  )
theorem sc_read : FnScope ["text", "found", "likes", "words", "bores", "name", "spot", "top", "blocks", "row", "block"] ["text"] (defScope (topS 26)) := ⟨rfl, rfl, rfl, by decide +kernel, rfl, by decide +kernel, by decide +kernel⟩
local macro_rules | `(tactic| walk_at "wpt") => `(tactic| simp (maxSteps := 1000000) only [↓TE_need, ↓reduceIte, xHand, uIsP, zPlAppY, zPlAppX, xTupL, aoLast, aoCons, uLenPl, oTl0, ↓asOTx_d, ↓asOTx_o, yNil, yCons, zSeqY, zIfY, zRaiseY, zExY, zRetXY, zForY, yCallA, ↓retE_k, zRaise2, uXf, zTryL, ↓atY_cons, ↓ret_wd, ↓ret_wo, ↓ret_wt, kC, ↓asTr_t, ↓asDs_l, ↓asDs_n, ↓asLs_l, ↓asOT_l, ↓asOT_t, ↓asOT_ll, pVar, pIx, uPlV, ↓asOw_o, ↓mvS_d, ↓mvS_f, ↓mvS_o, zRetX, oX, ↓frS_d, ↓frS_f, ↓plainA_n, ↓plainA_d, ↓plainA_f, ↓ret_xd, ↓ret_xf, ↓ret_xo, ↓retA_xd, ↓retA_xf, ↓retA_xo, ↓ret_vd, ↓ret_vo, OT.areD, OT.isD, OT.toDs, OT.toD, OT.upd, OT.wch, OT.ch, ↓retA_kO, ↓retA_kD, ↓retA_kDo, ↓retA_kS, ↓asBs_m, ↓asSs_m, fAll, fStr, ↓fIntS_i, ↓fIntS_b, ↓fIntS_s, oLcN, fSortST, zSeqX, zIfX, zRaise, ↓bare_d, ↓bare_o, ↓bare_l, ↓bare_no, ↓bare_f, ↓bare_tr, ↓bare_g, ↓bare_P, ↓bare_dic, oDic0, zSetK, uDin, ↓asDic_d, zDput, fMin2S, fMax2S, uLenSet, oSplit, S.f.injEq, eq_self, ↓fAddA_i, ↓fAddA_s, ↓fAddA_t, uChain, oRep, fSortS, ↓slW_d, ↓slW_o, ↓slW_P, ↓slW_s, ↓hasS_d, ↓hasS_o, ↓hasS_f, ↓hasS_s, uV, uN, u1, o1, o2, oN, ↓fIn_l, ↓fIn_s, fCat, ↓fList_l, ↓fList_t, ↓fTup_l, ↓fTup_t, ↓lstR_l, ↓lstR_P, zM1, fApp, zIns, ↓slF_d, ↓slF_o, ↓slF_s, uVf, pNo, pSo, ↓fSl_s, ↓fSl_t, uSl, ↓scal_n, ↓scal_b, ↓scal_i, ↓scal_s, ↓kS_d, ↓ret_S, rNil, rD, rS, uCallA, ↓toS_d, ↓toS_f, ↓toS_s, ↓slS_0, ↓slS_s, ↓retA_d, ↓retA_o, ↓retA_O, ↓backL_n, ↓backL_s, ↓backL_d, ↓backL_f, ↓lok_n, ↓lok_s, ↓lok_d, ↓lok_f, ↓lent_n, ↓lent_s, ↓lent_d, ↓lent_f, bYes, oLc, ↓clr_n, ↓clr_c, ↓clr2_n, ↓clr2_c, ↓rest_n, ↓rest_c, ↓keep1_d, ↓keep1_o, ↓keep1_f, ↓keep1_no, ↓keep1_s, ↓asLL_l, oLL0, zLLn, zLLa, uLLlen, List.mem_cons, List.not_mem_nil, Nat.reduceEqDiff, eqv_list, eqv_tuple, eqv_none, ↓asI_i, ↓asB_b, ↓asS_s, ↓asL_l, ↓asT_t, ↓slD_0, ↓slD_s, ↓slO_0, ↓slO_s, ↓asR_l, ↓fAdd_i, ↓fAdd_s, ↓ixbo_0, ↓ixbo_1, ↓ixbo_2, ↓ixbo_3, ↓ixD_l, ↓ixD_t, ↓ixD_s, ↓arg2_2, ↓fLen1_l, ↓fLen1_t, ↓fLen1_s, ↓asC_c, ↓asQ_l, ↓asQ_t, ↓asQ_s, ↓kD_d, ↓kD_o, ↓kO_o, ↓fz_l, ↓fz_P, ↓fz_ll, ↓ret_d, ↓ret_o, ↓ret_O, ↓retL_d, ↓retL_o, ↓retL_O, ↓atD_0, ↓atD_1, ↓atD_2, ↓atD_3, ↓atD_b1, ↓atD_b2, ↓atD_b3, ↓ixP_30, ↓ixP_31, ↓ixP_32, ↓if_true, ↓if_false, zNext, zSeq, zSet, zSetO, zRet, zRetO, zRetP, zIf, zAsg, zPut, gN, gsNil, gsCons, gT, uVar, uC, uFz, u2, fI, fI0, fEq, uCB, wB, wNot, wAnd, wOr, uAnd, uOr, aNil, aCons, uTup, oLst, fIx, oVar, iSeq, iR1, uCall, oCall, uLend, oLend, shaped_iff, sh_non, sh_int, sh_bool, sh_str, eqv_int, eqv_str, eqv_bool, ixN_30, ixN_31, ixN_32, ixN_20, ixN_21, atI_0, atI_1, atI_2, atI_3, atI_b1, atI_b2, atI_b3, List.length_map, Int.reduceEq, forall_const, implies_true, and_assoc, sz_0, sz_1, sz_2, sz_3, sz_4, sz_5, sz_6, sz_7, sz_8, Bool.not_eq_true', beq_eq_false_iff_ne, beq_iff_eq, ne_eq, Bool.and_eq_true, Bool.or_eq_true, decide_eq_false_iff_not, not_false_eq_true, not_true_eq_false, Bool.not_true, Bool.not_false, isS_n, isS_b, isS_i, isS_s, isS_l, isS_t, ca_0, ca_1, ca_2, ca_3, ca_4, ca_5, ca_6, Int.reduceToNat, Int.toNat_natCast, Int.reducePow, Int.reduceMul, Int.reduceLT, Int.reduceLE, Int.reduceNeg, zFor, List.replicate, List.length_cons, List.length_nil, List.nil_append, List.cons_append, List.append_nil, List.map_cons, List.map_nil, List.set_cons_zero, List.set_cons_succ, List.getElem?_cons_zero, List.getElem?_cons_succ, Option.some.injEq, S.d.injEq, S.o.injEq, Res.lst.injEq, Res.lstP.injEq, PyData.int.injEq, PyData.str.injEq, PyData.bool.injEq, PyData.list.injEq, PyData.tuple.injEq, List.cons.injEq, reduceCtorEq, exists_eq_left', exists_eq_left, exists_eq_right, exists_eq_right', true_and, and_true, false_and, and_false, exists_false, false_or, or_false, exists_and_left, exists_and_right, exists_eq', exists_eq, exists_const, Bool.false_eq_true, ite_true, ite_false, decide_eq_true_eq, Nat.sub_self, Nat.zero_add, Nat.add_sub_cancel, Nat.reduceSub, Nat.reduceAdd, ne_Clash_NoText, ne_Clash_Unfit, ne_NoText_Clash, ne_NoText_Unfit, ne_Unfit_Clash, ne_Unfit_NoText])
local macro_rules | `(tactic| walk_at "st") => `(tactic| simp (maxSteps := 1000000) only [↓TE_need, ↓reduceIte, xHand, uIsP, zPlAppY, zPlAppX, xTupL, aoLast, aoCons, uLenPl, oTl0, ↓asOTx_d, ↓asOTx_o, yNil, yCons, zSeqY, zIfY, zRaiseY, zExY, zRetXY, zForY, yCallA, ↓retE_k, zRaise2, uXf, zTryL, ↓atY_cons, ↓ret_wd, ↓ret_wo, ↓ret_wt, kC, ↓asTr_t, ↓asDs_l, ↓asDs_n, ↓asLs_l, ↓asOT_l, ↓asOT_t, ↓asOT_ll, pVar, pIx, uPlV, ↓asOw_o, ↓mvS_d, ↓mvS_f, ↓mvS_o, zRetX, oX, ↓frS_d, ↓frS_f, ↓plainA_n, ↓plainA_d, ↓plainA_f, ↓ret_xd, ↓ret_xf, ↓ret_xo, ↓retA_xd, ↓retA_xf, ↓retA_xo, ↓ret_vd, ↓ret_vo, OT.areD, OT.isD, OT.toDs, OT.toD, OT.upd, OT.wch, OT.ch, ↓retA_kO, ↓retA_kD, ↓retA_kDo, ↓retA_kS, ↓asBs_m, ↓asSs_m, fAll, fStr, ↓fIntS_i, ↓fIntS_b, ↓fIntS_s, oLcN, fSortST, zSeqX, zIfX, zRaise, ↓bare_d, ↓bare_o, ↓bare_l, ↓bare_no, ↓bare_f, ↓bare_tr, ↓bare_g, ↓bare_P, ↓bare_dic, oDic0, zSetK, uDin, ↓asDic_d, zDput, fMin2S, fMax2S, uLenSet, oSplit, S.f.injEq, eq_self, ↓fAddA_i, ↓fAddA_s, ↓fAddA_t, uChain, oRep, fSortS, ↓slW_d, ↓slW_o, ↓slW_P, ↓slW_s, ↓hasS_d, ↓hasS_o, ↓hasS_f, ↓hasS_s, uV, uN, u1, o1, o2, oN, ↓fIn_l, ↓fIn_s, fCat, ↓fList_l, ↓fList_t, ↓fTup_l, ↓fTup_t, ↓lstR_l, ↓lstR_P, zM1, fApp, zIns, ↓slF_d, ↓slF_o, ↓slF_s, uVf, pNo, pSo, ↓fSl_s, ↓fSl_t, uSl, ↓scal_n, ↓scal_b, ↓scal_i, ↓scal_s, ↓kS_d, ↓ret_S, rNil, rD, rS, uCallA, ↓toS_d, ↓toS_f, ↓toS_s, ↓slS_0, ↓slS_s, ↓retA_d, ↓retA_o, ↓retA_O, ↓backL_n, ↓backL_s, ↓backL_d, ↓backL_f, ↓lok_n, ↓lok_s, ↓lok_d, ↓lok_f, ↓lent_n, ↓lent_s, ↓lent_d, ↓lent_f, bYes, oLc, ↓clr_n, ↓clr_c, ↓clr2_n, ↓clr2_c, ↓rest_n, ↓rest_c, ↓keep1_d, ↓keep1_o, ↓keep1_f, ↓keep1_no, ↓keep1_s, ↓asLL_l, oLL0, zLLn, zLLa, uLLlen, List.mem_cons, List.not_mem_nil, Nat.reduceEqDiff, eqv_list, eqv_tuple, eqv_none, ↓asI_i, ↓asB_b, ↓asS_s, ↓asL_l, ↓asT_t, ↓slD_0, ↓slD_s, ↓slO_0, ↓slO_s, ↓asR_l, ↓fAdd_i, ↓fAdd_s, ↓ixbo_0, ↓ixbo_1, ↓ixbo_2, ↓ixbo_3, ↓ixD_l, ↓ixD_t, ↓ixD_s, ↓arg2_2, ↓fLen1_l, ↓fLen1_t, ↓fLen1_s, ↓asC_c, ↓asQ_l, ↓asQ_t, ↓asQ_s, ↓kD_d, ↓kD_o, ↓kO_o, ↓fz_l, ↓fz_P, ↓fz_ll, ↓ret_d, ↓ret_o, ↓ret_O, ↓retL_d, ↓retL_o, ↓retL_O, ↓atD_0, ↓atD_1, ↓atD_2, ↓atD_3, ↓atD_b1, ↓atD_b2, ↓atD_b3, ↓ixP_30, ↓ixP_31, ↓ixP_32, ↓if_true, ↓if_false, zNext, zSet, zSetO, zRet, zRetO, zRetP, zIf, zAsg, zPut, gN, gsNil, gsCons, gT, uVar, uC, uFz, u2, fI, fI0, fEq, uCB, wB, wNot, wAnd, wOr, uAnd, uOr, aNil, aCons, uTup, oLst, fIx, oVar, iSeq, iR1, uCall, oCall, uLend, oLend, shaped_iff, sh_non, sh_int, sh_bool, sh_str, eqv_int, eqv_str, eqv_bool, ixN_30, ixN_31, ixN_32, ixN_20, ixN_21, atI_0, atI_1, atI_2, atI_3, atI_b1, atI_b2, atI_b3, List.length_map, Int.reduceEq, forall_const, implies_true, and_assoc, sz_0, sz_1, sz_2, sz_3, sz_4, sz_5, sz_6, sz_7, sz_8, Bool.not_eq_true', beq_eq_false_iff_ne, beq_iff_eq, ne_eq, Bool.and_eq_true, Bool.or_eq_true, decide_eq_false_iff_not, not_false_eq_true, not_true_eq_false, Bool.not_true, Bool.not_false, isS_n, isS_b, isS_i, isS_s, isS_l, isS_t, ca_0, ca_1, ca_2, ca_3, ca_4, ca_5, ca_6, Int.reduceToNat, Int.toNat_natCast, Int.reducePow, Int.reduceMul, Int.reduceLT, Int.reduceLE, Int.reduceNeg, zFor, List.replicate, List.length_cons, List.length_nil, List.nil_append, List.cons_append, List.append_nil, List.map_cons, List.map_nil, List.set_cons_zero, List.set_cons_succ, List.getElem?_cons_zero, List.getElem?_cons_succ, Option.some.injEq, S.d.injEq, S.o.injEq, Res.lst.injEq, Res.lstP.injEq, PyData.int.injEq, PyData.str.injEq, PyData.bool.injEq, PyData.list.injEq, PyData.tuple.injEq, List.cons.injEq, reduceCtorEq, exists_eq_left', exists_eq_left, exists_eq_right, exists_eq_right', true_and, and_true, false_and, and_false, exists_false, false_or, or_false, exists_and_left, exists_and_right, exists_eq', exists_eq, exists_const, Bool.false_eq_true, ite_true, ite_false, decide_eq_true_eq, Nat.sub_self, Nat.zero_add, Nat.add_sub_cancel, Nat.reduceSub, Nat.reduceAdd, ne_Clash_NoText, ne_Clash_Unfit, ne_NoText_Clash, ne_NoText_Unfit, ne_Unfit_Clash, ne_Unfit_NoText])
theorem c_read {P : Program} {w : World} {K : PySem.W.Frag} {mg : Str → Option Value} {base : Heap} (hb : Bi K mg) (D : Df K mg "read" (topS 26) ["text"]) (C_need : CalY P w K mg base "need" 1 ["truth"] T_need) (C_rows_of : Cal P w K mg base "rows_of" 1 ["text"] T_rows_of) (C_words_of : CalX P w K mg base "words_of" 1 ["row"] T_words_of) (C_lay_row : CalY P w K mg base "lay_row" 3 ["found", "likes", "words"] T_lay_row) (C_fitted : CalY P w K mg base "fitted" 5 ["field"] T_fitted) : CalY P w K mg base "read" 6 ["text"] T_read := (by
  obtain ⟨f, fd, F, hm, hB⟩ := D
  refine ⟨f, fd, fn_dY (k := 5) F sc_read ?hT (fun cdv A outer s H E hr tk => (qy_cons (sy_expr (y_callA tk C_need (hr.mono (by decide)) (r_d (d_isiV (n := "str") hb.isinstance hb.str bb_str (vv 0) kt_str) r_nil)))
 (qy_cons (y_of (s_setO (j := 1) sc_read.nd o_tl0))
 (qy_cons (y_of (s_setO (j := 2) sc_read.nd o_tl0))
 (qy_cons (s_forY (passes_of rfl) rfl (i_seq (d_fz (o_lc [("row", 9)] rfl sc_read.nd (i_seq (d_fz (o_callC C_rows_of (hr.mono (by decide)) (a_cons (dv 0) a_nil)))) (by show blkC ["text", "found", "likes", "words", "bores", "name", "spot", "top", "blocks", "row", "block"] (defScope (topS 26)) _ _ = true; decide +kernel) (fun _ _ _ _ _ => (g_name 9 sc_read.nd)) (fun _ _ _ _ _ => b_yes) (fun _ _ _ _ _ => (d_fz (o_callC (CalX.cal C_words_of) (hr.mono (by decide)) (a_cons (dv 9) a_nil)))) (by decide)))) (g_name 3 sc_read.nd)
 (qy_one (sy_expr (y_callA tk C_lay_row (hr.mono (by decide)) (r_s 1 (r_s 2 (r_d (dv 3) r_nil)))))))
 (qy_cons (sy_expr (y_callA tk C_need (hr.mono (by decide)) (r_d (d_or (d_eq hr.units (d_lenPl hb.len (pl_var 1)) d_int) (d_one (d_gt (d_lenV hb.len (v_pl (pl_ix (fun _ _ => rfl) (pl_ix (fun _ _ => rfl) (pl_ix (fun _ _ => rfl) (pl_var 1) k_neg) k_int) k_neg))) d_int))) r_nil)))
 (qy_cons (y_of (s_setO (j := 4) sc_read.nd (o_lst a_nil)))
 (qy_cons (y_of (s_for (passes_of rfl) rfl (i_seq (dvf 1)) (g_tup (n := 4) rfl (gs_cons (g_name 5 sc_read.nd) (gs_cons (g_name 6 sc_read.nd) (gs_cons (g_name 7 sc_read.nd) (gs_cons (g_name 8 sc_read.nd) gs_nil)))))
 (q_one (s_app 4 (d_tup (a_cons (dv 5) (a_cons (dv 6) (a_cons (dv 7) (a_cons (d_tupV hb.tuple (DE.dv (d_fz (o_lc [("block", 10)] rfl sc_read.nd (i_seq (dv 8)) (by show blkC ["text", "found", "likes", "words", "bores", "name", "spot", "top", "blocks", "row", "block"] (defScope (topS 26)) _ _ = true; decide +kernel) (fun _ _ _ _ _ => (g_name 10 sc_read.nd)) (fun _ _ _ _ _ => b_yes) (fun _ _ _ _ _ => (d_tupV hb.tuple (vv 10))) (by decide))))) a_nil)))))))))
 (qy_one (sy_ret (y_callA tk C_fitted (hr.mono (by decide)) (r_d (d_tup (a_cons (d_tupV hb.tuple (vv 4)) (a_cons (d_tupV hb.tuple (v_pl (pl_var 2))) a_nil))) r_nil)))))))))))), hm, F.kp, hB⟩
  case hT =>
    intro a Q E1 h
    obtain ⟨w, rfl, hw, wl, rl, he, q1, q2⟩ := h
    refine ⟨rfl, ?_⟩
    have hsz := sizeLine_eq
    (refine seq_gen fun Nx hS => ?_; walk_at "st")
    (refine hS _ ?_; try clear hS; (repeat (refine seq_gen fun Nx hS => ?_; walk_at "st"; refine hS _ ?_; clear hS)))
    (refine seq_gen fun Nx hS => ?_; walk_at "st")
    refine ⟨w, rfl, hw, by omega, ?_⟩
    have er : (if w = Str.ofString "" then ([] : List PyData) else (Txt.split w (Str.ofString "\n")).map PyData.str) = (rowsF w).map PyData.str := by
      unfold rowsF
      split <;> rfl
    rw [er]
    have rok : ∀ r ∈ rowsF w, PyData.strOk r = true ∧ r.length ≤ w.length := fun r hr => by
      unfold rowsF at hr
      split at hr
      · cases hr
      · exact ⟨split_ok hw r hr, split_len hr⟩
    have wok : ∀ ws ∈ (rowsF w).map wordsF, WsOk ws := fun ws h => by
      obtain ⟨r, hr, rfl⟩ := List.mem_map.mp h
      obtain ⟨r1, r2⟩ := rok r hr
      have := split_few r 32
      exact ⟨by show (Txt.split r ⟨#[32]⟩).length ≤ 100000; omega, split_ne r 32, fun x hx => ⟨split_ok r1 x hx, by have := split_len hx; omega⟩⟩
    obtain ⟨L, hL⟩ : ∃ L, L = (rowsF w).map wordsF := ⟨_, rfl⟩
    (try walk_at "wpt")
    refine comp_mm (g := PyData.str) (fun r => .list ((wordsF r).map PyData.str)) (by omega) (fun r hr N hN => ?_) ?_
    · obtain ⟨r1, r2⟩ := rok r hr
      (try walk_at "wpt")
      refine ⟨r, rfl, r1, by omega, split_ok r1, ?_⟩
      rw [if_neg (show ¬ (Str.ofString "" ∈ Txt.split r (Str.ofString " ")) from he r hr)]
      (try walk_at "wpt")
      exact hN _ rfl
    rw [show (rowsF w).map (fun r => PyData.list ((wordsF r).map PyData.str)) = L.map (fun ws => PyData.list (ws.map PyData.str)) by rw [hL, List.map_map]; rfl]
    have Ll : L.length ≤ 900 := by rw [hL, List.length_map]; exact rl
    have er2 : readF w = (layRs ([], []) L).bind fun s => if shutR s.1 = true then some s else none := by unfold readF; rw [hL]
    rw [← hL] at wok
    rw [er2] at q1 q2
    (try walk_at "wpt")
    refine loop_by (fun i c => ∃ (s : RdS) (x3 : S), c = [.d (.str w), .o none (.tr (fndT s.1)), .o none (.tr (lksT s.2)), x3, .no, .no, .no, .no, .no, .no, .no] ∧ layRs ([], []) (L.take i) = some s ∧ RdOk s i) ⟨([], []), .no, rfl, rfl, rdOk_0⟩ ?_ ?_
    · rintro i y c N hy ⟨s, x3, rfl, hs, ok⟩ hN
      obtain ⟨ws, hws, rfl⟩ := map_get hy
      have il := get_lt hws
      have nx := layRs_next hs hws
      simp only [↓asT_t, ↓asC_c, gT, gsCons, gsNil, gN, List.length_cons, List.length_nil, List.set_cons_zero, List.set_cons_succ, Nat.zero_add, Nat.reduceAdd, true_and]
      (try walk_at "wpt")
      intro u
      refine ⟨u 1, u 2, s, i, ws, rfl, ok, by omega, wok ws (List.mem_of_getElem? hws), fun z => ?_, fun s' z => ?_⟩
      · (try walk_at "wpt")
        exact q1 (by rw [layRs_no (nx.trans z)]; rfl) _ (pat_consN pat_nil)
      · (try walk_at "wpt")
        exact hN _ ⟨s', _, rfl, nx.trans z, layR_ok ok z⟩
    rintro c ⟨s, x3, rfl, hs, ok⟩
    rw [List.length_map] at hs ok
    rw [List.take_length] at hs
    rw [hs] at q1 q2
    obtain ⟨bs, ls⟩ := s
    have q1 : shutR bs = false → retE [none] E1 "NoText" [] := fun z => q1 (by show (if shutR bs = true then _ else _) = _; rw [z]; rfl)
    have q2 : shutR bs = true → (fitF bs ls = false → retE [none] E1 "Unfit" []) ∧ (fitF bs ls = true → retA [none] Q (.d (.tuple [.tuple (bs.map boD), .tuple (ls.map lkD)]))) := fun z => q2 (bs, ls) (by show (if shutR bs = true then _ else _) = _; rw [z]; rfl)
    have sz := rd_sz ok (by omega)
    have lb : bs.length ≤ L.length := ok.bs
    (refine hS _ ?_; try clear hS; (repeat (refine seq_gen fun Nx hS => ?_; walk_at "st"; refine hS _ ?_; clear hS)))
    unfold fndT lksT
    (refine seq_gen fun Nx hS => ?_; walk_at "st")
    have go : shutR bs = true → Nx ([.d (.str w), .o none (.tr (.lst (bs.map boT))), .o none (.tr (.lst ((ls.map lkD).map .dat))), x3, .no, .no, .no, .no, .no, .no, .no] : Dl.Ctx) := by
      intro hsh
      obtain ⟨q1, q2⟩ := q2 hsh
      (refine hS _ ?_; try clear hS; (repeat (refine seq_gen fun Nx hS => ?_; walk_at "st"; refine hS _ ?_; clear hS)))
      (refine seq_gen fun Nx hS => ?_; walk_at "st")
      obtain ⟨d1, d2⟩ := fndT_D bs
      refine ⟨d1, ?_⟩
      rw [show (OT.lst (List.map boT bs)).toD = .list (bs.map boE) from d2]
      (try walk_at "wpt")
      
      refine loop_by (fun i c => ∃ (x5 x6 x7 x8 : S), c = [.d (.str w), .d (.list (bs.map boE)), .o none (.tr (.lst ((ls.map lkD).map .dat))), x3, .o none (.lst ((bs.take i).map boD)), x5, x6, x7, x8, .no, .no] ∧ True) ⟨_, _, _, _, rfl, trivial⟩ ?_ ?_
      · rintro i y c N hy ⟨x5, x6, x7, x8, rfl, -⟩ hN
        obtain ⟨b, hb, rfl⟩ := map_get hy
        have il := get_lt hb
        obtain ⟨-, bl5, -, -⟩ := ok.bl b (List.mem_of_getElem? hb)
        rw [show boE b = .tuple [.str b.nm, .int b.at_, .int b.top, .list (b.bl.map fun k => .list (k.map lyD))] from rfl]
        simp only [↓asT_t, ↓asC_c, gT, gsCons, gsNil, gN, List.length_cons, List.length_nil, List.set_cons_zero, List.set_cons_succ, Nat.zero_add, Nat.reduceAdd, true_and]
        (try walk_at "wpt")
        refine comp_mm (g := fun k : List (Str × Int) => PyData.list (k.map lyD)) (fun k => .tuple (k.map lyD)) (by omega) (fun k hk N2 hN2 => ?_) ?_
        · (try walk_at "wpt")
          exact hN2 _ rfl
        (try walk_at "wpt")
        refine ⟨by rw [List.length_take]; omega, ?_⟩
        have e : (bs.take i).map boD ++ [PyData.tuple [.str b.nm, .int b.at_, .int b.top, .tuple (b.bl.map fun k => .tuple (k.map lyD))]] = (bs.take (i + 1)).map boD := by rw [List.take_add_one, hb, List.map_append]; rfl
        rw [e]
        exact hN _ ⟨_, _, _, _, rfl, trivial⟩
      rintro c ⟨x5, x6, x7, x8, rfl, -⟩
      rw [List.length_map, List.take_length]
      (refine hS _ ?_; try clear hS; (repeat (refine seq_gen fun Nx hS => ?_; walk_at "st"; refine hS _ ?_; clear hS)))
      (try walk_at "wpt")
      intro v2
      refine ⟨bs, ls, rfl, sz, fun z => ?_, fun z => ?_⟩
      · (try walk_at "wpt")
        exact q1 z _ (pat_consN pat_nil)
      · (try walk_at "wpt")
        exact q2 z _ (pat_consN pat_nil)
    clear hS
    by_cases hb : bs = []
    · subst hb
      rw [if_pos (by simp)]
      (try walk_at "wpt")
      exact go rfl
    obtain ⟨bs, b, rfl⟩ := last_ex hb
    obtain ⟨b1, _⟩ := ok.bl b (List.mem_append_right _ (by simp))
    obtain ⟨nm, p, t, bl⟩ := b
    obtain ⟨bl, k, rfl⟩ := last_ex b1
    rw [if_neg (by rw [List.length_append, List.length_singleton]; omega), List.map_append, List.map_singleton, boT_at]
    refine ixT_last (ixT_43 (ixT_last ?_))
    rw [shutR_at] at go q1
    rw [List.map_append, List.map_singleton, boT_at] at go
    (try walk_at "wpt")
    by_cases hk : 0 < (k.length : Int)
    · rw [if_pos hk]
      exact go (decide_eq_true hk)
    · rw [if_neg hk]
      exact q1 (decide_eq_false hk) _ (pat_consN pat_nil)
  )
def T_law_draw : TF := fun a Q => ∃ (ns : List Int) (k many : Int), a = [.d (.list (ns.map PyData.int)), .d (.int k), .d (.int many)] ∧ 0 < many ∧ ∀ r, 0 ≤ r → r < many → ret Q (.d (.int r))
theorem TE_law_draw {ns : List Int} {k many : Int} {Q : S → Dl.Ctx → Prop} : T_law_draw [.d (.list (ns.map PyData.int)), .d (.int k), .d (.int many)] Q = (0 < many ∧ ∀ r, 0 ≤ r → r < many → ret Q (.d (.int r))) :=
  propext ⟨fun ⟨_, _, _, e, q⟩ => by
    simp only [List.cons.injEq, S.d.injEq, PyData.int.injEq, and_true] at e
    obtain ⟨_, rfl, rfl⟩ := e
    exact q, fun q => ⟨_, _, _, rfl, q⟩⟩
theorem sc_law_draw : FnScope ["script", "k", "many", "cell", "seed"] ["script", "k", "many"] (defScope (topS 28)) := ⟨rfl, rfl, rfl, by decide +kernel, rfl, by decide +kernel, by decide +kernel⟩
local macro_rules | `(tactic| walk_at "wpt") => `(tactic| simp (maxSteps := 1000000) only [↓reduceIte, xHand, uIsP, zPlAppY, zPlAppX, xTupL, aoLast, aoCons, uLenPl, oTl0, ↓asOTx_d, ↓asOTx_o, yNil, yCons, zSeqY, zIfY, zRaiseY, zExY, zRetXY, zForY, yCallA, ↓retE_k, zRaise2, uXf, zTryL, ↓atY_cons, ↓ret_wd, ↓ret_wo, ↓ret_wt, kC, ↓asTr_t, ↓asDs_l, ↓asDs_n, ↓asLs_l, ↓asOT_l, ↓asOT_t, ↓asOT_ll, pVar, pIx, uPlV, ↓asOw_o, ↓mvS_d, ↓mvS_f, ↓mvS_o, zRetX, oX, ↓frS_d, ↓frS_f, ↓plainA_n, ↓plainA_d, ↓plainA_f, ↓ret_xd, ↓ret_xf, ↓ret_xo, ↓retA_xd, ↓retA_xf, ↓retA_xo, ↓ret_vd, ↓ret_vo, OT.areD, OT.isD, OT.toDs, OT.toD, OT.upd, OT.wch, OT.ch, ↓retA_kO, ↓retA_kD, ↓retA_kDo, ↓retA_kS, ↓asBs_m, ↓asSs_m, fAll, fStr, ↓fIntS_i, ↓fIntS_b, ↓fIntS_s, oLcN, fSortST, zSeqX, zIfX, zRaise, ↓bare_d, ↓bare_o, ↓bare_l, ↓bare_no, ↓bare_f, ↓bare_tr, ↓bare_g, ↓bare_P, ↓bare_dic, oDic0, zSetK, uDin, ↓asDic_d, zDput, fMin2S, fMax2S, uLenSet, oSplit, S.f.injEq, eq_self, ↓fAddA_i, ↓fAddA_s, ↓fAddA_t, uChain, oRep, fSortS, ↓slW_d, ↓slW_o, ↓slW_P, ↓slW_s, ↓hasS_d, ↓hasS_o, ↓hasS_f, ↓hasS_s, uV, uN, u1, o1, o2, oN, ↓fIn_l, ↓fIn_s, fCat, ↓fList_l, ↓fList_t, ↓fTup_l, ↓fTup_t, ↓lstR_l, ↓lstR_P, zM1, fApp, zIns, ↓slF_d, ↓slF_o, ↓slF_s, uVf, pNo, pSo, ↓fSl_s, ↓fSl_t, uSl, ↓scal_n, ↓scal_b, ↓scal_i, ↓scal_s, ↓kS_d, ↓ret_S, rNil, rD, rS, uCallA, ↓toS_d, ↓toS_f, ↓toS_s, ↓slS_0, ↓slS_s, ↓retA_d, ↓retA_o, ↓retA_O, ↓backL_n, ↓backL_s, ↓backL_d, ↓backL_f, ↓lok_n, ↓lok_s, ↓lok_d, ↓lok_f, ↓lent_n, ↓lent_s, ↓lent_d, ↓lent_f, bYes, oLc, ↓clr_n, ↓clr_c, ↓clr2_n, ↓clr2_c, ↓rest_n, ↓rest_c, ↓keep1_d, ↓keep1_o, ↓keep1_f, ↓keep1_no, ↓keep1_s, ↓asLL_l, oLL0, zLLn, zLLa, uLLlen, List.mem_cons, List.not_mem_nil, Nat.reduceEqDiff, eqv_list, eqv_tuple, eqv_none, ↓asI_i, ↓asB_b, ↓asS_s, ↓asL_l, ↓asT_t, ↓slD_0, ↓slD_s, ↓slO_0, ↓slO_s, ↓asR_l, ↓fAdd_i, ↓fAdd_s, ↓ixbo_0, ↓ixbo_1, ↓ixbo_2, ↓ixbo_3, ↓ixD_l, ↓ixD_t, ↓ixD_s, ↓arg2_2, ↓fLen1_l, ↓fLen1_t, ↓fLen1_s, ↓asC_c, ↓asQ_l, ↓asQ_t, ↓asQ_s, ↓kD_d, ↓kD_o, ↓kO_o, ↓fz_l, ↓fz_P, ↓fz_ll, ↓ret_d, ↓ret_o, ↓ret_O, ↓retL_d, ↓retL_o, ↓retL_O, ↓atD_0, ↓atD_1, ↓atD_2, ↓atD_3, ↓atD_b1, ↓atD_b2, ↓atD_b3, ↓ixP_30, ↓ixP_31, ↓ixP_32, ↓if_true, ↓if_false, zNext, zSeq, zSet, zSetO, zRet, zRetO, zRetP, zIf, zAsg, zPut, gN, gsNil, gsCons, gT, uVar, uC, uFz, u2, fI, fI0, fEq, uCB, wB, wNot, wAnd, wOr, uAnd, uOr, aNil, aCons, uTup, oLst, fIx, oVar, iSeq, iR1, uCall, oCall, uLend, oLend, shaped_iff, sh_non, sh_int, sh_bool, sh_str, eqv_int, eqv_str, eqv_bool, ixN_30, ixN_31, ixN_32, ixN_20, ixN_21, atI_0, atI_1, atI_2, atI_3, atI_b1, atI_b2, atI_b3, List.length_map, Int.reduceEq, forall_const, implies_true, and_assoc, sz_0, sz_1, sz_2, sz_3, sz_4, sz_5, sz_6, sz_7, sz_8, Bool.not_eq_true', beq_eq_false_iff_ne, beq_iff_eq, ne_eq, Bool.and_eq_true, Bool.or_eq_true, decide_eq_false_iff_not, not_false_eq_true, not_true_eq_false, Bool.not_true, Bool.not_false, isS_n, isS_b, isS_i, isS_s, isS_l, isS_t, ca_0, ca_1, ca_2, ca_3, ca_4, ca_5, ca_6, Int.reduceToNat, Int.toNat_natCast, Int.reducePow, Int.reduceMul, Int.reduceLT, Int.reduceLE, Int.reduceNeg, zFor, List.replicate, List.length_cons, List.length_nil, List.nil_append, List.cons_append, List.append_nil, List.map_cons, List.map_nil, List.set_cons_zero, List.set_cons_succ, List.getElem?_cons_zero, List.getElem?_cons_succ, Option.some.injEq, S.d.injEq, S.o.injEq, Res.lst.injEq, Res.lstP.injEq, PyData.int.injEq, PyData.str.injEq, PyData.bool.injEq, PyData.list.injEq, PyData.tuple.injEq, List.cons.injEq, reduceCtorEq, exists_eq_left', exists_eq_left, exists_eq_right, exists_eq_right', true_and, and_true, false_and, and_false, exists_false, false_or, or_false, exists_and_left, exists_and_right, exists_eq', exists_eq, exists_const, Bool.false_eq_true, ite_true, ite_false, decide_eq_true_eq, Nat.sub_self, Nat.zero_add, Nat.add_sub_cancel, Nat.reduceSub, Nat.reduceAdd, ne_Clash_NoText, ne_Clash_Unfit, ne_NoText_Clash, ne_NoText_Unfit, ne_Unfit_Clash, ne_Unfit_NoText])
local macro_rules | `(tactic| walk_at "st") => `(tactic| simp (maxSteps := 1000000) only [true_and, ↓reduceIte, xHand, uIsP, zPlAppY, zPlAppX, xTupL, aoLast, aoCons, uLenPl, oTl0, ↓asOTx_d, ↓asOTx_o, yNil, yCons, zSeqY, zIfY, zRaiseY, zExY, zRetXY, zForY, yCallA, ↓retE_k, zRaise2, uXf, zTryL, ↓atY_cons, ↓ret_wd, ↓ret_wo, ↓ret_wt, kC, ↓asTr_t, ↓asDs_l, ↓asDs_n, ↓asLs_l, ↓asOT_l, ↓asOT_t, ↓asOT_ll, pVar, pIx, uPlV, ↓asOw_o, ↓mvS_d, ↓mvS_f, ↓mvS_o, zRetX, oX, ↓frS_d, ↓frS_f, ↓plainA_n, ↓plainA_d, ↓plainA_f, ↓ret_xd, ↓ret_xf, ↓ret_xo, ↓retA_xd, ↓retA_xf, ↓retA_xo, ↓ret_vd, ↓ret_vo, OT.areD, OT.isD, OT.toDs, OT.toD, OT.upd, OT.wch, OT.ch, ↓retA_kO, ↓retA_kD, ↓retA_kDo, ↓retA_kS, ↓asBs_m, ↓asSs_m, fAll, fStr, ↓fIntS_i, ↓fIntS_b, ↓fIntS_s, oLcN, fSortST, zSeqX, zIfX, zRaise, ↓bare_d, ↓bare_o, ↓bare_l, ↓bare_no, ↓bare_f, ↓bare_tr, ↓bare_g, ↓bare_P, ↓bare_dic, oDic0, zSetK, uDin, ↓asDic_d, zDput, fMin2S, fMax2S, uLenSet, oSplit, S.f.injEq, eq_self, ↓fAddA_i, ↓fAddA_s, ↓fAddA_t, uChain, oRep, fSortS, ↓slW_d, ↓slW_o, ↓slW_P, ↓slW_s, ↓hasS_d, ↓hasS_o, ↓hasS_f, ↓hasS_s, uV, uN, u1, o1, o2, oN, ↓fIn_l, ↓fIn_s, fCat, ↓fList_l, ↓fList_t, ↓fTup_l, ↓fTup_t, ↓lstR_l, ↓lstR_P, zM1, fApp, zIns, ↓slF_d, ↓slF_o, ↓slF_s, uVf, pNo, pSo, ↓fSl_s, ↓fSl_t, uSl, ↓scal_n, ↓scal_b, ↓scal_i, ↓scal_s, ↓kS_d, ↓ret_S, rNil, rD, rS, uCallA, ↓toS_d, ↓toS_f, ↓toS_s, ↓slS_0, ↓slS_s, ↓retA_d, ↓retA_o, ↓retA_O, ↓backL_n, ↓backL_s, ↓backL_d, ↓backL_f, ↓lok_n, ↓lok_s, ↓lok_d, ↓lok_f, ↓lent_n, ↓lent_s, ↓lent_d, ↓lent_f, bYes, oLc, ↓clr_n, ↓clr_c, ↓clr2_n, ↓clr2_c, ↓rest_n, ↓rest_c, ↓keep1_d, ↓keep1_o, ↓keep1_f, ↓keep1_no, ↓keep1_s, ↓asLL_l, oLL0, zLLn, zLLa, uLLlen, List.mem_cons, List.not_mem_nil, Nat.reduceEqDiff, eqv_list, eqv_tuple, eqv_none, ↓asI_i, ↓asB_b, ↓asS_s, ↓asL_l, ↓asT_t, ↓slD_0, ↓slD_s, ↓slO_0, ↓slO_s, ↓asR_l, ↓fAdd_i, ↓fAdd_s, ↓ixbo_0, ↓ixbo_1, ↓ixbo_2, ↓ixbo_3, ↓ixD_l, ↓ixD_t, ↓ixD_s, ↓arg2_2, ↓fLen1_l, ↓fLen1_t, ↓fLen1_s, ↓asC_c, ↓asQ_l, ↓asQ_t, ↓asQ_s, ↓kD_d, ↓kD_o, ↓kO_o, ↓fz_l, ↓fz_P, ↓fz_ll, ↓ret_d, ↓ret_o, ↓ret_O, ↓retL_d, ↓retL_o, ↓retL_O, ↓atD_0, ↓atD_1, ↓atD_2, ↓atD_3, ↓atD_b1, ↓atD_b2, ↓atD_b3, ↓ixP_30, ↓ixP_31, ↓ixP_32, ↓if_true, ↓if_false, zNext, zSet, zSetO, zRet, zRetO, zRetP, zIf, zAsg, zPut, gN, gsNil, gsCons, gT, uVar, uC, uFz, u2, fI, fI0, fEq, uCB, wB, wNot, wAnd, wOr, uAnd, uOr, aNil, aCons, uTup, oLst, fIx, oVar, iSeq, iR1, uCall, oCall, uLend, oLend, shaped_iff, sh_non, sh_int, sh_bool, sh_str, eqv_int, eqv_str, eqv_bool, ixN_30, ixN_31, ixN_32, ixN_20, ixN_21, atI_0, atI_1, atI_2, atI_3, atI_b1, atI_b2, atI_b3, List.length_map, Int.reduceEq, forall_const, implies_true, and_assoc, sz_0, sz_1, sz_2, sz_3, sz_4, sz_5, sz_6, sz_7, sz_8, Bool.not_eq_true', beq_eq_false_iff_ne, beq_iff_eq, ne_eq, Bool.and_eq_true, Bool.or_eq_true, decide_eq_false_iff_not, not_false_eq_true, not_true_eq_false, Bool.not_true, Bool.not_false, isS_n, isS_b, isS_i, isS_s, isS_l, isS_t, ca_0, ca_1, ca_2, ca_3, ca_4, ca_5, ca_6, Int.reduceToNat, Int.toNat_natCast, Int.reducePow, Int.reduceMul, Int.reduceLT, Int.reduceLE, Int.reduceNeg, zFor, List.replicate, List.length_cons, List.length_nil, List.nil_append, List.cons_append, List.append_nil, List.map_cons, List.map_nil, List.set_cons_zero, List.set_cons_succ, List.getElem?_cons_zero, List.getElem?_cons_succ, Option.some.injEq, S.d.injEq, S.o.injEq, Res.lst.injEq, Res.lstP.injEq, PyData.int.injEq, PyData.str.injEq, PyData.bool.injEq, PyData.list.injEq, PyData.tuple.injEq, List.cons.injEq, reduceCtorEq, exists_eq_left', exists_eq_left, exists_eq_right, exists_eq_right', true_and, and_true, false_and, and_false, exists_false, false_or, or_false, exists_and_left, exists_and_right, exists_eq', exists_eq, exists_const, Bool.false_eq_true, ite_true, ite_false, decide_eq_true_eq, Nat.sub_self, Nat.zero_add, Nat.add_sub_cancel, Nat.reduceSub, Nat.reduceAdd, ne_Clash_NoText, ne_Clash_Unfit, ne_NoText_Clash, ne_NoText_Unfit, ne_Unfit_Clash, ne_Unfit_NoText])
theorem c_law_draw {P : Program} {w : World} {K : PySem.W.Frag} {mg : Str → Option Value} {base : Heap} (hb : Bi K mg) (D : Df K mg "_law_draw" (topS 28) ["script", "k", "many"])  : Cal P w K mg base "_law_draw" 1 ["script", "k", "many"] T_law_draw := (by
  obtain ⟨f, fd, F, hm, hB⟩ := D
  refine ⟨f, fd, fn_d (k := 0) F sc_law_draw ?hT (fun cdv A outer s H E hr => (q_cons (s_set (j := 3) sc_law_draw.nd d_int)
 (q_cons (s_if (t_gt (d_lenV hb.len (vv 0)) d_int)
 (q_one (s_set (j := 3) sc_law_draw.nd (d_ixN 0 (fun _ _ => rfl) (d_mod (dv 1) (d_lenV hb.len (vv 0)))))) q_nil)
 (q_cons (s_set (j := 4) sc_law_draw.nd (d_mod (d_mul (d_add (d_add (d_mod (dv 3) d_int) (d_mul d_int (dv 1))) d_int) d_int) d_int))
 (q_one (s_ret (d_mod (d_mod (d_mul (d_mod (d_add (d_mul (dv 4) d_int) (dv 1)) d_int) d_int) d_int) (dv 2)))))))), hm, F.kp, hB⟩
  case hT =>
    intro a Q h
    obtain ⟨ns, k, many, rfl, hm, q⟩ := h
    refine ⟨rfl, ?_⟩
    walk_at "wpt"
    have hm0 : ¬ many = 0 := by omega
    have fin : ∀ (x : Int) (c : Dl.Ctx), Q (.d (.int (x.fmod many))) c := fun x c => q _ (fmod_pos hm).1 (fmod_pos hm).2 c
    split
    · rename_i hl
      obtain ⟨n, _, hn⟩ := atI_ints (ns := ns) (i := k.fmod ns.length) (fmod_pos hl).1 (fmod_pos hl).2
      refine ⟨by omega, _, hn, ?_⟩
      walk_at "wpt"
      exact ⟨mulA_l (by decide) (by decide), mulA_r (by decide) (by decide), mulA_r (by decide) (by decide), mulA_r (by decide) (by decide), hm0, fin _ _⟩
    · exact ⟨mulA_l (by decide) (by decide), mulA_r (by decide) (by decide), mulA_r (by decide) (by decide), mulA_r (by decide) (by decide), hm0, fin _ _⟩
  )
def T_law_feed : TF := fun a Q => ∃ (ns : List Int) (k : Int), a = [.d (.list (ns.map PyData.int)), .d (.int k)] ∧ 0 ≤ k ∧ ret Q (.o none (.lstP FeedP))
theorem TE_law_feed {ns : List Int} {k : Int} {Q : S → Dl.Ctx → Prop} : T_law_feed [.d (.list (ns.map PyData.int)), .d (.int k)] Q = (0 ≤ k ∧ ret Q (.o none (.lstP FeedP))) :=
  propext ⟨fun ⟨_, _, e, q⟩ => by
    simp only [List.cons.injEq, S.d.injEq, PyData.int.injEq, and_true] at e
    obtain ⟨_, rfl⟩ := e
    exact q, fun q => ⟨_, _, rfl, q⟩⟩
theorem sc_law_feed : FnScope ["script", "k", "cell"] ["script", "k"] (defScope (topS 29)) := ⟨rfl, rfl, rfl, by decide +kernel, rfl, by decide +kernel, by decide +kernel⟩
local macro_rules | `(tactic| walk_at "wpt") => `(tactic| simp (maxSteps := 1000000) only [↓reduceIte, xHand, uIsP, zPlAppY, zPlAppX, xTupL, aoLast, aoCons, uLenPl, oTl0, ↓asOTx_d, ↓asOTx_o, yNil, yCons, zSeqY, zIfY, zRaiseY, zExY, zRetXY, zForY, yCallA, ↓retE_k, zRaise2, uXf, zTryL, ↓atY_cons, ↓ret_wd, ↓ret_wo, ↓ret_wt, kC, ↓asTr_t, ↓asDs_l, ↓asDs_n, ↓asLs_l, ↓asOT_l, ↓asOT_t, ↓asOT_ll, pVar, pIx, uPlV, ↓asOw_o, ↓mvS_d, ↓mvS_f, ↓mvS_o, zRetX, oX, ↓frS_d, ↓frS_f, ↓plainA_n, ↓plainA_d, ↓plainA_f, ↓ret_xd, ↓ret_xf, ↓ret_xo, ↓retA_xd, ↓retA_xf, ↓retA_xo, ↓ret_vd, ↓ret_vo, OT.areD, OT.isD, OT.toDs, OT.toD, OT.upd, OT.wch, OT.ch, ↓retA_kO, ↓retA_kD, ↓retA_kDo, ↓retA_kS, ↓asBs_m, ↓asSs_m, fAll, fStr, ↓fIntS_i, ↓fIntS_b, ↓fIntS_s, oLcN, fSortST, zSeqX, zIfX, zRaise, ↓bare_d, ↓bare_o, ↓bare_l, ↓bare_no, ↓bare_f, ↓bare_tr, ↓bare_g, ↓bare_P, ↓bare_dic, oDic0, zSetK, uDin, ↓asDic_d, zDput, fMin2S, fMax2S, uLenSet, oSplit, S.f.injEq, eq_self, ↓fAddA_i, ↓fAddA_s, ↓fAddA_t, uChain, oRep, fSortS, ↓slW_d, ↓slW_o, ↓slW_P, ↓slW_s, ↓hasS_d, ↓hasS_o, ↓hasS_f, ↓hasS_s, uV, uN, u1, o1, o2, oN, ↓fIn_l, ↓fIn_s, fCat, ↓fList_l, ↓fList_t, ↓fTup_l, ↓fTup_t, ↓lstR_l, ↓lstR_P, zM1, fApp, zIns, ↓slF_d, ↓slF_o, ↓slF_s, uVf, pNo, pSo, ↓fSl_s, ↓fSl_t, uSl, ↓scal_n, ↓scal_b, ↓scal_i, ↓scal_s, ↓kS_d, ↓ret_S, rNil, rD, rS, uCallA, ↓toS_d, ↓toS_f, ↓toS_s, ↓slS_0, ↓slS_s, ↓retA_d, ↓retA_o, ↓retA_O, ↓backL_n, ↓backL_s, ↓backL_d, ↓backL_f, ↓lok_n, ↓lok_s, ↓lok_d, ↓lok_f, ↓lent_n, ↓lent_s, ↓lent_d, ↓lent_f, bYes, oLc, ↓clr_n, ↓clr_c, ↓clr2_n, ↓clr2_c, ↓rest_n, ↓rest_c, ↓keep1_d, ↓keep1_o, ↓keep1_f, ↓keep1_no, ↓keep1_s, ↓asLL_l, oLL0, zLLn, zLLa, uLLlen, List.mem_cons, List.not_mem_nil, Nat.reduceEqDiff, eqv_list, eqv_tuple, eqv_none, ↓asI_i, ↓asB_b, ↓asS_s, ↓asL_l, ↓asT_t, ↓slD_0, ↓slD_s, ↓slO_0, ↓slO_s, ↓asR_l, ↓fAdd_i, ↓fAdd_s, ↓ixbo_0, ↓ixbo_1, ↓ixbo_2, ↓ixbo_3, ↓ixD_l, ↓ixD_t, ↓ixD_s, ↓arg2_2, ↓fLen1_l, ↓fLen1_t, ↓fLen1_s, ↓asC_c, ↓asQ_l, ↓asQ_t, ↓asQ_s, ↓kD_d, ↓kD_o, ↓kO_o, ↓fz_l, ↓fz_P, ↓fz_ll, ↓ret_d, ↓ret_o, ↓ret_O, ↓retL_d, ↓retL_o, ↓retL_O, ↓atD_0, ↓atD_1, ↓atD_2, ↓atD_3, ↓atD_b1, ↓atD_b2, ↓atD_b3, ↓ixP_30, ↓ixP_31, ↓ixP_32, ↓if_true, ↓if_false, zNext, zSeq, zSet, zSetO, zRet, zRetO, zRetP, zIf, zAsg, zPut, gN, gsNil, gsCons, gT, uVar, uC, uFz, u2, fI, fI0, fEq, uCB, wB, wNot, wAnd, wOr, uAnd, uOr, aNil, aCons, uTup, oLst, fIx, oVar, iSeq, iR1, uCall, oCall, uLend, oLend, shaped_iff, sh_non, sh_int, sh_bool, sh_str, eqv_int, eqv_str, eqv_bool, ixN_30, ixN_31, ixN_32, ixN_20, ixN_21, atI_0, atI_1, atI_2, atI_3, atI_b1, atI_b2, atI_b3, List.length_map, Int.reduceEq, forall_const, implies_true, and_assoc, sz_0, sz_1, sz_2, sz_3, sz_4, sz_5, sz_6, sz_7, sz_8, Bool.not_eq_true', beq_eq_false_iff_ne, beq_iff_eq, ne_eq, Bool.and_eq_true, Bool.or_eq_true, decide_eq_false_iff_not, not_false_eq_true, not_true_eq_false, Bool.not_true, Bool.not_false, isS_n, isS_b, isS_i, isS_s, isS_l, isS_t, ca_0, ca_1, ca_2, ca_3, ca_4, ca_5, ca_6, Int.reduceToNat, Int.toNat_natCast, Int.reducePow, Int.reduceMul, Int.reduceLT, Int.reduceLE, Int.reduceNeg, zFor, List.replicate, List.length_cons, List.length_nil, List.nil_append, List.cons_append, List.append_nil, List.map_cons, List.map_nil, List.set_cons_zero, List.set_cons_succ, List.getElem?_cons_zero, List.getElem?_cons_succ, Option.some.injEq, S.d.injEq, S.o.injEq, Res.lst.injEq, Res.lstP.injEq, PyData.int.injEq, PyData.str.injEq, PyData.bool.injEq, PyData.list.injEq, PyData.tuple.injEq, List.cons.injEq, reduceCtorEq, exists_eq_left', exists_eq_left, exists_eq_right, exists_eq_right', true_and, and_true, false_and, and_false, exists_false, false_or, or_false, exists_and_left, exists_and_right, exists_eq', exists_eq, exists_const, Bool.false_eq_true, ite_true, ite_false, decide_eq_true_eq, Nat.sub_self, Nat.zero_add, Nat.add_sub_cancel, Nat.reduceSub, Nat.reduceAdd, ne_Clash_NoText, ne_Clash_Unfit, ne_NoText_Clash, ne_NoText_Unfit, ne_Unfit_Clash, ne_Unfit_NoText])
local macro_rules | `(tactic| walk_at "st") => `(tactic| simp (maxSteps := 1000000) only [true_and, ↓reduceIte, xHand, uIsP, zPlAppY, zPlAppX, xTupL, aoLast, aoCons, uLenPl, oTl0, ↓asOTx_d, ↓asOTx_o, yNil, yCons, zSeqY, zIfY, zRaiseY, zExY, zRetXY, zForY, yCallA, ↓retE_k, zRaise2, uXf, zTryL, ↓atY_cons, ↓ret_wd, ↓ret_wo, ↓ret_wt, kC, ↓asTr_t, ↓asDs_l, ↓asDs_n, ↓asLs_l, ↓asOT_l, ↓asOT_t, ↓asOT_ll, pVar, pIx, uPlV, ↓asOw_o, ↓mvS_d, ↓mvS_f, ↓mvS_o, zRetX, oX, ↓frS_d, ↓frS_f, ↓plainA_n, ↓plainA_d, ↓plainA_f, ↓ret_xd, ↓ret_xf, ↓ret_xo, ↓retA_xd, ↓retA_xf, ↓retA_xo, ↓ret_vd, ↓ret_vo, OT.areD, OT.isD, OT.toDs, OT.toD, OT.upd, OT.wch, OT.ch, ↓retA_kO, ↓retA_kD, ↓retA_kDo, ↓retA_kS, ↓asBs_m, ↓asSs_m, fAll, fStr, ↓fIntS_i, ↓fIntS_b, ↓fIntS_s, oLcN, fSortST, zSeqX, zIfX, zRaise, ↓bare_d, ↓bare_o, ↓bare_l, ↓bare_no, ↓bare_f, ↓bare_tr, ↓bare_g, ↓bare_P, ↓bare_dic, oDic0, zSetK, uDin, ↓asDic_d, zDput, fMin2S, fMax2S, uLenSet, oSplit, S.f.injEq, eq_self, ↓fAddA_i, ↓fAddA_s, ↓fAddA_t, uChain, oRep, fSortS, ↓slW_d, ↓slW_o, ↓slW_P, ↓slW_s, ↓hasS_d, ↓hasS_o, ↓hasS_f, ↓hasS_s, uV, uN, u1, o1, o2, oN, ↓fIn_l, ↓fIn_s, fCat, ↓fList_l, ↓fList_t, ↓fTup_l, ↓fTup_t, ↓lstR_l, ↓lstR_P, zM1, fApp, zIns, ↓slF_d, ↓slF_o, ↓slF_s, uVf, pNo, pSo, ↓fSl_s, ↓fSl_t, uSl, ↓scal_n, ↓scal_b, ↓scal_i, ↓scal_s, ↓kS_d, ↓ret_S, rNil, rD, rS, uCallA, ↓toS_d, ↓toS_f, ↓toS_s, ↓slS_0, ↓slS_s, ↓retA_d, ↓retA_o, ↓retA_O, ↓backL_n, ↓backL_s, ↓backL_d, ↓backL_f, ↓lok_n, ↓lok_s, ↓lok_d, ↓lok_f, ↓lent_n, ↓lent_s, ↓lent_d, ↓lent_f, bYes, oLc, ↓clr_n, ↓clr_c, ↓clr2_n, ↓clr2_c, ↓rest_n, ↓rest_c, ↓keep1_d, ↓keep1_o, ↓keep1_f, ↓keep1_no, ↓keep1_s, ↓asLL_l, oLL0, zLLn, zLLa, uLLlen, List.mem_cons, List.not_mem_nil, Nat.reduceEqDiff, eqv_list, eqv_tuple, eqv_none, ↓asI_i, ↓asB_b, ↓asS_s, ↓asL_l, ↓asT_t, ↓slD_0, ↓slD_s, ↓slO_0, ↓slO_s, ↓asR_l, ↓fAdd_i, ↓fAdd_s, ↓ixbo_0, ↓ixbo_1, ↓ixbo_2, ↓ixbo_3, ↓ixD_l, ↓ixD_t, ↓ixD_s, ↓arg2_2, ↓fLen1_l, ↓fLen1_t, ↓fLen1_s, ↓asC_c, ↓asQ_l, ↓asQ_t, ↓asQ_s, ↓kD_d, ↓kD_o, ↓kO_o, ↓fz_l, ↓fz_P, ↓fz_ll, ↓ret_d, ↓ret_o, ↓ret_O, ↓retL_d, ↓retL_o, ↓retL_O, ↓atD_0, ↓atD_1, ↓atD_2, ↓atD_3, ↓atD_b1, ↓atD_b2, ↓atD_b3, ↓ixP_30, ↓ixP_31, ↓ixP_32, ↓if_true, ↓if_false, zNext, zSet, zSetO, zRet, zRetO, zRetP, zIf, zAsg, zPut, gN, gsNil, gsCons, gT, uVar, uC, uFz, u2, fI, fI0, fEq, uCB, wB, wNot, wAnd, wOr, uAnd, uOr, aNil, aCons, uTup, oLst, fIx, oVar, iSeq, iR1, uCall, oCall, uLend, oLend, shaped_iff, sh_non, sh_int, sh_bool, sh_str, eqv_int, eqv_str, eqv_bool, ixN_30, ixN_31, ixN_32, ixN_20, ixN_21, atI_0, atI_1, atI_2, atI_3, atI_b1, atI_b2, atI_b3, List.length_map, Int.reduceEq, forall_const, implies_true, and_assoc, sz_0, sz_1, sz_2, sz_3, sz_4, sz_5, sz_6, sz_7, sz_8, Bool.not_eq_true', beq_eq_false_iff_ne, beq_iff_eq, ne_eq, Bool.and_eq_true, Bool.or_eq_true, decide_eq_false_iff_not, not_false_eq_true, not_true_eq_false, Bool.not_true, Bool.not_false, isS_n, isS_b, isS_i, isS_s, isS_l, isS_t, ca_0, ca_1, ca_2, ca_3, ca_4, ca_5, ca_6, Int.reduceToNat, Int.toNat_natCast, Int.reducePow, Int.reduceMul, Int.reduceLT, Int.reduceLE, Int.reduceNeg, zFor, List.replicate, List.length_cons, List.length_nil, List.nil_append, List.cons_append, List.append_nil, List.map_cons, List.map_nil, List.set_cons_zero, List.set_cons_succ, List.getElem?_cons_zero, List.getElem?_cons_succ, Option.some.injEq, S.d.injEq, S.o.injEq, Res.lst.injEq, Res.lstP.injEq, PyData.int.injEq, PyData.str.injEq, PyData.bool.injEq, PyData.list.injEq, PyData.tuple.injEq, List.cons.injEq, reduceCtorEq, exists_eq_left', exists_eq_left, exists_eq_right, exists_eq_right', true_and, and_true, false_and, and_false, exists_false, false_or, or_false, exists_and_left, exists_and_right, exists_eq', exists_eq, exists_const, Bool.false_eq_true, ite_true, ite_false, decide_eq_true_eq, Nat.sub_self, Nat.zero_add, Nat.add_sub_cancel, Nat.reduceSub, Nat.reduceAdd, ne_Clash_NoText, ne_Clash_Unfit, ne_NoText_Clash, ne_NoText_Unfit, ne_Unfit_Clash, ne_Unfit_NoText])
theorem c_law_feed {P : Program} {w : World} {K : PySem.W.Frag} {mg : Str → Option Value} {base : Heap} (hb : Bi K mg) (D : Df K mg "_law_feed" (topS 29) ["script", "k"])  : Cal P w K mg base "_law_feed" 1 ["script", "k"] T_law_feed := (by
  obtain ⟨f, fd, F, hm, hB⟩ := D
  refine ⟨f, fd, fn_d (k := 0) F sc_law_feed ?hT (fun cdv A outer s H E hr => (q_cons (s_set (j := 2) sc_law_feed.nd d_int)
 (q_cons (s_if (t_lt (dv 1) (d_lenV hb.len (vv 0)))
 (q_one (s_set (j := 2) sc_law_feed.nd (d_ixN 0 (fun _ _ => rfl) (dv 1)))) q_nil)
 (q_one (s_retP (FeedP) (o_lst (a_cons (dv 2) (a_cons (d_mul d_int (dv 1)) (a_cons (dv 0) a_nil))))))))), hm, F.kp, hB⟩
  case hT =>
    intro a Q h
    obtain ⟨ns, k, rfl, hk, q⟩ := h
    refine ⟨rfl, ?_⟩
    walk_at "wpt"
    split
    · rename_i hl
      obtain ⟨n, _, hn⟩ := atI_ints (ns := ns) (i := k) hk hl
      refine ⟨_, hn, ?_⟩
      walk_at "wpt"
      exact ⟨mulA_l (by decide) (by decide), ⟨_, _, ns, rfl⟩, q _⟩
    · exact ⟨mulA_l (by decide) (by decide), ⟨_, _, ns, rfl⟩, q _⟩
  )
def T_law_next : TF := fun a Q => ∃ (v : Lt) (many : Int), a = [.o (some v) (.lstP FeedP), .d (.int many)] ∧ 0 < many ∧ Bd 250 many ∧ ∀ r, 0 ≤ r → r < many → retL v (.lstP FeedP) Q (.d (.int r))
theorem TE_law_next {v : Lt} {many : Int} {Q : S → Dl.Ctx → Prop} : T_law_next [.o (some v) (.lstP FeedP), .d (.int many)] Q = (0 < many ∧ Bd 250 many ∧ ∀ r, 0 ≤ r → r < many → retL v (.lstP FeedP) Q (.d (.int r))) := propext ⟨fun ⟨_, _, e, q⟩ => by cases e; exact q, fun q => ⟨_, _, rfl, q⟩⟩
theorem sc_law_next : FnScope ["feed", "many", "digit"] ["feed", "many"] (defScope (topS 30)) := ⟨rfl, rfl, rfl, by decide +kernel, rfl, by decide +kernel, by decide +kernel⟩
local macro_rules | `(tactic| walk_at "wpt") => `(tactic| simp (maxSteps := 1000000) only [↓TE_law_draw, ↓reduceIte, xHand, uIsP, zPlAppY, zPlAppX, xTupL, aoLast, aoCons, uLenPl, oTl0, ↓asOTx_d, ↓asOTx_o, yNil, yCons, zSeqY, zIfY, zRaiseY, zExY, zRetXY, zForY, yCallA, ↓retE_k, zRaise2, uXf, zTryL, ↓atY_cons, ↓ret_wd, ↓ret_wo, ↓ret_wt, kC, ↓asTr_t, ↓asDs_l, ↓asDs_n, ↓asLs_l, ↓asOT_l, ↓asOT_t, ↓asOT_ll, pVar, pIx, uPlV, ↓asOw_o, ↓mvS_d, ↓mvS_f, ↓mvS_o, zRetX, oX, ↓frS_d, ↓frS_f, ↓plainA_n, ↓plainA_d, ↓plainA_f, ↓ret_xd, ↓ret_xf, ↓ret_xo, ↓retA_xd, ↓retA_xf, ↓retA_xo, ↓ret_vd, ↓ret_vo, OT.areD, OT.isD, OT.toDs, OT.toD, OT.upd, OT.wch, OT.ch, ↓retA_kO, ↓retA_kD, ↓retA_kDo, ↓retA_kS, ↓asBs_m, ↓asSs_m, fAll, fStr, ↓fIntS_i, ↓fIntS_b, ↓fIntS_s, oLcN, fSortST, zSeqX, zIfX, zRaise, ↓bare_d, ↓bare_o, ↓bare_l, ↓bare_no, ↓bare_f, ↓bare_tr, ↓bare_g, ↓bare_P, ↓bare_dic, oDic0, zSetK, uDin, ↓asDic_d, zDput, fMin2S, fMax2S, uLenSet, oSplit, S.f.injEq, eq_self, ↓fAddA_i, ↓fAddA_s, ↓fAddA_t, uChain, oRep, fSortS, ↓slW_d, ↓slW_o, ↓slW_P, ↓slW_s, ↓hasS_d, ↓hasS_o, ↓hasS_f, ↓hasS_s, uV, uN, u1, o1, o2, oN, ↓fIn_l, ↓fIn_s, fCat, ↓fList_l, ↓fList_t, ↓fTup_l, ↓fTup_t, ↓lstR_l, ↓lstR_P, zM1, fApp, zIns, ↓slF_d, ↓slF_o, ↓slF_s, uVf, pNo, pSo, ↓fSl_s, ↓fSl_t, uSl, ↓scal_n, ↓scal_b, ↓scal_i, ↓scal_s, ↓kS_d, ↓ret_S, rNil, rD, rS, uCallA, ↓toS_d, ↓toS_f, ↓toS_s, ↓slS_0, ↓slS_s, ↓retA_d, ↓retA_o, ↓retA_O, ↓backL_n, ↓backL_s, ↓backL_d, ↓backL_f, ↓lok_n, ↓lok_s, ↓lok_d, ↓lok_f, ↓lent_n, ↓lent_s, ↓lent_d, ↓lent_f, bYes, oLc, ↓clr_n, ↓clr_c, ↓clr2_n, ↓clr2_c, ↓rest_n, ↓rest_c, ↓keep1_d, ↓keep1_o, ↓keep1_f, ↓keep1_no, ↓keep1_s, ↓asLL_l, oLL0, zLLn, zLLa, uLLlen, List.mem_cons, List.not_mem_nil, Nat.reduceEqDiff, eqv_list, eqv_tuple, eqv_none, ↓asI_i, ↓asB_b, ↓asS_s, ↓asL_l, ↓asT_t, ↓slD_0, ↓slD_s, ↓slO_0, ↓slO_s, ↓asR_l, ↓fAdd_i, ↓fAdd_s, ↓ixbo_0, ↓ixbo_1, ↓ixbo_2, ↓ixbo_3, ↓ixD_l, ↓ixD_t, ↓ixD_s, ↓arg2_2, ↓fLen1_l, ↓fLen1_t, ↓fLen1_s, ↓asC_c, ↓asQ_l, ↓asQ_t, ↓asQ_s, ↓kD_d, ↓kD_o, ↓kO_o, ↓fz_l, ↓fz_P, ↓fz_ll, ↓ret_d, ↓ret_o, ↓ret_O, ↓retL_d, ↓retL_o, ↓retL_O, ↓atD_0, ↓atD_1, ↓atD_2, ↓atD_3, ↓atD_b1, ↓atD_b2, ↓atD_b3, ↓ixP_30, ↓ixP_31, ↓ixP_32, ↓if_true, ↓if_false, zNext, zSeq, zSet, zSetO, zRet, zRetO, zRetP, zIf, zAsg, zPut, gN, gsNil, gsCons, gT, uVar, uC, uFz, u2, fI, fI0, fEq, uCB, wB, wNot, wAnd, wOr, uAnd, uOr, aNil, aCons, uTup, oLst, fIx, oVar, iSeq, iR1, uCall, oCall, uLend, oLend, shaped_iff, sh_non, sh_int, sh_bool, sh_str, eqv_int, eqv_str, eqv_bool, ixN_30, ixN_31, ixN_32, ixN_20, ixN_21, atI_0, atI_1, atI_2, atI_3, atI_b1, atI_b2, atI_b3, List.length_map, Int.reduceEq, forall_const, implies_true, and_assoc, sz_0, sz_1, sz_2, sz_3, sz_4, sz_5, sz_6, sz_7, sz_8, Bool.not_eq_true', beq_eq_false_iff_ne, beq_iff_eq, ne_eq, Bool.and_eq_true, Bool.or_eq_true, decide_eq_false_iff_not, not_false_eq_true, not_true_eq_false, Bool.not_true, Bool.not_false, isS_n, isS_b, isS_i, isS_s, isS_l, isS_t, ca_0, ca_1, ca_2, ca_3, ca_4, ca_5, ca_6, Int.reduceToNat, Int.toNat_natCast, Int.reducePow, Int.reduceMul, Int.reduceLT, Int.reduceLE, Int.reduceNeg, zFor, List.replicate, List.length_cons, List.length_nil, List.nil_append, List.cons_append, List.append_nil, List.map_cons, List.map_nil, List.set_cons_zero, List.set_cons_succ, List.getElem?_cons_zero, List.getElem?_cons_succ, Option.some.injEq, S.d.injEq, S.o.injEq, Res.lst.injEq, Res.lstP.injEq, PyData.int.injEq, PyData.str.injEq, PyData.bool.injEq, PyData.list.injEq, PyData.tuple.injEq, List.cons.injEq, reduceCtorEq, exists_eq_left', exists_eq_left, exists_eq_right, exists_eq_right', true_and, and_true, false_and, and_false, exists_false, false_or, or_false, exists_and_left, exists_and_right, exists_eq', exists_eq, exists_const, Bool.false_eq_true, ite_true, ite_false, decide_eq_true_eq, Nat.sub_self, Nat.zero_add, Nat.add_sub_cancel, Nat.reduceSub, Nat.reduceAdd, ne_Clash_NoText, ne_Clash_Unfit, ne_NoText_Clash, ne_NoText_Unfit, ne_Unfit_Clash, ne_Unfit_NoText])
local macro_rules | `(tactic| walk_at "st") => `(tactic| simp (maxSteps := 1000000) only [↓TE_law_draw, ↓reduceIte, xHand, uIsP, zPlAppY, zPlAppX, xTupL, aoLast, aoCons, uLenPl, oTl0, ↓asOTx_d, ↓asOTx_o, yNil, yCons, zSeqY, zIfY, zRaiseY, zExY, zRetXY, zForY, yCallA, ↓retE_k, zRaise2, uXf, zTryL, ↓atY_cons, ↓ret_wd, ↓ret_wo, ↓ret_wt, kC, ↓asTr_t, ↓asDs_l, ↓asDs_n, ↓asLs_l, ↓asOT_l, ↓asOT_t, ↓asOT_ll, pVar, pIx, uPlV, ↓asOw_o, ↓mvS_d, ↓mvS_f, ↓mvS_o, zRetX, oX, ↓frS_d, ↓frS_f, ↓plainA_n, ↓plainA_d, ↓plainA_f, ↓ret_xd, ↓ret_xf, ↓ret_xo, ↓retA_xd, ↓retA_xf, ↓retA_xo, ↓ret_vd, ↓ret_vo, OT.areD, OT.isD, OT.toDs, OT.toD, OT.upd, OT.wch, OT.ch, ↓retA_kO, ↓retA_kD, ↓retA_kDo, ↓retA_kS, ↓asBs_m, ↓asSs_m, fAll, fStr, ↓fIntS_i, ↓fIntS_b, ↓fIntS_s, oLcN, fSortST, zSeqX, zIfX, zRaise, ↓bare_d, ↓bare_o, ↓bare_l, ↓bare_no, ↓bare_f, ↓bare_tr, ↓bare_g, ↓bare_P, ↓bare_dic, oDic0, zSetK, uDin, ↓asDic_d, zDput, fMin2S, fMax2S, uLenSet, oSplit, S.f.injEq, eq_self, ↓fAddA_i, ↓fAddA_s, ↓fAddA_t, uChain, oRep, fSortS, ↓slW_d, ↓slW_o, ↓slW_P, ↓slW_s, ↓hasS_d, ↓hasS_o, ↓hasS_f, ↓hasS_s, uV, uN, u1, o1, o2, oN, ↓fIn_l, ↓fIn_s, fCat, ↓fList_l, ↓fList_t, ↓fTup_l, ↓fTup_t, ↓lstR_l, ↓lstR_P, zM1, fApp, zIns, ↓slF_d, ↓slF_o, ↓slF_s, uVf, pNo, pSo, ↓fSl_s, ↓fSl_t, uSl, ↓scal_n, ↓scal_b, ↓scal_i, ↓scal_s, ↓kS_d, ↓ret_S, rNil, rD, rS, uCallA, ↓toS_d, ↓toS_f, ↓toS_s, ↓slS_0, ↓slS_s, ↓retA_d, ↓retA_o, ↓retA_O, ↓backL_n, ↓backL_s, ↓backL_d, ↓backL_f, ↓lok_n, ↓lok_s, ↓lok_d, ↓lok_f, ↓lent_n, ↓lent_s, ↓lent_d, ↓lent_f, bYes, oLc, ↓clr_n, ↓clr_c, ↓clr2_n, ↓clr2_c, ↓rest_n, ↓rest_c, ↓keep1_d, ↓keep1_o, ↓keep1_f, ↓keep1_no, ↓keep1_s, ↓asLL_l, oLL0, zLLn, zLLa, uLLlen, List.mem_cons, List.not_mem_nil, Nat.reduceEqDiff, eqv_list, eqv_tuple, eqv_none, ↓asI_i, ↓asB_b, ↓asS_s, ↓asL_l, ↓asT_t, ↓slD_0, ↓slD_s, ↓slO_0, ↓slO_s, ↓asR_l, ↓fAdd_i, ↓fAdd_s, ↓ixbo_0, ↓ixbo_1, ↓ixbo_2, ↓ixbo_3, ↓ixD_l, ↓ixD_t, ↓ixD_s, ↓arg2_2, ↓fLen1_l, ↓fLen1_t, ↓fLen1_s, ↓asC_c, ↓asQ_l, ↓asQ_t, ↓asQ_s, ↓kD_d, ↓kD_o, ↓kO_o, ↓fz_l, ↓fz_P, ↓fz_ll, ↓ret_d, ↓ret_o, ↓ret_O, ↓retL_d, ↓retL_o, ↓retL_O, ↓atD_0, ↓atD_1, ↓atD_2, ↓atD_3, ↓atD_b1, ↓atD_b2, ↓atD_b3, ↓ixP_30, ↓ixP_31, ↓ixP_32, ↓if_true, ↓if_false, zNext, zSet, zSetO, zRet, zRetO, zRetP, zIf, zAsg, zPut, gN, gsNil, gsCons, gT, uVar, uC, uFz, u2, fI, fI0, fEq, uCB, wB, wNot, wAnd, wOr, uAnd, uOr, aNil, aCons, uTup, oLst, fIx, oVar, iSeq, iR1, uCall, oCall, uLend, oLend, shaped_iff, sh_non, sh_int, sh_bool, sh_str, eqv_int, eqv_str, eqv_bool, ixN_30, ixN_31, ixN_32, ixN_20, ixN_21, atI_0, atI_1, atI_2, atI_3, atI_b1, atI_b2, atI_b3, List.length_map, Int.reduceEq, forall_const, implies_true, and_assoc, sz_0, sz_1, sz_2, sz_3, sz_4, sz_5, sz_6, sz_7, sz_8, Bool.not_eq_true', beq_eq_false_iff_ne, beq_iff_eq, ne_eq, Bool.and_eq_true, Bool.or_eq_true, decide_eq_false_iff_not, not_false_eq_true, not_true_eq_false, Bool.not_true, Bool.not_false, isS_n, isS_b, isS_i, isS_s, isS_l, isS_t, ca_0, ca_1, ca_2, ca_3, ca_4, ca_5, ca_6, Int.reduceToNat, Int.toNat_natCast, Int.reducePow, Int.reduceMul, Int.reduceLT, Int.reduceLE, Int.reduceNeg, zFor, List.replicate, List.length_cons, List.length_nil, List.nil_append, List.cons_append, List.append_nil, List.map_cons, List.map_nil, List.set_cons_zero, List.set_cons_succ, List.getElem?_cons_zero, List.getElem?_cons_succ, Option.some.injEq, S.d.injEq, S.o.injEq, Res.lst.injEq, Res.lstP.injEq, PyData.int.injEq, PyData.str.injEq, PyData.bool.injEq, PyData.list.injEq, PyData.tuple.injEq, List.cons.injEq, reduceCtorEq, exists_eq_left', exists_eq_left, exists_eq_right, exists_eq_right', true_and, and_true, false_and, and_false, exists_false, false_or, or_false, exists_and_left, exists_and_right, exists_eq', exists_eq, exists_const, Bool.false_eq_true, ite_true, ite_false, decide_eq_true_eq, Nat.sub_self, Nat.zero_add, Nat.add_sub_cancel, Nat.reduceSub, Nat.reduceAdd, ne_Clash_NoText, ne_Clash_Unfit, ne_NoText_Clash, ne_NoText_Unfit, ne_Unfit_Clash, ne_Unfit_NoText])
theorem c_law_next {P : Program} {w : World} {K : PySem.W.Frag} {mg : Str → Option Value} {base : Heap} (hb : Bi K mg) (D : Df K mg "_law_next" (topS 30) ["feed", "many"]) (C__law_draw : Cal P w K mg base "_law_draw" 1 ["script", "k", "many"] T_law_draw) : Cal P w K mg base "_law_next" 2 ["feed", "many"] T_law_next := (by
  obtain ⟨f, fd, F, hm, hB⟩ := D
  refine ⟨f, fd, fn_dP (k := 1) F sc_law_next ?hT (fun cdv A outer s H E hr => (q_cons (s_put 0 (d_add (d_ixN 0 (fun _ _ => rfl) d_int) d_int) d_int)
 (q_cons (s_if (DW.dt (w_or (t_eq hr.units (d_lenV hb.len (DE.dv (d_ixN 0 (fun _ _ => rfl) d_int))) d_int) (w_or1 (t_eq hr.units (d_mod (d_ix (fun _ _ => rfl) (d_ixN 0 (fun _ _ => rfl) d_int) d_int) d_int) d_int))))
 (q_one (s_ret (d_callC C__law_draw (hr.mono (by decide)) (a_cons (d_ixN 0 (fun _ _ => rfl) d_int) (a_cons (d_ixN 0 (fun _ _ => rfl) d_int) (a_cons (dv 1) a_nil)))))) q_nil)
 (q_cons (s_set (j := 2) sc_law_next.nd (d_mod (d_ixN 0 (fun _ _ => rfl) d_int) (dv 1)))
 (q_cons (s_put 0 (d_fdiv (d_ixN 0 (fun _ _ => rfl) d_int) (dv 1)) d_int)
 (q_one (s_ret (dv 2)))))))), hm, F.kp, hB⟩
  case hT =>
    intro a Q h
    obtain ⟨v, many, rfl, hm, hb9, q⟩ := h
    refine ⟨rfl, some v, FeedP, rfl, ?_⟩
    rintro ds ⟨c, k, ns, rfl⟩
    walk_at "wpt"
    have hm0 : ¬ many = 0 := by omega
    have fin : ∀ r, 0 ≤ r → r < many → ∀ l, Q (.d (.int r)) (.o (some v) (.lstP FeedP) :: l) := fun r h1 h2 l => q r h1 h2 _ rfl
    split
    · exact ⟨hm, fun r h1 h2 => ⟨⟨_, _, ns, rfl⟩, fin r h1 h2 _⟩⟩
    · rename_i hl
      obtain ⟨n, _, hn⟩ := atI_ints (ns := ns) (i := 0) (by omega) (by omega)
      refine ⟨_, hn, ?_⟩
      walk_at "wpt"
      split
      · exact ⟨hm, fun r h1 h2 => ⟨⟨_, _, ns, rfl⟩, fin r h1 h2 _⟩⟩
      · exact ⟨hm0, divA_b hm0 hb9 (by decide), ⟨_, _, ns, rfl⟩, fin _ (fmod_pos hm).1 (fmod_pos hm).2 _⟩
  )
def T_law_great : TF := fun a Q => ∃ (v : Lt), a = [.o (some v) (.lstP FeedP)] ∧ ∀ r, 0 ≤ r → r < big → retL v (.lstP FeedP) Q (.d (.int r))
theorem TE_law_great {v : Lt} {Q : S → Dl.Ctx → Prop} : T_law_great [.o (some v) (.lstP FeedP)] Q = ∀ r, 0 ≤ r → r < big → retL v (.lstP FeedP) Q (.d (.int r)) := propext ⟨fun ⟨_, e, q⟩ => by cases e; exact q, fun q => ⟨_, rfl, q⟩⟩
theorem sc_law_great : FnScope ["feed"] ["feed"] (defScope (topS 31)) := ⟨rfl, rfl, rfl, by decide +kernel, rfl, by decide +kernel, by decide +kernel⟩
local macro_rules | `(tactic| walk_at "wpt") => `(tactic| simp (maxSteps := 1000000) only [↓TE_law_next, ↓reduceIte, xHand, uIsP, zPlAppY, zPlAppX, xTupL, aoLast, aoCons, uLenPl, oTl0, ↓asOTx_d, ↓asOTx_o, yNil, yCons, zSeqY, zIfY, zRaiseY, zExY, zRetXY, zForY, yCallA, ↓retE_k, zRaise2, uXf, zTryL, ↓atY_cons, ↓ret_wd, ↓ret_wo, ↓ret_wt, kC, ↓asTr_t, ↓asDs_l, ↓asDs_n, ↓asLs_l, ↓asOT_l, ↓asOT_t, ↓asOT_ll, pVar, pIx, uPlV, ↓asOw_o, ↓mvS_d, ↓mvS_f, ↓mvS_o, zRetX, oX, ↓frS_d, ↓frS_f, ↓plainA_n, ↓plainA_d, ↓plainA_f, ↓ret_xd, ↓ret_xf, ↓ret_xo, ↓retA_xd, ↓retA_xf, ↓retA_xo, ↓ret_vd, ↓ret_vo, OT.areD, OT.isD, OT.toDs, OT.toD, OT.upd, OT.wch, OT.ch, ↓retA_kO, ↓retA_kD, ↓retA_kDo, ↓retA_kS, ↓asBs_m, ↓asSs_m, fAll, fStr, ↓fIntS_i, ↓fIntS_b, ↓fIntS_s, oLcN, fSortST, zSeqX, zIfX, zRaise, ↓bare_d, ↓bare_o, ↓bare_l, ↓bare_no, ↓bare_f, ↓bare_tr, ↓bare_g, ↓bare_P, ↓bare_dic, oDic0, zSetK, uDin, ↓asDic_d, zDput, fMin2S, fMax2S, uLenSet, oSplit, S.f.injEq, eq_self, ↓fAddA_i, ↓fAddA_s, ↓fAddA_t, uChain, oRep, fSortS, ↓slW_d, ↓slW_o, ↓slW_P, ↓slW_s, ↓hasS_d, ↓hasS_o, ↓hasS_f, ↓hasS_s, uV, uN, u1, o1, o2, oN, ↓fIn_l, ↓fIn_s, fCat, ↓fList_l, ↓fList_t, ↓fTup_l, ↓fTup_t, ↓lstR_l, ↓lstR_P, zM1, fApp, zIns, ↓slF_d, ↓slF_o, ↓slF_s, uVf, pNo, pSo, ↓fSl_s, ↓fSl_t, uSl, ↓scal_n, ↓scal_b, ↓scal_i, ↓scal_s, ↓kS_d, ↓ret_S, rNil, rD, rS, uCallA, ↓toS_d, ↓toS_f, ↓toS_s, ↓slS_0, ↓slS_s, ↓retA_d, ↓retA_o, ↓retA_O, ↓backL_n, ↓backL_s, ↓backL_d, ↓backL_f, ↓lok_n, ↓lok_s, ↓lok_d, ↓lok_f, ↓lent_n, ↓lent_s, ↓lent_d, ↓lent_f, bYes, oLc, ↓clr_n, ↓clr_c, ↓clr2_n, ↓clr2_c, ↓rest_n, ↓rest_c, ↓keep1_d, ↓keep1_o, ↓keep1_f, ↓keep1_no, ↓keep1_s, ↓asLL_l, oLL0, zLLn, zLLa, uLLlen, List.mem_cons, List.not_mem_nil, Nat.reduceEqDiff, eqv_list, eqv_tuple, eqv_none, ↓asI_i, ↓asB_b, ↓asS_s, ↓asL_l, ↓asT_t, ↓slD_0, ↓slD_s, ↓slO_0, ↓slO_s, ↓asR_l, ↓fAdd_i, ↓fAdd_s, ↓ixbo_0, ↓ixbo_1, ↓ixbo_2, ↓ixbo_3, ↓ixD_l, ↓ixD_t, ↓ixD_s, ↓arg2_2, ↓fLen1_l, ↓fLen1_t, ↓fLen1_s, ↓asC_c, ↓asQ_l, ↓asQ_t, ↓asQ_s, ↓kD_d, ↓kD_o, ↓kO_o, ↓fz_l, ↓fz_P, ↓fz_ll, ↓ret_d, ↓ret_o, ↓ret_O, ↓retL_d, ↓retL_o, ↓retL_O, ↓atD_0, ↓atD_1, ↓atD_2, ↓atD_3, ↓atD_b1, ↓atD_b2, ↓atD_b3, ↓ixP_30, ↓ixP_31, ↓ixP_32, ↓if_true, ↓if_false, zNext, zSeq, zSet, zSetO, zRet, zRetO, zRetP, zIf, zAsg, zPut, gN, gsNil, gsCons, gT, uVar, uC, uFz, u2, fI, fI0, fEq, uCB, wB, wNot, wAnd, wOr, uAnd, uOr, aNil, aCons, uTup, oLst, fIx, oVar, iSeq, iR1, uCall, oCall, uLend, oLend, shaped_iff, sh_non, sh_int, sh_bool, sh_str, eqv_int, eqv_str, eqv_bool, ixN_30, ixN_31, ixN_32, ixN_20, ixN_21, atI_0, atI_1, atI_2, atI_3, atI_b1, atI_b2, atI_b3, List.length_map, Int.reduceEq, forall_const, implies_true, and_assoc, sz_0, sz_1, sz_2, sz_3, sz_4, sz_5, sz_6, sz_7, sz_8, Bool.not_eq_true', beq_eq_false_iff_ne, beq_iff_eq, ne_eq, Bool.and_eq_true, Bool.or_eq_true, decide_eq_false_iff_not, not_false_eq_true, not_true_eq_false, Bool.not_true, Bool.not_false, isS_n, isS_b, isS_i, isS_s, isS_l, isS_t, ca_0, ca_1, ca_2, ca_3, ca_4, ca_5, ca_6, Int.reduceToNat, Int.toNat_natCast, Int.reducePow, Int.reduceMul, Int.reduceLT, Int.reduceLE, Int.reduceNeg, zFor, List.replicate, List.length_cons, List.length_nil, List.nil_append, List.cons_append, List.append_nil, List.map_cons, List.map_nil, List.set_cons_zero, List.set_cons_succ, List.getElem?_cons_zero, List.getElem?_cons_succ, Option.some.injEq, S.d.injEq, S.o.injEq, Res.lst.injEq, Res.lstP.injEq, PyData.int.injEq, PyData.str.injEq, PyData.bool.injEq, PyData.list.injEq, PyData.tuple.injEq, List.cons.injEq, reduceCtorEq, exists_eq_left', exists_eq_left, exists_eq_right, exists_eq_right', true_and, and_true, false_and, and_false, exists_false, false_or, or_false, exists_and_left, exists_and_right, exists_eq', exists_eq, exists_const, Bool.false_eq_true, ite_true, ite_false, decide_eq_true_eq, Nat.sub_self, Nat.zero_add, Nat.add_sub_cancel, Nat.reduceSub, Nat.reduceAdd, ne_Clash_NoText, ne_Clash_Unfit, ne_NoText_Clash, ne_NoText_Unfit, ne_Unfit_Clash, ne_Unfit_NoText])
local macro_rules | `(tactic| walk_at "st") => `(tactic| simp (maxSteps := 1000000) only [↓TE_law_next, ↓reduceIte, xHand, uIsP, zPlAppY, zPlAppX, xTupL, aoLast, aoCons, uLenPl, oTl0, ↓asOTx_d, ↓asOTx_o, yNil, yCons, zSeqY, zIfY, zRaiseY, zExY, zRetXY, zForY, yCallA, ↓retE_k, zRaise2, uXf, zTryL, ↓atY_cons, ↓ret_wd, ↓ret_wo, ↓ret_wt, kC, ↓asTr_t, ↓asDs_l, ↓asDs_n, ↓asLs_l, ↓asOT_l, ↓asOT_t, ↓asOT_ll, pVar, pIx, uPlV, ↓asOw_o, ↓mvS_d, ↓mvS_f, ↓mvS_o, zRetX, oX, ↓frS_d, ↓frS_f, ↓plainA_n, ↓plainA_d, ↓plainA_f, ↓ret_xd, ↓ret_xf, ↓ret_xo, ↓retA_xd, ↓retA_xf, ↓retA_xo, ↓ret_vd, ↓ret_vo, OT.areD, OT.isD, OT.toDs, OT.toD, OT.upd, OT.wch, OT.ch, ↓retA_kO, ↓retA_kD, ↓retA_kDo, ↓retA_kS, ↓asBs_m, ↓asSs_m, fAll, fStr, ↓fIntS_i, ↓fIntS_b, ↓fIntS_s, oLcN, fSortST, zSeqX, zIfX, zRaise, ↓bare_d, ↓bare_o, ↓bare_l, ↓bare_no, ↓bare_f, ↓bare_tr, ↓bare_g, ↓bare_P, ↓bare_dic, oDic0, zSetK, uDin, ↓asDic_d, zDput, fMin2S, fMax2S, uLenSet, oSplit, S.f.injEq, eq_self, ↓fAddA_i, ↓fAddA_s, ↓fAddA_t, uChain, oRep, fSortS, ↓slW_d, ↓slW_o, ↓slW_P, ↓slW_s, ↓hasS_d, ↓hasS_o, ↓hasS_f, ↓hasS_s, uV, uN, u1, o1, o2, oN, ↓fIn_l, ↓fIn_s, fCat, ↓fList_l, ↓fList_t, ↓fTup_l, ↓fTup_t, ↓lstR_l, ↓lstR_P, zM1, fApp, zIns, ↓slF_d, ↓slF_o, ↓slF_s, uVf, pNo, pSo, ↓fSl_s, ↓fSl_t, uSl, ↓scal_n, ↓scal_b, ↓scal_i, ↓scal_s, ↓kS_d, ↓ret_S, rNil, rD, rS, uCallA, ↓toS_d, ↓toS_f, ↓toS_s, ↓slS_0, ↓slS_s, ↓retA_d, ↓retA_o, ↓retA_O, ↓backL_n, ↓backL_s, ↓backL_d, ↓backL_f, ↓lok_n, ↓lok_s, ↓lok_d, ↓lok_f, ↓lent_n, ↓lent_s, ↓lent_d, ↓lent_f, bYes, oLc, ↓clr_n, ↓clr_c, ↓clr2_n, ↓clr2_c, ↓rest_n, ↓rest_c, ↓keep1_d, ↓keep1_o, ↓keep1_f, ↓keep1_no, ↓keep1_s, ↓asLL_l, oLL0, zLLn, zLLa, uLLlen, List.mem_cons, List.not_mem_nil, Nat.reduceEqDiff, eqv_list, eqv_tuple, eqv_none, ↓asI_i, ↓asB_b, ↓asS_s, ↓asL_l, ↓asT_t, ↓slD_0, ↓slD_s, ↓slO_0, ↓slO_s, ↓asR_l, ↓fAdd_i, ↓fAdd_s, ↓ixbo_0, ↓ixbo_1, ↓ixbo_2, ↓ixbo_3, ↓ixD_l, ↓ixD_t, ↓ixD_s, ↓arg2_2, ↓fLen1_l, ↓fLen1_t, ↓fLen1_s, ↓asC_c, ↓asQ_l, ↓asQ_t, ↓asQ_s, ↓kD_d, ↓kD_o, ↓kO_o, ↓fz_l, ↓fz_P, ↓fz_ll, ↓ret_d, ↓ret_o, ↓ret_O, ↓retL_d, ↓retL_o, ↓retL_O, ↓atD_0, ↓atD_1, ↓atD_2, ↓atD_3, ↓atD_b1, ↓atD_b2, ↓atD_b3, ↓ixP_30, ↓ixP_31, ↓ixP_32, ↓if_true, ↓if_false, zNext, zSet, zSetO, zRet, zRetO, zRetP, zIf, zAsg, zPut, gN, gsNil, gsCons, gT, uVar, uC, uFz, u2, fI, fI0, fEq, uCB, wB, wNot, wAnd, wOr, uAnd, uOr, aNil, aCons, uTup, oLst, fIx, oVar, iSeq, iR1, uCall, oCall, uLend, oLend, shaped_iff, sh_non, sh_int, sh_bool, sh_str, eqv_int, eqv_str, eqv_bool, ixN_30, ixN_31, ixN_32, ixN_20, ixN_21, atI_0, atI_1, atI_2, atI_3, atI_b1, atI_b2, atI_b3, List.length_map, Int.reduceEq, forall_const, implies_true, and_assoc, sz_0, sz_1, sz_2, sz_3, sz_4, sz_5, sz_6, sz_7, sz_8, Bool.not_eq_true', beq_eq_false_iff_ne, beq_iff_eq, ne_eq, Bool.and_eq_true, Bool.or_eq_true, decide_eq_false_iff_not, not_false_eq_true, not_true_eq_false, Bool.not_true, Bool.not_false, isS_n, isS_b, isS_i, isS_s, isS_l, isS_t, ca_0, ca_1, ca_2, ca_3, ca_4, ca_5, ca_6, Int.reduceToNat, Int.toNat_natCast, Int.reducePow, Int.reduceMul, Int.reduceLT, Int.reduceLE, Int.reduceNeg, zFor, List.replicate, List.length_cons, List.length_nil, List.nil_append, List.cons_append, List.append_nil, List.map_cons, List.map_nil, List.set_cons_zero, List.set_cons_succ, List.getElem?_cons_zero, List.getElem?_cons_succ, Option.some.injEq, S.d.injEq, S.o.injEq, Res.lst.injEq, Res.lstP.injEq, PyData.int.injEq, PyData.str.injEq, PyData.bool.injEq, PyData.list.injEq, PyData.tuple.injEq, List.cons.injEq, reduceCtorEq, exists_eq_left', exists_eq_left, exists_eq_right, exists_eq_right', true_and, and_true, false_and, and_false, exists_false, false_or, or_false, exists_and_left, exists_and_right, exists_eq', exists_eq, exists_const, Bool.false_eq_true, ite_true, ite_false, decide_eq_true_eq, Nat.sub_self, Nat.zero_add, Nat.add_sub_cancel, Nat.reduceSub, Nat.reduceAdd, ne_Clash_NoText, ne_Clash_Unfit, ne_NoText_Clash, ne_NoText_Unfit, ne_Unfit_Clash, ne_Unfit_NoText])
theorem c_law_great {P : Program} {w : World} {K : PySem.W.Frag} {mg : Str → Option Value} {base : Heap} (hb : Bi K mg) (D : Df K mg "_law_great" (topS 31) ["feed"]) (C__law_next : Cal P w K mg base "_law_next" 2 ["feed", "many"] T_law_next) : Cal P w K mg base "_law_great" 3 ["feed"] T_law_great := (by
  obtain ⟨f, fd, F, hm, hB⟩ := D
  refine ⟨f, fd, fn_d (k := 2) F sc_law_great ?hT (fun cdv A outer s H E hr => (q_one (s_ret (d_mod (d_add (d_mul (d_lendC 0 C__law_next (hr.mono (by decide)) (a_cons (d_pow d_int d_int) a_nil)) (d_pow d_int d_int)) (d_lendC 0 C__law_next (hr.mono (by decide)) (a_cons (d_pow d_int d_int) a_nil))) (d_pow d_int d_int))))), hm, F.kp, hB⟩
  case hT =>
    intro a Q h
    obtain ⟨v, rfl, q⟩ := h
    refine ⟨rfl, ?_⟩
    walk_at "wpt"
    refine ⟨powA (by decide), by decide, fun x x0 hx => ⟨powA (by decide), ?_⟩⟩
    have bx : Bd 200 x := bd_of (by omega) (Int.lt_trans hx (by decide))
    refine ⟨mulA_b bx (m := 200) (by decide) (by decide), powA (by decide), by decide, fun y y0 hy => ⟨powA (by decide), ?_⟩⟩
    exact q _ (fmod_pos (by decide)).1 (Int.lt_of_lt_of_le (fmod_pos (by decide)).2 (by decide)) _ rfl
  )
def T_law_long : TF := fun a Q => ∃ (v : Lt), a = [.o (some v) (.lstP FeedP)] ∧ ∀ r, 1 ≤ r → r ≤ big → retL v (.lstP FeedP) Q (.d (.int r))
theorem TE_law_long {v : Lt} {Q : S → Dl.Ctx → Prop} : T_law_long [.o (some v) (.lstP FeedP)] Q = ∀ r, 1 ≤ r → r ≤ big → retL v (.lstP FeedP) Q (.d (.int r)) := propext ⟨fun ⟨_, e, q⟩ => by cases e; exact q, fun q => ⟨_, rfl, q⟩⟩
theorem sc_law_long : FnScope ["feed"] ["feed"] (defScope (topS 32)) := ⟨rfl, rfl, rfl, by decide +kernel, rfl, by decide +kernel, by decide +kernel⟩
local macro_rules | `(tactic| walk_at "wpt") => `(tactic| simp (maxSteps := 1000000) only [↓TE_law_great, ↓TE_law_next, ↓reduceIte, xHand, uIsP, zPlAppY, zPlAppX, xTupL, aoLast, aoCons, uLenPl, oTl0, ↓asOTx_d, ↓asOTx_o, yNil, yCons, zSeqY, zIfY, zRaiseY, zExY, zRetXY, zForY, yCallA, ↓retE_k, zRaise2, uXf, zTryL, ↓atY_cons, ↓ret_wd, ↓ret_wo, ↓ret_wt, kC, ↓asTr_t, ↓asDs_l, ↓asDs_n, ↓asLs_l, ↓asOT_l, ↓asOT_t, ↓asOT_ll, pVar, pIx, uPlV, ↓asOw_o, ↓mvS_d, ↓mvS_f, ↓mvS_o, zRetX, oX, ↓frS_d, ↓frS_f, ↓plainA_n, ↓plainA_d, ↓plainA_f, ↓ret_xd, ↓ret_xf, ↓ret_xo, ↓retA_xd, ↓retA_xf, ↓retA_xo, ↓ret_vd, ↓ret_vo, OT.areD, OT.isD, OT.toDs, OT.toD, OT.upd, OT.wch, OT.ch, ↓retA_kO, ↓retA_kD, ↓retA_kDo, ↓retA_kS, ↓asBs_m, ↓asSs_m, fAll, fStr, ↓fIntS_i, ↓fIntS_b, ↓fIntS_s, oLcN, fSortST, zSeqX, zIfX, zRaise, ↓bare_d, ↓bare_o, ↓bare_l, ↓bare_no, ↓bare_f, ↓bare_tr, ↓bare_g, ↓bare_P, ↓bare_dic, oDic0, zSetK, uDin, ↓asDic_d, zDput, fMin2S, fMax2S, uLenSet, oSplit, S.f.injEq, eq_self, ↓fAddA_i, ↓fAddA_s, ↓fAddA_t, uChain, oRep, fSortS, ↓slW_d, ↓slW_o, ↓slW_P, ↓slW_s, ↓hasS_d, ↓hasS_o, ↓hasS_f, ↓hasS_s, uV, uN, u1, o1, o2, oN, ↓fIn_l, ↓fIn_s, fCat, ↓fList_l, ↓fList_t, ↓fTup_l, ↓fTup_t, ↓lstR_l, ↓lstR_P, zM1, fApp, zIns, ↓slF_d, ↓slF_o, ↓slF_s, uVf, pNo, pSo, ↓fSl_s, ↓fSl_t, uSl, ↓scal_n, ↓scal_b, ↓scal_i, ↓scal_s, ↓kS_d, ↓ret_S, rNil, rD, rS, uCallA, ↓toS_d, ↓toS_f, ↓toS_s, ↓slS_0, ↓slS_s, ↓retA_d, ↓retA_o, ↓retA_O, ↓backL_n, ↓backL_s, ↓backL_d, ↓backL_f, ↓lok_n, ↓lok_s, ↓lok_d, ↓lok_f, ↓lent_n, ↓lent_s, ↓lent_d, ↓lent_f, bYes, oLc, ↓clr_n, ↓clr_c, ↓clr2_n, ↓clr2_c, ↓rest_n, ↓rest_c, ↓keep1_d, ↓keep1_o, ↓keep1_f, ↓keep1_no, ↓keep1_s, ↓asLL_l, oLL0, zLLn, zLLa, uLLlen, List.mem_cons, List.not_mem_nil, Nat.reduceEqDiff, eqv_list, eqv_tuple, eqv_none, ↓asI_i, ↓asB_b, ↓asS_s, ↓asL_l, ↓asT_t, ↓slD_0, ↓slD_s, ↓slO_0, ↓slO_s, ↓asR_l, ↓fAdd_i, ↓fAdd_s, ↓ixbo_0, ↓ixbo_1, ↓ixbo_2, ↓ixbo_3, ↓ixD_l, ↓ixD_t, ↓ixD_s, ↓arg2_2, ↓fLen1_l, ↓fLen1_t, ↓fLen1_s, ↓asC_c, ↓asQ_l, ↓asQ_t, ↓asQ_s, ↓kD_d, ↓kD_o, ↓kO_o, ↓fz_l, ↓fz_P, ↓fz_ll, ↓ret_d, ↓ret_o, ↓ret_O, ↓retL_d, ↓retL_o, ↓retL_O, ↓atD_0, ↓atD_1, ↓atD_2, ↓atD_3, ↓atD_b1, ↓atD_b2, ↓atD_b3, ↓ixP_30, ↓ixP_31, ↓ixP_32, ↓if_true, ↓if_false, zNext, zSeq, zSet, zSetO, zRet, zRetO, zRetP, zIf, zAsg, zPut, gN, gsNil, gsCons, gT, uVar, uC, uFz, u2, fI, fI0, fEq, uCB, wB, wNot, wAnd, wOr, uAnd, uOr, aNil, aCons, uTup, oLst, fIx, oVar, iSeq, iR1, uCall, oCall, uLend, oLend, shaped_iff, sh_non, sh_int, sh_bool, sh_str, eqv_int, eqv_str, eqv_bool, ixN_30, ixN_31, ixN_32, ixN_20, ixN_21, atI_0, atI_1, atI_2, atI_3, atI_b1, atI_b2, atI_b3, List.length_map, Int.reduceEq, forall_const, implies_true, and_assoc, sz_0, sz_1, sz_2, sz_3, sz_4, sz_5, sz_6, sz_7, sz_8, Bool.not_eq_true', beq_eq_false_iff_ne, beq_iff_eq, ne_eq, Bool.and_eq_true, Bool.or_eq_true, decide_eq_false_iff_not, not_false_eq_true, not_true_eq_false, Bool.not_true, Bool.not_false, isS_n, isS_b, isS_i, isS_s, isS_l, isS_t, ca_0, ca_1, ca_2, ca_3, ca_4, ca_5, ca_6, Int.reduceToNat, Int.toNat_natCast, Int.reducePow, Int.reduceMul, Int.reduceLT, Int.reduceLE, Int.reduceNeg, zFor, List.replicate, List.length_cons, List.length_nil, List.nil_append, List.cons_append, List.append_nil, List.map_cons, List.map_nil, List.set_cons_zero, List.set_cons_succ, List.getElem?_cons_zero, List.getElem?_cons_succ, Option.some.injEq, S.d.injEq, S.o.injEq, Res.lst.injEq, Res.lstP.injEq, PyData.int.injEq, PyData.str.injEq, PyData.bool.injEq, PyData.list.injEq, PyData.tuple.injEq, List.cons.injEq, reduceCtorEq, exists_eq_left', exists_eq_left, exists_eq_right, exists_eq_right', true_and, and_true, false_and, and_false, exists_false, false_or, or_false, exists_and_left, exists_and_right, exists_eq', exists_eq, exists_const, Bool.false_eq_true, ite_true, ite_false, decide_eq_true_eq, Nat.sub_self, Nat.zero_add, Nat.add_sub_cancel, Nat.reduceSub, Nat.reduceAdd, ne_Clash_NoText, ne_Clash_Unfit, ne_NoText_Clash, ne_NoText_Unfit, ne_Unfit_Clash, ne_Unfit_NoText])
local macro_rules | `(tactic| walk_at "st") => `(tactic| simp (maxSteps := 1000000) only [↓TE_law_great, ↓TE_law_next, ↓reduceIte, xHand, uIsP, zPlAppY, zPlAppX, xTupL, aoLast, aoCons, uLenPl, oTl0, ↓asOTx_d, ↓asOTx_o, yNil, yCons, zSeqY, zIfY, zRaiseY, zExY, zRetXY, zForY, yCallA, ↓retE_k, zRaise2, uXf, zTryL, ↓atY_cons, ↓ret_wd, ↓ret_wo, ↓ret_wt, kC, ↓asTr_t, ↓asDs_l, ↓asDs_n, ↓asLs_l, ↓asOT_l, ↓asOT_t, ↓asOT_ll, pVar, pIx, uPlV, ↓asOw_o, ↓mvS_d, ↓mvS_f, ↓mvS_o, zRetX, oX, ↓frS_d, ↓frS_f, ↓plainA_n, ↓plainA_d, ↓plainA_f, ↓ret_xd, ↓ret_xf, ↓ret_xo, ↓retA_xd, ↓retA_xf, ↓retA_xo, ↓ret_vd, ↓ret_vo, OT.areD, OT.isD, OT.toDs, OT.toD, OT.upd, OT.wch, OT.ch, ↓retA_kO, ↓retA_kD, ↓retA_kDo, ↓retA_kS, ↓asBs_m, ↓asSs_m, fAll, fStr, ↓fIntS_i, ↓fIntS_b, ↓fIntS_s, oLcN, fSortST, zSeqX, zIfX, zRaise, ↓bare_d, ↓bare_o, ↓bare_l, ↓bare_no, ↓bare_f, ↓bare_tr, ↓bare_g, ↓bare_P, ↓bare_dic, oDic0, zSetK, uDin, ↓asDic_d, zDput, fMin2S, fMax2S, uLenSet, oSplit, S.f.injEq, eq_self, ↓fAddA_i, ↓fAddA_s, ↓fAddA_t, uChain, oRep, fSortS, ↓slW_d, ↓slW_o, ↓slW_P, ↓slW_s, ↓hasS_d, ↓hasS_o, ↓hasS_f, ↓hasS_s, uV, uN, u1, o1, o2, oN, ↓fIn_l, ↓fIn_s, fCat, ↓fList_l, ↓fList_t, ↓fTup_l, ↓fTup_t, ↓lstR_l, ↓lstR_P, zM1, fApp, zIns, ↓slF_d, ↓slF_o, ↓slF_s, uVf, pNo, pSo, ↓fSl_s, ↓fSl_t, uSl, ↓scal_n, ↓scal_b, ↓scal_i, ↓scal_s, ↓kS_d, ↓ret_S, rNil, rD, rS, uCallA, ↓toS_d, ↓toS_f, ↓toS_s, ↓slS_0, ↓slS_s, ↓retA_d, ↓retA_o, ↓retA_O, ↓backL_n, ↓backL_s, ↓backL_d, ↓backL_f, ↓lok_n, ↓lok_s, ↓lok_d, ↓lok_f, ↓lent_n, ↓lent_s, ↓lent_d, ↓lent_f, bYes, oLc, ↓clr_n, ↓clr_c, ↓clr2_n, ↓clr2_c, ↓rest_n, ↓rest_c, ↓keep1_d, ↓keep1_o, ↓keep1_f, ↓keep1_no, ↓keep1_s, ↓asLL_l, oLL0, zLLn, zLLa, uLLlen, List.mem_cons, List.not_mem_nil, Nat.reduceEqDiff, eqv_list, eqv_tuple, eqv_none, ↓asI_i, ↓asB_b, ↓asS_s, ↓asL_l, ↓asT_t, ↓slD_0, ↓slD_s, ↓slO_0, ↓slO_s, ↓asR_l, ↓fAdd_i, ↓fAdd_s, ↓ixbo_0, ↓ixbo_1, ↓ixbo_2, ↓ixbo_3, ↓ixD_l, ↓ixD_t, ↓ixD_s, ↓arg2_2, ↓fLen1_l, ↓fLen1_t, ↓fLen1_s, ↓asC_c, ↓asQ_l, ↓asQ_t, ↓asQ_s, ↓kD_d, ↓kD_o, ↓kO_o, ↓fz_l, ↓fz_P, ↓fz_ll, ↓ret_d, ↓ret_o, ↓ret_O, ↓retL_d, ↓retL_o, ↓retL_O, ↓atD_0, ↓atD_1, ↓atD_2, ↓atD_3, ↓atD_b1, ↓atD_b2, ↓atD_b3, ↓ixP_30, ↓ixP_31, ↓ixP_32, ↓if_true, ↓if_false, zNext, zSet, zSetO, zRet, zRetO, zRetP, zIf, zAsg, zPut, gN, gsNil, gsCons, gT, uVar, uC, uFz, u2, fI, fI0, fEq, uCB, wB, wNot, wAnd, wOr, uAnd, uOr, aNil, aCons, uTup, oLst, fIx, oVar, iSeq, iR1, uCall, oCall, uLend, oLend, shaped_iff, sh_non, sh_int, sh_bool, sh_str, eqv_int, eqv_str, eqv_bool, ixN_30, ixN_31, ixN_32, ixN_20, ixN_21, atI_0, atI_1, atI_2, atI_3, atI_b1, atI_b2, atI_b3, List.length_map, Int.reduceEq, forall_const, implies_true, and_assoc, sz_0, sz_1, sz_2, sz_3, sz_4, sz_5, sz_6, sz_7, sz_8, Bool.not_eq_true', beq_eq_false_iff_ne, beq_iff_eq, ne_eq, Bool.and_eq_true, Bool.or_eq_true, decide_eq_false_iff_not, not_false_eq_true, not_true_eq_false, Bool.not_true, Bool.not_false, isS_n, isS_b, isS_i, isS_s, isS_l, isS_t, ca_0, ca_1, ca_2, ca_3, ca_4, ca_5, ca_6, Int.reduceToNat, Int.toNat_natCast, Int.reducePow, Int.reduceMul, Int.reduceLT, Int.reduceLE, Int.reduceNeg, zFor, List.replicate, List.length_cons, List.length_nil, List.nil_append, List.cons_append, List.append_nil, List.map_cons, List.map_nil, List.set_cons_zero, List.set_cons_succ, List.getElem?_cons_zero, List.getElem?_cons_succ, Option.some.injEq, S.d.injEq, S.o.injEq, Res.lst.injEq, Res.lstP.injEq, PyData.int.injEq, PyData.str.injEq, PyData.bool.injEq, PyData.list.injEq, PyData.tuple.injEq, List.cons.injEq, reduceCtorEq, exists_eq_left', exists_eq_left, exists_eq_right, exists_eq_right', true_and, and_true, false_and, and_false, exists_false, false_or, or_false, exists_and_left, exists_and_right, exists_eq', exists_eq, exists_const, Bool.false_eq_true, ite_true, ite_false, decide_eq_true_eq, Nat.sub_self, Nat.zero_add, Nat.add_sub_cancel, Nat.reduceSub, Nat.reduceAdd, ne_Clash_NoText, ne_Clash_Unfit, ne_NoText_Clash, ne_NoText_Unfit, ne_Unfit_Clash, ne_Unfit_NoText])
theorem c_law_long {P : Program} {w : World} {K : PySem.W.Frag} {mg : Str → Option Value} {base : Heap} (hb : Bi K mg) (D : Df K mg "_law_long" (topS 32) ["feed"]) (C__law_great : Cal P w K mg base "_law_great" 3 ["feed"] T_law_great) (C__law_next : Cal P w K mg base "_law_next" 2 ["feed", "many"] T_law_next) : Cal P w K mg base "_law_long" 4 ["feed"] T_law_long := (by
  obtain ⟨f, fd, F, hm, hB⟩ := D
  refine ⟨f, fd, fn_d (k := 3) F sc_law_long ?hT (fun cdv A outer s H E hr => (q_cons (s_if (t_gt (d_lendC 0 C__law_next (hr.mono (by decide)) (a_cons d_int a_nil)) d_int)
 (q_one (s_ret (d_add d_int (d_lendC 0 C__law_next (hr.mono (by decide)) (a_cons d_int a_nil))))) q_nil)
 (q_one (s_ret (d_add d_int (d_lendC 0 C__law_great (hr.mono (by decide)) a_nil)))))), hm, F.kp, hB⟩
  case hT =>
    intro a Q h
    obtain ⟨v, rfl, q⟩ := h
    refine ⟨rfl, ?_⟩
    walk_at "wpt"
    refine ⟨by decide, fun r r0 hr => ?_⟩
    split
    · exact ⟨by decide, fun x x0 hx => q _ (by omega) (Int.le_trans (show 1 + x ≤ 9 by omega) (by decide)) _ rfl⟩
    · exact fun x x0 hx => q _ (by omega) (by omega) _ rfl
  )
def T_law_name : TF := fun a Q => ∃ (v : Lt) (X : S) (ws : List Str), a = [.o (some v) (.lstP FeedP), X] ∧ Lk X (ws.map PyData.str) ∧ (∀ w ∈ ws, WordOk w) ∧ ws.length < 26 ∧ ∀ w, WordOk w → w ∉ ws → retA [some (v, .lstP FeedP), pat1 X] Q (.d (.str w))
theorem TE_law_name {v u : Lt} {ws : List Str} {Q : S → Dl.Ctx → Prop} : T_law_name [.o (some v) (.lstP FeedP), .o (some u) (.lst (ws.map PyData.str))] Q = ((∀ w ∈ ws, WordOk w) ∧ ws.length < 26 ∧ ∀ w, WordOk w → w ∉ ws → retA [some (v, .lstP FeedP), some (u, .lst (ws.map PyData.str))] Q (.d (.str w))) := propext ⟨fun ⟨v', X, ws', e, h, q⟩ => by
  cases e
  rw [lk_o] at h
  have := str_inj h
  subst this
  exact q, fun q => ⟨_, _, _, rfl, lk_o.mpr rfl, q⟩⟩
def abc : Str := "abcdefghijklmnopqrstuvwxyz"
theorem abc_l : abc.cps.toList.length = 26 ∧ abc.cps.toList.all chOk = true ∧ abc.cps.toList.Nodup := by decide +kernel
/-- one letter more -/
theorem word_more {w : Str} {n : Nat} (h1 : w.cps.size < 8) (h2 : w.cps.toList.all chOk = true) (h3 : chOk n = true) : WordOk (w ++ (⟨#[n]⟩ : Str)) := (by
  refine ⟨?_, ?_, ?_⟩
  · show 1 ≤ (w.cps ++ #[n]).size
    simp
  · show (w.cps ++ #[n]).size ≤ 8
    simp; omega
  · show ((w.cps ++ #[n]).toList).all chOk = true
    simp only [Array.toList_append, List.all_append, h2, Bool.true_and]
    simp [h3]
  )
theorem sc_law_name : FnScope ["feed", "names", "letters", "word", "k", "letter"] ["feed", "names"] (defScope (topS 33)) := ⟨rfl, rfl, rfl, by decide +kernel, rfl, by decide +kernel, by decide +kernel⟩
local macro_rules | `(tactic| walk_at "wpt") => `(tactic| simp (maxSteps := 1000000) only [↓TE_law_next, ↓reduceIte, xHand, uIsP, zPlAppY, zPlAppX, xTupL, aoLast, aoCons, uLenPl, oTl0, ↓asOTx_d, ↓asOTx_o, yNil, yCons, zSeqY, zIfY, zRaiseY, zExY, zRetXY, zForY, yCallA, ↓retE_k, zRaise2, uXf, zTryL, ↓atY_cons, ↓ret_wd, ↓ret_wo, ↓ret_wt, kC, ↓asTr_t, ↓asDs_l, ↓asDs_n, ↓asLs_l, ↓asOT_l, ↓asOT_t, ↓asOT_ll, pVar, pIx, uPlV, ↓asOw_o, ↓mvS_d, ↓mvS_f, ↓mvS_o, zRetX, oX, ↓frS_d, ↓frS_f, ↓plainA_n, ↓plainA_d, ↓plainA_f, ↓ret_xd, ↓ret_xf, ↓ret_xo, ↓retA_xd, ↓retA_xf, ↓retA_xo, ↓ret_vd, ↓ret_vo, OT.areD, OT.isD, OT.toDs, OT.toD, OT.upd, OT.wch, OT.ch, ↓retA_kO, ↓retA_kD, ↓retA_kDo, ↓retA_kS, ↓asBs_m, ↓asSs_m, fAll, fStr, ↓fIntS_i, ↓fIntS_b, ↓fIntS_s, oLcN, fSortST, zSeqX, zIfX, zRaise, ↓bare_d, ↓bare_o, ↓bare_l, ↓bare_no, ↓bare_f, ↓bare_tr, ↓bare_g, ↓bare_P, ↓bare_dic, oDic0, zSetK, uDin, ↓asDic_d, zDput, fMin2S, fMax2S, uLenSet, oSplit, S.f.injEq, eq_self, ↓fAddA_i, ↓fAddA_s, ↓fAddA_t, uChain, oRep, fSortS, ↓slW_d, ↓slW_o, ↓slW_P, ↓slW_s, ↓hasS_d, ↓hasS_o, ↓hasS_f, ↓hasS_s, uV, uN, u1, o1, o2, oN, ↓fIn_l, ↓fIn_s, fCat, ↓fList_l, ↓fList_t, ↓fTup_l, ↓fTup_t, ↓lstR_l, ↓lstR_P, zM1, fApp, zIns, ↓slF_d, ↓slF_o, ↓slF_s, uVf, pNo, pSo, ↓fSl_s, ↓fSl_t, uSl, ↓scal_n, ↓scal_b, ↓scal_i, ↓scal_s, ↓kS_d, ↓ret_S, rNil, rD, rS, uCallA, ↓toS_d, ↓toS_f, ↓toS_s, ↓slS_0, ↓slS_s, ↓retA_d, ↓retA_o, ↓retA_O, ↓backL_n, ↓backL_s, ↓backL_d, ↓backL_f, ↓lok_n, ↓lok_s, ↓lok_d, ↓lok_f, ↓lent_n, ↓lent_s, ↓lent_d, ↓lent_f, bYes, oLc, ↓clr_n, ↓clr_c, ↓clr2_n, ↓clr2_c, ↓rest_n, ↓rest_c, ↓keep1_d, ↓keep1_o, ↓keep1_f, ↓keep1_no, ↓keep1_s, ↓asLL_l, oLL0, zLLn, zLLa, uLLlen, List.mem_cons, List.not_mem_nil, Nat.reduceEqDiff, eqv_list, eqv_tuple, eqv_none, ↓asI_i, ↓asB_b, ↓asS_s, ↓asL_l, ↓asT_t, ↓slD_0, ↓slD_s, ↓slO_0, ↓slO_s, ↓asR_l, ↓fAdd_i, ↓fAdd_s, ↓ixbo_0, ↓ixbo_1, ↓ixbo_2, ↓ixbo_3, ↓ixD_l, ↓ixD_t, ↓ixD_s, ↓arg2_2, ↓fLen1_l, ↓fLen1_t, ↓fLen1_s, ↓asC_c, ↓asQ_l, ↓asQ_t, ↓asQ_s, ↓kD_d, ↓kD_o, ↓kO_o, ↓fz_l, ↓fz_P, ↓fz_ll, ↓ret_d, ↓ret_o, ↓ret_O, ↓retL_d, ↓retL_o, ↓retL_O, ↓atD_0, ↓atD_1, ↓atD_2, ↓atD_3, ↓atD_b1, ↓atD_b2, ↓atD_b3, ↓ixP_30, ↓ixP_31, ↓ixP_32, ↓if_true, ↓if_false, zNext, zSeq, zSet, zSetO, zRet, zRetO, zRetP, zIf, zAsg, zPut, gN, gsNil, gsCons, gT, uVar, uC, uFz, u2, fI, fI0, fEq, uCB, wB, wNot, wAnd, wOr, uAnd, uOr, aNil, aCons, uTup, oLst, fIx, oVar, iSeq, iR1, uCall, oCall, uLend, oLend, shaped_iff, sh_non, sh_int, sh_bool, sh_str, eqv_int, eqv_str, eqv_bool, ixN_30, ixN_31, ixN_32, ixN_20, ixN_21, atI_0, atI_1, atI_2, atI_3, atI_b1, atI_b2, atI_b3, List.length_map, Int.reduceEq, forall_const, implies_true, and_assoc, sz_0, sz_1, sz_2, sz_3, sz_4, sz_5, sz_6, sz_7, sz_8, Bool.not_eq_true', beq_eq_false_iff_ne, beq_iff_eq, ne_eq, Bool.and_eq_true, Bool.or_eq_true, decide_eq_false_iff_not, not_false_eq_true, not_true_eq_false, Bool.not_true, Bool.not_false, isS_n, isS_b, isS_i, isS_s, isS_l, isS_t, ca_0, ca_1, ca_2, ca_3, ca_4, ca_5, ca_6, Int.reduceToNat, Int.toNat_natCast, Int.reducePow, Int.reduceMul, Int.reduceLT, Int.reduceLE, Int.reduceNeg, zFor, List.replicate, List.length_cons, List.length_nil, List.nil_append, List.cons_append, List.append_nil, List.map_cons, List.map_nil, List.set_cons_zero, List.set_cons_succ, List.getElem?_cons_zero, List.getElem?_cons_succ, Option.some.injEq, S.d.injEq, S.o.injEq, Res.lst.injEq, Res.lstP.injEq, PyData.int.injEq, PyData.str.injEq, PyData.bool.injEq, PyData.list.injEq, PyData.tuple.injEq, List.cons.injEq, reduceCtorEq, exists_eq_left', exists_eq_left, exists_eq_right, exists_eq_right', true_and, and_true, false_and, and_false, exists_false, false_or, or_false, exists_and_left, exists_and_right, exists_eq', exists_eq, exists_const, Bool.false_eq_true, ite_true, ite_false, decide_eq_true_eq, Nat.sub_self, Nat.zero_add, Nat.add_sub_cancel, Nat.reduceSub, Nat.reduceAdd, ne_Clash_NoText, ne_Clash_Unfit, ne_NoText_Clash, ne_NoText_Unfit, ne_Unfit_Clash, ne_Unfit_NoText])
local macro_rules | `(tactic| walk_at "st") => `(tactic| simp (maxSteps := 1000000) only [↓TE_law_next, ↓reduceIte, xHand, uIsP, zPlAppY, zPlAppX, xTupL, aoLast, aoCons, uLenPl, oTl0, ↓asOTx_d, ↓asOTx_o, yNil, yCons, zSeqY, zIfY, zRaiseY, zExY, zRetXY, zForY, yCallA, ↓retE_k, zRaise2, uXf, zTryL, ↓atY_cons, ↓ret_wd, ↓ret_wo, ↓ret_wt, kC, ↓asTr_t, ↓asDs_l, ↓asDs_n, ↓asLs_l, ↓asOT_l, ↓asOT_t, ↓asOT_ll, pVar, pIx, uPlV, ↓asOw_o, ↓mvS_d, ↓mvS_f, ↓mvS_o, zRetX, oX, ↓frS_d, ↓frS_f, ↓plainA_n, ↓plainA_d, ↓plainA_f, ↓ret_xd, ↓ret_xf, ↓ret_xo, ↓retA_xd, ↓retA_xf, ↓retA_xo, ↓ret_vd, ↓ret_vo, OT.areD, OT.isD, OT.toDs, OT.toD, OT.upd, OT.wch, OT.ch, ↓retA_kO, ↓retA_kD, ↓retA_kDo, ↓retA_kS, ↓asBs_m, ↓asSs_m, fAll, fStr, ↓fIntS_i, ↓fIntS_b, ↓fIntS_s, oLcN, fSortST, zSeqX, zIfX, zRaise, ↓bare_d, ↓bare_o, ↓bare_l, ↓bare_no, ↓bare_f, ↓bare_tr, ↓bare_g, ↓bare_P, ↓bare_dic, oDic0, zSetK, uDin, ↓asDic_d, zDput, fMin2S, fMax2S, uLenSet, oSplit, S.f.injEq, eq_self, ↓fAddA_i, ↓fAddA_s, ↓fAddA_t, uChain, oRep, fSortS, ↓slW_d, ↓slW_o, ↓slW_P, ↓slW_s, ↓hasS_d, ↓hasS_o, ↓hasS_f, ↓hasS_s, uV, uN, u1, o1, o2, oN, ↓fIn_l, ↓fIn_s, fCat, ↓fList_l, ↓fList_t, ↓fTup_l, ↓fTup_t, ↓lstR_l, ↓lstR_P, zM1, fApp, zIns, ↓slF_d, ↓slF_o, ↓slF_s, uVf, pNo, pSo, ↓fSl_s, ↓fSl_t, uSl, ↓scal_n, ↓scal_b, ↓scal_i, ↓scal_s, ↓kS_d, ↓ret_S, rNil, rD, rS, uCallA, ↓toS_d, ↓toS_f, ↓toS_s, ↓slS_0, ↓slS_s, ↓retA_d, ↓retA_o, ↓retA_O, ↓backL_n, ↓backL_s, ↓backL_d, ↓backL_f, ↓lok_n, ↓lok_s, ↓lok_d, ↓lok_f, ↓lent_n, ↓lent_s, ↓lent_d, ↓lent_f, bYes, oLc, ↓clr_n, ↓clr_c, ↓clr2_n, ↓clr2_c, ↓rest_n, ↓rest_c, ↓keep1_d, ↓keep1_o, ↓keep1_f, ↓keep1_no, ↓keep1_s, ↓asLL_l, oLL0, zLLn, zLLa, uLLlen, List.mem_cons, List.not_mem_nil, Nat.reduceEqDiff, eqv_list, eqv_tuple, eqv_none, ↓asI_i, ↓asB_b, ↓asS_s, ↓asL_l, ↓asT_t, ↓slD_0, ↓slD_s, ↓slO_0, ↓slO_s, ↓asR_l, ↓fAdd_i, ↓fAdd_s, ↓ixbo_0, ↓ixbo_1, ↓ixbo_2, ↓ixbo_3, ↓ixD_l, ↓ixD_t, ↓ixD_s, ↓arg2_2, ↓fLen1_l, ↓fLen1_t, ↓fLen1_s, ↓asC_c, ↓asQ_l, ↓asQ_t, ↓asQ_s, ↓kD_d, ↓kD_o, ↓kO_o, ↓fz_l, ↓fz_P, ↓fz_ll, ↓ret_d, ↓ret_o, ↓ret_O, ↓retL_d, ↓retL_o, ↓retL_O, ↓atD_0, ↓atD_1, ↓atD_2, ↓atD_3, ↓atD_b1, ↓atD_b2, ↓atD_b3, ↓ixP_30, ↓ixP_31, ↓ixP_32, ↓if_true, ↓if_false, zNext, zSet, zSetO, zRet, zRetO, zRetP, zIf, zAsg, zPut, gN, gsNil, gsCons, gT, uVar, uC, uFz, u2, fI, fI0, fEq, uCB, wB, wNot, wAnd, wOr, uAnd, uOr, aNil, aCons, uTup, oLst, fIx, oVar, iSeq, iR1, uCall, oCall, uLend, oLend, shaped_iff, sh_non, sh_int, sh_bool, sh_str, eqv_int, eqv_str, eqv_bool, ixN_30, ixN_31, ixN_32, ixN_20, ixN_21, atI_0, atI_1, atI_2, atI_3, atI_b1, atI_b2, atI_b3, List.length_map, Int.reduceEq, forall_const, implies_true, and_assoc, sz_0, sz_1, sz_2, sz_3, sz_4, sz_5, sz_6, sz_7, sz_8, Bool.not_eq_true', beq_eq_false_iff_ne, beq_iff_eq, ne_eq, Bool.and_eq_true, Bool.or_eq_true, decide_eq_false_iff_not, not_false_eq_true, not_true_eq_false, Bool.not_true, Bool.not_false, isS_n, isS_b, isS_i, isS_s, isS_l, isS_t, ca_0, ca_1, ca_2, ca_3, ca_4, ca_5, ca_6, Int.reduceToNat, Int.toNat_natCast, Int.reducePow, Int.reduceMul, Int.reduceLT, Int.reduceLE, Int.reduceNeg, zFor, List.replicate, List.length_cons, List.length_nil, List.nil_append, List.cons_append, List.append_nil, List.map_cons, List.map_nil, List.set_cons_zero, List.set_cons_succ, List.getElem?_cons_zero, List.getElem?_cons_succ, Option.some.injEq, S.d.injEq, S.o.injEq, Res.lst.injEq, Res.lstP.injEq, PyData.int.injEq, PyData.str.injEq, PyData.bool.injEq, PyData.list.injEq, PyData.tuple.injEq, List.cons.injEq, reduceCtorEq, exists_eq_left', exists_eq_left, exists_eq_right, exists_eq_right', true_and, and_true, false_and, and_false, exists_false, false_or, or_false, exists_and_left, exists_and_right, exists_eq', exists_eq, exists_const, Bool.false_eq_true, ite_true, ite_false, decide_eq_true_eq, Nat.sub_self, Nat.zero_add, Nat.add_sub_cancel, Nat.reduceSub, Nat.reduceAdd, ne_Clash_NoText, ne_Clash_Unfit, ne_NoText_Clash, ne_NoText_Unfit, ne_Unfit_Clash, ne_Unfit_NoText])
local macro_rules | `(tactic| walk_at "wpx") => do
  let h := Lean.mkIdent `hX
  `(tactic| simp (maxSteps := 1000000) only [↓$h:ident, ↓TE_law_next, ↓reduceIte, xHand, uIsP, zPlAppY, zPlAppX, xTupL, aoLast, aoCons, uLenPl, oTl0, ↓asOTx_d, ↓asOTx_o, yNil, yCons, zSeqY, zIfY, zRaiseY, zExY, zRetXY, zForY, yCallA, ↓retE_k, zRaise2, uXf, zTryL, ↓atY_cons, ↓ret_wd, ↓ret_wo, ↓ret_wt, kC, ↓asTr_t, ↓asDs_l, ↓asDs_n, ↓asLs_l, ↓asOT_l, ↓asOT_t, ↓asOT_ll, pVar, pIx, uPlV, ↓asOw_o, ↓mvS_d, ↓mvS_f, ↓mvS_o, zRetX, oX, ↓frS_d, ↓frS_f, ↓plainA_n, ↓plainA_d, ↓plainA_f, ↓ret_xd, ↓ret_xf, ↓ret_xo, ↓retA_xd, ↓retA_xf, ↓retA_xo, ↓ret_vd, ↓ret_vo, OT.areD, OT.isD, OT.toDs, OT.toD, OT.upd, OT.wch, OT.ch, ↓retA_kO, ↓retA_kD, ↓retA_kDo, ↓retA_kS, ↓asBs_m, ↓asSs_m, fAll, fStr, ↓fIntS_i, ↓fIntS_b, ↓fIntS_s, oLcN, fSortST, zSeqX, zIfX, zRaise, ↓bare_d, ↓bare_o, ↓bare_l, ↓bare_no, ↓bare_f, ↓bare_tr, ↓bare_g, ↓bare_P, ↓bare_dic, oDic0, zSetK, uDin, ↓asDic_d, zDput, fMin2S, fMax2S, uLenSet, oSplit, S.f.injEq, eq_self, ↓fAddA_i, ↓fAddA_s, ↓fAddA_t, uChain, oRep, fSortS, ↓slW_d, ↓slW_o, ↓slW_P, ↓slW_s, ↓hasS_d, ↓hasS_o, ↓hasS_f, ↓hasS_s, uV, uN, u1, o1, o2, oN, ↓fIn_l, ↓fIn_s, fCat, ↓fList_l, ↓fList_t, ↓fTup_l, ↓fTup_t, ↓lstR_l, ↓lstR_P, zM1, fApp, zIns, ↓slF_d, ↓slF_o, ↓slF_s, uVf, pNo, pSo, ↓fSl_s, ↓fSl_t, uSl, ↓scal_n, ↓scal_b, ↓scal_i, ↓scal_s, ↓kS_d, ↓ret_S, rNil, rD, rS, uCallA, ↓toS_d, ↓toS_f, ↓toS_s, ↓slS_0, ↓slS_s, ↓retA_d, ↓retA_o, ↓retA_O, ↓backL_n, ↓backL_s, ↓backL_d, ↓backL_f, ↓lok_n, ↓lok_s, ↓lok_d, ↓lok_f, ↓lent_n, ↓lent_s, ↓lent_d, ↓lent_f, bYes, oLc, ↓clr_n, ↓clr_c, ↓clr2_n, ↓clr2_c, ↓rest_n, ↓rest_c, ↓keep1_d, ↓keep1_o, ↓keep1_f, ↓keep1_no, ↓keep1_s, ↓asLL_l, oLL0, zLLn, zLLa, uLLlen, List.mem_cons, List.not_mem_nil, Nat.reduceEqDiff, eqv_list, eqv_tuple, eqv_none, ↓asI_i, ↓asB_b, ↓asS_s, ↓asL_l, ↓asT_t, ↓slD_0, ↓slD_s, ↓slO_0, ↓slO_s, ↓asR_l, ↓fAdd_i, ↓fAdd_s, ↓ixbo_0, ↓ixbo_1, ↓ixbo_2, ↓ixbo_3, ↓ixD_l, ↓ixD_t, ↓ixD_s, ↓arg2_2, ↓fLen1_l, ↓fLen1_t, ↓fLen1_s, ↓asC_c, ↓asQ_l, ↓asQ_t, ↓asQ_s, ↓kD_d, ↓kD_o, ↓kO_o, ↓fz_l, ↓fz_P, ↓fz_ll, ↓ret_d, ↓ret_o, ↓ret_O, ↓retL_d, ↓retL_o, ↓retL_O, ↓atD_0, ↓atD_1, ↓atD_2, ↓atD_3, ↓atD_b1, ↓atD_b2, ↓atD_b3, ↓ixP_30, ↓ixP_31, ↓ixP_32, ↓if_true, ↓if_false, zNext, zSeq, zSet, zSetO, zRet, zRetO, zRetP, zIf, zAsg, zPut, gN, gsNil, gsCons, gT, uVar, uC, uFz, u2, fI, fI0, fEq, uCB, wB, wNot, wAnd, wOr, uAnd, uOr, aNil, aCons, uTup, oLst, fIx, oVar, iSeq, iR1, uCall, oCall, uLend, oLend, shaped_iff, sh_non, sh_int, sh_bool, sh_str, eqv_int, eqv_str, eqv_bool, ixN_30, ixN_31, ixN_32, ixN_20, ixN_21, atI_0, atI_1, atI_2, atI_3, atI_b1, atI_b2, atI_b3, List.length_map, Int.reduceEq, forall_const, implies_true, and_assoc, sz_0, sz_1, sz_2, sz_3, sz_4, sz_5, sz_6, sz_7, sz_8, Bool.not_eq_true', beq_eq_false_iff_ne, beq_iff_eq, ne_eq, Bool.and_eq_true, Bool.or_eq_true, decide_eq_false_iff_not, not_false_eq_true, not_true_eq_false, Bool.not_true, Bool.not_false, isS_n, isS_b, isS_i, isS_s, isS_l, isS_t, ca_0, ca_1, ca_2, ca_3, ca_4, ca_5, ca_6, Int.reduceToNat, Int.toNat_natCast, Int.reducePow, Int.reduceMul, Int.reduceLT, Int.reduceLE, Int.reduceNeg, zFor, List.replicate, List.length_cons, List.length_nil, List.nil_append, List.cons_append, List.append_nil, List.map_cons, List.map_nil, List.set_cons_zero, List.set_cons_succ, List.getElem?_cons_zero, List.getElem?_cons_succ, Option.some.injEq, S.d.injEq, S.o.injEq, Res.lst.injEq, Res.lstP.injEq, PyData.int.injEq, PyData.str.injEq, PyData.bool.injEq, PyData.list.injEq, PyData.tuple.injEq, List.cons.injEq, reduceCtorEq, exists_eq_left', exists_eq_left, exists_eq_right, exists_eq_right', true_and, and_true, false_and, and_false, exists_false, false_or, or_false, exists_and_left, exists_and_right, exists_eq', exists_eq, exists_const, Bool.false_eq_true, ite_true, ite_false, decide_eq_true_eq, Nat.sub_self, Nat.zero_add, Nat.add_sub_cancel, Nat.reduceSub, Nat.reduceAdd, ne_Clash_NoText, ne_Clash_Unfit, ne_NoText_Clash, ne_NoText_Unfit, ne_Unfit_Clash, ne_Unfit_NoText])
theorem c_law_name {P : Program} {w : World} {K : PySem.W.Frag} {mg : Str → Option Value} {base : Heap} (hb : Bi K mg) (D : Df K mg "_law_name" (topS 33) ["feed", "names"]) (C__law_next : Cal P w K mg base "_law_next" 2 ["feed", "many"] T_law_next) : Cal P w K mg base "_law_name" 3 ["feed", "names"] T_law_name := (by
  obtain ⟨f, fd, F, hm, hB⟩ := D
  refine ⟨f, fd, fn_d (k := 2) F sc_law_name ?hT (fun cdv A outer s H E hr => (q_cons (s_set (j := 2) sc_law_name.nd d_str)
 (q_cons (s_set (j := 3) sc_law_name.nd d_str)
 (q_cut (s_if (DW.dt (w_and (t_gt (d_lenV hb.len (vv 1)) d_int) (w_and1 (t_eq hr.units (d_lendC 0 C__law_next (hr.mono (by decide)) (a_cons d_int a_nil)) d_int))))
 (q_one (s_set (j := 3) sc_law_name.nd (d_sl (d_ixN 1 (fun _ _ => rfl) (d_neg d_int)) p_no (p_so d_int)))) q_nil)
 (q_cons (s_for PassesOwn.never rfl (i_range1 hb.range (d_add d_int (d_lendC 0 C__law_next (hr.mono (by decide)) (a_cons d_int a_nil)))) (g_name 4 sc_law_name.nd)
 (q_cons (s_set (j := 5) sc_law_name.nd (d_ixN 2 (fun _ _ => rfl) (d_lendC 0 C__law_next (hr.mono (by decide)) (a_cons d_int a_nil))))
 (q_one (s_if (t_lt (d_lenV hb.len (vv 3)) d_int)
 (q_one (s_set (j := 3) sc_law_name.nd (d_add (dv 3) (dv 5)))) q_nil))))
 (q_cut (s_if (t_eq hr.units (d_lendC 0 C__law_next (hr.mono (by decide)) (a_cons d_int a_nil)) d_int)
 (q_one (s_set (j := 3) sc_law_name.nd (d_ix (fun _ _ => rfl) (d_fz (o_lst (a_cons d_str (a_cons d_str (a_cons d_str (a_cons d_str (a_cons d_str (a_cons d_str (a_cons d_str a_nil))))))))) (d_lendC 0 C__law_next (hr.mono (by decide)) (a_cons d_int a_nil))))) q_nil)
 (q_cut (s_if (t_cmpN 3 (op_inA (hu65 hr)) opv_in (vv 1) (by rfl))
 (q_one (s_set (j := 3) sc_law_name.nd (d_ix (fun _ _ => rfl) (d_fz (o_lc [("letter", 5)] rfl sc_law_name.nd (i_seq (dv 2)) (by show blkC ["feed", "names", "letters", "word", "k", "letter"] (defScope (topS 33)) _ _ = true; decide +kernel) (fun _ _ _ _ _ => (g_name 5 sc_law_name.nd)) (fun _ _ _ _ _ => (b_one (t_cmpN 5 (op_notInA (hu65 hr)) opv_nin (vv 1) (by rfl)))) (fun _ _ _ _ _ => (dv 5)) (by decide))) d_int))) q_nil)
 (q_one (s_ret (dv 3)))))))))), hm, F.kp, hB⟩
  case hT =>
    intro a Q h
    obtain ⟨v, X, ws, rfl, hLk, hws, hl, q⟩ := h
    refine ⟨rfl, ?_⟩
    have hX := lk_facts hLk
    have stX : ∀ w ∈ ws, PyData.strOk w = true := fun w hw => word_ok (hws w hw)
    walk_at "wpx"
    -- the word's begin
    refine cut_by (fun c => ∃ w : Str, w.cps.size < 8 ∧ w.cps.toList.all chOk = true ∧ c = [.o (some v) (.lstP FeedP), X, .d (.str abc), .d (.str w), .no, .no]) ?_ ?_
    · intro N hN
      walk_at "wpx"
      have h0 : N [.o (some v) (.lstP FeedP), X, .d (.str abc), .d (.str (Str.ofString "")), .no, .no] := hN _ ⟨_, by decide +kernel, by decide +kernel, rfl⟩
      split
      · rename_i hlen
        refine ⟨by decide, fun r _ _ => ?_⟩
        split
        · obtain ⟨ws', w, rfl⟩ : ∃ l x, ws = l ++ [x] := by
            have : ws ≠ [] := fun z => by subst z; simp at hlen
            exact ⟨_, _, (List.dropLast_concat_getLast this).symm⟩
          refine ⟨.str w, by rw [List.map_append]; exact last_atI _ _, ?_⟩
          walk_at "wpx"
          have hw := hws w (by simp)
          have cw := cut_word hw 7 (by decide)
          refine ⟨Nat.le_trans (word_len hw) (by decide), hN _ ⟨_, ?_, cw.2.2, rfl⟩⟩
          exact Nat.lt_of_le_of_lt (cut_few w 7) (by decide)
        · exact h0
      · exact h0
    rintro c ⟨w0, hw8, hwc, rfl⟩
    walk_at "wpx"
    refine ⟨by decide, fun r r0 hr => ⟨by omega, by omega, ?_⟩⟩
    refine loop_by (fun i c => ∃ (w : Str) (x4 x5 : S), c = [.o (some v) (.lstP FeedP), X, .d (.str abc), .d (.str w), x4, x5] ∧ w.cps.size ≤ 8 ∧ w.cps.toList.all chOk = true ∧ (i = 0 → w.cps.size < 8) ∧ (0 < i → WordOk w)) ⟨w0, _, _, rfl, by omega, hwc, fun _ => hw8, fun z => absurd z (by decide)⟩ ?_ ?_
    · rintro i y c N hy ⟨w, x4, x5, rfl, h8, hc, hi0, hi1⟩ hN
      obtain ⟨hi, rfl⟩ := rngD_get hy
      walk_at "wpx"
      refine ⟨by decide, fun n n0 hn => ?_⟩
      obtain ⟨m, hm⟩ : ∃ m, abc.cps.toList[n.toNat]? = some m := ⟨_, List.getElem?_eq_getElem (by rw [abc_l.1]; omega)⟩
      have hch : chOk m = true := List.all_eq_true.mp abc_l.2.1 m (List.mem_of_getElem? hm)
      refine ⟨by decide +kernel, m, by rw [atI_of n0 (by rw [abc_l.1]; omega)]; exact hm, Nat.le_trans h8 (by decide), ?_⟩
      split
      · rename_i hlt
        have hlt' : w.cps.size < 8 := by
          have h : ((w.cps.size : Nat) : Int) < 8 := hlt
          omega
        have hw := word_more hlt' hc hch
        exact ⟨Nat.le_trans (show w.cps.size + 1 ≤ 9 by omega) (by decide), hN _ ⟨_, _, _, rfl, hw.2.1, hw.2.2, fun z => absurd z (by omega), fun _ => hw⟩⟩
      · rename_i hlt
        have hlt' : ¬ w.cps.size < 8 := by
          have h : ¬ ((w.cps.size : Nat) : Int) < 8 := hlt
          omega
        exact hN _ ⟨_, _, _, rfl, h8, hc, fun z => absurd z (by omega), fun _ => ⟨by omega, h8, hc⟩⟩
    rintro c ⟨w, x4, x5, rfl, _, _, _, hw⟩
    have hw := hw (by rw [rngD_len]; omega)
    clear hw8 hwc
    walk_at "wpx"
    refine cut_by (fun c => ∃ (w : Str) (x4 x5 : S), c = [.o (some v) (.lstP FeedP), X, .d (.str abc), .d (.str w), x4, x5] ∧ WordOk w) ?_ ?_
    · intro N hN
      walk_at "wpx"
      refine ⟨by decide, fun r r0 hr => ?_⟩
      split
      · refine ⟨by decide, fun k k0 hk => ?_⟩
        have key : ∀ x ∈ ([Str.ofString "one", Str.ofString "over", Str.ofString "row", Str.ofString "bore", Str.ofString "layer", Str.ofString "fault", Str.ofString "like"] : List Str), WordOk x := by unfold WordOk; decide +kernel
        refine atD_mem k0 (by simpa using hk) fun d hd => ?_
        obtain ⟨x, hx, rfl⟩ : ∃ x ∈ ([Str.ofString "one", Str.ofString "over", Str.ofString "row", Str.ofString "bore", Str.ofString "layer", Str.ofString "fault", Str.ofString "like"] : List Str), .str x = d := List.mem_map.mp (show d ∈ List.map PyData.str [Str.ofString "one", Str.ofString "over", Str.ofString "row", Str.ofString "bore", Str.ofString "layer", Str.ofString "fault", Str.ofString "like"] from hd)
        exact hN _ ⟨_, _, _, rfl, key x hx⟩
      · exact hN _ ⟨_, _, _, rfl, hw⟩
    rintro c ⟨w, x4, x5, rfl, hw⟩
    refine cut_by (fun c => ∃ (w : Str) (x4 x5 : S), c = [.o (some v) (.lstP FeedP), X, .d (.str abc), .d (.str w), x4, x5] ∧ WordOk w ∧ w ∉ ws) ?_ ?_
    · intro N hN
      walk_at "wpx"
      simp only [any_str, decide_eq_true_eq]
      refine ⟨word_ok hw, sh_strs stX, ?_⟩
      split
      · refine comp_fm (fun y => !(ws.map PyData.str).any fun z => PyData.eqv z y) (fun y => y) (by decide +kernel) (fun y hy N2 M2 hN2 hM2 => ?_) ?_
        · obtain ⟨n, hn, rfl⟩ := List.mem_map.mp hy
          have hch : chOk n = true := List.all_eq_true.mp abc_l.2.1 n hn
          walk_at "wpx"
          refine ⟨strOk_of (w := ⟨#[n]⟩) (by simp [hch]), sh_strs stX, ?_⟩
          split
          · rename_i hh
            exact hN2 (by simpa using hh) _ rfl
          · rename_i hh
            exact hM2 (by simpa using hh) _ rfl
        · walk_at "wpx"
          obtain ⟨n, hn, hn2⟩ : ∃ n ∈ abc.cps.toList, (⟨#[n]⟩ : Str) ∉ ws := by
            refine Classical.byContradiction fun hno => ?_
            have hall : ∀ n ∈ abc.cps.toList, (⟨#[n]⟩ : Str) ∈ ws := fun n hn => Classical.byContradiction fun z => hno ⟨n, hn, z⟩
            have h1 : (abc.cps.toList.map fun (n : Nat) => (⟨#[n]⟩ : Str)).Nodup := by decide +kernel
            have h2 := nodup_len h1 (m := ws) fun x hx => by
              obtain ⟨n, hn, rfl⟩ := List.mem_map.mp hx
              exact hall n hn
            rw [List.length_map, abc_l.1] at h2
            omega
          have hin : PyData.str ⟨#[n]⟩ ∈ List.map (fun y => y) (List.filter (fun y => !(ws.map PyData.str).any fun z => PyData.eqv z y) (Dl.signs abc)) := by
            refine List.mem_map.mpr ⟨_, List.mem_filter.mpr ⟨List.mem_map.mpr ⟨n, hn, rfl⟩, ?_⟩, rfl⟩
            rw [any_str, decide_eq_false hn2]; rfl
          refine atD_mem (by decide) (by have := List.length_pos_of_mem hin; simpa using this) fun d hd => ?_
          obtain ⟨y, hy, rfl⟩ := List.mem_map.mp hd
          obtain ⟨hy1, hy2⟩ := List.mem_filter.mp hy
          obtain ⟨m, hm, rfl⟩ := List.mem_map.mp hy1
          rw [any_str] at hy2
          have hch : chOk m = true := List.all_eq_true.mp abc_l.2.1 m hm
          exact hN _ ⟨_, _, _, rfl, ⟨by simp, by simp, by simp [hch]⟩, by simpa using hy2⟩
      · rename_i hn
        exact hN _ ⟨_, _, _, rfl, hw, hn⟩
    rintro c ⟨w, x4, x5, rfl, hw, hn⟩
    walk_at "wpx"
    exact q w hw hn _ (pat_consO (pat_cons pat_nil))
  )
/-- n words, no two alike -/
structure NamesOk (n : Nat) (ws : List Str) : Prop where
  len : ws.length = n
  ok : ∀ w ∈ ws, WordOk w
  nd : ws.Nodup
def T_law_names : TF := fun a Q => ∃ (v : Lt) (many : Int), a = [.o (some v) (.lstP FeedP), .d (.int many)] ∧ 0 ≤ many ∧ many ≤ 20 ∧ ∀ ws, NamesOk many.toNat ws → retL v (.lstP FeedP) Q (.o none (.lst (ws.map PyData.str)))
theorem TE_law_names {v : Lt} {many : Int} {Q : S → Dl.Ctx → Prop} : T_law_names [.o (some v) (.lstP FeedP), .d (.int many)] Q = (0 ≤ many ∧ many ≤ 20 ∧ ∀ ws, NamesOk many.toNat ws → retL v (.lstP FeedP) Q (.o none (.lst (ws.map PyData.str)))) := propext ⟨fun ⟨_, _, e, q⟩ => by cases e; exact q, fun q => ⟨_, _, rfl, q⟩⟩
theorem sc_law_names : FnScope ["feed", "many", "names", "k"] ["feed", "many"] (defScope (topS 34)) := ⟨rfl, rfl, rfl, by decide +kernel, rfl, by decide +kernel, by decide +kernel⟩
local macro_rules | `(tactic| walk_at "wpt") => `(tactic| simp (maxSteps := 1000000) only [↓TE_law_next, ↓TE_law_name, ↓reduceIte, xHand, uIsP, zPlAppY, zPlAppX, xTupL, aoLast, aoCons, uLenPl, oTl0, ↓asOTx_d, ↓asOTx_o, yNil, yCons, zSeqY, zIfY, zRaiseY, zExY, zRetXY, zForY, yCallA, ↓retE_k, zRaise2, uXf, zTryL, ↓atY_cons, ↓ret_wd, ↓ret_wo, ↓ret_wt, kC, ↓asTr_t, ↓asDs_l, ↓asDs_n, ↓asLs_l, ↓asOT_l, ↓asOT_t, ↓asOT_ll, pVar, pIx, uPlV, ↓asOw_o, ↓mvS_d, ↓mvS_f, ↓mvS_o, zRetX, oX, ↓frS_d, ↓frS_f, ↓plainA_n, ↓plainA_d, ↓plainA_f, ↓ret_xd, ↓ret_xf, ↓ret_xo, ↓retA_xd, ↓retA_xf, ↓retA_xo, ↓ret_vd, ↓ret_vo, OT.areD, OT.isD, OT.toDs, OT.toD, OT.upd, OT.wch, OT.ch, ↓retA_kO, ↓retA_kD, ↓retA_kDo, ↓retA_kS, ↓asBs_m, ↓asSs_m, fAll, fStr, ↓fIntS_i, ↓fIntS_b, ↓fIntS_s, oLcN, fSortST, zSeqX, zIfX, zRaise, ↓bare_d, ↓bare_o, ↓bare_l, ↓bare_no, ↓bare_f, ↓bare_tr, ↓bare_g, ↓bare_P, ↓bare_dic, oDic0, zSetK, uDin, ↓asDic_d, zDput, fMin2S, fMax2S, uLenSet, oSplit, S.f.injEq, eq_self, ↓fAddA_i, ↓fAddA_s, ↓fAddA_t, uChain, oRep, fSortS, ↓slW_d, ↓slW_o, ↓slW_P, ↓slW_s, ↓hasS_d, ↓hasS_o, ↓hasS_f, ↓hasS_s, uV, uN, u1, o1, o2, oN, ↓fIn_l, ↓fIn_s, fCat, ↓fList_l, ↓fList_t, ↓fTup_l, ↓fTup_t, ↓lstR_l, ↓lstR_P, zM1, fApp, zIns, ↓slF_d, ↓slF_o, ↓slF_s, uVf, pNo, pSo, ↓fSl_s, ↓fSl_t, uSl, ↓scal_n, ↓scal_b, ↓scal_i, ↓scal_s, ↓kS_d, ↓ret_S, rNil, rD, rS, uCallA, ↓toS_d, ↓toS_f, ↓toS_s, ↓slS_0, ↓slS_s, ↓retA_d, ↓retA_o, ↓retA_O, ↓backL_n, ↓backL_s, ↓backL_d, ↓backL_f, ↓lok_n, ↓lok_s, ↓lok_d, ↓lok_f, ↓lent_n, ↓lent_s, ↓lent_d, ↓lent_f, bYes, oLc, ↓clr_n, ↓clr_c, ↓clr2_n, ↓clr2_c, ↓rest_n, ↓rest_c, ↓keep1_d, ↓keep1_o, ↓keep1_f, ↓keep1_no, ↓keep1_s, ↓asLL_l, oLL0, zLLn, zLLa, uLLlen, List.mem_cons, List.not_mem_nil, Nat.reduceEqDiff, eqv_list, eqv_tuple, eqv_none, ↓asI_i, ↓asB_b, ↓asS_s, ↓asL_l, ↓asT_t, ↓slD_0, ↓slD_s, ↓slO_0, ↓slO_s, ↓asR_l, ↓fAdd_i, ↓fAdd_s, ↓ixbo_0, ↓ixbo_1, ↓ixbo_2, ↓ixbo_3, ↓ixD_l, ↓ixD_t, ↓ixD_s, ↓arg2_2, ↓fLen1_l, ↓fLen1_t, ↓fLen1_s, ↓asC_c, ↓asQ_l, ↓asQ_t, ↓asQ_s, ↓kD_d, ↓kD_o, ↓kO_o, ↓fz_l, ↓fz_P, ↓fz_ll, ↓ret_d, ↓ret_o, ↓ret_O, ↓retL_d, ↓retL_o, ↓retL_O, ↓atD_0, ↓atD_1, ↓atD_2, ↓atD_3, ↓atD_b1, ↓atD_b2, ↓atD_b3, ↓ixP_30, ↓ixP_31, ↓ixP_32, ↓if_true, ↓if_false, zNext, zSeq, zSet, zSetO, zRet, zRetO, zRetP, zIf, zAsg, zPut, gN, gsNil, gsCons, gT, uVar, uC, uFz, u2, fI, fI0, fEq, uCB, wB, wNot, wAnd, wOr, uAnd, uOr, aNil, aCons, uTup, oLst, fIx, oVar, iSeq, iR1, uCall, oCall, uLend, oLend, shaped_iff, sh_non, sh_int, sh_bool, sh_str, eqv_int, eqv_str, eqv_bool, ixN_30, ixN_31, ixN_32, ixN_20, ixN_21, atI_0, atI_1, atI_2, atI_3, atI_b1, atI_b2, atI_b3, List.length_map, Int.reduceEq, forall_const, implies_true, and_assoc, sz_0, sz_1, sz_2, sz_3, sz_4, sz_5, sz_6, sz_7, sz_8, Bool.not_eq_true', beq_eq_false_iff_ne, beq_iff_eq, ne_eq, Bool.and_eq_true, Bool.or_eq_true, decide_eq_false_iff_not, not_false_eq_true, not_true_eq_false, Bool.not_true, Bool.not_false, isS_n, isS_b, isS_i, isS_s, isS_l, isS_t, ca_0, ca_1, ca_2, ca_3, ca_4, ca_5, ca_6, Int.reduceToNat, Int.toNat_natCast, Int.reducePow, Int.reduceMul, Int.reduceLT, Int.reduceLE, Int.reduceNeg, zFor, List.replicate, List.length_cons, List.length_nil, List.nil_append, List.cons_append, List.append_nil, List.map_cons, List.map_nil, List.set_cons_zero, List.set_cons_succ, List.getElem?_cons_zero, List.getElem?_cons_succ, Option.some.injEq, S.d.injEq, S.o.injEq, Res.lst.injEq, Res.lstP.injEq, PyData.int.injEq, PyData.str.injEq, PyData.bool.injEq, PyData.list.injEq, PyData.tuple.injEq, List.cons.injEq, reduceCtorEq, exists_eq_left', exists_eq_left, exists_eq_right, exists_eq_right', true_and, and_true, false_and, and_false, exists_false, false_or, or_false, exists_and_left, exists_and_right, exists_eq', exists_eq, exists_const, Bool.false_eq_true, ite_true, ite_false, decide_eq_true_eq, Nat.sub_self, Nat.zero_add, Nat.add_sub_cancel, Nat.reduceSub, Nat.reduceAdd, ne_Clash_NoText, ne_Clash_Unfit, ne_NoText_Clash, ne_NoText_Unfit, ne_Unfit_Clash, ne_Unfit_NoText])
local macro_rules | `(tactic| walk_at "st") => `(tactic| simp (maxSteps := 1000000) only [↓TE_law_next, ↓TE_law_name, ↓reduceIte, xHand, uIsP, zPlAppY, zPlAppX, xTupL, aoLast, aoCons, uLenPl, oTl0, ↓asOTx_d, ↓asOTx_o, yNil, yCons, zSeqY, zIfY, zRaiseY, zExY, zRetXY, zForY, yCallA, ↓retE_k, zRaise2, uXf, zTryL, ↓atY_cons, ↓ret_wd, ↓ret_wo, ↓ret_wt, kC, ↓asTr_t, ↓asDs_l, ↓asDs_n, ↓asLs_l, ↓asOT_l, ↓asOT_t, ↓asOT_ll, pVar, pIx, uPlV, ↓asOw_o, ↓mvS_d, ↓mvS_f, ↓mvS_o, zRetX, oX, ↓frS_d, ↓frS_f, ↓plainA_n, ↓plainA_d, ↓plainA_f, ↓ret_xd, ↓ret_xf, ↓ret_xo, ↓retA_xd, ↓retA_xf, ↓retA_xo, ↓ret_vd, ↓ret_vo, OT.areD, OT.isD, OT.toDs, OT.toD, OT.upd, OT.wch, OT.ch, ↓retA_kO, ↓retA_kD, ↓retA_kDo, ↓retA_kS, ↓asBs_m, ↓asSs_m, fAll, fStr, ↓fIntS_i, ↓fIntS_b, ↓fIntS_s, oLcN, fSortST, zSeqX, zIfX, zRaise, ↓bare_d, ↓bare_o, ↓bare_l, ↓bare_no, ↓bare_f, ↓bare_tr, ↓bare_g, ↓bare_P, ↓bare_dic, oDic0, zSetK, uDin, ↓asDic_d, zDput, fMin2S, fMax2S, uLenSet, oSplit, S.f.injEq, eq_self, ↓fAddA_i, ↓fAddA_s, ↓fAddA_t, uChain, oRep, fSortS, ↓slW_d, ↓slW_o, ↓slW_P, ↓slW_s, ↓hasS_d, ↓hasS_o, ↓hasS_f, ↓hasS_s, uV, uN, u1, o1, o2, oN, ↓fIn_l, ↓fIn_s, fCat, ↓fList_l, ↓fList_t, ↓fTup_l, ↓fTup_t, ↓lstR_l, ↓lstR_P, zM1, fApp, zIns, ↓slF_d, ↓slF_o, ↓slF_s, uVf, pNo, pSo, ↓fSl_s, ↓fSl_t, uSl, ↓scal_n, ↓scal_b, ↓scal_i, ↓scal_s, ↓kS_d, ↓ret_S, rNil, rD, rS, uCallA, ↓toS_d, ↓toS_f, ↓toS_s, ↓slS_0, ↓slS_s, ↓retA_d, ↓retA_o, ↓retA_O, ↓backL_n, ↓backL_s, ↓backL_d, ↓backL_f, ↓lok_n, ↓lok_s, ↓lok_d, ↓lok_f, ↓lent_n, ↓lent_s, ↓lent_d, ↓lent_f, bYes, oLc, ↓clr_n, ↓clr_c, ↓clr2_n, ↓clr2_c, ↓rest_n, ↓rest_c, ↓keep1_d, ↓keep1_o, ↓keep1_f, ↓keep1_no, ↓keep1_s, ↓asLL_l, oLL0, zLLn, zLLa, uLLlen, List.mem_cons, List.not_mem_nil, Nat.reduceEqDiff, eqv_list, eqv_tuple, eqv_none, ↓asI_i, ↓asB_b, ↓asS_s, ↓asL_l, ↓asT_t, ↓slD_0, ↓slD_s, ↓slO_0, ↓slO_s, ↓asR_l, ↓fAdd_i, ↓fAdd_s, ↓ixbo_0, ↓ixbo_1, ↓ixbo_2, ↓ixbo_3, ↓ixD_l, ↓ixD_t, ↓ixD_s, ↓arg2_2, ↓fLen1_l, ↓fLen1_t, ↓fLen1_s, ↓asC_c, ↓asQ_l, ↓asQ_t, ↓asQ_s, ↓kD_d, ↓kD_o, ↓kO_o, ↓fz_l, ↓fz_P, ↓fz_ll, ↓ret_d, ↓ret_o, ↓ret_O, ↓retL_d, ↓retL_o, ↓retL_O, ↓atD_0, ↓atD_1, ↓atD_2, ↓atD_3, ↓atD_b1, ↓atD_b2, ↓atD_b3, ↓ixP_30, ↓ixP_31, ↓ixP_32, ↓if_true, ↓if_false, zNext, zSet, zSetO, zRet, zRetO, zRetP, zIf, zAsg, zPut, gN, gsNil, gsCons, gT, uVar, uC, uFz, u2, fI, fI0, fEq, uCB, wB, wNot, wAnd, wOr, uAnd, uOr, aNil, aCons, uTup, oLst, fIx, oVar, iSeq, iR1, uCall, oCall, uLend, oLend, shaped_iff, sh_non, sh_int, sh_bool, sh_str, eqv_int, eqv_str, eqv_bool, ixN_30, ixN_31, ixN_32, ixN_20, ixN_21, atI_0, atI_1, atI_2, atI_3, atI_b1, atI_b2, atI_b3, List.length_map, Int.reduceEq, forall_const, implies_true, and_assoc, sz_0, sz_1, sz_2, sz_3, sz_4, sz_5, sz_6, sz_7, sz_8, Bool.not_eq_true', beq_eq_false_iff_ne, beq_iff_eq, ne_eq, Bool.and_eq_true, Bool.or_eq_true, decide_eq_false_iff_not, not_false_eq_true, not_true_eq_false, Bool.not_true, Bool.not_false, isS_n, isS_b, isS_i, isS_s, isS_l, isS_t, ca_0, ca_1, ca_2, ca_3, ca_4, ca_5, ca_6, Int.reduceToNat, Int.toNat_natCast, Int.reducePow, Int.reduceMul, Int.reduceLT, Int.reduceLE, Int.reduceNeg, zFor, List.replicate, List.length_cons, List.length_nil, List.nil_append, List.cons_append, List.append_nil, List.map_cons, List.map_nil, List.set_cons_zero, List.set_cons_succ, List.getElem?_cons_zero, List.getElem?_cons_succ, Option.some.injEq, S.d.injEq, S.o.injEq, Res.lst.injEq, Res.lstP.injEq, PyData.int.injEq, PyData.str.injEq, PyData.bool.injEq, PyData.list.injEq, PyData.tuple.injEq, List.cons.injEq, reduceCtorEq, exists_eq_left', exists_eq_left, exists_eq_right, exists_eq_right', true_and, and_true, false_and, and_false, exists_false, false_or, or_false, exists_and_left, exists_and_right, exists_eq', exists_eq, exists_const, Bool.false_eq_true, ite_true, ite_false, decide_eq_true_eq, Nat.sub_self, Nat.zero_add, Nat.add_sub_cancel, Nat.reduceSub, Nat.reduceAdd, ne_Clash_NoText, ne_Clash_Unfit, ne_NoText_Clash, ne_NoText_Unfit, ne_Unfit_Clash, ne_Unfit_NoText])
theorem c_law_names {P : Program} {w : World} {K : PySem.W.Frag} {mg : Str → Option Value} {base : Heap} (hb : Bi K mg) (D : Df K mg "_law_names" (topS 34) ["feed", "many"]) (C__law_next : Cal P w K mg base "_law_next" 2 ["feed", "many"] T_law_next) (C__law_name : Cal P w K mg base "_law_name" 3 ["feed", "names"] T_law_name) : Cal P w K mg base "_law_names" 4 ["feed", "many"] T_law_names := (by
  obtain ⟨f, fd, F, hm, hB⟩ := D
  refine ⟨f, fd, fn_d (k := 3) F sc_law_names ?hT (fun cdv A outer s H E hr => (q_cons (s_setO (j := 2) sc_law_names.nd (o_lst a_nil))
 (q_cons (s_for PassesOwn.never rfl (i_range1 hb.range (dv 1)) (g_name 3 sc_law_names.nd)
 (q_one (s_ins 2 (d_lendC 0 C__law_next (hr.mono (by decide)) (a_cons (d_add (d_lenV hb.len (vv 2)) d_int) a_nil)) (d_callA C__law_name (hr.mono (by decide)) (r_s 0 (r_s 2 r_nil))))))
 (q_one (s_retO (o_var 2)))))), hm, F.kp, hB⟩
  case hT =>
    intro a Q h
    obtain ⟨v, many, rfl, h0, h1, q⟩ := h
    refine ⟨rfl, ?_⟩
    walk_at "wpt"
    refine ⟨by omega, by omega, ?_⟩
    refine loop_by (fun i c => ∃ (ws : List Str) (x3 : S), c = [.o (some v) (.lstP FeedP), .d (.int many), .o none (.lst (ws.map PyData.str)), x3] ∧ NamesOk i ws) ⟨[], _, rfl, rfl, by simp, List.nodup_nil⟩ ?_ ?_
    · rintro i y c N hy ⟨ws, x3, rfl, hl, hok, hnd⟩ hN
      obtain ⟨hi, rfl⟩ := rngD_get hy
      walk_at "wpt"
      refine ⟨by omega, bd_of (by omega) (by omega), fun r r0 hr => ⟨hok, by omega, fun w hw hn => ⟨by have := sizeLine_eq; omega, r0, by omega, ?_⟩⟩⟩
      rw [insD_map]
      exact hN _ ⟨_, _, rfl, by rw [len_ins, hl], fun x hx => by
        rcases mem_ins.mp hx with rfl | hx
        · exact hw
        · exact hok x hx, nodup_ins hnd hn⟩
    · rintro c ⟨ws, x3, rfl, hw⟩
      rw [rngD_len] at hw
      walk_at "wpt"
      exact q _ hw _ rfl
  )
def T_law_blocks : TF := fun a Q => ∃ (v : Lt) (ms : List Str), a = [.o (some v) (.lstP FeedP), .d (.list (ms.map PyData.str))] ∧ ms ≠ [] ∧ ms.length ≤ 1000 ∧ ∀ bl, BlOk ms bl → retL v (.lstP FeedP) Q (.d (.tuple (bl.map blD)))
theorem TE_law_blocks {v : Lt} {ms : List Str} {Q : S → Dl.Ctx → Prop} : T_law_blocks [.o (some v) (.lstP FeedP), .d (.list (ms.map PyData.str))] Q = (ms ≠ [] ∧ ms.length ≤ 1000 ∧ ∀ bl, BlOk ms bl → retL v (.lstP FeedP) Q (.d (.tuple (bl.map blD)))) := propext ⟨fun ⟨_, ms', e, q⟩ => by
  simp only [List.cons.injEq, S.o.injEq, Option.some.injEq, S.d.injEq, PyData.list.injEq, and_true, true_and] at e
  obtain ⟨rfl, e⟩ := e
  have := str_inj e
  subst this
  exact q, fun q => ⟨_, _, rfl, q⟩⟩
/-- the blocks on the way: the last one may be empty at the begin -/
def BlAt (ms : List Str) (i : Nat) (l : List (List (Str × Int))) (k : List (Str × Int)) : Prop := (∀ x ∈ l, x ≠ []) ∧ (l.flatten.length + k.length = i) ∧ (0 < i → k ≠ []) ∧ ∀ y ∈ l.flatten ++ k, y.1 ∈ ms ∧ 1 ≤ y.2 ∧ y.2 ≤ big
theorem blAt_more {ms : List Str} {i : Nat} {l : List (List (Str × Int))} {k : List (Str × Int)} (h : BlAt ms i l k) {y : Str × Int} (hy : y.1 ∈ ms ∧ 1 ≤ y.2 ∧ y.2 ≤ big) : BlAt ms (i + 1) l (k ++ [y]) := (by
  obtain ⟨h1, h2, h3, h4⟩ := h
  refine ⟨h1, by rw [List.length_append, List.length_singleton]; omega, fun _ => by simp, fun z hz => ?_⟩
  rw [← List.append_assoc, List.mem_append] at hz
  rcases hz with hz | hz
  · exact h4 z hz
  · obtain rfl : z = y := by simpa using hz
    exact hy
  )
theorem blAt_new {ms : List Str} {i : Nat} {l : List (List (Str × Int))} {k : List (Str × Int)} (h : BlAt ms i l k) (hk : k ≠ []) {y : Str × Int} (hy : y.1 ∈ ms ∧ 1 ≤ y.2 ∧ y.2 ≤ big) : BlAt ms (i + 1) (l ++ [k]) [y] := (by
  obtain ⟨h1, h2, h3, h4⟩ := h
  refine ⟨fun x hx => ?_, by rw [List.flatten_append, List.length_append]; simp only [List.flatten_cons, List.flatten_nil, List.append_nil, List.length_singleton]; omega, fun _ => by simp, fun z hz => ?_⟩
  · rcases List.mem_append.mp hx with hx | hx
    · exact h1 x hx
    · obtain rfl : x = k := by simpa using hx
      exact hk
  · rw [List.flatten_append, List.mem_append] at hz
    rcases hz with hz | hz
    · exact h4 z (by simpa using hz)
    · obtain rfl : z = y := by simpa using hz
      exact hy
  )
theorem blAt_end {ms : List Str} {i : Nat} {l : List (List (Str × Int))} {k : List (Str × Int)} (h : BlAt ms i l k) (h0 : 0 < i) (h6 : i ≤ 6) : BlOk ms (l ++ [k]) := (by
  obtain ⟨h1, h2, h3, h4⟩ := h
  have e : (l ++ [k]).flatten = l.flatten ++ k := by simp
  refine ⟨by simp, fun x hx => ?_, by rw [e, List.length_append]; omega, by rw [e, List.length_append]; omega, by rw [e]; exact h4⟩
  rcases List.mem_append.mp hx with hx | hx
  · exact h1 x hx
  · obtain rfl : x = k := by simpa using hx
    exact h3 h0
  )
theorem flat_few {α : Type} : ∀ {l : List (List α)}, (∀ x ∈ l, x ≠ []) → l.length ≤ l.flatten.length
  | [], _ => Nat.le_refl _
  | x :: l, h => by
    have h1 := flat_few (l := l) fun y hy => h y (List.mem_cons_of_mem _ hy)
    have h2 := List.length_pos_iff.mpr (h x List.mem_cons_self)
    rw [List.flatten_cons, List.length_append, List.length_cons]
    omega
theorem blAt_few {ms : List Str} {i : Nat} {l : List (List (Str × Int))} {k : List (Str × Int)} (h : BlAt ms i l k) : l.length ≤ i := (by
  have := flat_few h.1
  have := h.2.1
  omega
  )
theorem last_D {l : List (List (Str × Int))} {k : List (Str × Int)} {Q : List PyData → List (List PyData) → Prop} (h : Q (k.map lyD) (l.map (·.map lyD))) : lastLL ((l ++ [k]).map (·.map lyD)) Q := ⟨_, _, by rw [List.map_append]; rfl, h⟩
theorem sc_law_blocks : FnScope ["feed", "marks", "blocks", "k", "block"] ["feed", "marks"] (defScope (topS 35)) := ⟨rfl, rfl, rfl, by decide +kernel, rfl, by decide +kernel, by decide +kernel⟩
local macro_rules | `(tactic| walk_at "wpt") => `(tactic| simp (maxSteps := 1000000) only [↓TE_law_next, ↓TE_law_long, ↓reduceIte, xHand, uIsP, zPlAppY, zPlAppX, xTupL, aoLast, aoCons, uLenPl, oTl0, ↓asOTx_d, ↓asOTx_o, yNil, yCons, zSeqY, zIfY, zRaiseY, zExY, zRetXY, zForY, yCallA, ↓retE_k, zRaise2, uXf, zTryL, ↓atY_cons, ↓ret_wd, ↓ret_wo, ↓ret_wt, kC, ↓asTr_t, ↓asDs_l, ↓asDs_n, ↓asLs_l, ↓asOT_l, ↓asOT_t, ↓asOT_ll, pVar, pIx, uPlV, ↓asOw_o, ↓mvS_d, ↓mvS_f, ↓mvS_o, zRetX, oX, ↓frS_d, ↓frS_f, ↓plainA_n, ↓plainA_d, ↓plainA_f, ↓ret_xd, ↓ret_xf, ↓ret_xo, ↓retA_xd, ↓retA_xf, ↓retA_xo, ↓ret_vd, ↓ret_vo, OT.areD, OT.isD, OT.toDs, OT.toD, OT.upd, OT.wch, OT.ch, ↓retA_kO, ↓retA_kD, ↓retA_kDo, ↓retA_kS, ↓asBs_m, ↓asSs_m, fAll, fStr, ↓fIntS_i, ↓fIntS_b, ↓fIntS_s, oLcN, fSortST, zSeqX, zIfX, zRaise, ↓bare_d, ↓bare_o, ↓bare_l, ↓bare_no, ↓bare_f, ↓bare_tr, ↓bare_g, ↓bare_P, ↓bare_dic, oDic0, zSetK, uDin, ↓asDic_d, zDput, fMin2S, fMax2S, uLenSet, oSplit, S.f.injEq, eq_self, ↓fAddA_i, ↓fAddA_s, ↓fAddA_t, uChain, oRep, fSortS, ↓slW_d, ↓slW_o, ↓slW_P, ↓slW_s, ↓hasS_d, ↓hasS_o, ↓hasS_f, ↓hasS_s, uV, uN, u1, o1, o2, oN, ↓fIn_l, ↓fIn_s, fCat, ↓fList_l, ↓fList_t, ↓fTup_l, ↓fTup_t, ↓lstR_l, ↓lstR_P, zM1, fApp, zIns, ↓slF_d, ↓slF_o, ↓slF_s, uVf, pNo, pSo, ↓fSl_s, ↓fSl_t, uSl, ↓scal_n, ↓scal_b, ↓scal_i, ↓scal_s, ↓kS_d, ↓ret_S, rNil, rD, rS, uCallA, ↓toS_d, ↓toS_f, ↓toS_s, ↓slS_0, ↓slS_s, ↓retA_d, ↓retA_o, ↓retA_O, ↓backL_n, ↓backL_s, ↓backL_d, ↓backL_f, ↓lok_n, ↓lok_s, ↓lok_d, ↓lok_f, ↓lent_n, ↓lent_s, ↓lent_d, ↓lent_f, bYes, oLc, ↓clr_n, ↓clr_c, ↓clr2_n, ↓clr2_c, ↓rest_n, ↓rest_c, ↓keep1_d, ↓keep1_o, ↓keep1_f, ↓keep1_no, ↓keep1_s, ↓asLL_l, oLL0, zLLn, zLLa, uLLlen, List.mem_cons, List.not_mem_nil, Nat.reduceEqDiff, eqv_list, eqv_tuple, eqv_none, ↓asI_i, ↓asB_b, ↓asS_s, ↓asL_l, ↓asT_t, ↓slD_0, ↓slD_s, ↓slO_0, ↓slO_s, ↓asR_l, ↓fAdd_i, ↓fAdd_s, ↓ixbo_0, ↓ixbo_1, ↓ixbo_2, ↓ixbo_3, ↓ixD_l, ↓ixD_t, ↓ixD_s, ↓arg2_2, ↓fLen1_l, ↓fLen1_t, ↓fLen1_s, ↓asC_c, ↓asQ_l, ↓asQ_t, ↓asQ_s, ↓kD_d, ↓kD_o, ↓kO_o, ↓fz_l, ↓fz_P, ↓fz_ll, ↓ret_d, ↓ret_o, ↓ret_O, ↓retL_d, ↓retL_o, ↓retL_O, ↓atD_0, ↓atD_1, ↓atD_2, ↓atD_3, ↓atD_b1, ↓atD_b2, ↓atD_b3, ↓ixP_30, ↓ixP_31, ↓ixP_32, ↓if_true, ↓if_false, zNext, zSeq, zSet, zSetO, zRet, zRetO, zRetP, zIf, zAsg, zPut, gN, gsNil, gsCons, gT, uVar, uC, uFz, u2, fI, fI0, fEq, uCB, wB, wNot, wAnd, wOr, uAnd, uOr, aNil, aCons, uTup, oLst, fIx, oVar, iSeq, iR1, uCall, oCall, uLend, oLend, shaped_iff, sh_non, sh_int, sh_bool, sh_str, eqv_int, eqv_str, eqv_bool, ixN_30, ixN_31, ixN_32, ixN_20, ixN_21, atI_0, atI_1, atI_2, atI_3, atI_b1, atI_b2, atI_b3, List.length_map, Int.reduceEq, forall_const, implies_true, and_assoc, sz_0, sz_1, sz_2, sz_3, sz_4, sz_5, sz_6, sz_7, sz_8, Bool.not_eq_true', beq_eq_false_iff_ne, beq_iff_eq, ne_eq, Bool.and_eq_true, Bool.or_eq_true, decide_eq_false_iff_not, not_false_eq_true, not_true_eq_false, Bool.not_true, Bool.not_false, isS_n, isS_b, isS_i, isS_s, isS_l, isS_t, ca_0, ca_1, ca_2, ca_3, ca_4, ca_5, ca_6, Int.reduceToNat, Int.toNat_natCast, Int.reducePow, Int.reduceMul, Int.reduceLT, Int.reduceLE, Int.reduceNeg, zFor, List.replicate, List.length_cons, List.length_nil, List.nil_append, List.cons_append, List.append_nil, List.map_cons, List.map_nil, List.set_cons_zero, List.set_cons_succ, List.getElem?_cons_zero, List.getElem?_cons_succ, Option.some.injEq, S.d.injEq, S.o.injEq, Res.lst.injEq, Res.lstP.injEq, PyData.int.injEq, PyData.str.injEq, PyData.bool.injEq, PyData.list.injEq, PyData.tuple.injEq, List.cons.injEq, reduceCtorEq, exists_eq_left', exists_eq_left, exists_eq_right, exists_eq_right', true_and, and_true, false_and, and_false, exists_false, false_or, or_false, exists_and_left, exists_and_right, exists_eq', exists_eq, exists_const, Bool.false_eq_true, ite_true, ite_false, decide_eq_true_eq, Nat.sub_self, Nat.zero_add, Nat.add_sub_cancel, Nat.reduceSub, Nat.reduceAdd, ne_Clash_NoText, ne_Clash_Unfit, ne_NoText_Clash, ne_NoText_Unfit, ne_Unfit_Clash, ne_Unfit_NoText])
local macro_rules | `(tactic| walk_at "st") => `(tactic| simp (maxSteps := 1000000) only [↓TE_law_next, ↓TE_law_long, ↓reduceIte, xHand, uIsP, zPlAppY, zPlAppX, xTupL, aoLast, aoCons, uLenPl, oTl0, ↓asOTx_d, ↓asOTx_o, yNil, yCons, zSeqY, zIfY, zRaiseY, zExY, zRetXY, zForY, yCallA, ↓retE_k, zRaise2, uXf, zTryL, ↓atY_cons, ↓ret_wd, ↓ret_wo, ↓ret_wt, kC, ↓asTr_t, ↓asDs_l, ↓asDs_n, ↓asLs_l, ↓asOT_l, ↓asOT_t, ↓asOT_ll, pVar, pIx, uPlV, ↓asOw_o, ↓mvS_d, ↓mvS_f, ↓mvS_o, zRetX, oX, ↓frS_d, ↓frS_f, ↓plainA_n, ↓plainA_d, ↓plainA_f, ↓ret_xd, ↓ret_xf, ↓ret_xo, ↓retA_xd, ↓retA_xf, ↓retA_xo, ↓ret_vd, ↓ret_vo, OT.areD, OT.isD, OT.toDs, OT.toD, OT.upd, OT.wch, OT.ch, ↓retA_kO, ↓retA_kD, ↓retA_kDo, ↓retA_kS, ↓asBs_m, ↓asSs_m, fAll, fStr, ↓fIntS_i, ↓fIntS_b, ↓fIntS_s, oLcN, fSortST, zSeqX, zIfX, zRaise, ↓bare_d, ↓bare_o, ↓bare_l, ↓bare_no, ↓bare_f, ↓bare_tr, ↓bare_g, ↓bare_P, ↓bare_dic, oDic0, zSetK, uDin, ↓asDic_d, zDput, fMin2S, fMax2S, uLenSet, oSplit, S.f.injEq, eq_self, ↓fAddA_i, ↓fAddA_s, ↓fAddA_t, uChain, oRep, fSortS, ↓slW_d, ↓slW_o, ↓slW_P, ↓slW_s, ↓hasS_d, ↓hasS_o, ↓hasS_f, ↓hasS_s, uV, uN, u1, o1, o2, oN, ↓fIn_l, ↓fIn_s, fCat, ↓fList_l, ↓fList_t, ↓fTup_l, ↓fTup_t, ↓lstR_l, ↓lstR_P, zM1, fApp, zIns, ↓slF_d, ↓slF_o, ↓slF_s, uVf, pNo, pSo, ↓fSl_s, ↓fSl_t, uSl, ↓scal_n, ↓scal_b, ↓scal_i, ↓scal_s, ↓kS_d, ↓ret_S, rNil, rD, rS, uCallA, ↓toS_d, ↓toS_f, ↓toS_s, ↓slS_0, ↓slS_s, ↓retA_d, ↓retA_o, ↓retA_O, ↓backL_n, ↓backL_s, ↓backL_d, ↓backL_f, ↓lok_n, ↓lok_s, ↓lok_d, ↓lok_f, ↓lent_n, ↓lent_s, ↓lent_d, ↓lent_f, bYes, oLc, ↓clr_n, ↓clr_c, ↓clr2_n, ↓clr2_c, ↓rest_n, ↓rest_c, ↓keep1_d, ↓keep1_o, ↓keep1_f, ↓keep1_no, ↓keep1_s, ↓asLL_l, oLL0, zLLn, zLLa, uLLlen, List.mem_cons, List.not_mem_nil, Nat.reduceEqDiff, eqv_list, eqv_tuple, eqv_none, ↓asI_i, ↓asB_b, ↓asS_s, ↓asL_l, ↓asT_t, ↓slD_0, ↓slD_s, ↓slO_0, ↓slO_s, ↓asR_l, ↓fAdd_i, ↓fAdd_s, ↓ixbo_0, ↓ixbo_1, ↓ixbo_2, ↓ixbo_3, ↓ixD_l, ↓ixD_t, ↓ixD_s, ↓arg2_2, ↓fLen1_l, ↓fLen1_t, ↓fLen1_s, ↓asC_c, ↓asQ_l, ↓asQ_t, ↓asQ_s, ↓kD_d, ↓kD_o, ↓kO_o, ↓fz_l, ↓fz_P, ↓fz_ll, ↓ret_d, ↓ret_o, ↓ret_O, ↓retL_d, ↓retL_o, ↓retL_O, ↓atD_0, ↓atD_1, ↓atD_2, ↓atD_3, ↓atD_b1, ↓atD_b2, ↓atD_b3, ↓ixP_30, ↓ixP_31, ↓ixP_32, ↓if_true, ↓if_false, zNext, zSet, zSetO, zRet, zRetO, zRetP, zIf, zAsg, zPut, gN, gsNil, gsCons, gT, uVar, uC, uFz, u2, fI, fI0, fEq, uCB, wB, wNot, wAnd, wOr, uAnd, uOr, aNil, aCons, uTup, oLst, fIx, oVar, iSeq, iR1, uCall, oCall, uLend, oLend, shaped_iff, sh_non, sh_int, sh_bool, sh_str, eqv_int, eqv_str, eqv_bool, ixN_30, ixN_31, ixN_32, ixN_20, ixN_21, atI_0, atI_1, atI_2, atI_3, atI_b1, atI_b2, atI_b3, List.length_map, Int.reduceEq, forall_const, implies_true, and_assoc, sz_0, sz_1, sz_2, sz_3, sz_4, sz_5, sz_6, sz_7, sz_8, Bool.not_eq_true', beq_eq_false_iff_ne, beq_iff_eq, ne_eq, Bool.and_eq_true, Bool.or_eq_true, decide_eq_false_iff_not, not_false_eq_true, not_true_eq_false, Bool.not_true, Bool.not_false, isS_n, isS_b, isS_i, isS_s, isS_l, isS_t, ca_0, ca_1, ca_2, ca_3, ca_4, ca_5, ca_6, Int.reduceToNat, Int.toNat_natCast, Int.reducePow, Int.reduceMul, Int.reduceLT, Int.reduceLE, Int.reduceNeg, zFor, List.replicate, List.length_cons, List.length_nil, List.nil_append, List.cons_append, List.append_nil, List.map_cons, List.map_nil, List.set_cons_zero, List.set_cons_succ, List.getElem?_cons_zero, List.getElem?_cons_succ, Option.some.injEq, S.d.injEq, S.o.injEq, Res.lst.injEq, Res.lstP.injEq, PyData.int.injEq, PyData.str.injEq, PyData.bool.injEq, PyData.list.injEq, PyData.tuple.injEq, List.cons.injEq, reduceCtorEq, exists_eq_left', exists_eq_left, exists_eq_right, exists_eq_right', true_and, and_true, false_and, and_false, exists_false, false_or, or_false, exists_and_left, exists_and_right, exists_eq', exists_eq, exists_const, Bool.false_eq_true, ite_true, ite_false, decide_eq_true_eq, Nat.sub_self, Nat.zero_add, Nat.add_sub_cancel, Nat.reduceSub, Nat.reduceAdd, ne_Clash_NoText, ne_Clash_Unfit, ne_NoText_Clash, ne_NoText_Unfit, ne_Unfit_Clash, ne_Unfit_NoText])
theorem c_law_blocks {P : Program} {w : World} {K : PySem.W.Frag} {mg : Str → Option Value} {base : Heap} (hb : Bi K mg) (D : Df K mg "_law_blocks" (topS 35) ["feed", "marks"]) (C__law_next : Cal P w K mg base "_law_next" 2 ["feed", "many"] T_law_next) (C__law_long : Cal P w K mg base "_law_long" 4 ["feed"] T_law_long) : Cal P w K mg base "_law_blocks" 5 ["feed", "marks"] T_law_blocks := (by
  obtain ⟨f, fd, F, hm, hB⟩ := D
  refine ⟨f, fd, fn_d (k := 4) F sc_law_blocks ?hT (fun cdv A outer s H E hr => (q_cons (s_setO (j := 2) sc_law_blocks.nd o_ll0)
 (q_cons (s_for PassesOwn.never rfl (i_range1 hb.range (d_add d_int (d_lendC 0 C__law_next (hr.mono (by decide)) (a_cons d_int a_nil)))) (g_name 3 sc_law_blocks.nd)
 (q_cut (s_if (DW.dt (w_and (t_gt (d_lllen 2 hb.len) d_int) (w_and1 (t_eq hr.units (d_lendC 0 C__law_next (hr.mono (by decide)) (a_cons d_int a_nil)) d_int))))
 (q_one (s_lln 2)) q_nil)
 (q_one (s_lla 2 (d_tup (a_cons (d_ixN 1 (fun _ _ => rfl) (d_lendC 0 C__law_next (hr.mono (by decide)) (a_cons (d_lenV hb.len (vv 1)) a_nil))) (a_cons (d_lendC 0 C__law_long (hr.mono (by decide)) a_nil) a_nil)))))))
 (q_one (s_ret (d_tupV hb.tuple (DE.dv (d_fz (o_lc [("block", 4)] rfl sc_law_blocks.nd (i_seq (dvf 2)) (by show blkC ["feed", "marks", "blocks", "k", "block"] (defScope (topS 35)) _ _ = true; decide +kernel) (fun _ _ _ _ _ => (g_name 4 sc_law_blocks.nd)) (fun _ _ _ _ _ => b_yes) (fun _ _ _ _ _ => (d_tupV hb.tuple (vv 4))) (by decide)))))))))), hm, F.kp, hB⟩
  case hT =>
    intro a Q h
    obtain ⟨v, ms, rfl, hms, hml, q⟩ := h
    refine ⟨rfl, ?_⟩
    have mpos : 0 < ms.length := List.length_pos_iff.mpr hms
    walk_at "wpt"
    refine ⟨by decide, fun r r0 hr => ⟨by omega, by omega, ?_⟩⟩
    refine loop_by (fun i c => ∃ (l : List (List (Str × Int))) (k : List (Str × Int)) (x3 : S), c = [.o (some v) (.lstP FeedP), .d (.list (ms.map PyData.str)), .o none (.lls ((l ++ [k]).map (·.map lyD))), x3, .no] ∧ BlAt ms i l k) ⟨[], [], _, rfl, by simp, by simp, by simp, by simp⟩ ?_ ?_
    · rintro i y c N hy ⟨l, k, x3, rfl, hb⟩ hN
      obtain ⟨hi, rfl⟩ := rngD_get hy
      walk_at "wpt"
      refine cut_by (fun c => ∃ (l : List (List (Str × Int))) (k : List (Str × Int)) (x3 : S), c = [.o (some v) (.lstP FeedP), .d (.list (ms.map PyData.str)), .o none (.lls ((l ++ [k]).map (·.map lyD))), x3, .no] ∧ k.length ≤ 6 ∧ ∀ y : Str × Int, (y.1 ∈ ms ∧ 1 ≤ y.2 ∧ y.2 ≤ big) → BlAt ms (i + 1) l (k ++ [y])) ?_ ?_
      · intro M hM
        walk_at "wpt"
        have k6 : k.length ≤ 6 := by
          have := hb.2.1
          omega
        have hM0 : ∀ x3, M [.o (some v) (.lstP FeedP), .d (.list (ms.map PyData.str)), .o none (.lls ((l ++ [k]).map (·.map lyD))), x3, .no] := fun x3 => hM _ ⟨l, k, x3, rfl, k6, fun y hy => blAt_more hb hy⟩
        refine last_D ?_
        walk_at "wpt"
        split
        · rename_i hk
          have hk' : k ≠ [] := fun z => by subst z; simp at hk
          refine ⟨by decide, fun r _ _ => ?_⟩
          split
          · have hl := blAt_few hb
            have := sizeLine_eq
            refine ⟨by rw [List.length_append, List.length_singleton]; omega, ?_⟩
            have := hM _ ⟨l ++ [k], [], .d (.int (0 + i)), rfl, by simp, fun y hy => blAt_new hb hk' hy⟩
            simpa using this
          · exact hM0 _
        · exact hM0 _
      · rintro c ⟨l, k, x3, rfl, k6, hb⟩
        walk_at "wpt"
        refine last_D ⟨?_, by omega, bd_of (by omega) (by omega), fun n n0 hn => atD_mem n0 (by simpa using hn) fun d hd t t1 tb => ?_⟩
        · have := sizeLine_eq
          rw [List.length_map]; omega
        · obtain ⟨m, hm, rfl⟩ := List.mem_map.mp hd
          have := hN _ ⟨l, k ++ [(m, t)], x3, rfl, hb (m, t) ⟨hm, t1, tb⟩⟩
          simpa [lyD] using this
    · rintro c ⟨l, k, x3, rfl, hb⟩
      rw [rngD_len] at hb
      walk_at "wpt"
      have hl := blAt_few hb
      refine comp_map (fun y => match y with | .list ds => .tuple ds | y => y) ?_ (fun y hy N hN => ?_) ?_
      · have := sizeLine_eq
        rw [List.length_map, List.length_map, List.length_append, List.length_singleton]
        omega
      · obtain ⟨ds, _, rfl⟩ := List.mem_map.mp hy
        walk_at "wpt"
        exact hN _ rfl
      · walk_at "wpt"
        have e : List.map (fun y => match y with | .list ds => .tuple ds | y => y) (List.map PyData.list (List.map (fun x => List.map lyD x) (l ++ [k]))) = (l ++ [k]).map blD := by
          rw [List.map_map, List.map_map]; rfl
        rw [e]
        exact q _ (blAt_end hb (by omega) (by omega)) _ rfl
  )
def T_law_bores : TF := fun a Q => ∃ (xs : List Int) (ns ms : List Str), a = [.d (.list (xs.map PyData.int)), .d (.list (ns.map PyData.str)), .d (.list (ms.map PyData.str))] ∧ ns.length ≤ 20 ∧ ms ≠ [] ∧ ms.length ≤ 1000 ∧ ∀ bs, BosOk ns ms bs → (∀ b ∈ bs, b.at_ ≤ (ns.length : Int) * big) → ret Q (.o none (.lst (bs.map boD)))
theorem TE_law_bores {xs : List Int} {ns ms : List Str} {Q : S → Dl.Ctx → Prop} : T_law_bores [.d (.list (xs.map PyData.int)), .d (.list (ns.map PyData.str)), .d (.list (ms.map PyData.str))] Q = (ns.length ≤ 20 ∧ ms ≠ [] ∧ ms.length ≤ 1000 ∧ ∀ bs, BosOk ns ms bs → (∀ b ∈ bs, b.at_ ≤ (ns.length : Int) * big) → ret Q (.o none (.lst (bs.map boD)))) := propext ⟨fun ⟨_, _, _, e, q⟩ => by
  simp only [List.cons.injEq, S.d.injEq, PyData.list.injEq, and_true] at e
  obtain ⟨_, e1, e2⟩ := e
  have := str_inj e1
  have := str_inj e2
  subst_vars
  exact q, fun q => ⟨_, _, _, rfl, q⟩⟩
/-- the bores on the way -/
structure BosAt (ns ms : List Str) (i : Nat) (bs : List Bo) (sp : Int) : Prop where
  ok : BosOk (ns.take i) ms bs
  len : bs.length = i
  lo : -1 ≤ sp
  hi : sp ≤ i * big
  far : ∀ b ∈ bs, b.at_ ≤ sp
theorem bosAt_0 (ns ms : List Str) : BosAt ns ms 0 [] (-1) := (by
  refine ⟨⟨List.Perm.refl [], fun b hb => absurd hb List.not_mem_nil, List.nodup_nil⟩, rfl, Int.le_refl _, ?_, fun b hb => absurd hb List.not_mem_nil⟩
  rw [Int.natCast_zero, Int.zero_mul]
  decide
  )
theorem bosAt_more {ns ms : List Str} {i : Nat} {bs : List Bo} {sp : Int} (h : BosAt ns ms i bs sp) {z : Str} (hz : ns[i]? = some z) (hi : i < 20) {r t : Int} {bl : List (List (Str × Int))} (r1 : 1 ≤ r) (rb : r ≤ big) (t1 : 1 ≤ t) (tb : t ≤ big) (hb : BlOk ms bl) (k : Nat) :
    BosAt ns ms (i + 1) (bs.take k ++ [⟨z, sp + r, t - 1, bl⟩] ++ bs.drop k) (sp + r) := (by
  obtain ⟨⟨b1, b2, b3⟩, hl, h0, h1, hf⟩ := h
  have B0 : 0 < big := big_pos
  obtain ⟨B, hB⟩ : ∃ B, B = big := ⟨_, rfl⟩
  rw [← hB] at rb tb h1 B0
  have e : ns.take (i + 1) = ns.take i ++ [z] := by rw [List.take_add_one, hz]; rfl
  have ib : (i : Int) * B ≤ 19 * B := Int.mul_le_mul_of_nonneg_right (by omega) (Int.le_of_lt B0)
  refine ⟨⟨?_, fun b hb' => ?_, ?_⟩, by rw [len_ins, hl], by omega, ?_, fun b hb' => ?_⟩
  · have h2 := (perm_ins (ws := bs) (n := k) (w := (⟨z, sp + r, t - 1, bl⟩ : Bo))).map Bo.nm
    rw [e]
    exact h2.trans ((b1.cons z).trans (List.perm_append_singleton z _).symm)
  · rcases mem_ins.mp hb' with rfl | hb'
    · exact ⟨hb, show 0 ≤ sp + r by omega, by rw [← hB]; show sp + r ≤ 100 * B; omega, show 0 ≤ t - 1 by omega, by rw [← hB]; show t - 1 ≤ B; omega⟩
    · exact b2 b hb'
  · have h2 := (perm_ins (ws := bs) (n := k) (w := (⟨z, sp + r, t - 1, bl⟩ : Bo))).map Bo.at_
    refine h2.nodup_iff.mpr (List.nodup_cons.mpr ⟨fun hm => ?_, b3⟩)
    obtain ⟨b, hb1, hb2⟩ := List.mem_map.mp hm
    have h3 := hf b hb1
    have h4 : b.at_ = sp + r := hb2
    omega
  · rw [← hB, Int.natCast_add, Int.add_mul]
    have : ((1 : Nat) : Int) * B = B := Int.one_mul B
    omega
  · rcases mem_ins.mp hb' with rfl | hb'
    · exact Int.le_refl _
    · have := hf b hb'
      omega
  )
theorem sc_law_bores : FnScope ["script", "names", "marks", "holes", "spot", "k", "feed", "bore"] ["script", "names", "marks"] (defScope (topS 36)) := ⟨rfl, rfl, rfl, by decide +kernel, rfl, by decide +kernel, by decide +kernel⟩
local macro_rules | `(tactic| walk_at "wpt") => `(tactic| simp (maxSteps := 1000000) only [↓TE_law_next, ↓TE_law_blocks, ↓TE_law_long, ↓TE_law_feed, ↓reduceIte, xHand, uIsP, zPlAppY, zPlAppX, xTupL, aoLast, aoCons, uLenPl, oTl0, ↓asOTx_d, ↓asOTx_o, yNil, yCons, zSeqY, zIfY, zRaiseY, zExY, zRetXY, zForY, yCallA, ↓retE_k, zRaise2, uXf, zTryL, ↓atY_cons, ↓ret_wd, ↓ret_wo, ↓ret_wt, kC, ↓asTr_t, ↓asDs_l, ↓asDs_n, ↓asLs_l, ↓asOT_l, ↓asOT_t, ↓asOT_ll, pVar, pIx, uPlV, ↓asOw_o, ↓mvS_d, ↓mvS_f, ↓mvS_o, zRetX, oX, ↓frS_d, ↓frS_f, ↓plainA_n, ↓plainA_d, ↓plainA_f, ↓ret_xd, ↓ret_xf, ↓ret_xo, ↓retA_xd, ↓retA_xf, ↓retA_xo, ↓ret_vd, ↓ret_vo, OT.areD, OT.isD, OT.toDs, OT.toD, OT.upd, OT.wch, OT.ch, ↓retA_kO, ↓retA_kD, ↓retA_kDo, ↓retA_kS, ↓asBs_m, ↓asSs_m, fAll, fStr, ↓fIntS_i, ↓fIntS_b, ↓fIntS_s, oLcN, fSortST, zSeqX, zIfX, zRaise, ↓bare_d, ↓bare_o, ↓bare_l, ↓bare_no, ↓bare_f, ↓bare_tr, ↓bare_g, ↓bare_P, ↓bare_dic, oDic0, zSetK, uDin, ↓asDic_d, zDput, fMin2S, fMax2S, uLenSet, oSplit, S.f.injEq, eq_self, ↓fAddA_i, ↓fAddA_s, ↓fAddA_t, uChain, oRep, fSortS, ↓slW_d, ↓slW_o, ↓slW_P, ↓slW_s, ↓hasS_d, ↓hasS_o, ↓hasS_f, ↓hasS_s, uV, uN, u1, o1, o2, oN, ↓fIn_l, ↓fIn_s, fCat, ↓fList_l, ↓fList_t, ↓fTup_l, ↓fTup_t, ↓lstR_l, ↓lstR_P, zM1, fApp, zIns, ↓slF_d, ↓slF_o, ↓slF_s, uVf, pNo, pSo, ↓fSl_s, ↓fSl_t, uSl, ↓scal_n, ↓scal_b, ↓scal_i, ↓scal_s, ↓kS_d, ↓ret_S, rNil, rD, rS, uCallA, ↓toS_d, ↓toS_f, ↓toS_s, ↓slS_0, ↓slS_s, ↓retA_d, ↓retA_o, ↓retA_O, ↓backL_n, ↓backL_s, ↓backL_d, ↓backL_f, ↓lok_n, ↓lok_s, ↓lok_d, ↓lok_f, ↓lent_n, ↓lent_s, ↓lent_d, ↓lent_f, bYes, oLc, ↓clr_n, ↓clr_c, ↓clr2_n, ↓clr2_c, ↓rest_n, ↓rest_c, ↓keep1_d, ↓keep1_o, ↓keep1_f, ↓keep1_no, ↓keep1_s, ↓asLL_l, oLL0, zLLn, zLLa, uLLlen, List.mem_cons, List.not_mem_nil, Nat.reduceEqDiff, eqv_list, eqv_tuple, eqv_none, ↓asI_i, ↓asB_b, ↓asS_s, ↓asL_l, ↓asT_t, ↓slD_0, ↓slD_s, ↓slO_0, ↓slO_s, ↓asR_l, ↓fAdd_i, ↓fAdd_s, ↓ixbo_0, ↓ixbo_1, ↓ixbo_2, ↓ixbo_3, ↓ixD_l, ↓ixD_t, ↓ixD_s, ↓arg2_2, ↓fLen1_l, ↓fLen1_t, ↓fLen1_s, ↓asC_c, ↓asQ_l, ↓asQ_t, ↓asQ_s, ↓kD_d, ↓kD_o, ↓kO_o, ↓fz_l, ↓fz_P, ↓fz_ll, ↓ret_d, ↓ret_o, ↓ret_O, ↓retL_d, ↓retL_o, ↓retL_O, ↓atD_0, ↓atD_1, ↓atD_2, ↓atD_3, ↓atD_b1, ↓atD_b2, ↓atD_b3, ↓ixP_30, ↓ixP_31, ↓ixP_32, ↓if_true, ↓if_false, zNext, zSeq, zSet, zSetO, zRet, zRetO, zRetP, zIf, zAsg, zPut, gN, gsNil, gsCons, gT, uVar, uC, uFz, u2, fI, fI0, fEq, uCB, wB, wNot, wAnd, wOr, uAnd, uOr, aNil, aCons, uTup, oLst, fIx, oVar, iSeq, iR1, uCall, oCall, uLend, oLend, shaped_iff, sh_non, sh_int, sh_bool, sh_str, eqv_int, eqv_str, eqv_bool, ixN_30, ixN_31, ixN_32, ixN_20, ixN_21, atI_0, atI_1, atI_2, atI_3, atI_b1, atI_b2, atI_b3, List.length_map, Int.reduceEq, forall_const, implies_true, and_assoc, sz_0, sz_1, sz_2, sz_3, sz_4, sz_5, sz_6, sz_7, sz_8, Bool.not_eq_true', beq_eq_false_iff_ne, beq_iff_eq, ne_eq, Bool.and_eq_true, Bool.or_eq_true, decide_eq_false_iff_not, not_false_eq_true, not_true_eq_false, Bool.not_true, Bool.not_false, isS_n, isS_b, isS_i, isS_s, isS_l, isS_t, ca_0, ca_1, ca_2, ca_3, ca_4, ca_5, ca_6, Int.reduceToNat, Int.toNat_natCast, Int.reducePow, Int.reduceMul, Int.reduceLT, Int.reduceLE, Int.reduceNeg, zFor, List.replicate, List.length_cons, List.length_nil, List.nil_append, List.cons_append, List.append_nil, List.map_cons, List.map_nil, List.set_cons_zero, List.set_cons_succ, List.getElem?_cons_zero, List.getElem?_cons_succ, Option.some.injEq, S.d.injEq, S.o.injEq, Res.lst.injEq, Res.lstP.injEq, PyData.int.injEq, PyData.str.injEq, PyData.bool.injEq, PyData.list.injEq, PyData.tuple.injEq, List.cons.injEq, reduceCtorEq, exists_eq_left', exists_eq_left, exists_eq_right, exists_eq_right', true_and, and_true, false_and, and_false, exists_false, false_or, or_false, exists_and_left, exists_and_right, exists_eq', exists_eq, exists_const, Bool.false_eq_true, ite_true, ite_false, decide_eq_true_eq, Nat.sub_self, Nat.zero_add, Nat.add_sub_cancel, Nat.reduceSub, Nat.reduceAdd, ne_Clash_NoText, ne_Clash_Unfit, ne_NoText_Clash, ne_NoText_Unfit, ne_Unfit_Clash, ne_Unfit_NoText])
local macro_rules | `(tactic| walk_at "st") => `(tactic| simp (maxSteps := 1000000) only [↓TE_law_next, ↓TE_law_blocks, ↓TE_law_long, ↓TE_law_feed, ↓reduceIte, xHand, uIsP, zPlAppY, zPlAppX, xTupL, aoLast, aoCons, uLenPl, oTl0, ↓asOTx_d, ↓asOTx_o, yNil, yCons, zSeqY, zIfY, zRaiseY, zExY, zRetXY, zForY, yCallA, ↓retE_k, zRaise2, uXf, zTryL, ↓atY_cons, ↓ret_wd, ↓ret_wo, ↓ret_wt, kC, ↓asTr_t, ↓asDs_l, ↓asDs_n, ↓asLs_l, ↓asOT_l, ↓asOT_t, ↓asOT_ll, pVar, pIx, uPlV, ↓asOw_o, ↓mvS_d, ↓mvS_f, ↓mvS_o, zRetX, oX, ↓frS_d, ↓frS_f, ↓plainA_n, ↓plainA_d, ↓plainA_f, ↓ret_xd, ↓ret_xf, ↓ret_xo, ↓retA_xd, ↓retA_xf, ↓retA_xo, ↓ret_vd, ↓ret_vo, OT.areD, OT.isD, OT.toDs, OT.toD, OT.upd, OT.wch, OT.ch, ↓retA_kO, ↓retA_kD, ↓retA_kDo, ↓retA_kS, ↓asBs_m, ↓asSs_m, fAll, fStr, ↓fIntS_i, ↓fIntS_b, ↓fIntS_s, oLcN, fSortST, zSeqX, zIfX, zRaise, ↓bare_d, ↓bare_o, ↓bare_l, ↓bare_no, ↓bare_f, ↓bare_tr, ↓bare_g, ↓bare_P, ↓bare_dic, oDic0, zSetK, uDin, ↓asDic_d, zDput, fMin2S, fMax2S, uLenSet, oSplit, S.f.injEq, eq_self, ↓fAddA_i, ↓fAddA_s, ↓fAddA_t, uChain, oRep, fSortS, ↓slW_d, ↓slW_o, ↓slW_P, ↓slW_s, ↓hasS_d, ↓hasS_o, ↓hasS_f, ↓hasS_s, uV, uN, u1, o1, o2, oN, ↓fIn_l, ↓fIn_s, fCat, ↓fList_l, ↓fList_t, ↓fTup_l, ↓fTup_t, ↓lstR_l, ↓lstR_P, zM1, fApp, zIns, ↓slF_d, ↓slF_o, ↓slF_s, uVf, pNo, pSo, ↓fSl_s, ↓fSl_t, uSl, ↓scal_n, ↓scal_b, ↓scal_i, ↓scal_s, ↓kS_d, ↓ret_S, rNil, rD, rS, uCallA, ↓toS_d, ↓toS_f, ↓toS_s, ↓slS_0, ↓slS_s, ↓retA_d, ↓retA_o, ↓retA_O, ↓backL_n, ↓backL_s, ↓backL_d, ↓backL_f, ↓lok_n, ↓lok_s, ↓lok_d, ↓lok_f, ↓lent_n, ↓lent_s, ↓lent_d, ↓lent_f, bYes, oLc, ↓clr_n, ↓clr_c, ↓clr2_n, ↓clr2_c, ↓rest_n, ↓rest_c, ↓keep1_d, ↓keep1_o, ↓keep1_f, ↓keep1_no, ↓keep1_s, ↓asLL_l, oLL0, zLLn, zLLa, uLLlen, List.mem_cons, List.not_mem_nil, Nat.reduceEqDiff, eqv_list, eqv_tuple, eqv_none, ↓asI_i, ↓asB_b, ↓asS_s, ↓asL_l, ↓asT_t, ↓slD_0, ↓slD_s, ↓slO_0, ↓slO_s, ↓asR_l, ↓fAdd_i, ↓fAdd_s, ↓ixbo_0, ↓ixbo_1, ↓ixbo_2, ↓ixbo_3, ↓ixD_l, ↓ixD_t, ↓ixD_s, ↓arg2_2, ↓fLen1_l, ↓fLen1_t, ↓fLen1_s, ↓asC_c, ↓asQ_l, ↓asQ_t, ↓asQ_s, ↓kD_d, ↓kD_o, ↓kO_o, ↓fz_l, ↓fz_P, ↓fz_ll, ↓ret_d, ↓ret_o, ↓ret_O, ↓retL_d, ↓retL_o, ↓retL_O, ↓atD_0, ↓atD_1, ↓atD_2, ↓atD_3, ↓atD_b1, ↓atD_b2, ↓atD_b3, ↓ixP_30, ↓ixP_31, ↓ixP_32, ↓if_true, ↓if_false, zNext, zSet, zSetO, zRet, zRetO, zRetP, zIf, zAsg, zPut, gN, gsNil, gsCons, gT, uVar, uC, uFz, u2, fI, fI0, fEq, uCB, wB, wNot, wAnd, wOr, uAnd, uOr, aNil, aCons, uTup, oLst, fIx, oVar, iSeq, iR1, uCall, oCall, uLend, oLend, shaped_iff, sh_non, sh_int, sh_bool, sh_str, eqv_int, eqv_str, eqv_bool, ixN_30, ixN_31, ixN_32, ixN_20, ixN_21, atI_0, atI_1, atI_2, atI_3, atI_b1, atI_b2, atI_b3, List.length_map, Int.reduceEq, forall_const, implies_true, and_assoc, sz_0, sz_1, sz_2, sz_3, sz_4, sz_5, sz_6, sz_7, sz_8, Bool.not_eq_true', beq_eq_false_iff_ne, beq_iff_eq, ne_eq, Bool.and_eq_true, Bool.or_eq_true, decide_eq_false_iff_not, not_false_eq_true, not_true_eq_false, Bool.not_true, Bool.not_false, isS_n, isS_b, isS_i, isS_s, isS_l, isS_t, ca_0, ca_1, ca_2, ca_3, ca_4, ca_5, ca_6, Int.reduceToNat, Int.toNat_natCast, Int.reducePow, Int.reduceMul, Int.reduceLT, Int.reduceLE, Int.reduceNeg, zFor, List.replicate, List.length_cons, List.length_nil, List.nil_append, List.cons_append, List.append_nil, List.map_cons, List.map_nil, List.set_cons_zero, List.set_cons_succ, List.getElem?_cons_zero, List.getElem?_cons_succ, Option.some.injEq, S.d.injEq, S.o.injEq, Res.lst.injEq, Res.lstP.injEq, PyData.int.injEq, PyData.str.injEq, PyData.bool.injEq, PyData.list.injEq, PyData.tuple.injEq, List.cons.injEq, reduceCtorEq, exists_eq_left', exists_eq_left, exists_eq_right, exists_eq_right', true_and, and_true, false_and, and_false, exists_false, false_or, or_false, exists_and_left, exists_and_right, exists_eq', exists_eq, exists_const, Bool.false_eq_true, ite_true, ite_false, decide_eq_true_eq, Nat.sub_self, Nat.zero_add, Nat.add_sub_cancel, Nat.reduceSub, Nat.reduceAdd, ne_Clash_NoText, ne_Clash_Unfit, ne_NoText_Clash, ne_NoText_Unfit, ne_Unfit_Clash, ne_Unfit_NoText])
theorem c_law_bores {P : Program} {w : World} {K : PySem.W.Frag} {mg : Str → Option Value} {base : Heap} (hb : Bi K mg) (D : Df K mg "_law_bores" (topS 36) ["script", "names", "marks"]) (C__law_next : Cal P w K mg base "_law_next" 2 ["feed", "many"] T_law_next) (C__law_blocks : Cal P w K mg base "_law_blocks" 5 ["feed", "marks"] T_law_blocks) (C__law_long : Cal P w K mg base "_law_long" 4 ["feed"] T_law_long) (C__law_feed : Cal P w K mg base "_law_feed" 1 ["script", "k"] T_law_feed) : Cal P w K mg base "_law_bores" 6 ["script", "names", "marks"] T_law_bores := (by
  obtain ⟨f, fd, F, hm, hB⟩ := D
  refine ⟨f, fd, fn_d (k := 5) F sc_law_bores ?hT (fun cdv A outer s H E hr => (q_cons (s_setO (j := 3) sc_law_bores.nd (o_lst a_nil))
 (q_cut (s_set (j := 4) sc_law_bores.nd (d_neg d_int))
 (q_cons (s_for PassesOwn.never rfl (i_range1 hb.range (d_lenV hb.len (vv 1))) (g_name 5 sc_law_bores.nd)
 (q_cut (s_setO (j := 6) sc_law_bores.nd (o_callC C__law_feed (hr.mono (by decide)) (a_cons (dv 0) (a_cons (d_add d_int (dv 5)) a_nil))))
 (q_cut (s_set (j := 4) sc_law_bores.nd (d_add (dv 4) (d_lendC 6 C__law_long (hr.mono (by decide)) a_nil)))
 (q_cut (s_set (j := 7) sc_law_bores.nd (d_tup (a_cons (d_ixN 1 (fun _ _ => rfl) (dv 5)) (a_cons (dv 4) (a_cons (d_sub (d_lendC 6 C__law_long (hr.mono (by decide)) a_nil) d_int) (a_cons (d_lendC 6 C__law_blocks (hr.mono (by decide)) (a_cons (dv 2) a_nil)) a_nil))))))
 (q_one (s_ins 3 (d_lendC 6 C__law_next (hr.mono (by decide)) (a_cons (d_add (d_lenV hb.len (vv 3)) d_int) a_nil)) (dv 7)))))))
 (q_one (s_retO (o_var 3))))))), hm, F.kp, hB⟩
  case hT =>
    intro a Q h
    obtain ⟨xs, ns, ms, rfl, hn, hms, hml, q⟩ := h
    refine ⟨rfl, ?_⟩
    have big0 := big_pos
    walk_at "wpt"
    refine cut_by (fun c => c = [.d (.list (xs.map PyData.int)), .d (.list (ns.map PyData.str)), .d (.list (ms.map PyData.str)), .o none (.lst []), .d (.int (-1)), .no, .no, .no]) ?_ ?_
    · intro M hM
      walk_at "wpt"
      exact hM _ rfl
    rintro c rfl
    walk_at "wpt"
    refine ⟨by omega, by omega, ?_⟩
    refine loop_by (fun i c => ∃ (bs : List Bo) (sp : Int) (x5 x6 x7 : S), c = [.d (.list (xs.map PyData.int)), .d (.list (ns.map PyData.str)), .d (.list (ms.map PyData.str)), .o none (.lst (bs.map boD)), .d (.int sp), x5, x6, x7] ∧ BosAt ns ms i bs sp) ⟨[], -1, _, _, _, rfl, bosAt_0 ns ms⟩ ?_ ?_
    · rintro i y c N hy ⟨bs, sp, x5, x6, x7, rfl, hb⟩ hN
      obtain ⟨hi, rfl⟩ := rngD_get hy
      have hi' : i < ns.length := by omega
      have hlen := hb.len
      refine cut_by (fun c => c = [.d (.list (xs.map PyData.int)), .d (.list (ns.map PyData.str)), .d (.list (ms.map PyData.str)), .o none (.lst (bs.map boD)), .d (.int sp), .d (.int (0 + i)), .o none (.lstP FeedP), x7]) ?_ ?_
      · intro M hM
        walk_at "wpt"
        exact ⟨by omega, hM _ rfl⟩
      rintro c rfl
      refine cut_by (fun c => ∃ r, 1 ≤ r ∧ r ≤ big ∧ c = [.d (.list (xs.map PyData.int)), .d (.list (ns.map PyData.str)), .d (.list (ms.map PyData.str)), .o none (.lst (bs.map boD)), .d (.int (sp + r)), .d (.int (0 + i)), .o none (.lstP FeedP), x7]) ?_ ?_
      · intro M hM
        walk_at "wpt"
        exact fun r h1 h2 => hM _ ⟨r, h1, h2, rfl⟩
      rintro c ⟨r, r1, rb, rfl⟩
      refine cut_by (fun c => ∃ (z : Str) (t : Int) (bl : List (List (Str × Int))), ns[i]? = some z ∧ 1 ≤ t ∧ t ≤ big ∧ BlOk ms bl ∧ c = [.d (.list (xs.map PyData.int)), .d (.list (ns.map PyData.str)), .d (.list (ms.map PyData.str)), .o none (.lst (bs.map boD)), .d (.int (sp + r)), .d (.int (0 + i)), .o none (.lstP FeedP), .d (boD ⟨z, sp + r, t - 1, bl⟩)]) ?_ ?_
      · intro M hM
        walk_at "wpt"
        exact atD_get hi' fun z hz t t1 tb => ⟨hms, hml, fun bl hbl => hM _ ⟨z, t, bl, hz, t1, tb, hbl, rfl⟩⟩
      rintro c ⟨z, t, bl, hz, t1, tb, hbl, rfl⟩
      walk_at "wpt"
      refine ⟨by omega, bd_of (by omega) (by omega), fun n n0 hn => ⟨by have := sizeLine_eq; omega, n0, by omega, ?_⟩⟩
      rw [insD_map boD bs n.toNat ⟨z, sp + r, t - 1, bl⟩]
      exact hN _ ⟨_, _, _, _, _, rfl, bosAt_more hb hz (by omega) r1 rb t1 tb hbl _⟩
    · rintro c ⟨bs, sp, x5, x6, x7, rfl, hb⟩
      walk_at "wpt"
      refine q _ ?_ (fun b hm => ?_) _
      · have := hb.ok
        rw [rngD_len] at this
        rw [List.take_of_length_le (by omega)] at this
        exact this
      · have h1 := hb.far b hm
        have h2 := hb.hi
        rw [rngD_len] at h2
        exact Int.le_trans h1 h2
  )
/-- two texts, sorted -/
def sortP (a b : Str) : List Str := if ltCps b.cps.toList a.cps.toList = true then [b, a] else [a, b]
theorem ltc_anti {a b : Str} (h1 : ltCps a.cps.toList b.cps.toList = false) (h2 : ltCps b.cps.toList a.cps.toList = false) : a = b := (by
  rw [ltCps_eq, decide_eq_false_iff_not] at h1 h2
  have : a.cps.toList = b.cps.toList := List.le_antisymm (List.not_lt.mp h2) (List.not_lt.mp h1)
  obtain ⟨a⟩ := a
  obtain ⟨b⟩ := b
  have e : a = b := Array.toList_inj.mp this
  rw [e]
  )
theorem sortP_of {a b : Str} {ss : List Str} (h : ss.Perm [a, b]) (hs : sortedS ss = true) : ss = sortP a b := (by
  have hl := h.length_eq
  match ss, hl with
  | [x, y], _ =>
    have hs2 : ltCps y.cps.toList x.cps.toList = false := by simpa [sortedS, risingS] using hs
    unfold sortP
    have hx : x ∈ [a, b] := h.mem_iff.mp (by simp)
    simp at hx
    rcases hx with rfl | rfl
    · have : [y].Perm [b] := (List.perm_cons x).mp h
      obtain rfl : y = b := by simpa using this
      rw [hs2]; simp
    · have : [y].Perm [a] := (List.perm_cons x).mp (h.trans (List.Perm.swap _ _ _))
      obtain rfl : y = a := by simpa using this
      by_cases hc : ltCps x.cps.toList y.cps.toList = true
      · rw [if_pos hc]
      · rw [ltc_anti (by simpa using hc) hs2]; simp
  )
theorem sortP_perm (a b : Str) : (sortP a b).Perm [a, b] := (by
  unfold sortP
  split
  · exact List.Perm.swap _ _ _
  · exact List.Perm.refl _
  )
/-- likes of marks, no two of one pair -/
structure LkTo (ms : List Str) (ls : List Lk3) : Prop where
  ok : LksOk ls
  inm : ∀ l ∈ ls, l.1 ∈ ms ∧ l.2.1 ∈ ms
  far : ls.Pairwise fun x y => sortP x.1 x.2.1 ≠ sortP y.1 y.2.1
def T_law_likes : TF := fun a Q => ∃ (v : Lt) (ms : List Str), a = [.o (some v) (.lstP FeedP), .d (.list (ms.map PyData.str))] ∧ 0 < ms.length ∧ ms.length ≤ 1000 ∧ (∀ w ∈ ms, PyData.strOk w = true) ∧ ∀ ls, LkTo ms ls → ls.length ≤ 5 → retL v (.lstP FeedP) Q (.o none (.lst (ls.map lkD)))
theorem TE_law_likes {v : Lt} {ms : List Str} {Q : S → Dl.Ctx → Prop} : T_law_likes [.o (some v) (.lstP FeedP), .d (.list (ms.map PyData.str))] Q = (0 < ms.length ∧ ms.length ≤ 1000 ∧ (∀ w ∈ ms, PyData.strOk w = true) ∧ ∀ ls, LkTo ms ls → ls.length ≤ 5 → retL v (.lstP FeedP) Q (.o none (.lst (ls.map lkD)))) := propext ⟨fun ⟨_, ms', e, q⟩ => by
  simp only [List.cons.injEq, S.o.injEq, Option.some.injEq, S.d.injEq, PyData.list.injEq, and_true, true_and] at e
  obtain ⟨rfl, e⟩ := e
  have := str_inj e
  subst this
  exact q, fun q => ⟨_, _, rfl, q⟩⟩
theorem sc_law_likes : FnScope ["feed", "marks", "likes", "k", "one", "other", "like", "told"] ["feed", "marks"] (defScope (topS 37)) := ⟨rfl, rfl, rfl, by decide +kernel, rfl, by decide +kernel, by decide +kernel⟩
local macro_rules | `(tactic| walk_at "wpt") => `(tactic| simp (maxSteps := 1000000) only [↓TE_law_next, ↓reduceIte, xHand, uIsP, zPlAppY, zPlAppX, xTupL, aoLast, aoCons, uLenPl, oTl0, ↓asOTx_d, ↓asOTx_o, yNil, yCons, zSeqY, zIfY, zRaiseY, zExY, zRetXY, zForY, yCallA, ↓retE_k, zRaise2, uXf, zTryL, ↓atY_cons, ↓ret_wd, ↓ret_wo, ↓ret_wt, kC, ↓asTr_t, ↓asDs_l, ↓asDs_n, ↓asLs_l, ↓asOT_l, ↓asOT_t, ↓asOT_ll, pVar, pIx, uPlV, ↓asOw_o, ↓mvS_d, ↓mvS_f, ↓mvS_o, zRetX, oX, ↓frS_d, ↓frS_f, ↓plainA_n, ↓plainA_d, ↓plainA_f, ↓ret_xd, ↓ret_xf, ↓ret_xo, ↓retA_xd, ↓retA_xf, ↓retA_xo, ↓ret_vd, ↓ret_vo, OT.areD, OT.isD, OT.toDs, OT.toD, OT.upd, OT.wch, OT.ch, ↓retA_kO, ↓retA_kD, ↓retA_kDo, ↓retA_kS, ↓asBs_m, ↓asSs_m, fAll, fStr, ↓fIntS_i, ↓fIntS_b, ↓fIntS_s, oLcN, fSortST, zSeqX, zIfX, zRaise, ↓bare_d, ↓bare_o, ↓bare_l, ↓bare_no, ↓bare_f, ↓bare_tr, ↓bare_g, ↓bare_P, ↓bare_dic, oDic0, zSetK, uDin, ↓asDic_d, zDput, fMin2S, fMax2S, uLenSet, oSplit, S.f.injEq, eq_self, ↓fAddA_i, ↓fAddA_s, ↓fAddA_t, uChain, oRep, fSortS, ↓slW_d, ↓slW_o, ↓slW_P, ↓slW_s, ↓hasS_d, ↓hasS_o, ↓hasS_f, ↓hasS_s, uV, uN, u1, o1, o2, oN, ↓fIn_l, ↓fIn_s, fCat, ↓fList_l, ↓fList_t, ↓fTup_l, ↓fTup_t, ↓lstR_l, ↓lstR_P, zM1, fApp, zIns, ↓slF_d, ↓slF_o, ↓slF_s, uVf, pNo, pSo, ↓fSl_s, ↓fSl_t, uSl, ↓scal_n, ↓scal_b, ↓scal_i, ↓scal_s, ↓kS_d, ↓ret_S, rNil, rD, rS, uCallA, ↓toS_d, ↓toS_f, ↓toS_s, ↓slS_0, ↓slS_s, ↓retA_d, ↓retA_o, ↓retA_O, ↓backL_n, ↓backL_s, ↓backL_d, ↓backL_f, ↓lok_n, ↓lok_s, ↓lok_d, ↓lok_f, ↓lent_n, ↓lent_s, ↓lent_d, ↓lent_f, bYes, oLc, ↓clr_n, ↓clr_c, ↓clr2_n, ↓clr2_c, ↓rest_n, ↓rest_c, ↓keep1_d, ↓keep1_o, ↓keep1_f, ↓keep1_no, ↓keep1_s, ↓asLL_l, oLL0, zLLn, zLLa, uLLlen, List.mem_cons, List.not_mem_nil, Nat.reduceEqDiff, eqv_list, eqv_tuple, eqv_none, ↓asI_i, ↓asB_b, ↓asS_s, ↓asL_l, ↓asT_t, ↓slD_0, ↓slD_s, ↓slO_0, ↓slO_s, ↓asR_l, ↓fAdd_i, ↓fAdd_s, ↓ixbo_0, ↓ixbo_1, ↓ixbo_2, ↓ixbo_3, ↓ixD_l, ↓ixD_t, ↓ixD_s, ↓arg2_2, ↓fLen1_l, ↓fLen1_t, ↓fLen1_s, ↓asC_c, ↓asQ_l, ↓asQ_t, ↓asQ_s, ↓kD_d, ↓kD_o, ↓kO_o, ↓fz_l, ↓fz_P, ↓fz_ll, ↓ret_d, ↓ret_o, ↓ret_O, ↓retL_d, ↓retL_o, ↓retL_O, ↓atD_0, ↓atD_1, ↓atD_2, ↓atD_3, ↓atD_b1, ↓atD_b2, ↓atD_b3, ↓ixP_30, ↓ixP_31, ↓ixP_32, ↓if_true, ↓if_false, zNext, zSeq, zSet, zSetO, zRet, zRetO, zRetP, zIf, zAsg, zPut, gN, gsNil, gsCons, gT, uVar, uC, uFz, u2, fI, fI0, fEq, uCB, wB, wNot, wAnd, wOr, uAnd, uOr, aNil, aCons, uTup, oLst, fIx, oVar, iSeq, iR1, uCall, oCall, uLend, oLend, shaped_iff, sh_non, sh_int, sh_bool, sh_str, eqv_int, eqv_str, eqv_bool, ixN_30, ixN_31, ixN_32, ixN_20, ixN_21, atI_0, atI_1, atI_2, atI_3, atI_b1, atI_b2, atI_b3, List.length_map, Int.reduceEq, forall_const, implies_true, and_assoc, sz_0, sz_1, sz_2, sz_3, sz_4, sz_5, sz_6, sz_7, sz_8, Bool.not_eq_true', beq_eq_false_iff_ne, beq_iff_eq, ne_eq, Bool.and_eq_true, Bool.or_eq_true, decide_eq_false_iff_not, not_false_eq_true, not_true_eq_false, Bool.not_true, Bool.not_false, isS_n, isS_b, isS_i, isS_s, isS_l, isS_t, ca_0, ca_1, ca_2, ca_3, ca_4, ca_5, ca_6, Int.reduceToNat, Int.toNat_natCast, Int.reducePow, Int.reduceMul, Int.reduceLT, Int.reduceLE, Int.reduceNeg, zFor, List.replicate, List.length_cons, List.length_nil, List.nil_append, List.cons_append, List.append_nil, List.map_cons, List.map_nil, List.set_cons_zero, List.set_cons_succ, List.getElem?_cons_zero, List.getElem?_cons_succ, Option.some.injEq, S.d.injEq, S.o.injEq, Res.lst.injEq, Res.lstP.injEq, PyData.int.injEq, PyData.str.injEq, PyData.bool.injEq, PyData.list.injEq, PyData.tuple.injEq, List.cons.injEq, reduceCtorEq, exists_eq_left', exists_eq_left, exists_eq_right, exists_eq_right', true_and, and_true, false_and, and_false, exists_false, false_or, or_false, exists_and_left, exists_and_right, exists_eq', exists_eq, exists_const, Bool.false_eq_true, ite_true, ite_false, decide_eq_true_eq, Nat.sub_self, Nat.zero_add, Nat.add_sub_cancel, Nat.reduceSub, Nat.reduceAdd, ne_Clash_NoText, ne_Clash_Unfit, ne_NoText_Clash, ne_NoText_Unfit, ne_Unfit_Clash, ne_Unfit_NoText])
local macro_rules | `(tactic| walk_at "st") => `(tactic| simp (maxSteps := 1000000) only [↓TE_law_next, ↓reduceIte, xHand, uIsP, zPlAppY, zPlAppX, xTupL, aoLast, aoCons, uLenPl, oTl0, ↓asOTx_d, ↓asOTx_o, yNil, yCons, zSeqY, zIfY, zRaiseY, zExY, zRetXY, zForY, yCallA, ↓retE_k, zRaise2, uXf, zTryL, ↓atY_cons, ↓ret_wd, ↓ret_wo, ↓ret_wt, kC, ↓asTr_t, ↓asDs_l, ↓asDs_n, ↓asLs_l, ↓asOT_l, ↓asOT_t, ↓asOT_ll, pVar, pIx, uPlV, ↓asOw_o, ↓mvS_d, ↓mvS_f, ↓mvS_o, zRetX, oX, ↓frS_d, ↓frS_f, ↓plainA_n, ↓plainA_d, ↓plainA_f, ↓ret_xd, ↓ret_xf, ↓ret_xo, ↓retA_xd, ↓retA_xf, ↓retA_xo, ↓ret_vd, ↓ret_vo, OT.areD, OT.isD, OT.toDs, OT.toD, OT.upd, OT.wch, OT.ch, ↓retA_kO, ↓retA_kD, ↓retA_kDo, ↓retA_kS, ↓asBs_m, ↓asSs_m, fAll, fStr, ↓fIntS_i, ↓fIntS_b, ↓fIntS_s, oLcN, fSortST, zSeqX, zIfX, zRaise, ↓bare_d, ↓bare_o, ↓bare_l, ↓bare_no, ↓bare_f, ↓bare_tr, ↓bare_g, ↓bare_P, ↓bare_dic, oDic0, zSetK, uDin, ↓asDic_d, zDput, fMin2S, fMax2S, uLenSet, oSplit, S.f.injEq, eq_self, ↓fAddA_i, ↓fAddA_s, ↓fAddA_t, uChain, oRep, fSortS, ↓slW_d, ↓slW_o, ↓slW_P, ↓slW_s, ↓hasS_d, ↓hasS_o, ↓hasS_f, ↓hasS_s, uV, uN, u1, o1, o2, oN, ↓fIn_l, ↓fIn_s, fCat, ↓fList_l, ↓fList_t, ↓fTup_l, ↓fTup_t, ↓lstR_l, ↓lstR_P, zM1, fApp, zIns, ↓slF_d, ↓slF_o, ↓slF_s, uVf, pNo, pSo, ↓fSl_s, ↓fSl_t, uSl, ↓scal_n, ↓scal_b, ↓scal_i, ↓scal_s, ↓kS_d, ↓ret_S, rNil, rD, rS, uCallA, ↓toS_d, ↓toS_f, ↓toS_s, ↓slS_0, ↓slS_s, ↓retA_d, ↓retA_o, ↓retA_O, ↓backL_n, ↓backL_s, ↓backL_d, ↓backL_f, ↓lok_n, ↓lok_s, ↓lok_d, ↓lok_f, ↓lent_n, ↓lent_s, ↓lent_d, ↓lent_f, bYes, oLc, ↓clr_n, ↓clr_c, ↓clr2_n, ↓clr2_c, ↓rest_n, ↓rest_c, ↓keep1_d, ↓keep1_o, ↓keep1_f, ↓keep1_no, ↓keep1_s, ↓asLL_l, oLL0, zLLn, zLLa, uLLlen, List.mem_cons, List.not_mem_nil, Nat.reduceEqDiff, eqv_list, eqv_tuple, eqv_none, ↓asI_i, ↓asB_b, ↓asS_s, ↓asL_l, ↓asT_t, ↓slD_0, ↓slD_s, ↓slO_0, ↓slO_s, ↓asR_l, ↓fAdd_i, ↓fAdd_s, ↓ixbo_0, ↓ixbo_1, ↓ixbo_2, ↓ixbo_3, ↓ixD_l, ↓ixD_t, ↓ixD_s, ↓arg2_2, ↓fLen1_l, ↓fLen1_t, ↓fLen1_s, ↓asC_c, ↓asQ_l, ↓asQ_t, ↓asQ_s, ↓kD_d, ↓kD_o, ↓kO_o, ↓fz_l, ↓fz_P, ↓fz_ll, ↓ret_d, ↓ret_o, ↓ret_O, ↓retL_d, ↓retL_o, ↓retL_O, ↓atD_0, ↓atD_1, ↓atD_2, ↓atD_3, ↓atD_b1, ↓atD_b2, ↓atD_b3, ↓ixP_30, ↓ixP_31, ↓ixP_32, ↓if_true, ↓if_false, zNext, zSet, zSetO, zRet, zRetO, zRetP, zIf, zAsg, zPut, gN, gsNil, gsCons, gT, uVar, uC, uFz, u2, fI, fI0, fEq, uCB, wB, wNot, wAnd, wOr, uAnd, uOr, aNil, aCons, uTup, oLst, fIx, oVar, iSeq, iR1, uCall, oCall, uLend, oLend, shaped_iff, sh_non, sh_int, sh_bool, sh_str, eqv_int, eqv_str, eqv_bool, ixN_30, ixN_31, ixN_32, ixN_20, ixN_21, atI_0, atI_1, atI_2, atI_3, atI_b1, atI_b2, atI_b3, List.length_map, Int.reduceEq, forall_const, implies_true, and_assoc, sz_0, sz_1, sz_2, sz_3, sz_4, sz_5, sz_6, sz_7, sz_8, Bool.not_eq_true', beq_eq_false_iff_ne, beq_iff_eq, ne_eq, Bool.and_eq_true, Bool.or_eq_true, decide_eq_false_iff_not, not_false_eq_true, not_true_eq_false, Bool.not_true, Bool.not_false, isS_n, isS_b, isS_i, isS_s, isS_l, isS_t, ca_0, ca_1, ca_2, ca_3, ca_4, ca_5, ca_6, Int.reduceToNat, Int.toNat_natCast, Int.reducePow, Int.reduceMul, Int.reduceLT, Int.reduceLE, Int.reduceNeg, zFor, List.replicate, List.length_cons, List.length_nil, List.nil_append, List.cons_append, List.append_nil, List.map_cons, List.map_nil, List.set_cons_zero, List.set_cons_succ, List.getElem?_cons_zero, List.getElem?_cons_succ, Option.some.injEq, S.d.injEq, S.o.injEq, Res.lst.injEq, Res.lstP.injEq, PyData.int.injEq, PyData.str.injEq, PyData.bool.injEq, PyData.list.injEq, PyData.tuple.injEq, List.cons.injEq, reduceCtorEq, exists_eq_left', exists_eq_left, exists_eq_right, exists_eq_right', true_and, and_true, false_and, and_false, exists_false, false_or, or_false, exists_and_left, exists_and_right, exists_eq', exists_eq, exists_const, Bool.false_eq_true, ite_true, ite_false, decide_eq_true_eq, Nat.sub_self, Nat.zero_add, Nat.add_sub_cancel, Nat.reduceSub, Nat.reduceAdd, ne_Clash_NoText, ne_Clash_Unfit, ne_NoText_Clash, ne_NoText_Unfit, ne_Unfit_Clash, ne_Unfit_NoText])
theorem c_law_likes {P : Program} {w : World} {K : PySem.W.Frag} {mg : Str → Option Value} {base : Heap} (hb : Bi K mg) (D : Df K mg "_law_likes" (topS 37) ["feed", "marks"]) (C__law_next : Cal P w K mg base "_law_next" 2 ["feed", "many"] T_law_next) : Cal P w K mg base "_law_likes" 3 ["feed", "marks"] T_law_likes := (by
  obtain ⟨f, fd, F, hm, hB⟩ := D
  refine ⟨f, fd, fn_d (k := 2) F sc_law_likes ?hT (fun cdv A outer s H E hr => (q_cons (s_setO (j := 2) sc_law_likes.nd (o_lst a_nil))
 (q_cons (s_for PassesOwn.never rfl (i_range1 hb.range (d_lendC 0 C__law_next (hr.mono (by decide)) (a_cons d_int a_nil))) (g_name 3 sc_law_likes.nd)
 (q_cons (s_set (j := 4) sc_law_likes.nd (d_ixN 1 (fun _ _ => rfl) (d_lendC 0 C__law_next (hr.mono (by decide)) (a_cons (d_lenV hb.len (vv 1)) a_nil))))
 (q_cons (s_set (j := 5) sc_law_likes.nd (d_ixN 1 (fun _ _ => rfl) (d_lendC 0 C__law_next (hr.mono (by decide)) (a_cons (d_lenV hb.len (vv 1)) a_nil))))
 (q_cons (s_set (j := 6) sc_law_likes.nd (d_tup (a_cons (dv 4) (a_cons (dv 5) (a_cons (d_add d_int (d_lendC 0 C__law_next (hr.mono (by decide)) (a_cons d_int a_nil))) a_nil)))))
 (q_one (s_if (t_cmpL (op_notInA (hu65 hr)) opv_nin (d_fz (o_sortS hb.sorted (DE.dv (d_fz (o_lst (a_cons (dv 4) (a_cons (dv 5) a_nil))))))) (DE.dv (d_fz (o_lcN 2 [("told", 7)] rfl sc_law_likes.nd  (by show blkC ["feed", "marks", "likes", "k", "one", "other", "like", "told"] (defScope (topS 37)) _ _ = true; decide +kernel) (fun _ _ _ _ _ => (g_name 7 sc_law_likes.nd)) (fun _ _ _ _ _ => b_yes) (fun _ _ _ _ _ => (d_fz (o_sortST hb.sorted (DE.dv (d_sl (dv 7) p_no (p_so d_int)))))) (by decide)))) (by rfl))
 (q_one (s_ins 2 (d_lendC 0 C__law_next (hr.mono (by decide)) (a_cons (d_add (d_lenV hb.len (vv 2)) d_int) a_nil)) (dv 6))) q_nil))))))
 (q_one (s_retO (o_var 2)))))), hm, F.kp, hB⟩
  case hT =>
    intro a Q h
    obtain ⟨v, ms, rfl, m0, m1, hms, q⟩ := h
    refine ⟨rfl, ?_⟩
    have hsz := sizeLine_eq
    (repeat (refine seq_gen fun Nx hS => ?_; walk_at "st"; refine hS _ ?_; clear hS))
    (refine seq_gen fun Nx hS => ?_; walk_at "st")
    refine ⟨by decide, fun n n0 n1 => ⟨by omega, by omega, ?_⟩⟩
    refine loop_by (fun i c => ∃ (ls : List Lk3) (x3 x4 x5 x6 : S), c = [.o (some v) (.lstP FeedP), .d (.list (ms.map PyData.str)), .o none (.lst (ls.map lkD)), x3, x4, x5, x6, .no] ∧ LkTo ms ls ∧ ls.length ≤ i) ⟨[], _, _, _, _, rfl, ⟨fun l h => by simp at h, fun l h => by simp at h, List.Pairwise.nil⟩, Nat.le_refl _⟩ ?_ ?_
    · rintro i y c N hy ⟨ls, x3, x4, x5, x6, rfl, hL, hl⟩ hN
      obtain ⟨hi, rfl⟩ := rngD_get hy
      have hi5 : i < 5 := by omega
      simp only [↓asT_t, ↓asC_c, gT, gsCons, gsNil, gN, List.length_cons, List.length_nil, List.set_cons_zero, List.set_cons_succ, Nat.zero_add, Nat.reduceAdd, true_and]
      (refine seq_gen fun Nx hS => ?_; walk_at "st")
      refine ⟨by omega, bd_of (by omega) (by omega), fun a a0 a1 => ?_⟩
      obtain ⟨⟨wa, ha, ea⟩, ka⟩ := getD_at (r := ms) a0 a1
      refine ka ?_
      obtain ⟨A, hA⟩ : ∃ A, A = ms.getD a.toNat "" := ⟨_, rfl⟩
      rw [← hA] at ea ⊢
      (refine hS _ ?_; try clear hS; (repeat (refine seq_gen fun Nx hS => ?_; walk_at "st"; refine hS _ ?_; clear hS)))
      (refine seq_gen fun Nx hS => ?_; walk_at "st")
      refine ⟨by omega, bd_of (by omega) (by omega), fun b b0 b1 => ?_⟩
      obtain ⟨⟨wb, hb, eb⟩, kb⟩ := getD_at (r := ms) b0 b1
      refine kb ?_
      obtain ⟨Bq, hB⟩ : ∃ B, B = ms.getD b.toNat "" := ⟨_, rfl⟩
      rw [← hB] at eb ⊢
      (refine hS _ ?_; try clear hS; (repeat (refine seq_gen fun Nx hS => ?_; walk_at "st"; refine hS _ ?_; clear hS)))
      (refine seq_gen fun Nx hS => ?_; walk_at "st")
      refine ⟨by decide, fun p p0 p1 => ?_⟩
      (refine hS _ ?_; try clear hS; (repeat (refine seq_gen fun Nx hS => ?_; walk_at "st"; refine hS _ ?_; clear hS)))
      subst ea eb
      (try walk_at "wpt")
      refine ⟨[wa, wb], rfl, by simp, fun ss hp hs => ?_⟩
      obtain rfl := sortP_of hp hs
      refine compJ_mm (f0 := lkD) (fun l => .list ((sortP l.1 l.2.1).map PyData.str)) (by omega) rfl (fun l hl N hN => ?_) ?_
      · rw [show lkD l = .tuple [.str l.1, .str l.2.1, .int l.2.2] from rfl]
        (try walk_at "wpt")
        rw [show cutL [PyData.str l.1, .str l.2.1, .int l.2.2] none (some 2) = [.str l.1, .str l.2.1] from rfl]
        refine ⟨[l.1, l.2.1], rfl, by simp, fun ss hp hs => ?_⟩
        obtain rfl := sortP_of hp hs
        exact hN _ rfl
      have sok : ∀ {x y : Str}, x ∈ ms → y ∈ ms → ∀ w ∈ sortP x y, PyData.strOk w = true := fun {x y} hx hy w hw => by
        have := (sortP_perm x y).mem_iff.mp hw
        simp at this
        rcases this with rfl | rfl
        · exact hms _ hx
        · exact hms _ hy
      have pls : ∀ {x y : Str}, x ∈ ms → y ∈ ms → Pl 1 (.list ((sortP x y).map PyData.str)) := fun hx hy => pl_map fun w hw => pl_str (sok hx hy w hw)
      (try walk_at "wpt")
      refine ⟨(pls ha hb).sh, sh_list.mpr fun d hd => ?_, ?_⟩
      · obtain ⟨l, hl, rfl⟩ := List.mem_map.mp hd
        exact (pls (hL.inm l hl).1 (hL.inm l hl).2).1.mono (by decide)
      split
      · rename_i hno
        have hno : ∀ l ∈ ls, sortP l.1 l.2.1 ≠ sortP wa wb := fun l hl e => by
          have h1 := List.any_eq_false.mp hno _ (List.mem_map.mpr ⟨l, hl, rfl⟩)
          rw [e, (pls ha hb).self] at h1
          exact h1 rfl
        (try walk_at "wpt")
        refine ⟨by omega, bd_of (by omega) (by omega), fun r r0 r1 => ⟨by omega, r0, by omega, ?_⟩⟩
        rw [show (PyData.tuple [.str wa, .str wb, .int (1 + p)]) = lkD (wa, wb, 1 + p) from rfl, insD_map lkD ls r.toNat (wa, wb, 1 + p)]
        refine hN _ ⟨_, _, _, _, _, rfl, ⟨fun l hl => ?_, fun l hl => ?_, ?_⟩, by rw [len_ins]; omega⟩
        · rcases mem_ins.mp hl with rfl | hl
          · exact ⟨hms _ ha, hms _ hb, by show 1 ≤ 1 + p; omega, by show 1 + p ≤ 9; omega⟩
          · exact hL.ok l hl
        · rcases mem_ins.mp hl with rfl | hl
          · exact ⟨ha, hb⟩
          · exact hL.inm l hl
        · refine (List.Perm.pairwise_iff (R := fun x y : Lk3 => sortP x.1 x.2.1 ≠ sortP y.1 y.2.1) (fun h => h.symm) (perm_ins (w := ((wa, wb, 1 + p) : Lk3)))).mpr (List.pairwise_cons.mpr ⟨fun l hl (e : sortP wa wb = sortP l.1 l.2.1) => hno l hl e.symm, hL.far⟩)
      · (try walk_at "wpt")
        exact hN _ ⟨_, _, _, _, _, rfl, hL, by omega⟩
    · rintro c ⟨ls, x3, x4, x5, x6, rfl, hL, hl⟩
      rw [rngD_len] at hl
      (refine hS _ ?_; try clear hS; (repeat (refine seq_gen fun Nx hS => ?_; walk_at "st"; refine hS _ ?_; clear hS)))
      (try walk_at "wpt")
      exact q ls hL (by omega) _ rfl
  )
def T_law_marks : TF := fun a Q => ∃ (v : Lt) (ns : List Str), a = [.o (some v) (.lstP FeedP), .d (.list (ns.map PyData.str))] ∧ ns.length ≤ 6 ∧ (∀ w ∈ ns, WordOk w) ∧ ∀ ms : List Str, 0 < ms.length → ms.length ≤ 6 → (∀ w ∈ ms, WordOk w) → retL v (.lstP FeedP) Q (.o none (.lst (ms.map PyData.str)))
theorem TE_law_marks {v : Lt} {ns : List Str} {Q : S → Dl.Ctx → Prop} : T_law_marks [.o (some v) (.lstP FeedP), .d (.list (ns.map PyData.str))] Q = (ns.length ≤ 6 ∧ (∀ w ∈ ns, WordOk w) ∧ ∀ ms : List Str, 0 < ms.length → ms.length ≤ 6 → (∀ w ∈ ms, WordOk w) → retL v (.lstP FeedP) Q (.o none (.lst (ms.map PyData.str)))) := propext ⟨fun ⟨_, ms', e, q⟩ => by
  simp only [List.cons.injEq, S.o.injEq, Option.some.injEq, S.d.injEq, PyData.list.injEq, and_true, true_and] at e
  obtain ⟨rfl, e⟩ := e
  have := str_inj e
  subst this
  exact q, fun q => ⟨_, _, rfl, q⟩⟩
theorem sc_law_marks : FnScope ["feed", "names", "marks"] ["feed", "names"] (defScope (topS 38)) := ⟨rfl, rfl, rfl, by decide +kernel, rfl, by decide +kernel, by decide +kernel⟩
local macro_rules | `(tactic| walk_at "wpt") => `(tactic| simp (maxSteps := 1000000) only [↓TE_law_next, ↓TE_law_names, ↓reduceIte, xHand, uIsP, zPlAppY, zPlAppX, xTupL, aoLast, aoCons, uLenPl, oTl0, ↓asOTx_d, ↓asOTx_o, yNil, yCons, zSeqY, zIfY, zRaiseY, zExY, zRetXY, zForY, yCallA, ↓retE_k, zRaise2, uXf, zTryL, ↓atY_cons, ↓ret_wd, ↓ret_wo, ↓ret_wt, kC, ↓asTr_t, ↓asDs_l, ↓asDs_n, ↓asLs_l, ↓asOT_l, ↓asOT_t, ↓asOT_ll, pVar, pIx, uPlV, ↓asOw_o, ↓mvS_d, ↓mvS_f, ↓mvS_o, zRetX, oX, ↓frS_d, ↓frS_f, ↓plainA_n, ↓plainA_d, ↓plainA_f, ↓ret_xd, ↓ret_xf, ↓ret_xo, ↓retA_xd, ↓retA_xf, ↓retA_xo, ↓ret_vd, ↓ret_vo, OT.areD, OT.isD, OT.toDs, OT.toD, OT.upd, OT.wch, OT.ch, ↓retA_kO, ↓retA_kD, ↓retA_kDo, ↓retA_kS, ↓asBs_m, ↓asSs_m, fAll, fStr, ↓fIntS_i, ↓fIntS_b, ↓fIntS_s, oLcN, fSortST, zSeqX, zIfX, zRaise, ↓bare_d, ↓bare_o, ↓bare_l, ↓bare_no, ↓bare_f, ↓bare_tr, ↓bare_g, ↓bare_P, ↓bare_dic, oDic0, zSetK, uDin, ↓asDic_d, zDput, fMin2S, fMax2S, uLenSet, oSplit, S.f.injEq, eq_self, ↓fAddA_i, ↓fAddA_s, ↓fAddA_t, uChain, oRep, fSortS, ↓slW_d, ↓slW_o, ↓slW_P, ↓slW_s, ↓hasS_d, ↓hasS_o, ↓hasS_f, ↓hasS_s, uV, uN, u1, o1, o2, oN, ↓fIn_l, ↓fIn_s, fCat, ↓fList_l, ↓fList_t, ↓fTup_l, ↓fTup_t, ↓lstR_l, ↓lstR_P, zM1, fApp, zIns, ↓slF_d, ↓slF_o, ↓slF_s, uVf, pNo, pSo, ↓fSl_s, ↓fSl_t, uSl, ↓scal_n, ↓scal_b, ↓scal_i, ↓scal_s, ↓kS_d, ↓ret_S, rNil, rD, rS, uCallA, ↓toS_d, ↓toS_f, ↓toS_s, ↓slS_0, ↓slS_s, ↓retA_d, ↓retA_o, ↓retA_O, ↓backL_n, ↓backL_s, ↓backL_d, ↓backL_f, ↓lok_n, ↓lok_s, ↓lok_d, ↓lok_f, ↓lent_n, ↓lent_s, ↓lent_d, ↓lent_f, bYes, oLc, ↓clr_n, ↓clr_c, ↓clr2_n, ↓clr2_c, ↓rest_n, ↓rest_c, ↓keep1_d, ↓keep1_o, ↓keep1_f, ↓keep1_no, ↓keep1_s, ↓asLL_l, oLL0, zLLn, zLLa, uLLlen, List.mem_cons, List.not_mem_nil, Nat.reduceEqDiff, eqv_list, eqv_tuple, eqv_none, ↓asI_i, ↓asB_b, ↓asS_s, ↓asL_l, ↓asT_t, ↓slD_0, ↓slD_s, ↓slO_0, ↓slO_s, ↓asR_l, ↓fAdd_i, ↓fAdd_s, ↓ixbo_0, ↓ixbo_1, ↓ixbo_2, ↓ixbo_3, ↓ixD_l, ↓ixD_t, ↓ixD_s, ↓arg2_2, ↓fLen1_l, ↓fLen1_t, ↓fLen1_s, ↓asC_c, ↓asQ_l, ↓asQ_t, ↓asQ_s, ↓kD_d, ↓kD_o, ↓kO_o, ↓fz_l, ↓fz_P, ↓fz_ll, ↓ret_d, ↓ret_o, ↓ret_O, ↓retL_d, ↓retL_o, ↓retL_O, ↓atD_0, ↓atD_1, ↓atD_2, ↓atD_3, ↓atD_b1, ↓atD_b2, ↓atD_b3, ↓ixP_30, ↓ixP_31, ↓ixP_32, ↓if_true, ↓if_false, zNext, zSeq, zSet, zSetO, zRet, zRetO, zRetP, zIf, zAsg, zPut, gN, gsNil, gsCons, gT, uVar, uC, uFz, u2, fI, fI0, fEq, uCB, wB, wNot, wAnd, wOr, uAnd, uOr, aNil, aCons, uTup, oLst, fIx, oVar, iSeq, iR1, uCall, oCall, uLend, oLend, shaped_iff, sh_non, sh_int, sh_bool, sh_str, eqv_int, eqv_str, eqv_bool, ixN_30, ixN_31, ixN_32, ixN_20, ixN_21, atI_0, atI_1, atI_2, atI_3, atI_b1, atI_b2, atI_b3, List.length_map, Int.reduceEq, forall_const, implies_true, and_assoc, sz_0, sz_1, sz_2, sz_3, sz_4, sz_5, sz_6, sz_7, sz_8, Bool.not_eq_true', beq_eq_false_iff_ne, beq_iff_eq, ne_eq, Bool.and_eq_true, Bool.or_eq_true, decide_eq_false_iff_not, not_false_eq_true, not_true_eq_false, Bool.not_true, Bool.not_false, isS_n, isS_b, isS_i, isS_s, isS_l, isS_t, ca_0, ca_1, ca_2, ca_3, ca_4, ca_5, ca_6, Int.reduceToNat, Int.toNat_natCast, Int.reducePow, Int.reduceMul, Int.reduceLT, Int.reduceLE, Int.reduceNeg, zFor, List.replicate, List.length_cons, List.length_nil, List.nil_append, List.cons_append, List.append_nil, List.map_cons, List.map_nil, List.set_cons_zero, List.set_cons_succ, List.getElem?_cons_zero, List.getElem?_cons_succ, Option.some.injEq, S.d.injEq, S.o.injEq, Res.lst.injEq, Res.lstP.injEq, PyData.int.injEq, PyData.str.injEq, PyData.bool.injEq, PyData.list.injEq, PyData.tuple.injEq, List.cons.injEq, reduceCtorEq, exists_eq_left', exists_eq_left, exists_eq_right, exists_eq_right', true_and, and_true, false_and, and_false, exists_false, false_or, or_false, exists_and_left, exists_and_right, exists_eq', exists_eq, exists_const, Bool.false_eq_true, ite_true, ite_false, decide_eq_true_eq, Nat.sub_self, Nat.zero_add, Nat.add_sub_cancel, Nat.reduceSub, Nat.reduceAdd, ne_Clash_NoText, ne_Clash_Unfit, ne_NoText_Clash, ne_NoText_Unfit, ne_Unfit_Clash, ne_Unfit_NoText])
local macro_rules | `(tactic| walk_at "st") => `(tactic| simp (maxSteps := 1000000) only [↓TE_law_next, ↓TE_law_names, ↓reduceIte, xHand, uIsP, zPlAppY, zPlAppX, xTupL, aoLast, aoCons, uLenPl, oTl0, ↓asOTx_d, ↓asOTx_o, yNil, yCons, zSeqY, zIfY, zRaiseY, zExY, zRetXY, zForY, yCallA, ↓retE_k, zRaise2, uXf, zTryL, ↓atY_cons, ↓ret_wd, ↓ret_wo, ↓ret_wt, kC, ↓asTr_t, ↓asDs_l, ↓asDs_n, ↓asLs_l, ↓asOT_l, ↓asOT_t, ↓asOT_ll, pVar, pIx, uPlV, ↓asOw_o, ↓mvS_d, ↓mvS_f, ↓mvS_o, zRetX, oX, ↓frS_d, ↓frS_f, ↓plainA_n, ↓plainA_d, ↓plainA_f, ↓ret_xd, ↓ret_xf, ↓ret_xo, ↓retA_xd, ↓retA_xf, ↓retA_xo, ↓ret_vd, ↓ret_vo, OT.areD, OT.isD, OT.toDs, OT.toD, OT.upd, OT.wch, OT.ch, ↓retA_kO, ↓retA_kD, ↓retA_kDo, ↓retA_kS, ↓asBs_m, ↓asSs_m, fAll, fStr, ↓fIntS_i, ↓fIntS_b, ↓fIntS_s, oLcN, fSortST, zSeqX, zIfX, zRaise, ↓bare_d, ↓bare_o, ↓bare_l, ↓bare_no, ↓bare_f, ↓bare_tr, ↓bare_g, ↓bare_P, ↓bare_dic, oDic0, zSetK, uDin, ↓asDic_d, zDput, fMin2S, fMax2S, uLenSet, oSplit, S.f.injEq, eq_self, ↓fAddA_i, ↓fAddA_s, ↓fAddA_t, uChain, oRep, fSortS, ↓slW_d, ↓slW_o, ↓slW_P, ↓slW_s, ↓hasS_d, ↓hasS_o, ↓hasS_f, ↓hasS_s, uV, uN, u1, o1, o2, oN, ↓fIn_l, ↓fIn_s, fCat, ↓fList_l, ↓fList_t, ↓fTup_l, ↓fTup_t, ↓lstR_l, ↓lstR_P, zM1, fApp, zIns, ↓slF_d, ↓slF_o, ↓slF_s, uVf, pNo, pSo, ↓fSl_s, ↓fSl_t, uSl, ↓scal_n, ↓scal_b, ↓scal_i, ↓scal_s, ↓kS_d, ↓ret_S, rNil, rD, rS, uCallA, ↓toS_d, ↓toS_f, ↓toS_s, ↓slS_0, ↓slS_s, ↓retA_d, ↓retA_o, ↓retA_O, ↓backL_n, ↓backL_s, ↓backL_d, ↓backL_f, ↓lok_n, ↓lok_s, ↓lok_d, ↓lok_f, ↓lent_n, ↓lent_s, ↓lent_d, ↓lent_f, bYes, oLc, ↓clr_n, ↓clr_c, ↓clr2_n, ↓clr2_c, ↓rest_n, ↓rest_c, ↓keep1_d, ↓keep1_o, ↓keep1_f, ↓keep1_no, ↓keep1_s, ↓asLL_l, oLL0, zLLn, zLLa, uLLlen, List.mem_cons, List.not_mem_nil, Nat.reduceEqDiff, eqv_list, eqv_tuple, eqv_none, ↓asI_i, ↓asB_b, ↓asS_s, ↓asL_l, ↓asT_t, ↓slD_0, ↓slD_s, ↓slO_0, ↓slO_s, ↓asR_l, ↓fAdd_i, ↓fAdd_s, ↓ixbo_0, ↓ixbo_1, ↓ixbo_2, ↓ixbo_3, ↓ixD_l, ↓ixD_t, ↓ixD_s, ↓arg2_2, ↓fLen1_l, ↓fLen1_t, ↓fLen1_s, ↓asC_c, ↓asQ_l, ↓asQ_t, ↓asQ_s, ↓kD_d, ↓kD_o, ↓kO_o, ↓fz_l, ↓fz_P, ↓fz_ll, ↓ret_d, ↓ret_o, ↓ret_O, ↓retL_d, ↓retL_o, ↓retL_O, ↓atD_0, ↓atD_1, ↓atD_2, ↓atD_3, ↓atD_b1, ↓atD_b2, ↓atD_b3, ↓ixP_30, ↓ixP_31, ↓ixP_32, ↓if_true, ↓if_false, zNext, zSet, zSetO, zRet, zRetO, zRetP, zIf, zAsg, zPut, gN, gsNil, gsCons, gT, uVar, uC, uFz, u2, fI, fI0, fEq, uCB, wB, wNot, wAnd, wOr, uAnd, uOr, aNil, aCons, uTup, oLst, fIx, oVar, iSeq, iR1, uCall, oCall, uLend, oLend, shaped_iff, sh_non, sh_int, sh_bool, sh_str, eqv_int, eqv_str, eqv_bool, ixN_30, ixN_31, ixN_32, ixN_20, ixN_21, atI_0, atI_1, atI_2, atI_3, atI_b1, atI_b2, atI_b3, List.length_map, Int.reduceEq, forall_const, implies_true, and_assoc, sz_0, sz_1, sz_2, sz_3, sz_4, sz_5, sz_6, sz_7, sz_8, Bool.not_eq_true', beq_eq_false_iff_ne, beq_iff_eq, ne_eq, Bool.and_eq_true, Bool.or_eq_true, decide_eq_false_iff_not, not_false_eq_true, not_true_eq_false, Bool.not_true, Bool.not_false, isS_n, isS_b, isS_i, isS_s, isS_l, isS_t, ca_0, ca_1, ca_2, ca_3, ca_4, ca_5, ca_6, Int.reduceToNat, Int.toNat_natCast, Int.reducePow, Int.reduceMul, Int.reduceLT, Int.reduceLE, Int.reduceNeg, zFor, List.replicate, List.length_cons, List.length_nil, List.nil_append, List.cons_append, List.append_nil, List.map_cons, List.map_nil, List.set_cons_zero, List.set_cons_succ, List.getElem?_cons_zero, List.getElem?_cons_succ, Option.some.injEq, S.d.injEq, S.o.injEq, Res.lst.injEq, Res.lstP.injEq, PyData.int.injEq, PyData.str.injEq, PyData.bool.injEq, PyData.list.injEq, PyData.tuple.injEq, List.cons.injEq, reduceCtorEq, exists_eq_left', exists_eq_left, exists_eq_right, exists_eq_right', true_and, and_true, false_and, and_false, exists_false, false_or, or_false, exists_and_left, exists_and_right, exists_eq', exists_eq, exists_const, Bool.false_eq_true, ite_true, ite_false, decide_eq_true_eq, Nat.sub_self, Nat.zero_add, Nat.add_sub_cancel, Nat.reduceSub, Nat.reduceAdd, ne_Clash_NoText, ne_Clash_Unfit, ne_NoText_Clash, ne_NoText_Unfit, ne_Unfit_Clash, ne_Unfit_NoText])
theorem c_law_marks {P : Program} {w : World} {K : PySem.W.Frag} {mg : Str → Option Value} {base : Heap} (hb : Bi K mg) (D : Df K mg "_law_marks" (topS 38) ["feed", "names"]) (C__law_next : Cal P w K mg base "_law_next" 2 ["feed", "many"] T_law_next) (C__law_names : Cal P w K mg base "_law_names" 4 ["feed", "many"] T_law_names) : Cal P w K mg base "_law_marks" 5 ["feed", "names"] T_law_marks := (by
  obtain ⟨f, fd, F, hm, hB⟩ := D
  refine ⟨f, fd, fn_d (k := 4) F sc_law_marks ?hT (fun cdv A outer s H E hr => (q_cons (s_setO (j := 2) sc_law_marks.nd (o_lendC 0 C__law_names (hr.mono (by decide)) (a_cons (d_add d_int (d_lendC 0 C__law_next (hr.mono (by decide)) (a_cons d_int a_nil))) a_nil)))
 (q_cut (s_if (DW.dt (w_and (t_gt (d_lenV hb.len (vv 1)) d_int) (w_and1 (t_eq hr.units (d_lendC 0 C__law_next (hr.mono (by decide)) (a_cons d_int a_nil)) d_int))))
 (q_one (s_setO (j := 2) sc_law_marks.nd (o_listV hb.list (vv 1)))) q_nil)
 (q_one (s_retO (o_var 2)))))), hm, F.kp, hB⟩
  case hT =>
    intro a Q h
    obtain ⟨v, ns, rfl, nl, hns, q⟩ := h
    refine ⟨rfl, ?_⟩
    have hsz := sizeLine_eq
    (refine seq_gen fun Nx hS => ?_; walk_at "st")
    refine ⟨by decide, fun r r0 r1 => ⟨by omega, by omega, fun ws hws => ?_⟩⟩
    have wl := hws.len
    (refine hS _ ?_; try clear hS; (repeat (refine seq_gen fun Nx hS => ?_; walk_at "st"; refine hS _ ?_; clear hS)))
    refine cut_by (fun c => ∃ (ms : List Str), c = [.o (some v) (.lstP FeedP), .d (.list (ns.map PyData.str)), .o none (.lst (ms.map PyData.str))] ∧ 0 < ms.length ∧ ms.length ≤ 6 ∧ ∀ w ∈ ms, WordOk w) ?_ ?_
    · intro M hM
      (try walk_at "wpt")
      split
      · refine ⟨by decide, fun z z0 z1 => ?_⟩
        split
        · exact hM _ ⟨ns, rfl, by omega, by omega, hns⟩
        · exact hM _ ⟨ws, rfl, by omega, by omega, hws.ok⟩
      · exact hM _ ⟨ws, rfl, by omega, by omega, hws.ok⟩
    rintro c ⟨ms, rfl, m0, m6, hms⟩
    (try walk_at "wpt")
    exact q ms m0 m6 hms _ rfl
  )
/-- a field's parts: its bores' names, its marks, its bores, its likes -/
structure FieldTo (ns ms : List Str) (bs : List Bo) (ls : List Lk3) : Prop where
  wm : ∀ w ∈ ms, WordOk w
  m0 : 0 < ms.length
  ml : ms.length ≤ 6
  lk : LkTo ms ls
  ll : ls.length ≤ 5
  bo : BosOk ns ms bs
  wn : ∀ w ∈ ns, WordOk w
  nl : ns.length ≤ 6
  nn : ns.Nodup
  close : ∀ b ∈ bs, b.at_ ≤ 6 * big
theorem FieldTo.few {ns ms : List Str} {bs : List Bo} {ls : List Lk3} (h : FieldTo ns ms bs ls) : bs.length ≤ 6 := (by
  have := h.bo.nm.length_eq
  rw [List.length_map] at this
  have := h.nl
  omega
  )
theorem FieldTo.nm {ns ms : List Str} {bs : List Bo} {ls : List Lk3} (h : FieldTo ns ms bs ls) : ∀ b ∈ bs, WordOk b.nm := fun b hb => h.wn b.nm (h.bo.nm.mem_iff.mp (List.mem_map.mpr ⟨b, hb, rfl⟩))
def T_law_field : TF := fun a Q => ∃ (xs : List Int), a = [.d (.list (xs.map PyData.int))] ∧ ∀ (ns ms : List Str) (bs : List Bo) (ls : List Lk3), FieldTo ns ms bs ls → ret Q (.d (.tuple [.tuple (bs.map boD), .tuple (ls.map lkD)]))
theorem TE_law_field {xs : List Int} {Q : S → Dl.Ctx → Prop} : T_law_field [.d (.list (xs.map PyData.int))] Q = (∀ (ns ms : List Str) (bs : List Bo) (ls : List Lk3), FieldTo ns ms bs ls → ret Q (.d (.tuple [.tuple (bs.map boD), .tuple (ls.map lkD)]))) := propext ⟨fun ⟨_, _, q⟩ => q, fun q => ⟨_, rfl, q⟩⟩
theorem sc_law_field : FnScope ["script", "feed", "names", "marks"] ["script"] (defScope (topS 39)) := ⟨rfl, rfl, rfl, by decide +kernel, rfl, by decide +kernel, by decide +kernel⟩
local macro_rules | `(tactic| walk_at "wpt") => `(tactic| simp (maxSteps := 1000000) only [↓TE_law_likes, ↓TE_law_bores, ↓TE_law_marks, ↓TE_law_feed, ↓TE_law_names, ↓TE_law_next, ↓reduceIte, xHand, uIsP, zPlAppY, zPlAppX, xTupL, aoLast, aoCons, uLenPl, oTl0, ↓asOTx_d, ↓asOTx_o, yNil, yCons, zSeqY, zIfY, zRaiseY, zExY, zRetXY, zForY, yCallA, ↓retE_k, zRaise2, uXf, zTryL, ↓atY_cons, ↓ret_wd, ↓ret_wo, ↓ret_wt, kC, ↓asTr_t, ↓asDs_l, ↓asDs_n, ↓asLs_l, ↓asOT_l, ↓asOT_t, ↓asOT_ll, pVar, pIx, uPlV, ↓asOw_o, ↓mvS_d, ↓mvS_f, ↓mvS_o, zRetX, oX, ↓frS_d, ↓frS_f, ↓plainA_n, ↓plainA_d, ↓plainA_f, ↓ret_xd, ↓ret_xf, ↓ret_xo, ↓retA_xd, ↓retA_xf, ↓retA_xo, ↓ret_vd, ↓ret_vo, OT.areD, OT.isD, OT.toDs, OT.toD, OT.upd, OT.wch, OT.ch, ↓retA_kO, ↓retA_kD, ↓retA_kDo, ↓retA_kS, ↓asBs_m, ↓asSs_m, fAll, fStr, ↓fIntS_i, ↓fIntS_b, ↓fIntS_s, oLcN, fSortST, zSeqX, zIfX, zRaise, ↓bare_d, ↓bare_o, ↓bare_l, ↓bare_no, ↓bare_f, ↓bare_tr, ↓bare_g, ↓bare_P, ↓bare_dic, oDic0, zSetK, uDin, ↓asDic_d, zDput, fMin2S, fMax2S, uLenSet, oSplit, S.f.injEq, eq_self, ↓fAddA_i, ↓fAddA_s, ↓fAddA_t, uChain, oRep, fSortS, ↓slW_d, ↓slW_o, ↓slW_P, ↓slW_s, ↓hasS_d, ↓hasS_o, ↓hasS_f, ↓hasS_s, uV, uN, u1, o1, o2, oN, ↓fIn_l, ↓fIn_s, fCat, ↓fList_l, ↓fList_t, ↓fTup_l, ↓fTup_t, ↓lstR_l, ↓lstR_P, zM1, fApp, zIns, ↓slF_d, ↓slF_o, ↓slF_s, uVf, pNo, pSo, ↓fSl_s, ↓fSl_t, uSl, ↓scal_n, ↓scal_b, ↓scal_i, ↓scal_s, ↓kS_d, ↓ret_S, rNil, rD, rS, uCallA, ↓toS_d, ↓toS_f, ↓toS_s, ↓slS_0, ↓slS_s, ↓retA_d, ↓retA_o, ↓retA_O, ↓backL_n, ↓backL_s, ↓backL_d, ↓backL_f, ↓lok_n, ↓lok_s, ↓lok_d, ↓lok_f, ↓lent_n, ↓lent_s, ↓lent_d, ↓lent_f, bYes, oLc, ↓clr_n, ↓clr_c, ↓clr2_n, ↓clr2_c, ↓rest_n, ↓rest_c, ↓keep1_d, ↓keep1_o, ↓keep1_f, ↓keep1_no, ↓keep1_s, ↓asLL_l, oLL0, zLLn, zLLa, uLLlen, List.mem_cons, List.not_mem_nil, Nat.reduceEqDiff, eqv_list, eqv_tuple, eqv_none, ↓asI_i, ↓asB_b, ↓asS_s, ↓asL_l, ↓asT_t, ↓slD_0, ↓slD_s, ↓slO_0, ↓slO_s, ↓asR_l, ↓fAdd_i, ↓fAdd_s, ↓ixbo_0, ↓ixbo_1, ↓ixbo_2, ↓ixbo_3, ↓ixD_l, ↓ixD_t, ↓ixD_s, ↓arg2_2, ↓fLen1_l, ↓fLen1_t, ↓fLen1_s, ↓asC_c, ↓asQ_l, ↓asQ_t, ↓asQ_s, ↓kD_d, ↓kD_o, ↓kO_o, ↓fz_l, ↓fz_P, ↓fz_ll, ↓ret_d, ↓ret_o, ↓ret_O, ↓retL_d, ↓retL_o, ↓retL_O, ↓atD_0, ↓atD_1, ↓atD_2, ↓atD_3, ↓atD_b1, ↓atD_b2, ↓atD_b3, ↓ixP_30, ↓ixP_31, ↓ixP_32, ↓if_true, ↓if_false, zNext, zSeq, zSet, zSetO, zRet, zRetO, zRetP, zIf, zAsg, zPut, gN, gsNil, gsCons, gT, uVar, uC, uFz, u2, fI, fI0, fEq, uCB, wB, wNot, wAnd, wOr, uAnd, uOr, aNil, aCons, uTup, oLst, fIx, oVar, iSeq, iR1, uCall, oCall, uLend, oLend, shaped_iff, sh_non, sh_int, sh_bool, sh_str, eqv_int, eqv_str, eqv_bool, ixN_30, ixN_31, ixN_32, ixN_20, ixN_21, atI_0, atI_1, atI_2, atI_3, atI_b1, atI_b2, atI_b3, List.length_map, Int.reduceEq, forall_const, implies_true, and_assoc, sz_0, sz_1, sz_2, sz_3, sz_4, sz_5, sz_6, sz_7, sz_8, Bool.not_eq_true', beq_eq_false_iff_ne, beq_iff_eq, ne_eq, Bool.and_eq_true, Bool.or_eq_true, decide_eq_false_iff_not, not_false_eq_true, not_true_eq_false, Bool.not_true, Bool.not_false, isS_n, isS_b, isS_i, isS_s, isS_l, isS_t, ca_0, ca_1, ca_2, ca_3, ca_4, ca_5, ca_6, Int.reduceToNat, Int.toNat_natCast, Int.reducePow, Int.reduceMul, Int.reduceLT, Int.reduceLE, Int.reduceNeg, zFor, List.replicate, List.length_cons, List.length_nil, List.nil_append, List.cons_append, List.append_nil, List.map_cons, List.map_nil, List.set_cons_zero, List.set_cons_succ, List.getElem?_cons_zero, List.getElem?_cons_succ, Option.some.injEq, S.d.injEq, S.o.injEq, Res.lst.injEq, Res.lstP.injEq, PyData.int.injEq, PyData.str.injEq, PyData.bool.injEq, PyData.list.injEq, PyData.tuple.injEq, List.cons.injEq, reduceCtorEq, exists_eq_left', exists_eq_left, exists_eq_right, exists_eq_right', true_and, and_true, false_and, and_false, exists_false, false_or, or_false, exists_and_left, exists_and_right, exists_eq', exists_eq, exists_const, Bool.false_eq_true, ite_true, ite_false, decide_eq_true_eq, Nat.sub_self, Nat.zero_add, Nat.add_sub_cancel, Nat.reduceSub, Nat.reduceAdd, ne_Clash_NoText, ne_Clash_Unfit, ne_NoText_Clash, ne_NoText_Unfit, ne_Unfit_Clash, ne_Unfit_NoText])
local macro_rules | `(tactic| walk_at "st") => `(tactic| simp (maxSteps := 1000000) only [↓TE_law_likes, ↓TE_law_bores, ↓TE_law_marks, ↓TE_law_feed, ↓TE_law_names, ↓TE_law_next, ↓reduceIte, xHand, uIsP, zPlAppY, zPlAppX, xTupL, aoLast, aoCons, uLenPl, oTl0, ↓asOTx_d, ↓asOTx_o, yNil, yCons, zSeqY, zIfY, zRaiseY, zExY, zRetXY, zForY, yCallA, ↓retE_k, zRaise2, uXf, zTryL, ↓atY_cons, ↓ret_wd, ↓ret_wo, ↓ret_wt, kC, ↓asTr_t, ↓asDs_l, ↓asDs_n, ↓asLs_l, ↓asOT_l, ↓asOT_t, ↓asOT_ll, pVar, pIx, uPlV, ↓asOw_o, ↓mvS_d, ↓mvS_f, ↓mvS_o, zRetX, oX, ↓frS_d, ↓frS_f, ↓plainA_n, ↓plainA_d, ↓plainA_f, ↓ret_xd, ↓ret_xf, ↓ret_xo, ↓retA_xd, ↓retA_xf, ↓retA_xo, ↓ret_vd, ↓ret_vo, OT.areD, OT.isD, OT.toDs, OT.toD, OT.upd, OT.wch, OT.ch, ↓retA_kO, ↓retA_kD, ↓retA_kDo, ↓retA_kS, ↓asBs_m, ↓asSs_m, fAll, fStr, ↓fIntS_i, ↓fIntS_b, ↓fIntS_s, oLcN, fSortST, zSeqX, zIfX, zRaise, ↓bare_d, ↓bare_o, ↓bare_l, ↓bare_no, ↓bare_f, ↓bare_tr, ↓bare_g, ↓bare_P, ↓bare_dic, oDic0, zSetK, uDin, ↓asDic_d, zDput, fMin2S, fMax2S, uLenSet, oSplit, S.f.injEq, eq_self, ↓fAddA_i, ↓fAddA_s, ↓fAddA_t, uChain, oRep, fSortS, ↓slW_d, ↓slW_o, ↓slW_P, ↓slW_s, ↓hasS_d, ↓hasS_o, ↓hasS_f, ↓hasS_s, uV, uN, u1, o1, o2, oN, ↓fIn_l, ↓fIn_s, fCat, ↓fList_l, ↓fList_t, ↓fTup_l, ↓fTup_t, ↓lstR_l, ↓lstR_P, zM1, fApp, zIns, ↓slF_d, ↓slF_o, ↓slF_s, uVf, pNo, pSo, ↓fSl_s, ↓fSl_t, uSl, ↓scal_n, ↓scal_b, ↓scal_i, ↓scal_s, ↓kS_d, ↓ret_S, rNil, rD, rS, uCallA, ↓toS_d, ↓toS_f, ↓toS_s, ↓slS_0, ↓slS_s, ↓retA_d, ↓retA_o, ↓retA_O, ↓backL_n, ↓backL_s, ↓backL_d, ↓backL_f, ↓lok_n, ↓lok_s, ↓lok_d, ↓lok_f, ↓lent_n, ↓lent_s, ↓lent_d, ↓lent_f, bYes, oLc, ↓clr_n, ↓clr_c, ↓clr2_n, ↓clr2_c, ↓rest_n, ↓rest_c, ↓keep1_d, ↓keep1_o, ↓keep1_f, ↓keep1_no, ↓keep1_s, ↓asLL_l, oLL0, zLLn, zLLa, uLLlen, List.mem_cons, List.not_mem_nil, Nat.reduceEqDiff, eqv_list, eqv_tuple, eqv_none, ↓asI_i, ↓asB_b, ↓asS_s, ↓asL_l, ↓asT_t, ↓slD_0, ↓slD_s, ↓slO_0, ↓slO_s, ↓asR_l, ↓fAdd_i, ↓fAdd_s, ↓ixbo_0, ↓ixbo_1, ↓ixbo_2, ↓ixbo_3, ↓ixD_l, ↓ixD_t, ↓ixD_s, ↓arg2_2, ↓fLen1_l, ↓fLen1_t, ↓fLen1_s, ↓asC_c, ↓asQ_l, ↓asQ_t, ↓asQ_s, ↓kD_d, ↓kD_o, ↓kO_o, ↓fz_l, ↓fz_P, ↓fz_ll, ↓ret_d, ↓ret_o, ↓ret_O, ↓retL_d, ↓retL_o, ↓retL_O, ↓atD_0, ↓atD_1, ↓atD_2, ↓atD_3, ↓atD_b1, ↓atD_b2, ↓atD_b3, ↓ixP_30, ↓ixP_31, ↓ixP_32, ↓if_true, ↓if_false, zNext, zSet, zSetO, zRet, zRetO, zRetP, zIf, zAsg, zPut, gN, gsNil, gsCons, gT, uVar, uC, uFz, u2, fI, fI0, fEq, uCB, wB, wNot, wAnd, wOr, uAnd, uOr, aNil, aCons, uTup, oLst, fIx, oVar, iSeq, iR1, uCall, oCall, uLend, oLend, shaped_iff, sh_non, sh_int, sh_bool, sh_str, eqv_int, eqv_str, eqv_bool, ixN_30, ixN_31, ixN_32, ixN_20, ixN_21, atI_0, atI_1, atI_2, atI_3, atI_b1, atI_b2, atI_b3, List.length_map, Int.reduceEq, forall_const, implies_true, and_assoc, sz_0, sz_1, sz_2, sz_3, sz_4, sz_5, sz_6, sz_7, sz_8, Bool.not_eq_true', beq_eq_false_iff_ne, beq_iff_eq, ne_eq, Bool.and_eq_true, Bool.or_eq_true, decide_eq_false_iff_not, not_false_eq_true, not_true_eq_false, Bool.not_true, Bool.not_false, isS_n, isS_b, isS_i, isS_s, isS_l, isS_t, ca_0, ca_1, ca_2, ca_3, ca_4, ca_5, ca_6, Int.reduceToNat, Int.toNat_natCast, Int.reducePow, Int.reduceMul, Int.reduceLT, Int.reduceLE, Int.reduceNeg, zFor, List.replicate, List.length_cons, List.length_nil, List.nil_append, List.cons_append, List.append_nil, List.map_cons, List.map_nil, List.set_cons_zero, List.set_cons_succ, List.getElem?_cons_zero, List.getElem?_cons_succ, Option.some.injEq, S.d.injEq, S.o.injEq, Res.lst.injEq, Res.lstP.injEq, PyData.int.injEq, PyData.str.injEq, PyData.bool.injEq, PyData.list.injEq, PyData.tuple.injEq, List.cons.injEq, reduceCtorEq, exists_eq_left', exists_eq_left, exists_eq_right, exists_eq_right', true_and, and_true, false_and, and_false, exists_false, false_or, or_false, exists_and_left, exists_and_right, exists_eq', exists_eq, exists_const, Bool.false_eq_true, ite_true, ite_false, decide_eq_true_eq, Nat.sub_self, Nat.zero_add, Nat.add_sub_cancel, Nat.reduceSub, Nat.reduceAdd, ne_Clash_NoText, ne_Clash_Unfit, ne_NoText_Clash, ne_NoText_Unfit, ne_Unfit_Clash, ne_Unfit_NoText])
theorem c_law_field {P : Program} {w : World} {K : PySem.W.Frag} {mg : Str → Option Value} {base : Heap} (hb : Bi K mg) (D : Df K mg "_law_field" (topS 39) ["script"]) (C__law_likes : Cal P w K mg base "_law_likes" 3 ["feed", "marks"] T_law_likes) (C__law_bores : Cal P w K mg base "_law_bores" 6 ["script", "names", "marks"] T_law_bores) (C__law_marks : Cal P w K mg base "_law_marks" 5 ["feed", "names"] T_law_marks) (C__law_feed : Cal P w K mg base "_law_feed" 1 ["script", "k"] T_law_feed) (C__law_names : Cal P w K mg base "_law_names" 4 ["feed", "many"] T_law_names) (C__law_next : Cal P w K mg base "_law_next" 2 ["feed", "many"] T_law_next) : Cal P w K mg base "_law_field" 7 ["script"] T_law_field := (by
  obtain ⟨f, fd, F, hm, hB⟩ := D
  refine ⟨f, fd, fn_d (k := 6) F sc_law_field ?hT (fun cdv A outer s H E hr => (q_cons (s_setO (j := 1) sc_law_field.nd (o_callC C__law_feed (hr.mono (by decide)) (a_cons (dv 0) (a_cons d_int a_nil))))
 (q_cons (s_setO (j := 2) sc_law_field.nd (o_lendC 1 C__law_names (hr.mono (by decide)) (a_cons (d_ix (fun _ _ => rfl) (d_fz (o_lst (a_cons d_int (a_cons d_int (a_cons d_int (a_cons d_int (a_cons d_int (a_cons d_int (a_cons d_int (a_cons d_int a_nil)))))))))) (d_lendC 1 C__law_next (hr.mono (by decide)) (a_cons d_int a_nil))) a_nil)))
 (q_cons (s_setO (j := 1) sc_law_field.nd (o_callC C__law_feed (hr.mono (by decide)) (a_cons (dv 0) (a_cons d_int a_nil))))
 (q_cons (s_setO (j := 3) sc_law_field.nd (o_lendC 1 C__law_marks (hr.mono (by decide)) (a_cons (dvf 2) a_nil)))
 (q_one (s_ret (d_tup (a_cons (d_tupV hb.tuple (DE.dv (d_fz (o_callC C__law_bores (hr.mono (by decide)) (a_cons (dv 0) (a_cons (dvf 2) (a_cons (dvf 3) a_nil))))))) (a_cons (d_tupV hb.tuple (DE.dv (d_fz (o_lendC 1 C__law_likes (hr.mono (by decide)) (a_cons (dvf 3) a_nil))))) a_nil)))))))))), hm, F.kp, hB⟩
  case hT =>
    intro a Q h
    obtain ⟨xs, rfl, q⟩ := h
    refine ⟨rfl, ?_⟩
    have hsz := sizeLine_eq
    (refine seq_gen fun Nx hS => ?_; walk_at "st")
    (refine hS _ ?_; try clear hS; (repeat (refine seq_gen fun Nx hS => ?_; walk_at "st"; refine hS _ ?_; clear hS)))
    (refine seq_gen fun Nx hS => ?_; walk_at "st")
    refine ⟨by decide, fun r r0 r1 => atD_mem r0 (by simpa using r1) fun z hz => ?_⟩
    obtain ⟨m, rfl, h0, h6⟩ : ∃ m : Int, z = .int m ∧ 0 ≤ m ∧ m ≤ 6 := by
      simp only [List.mem_cons, List.not_mem_nil, or_false] at hz
      rcases hz with rfl | rfl | rfl | rfl | rfl | rfl | rfl | rfl <;> exact ⟨_, rfl, by decide, by decide⟩
    intro v
    (try walk_at "wpt")
    refine ⟨h0, by omega, fun ws hws => ?_⟩
    have wl := hws.len
    (refine hS _ ?_; try clear hS; (repeat (refine seq_gen fun Nx hS => ?_; walk_at "st"; refine hS _ ?_; clear hS)))
    (refine seq_gen fun Nx hS => ?_; walk_at "st")
    refine ⟨by omega, hws.ok, fun ms n0 n6 hms => ?_⟩
    (refine hS _ ?_; try clear hS; (repeat (refine seq_gen fun Nx hS => ?_; walk_at "st"; refine hS _ ?_; clear hS)))
    (try walk_at "wpt")
    refine ⟨by omega, fun e => by rw [e] at n0; simp at n0, by omega, fun bs hbs hc => ⟨n0, by omega, fun w hw => word_ok (hms w hw), fun ls hL hll => ?_⟩⟩
    exact q ws ms bs ls ⟨hms, n0, n6, hL, hll, hbs, hws.ok, by omega, hws.nd, fun b hb => by
      have h1 := hc b hb
      have h2 : (ws.length : Int) * big ≤ 6 * big := Int.mul_le_mul_of_nonneg_right (by omega) (Int.le_of_lt big_pos)
      exact Int.le_trans h1 h2⟩ _
  )
def kindsT (b c d : Bool) : List PyData := [.bool b, .bool c, .bool false, .bool false, .bool d, .bool true, .bool true]
def T_law_kinds : TFE := fun y a d c Q => ∃ fd, c = [.f (excR a d fd)] ∧ ((y = "NoText" ∧ ret Q (.o none (.lst (kindsT true false false)))) ∨ (y = "Unfit" ∧ ret Q (.o none (.lst (kindsT false true false)))) ∨ (y = "Clash" ∧ ret Q (.o none (.lst (kindsT false false true)))))
theorem sc_law_kinds : FnScope ["e", "kinds"] ["e"] (defScope (topS 40)) := ⟨rfl, rfl, rfl, by decide +kernel, rfl, by decide +kernel, by decide +kernel⟩
local macro_rules | `(tactic| walk_at "wpt") => `(tactic| simp (maxSteps := 1000000) only [↓reduceIte, xHand, uIsP, zPlAppY, zPlAppX, xTupL, aoLast, aoCons, uLenPl, oTl0, ↓asOTx_d, ↓asOTx_o, yNil, yCons, zSeqY, zIfY, zRaiseY, zExY, zRetXY, zForY, yCallA, ↓retE_k, zRaise2, uXf, zTryL, ↓atY_cons, ↓ret_wd, ↓ret_wo, ↓ret_wt, kC, ↓asTr_t, ↓asDs_l, ↓asDs_n, ↓asLs_l, ↓asOT_l, ↓asOT_t, ↓asOT_ll, pVar, pIx, uPlV, ↓asOw_o, ↓mvS_d, ↓mvS_f, ↓mvS_o, zRetX, oX, ↓frS_d, ↓frS_f, ↓plainA_n, ↓plainA_d, ↓plainA_f, ↓ret_xd, ↓ret_xf, ↓ret_xo, ↓retA_xd, ↓retA_xf, ↓retA_xo, ↓ret_vd, ↓ret_vo, OT.areD, OT.isD, OT.toDs, OT.toD, OT.upd, OT.wch, OT.ch, ↓retA_kO, ↓retA_kD, ↓retA_kDo, ↓retA_kS, ↓asBs_m, ↓asSs_m, fAll, fStr, ↓fIntS_i, ↓fIntS_b, ↓fIntS_s, oLcN, fSortST, zSeqX, zIfX, zRaise, ↓bare_d, ↓bare_o, ↓bare_l, ↓bare_no, ↓bare_f, ↓bare_tr, ↓bare_g, ↓bare_P, ↓bare_dic, oDic0, zSetK, uDin, ↓asDic_d, zDput, fMin2S, fMax2S, uLenSet, oSplit, S.f.injEq, eq_self, ↓fAddA_i, ↓fAddA_s, ↓fAddA_t, uChain, oRep, fSortS, ↓slW_d, ↓slW_o, ↓slW_P, ↓slW_s, ↓hasS_d, ↓hasS_o, ↓hasS_f, ↓hasS_s, uV, uN, u1, o1, o2, oN, ↓fIn_l, ↓fIn_s, fCat, ↓fList_l, ↓fList_t, ↓fTup_l, ↓fTup_t, ↓lstR_l, ↓lstR_P, zM1, fApp, zIns, ↓slF_d, ↓slF_o, ↓slF_s, uVf, pNo, pSo, ↓fSl_s, ↓fSl_t, uSl, ↓scal_n, ↓scal_b, ↓scal_i, ↓scal_s, ↓kS_d, ↓ret_S, rNil, rD, rS, uCallA, ↓toS_d, ↓toS_f, ↓toS_s, ↓slS_0, ↓slS_s, ↓retA_d, ↓retA_o, ↓retA_O, ↓backL_n, ↓backL_s, ↓backL_d, ↓backL_f, ↓lok_n, ↓lok_s, ↓lok_d, ↓lok_f, ↓lent_n, ↓lent_s, ↓lent_d, ↓lent_f, bYes, oLc, ↓clr_n, ↓clr_c, ↓clr2_n, ↓clr2_c, ↓rest_n, ↓rest_c, ↓keep1_d, ↓keep1_o, ↓keep1_f, ↓keep1_no, ↓keep1_s, ↓asLL_l, oLL0, zLLn, zLLa, uLLlen, List.mem_cons, List.not_mem_nil, Nat.reduceEqDiff, eqv_list, eqv_tuple, eqv_none, ↓asI_i, ↓asB_b, ↓asS_s, ↓asL_l, ↓asT_t, ↓slD_0, ↓slD_s, ↓slO_0, ↓slO_s, ↓asR_l, ↓fAdd_i, ↓fAdd_s, ↓ixbo_0, ↓ixbo_1, ↓ixbo_2, ↓ixbo_3, ↓ixD_l, ↓ixD_t, ↓ixD_s, ↓arg2_2, ↓fLen1_l, ↓fLen1_t, ↓fLen1_s, ↓asC_c, ↓asQ_l, ↓asQ_t, ↓asQ_s, ↓kD_d, ↓kD_o, ↓kO_o, ↓fz_l, ↓fz_P, ↓fz_ll, ↓ret_d, ↓ret_o, ↓ret_O, ↓retL_d, ↓retL_o, ↓retL_O, ↓atD_0, ↓atD_1, ↓atD_2, ↓atD_3, ↓atD_b1, ↓atD_b2, ↓atD_b3, ↓ixP_30, ↓ixP_31, ↓ixP_32, ↓if_true, ↓if_false, zNext, zSeq, zSet, zSetO, zRet, zRetO, zRetP, zIf, zAsg, zPut, gN, gsNil, gsCons, gT, uVar, uC, uFz, u2, fI, fI0, fEq, uCB, wB, wNot, wAnd, wOr, uAnd, uOr, aNil, aCons, uTup, oLst, fIx, oVar, iSeq, iR1, uCall, oCall, uLend, oLend, shaped_iff, sh_non, sh_int, sh_bool, sh_str, eqv_int, eqv_str, eqv_bool, ixN_30, ixN_31, ixN_32, ixN_20, ixN_21, atI_0, atI_1, atI_2, atI_3, atI_b1, atI_b2, atI_b3, List.length_map, Int.reduceEq, forall_const, implies_true, and_assoc, sz_0, sz_1, sz_2, sz_3, sz_4, sz_5, sz_6, sz_7, sz_8, Bool.not_eq_true', beq_eq_false_iff_ne, beq_iff_eq, ne_eq, Bool.and_eq_true, Bool.or_eq_true, decide_eq_false_iff_not, not_false_eq_true, not_true_eq_false, Bool.not_true, Bool.not_false, isS_n, isS_b, isS_i, isS_s, isS_l, isS_t, ca_0, ca_1, ca_2, ca_3, ca_4, ca_5, ca_6, Int.reduceToNat, Int.toNat_natCast, Int.reducePow, Int.reduceMul, Int.reduceLT, Int.reduceLE, Int.reduceNeg, zFor, List.replicate, List.length_cons, List.length_nil, List.nil_append, List.cons_append, List.append_nil, List.map_cons, List.map_nil, List.set_cons_zero, List.set_cons_succ, List.getElem?_cons_zero, List.getElem?_cons_succ, Option.some.injEq, S.d.injEq, S.o.injEq, Res.lst.injEq, Res.lstP.injEq, PyData.int.injEq, PyData.str.injEq, PyData.bool.injEq, PyData.list.injEq, PyData.tuple.injEq, List.cons.injEq, reduceCtorEq, exists_eq_left', exists_eq_left, exists_eq_right, exists_eq_right', true_and, and_true, false_and, and_false, exists_false, false_or, or_false, exists_and_left, exists_and_right, exists_eq', exists_eq, exists_const, Bool.false_eq_true, ite_true, ite_false, decide_eq_true_eq, Nat.sub_self, Nat.zero_add, Nat.add_sub_cancel, Nat.reduceSub, Nat.reduceAdd, ne_Clash_NoText, ne_Clash_Unfit, ne_NoText_Clash, ne_NoText_Unfit, ne_Unfit_Clash, ne_Unfit_NoText])
local macro_rules | `(tactic| walk_at "st") => `(tactic| simp (maxSteps := 1000000) only [true_and, ↓reduceIte, xHand, uIsP, zPlAppY, zPlAppX, xTupL, aoLast, aoCons, uLenPl, oTl0, ↓asOTx_d, ↓asOTx_o, yNil, yCons, zSeqY, zIfY, zRaiseY, zExY, zRetXY, zForY, yCallA, ↓retE_k, zRaise2, uXf, zTryL, ↓atY_cons, ↓ret_wd, ↓ret_wo, ↓ret_wt, kC, ↓asTr_t, ↓asDs_l, ↓asDs_n, ↓asLs_l, ↓asOT_l, ↓asOT_t, ↓asOT_ll, pVar, pIx, uPlV, ↓asOw_o, ↓mvS_d, ↓mvS_f, ↓mvS_o, zRetX, oX, ↓frS_d, ↓frS_f, ↓plainA_n, ↓plainA_d, ↓plainA_f, ↓ret_xd, ↓ret_xf, ↓ret_xo, ↓retA_xd, ↓retA_xf, ↓retA_xo, ↓ret_vd, ↓ret_vo, OT.areD, OT.isD, OT.toDs, OT.toD, OT.upd, OT.wch, OT.ch, ↓retA_kO, ↓retA_kD, ↓retA_kDo, ↓retA_kS, ↓asBs_m, ↓asSs_m, fAll, fStr, ↓fIntS_i, ↓fIntS_b, ↓fIntS_s, oLcN, fSortST, zSeqX, zIfX, zRaise, ↓bare_d, ↓bare_o, ↓bare_l, ↓bare_no, ↓bare_f, ↓bare_tr, ↓bare_g, ↓bare_P, ↓bare_dic, oDic0, zSetK, uDin, ↓asDic_d, zDput, fMin2S, fMax2S, uLenSet, oSplit, S.f.injEq, eq_self, ↓fAddA_i, ↓fAddA_s, ↓fAddA_t, uChain, oRep, fSortS, ↓slW_d, ↓slW_o, ↓slW_P, ↓slW_s, ↓hasS_d, ↓hasS_o, ↓hasS_f, ↓hasS_s, uV, uN, u1, o1, o2, oN, ↓fIn_l, ↓fIn_s, fCat, ↓fList_l, ↓fList_t, ↓fTup_l, ↓fTup_t, ↓lstR_l, ↓lstR_P, zM1, fApp, zIns, ↓slF_d, ↓slF_o, ↓slF_s, uVf, pNo, pSo, ↓fSl_s, ↓fSl_t, uSl, ↓scal_n, ↓scal_b, ↓scal_i, ↓scal_s, ↓kS_d, ↓ret_S, rNil, rD, rS, uCallA, ↓toS_d, ↓toS_f, ↓toS_s, ↓slS_0, ↓slS_s, ↓retA_d, ↓retA_o, ↓retA_O, ↓backL_n, ↓backL_s, ↓backL_d, ↓backL_f, ↓lok_n, ↓lok_s, ↓lok_d, ↓lok_f, ↓lent_n, ↓lent_s, ↓lent_d, ↓lent_f, bYes, oLc, ↓clr_n, ↓clr_c, ↓clr2_n, ↓clr2_c, ↓rest_n, ↓rest_c, ↓keep1_d, ↓keep1_o, ↓keep1_f, ↓keep1_no, ↓keep1_s, ↓asLL_l, oLL0, zLLn, zLLa, uLLlen, List.mem_cons, List.not_mem_nil, Nat.reduceEqDiff, eqv_list, eqv_tuple, eqv_none, ↓asI_i, ↓asB_b, ↓asS_s, ↓asL_l, ↓asT_t, ↓slD_0, ↓slD_s, ↓slO_0, ↓slO_s, ↓asR_l, ↓fAdd_i, ↓fAdd_s, ↓ixbo_0, ↓ixbo_1, ↓ixbo_2, ↓ixbo_3, ↓ixD_l, ↓ixD_t, ↓ixD_s, ↓arg2_2, ↓fLen1_l, ↓fLen1_t, ↓fLen1_s, ↓asC_c, ↓asQ_l, ↓asQ_t, ↓asQ_s, ↓kD_d, ↓kD_o, ↓kO_o, ↓fz_l, ↓fz_P, ↓fz_ll, ↓ret_d, ↓ret_o, ↓ret_O, ↓retL_d, ↓retL_o, ↓retL_O, ↓atD_0, ↓atD_1, ↓atD_2, ↓atD_3, ↓atD_b1, ↓atD_b2, ↓atD_b3, ↓ixP_30, ↓ixP_31, ↓ixP_32, ↓if_true, ↓if_false, zNext, zSet, zSetO, zRet, zRetO, zRetP, zIf, zAsg, zPut, gN, gsNil, gsCons, gT, uVar, uC, uFz, u2, fI, fI0, fEq, uCB, wB, wNot, wAnd, wOr, uAnd, uOr, aNil, aCons, uTup, oLst, fIx, oVar, iSeq, iR1, uCall, oCall, uLend, oLend, shaped_iff, sh_non, sh_int, sh_bool, sh_str, eqv_int, eqv_str, eqv_bool, ixN_30, ixN_31, ixN_32, ixN_20, ixN_21, atI_0, atI_1, atI_2, atI_3, atI_b1, atI_b2, atI_b3, List.length_map, Int.reduceEq, forall_const, implies_true, and_assoc, sz_0, sz_1, sz_2, sz_3, sz_4, sz_5, sz_6, sz_7, sz_8, Bool.not_eq_true', beq_eq_false_iff_ne, beq_iff_eq, ne_eq, Bool.and_eq_true, Bool.or_eq_true, decide_eq_false_iff_not, not_false_eq_true, not_true_eq_false, Bool.not_true, Bool.not_false, isS_n, isS_b, isS_i, isS_s, isS_l, isS_t, ca_0, ca_1, ca_2, ca_3, ca_4, ca_5, ca_6, Int.reduceToNat, Int.toNat_natCast, Int.reducePow, Int.reduceMul, Int.reduceLT, Int.reduceLE, Int.reduceNeg, zFor, List.replicate, List.length_cons, List.length_nil, List.nil_append, List.cons_append, List.append_nil, List.map_cons, List.map_nil, List.set_cons_zero, List.set_cons_succ, List.getElem?_cons_zero, List.getElem?_cons_succ, Option.some.injEq, S.d.injEq, S.o.injEq, Res.lst.injEq, Res.lstP.injEq, PyData.int.injEq, PyData.str.injEq, PyData.bool.injEq, PyData.list.injEq, PyData.tuple.injEq, List.cons.injEq, reduceCtorEq, exists_eq_left', exists_eq_left, exists_eq_right, exists_eq_right', true_and, and_true, false_and, and_false, exists_false, false_or, or_false, exists_and_left, exists_and_right, exists_eq', exists_eq, exists_const, Bool.false_eq_true, ite_true, ite_false, decide_eq_true_eq, Nat.sub_self, Nat.zero_add, Nat.add_sub_cancel, Nat.reduceSub, Nat.reduceAdd, ne_Clash_NoText, ne_Clash_Unfit, ne_NoText_Clash, ne_NoText_Unfit, ne_Unfit_Clash, ne_Unfit_NoText])
theorem c_law_kinds {P : Program} {w : World} {K : PySem.W.Frag} {mg : Str → Option Value} {base : Heap} (hb : Bi K mg) (D : Df K mg "_law_kinds" (topS 40) ["e"])  : CalE P w K mg base "_law_kinds" 1 ["e"] T_law_kinds := (by
  obtain ⟨f, fd, F, hm, hB⟩ := D
  refine ⟨f, fd, fn_dE (k := 0) F sc_law_kinds ?hT (fun cdv A outer s H E a oe y d hz hf hr => (q_cons (s_setO (j := 1) sc_law_kinds.nd (o_lst (a_cons (d_isP 0 (by exact List.mem_cons_self) hz hf (tab_cons hb.exc_NoText hb.kit_NoText_NoText (tab_cons hb.exc_Unfit hb.kit_Unfit_NoText (tab_cons hb.exc_Clash hb.kit_Clash_NoText tab_nil))) hb.isinstance hb.cls_NoText) (a_cons (d_isP 0 (by exact List.mem_cons_self) hz hf (tab_cons hb.exc_NoText hb.kit_NoText_Unfit (tab_cons hb.exc_Unfit hb.kit_Unfit_Unfit (tab_cons hb.exc_Clash hb.kit_Clash_Unfit tab_nil))) hb.isinstance hb.cls_Unfit) (a_cons (d_isP 0 (by exact List.mem_cons_self) hz hf (tab_cons hb.exc_NoText hb.kit_NoText_Unknown (tab_cons hb.exc_Unfit hb.kit_Unfit_Unknown (tab_cons hb.exc_Clash hb.kit_Clash_Unknown tab_nil))) hb.isinstance hb.cls_Unknown) (a_cons (d_isP 0 (by exact List.mem_cons_self) hz hf (tab_cons hb.exc_NoText hb.kit_NoText_Twice (tab_cons hb.exc_Unfit hb.kit_Unfit_Twice (tab_cons hb.exc_Clash hb.kit_Clash_Twice tab_nil))) hb.isinstance hb.cls_Twice) a_nil))))))
 (q_one (s_retO (o_catN 1 (DE.dv (d_fz (o_lst (a_cons (d_isP 0 (by exact List.mem_cons_self) hz hf (tab_cons hb.exc_NoText hb.kit_NoText_Clash (tab_cons hb.exc_Unfit hb.kit_Unfit_Clash (tab_cons hb.exc_Clash hb.kit_Clash_Clash tab_nil))) hb.isinstance hb.cls_Clash) (a_cons (d_isP 0 (by exact List.mem_cons_self) hz hf (tab_cons hb.exc_NoText hb.kit_NoText_BoreError (tab_cons hb.exc_Unfit hb.kit_Unfit_BoreError (tab_cons hb.exc_Clash hb.kit_Clash_BoreError tab_nil))) hb.isinstance hb.cls_BoreError) (a_cons (d_isPB 0 (by exact List.mem_cons_self) hz hf (tab_cons hb.exc_NoText hb.kit_NoText_ValueError (tab_cons hb.exc_Unfit hb.kit_Unfit_ValueError (tab_cons hb.exc_Clash hb.kit_Clash_ValueError tab_nil))) hb.isinstance hb.ValueError (by decide +kernel)) a_nil))))))))))), hm, F.kp, hB⟩
  case hT =>
    intro y a d c Q h
    obtain ⟨fd, rfl, q⟩ := h
    refine ⟨rfl, ?_⟩
    have hsz := sizeLine_eq
    have z1 : (Str.ofString "Unfit" = Str.ofString "NoText") = False := eq_false (by decide +kernel)
    have z2 : (Str.ofString "Clash" = Str.ofString "NoText") = False := eq_false (by decide +kernel)
    have z3 : (Str.ofString "Clash" = Str.ofString "Unfit") = False := eq_false (by decide +kernel)
    rcases q with ⟨rfl, q⟩ | ⟨rfl, q⟩ | ⟨rfl, q⟩
    all_goals
      (try walk_at "wpt")
      exact ⟨⟨_, rfl⟩, ⟨_, rfl⟩, ⟨_, rfl⟩, ⟨_, rfl⟩, ⟨_, rfl⟩, ⟨_, rfl⟩, ⟨_, rfl⟩, q _⟩
  )
/-! a number's text -/
theorem dig_len : ∀ (k m : Nat), m < 10 ^ (k + 1) → (Nat.toDigits 10 m).length ≤ k + 1
  | 0, m, h => by
    rw [Nat.toDigits_of_lt_base (by simpa using h)]
    simp
  | k + 1, m, h => by
    by_cases hm : m < 10
    · rw [Nat.toDigits_of_lt_base hm]
      simp
    · have h1 : m % 10 < 10 := Nat.mod_lt m (by decide)
      have t : Nat.toDigits 10 (m / 10) ++ Nat.toDigits 10 (m % 10) = Nat.toDigits 10 (10 * (m / 10) + m % 10) := Nat.toDigits_append_toDigits (by decide) (by omega) h1
      rw [Nat.div_add_mod] at t
      have := dig_len k (m / 10) (by rw [Nat.pow_succ] at h; omega)
      rw [← t, List.length_append, Nat.toDigits_of_lt_base h1]
      simp
      omega
theorem dig_head (m : Nat) : 0 < m → ∃ c r, Nat.toDigits 10 m = c :: r ∧ c ≠ '0' := (by
  induction m using Nat.strongRecOn with
  | _ m ih =>
    intro h0
    by_cases hm : m < 10
    · rw [Nat.toDigits_of_lt_base hm]
      refine ⟨_, [], rfl, ?_⟩
      have key : ∀ k ∈ List.range 10, 0 < k → Nat.digitChar k ≠ '0' := by decide
      exact key m (List.mem_range.mpr hm) h0
    · have h1 : m % 10 < 10 := Nat.mod_lt m (by decide)
      have t : Nat.toDigits 10 (m / 10) ++ Nat.toDigits 10 (m % 10) = Nat.toDigits 10 (10 * (m / 10) + m % 10) := Nat.toDigits_append_toDigits (by decide) (by omega) h1
      rw [Nat.div_add_mod] at t
      obtain ⟨c, r, e, hc⟩ := ih (m / 10) (by omega) (by omega)
      rw [← t, e]
      exact ⟨c, _, rfl, hc⟩
  )
def NumB (n : Int) : Prop := 0 ≤ n ∧ n < 10 ^ 60
def numT (n : Int) : Str := Str.ofString (toString n)
theorem cps_num (m : Nat) : (numT (m : Int)).cps.toList = (Nat.toDigits 10 m).map Char.toNat := PySem.W.KIN.signs_num m
theorem num_dig {n : Int} (h : 0 ≤ n) : ∀ c ∈ (numT n).cps.toList, 48 ≤ c ∧ c ≤ 57 := (by
  obtain ⟨m, rfl⟩ := Int.eq_ofNat_of_zero_le h
  intro c hc
  rw [cps_num] at hc
  obtain ⟨ch, hch, e⟩ := List.mem_map.mp hc
  have r := digit_range (Nat.isDigit_of_mem_toDigits (by decide) (by decide) hch)
  rw [← e]
  exact r
  )
theorem num_len {n : Int} (h : NumB n) : (numT n).length ≤ 60 ∧ 1 ≤ (numT n).length := (by
  obtain ⟨h0, h1⟩ := h
  obtain ⟨m, rfl⟩ := Int.eq_ofNat_of_zero_le h0
  have e : (numT (m : Int)).length = (Nat.toDigits 10 m).length := by
    show (numT (m : Int)).cps.size = _
    rw [← Array.length_toList, cps_num, List.length_map]
  have := dig_len 59 m (by omega)
  have h2 : 0 < (Nat.toDigits 10 m).length := by
    by_cases hm : 0 < m
    · obtain ⟨c, r, e, _⟩ := dig_head m hm
      rw [e]; simp
    · obtain rfl : m = 0 := by omega
      decide
  omega
  )
theorem num_log {n : Int} (h : NumB n) : n.natAbs.log2 < 1920 := (by
  obtain ⟨h0, h1⟩ := h
  by_cases hz : n.natAbs = 0
  · rw [hz]; decide
  · exact Nat.lt_trans ((Nat.log2_lt hz).mpr (Nat.lt_of_lt_of_le (show n.natAbs < 10 ^ 60 by omega) (show 10 ^ 60 ≤ 2 ^ 200 by decide))) (by decide)
  )
theorem num_back {n : Int} (h : NumB n) : isNum (numT n) = true ∧ numF (numT n) = n := (by
  obtain ⟨l1, l2⟩ := num_len h
  have hd := num_dig h.1
  have wl : (numT n).cps.toList.length = (numT n).length := Array.length_toList
  constructor
  · unfold isNum ofN
    rw [decide_eq_true (by omega), decide_eq_true (by omega), Bool.true_and, Bool.true_and, List.all_eq_true.mpr fun c hc => dig_sign (hd c hc), Bool.true_and]
    unfold no0
    obtain ⟨m, e⟩ := Int.eq_ofNat_of_zero_le h.1
    by_cases hm : 0 < m
    · obtain ⟨c, r, e2, hc⟩ := dig_head m hm
      have e3 : (numT n).cps.toList = c.toNat :: r.map Char.toNat := by
        rw [e, cps_num, e2]; rfl
      rw [e3, List.headD_cons]
      have : ((⟨#[c.toNat]⟩ : Str) == Str.ofString "0") = false := by
        refine beq_eq_false_iff_ne.mpr fun z => hc ?_
        have z2 := congrArg (fun w : Str => w.cps.toList) z
        have z3 : [c.toNat] = [48] := z2
        have z4 : c.toNat = 48 := (List.cons.inj z3).1
        exact Char.toNat_inj.mp z4
      rw [this]; simp
    · obtain rfl : m = 0 := by omega
      rw [e]
      decide +kernel
  · unfold numF
    rw [PySem.intText_digits hd (fun z => by rw [z] at wl; simp at wl; omega) (by omega)]
    obtain ⟨m, e⟩ := Int.eq_ofNat_of_zero_le h.1
    rw [e, cps_num, PySem.W.KIN.val_back]; rfl
  )
/-! a field's text -/
/-- a row, its words with blanks between -/
def rowT (ws : List Str) : Str := Str.join " " ws
def headW (b : Bo) : List Str := ["bore", b.nm, numT b.at_, numT b.top]
def layW (l : Str × Int) : List Str := ["layer", l.1, numT l.2]
def likW (l : Lk3) : List Str := ["like", l.1, l.2.1, numT l.2.2]
def fltW : List Str := ["fault"]
/-- blocks, a row fault between two -/
def blksW : List (List (Str × Int)) → List (List Str)
  | [] => []
  | [k] => k.map layW
  | k :: k' :: r => k.map layW ++ fltW :: blksW (k' :: r)
def boW (b : Bo) : List (List Str) := headW b :: blksW b.bl
def fldW (bs : List Bo) (ls : List Lk3) : List (List Str) := (bs.map boW).flatten ++ ls.map likW
def fldT (bs : List Bo) (ls : List Lk3) : Str := Txt.join "\n" ((fldW bs ls).map rowT)
theorem str_ext {x y : Str} (h : x.cps.toList = y.cps.toList) : x = y := (by
  cases x; cases y
  exact congrArg Str.mk (Array.toList_inj.mp h)
  )
theorem cps_app (x y : Str) : (x ++ y).cps.toList = x.cps.toList ++ y.cps.toList := (by
  show (x.cps ++ y.cps).toList = _
  rw [Array.toList_append]
  )
theorem cps_rowT (ws : List Str) : (rowT ws).cps.toList = jn 32 (ws.map fun w => w.cps.toList) := join_jn 32 ws
structure BoTx (b : Bo) : Prop where
  nm : b.nm.length ≤ 1000
  at_ : NumB b.at_
  top : NumB b.top
  few : b.bl.length ≤ 1000
  bl : ∀ k ∈ b.bl, k ≠ [] ∧ k.length ≤ 1000 ∧ ∀ l ∈ k, l.1.length ≤ 1000 ∧ NumB l.2
structure FldTx (bs : List Bo) (ls : List Lk3) : Prop where
  bo : ∀ b ∈ bs, BoTx b
  few : bs.length ≤ 1000 ∧ ls.length ≤ 1000
  lk : ∀ l ∈ ls, l.1.length ≤ 1000 ∧ l.2.1.length ≤ 1000 ∧ NumB l.2.2
  rows : (fldW bs ls).length ≤ 1000000
  size : (List.map (fun x => x.length) (List.map rowT (fldW bs ls))).sum + (fldW bs ls).length ≤ 16777216
/-! fields that are drawn fit -/
theorem nm_of {w : Str} (h : WordOk w) : isNm w = true := (by
  obtain ⟨h1, h2, h3⟩ := h
  unfold isNm
  have e : w.length = w.cps.size := rfl
  rw [decide_eq_true (by omega), decide_eq_true (by omega), Bool.true_and, Bool.true_and]
  refine List.all_eq_true.mpr fun n hn => ?_
  have h4 := List.all_eq_true.mp h3 n hn
  unfold isLetN
  rw [PySem.StrLaws.found_one]
  refine decide_eq_true ?_
  unfold chOk at h4
  have h5 := of_decide_eq_true (Bool.and_eq_true_iff.mp h4).1
  have h6 := of_decide_eq_true (Bool.and_eq_true_iff.mp h4).2
  have key : ∀ k ∈ List.range 26, 97 + k ∈ (Str.ofString "abcdefghijklmnopqrstuvwxyz").cps.toList := by decide +kernel
  have := key (n - 97) (List.mem_range.mpr (by omega))
  rwa [show 97 + (n - 97) = n by omega] at this
  )
/-! a field's text is read to the field -/
theorem join_eq (sep : Str) (l : List Str) : Txt.join sep l = Str.join sep l := eq_of_beq (join_plain_closes sep l)
theorem cps_inj : ∀ {xs ys : List Str}, xs.map (fun p => p.cps.toList) = ys.map (fun p => p.cps.toList) → xs = ys
  | [], [], _ => rfl
  | [], _ :: _, h => by cases h
  | _ :: _, [], h => by cases h
  | x :: xs, y :: ys, h => by
    rw [List.map_cons, List.map_cons] at h
    injection h with h1 h2
    rw [str_ext h1, cps_inj h2]
theorem split_join {n : Nat} {ps : List Str} (h0 : ps ≠ []) (hf : ∀ p ∈ ps, n ∉ p.cps.toList) : Txt.split (Str.join ⟨#[n]⟩ ps) ⟨#[n]⟩ = ps := (by
  refine cps_inj (jn_uniq (n := n) ?_ ?_ ?_ ?_ ?_)
  · rw [ne_eq, List.map_eq_nil_iff]; exact split_ne _ n
  · rw [ne_eq, List.map_eq_nil_iff]; exact h0
  · intro q hq
    obtain ⟨p, hp, rfl⟩ := List.mem_map.mp hq
    exact PySem.StrLaws.split_free _ n p hp
  · intro q hq
    obtain ⟨p, hp, rfl⟩ := List.mem_map.mp hq
    exact hf p hp
  · rw [split_jn, join_jn]
  )
theorem jn_size {n : Nat} : ∀ ps : List (List Nat), (jn n ps).length ≤ (ps.map List.length).sum + ps.length
  | [] => Nat.zero_le _
  | [p] => by simp [jn]
  | p :: q :: r => by
    have := jn_size (n := n) (q :: r)
    rw [jn_cons (by simp), List.length_append, List.length_cons, List.map_cons, List.sum_cons, List.length_cons]
    omega
/-- a row's word: signs that are no blanks, one at least -/
def WdOk (w : Str) : Prop := 1 ≤ w.length ∧ w.length ≤ 60 ∧ ∀ c ∈ w.cps.toList, 48 ≤ c ∧ c ≤ 122
def RwOk (ws : List Str) : Prop := ws ≠ [] ∧ ws.length ≤ 4 ∧ ∀ w ∈ ws, WdOk w
theorem wd_word {w : Str} (h : WordOk w) : WdOk w := (by
  obtain ⟨h1, h2, h3⟩ := h
  have e : w.length = w.cps.size := rfl
  refine ⟨by omega, by omega, fun c hc => ?_⟩
  have h4 := List.all_eq_true.mp h3 c hc
  unfold chOk at h4
  have h5 := of_decide_eq_true (Bool.and_eq_true_iff.mp h4).1
  have h6 := of_decide_eq_true (Bool.and_eq_true_iff.mp h4).2
  omega
  )
theorem wd_num {n : Int} (h : NumB n) : WdOk (numT n) := (by
  have := num_len h
  exact ⟨by omega, by omega, fun c hc => by have := num_dig h.1 c hc; omega⟩
  )
theorem RwOk.free {ws : List Str} (h : RwOk ws) : ∀ w ∈ ws, 32 ∉ w.cps.toList := fun w hw z => by
  have := (h.2.2 w hw).2.2 32 z
  omega
theorem RwOk.split {ws : List Str} (h : RwOk ws) : Txt.split (rowT ws) (Str.ofString " ") = ws := split_join (n := 32) h.1 h.free
theorem RwOk.sign {ws : List Str} (h : RwOk ws) {c : Nat} (hc : c ∈ (rowT ws).cps.toList) : c = 32 ∨ (48 ≤ c ∧ c ≤ 122) := (by
  rw [cps_rowT] at hc
  have key : ∀ (ps : List (List Nat)), (∀ p ∈ ps, ∀ c ∈ p, 48 ≤ c ∧ c ≤ 122) → c ∈ jn 32 ps → c = 32 ∨ (48 ≤ c ∧ c ≤ 122) := fun ps => by
    induction ps with
    | nil => intro _ h; cases h
    | cons p ps ih =>
      intro h1 h2
      cases ps with
      | nil => exact .inr (h1 p List.mem_cons_self c h2)
      | cons q r =>
        rw [jn_cons (by simp)] at h2
        rcases List.mem_append.mp h2 with z | z
        · exact .inr (h1 p List.mem_cons_self c z)
        · rcases List.mem_cons.mp z with z | z
          · exact .inl z
          · exact ih (fun x hx => h1 x (List.mem_cons_of_mem _ hx)) z
  refine key _ (fun p hp => ?_) hc
  obtain ⟨w, hw, rfl⟩ := List.mem_map.mp hp
  exact (h.2.2 w hw).2.2
  )
theorem RwOk.len {ws : List Str} (h : RwOk ws) : (rowT ws).length ≤ 244 ∧ 1 ≤ (rowT ws).length := (by
  have e : (rowT ws).length = (rowT ws).cps.toList.length := Array.length_toList.symm
  rw [e, cps_rowT]
  obtain ⟨h1, h2, h3⟩ := h
  have s1 := jn_size (n := 32) (ws.map fun w => w.cps.toList)
  have s2 : ∀ l : List Str, (∀ w ∈ l, WdOk w) → ((l.map fun w => w.cps.toList).map List.length).sum ≤ l.length * 60 := fun l => by
    induction l with
    | nil => intro _; exact Nat.zero_le _
    | cons w l ih =>
      intro h
      have a := ih fun x hx => h x (List.mem_cons_of_mem _ hx)
      have b := (h w List.mem_cons_self).2.1
      have c : w.cps.toList.length = w.length := Array.length_toList
      rw [List.map_cons, List.map_cons, List.sum_cons, List.length_cons, c]
      omega
  have s3 := s2 ws h3
  rw [List.length_map] at s1
  refine ⟨by omega, ?_⟩
  cases ws with
  | nil => exact absurd rfl h1
  | cons w r =>
    have c : w.cps.toList.length = w.length := Array.length_toList
    have d := (h3 w List.mem_cons_self).1
    cases r with
    | nil => show 1 ≤ w.cps.toList.length; omega
    | cons x r =>
      rw [List.map_cons, jn_cons (by simp), List.length_append, List.length_cons]
      omega
  )
theorem rows_back {R : List (List Str)} (h : ∀ ws ∈ R, RwOk ws) : rowsF (Txt.join "\n" (R.map rowT)) = R.map rowT := (by
  unfold rowsF
  rw [join_eq]
  cases R with
  | nil => rfl
  | cons ws R =>
    have hl := (h ws List.mem_cons_self).len
    have ne : ((ws :: R).map rowT) ≠ [] := by simp
    have free : ∀ p ∈ (ws :: R).map rowT, 10 ∉ p.cps.toList := fun p hp z => by
      obtain ⟨v, hv, rfl⟩ := List.mem_map.mp hp
      have := (h v hv).sign z
      omega
    rw [if_neg]
    · exact split_join (n := 10) ne free
    · intro z
      have z := congrArg (fun w : Str => w.cps.toList.length) z
      have e : (Str.join (Str.ofString "\n") ((ws :: R).map rowT)).cps.toList = jn 10 (((ws :: R).map rowT).map fun p => p.cps.toList) := join_jn 10 _
      have z : (Str.join (Str.ofString "\n") ((ws :: R).map rowT)).cps.toList.length = (Str.ofString "").cps.toList.length := z
      rw [e, show (Str.ofString "").cps.toList.length = 0 from rfl] at z
      have := jn_each (n := 10) (List.mem_map.mpr ⟨rowT ws, List.mem_cons_self, rfl⟩ : (rowT ws).cps.toList ∈ ((ws :: R).map rowT).map fun p => p.cps.toList)
      have c : (rowT ws).cps.toList.length = (rowT ws).length := Array.length_toList
      omega
  )
theorem text_ok {R : List (List Str)} (h : ∀ ws ∈ R, RwOk ws) : PyData.strOk (Txt.join "\n" (R.map rowT)) = true ∧ (Txt.join "\n" (R.map rowT)).length ≤ R.length * 245 := (by
  rw [join_eq]
  have e : (Str.join (Str.ofString "\n") (R.map rowT)).cps.toList = jn 10 ((R.map rowT).map fun p => p.cps.toList) := join_jn 10 _
  constructor
  · refine strOk_iff.mpr fun c hc => ?_
    rw [e] at hc
    have key : ∀ (ps : List (List Nat)), (∀ p ∈ ps, ∀ c ∈ p, c ≤ 122) → c ∈ jn 10 ps → c ≤ 122 := fun ps => by
      induction ps with
      | nil => intro _ h; cases h
      | cons p ps ih =>
        intro h1 h2
        cases ps with
        | nil => exact h1 p List.mem_cons_self c h2
        | cons q r =>
          rw [jn_cons (by simp)] at h2
          rcases List.mem_append.mp h2 with z | z
          · exact h1 p List.mem_cons_self c z
          · rcases List.mem_cons.mp z with z | z
            · omega
            · exact ih (fun x hx => h1 x (List.mem_cons_of_mem _ hx)) z
    have := key _ (fun p hp c hc => ?_) hc
    · omega
    · obtain ⟨r, hr, rfl⟩ := List.mem_map.mp hp
      obtain ⟨ws, hws, rfl⟩ := List.mem_map.mp hr
      have := (h ws hws).sign hc
      omega
  · have c : (Str.join (Str.ofString "\n") (R.map rowT)).length = (Str.join (Str.ofString "\n") (R.map rowT)).cps.toList.length := Array.length_toList.symm
    show (Str.join (Str.ofString "\n") (R.map rowT)).length ≤ _
    rw [c, e]
    have s1 := jn_size (n := 10) ((R.map rowT).map fun p => p.cps.toList)
    have s2 : ∀ l : List (List Str), (∀ ws ∈ l, RwOk ws) → (((l.map rowT).map fun w => w.cps.toList).map List.length).sum ≤ l.length * 244 := fun l => by
      induction l with
      | nil => intro _; exact Nat.zero_le _
      | cons w l ih =>
        intro h
        have a := ih fun x hx => h x (List.mem_cons_of_mem _ hx)
        have b := (h w List.mem_cons_self).len.1
        have c : (rowT w).cps.toList.length = (rowT w).length := Array.length_toList
        rw [List.map_cons, List.map_cons, List.map_cons, List.sum_cons, List.length_cons, c]
        omega
    have s3 := s2 R h
    rw [List.length_map, List.length_map] at s1
    omega
  )
theorem words_back {R : List (List Str)} (h : ∀ ws ∈ R, RwOk ws) : (R.map rowT).map wordsF = R := (by
  rw [List.map_map]
  exact (List.map_congr_left fun ws hws => (h ws hws).split).trans (List.map_id _)
  )
/-! the rows laid -/
/-- a bore that is told by rows -/
structure BoRd (b : Bo) : Prop where
  nm : WordOk b.nm
  at_ : NumB b.at_
  top : NumB b.top
  ne : b.bl ≠ []
  bl : ∀ k ∈ b.bl, k ≠ [] ∧ ∀ l ∈ k, WordOk l.1 ∧ NumB l.2
def LkRd (l : Lk3) : Prop := WordOk l.1 ∧ WordOk l.2.1 ∧ NumB l.2.2
theorem lay_head {bs : List Bo} {b : Bo} (h : BoRd b) (hs : shutR bs = true) : layR (bs, []) (headW b) = some (bs ++ [⟨b.nm, b.at_, b.top, [[]]⟩], []) := (by
  unfold layR headW
  simp only [List.headD_cons]
  rw [if_neg (by decide +kernel), if_pos trivial, if_pos ⟨hs, trivial⟩]
  unfold headF
  simp only
  rw [if_pos ⟨nm_of h.nm, (num_back h.at_).1, (num_back h.top).1⟩, (num_back h.at_).2, (num_back h.top).2]
  rfl
  )
theorem lay_lay {bs : List Bo} {nm : Str} {p t : Int} {bl : List (List (Str × Int))} {k : List (Str × Int)} {l : Str × Int} (h1 : WordOk l.1) (h2 : NumB l.2) : layR (bs ++ [⟨nm, p, t, bl ++ [k]⟩], []) (layW l) = some (bs ++ [⟨nm, p, t, bl ++ [k ++ [l]]⟩], []) := (by
  unfold layR layW
  simp only [List.headD_cons]
  rw [if_neg (by decide +kernel), if_neg (by decide +kernel), if_pos trivial, if_pos ⟨by simp, trivial⟩]
  unfold layF
  simp only
  rw [if_pos ⟨nm_of h1, (num_back h2).1⟩, (num_back h2).2, Option.map_some, onLast_at, addLy_at]
  )
theorem lay_flt {bs : List Bo} {nm : Str} {p t : Int} {bl : List (List (Str × Int))} {k : List (Str × Int)} (h : k ≠ []) : layR (bs ++ [⟨nm, p, t, bl ++ [k]⟩], []) fltW = some (bs ++ [⟨nm, p, t, bl ++ [k] ++ [[]]⟩], []) := (by
  have hs : shutR (bs ++ [⟨nm, p, t, bl ++ [k]⟩]) = true := by
    rw [shutR_at]
    have := List.length_pos_iff.mpr h
    exact decide_eq_true (by omega)
  unfold layR fltW
  simp only [List.headD_cons]
  rw [if_neg (by decide +kernel), if_neg (by decide +kernel), if_neg (by decide +kernel), if_pos ⟨trivial, hs, by simp, trivial⟩, onLast_at]
  rfl
  )
theorem lay_lays {bs : List Bo} {nm : Str} {p t : Int} {bl : List (List (Str × Int))} : ∀ {k k0 : List (Str × Int)}, (∀ l ∈ k, WordOk l.1 ∧ NumB l.2) → layRs (bs ++ [⟨nm, p, t, bl ++ [k0]⟩], []) (k.map layW) = some (bs ++ [⟨nm, p, t, bl ++ [k0 ++ k]⟩], [])
  | [], k0, _ => by rw [List.append_nil]; rfl
  | l :: k, k0, h => by
    obtain ⟨h1, h2⟩ := h l List.mem_cons_self
    rw [List.map_cons]
    show (layR _ (layW l)).bind (fun s' => layRs s' (k.map layW)) = _
    rw [lay_lay h1 h2]
    show layRs _ _ = _
    rw [lay_lays (k := k) fun x hx => h x (List.mem_cons_of_mem _ hx)]
    simp
theorem lay_blks {bs : List Bo} {nm : Str} {p t : Int} : ∀ {bl dn : List (List (Str × Int))}, bl ≠ [] → (∀ k ∈ bl, k ≠ [] ∧ ∀ l ∈ k, WordOk l.1 ∧ NumB l.2) → layRs (bs ++ [⟨nm, p, t, dn ++ [[]]⟩], []) (blksW bl) = some (bs ++ [⟨nm, p, t, dn ++ bl⟩], [])
  | [], _, h, _ => absurd rfl h
  | [k], dn, _, h => by
    show layRs _ (k.map layW) = _
    rw [lay_lays (h k List.mem_cons_self).2]
    simp
  | k :: k' :: r, dn, _, h => by
    show layRs _ (k.map layW ++ fltW :: blksW (k' :: r)) = _
    rw [layRs_app, lay_lays (h k List.mem_cons_self).2]
    show (layR _ fltW).bind (fun s' => layRs s' (blksW (k' :: r))) = _
    rw [List.nil_append, lay_flt (h k List.mem_cons_self).1]
    show layRs _ _ = _
    rw [lay_blks (bl := k' :: r) (dn := dn ++ [k]) (by simp) fun x hx => h x (List.mem_cons_of_mem _ hx)]
    simp
theorem lay_bore {bs : List Bo} {b : Bo} (h : BoRd b) (hs : shutR bs = true) : layRs (bs, []) (boW b) = some (bs ++ [b], []) := (by
  show (layR _ (headW b)).bind (fun s' => layRs s' (blksW b.bl)) = _
  rw [lay_head h hs]
  exact lay_blks (dn := []) h.ne h.bl
  )
theorem shut_bore {bs : List Bo} {b : Bo} (h : BoRd b) : shutR (bs ++ [b]) = true := (by
  obtain ⟨nm, p, t, bl⟩ := b
  obtain ⟨bl, k, rfl⟩ := last_ex h.ne
  rw [shutR_at]
  have := List.length_pos_iff.mpr (h.bl k (List.mem_append_right _ (by simp))).1
  exact decide_eq_true (by omega)
  )
theorem lay_bores : ∀ {bs b0 : List Bo}, shutR b0 = true → (∀ b ∈ bs, BoRd b) → layRs (b0, []) (bs.map boW).flatten = some (b0 ++ bs, []) ∧ shutR (b0 ++ bs) = true
  | [], b0, hs, _ => by rw [List.append_nil]; exact ⟨rfl, hs⟩
  | b :: bs, b0, hs, h => by
    have hb := h b List.mem_cons_self
    rw [List.map_cons, List.flatten_cons, layRs_app, lay_bore hb hs]
    have := lay_bores (bs := bs) (b0 := b0 ++ [b]) (shut_bore hb) fun x hx => h x (List.mem_cons_of_mem _ hx)
    rw [List.append_assoc, List.singleton_append] at this
    exact this
theorem lay_likes {bs : List Bo} (hs : shutR bs = true) : ∀ {ls l0 : List Lk3}, (∀ l ∈ ls, LkRd l) → layRs (bs, l0) (ls.map likW) = some (bs, l0 ++ ls)
  | [], l0, _ => by rw [List.append_nil]; rfl
  | l :: ls, l0, h => by
    obtain ⟨h1, h2, h3⟩ := h l List.mem_cons_self
    rw [List.map_cons]
    show (layR _ (likW l)).bind (fun s' => layRs s' (ls.map likW)) = _
    have e : layR (bs, l0) (likW l) = some (bs, l0 ++ [l]) := by
      unfold layR likW
      simp only [List.headD_cons]
      rw [if_pos trivial, if_pos hs]
      unfold likF
      simp only
      rw [if_pos ⟨nm_of h1, nm_of h2, (num_back h3).1⟩, (num_back h3).2]
      rfl
    rw [e]
    show layRs _ _ = _
    rw [lay_likes hs (ls := ls) (l0 := l0 ++ [l]) fun x hx => h x (List.mem_cons_of_mem _ hx)]
    simp
theorem lay_fld {bs : List Bo} {ls : List Lk3} (hb : ∀ b ∈ bs, BoRd b) (hl : ∀ l ∈ ls, LkRd l) : layRs ([], []) (fldW bs ls) = some (bs, ls) ∧ shutR bs = true := (by
  obtain ⟨h1, h2⟩ := lay_bores (bs := bs) (b0 := []) rfl hb
  refine ⟨?_, h2⟩
  unfold fldW
  rw [layRs_app, h1]
  exact lay_likes (l0 := []) h2 hl
  )
theorem wd_key {s : Str} (h : s = "bore" ∨ s = "layer" ∨ s = "like" ∨ s = "fault") : WdOk s := (by
  have key : ∀ s : Str, s.cps.toList.all (fun c => decide (48 ≤ c) && decide (c ≤ 122)) = true → 1 ≤ s.length → s.length ≤ 60 → WdOk s := fun s h1 h2 h3 => ⟨h2, h3, fun c hc => by
    have := List.all_eq_true.mp h1 c hc
    rw [Bool.and_eq_true, decide_eq_true_eq, decide_eq_true_eq] at this
    exact this⟩
  rcases h with rfl | rfl | rfl | rfl
  all_goals exact key _ (by decide +kernel) (by decide +kernel) (by decide +kernel)
  )
theorem rows_ok {bs : List Bo} {ls : List Lk3} (hb : ∀ b ∈ bs, BoRd b) (hl : ∀ l ∈ ls, LkRd l) : ∀ ws ∈ fldW bs ls, RwOk ws := (by
  have four : ∀ {w x y z : Str}, WdOk w → WdOk x → WdOk y → WdOk z → RwOk [w, x, y, z] := fun h1 h2 h3 h4 => ⟨by simp, by simp, fun v hv => by
    simp only [List.mem_cons, List.not_mem_nil, or_false] at hv
    rcases hv with rfl | rfl | rfl | rfl <;> assumption⟩
  have three : ∀ {w x y : Str}, WdOk w → WdOk x → WdOk y → RwOk [w, x, y] := fun h1 h2 h3 => ⟨by simp, by simp, fun v hv => by
    simp only [List.mem_cons, List.not_mem_nil, or_false] at hv
    rcases hv with rfl | rfl | rfl <;> assumption⟩
  have blk : ∀ bl : List (List (Str × Int)), (∀ k ∈ bl, k ≠ [] ∧ ∀ l ∈ k, WordOk l.1 ∧ NumB l.2) → ∀ ws ∈ blksW bl, RwOk ws := fun bl => by
    have lay : ∀ k : List (Str × Int), (∀ l ∈ k, WordOk l.1 ∧ NumB l.2) → ∀ ws ∈ k.map layW, RwOk ws := fun k h ws hw => by
      obtain ⟨l, hl, rfl⟩ := List.mem_map.mp hw
      exact three (wd_key (.inr (.inl rfl))) (wd_word (h l hl).1) (wd_num (h l hl).2)
    induction bl with
    | nil => intro _ ws hw; cases hw
    | cons k bl ih =>
      intro h ws hw
      cases bl with
      | nil => exact lay k (h k List.mem_cons_self).2 ws hw
      | cons k' r =>
        have hw : ws ∈ k.map layW ++ fltW :: blksW (k' :: r) := hw
        rcases List.mem_append.mp hw with z | z
        · exact lay k (h k List.mem_cons_self).2 ws z
        · rcases List.mem_cons.mp z with rfl | z
          · exact ⟨by unfold fltW; simp, by unfold fltW; simp, fun v hv => by
              rw [show v = "fault" from List.mem_singleton.mp hv]
              exact wd_key (.inr (.inr (.inr rfl)))⟩
          · exact ih (fun x hx => h x (List.mem_cons_of_mem _ hx)) ws z
  intro ws hw
  rcases List.mem_append.mp hw with z | z
  · obtain ⟨R, hR, hw⟩ := List.mem_flatten.mp z
    obtain ⟨b, hbm, rfl⟩ := List.mem_map.mp hR
    have h := hb b hbm
    rcases List.mem_cons.mp hw with rfl | hw
    · exact four (wd_key (.inl rfl)) (wd_word h.nm) (wd_num h.at_) (wd_num h.top)
    · exact blk b.bl h.bl ws hw
  · obtain ⟨l, hlm, rfl⟩ := List.mem_map.mp z
    obtain ⟨h1, h2, h3⟩ := hl l hlm
    exact four (wd_key (.inr (.inr (.inl rfl)))) (wd_word h1) (wd_word h2) (wd_num h3)
  )
theorem read_back {bs : List Bo} {ls : List Lk3} (hb : ∀ b ∈ bs, BoRd b) (hl : ∀ l ∈ ls, LkRd l) : readF (fldT bs ls) = some (bs, ls) ∧ rowsF (fldT bs ls) = (fldW bs ls).map rowT ∧ (∀ r ∈ rowsF (fldT bs ls), Str.ofString "" ∉ wordsF r) := (by
  have ok := rows_ok hb hl
  have e1 : rowsF (fldT bs ls) = (fldW bs ls).map rowT := rows_back ok
  obtain ⟨e2, e3⟩ := lay_fld hb hl
  refine ⟨?_, e1, fun r hr z => ?_⟩
  · unfold readF
    rw [e1, words_back ok, e2]
    show (if shutR bs = true then some (bs, ls) else none) = _
    rw [if_pos e3]
  · rw [e1] at hr
    obtain ⟨ws, hws, rfl⟩ := List.mem_map.mp hr
    have := (ok ws hws).split
    unfold wordsF at z
    rw [this] at z
    have := ((ok ws hws).2.2 _ z).1
    exact absurd this (by decide)
  )
/-! drawn fields -/
theorem fld_rd {nm ms : List Str} {bs : List Bo} {ls : List Lk3} (hF : FieldTo nm ms bs ls) : (∀ b ∈ bs, BoRd b) ∧ (∀ l ∈ ls, LkRd l) := (by
  have B : (6 : Int) * big < 10 ^ 60 := by decide
  have B1 : (1 : Int) * big < 10 ^ 60 := by decide
  constructor
  · intro b hb
    have h := hF.bo.each b hb
    have h1 := h.at0
    have h2 := hF.close b hb
    have h3 := h.top0
    have h4 := h.topB
    refine ⟨hF.nm b hb, ⟨h1, by omega⟩, ⟨h3, by omega⟩, h.bl.ne, fun k hk => ⟨h.bl.each k hk, fun l hl => ?_⟩⟩
    have h5 := h.bl.ly l (List.mem_flatten.mpr ⟨k, hk, hl⟩)
    exact ⟨hF.wm _ h5.1, by omega, by omega⟩
  · intro l hl
    obtain ⟨m1, m2⟩ := hF.lk.inm l hl
    obtain ⟨_, _, p1, p2⟩ := hF.lk.ok l hl
    exact ⟨hF.wm _ m1, hF.wm _ m2, by omega, by omega⟩
  )
theorem read_unfit {w : Str} {bs : List Bo} {ls : List Lk3} (e : w = fldT bs ls) (hb : ∀ b ∈ bs, BoRd b) (hl : ∀ l ∈ ls, LkRd l) (hn : (fldW bs ls).length ≤ 10) (hf : fitF bs ls = false) {Q : S → Dl.Ctx → Prop} {E : EEt} (q : retE [none] E "Unfit" []) : T_read [.d (.str w)] Q E := (by
  subst e
  obtain ⟨r1, r2, r3⟩ := read_back hb hl
  obtain ⟨t1, t2⟩ := text_ok (rows_ok hb hl)
  refine ⟨_, rfl, t1, Nat.le_trans t2 (by omega), by rw [r2, List.length_map]; omega, r3, fun z => (by rw [r1] at z; cases z), fun s z => ?_⟩
  rw [r1] at z
  cases z
  exact ⟨fun _ => q, fun z => (by rw [hf] at z; cases z)⟩
  )
theorem read_notext {w : Str} (h1 : PyData.strOk w = true) (h2 : w.length ≤ 90000) (h3 : (rowsF w).length ≤ 900) (h4 : ∀ r ∈ rowsF w, Str.ofString "" ∉ wordsF r) (h5 : readF w = none) {Q : S → Dl.Ctx → Prop} {E : EEt} (q : retE [none] E "NoText" []) : T_read [.d (.str w)] Q E :=
  ⟨_, rfl, h1, h2, h3, h4, fun _ => q, fun s z => (by rw [h5] at z; cases z)⟩
/-- a text of one bore with one layer, then more -/
theorem more_txt {n : Int} {z : Str} {bs : List Bo} {ls : List Lk3} {R : List (List Str)} (hR : fldW bs ls = headW ⟨"a", 1, 2, []⟩ :: layW ("a", n) :: R) (hz : z.cps.toList = jn 10 ((R.map rowT).map fun p => p.cps.toList)) (h0 : R ≠ []) : Str.ofString "bore a 1 2\nlayer a " ++ numT n ++ Str.ofString "\n" ++ z = fldT bs ls := str_ext (by
  unfold fldT
  rw [join_eq, hR]
  have e : (Str.join (Str.ofString "\n") ((headW ⟨"a", 1, 2, []⟩ :: layW ("a", n) :: R).map rowT)).cps.toList = jn 10 (((headW ⟨"a", 1, 2, []⟩ :: layW ("a", n) :: R).map rowT).map fun p => p.cps.toList) := join_jn 10 _
  rw [e, List.map_cons, List.map_cons, List.map_cons, List.map_cons, jn_cons (by simp), jn_cons (by simp [h0]), ← hz, cps_rowT, cps_rowT, cps_app, cps_app, cps_app]
  unfold headW layW
  simp only [List.map_cons, List.map_nil, jn]
  have e1 : (Str.ofString "bore a 1 2\nlayer a ").cps.toList = (Str.ofString "bore").cps.toList ++ 32 :: ((Str.ofString "a").cps.toList ++ 32 :: ((numT 1).cps.toList ++ 32 :: (numT 2).cps.toList)) ++ 10 :: ((Str.ofString "layer").cps.toList ++ 32 :: ((Str.ofString "a").cps.toList ++ [32])) := by decide +kernel
  rw [e1, show (Str.ofString "\n").cps.toList = [10] by decide +kernel]
  simp)
theorem wk_a : WordOk "a" := by unfold WordOk; decide +kernel
theorem wk_b : WordOk "b" := by unfold WordOk; decide +kernel
def T_law_deed : TFY := fun a Q E => ∃ (way : Int) (bs : List Bo) (ls : List Lk3) (n : Int), a = [.d (.int way), .d (.tuple [.tuple (bs.map boD), .tuple (ls.map lkD)]), .d (.int n)] ∧ 0 ≤ n ∧ n < 10 ^ 59 ∧ FlSz bs ls ∧ fitF bs ls = false ∧ (((way = 0 ∨ way = 1) ∧ retE [none, none, none] E "NoText" []) ∨ ((way = 2 ∨ way = 3) ∧ retE [none, none, none] E "Unfit" []) ∨ (way = 4 ∧ retE [none, none, none] E "Clash" [("ring", .list [.tuple [.str "row", .str "a", .int 0]]), ("numbers", .list [.int 1, .int n])]))
theorem sc_law_deed : FnScope ["way", "field", "number", "more"] ["way", "field", "number"] (defScope (topS 41)) := ⟨rfl, rfl, rfl, by decide +kernel, rfl, by decide +kernel, by decide +kernel⟩
local macro_rules | `(tactic| walk_at "wpt") => `(tactic| simp (maxSteps := 1000000) only [true_and, ↓reduceIte, xHand, uIsP, zPlAppY, zPlAppX, xTupL, aoLast, aoCons, uLenPl, oTl0, ↓asOTx_d, ↓asOTx_o, yNil, yCons, zSeqY, zIfY, zRaiseY, zExY, zRetXY, zForY, yCallA, ↓retE_k, zRaise2, uXf, zTryL, ↓atY_cons, ↓ret_wd, ↓ret_wo, ↓ret_wt, kC, ↓asTr_t, ↓asDs_l, ↓asDs_n, ↓asLs_l, ↓asOT_l, ↓asOT_t, ↓asOT_ll, pVar, pIx, uPlV, ↓asOw_o, ↓mvS_d, ↓mvS_f, ↓mvS_o, zRetX, oX, ↓frS_d, ↓frS_f, ↓plainA_n, ↓plainA_d, ↓plainA_f, ↓ret_xd, ↓ret_xf, ↓ret_xo, ↓retA_xd, ↓retA_xf, ↓retA_xo, ↓ret_vd, ↓ret_vo, OT.areD, OT.isD, OT.toDs, OT.toD, OT.upd, OT.wch, OT.ch, ↓retA_kO, ↓retA_kD, ↓retA_kDo, ↓retA_kS, ↓asBs_m, ↓asSs_m, fAll, fStr, ↓fIntS_i, ↓fIntS_b, ↓fIntS_s, oLcN, fSortST, zSeqX, zIfX, zRaise, ↓bare_d, ↓bare_o, ↓bare_l, ↓bare_no, ↓bare_f, ↓bare_tr, ↓bare_g, ↓bare_P, ↓bare_dic, oDic0, zSetK, uDin, ↓asDic_d, zDput, fMin2S, fMax2S, uLenSet, oSplit, S.f.injEq, eq_self, ↓fAddA_i, ↓fAddA_s, ↓fAddA_t, uChain, oRep, fSortS, ↓slW_d, ↓slW_o, ↓slW_P, ↓slW_s, ↓hasS_d, ↓hasS_o, ↓hasS_f, ↓hasS_s, uV, uN, u1, o1, o2, oN, ↓fIn_l, ↓fIn_s, fCat, ↓fList_l, ↓fList_t, ↓fTup_l, ↓fTup_t, ↓lstR_l, ↓lstR_P, zM1, fApp, zIns, ↓slF_d, ↓slF_o, ↓slF_s, uVf, pNo, pSo, ↓fSl_s, ↓fSl_t, uSl, ↓scal_n, ↓scal_b, ↓scal_i, ↓scal_s, ↓kS_d, ↓ret_S, rNil, rD, rS, uCallA, ↓toS_d, ↓toS_f, ↓toS_s, ↓slS_0, ↓slS_s, ↓retA_d, ↓retA_o, ↓retA_O, ↓backL_n, ↓backL_s, ↓backL_d, ↓backL_f, ↓lok_n, ↓lok_s, ↓lok_d, ↓lok_f, ↓lent_n, ↓lent_s, ↓lent_d, ↓lent_f, bYes, oLc, ↓clr_n, ↓clr_c, ↓clr2_n, ↓clr2_c, ↓rest_n, ↓rest_c, ↓keep1_d, ↓keep1_o, ↓keep1_f, ↓keep1_no, ↓keep1_s, ↓asLL_l, oLL0, zLLn, zLLa, uLLlen, List.mem_cons, List.not_mem_nil, Nat.reduceEqDiff, eqv_list, eqv_tuple, eqv_none, ↓asI_i, ↓asB_b, ↓asS_s, ↓asL_l, ↓asT_t, ↓slD_0, ↓slD_s, ↓slO_0, ↓slO_s, ↓asR_l, ↓fAdd_i, ↓fAdd_s, ↓ixbo_0, ↓ixbo_1, ↓ixbo_2, ↓ixbo_3, ↓ixD_l, ↓ixD_t, ↓ixD_s, ↓arg2_2, ↓fLen1_l, ↓fLen1_t, ↓fLen1_s, ↓asC_c, ↓asQ_l, ↓asQ_t, ↓asQ_s, ↓kD_d, ↓kD_o, ↓kO_o, ↓fz_l, ↓fz_P, ↓fz_ll, ↓ret_d, ↓ret_o, ↓ret_O, ↓retL_d, ↓retL_o, ↓retL_O, ↓atD_0, ↓atD_1, ↓atD_2, ↓atD_3, ↓atD_b1, ↓atD_b2, ↓atD_b3, ↓ixP_30, ↓ixP_31, ↓ixP_32, ↓if_true, ↓if_false, zNext, zSeq, zSet, zSetO, zRet, zRetO, zRetP, zIf, zAsg, zPut, gN, gsNil, gsCons, gT, uVar, uC, uFz, u2, fI, fI0, fEq, uCB, wB, wNot, wAnd, wOr, uAnd, uOr, aNil, aCons, uTup, oLst, fIx, oVar, iSeq, iR1, uCall, oCall, uLend, oLend, shaped_iff, sh_non, sh_int, sh_bool, sh_str, eqv_int, eqv_str, eqv_bool, ixN_30, ixN_31, ixN_32, ixN_20, ixN_21, atI_0, atI_1, atI_2, atI_3, atI_b1, atI_b2, atI_b3, List.length_map, Int.reduceEq, forall_const, implies_true, and_assoc, sz_0, sz_1, sz_2, sz_3, sz_4, sz_5, sz_6, sz_7, sz_8, Bool.not_eq_true', beq_eq_false_iff_ne, beq_iff_eq, ne_eq, Bool.and_eq_true, Bool.or_eq_true, decide_eq_false_iff_not, not_false_eq_true, not_true_eq_false, Bool.not_true, Bool.not_false, isS_n, isS_b, isS_i, isS_s, isS_l, isS_t, ca_0, ca_1, ca_2, ca_3, ca_4, ca_5, ca_6, Int.reduceToNat, Int.toNat_natCast, Int.reducePow, Int.reduceMul, Int.reduceLT, Int.reduceLE, Int.reduceNeg, zFor, List.replicate, List.length_cons, List.length_nil, List.nil_append, List.cons_append, List.append_nil, List.map_cons, List.map_nil, List.set_cons_zero, List.set_cons_succ, List.getElem?_cons_zero, List.getElem?_cons_succ, Option.some.injEq, S.d.injEq, S.o.injEq, Res.lst.injEq, Res.lstP.injEq, PyData.int.injEq, PyData.str.injEq, PyData.bool.injEq, PyData.list.injEq, PyData.tuple.injEq, List.cons.injEq, reduceCtorEq, exists_eq_left', exists_eq_left, exists_eq_right, exists_eq_right', true_and, and_true, false_and, and_false, exists_false, false_or, or_false, exists_and_left, exists_and_right, exists_eq', exists_eq, exists_const, Bool.false_eq_true, ite_true, ite_false, decide_eq_true_eq, Nat.sub_self, Nat.zero_add, Nat.add_sub_cancel, Nat.reduceSub, Nat.reduceAdd, ne_Clash_NoText, ne_Clash_Unfit, ne_NoText_Clash, ne_NoText_Unfit, ne_Unfit_Clash, ne_Unfit_NoText])
local macro_rules | `(tactic| walk_at "st") => `(tactic| simp (maxSteps := 1000000) only [true_and, ↓reduceIte, xHand, uIsP, zPlAppY, zPlAppX, xTupL, aoLast, aoCons, uLenPl, oTl0, ↓asOTx_d, ↓asOTx_o, yNil, yCons, zSeqY, zIfY, zRaiseY, zExY, zRetXY, zForY, yCallA, ↓retE_k, zRaise2, uXf, zTryL, ↓atY_cons, ↓ret_wd, ↓ret_wo, ↓ret_wt, kC, ↓asTr_t, ↓asDs_l, ↓asDs_n, ↓asLs_l, ↓asOT_l, ↓asOT_t, ↓asOT_ll, pVar, pIx, uPlV, ↓asOw_o, ↓mvS_d, ↓mvS_f, ↓mvS_o, zRetX, oX, ↓frS_d, ↓frS_f, ↓plainA_n, ↓plainA_d, ↓plainA_f, ↓ret_xd, ↓ret_xf, ↓ret_xo, ↓retA_xd, ↓retA_xf, ↓retA_xo, ↓ret_vd, ↓ret_vo, OT.areD, OT.isD, OT.toDs, OT.toD, OT.upd, OT.wch, OT.ch, ↓retA_kO, ↓retA_kD, ↓retA_kDo, ↓retA_kS, ↓asBs_m, ↓asSs_m, fAll, fStr, ↓fIntS_i, ↓fIntS_b, ↓fIntS_s, oLcN, fSortST, zSeqX, zIfX, zRaise, ↓bare_d, ↓bare_o, ↓bare_l, ↓bare_no, ↓bare_f, ↓bare_tr, ↓bare_g, ↓bare_P, ↓bare_dic, oDic0, zSetK, uDin, ↓asDic_d, zDput, fMin2S, fMax2S, uLenSet, oSplit, S.f.injEq, eq_self, ↓fAddA_i, ↓fAddA_s, ↓fAddA_t, uChain, oRep, fSortS, ↓slW_d, ↓slW_o, ↓slW_P, ↓slW_s, ↓hasS_d, ↓hasS_o, ↓hasS_f, ↓hasS_s, uV, uN, u1, o1, o2, oN, ↓fIn_l, ↓fIn_s, fCat, ↓fList_l, ↓fList_t, ↓fTup_l, ↓fTup_t, ↓lstR_l, ↓lstR_P, zM1, fApp, zIns, ↓slF_d, ↓slF_o, ↓slF_s, uVf, pNo, pSo, ↓fSl_s, ↓fSl_t, uSl, ↓scal_n, ↓scal_b, ↓scal_i, ↓scal_s, ↓kS_d, ↓ret_S, rNil, rD, rS, uCallA, ↓toS_d, ↓toS_f, ↓toS_s, ↓slS_0, ↓slS_s, ↓retA_d, ↓retA_o, ↓retA_O, ↓backL_n, ↓backL_s, ↓backL_d, ↓backL_f, ↓lok_n, ↓lok_s, ↓lok_d, ↓lok_f, ↓lent_n, ↓lent_s, ↓lent_d, ↓lent_f, bYes, oLc, ↓clr_n, ↓clr_c, ↓clr2_n, ↓clr2_c, ↓rest_n, ↓rest_c, ↓keep1_d, ↓keep1_o, ↓keep1_f, ↓keep1_no, ↓keep1_s, ↓asLL_l, oLL0, zLLn, zLLa, uLLlen, List.mem_cons, List.not_mem_nil, Nat.reduceEqDiff, eqv_list, eqv_tuple, eqv_none, ↓asI_i, ↓asB_b, ↓asS_s, ↓asL_l, ↓asT_t, ↓slD_0, ↓slD_s, ↓slO_0, ↓slO_s, ↓asR_l, ↓fAdd_i, ↓fAdd_s, ↓ixbo_0, ↓ixbo_1, ↓ixbo_2, ↓ixbo_3, ↓ixD_l, ↓ixD_t, ↓ixD_s, ↓arg2_2, ↓fLen1_l, ↓fLen1_t, ↓fLen1_s, ↓asC_c, ↓asQ_l, ↓asQ_t, ↓asQ_s, ↓kD_d, ↓kD_o, ↓kO_o, ↓fz_l, ↓fz_P, ↓fz_ll, ↓ret_d, ↓ret_o, ↓ret_O, ↓retL_d, ↓retL_o, ↓retL_O, ↓atD_0, ↓atD_1, ↓atD_2, ↓atD_3, ↓atD_b1, ↓atD_b2, ↓atD_b3, ↓ixP_30, ↓ixP_31, ↓ixP_32, ↓if_true, ↓if_false, zNext, zSet, zSetO, zRet, zRetO, zRetP, zIf, zAsg, zPut, gN, gsNil, gsCons, gT, uVar, uC, uFz, u2, fI, fI0, fEq, uCB, wB, wNot, wAnd, wOr, uAnd, uOr, aNil, aCons, uTup, oLst, fIx, oVar, iSeq, iR1, uCall, oCall, uLend, oLend, shaped_iff, sh_non, sh_int, sh_bool, sh_str, eqv_int, eqv_str, eqv_bool, ixN_30, ixN_31, ixN_32, ixN_20, ixN_21, atI_0, atI_1, atI_2, atI_3, atI_b1, atI_b2, atI_b3, List.length_map, Int.reduceEq, forall_const, implies_true, and_assoc, sz_0, sz_1, sz_2, sz_3, sz_4, sz_5, sz_6, sz_7, sz_8, Bool.not_eq_true', beq_eq_false_iff_ne, beq_iff_eq, ne_eq, Bool.and_eq_true, Bool.or_eq_true, decide_eq_false_iff_not, not_false_eq_true, not_true_eq_false, Bool.not_true, Bool.not_false, isS_n, isS_b, isS_i, isS_s, isS_l, isS_t, ca_0, ca_1, ca_2, ca_3, ca_4, ca_5, ca_6, Int.reduceToNat, Int.toNat_natCast, Int.reducePow, Int.reduceMul, Int.reduceLT, Int.reduceLE, Int.reduceNeg, zFor, List.replicate, List.length_cons, List.length_nil, List.nil_append, List.cons_append, List.append_nil, List.map_cons, List.map_nil, List.set_cons_zero, List.set_cons_succ, List.getElem?_cons_zero, List.getElem?_cons_succ, Option.some.injEq, S.d.injEq, S.o.injEq, Res.lst.injEq, Res.lstP.injEq, PyData.int.injEq, PyData.str.injEq, PyData.bool.injEq, PyData.list.injEq, PyData.tuple.injEq, List.cons.injEq, reduceCtorEq, exists_eq_left', exists_eq_left, exists_eq_right, exists_eq_right', true_and, and_true, false_and, and_false, exists_false, false_or, or_false, exists_and_left, exists_and_right, exists_eq', exists_eq, exists_const, Bool.false_eq_true, ite_true, ite_false, decide_eq_true_eq, Nat.sub_self, Nat.zero_add, Nat.add_sub_cancel, Nat.reduceSub, Nat.reduceAdd, ne_Clash_NoText, ne_Clash_Unfit, ne_NoText_Clash, ne_NoText_Unfit, ne_Unfit_Clash, ne_Unfit_NoText])
theorem c_law_deed {P : Program} {w : World} {K : PySem.W.Frag} {mg : Str → Option Value} {base : Heap} (hb : Bi K mg) (D : Df K mg "_law_deed" (topS 41) ["way", "field", "number"]) (C_words_of__y : CalY P w K mg base "words_of" 1 ["row"] T_words_of__y) (C_read : CalY P w K mg base "read" 6 ["text"] T_read) (C_fitted : CalY P w K mg base "fitted" 5 ["field"] T_fitted) (C_Clash___init__ : InEx P w K mg base "Clash" "numbers" "ring" 1) : CalY P w K mg base "_law_deed" 7 ["way", "field", "number"] T_law_deed := (by
  obtain ⟨f, fd, F, hm, hB⟩ := D
  refine ⟨f, fd, fn_dY (k := 6) F sc_law_deed ?hT (fun cdv A outer s H E hr tk => (qy_cons (s_ifY (t_eq hr.units (dv 0) d_int)
 (qy_one (sy_expr (y_callA tk C_words_of__y (hr.mono (by decide)) (r_d (d_ix (fun _ _ => rfl) (d_fz (o_lst (a_cons d_str (a_cons d_str (a_cons d_str (a_cons d_str a_nil)))))) (d_mod (dv 2) d_int)) r_nil)))) (ys_of q_nil))
 (qy_cons (s_ifY (t_eq hr.units (dv 0) d_int)
 (qy_one (sy_expr (y_callA tk C_read (hr.mono (by decide)) (r_d (d_ix (fun _ _ => rfl) (d_fz (o_lst (a_cons d_str (a_cons d_str (a_cons d_str (a_cons d_str a_nil)))))) (d_mod (dv 2) d_int)) r_nil)))) (ys_of q_nil))
 (qy_cons (s_ifY (t_eq hr.units (dv 0) d_int)
 (qy_one (sy_expr (y_callA tk C_fitted (hr.mono (by decide)) (r_d (dv 1) r_nil)))) (ys_of q_nil))
 (qy_cons (s_ifY (t_eq hr.units (dv 0) d_int)
 (qy_cons (y_of (s_set (j := 3) sc_law_deed.nd (d_fz (o_lst (a_cons d_str (a_cons d_str (a_cons d_str (a_cons d_str a_nil))))))))
 (qy_one (sy_expr (y_callA tk C_read (hr.mono (by decide)) (r_d (d_add (d_add (d_add d_str (d_str_ hb.str (DE.dv (d_add d_int (dv 2))))) d_str) (d_ixN 3 (fun _ _ => rfl) (d_mod (dv 2) d_int))) r_nil))))) (ys_of q_nil))
 (qy_one (s_ifY (t_eq hr.units (dv 0) d_int)
 (qy_one (s_raiseI rfl tk hb.ex2_Clash hb.init_Clash C_Clash___init__ (hr.mono (by decide)) hb.cls_Clash (ay_cons (ey_e (d_fz (o_lst (a_cons d_int (a_cons (dv 2) a_nil))))) (ay_cons (ey_e (d_fz (o_lst (a_cons (d_tup (a_cons d_str (a_cons d_str (a_cons d_int a_nil)))) a_nil)))) ay_nil)))) (ys_of q_nil)))))))), hm, F.kp, hB⟩
  case hT =>
    intro a Q E1 h
    obtain ⟨way, bs, ls, n, rfl, n0, n1, sz, ft, q⟩ := h
    refine ⟨rfl, ?_⟩
    have hsz := sizeLine_eq
    have P3 : ∀ {x y z : S} {c : Dl.Ctx}, Pat [none, none, none] (x :: y :: z :: c) := pat_consN (pat_consN (pat_consN pat_nil))
    rcases q with ⟨rfl | rfl, q⟩ | ⟨rfl | rfl, q⟩ | ⟨rfl, q⟩
    · (try walk_at "wpt")
      refine atD_mem (fmod_pos (by decide)).1 (fmod_pos (by decide)).2 fun z hz => ?_
      simp only [List.mem_cons, List.not_mem_nil, or_false] at hz
      rcases hz with rfl | rfl | rfl | rfl
      all_goals
        intro v
        refine ⟨_, rfl, by decide +kernel, by decide +kernel, split_ok (by decide +kernel), ?_⟩
        rw [if_pos (by decide +kernel)]
        (try walk_at "wpt")
        exact q _ P3
    · (try walk_at "wpt")
      refine atD_mem (fmod_pos (by decide)).1 (fmod_pos (by decide)).2 fun z hz => ?_
      simp only [List.mem_cons, List.not_mem_nil, or_false] at hz
      rcases hz with rfl | rfl | rfl | rfl
      all_goals
        intro v
        refine read_notext (by decide +kernel) (by decide +kernel) (by decide +kernel) (by decide +kernel) (by decide +kernel) ?_
        (try walk_at "wpt")
        exact q _ P3
    · (try walk_at "wpt")
      intro v
      refine ⟨bs, ls, rfl, sz, fun _ => ?_, fun z => (by rw [ft] at z; cases z)⟩
      (try walk_at "wpt")
      exact q _ P3
    · (try walk_at "wpt")
      have nb : NumB (1 + n) := ⟨by omega, by omega⟩
      have n1b : NumB 1 := ⟨by decide, by decide⟩
      have n2b : NumB 2 := ⟨by decide, by decide⟩
      have n3b : NumB 3 := ⟨by decide, by decide⟩
      have n0b : NumB 0 := ⟨by decide, by decide⟩
      have n10b : NumB 10 := ⟨by decide, by decide⟩
      rw [show Str.ofString (toString (1 + n)) = numT (1 + n) from rfl]
      have nl := num_len nb
      have lb : ∀ x y : Str, (x ++ y).length = x.length + y.length := fun x y => by
        show (x.cps ++ y.cps).size = _
        rw [Array.size_append]; rfl
      have l1 : (Str.ofString "bore a 1 2\nlayer a ").length = 19 := by decide +kernel
      have l2 : (Str.ofString "\n").length = 1 := by decide +kernel
      simp only [lb, l1, l2]
      refine ⟨num_log nb, by omega, by omega, ?_⟩
      have bo : ∀ {w : Str} {p t : Int} {bl : List (List (Str × Int))}, WordOk w → NumB p → NumB t → bl ≠ [] → (∀ k ∈ bl, k ≠ [] ∧ ∀ l ∈ k, WordOk l.1 ∧ NumB l.2) → BoRd ⟨w, p, t, bl⟩ := fun h1 h2 h3 h4 h5 => ⟨h1, h2, h3, h4, h5⟩
      have one : ∀ {w : Str} {m : Int}, WordOk w → NumB m → ∀ k ∈ [[(w, m)]], k ≠ [] ∧ ∀ l ∈ k, WordOk l.1 ∧ NumB l.2 := fun h1 h2 k hk => by
        rw [List.mem_singleton.mp hk]
        exact ⟨by simp, fun l hl => by rw [List.mem_singleton.mp hl]; exact ⟨h1, h2⟩⟩
      have b0 : BoRd ⟨"a", 1, 2, [[("a", 1 + n)]]⟩ := bo wk_a n1b n2b (by simp) (one wk_a nb)
      have all1 : ∀ {x : Bo}, BoRd x → ∀ b ∈ [x], BoRd b := fun h b hb => by rw [List.mem_singleton.mp hb]; exact h
      have all2 : ∀ {x y : Bo}, BoRd x → BoRd y → ∀ b ∈ [x, y], BoRd b := fun h1 h2 b hb => by
        simp only [List.mem_cons, List.not_mem_nil, or_false] at hb
        rcases hb with rfl | rfl <;> assumption
      refine atD_mem (fmod_pos (by decide)).1 (fmod_pos (by decide)).2 fun z hz => ?_
      simp only [List.mem_cons, List.not_mem_nil, or_false] at hz
      rcases hz with rfl | rfl | rfl | rfl
      · (try walk_at "wpt")
        refine ⟨by simp only [lb, l1, l2]; have : (Str.ofString "bore a 2 2\nlayer b 3").length = 20 := (by decide +kernel); omega, ?_⟩
        intro v
        refine read_unfit (bs := [⟨"a", 1, 2, [[("a", 1 + n)]]⟩, ⟨"a", 2, 2, [[("b", 3)]]⟩]) (ls := []) (more_txt (R := [headW ⟨"a", 2, 2, []⟩, layW ("b", 3)]) rfl (by decide +kernel) (by simp)) (all2 b0 (bo wk_a n2b n2b (by simp) (one wk_b n3b))) (fun l hl => by cases hl) (by simp [fldW, boW, blksW]) (by unfold fitF; simp) ?_
        (try walk_at "wpt")
        exact q _ P3
      · (try walk_at "wpt")
        refine ⟨by simp only [lb, l1, l2]; have : (Str.ofString "bore b 1 1\nlayer b 3").length = 20 := (by decide +kernel); omega, ?_⟩
        intro v
        refine read_unfit (bs := [⟨"a", 1, 2, [[("a", 1 + n)]]⟩, ⟨"b", 1, 1, [[("b", 3)]]⟩]) (ls := []) (more_txt (R := [headW ⟨"b", 1, 1, []⟩, layW ("b", 3)]) rfl (by decide +kernel) (by simp)) (all2 b0 (bo wk_b n1b n1b (by simp) (one wk_b n3b))) (fun l hl => by cases hl) (by simp [fldW, boW, blksW]) (by unfold fitF; simp) ?_
        (try walk_at "wpt")
        exact q _ P3
      · (try walk_at "wpt")
        refine ⟨by simp only [lb, l1, l2]; have : (Str.ofString "like a b 10").length = 11 := (by decide +kernel); omega, ?_⟩
        intro v
        refine read_unfit (bs := [⟨"a", 1, 2, [[("a", 1 + n)]]⟩]) (ls := [("a", "b", 10)]) (more_txt (R := [likW ("a", "b", 10)]) rfl (by decide +kernel) (by simp)) (all1 b0) (fun l hl => by rw [List.mem_singleton.mp hl]; exact ⟨wk_a, wk_b, n10b⟩) (by simp [fldW, boW, blksW]) (by unfold fitF; simp [lkFrom, lkOk]) ?_
        (try walk_at "wpt")
        exact q _ P3
      · (try walk_at "wpt")
        refine ⟨by simp only [lb, l1, l2]; have : (Str.ofString "fault\nlayer a 0").length = 15 := (by decide +kernel); omega, ?_⟩
        intro v
        refine read_unfit (bs := [⟨"a", 1, 2, [[("a", 1 + n)], [("a", 0)]]⟩]) (ls := []) (more_txt (R := [fltW, layW ("a", 0)]) rfl (by decide +kernel) (by simp)) (all1 (bo wk_a n1b n2b (by simp) fun k hk => ?_)) (fun l hl => by cases hl) (by simp [fldW, boW, blksW]) (by unfold fitF; simp [boFit, blFit, lyFit]) ?_
        · simp only [List.mem_cons, List.not_mem_nil, or_false] at hk
          rcases hk with rfl | rfl
          · exact one wk_a nb _ (List.mem_singleton.mpr rfl)
          · exact one wk_a n0b _ (List.mem_singleton.mpr rfl)
        (try walk_at "wpt")
        exact q _ P3
    · (try walk_at "wpt")
      exact q _ P3
  )
def T_law_told : TF := fun a Q => ∃ (way : Int) (bs : List Bo) (ls : List Lk3) (n : Int), a = [.d (.int way), .d (.tuple [.tuple (bs.map boD), .tuple (ls.map lkD)]), .d (.int n)] ∧ 0 ≤ n ∧ n < 10 ^ 59 ∧ FlSz bs ls ∧ fitF bs ls = false ∧ 0 ≤ way ∧ way < 5 ∧ ret Q (.o none (.lst (kindsT (decide (way < 2)) (decide (2 ≤ way ∧ way < 4)) (decide (way = 4)))))
theorem sc_law_told : FnScope ["way", "field", "number", "told", "e"] ["way", "field", "number"] (defScope (topS 42)) := ⟨rfl, rfl, rfl, by decide +kernel, rfl, by decide +kernel, by decide +kernel⟩
local macro_rules | `(tactic| walk_at "wpt") => `(tactic| simp (maxSteps := 1000000) only [true_and, ↓reduceIte, xHand, uIsP, zPlAppY, zPlAppX, xTupL, aoLast, aoCons, uLenPl, oTl0, ↓asOTx_d, ↓asOTx_o, yNil, yCons, zSeqY, zIfY, zRaiseY, zExY, zRetXY, zForY, yCallA, ↓retE_k, zRaise2, uXf, zTryL, ↓atY_cons, ↓ret_wd, ↓ret_wo, ↓ret_wt, kC, ↓asTr_t, ↓asDs_l, ↓asDs_n, ↓asLs_l, ↓asOT_l, ↓asOT_t, ↓asOT_ll, pVar, pIx, uPlV, ↓asOw_o, ↓mvS_d, ↓mvS_f, ↓mvS_o, zRetX, oX, ↓frS_d, ↓frS_f, ↓plainA_n, ↓plainA_d, ↓plainA_f, ↓ret_xd, ↓ret_xf, ↓ret_xo, ↓retA_xd, ↓retA_xf, ↓retA_xo, ↓ret_vd, ↓ret_vo, OT.areD, OT.isD, OT.toDs, OT.toD, OT.upd, OT.wch, OT.ch, ↓retA_kO, ↓retA_kD, ↓retA_kDo, ↓retA_kS, ↓asBs_m, ↓asSs_m, fAll, fStr, ↓fIntS_i, ↓fIntS_b, ↓fIntS_s, oLcN, fSortST, zSeqX, zIfX, zRaise, ↓bare_d, ↓bare_o, ↓bare_l, ↓bare_no, ↓bare_f, ↓bare_tr, ↓bare_g, ↓bare_P, ↓bare_dic, oDic0, zSetK, uDin, ↓asDic_d, zDput, fMin2S, fMax2S, uLenSet, oSplit, S.f.injEq, eq_self, ↓fAddA_i, ↓fAddA_s, ↓fAddA_t, uChain, oRep, fSortS, ↓slW_d, ↓slW_o, ↓slW_P, ↓slW_s, ↓hasS_d, ↓hasS_o, ↓hasS_f, ↓hasS_s, uV, uN, u1, o1, o2, oN, ↓fIn_l, ↓fIn_s, fCat, ↓fList_l, ↓fList_t, ↓fTup_l, ↓fTup_t, ↓lstR_l, ↓lstR_P, zM1, fApp, zIns, ↓slF_d, ↓slF_o, ↓slF_s, uVf, pNo, pSo, ↓fSl_s, ↓fSl_t, uSl, ↓scal_n, ↓scal_b, ↓scal_i, ↓scal_s, ↓kS_d, ↓ret_S, rNil, rD, rS, uCallA, ↓toS_d, ↓toS_f, ↓toS_s, ↓slS_0, ↓slS_s, ↓retA_d, ↓retA_o, ↓retA_O, ↓backL_n, ↓backL_s, ↓backL_d, ↓backL_f, ↓lok_n, ↓lok_s, ↓lok_d, ↓lok_f, ↓lent_n, ↓lent_s, ↓lent_d, ↓lent_f, bYes, oLc, ↓clr_n, ↓clr_c, ↓clr2_n, ↓clr2_c, ↓rest_n, ↓rest_c, ↓keep1_d, ↓keep1_o, ↓keep1_f, ↓keep1_no, ↓keep1_s, ↓asLL_l, oLL0, zLLn, zLLa, uLLlen, List.mem_cons, List.not_mem_nil, Nat.reduceEqDiff, eqv_list, eqv_tuple, eqv_none, ↓asI_i, ↓asB_b, ↓asS_s, ↓asL_l, ↓asT_t, ↓slD_0, ↓slD_s, ↓slO_0, ↓slO_s, ↓asR_l, ↓fAdd_i, ↓fAdd_s, ↓ixbo_0, ↓ixbo_1, ↓ixbo_2, ↓ixbo_3, ↓ixD_l, ↓ixD_t, ↓ixD_s, ↓arg2_2, ↓fLen1_l, ↓fLen1_t, ↓fLen1_s, ↓asC_c, ↓asQ_l, ↓asQ_t, ↓asQ_s, ↓kD_d, ↓kD_o, ↓kO_o, ↓fz_l, ↓fz_P, ↓fz_ll, ↓ret_d, ↓ret_o, ↓ret_O, ↓retL_d, ↓retL_o, ↓retL_O, ↓atD_0, ↓atD_1, ↓atD_2, ↓atD_3, ↓atD_b1, ↓atD_b2, ↓atD_b3, ↓ixP_30, ↓ixP_31, ↓ixP_32, ↓if_true, ↓if_false, zNext, zSeq, zSet, zSetO, zRet, zRetO, zRetP, zIf, zAsg, zPut, gN, gsNil, gsCons, gT, uVar, uC, uFz, u2, fI, fI0, fEq, uCB, wB, wNot, wAnd, wOr, uAnd, uOr, aNil, aCons, uTup, oLst, fIx, oVar, iSeq, iR1, uCall, oCall, uLend, oLend, shaped_iff, sh_non, sh_int, sh_bool, sh_str, eqv_int, eqv_str, eqv_bool, ixN_30, ixN_31, ixN_32, ixN_20, ixN_21, atI_0, atI_1, atI_2, atI_3, atI_b1, atI_b2, atI_b3, List.length_map, Int.reduceEq, forall_const, implies_true, and_assoc, sz_0, sz_1, sz_2, sz_3, sz_4, sz_5, sz_6, sz_7, sz_8, Bool.not_eq_true', beq_eq_false_iff_ne, beq_iff_eq, ne_eq, Bool.and_eq_true, Bool.or_eq_true, decide_eq_false_iff_not, not_false_eq_true, not_true_eq_false, Bool.not_true, Bool.not_false, isS_n, isS_b, isS_i, isS_s, isS_l, isS_t, ca_0, ca_1, ca_2, ca_3, ca_4, ca_5, ca_6, Int.reduceToNat, Int.toNat_natCast, Int.reducePow, Int.reduceMul, Int.reduceLT, Int.reduceLE, Int.reduceNeg, zFor, List.replicate, List.length_cons, List.length_nil, List.nil_append, List.cons_append, List.append_nil, List.map_cons, List.map_nil, List.set_cons_zero, List.set_cons_succ, List.getElem?_cons_zero, List.getElem?_cons_succ, Option.some.injEq, S.d.injEq, S.o.injEq, Res.lst.injEq, Res.lstP.injEq, PyData.int.injEq, PyData.str.injEq, PyData.bool.injEq, PyData.list.injEq, PyData.tuple.injEq, List.cons.injEq, reduceCtorEq, exists_eq_left', exists_eq_left, exists_eq_right, exists_eq_right', true_and, and_true, false_and, and_false, exists_false, false_or, or_false, exists_and_left, exists_and_right, exists_eq', exists_eq, exists_const, Bool.false_eq_true, ite_true, ite_false, decide_eq_true_eq, Nat.sub_self, Nat.zero_add, Nat.add_sub_cancel, Nat.reduceSub, Nat.reduceAdd, ne_Clash_NoText, ne_Clash_Unfit, ne_NoText_Clash, ne_NoText_Unfit, ne_Unfit_Clash, ne_Unfit_NoText])
local macro_rules | `(tactic| walk_at "st") => `(tactic| simp (maxSteps := 1000000) only [true_and, ↓reduceIte, xHand, uIsP, zPlAppY, zPlAppX, xTupL, aoLast, aoCons, uLenPl, oTl0, ↓asOTx_d, ↓asOTx_o, yNil, yCons, zSeqY, zIfY, zRaiseY, zExY, zRetXY, zForY, yCallA, ↓retE_k, zRaise2, uXf, zTryL, ↓atY_cons, ↓ret_wd, ↓ret_wo, ↓ret_wt, kC, ↓asTr_t, ↓asDs_l, ↓asDs_n, ↓asLs_l, ↓asOT_l, ↓asOT_t, ↓asOT_ll, pVar, pIx, uPlV, ↓asOw_o, ↓mvS_d, ↓mvS_f, ↓mvS_o, zRetX, oX, ↓frS_d, ↓frS_f, ↓plainA_n, ↓plainA_d, ↓plainA_f, ↓ret_xd, ↓ret_xf, ↓ret_xo, ↓retA_xd, ↓retA_xf, ↓retA_xo, ↓ret_vd, ↓ret_vo, OT.areD, OT.isD, OT.toDs, OT.toD, OT.upd, OT.wch, OT.ch, ↓retA_kO, ↓retA_kD, ↓retA_kDo, ↓retA_kS, ↓asBs_m, ↓asSs_m, fAll, fStr, ↓fIntS_i, ↓fIntS_b, ↓fIntS_s, oLcN, fSortST, zSeqX, zIfX, zRaise, ↓bare_d, ↓bare_o, ↓bare_l, ↓bare_no, ↓bare_f, ↓bare_tr, ↓bare_g, ↓bare_P, ↓bare_dic, oDic0, zSetK, uDin, ↓asDic_d, zDput, fMin2S, fMax2S, uLenSet, oSplit, S.f.injEq, eq_self, ↓fAddA_i, ↓fAddA_s, ↓fAddA_t, uChain, oRep, fSortS, ↓slW_d, ↓slW_o, ↓slW_P, ↓slW_s, ↓hasS_d, ↓hasS_o, ↓hasS_f, ↓hasS_s, uV, uN, u1, o1, o2, oN, ↓fIn_l, ↓fIn_s, fCat, ↓fList_l, ↓fList_t, ↓fTup_l, ↓fTup_t, ↓lstR_l, ↓lstR_P, zM1, fApp, zIns, ↓slF_d, ↓slF_o, ↓slF_s, uVf, pNo, pSo, ↓fSl_s, ↓fSl_t, uSl, ↓scal_n, ↓scal_b, ↓scal_i, ↓scal_s, ↓kS_d, ↓ret_S, rNil, rD, rS, uCallA, ↓toS_d, ↓toS_f, ↓toS_s, ↓slS_0, ↓slS_s, ↓retA_d, ↓retA_o, ↓retA_O, ↓backL_n, ↓backL_s, ↓backL_d, ↓backL_f, ↓lok_n, ↓lok_s, ↓lok_d, ↓lok_f, ↓lent_n, ↓lent_s, ↓lent_d, ↓lent_f, bYes, oLc, ↓clr_n, ↓clr_c, ↓clr2_n, ↓clr2_c, ↓rest_n, ↓rest_c, ↓keep1_d, ↓keep1_o, ↓keep1_f, ↓keep1_no, ↓keep1_s, ↓asLL_l, oLL0, zLLn, zLLa, uLLlen, List.mem_cons, List.not_mem_nil, Nat.reduceEqDiff, eqv_list, eqv_tuple, eqv_none, ↓asI_i, ↓asB_b, ↓asS_s, ↓asL_l, ↓asT_t, ↓slD_0, ↓slD_s, ↓slO_0, ↓slO_s, ↓asR_l, ↓fAdd_i, ↓fAdd_s, ↓ixbo_0, ↓ixbo_1, ↓ixbo_2, ↓ixbo_3, ↓ixD_l, ↓ixD_t, ↓ixD_s, ↓arg2_2, ↓fLen1_l, ↓fLen1_t, ↓fLen1_s, ↓asC_c, ↓asQ_l, ↓asQ_t, ↓asQ_s, ↓kD_d, ↓kD_o, ↓kO_o, ↓fz_l, ↓fz_P, ↓fz_ll, ↓ret_d, ↓ret_o, ↓ret_O, ↓retL_d, ↓retL_o, ↓retL_O, ↓atD_0, ↓atD_1, ↓atD_2, ↓atD_3, ↓atD_b1, ↓atD_b2, ↓atD_b3, ↓ixP_30, ↓ixP_31, ↓ixP_32, ↓if_true, ↓if_false, zNext, zSet, zSetO, zRet, zRetO, zRetP, zIf, zAsg, zPut, gN, gsNil, gsCons, gT, uVar, uC, uFz, u2, fI, fI0, fEq, uCB, wB, wNot, wAnd, wOr, uAnd, uOr, aNil, aCons, uTup, oLst, fIx, oVar, iSeq, iR1, uCall, oCall, uLend, oLend, shaped_iff, sh_non, sh_int, sh_bool, sh_str, eqv_int, eqv_str, eqv_bool, ixN_30, ixN_31, ixN_32, ixN_20, ixN_21, atI_0, atI_1, atI_2, atI_3, atI_b1, atI_b2, atI_b3, List.length_map, Int.reduceEq, forall_const, implies_true, and_assoc, sz_0, sz_1, sz_2, sz_3, sz_4, sz_5, sz_6, sz_7, sz_8, Bool.not_eq_true', beq_eq_false_iff_ne, beq_iff_eq, ne_eq, Bool.and_eq_true, Bool.or_eq_true, decide_eq_false_iff_not, not_false_eq_true, not_true_eq_false, Bool.not_true, Bool.not_false, isS_n, isS_b, isS_i, isS_s, isS_l, isS_t, ca_0, ca_1, ca_2, ca_3, ca_4, ca_5, ca_6, Int.reduceToNat, Int.toNat_natCast, Int.reducePow, Int.reduceMul, Int.reduceLT, Int.reduceLE, Int.reduceNeg, zFor, List.replicate, List.length_cons, List.length_nil, List.nil_append, List.cons_append, List.append_nil, List.map_cons, List.map_nil, List.set_cons_zero, List.set_cons_succ, List.getElem?_cons_zero, List.getElem?_cons_succ, Option.some.injEq, S.d.injEq, S.o.injEq, Res.lst.injEq, Res.lstP.injEq, PyData.int.injEq, PyData.str.injEq, PyData.bool.injEq, PyData.list.injEq, PyData.tuple.injEq, List.cons.injEq, reduceCtorEq, exists_eq_left', exists_eq_left, exists_eq_right, exists_eq_right', true_and, and_true, false_and, and_false, exists_false, false_or, or_false, exists_and_left, exists_and_right, exists_eq', exists_eq, exists_const, Bool.false_eq_true, ite_true, ite_false, decide_eq_true_eq, Nat.sub_self, Nat.zero_add, Nat.add_sub_cancel, Nat.reduceSub, Nat.reduceAdd, ne_Clash_NoText, ne_Clash_Unfit, ne_NoText_Clash, ne_NoText_Unfit, ne_Unfit_Clash, ne_Unfit_NoText])
theorem c_law_told {P : Program} {w : World} {K : PySem.W.Frag} {mg : Str → Option Value} {base : Heap} (hb : Bi K mg) (D : Df K mg "_law_told" (topS 42) ["way", "field", "number"]) (C__law_kinds : CalE P w K mg base "_law_kinds" 1 ["e"] T_law_kinds) (C__law_deed : CalY P w K mg base "_law_deed" 7 ["way", "field", "number"] T_law_deed) : Cal P w K mg base "_law_told" 8 ["way", "field", "number"] T_law_told := (by
  obtain ⟨f, fd, F, hm, hB⟩ := D
  refine ⟨f, fd, fn_d (k := 7) F sc_law_told ?hT (fun cdv A outer s H E hr => (q_cons (s_setO (j := 3) sc_law_told.nd (o_lst a_nil))
 (q_cons (s_tryL (i := 4) rfl rfl sc_law_told.nd hb.cls_BoreError (fun W pn xe tk po => (qy_one (sy_expr (y_callA tk C__law_deed (hr.mono (by decide)) (r_d (dv 0) (r_d (dv 1) (r_d (dv 2) r_nil))))))) (SuAll.cons hb.exm_NoText_BoreError (fun a d oe pn hz hfl => (q_one (s_setO (j := 3) sc_law_told.nd (o_x (x_hand 4 C__law_kinds (hr.mono (by decide)) hz hfl))))) (SuAll.cons hb.exm_Unfit_BoreError (fun a d oe pn hz hfl => (q_one (s_setO (j := 3) sc_law_told.nd (o_x (x_hand 4 C__law_kinds (hr.mono (by decide)) hz hfl))))) (SuAll.cons hb.exm_Clash_BoreError (fun a d oe pn hz hfl => (q_one (s_setO (j := 3) sc_law_told.nd (o_x (x_hand 4 C__law_kinds (hr.mono (by decide)) hz hfl))))) SuAll.nil))))
 (q_one (s_retO (o_var 3)))))), hm, F.kp, hB⟩
  case hT =>
    intro a Q h
    obtain ⟨way, bs, ls, n, rfl, n0, n1, sz, ft, w0, w5, q⟩ := h
    refine ⟨rfl, ?_⟩
    have hsz := sizeLine_eq
    (try walk_at "wpt")
    intro v
    refine ⟨way, bs, ls, n, rfl, n0, n1, sz, ft, ?_⟩
    have c5 : way = 0 ∨ way = 1 ∨ way = 2 ∨ way = 3 ∨ way = 4 := by omega
    rcases c5 with rfl | rfl | rfl | rfl | rfl
    · refine .inl ⟨.inl rfl, ?_⟩
      (try walk_at "wpt")
      refine fun a d => ⟨_, rfl, _, rfl, .inl ⟨rfl, ?_⟩⟩
      (try walk_at "wpt")
      exact q _
    · refine .inl ⟨.inr rfl, ?_⟩
      (try walk_at "wpt")
      refine fun a d => ⟨_, rfl, _, rfl, .inl ⟨rfl, ?_⟩⟩
      (try walk_at "wpt")
      exact q _
    · refine .inr (.inl ⟨.inl rfl, ?_⟩)
      (try walk_at "wpt")
      refine fun a d => ⟨_, rfl, _, rfl, .inr (.inl ⟨rfl, ?_⟩)⟩
      (try walk_at "wpt")
      exact q _
    · refine .inr (.inl ⟨.inr rfl, ?_⟩)
      (try walk_at "wpt")
      refine fun a d => ⟨_, rfl, _, rfl, .inr (.inl ⟨rfl, ?_⟩)⟩
      (try walk_at "wpt")
      exact q _
    · refine .inr (.inr ⟨rfl, ?_⟩)
      (try walk_at "wpt")
      refine fun a d => ⟨_, rfl, _, rfl, .inr (.inr ⟨rfl, ?_⟩)⟩
      (try walk_at "wpt")
      exact q _
  )
def T_law_kept : TF := fun a Q => ∃ (n : Int), a = [.d (.int n)] ∧ ret Q (.d (.bool true))
theorem sc_law_kept : FnScope ["number", "told", "e"] ["number"] (defScope (topS 43)) := ⟨rfl, rfl, rfl, by decide +kernel, rfl, by decide +kernel, by decide +kernel⟩
local macro_rules | `(tactic| walk_at "wpt") => `(tactic| simp (maxSteps := 1000000) only [true_and, ↓reduceIte, xHand, uIsP, zPlAppY, zPlAppX, xTupL, aoLast, aoCons, uLenPl, oTl0, ↓asOTx_d, ↓asOTx_o, yNil, yCons, zSeqY, zIfY, zRaiseY, zExY, zRetXY, zForY, yCallA, ↓retE_k, zRaise2, uXf, zTryL, ↓atY_cons, ↓ret_wd, ↓ret_wo, ↓ret_wt, kC, ↓asTr_t, ↓asDs_l, ↓asDs_n, ↓asLs_l, ↓asOT_l, ↓asOT_t, ↓asOT_ll, pVar, pIx, uPlV, ↓asOw_o, ↓mvS_d, ↓mvS_f, ↓mvS_o, zRetX, oX, ↓frS_d, ↓frS_f, ↓plainA_n, ↓plainA_d, ↓plainA_f, ↓ret_xd, ↓ret_xf, ↓ret_xo, ↓retA_xd, ↓retA_xf, ↓retA_xo, ↓ret_vd, ↓ret_vo, OT.areD, OT.isD, OT.toDs, OT.toD, OT.upd, OT.wch, OT.ch, ↓retA_kO, ↓retA_kD, ↓retA_kDo, ↓retA_kS, ↓asBs_m, ↓asSs_m, fAll, fStr, ↓fIntS_i, ↓fIntS_b, ↓fIntS_s, oLcN, fSortST, zSeqX, zIfX, zRaise, ↓bare_d, ↓bare_o, ↓bare_l, ↓bare_no, ↓bare_f, ↓bare_tr, ↓bare_g, ↓bare_P, ↓bare_dic, oDic0, zSetK, uDin, ↓asDic_d, zDput, fMin2S, fMax2S, uLenSet, oSplit, S.f.injEq, eq_self, ↓fAddA_i, ↓fAddA_s, ↓fAddA_t, uChain, oRep, fSortS, ↓slW_d, ↓slW_o, ↓slW_P, ↓slW_s, ↓hasS_d, ↓hasS_o, ↓hasS_f, ↓hasS_s, uV, uN, u1, o1, o2, oN, ↓fIn_l, ↓fIn_s, fCat, ↓fList_l, ↓fList_t, ↓fTup_l, ↓fTup_t, ↓lstR_l, ↓lstR_P, zM1, fApp, zIns, ↓slF_d, ↓slF_o, ↓slF_s, uVf, pNo, pSo, ↓fSl_s, ↓fSl_t, uSl, ↓scal_n, ↓scal_b, ↓scal_i, ↓scal_s, ↓kS_d, ↓ret_S, rNil, rD, rS, uCallA, ↓toS_d, ↓toS_f, ↓toS_s, ↓slS_0, ↓slS_s, ↓retA_d, ↓retA_o, ↓retA_O, ↓backL_n, ↓backL_s, ↓backL_d, ↓backL_f, ↓lok_n, ↓lok_s, ↓lok_d, ↓lok_f, ↓lent_n, ↓lent_s, ↓lent_d, ↓lent_f, bYes, oLc, ↓clr_n, ↓clr_c, ↓clr2_n, ↓clr2_c, ↓rest_n, ↓rest_c, ↓keep1_d, ↓keep1_o, ↓keep1_f, ↓keep1_no, ↓keep1_s, ↓asLL_l, oLL0, zLLn, zLLa, uLLlen, List.mem_cons, List.not_mem_nil, Nat.reduceEqDiff, eqv_list, eqv_tuple, eqv_none, ↓asI_i, ↓asB_b, ↓asS_s, ↓asL_l, ↓asT_t, ↓slD_0, ↓slD_s, ↓slO_0, ↓slO_s, ↓asR_l, ↓fAdd_i, ↓fAdd_s, ↓ixbo_0, ↓ixbo_1, ↓ixbo_2, ↓ixbo_3, ↓ixD_l, ↓ixD_t, ↓ixD_s, ↓arg2_2, ↓fLen1_l, ↓fLen1_t, ↓fLen1_s, ↓asC_c, ↓asQ_l, ↓asQ_t, ↓asQ_s, ↓kD_d, ↓kD_o, ↓kO_o, ↓fz_l, ↓fz_P, ↓fz_ll, ↓ret_d, ↓ret_o, ↓ret_O, ↓retL_d, ↓retL_o, ↓retL_O, ↓atD_0, ↓atD_1, ↓atD_2, ↓atD_3, ↓atD_b1, ↓atD_b2, ↓atD_b3, ↓ixP_30, ↓ixP_31, ↓ixP_32, ↓if_true, ↓if_false, zNext, zSeq, zSet, zSetO, zRet, zRetO, zRetP, zIf, zAsg, zPut, gN, gsNil, gsCons, gT, uVar, uC, uFz, u2, fI, fI0, fEq, uCB, wB, wNot, wAnd, wOr, uAnd, uOr, aNil, aCons, uTup, oLst, fIx, oVar, iSeq, iR1, uCall, oCall, uLend, oLend, shaped_iff, sh_non, sh_int, sh_bool, sh_str, eqv_int, eqv_str, eqv_bool, ixN_30, ixN_31, ixN_32, ixN_20, ixN_21, atI_0, atI_1, atI_2, atI_3, atI_b1, atI_b2, atI_b3, List.length_map, Int.reduceEq, forall_const, implies_true, and_assoc, sz_0, sz_1, sz_2, sz_3, sz_4, sz_5, sz_6, sz_7, sz_8, Bool.not_eq_true', beq_eq_false_iff_ne, beq_iff_eq, ne_eq, Bool.and_eq_true, Bool.or_eq_true, decide_eq_false_iff_not, not_false_eq_true, not_true_eq_false, Bool.not_true, Bool.not_false, isS_n, isS_b, isS_i, isS_s, isS_l, isS_t, ca_0, ca_1, ca_2, ca_3, ca_4, ca_5, ca_6, Int.reduceToNat, Int.toNat_natCast, Int.reducePow, Int.reduceMul, Int.reduceLT, Int.reduceLE, Int.reduceNeg, zFor, List.replicate, List.length_cons, List.length_nil, List.nil_append, List.cons_append, List.append_nil, List.map_cons, List.map_nil, List.set_cons_zero, List.set_cons_succ, List.getElem?_cons_zero, List.getElem?_cons_succ, Option.some.injEq, S.d.injEq, S.o.injEq, Res.lst.injEq, Res.lstP.injEq, PyData.int.injEq, PyData.str.injEq, PyData.bool.injEq, PyData.list.injEq, PyData.tuple.injEq, List.cons.injEq, reduceCtorEq, exists_eq_left', exists_eq_left, exists_eq_right, exists_eq_right', true_and, and_true, false_and, and_false, exists_false, false_or, or_false, exists_and_left, exists_and_right, exists_eq', exists_eq, exists_const, Bool.false_eq_true, ite_true, ite_false, decide_eq_true_eq, Nat.sub_self, Nat.zero_add, Nat.add_sub_cancel, Nat.reduceSub, Nat.reduceAdd, ne_Clash_NoText, ne_Clash_Unfit, ne_NoText_Clash, ne_NoText_Unfit, ne_Unfit_Clash, ne_Unfit_NoText])
local macro_rules | `(tactic| walk_at "st") => `(tactic| simp (maxSteps := 1000000) only [true_and, ↓reduceIte, xHand, uIsP, zPlAppY, zPlAppX, xTupL, aoLast, aoCons, uLenPl, oTl0, ↓asOTx_d, ↓asOTx_o, yNil, yCons, zSeqY, zIfY, zRaiseY, zExY, zRetXY, zForY, yCallA, ↓retE_k, zRaise2, uXf, zTryL, ↓atY_cons, ↓ret_wd, ↓ret_wo, ↓ret_wt, kC, ↓asTr_t, ↓asDs_l, ↓asDs_n, ↓asLs_l, ↓asOT_l, ↓asOT_t, ↓asOT_ll, pVar, pIx, uPlV, ↓asOw_o, ↓mvS_d, ↓mvS_f, ↓mvS_o, zRetX, oX, ↓frS_d, ↓frS_f, ↓plainA_n, ↓plainA_d, ↓plainA_f, ↓ret_xd, ↓ret_xf, ↓ret_xo, ↓retA_xd, ↓retA_xf, ↓retA_xo, ↓ret_vd, ↓ret_vo, OT.areD, OT.isD, OT.toDs, OT.toD, OT.upd, OT.wch, OT.ch, ↓retA_kO, ↓retA_kD, ↓retA_kDo, ↓retA_kS, ↓asBs_m, ↓asSs_m, fAll, fStr, ↓fIntS_i, ↓fIntS_b, ↓fIntS_s, oLcN, fSortST, zSeqX, zIfX, zRaise, ↓bare_d, ↓bare_o, ↓bare_l, ↓bare_no, ↓bare_f, ↓bare_tr, ↓bare_g, ↓bare_P, ↓bare_dic, oDic0, zSetK, uDin, ↓asDic_d, zDput, fMin2S, fMax2S, uLenSet, oSplit, S.f.injEq, eq_self, ↓fAddA_i, ↓fAddA_s, ↓fAddA_t, uChain, oRep, fSortS, ↓slW_d, ↓slW_o, ↓slW_P, ↓slW_s, ↓hasS_d, ↓hasS_o, ↓hasS_f, ↓hasS_s, uV, uN, u1, o1, o2, oN, ↓fIn_l, ↓fIn_s, fCat, ↓fList_l, ↓fList_t, ↓fTup_l, ↓fTup_t, ↓lstR_l, ↓lstR_P, zM1, fApp, zIns, ↓slF_d, ↓slF_o, ↓slF_s, uVf, pNo, pSo, ↓fSl_s, ↓fSl_t, uSl, ↓scal_n, ↓scal_b, ↓scal_i, ↓scal_s, ↓kS_d, ↓ret_S, rNil, rD, rS, uCallA, ↓toS_d, ↓toS_f, ↓toS_s, ↓slS_0, ↓slS_s, ↓retA_d, ↓retA_o, ↓retA_O, ↓backL_n, ↓backL_s, ↓backL_d, ↓backL_f, ↓lok_n, ↓lok_s, ↓lok_d, ↓lok_f, ↓lent_n, ↓lent_s, ↓lent_d, ↓lent_f, bYes, oLc, ↓clr_n, ↓clr_c, ↓clr2_n, ↓clr2_c, ↓rest_n, ↓rest_c, ↓keep1_d, ↓keep1_o, ↓keep1_f, ↓keep1_no, ↓keep1_s, ↓asLL_l, oLL0, zLLn, zLLa, uLLlen, List.mem_cons, List.not_mem_nil, Nat.reduceEqDiff, eqv_list, eqv_tuple, eqv_none, ↓asI_i, ↓asB_b, ↓asS_s, ↓asL_l, ↓asT_t, ↓slD_0, ↓slD_s, ↓slO_0, ↓slO_s, ↓asR_l, ↓fAdd_i, ↓fAdd_s, ↓ixbo_0, ↓ixbo_1, ↓ixbo_2, ↓ixbo_3, ↓ixD_l, ↓ixD_t, ↓ixD_s, ↓arg2_2, ↓fLen1_l, ↓fLen1_t, ↓fLen1_s, ↓asC_c, ↓asQ_l, ↓asQ_t, ↓asQ_s, ↓kD_d, ↓kD_o, ↓kO_o, ↓fz_l, ↓fz_P, ↓fz_ll, ↓ret_d, ↓ret_o, ↓ret_O, ↓retL_d, ↓retL_o, ↓retL_O, ↓atD_0, ↓atD_1, ↓atD_2, ↓atD_3, ↓atD_b1, ↓atD_b2, ↓atD_b3, ↓ixP_30, ↓ixP_31, ↓ixP_32, ↓if_true, ↓if_false, zNext, zSet, zSetO, zRet, zRetO, zRetP, zIf, zAsg, zPut, gN, gsNil, gsCons, gT, uVar, uC, uFz, u2, fI, fI0, fEq, uCB, wB, wNot, wAnd, wOr, uAnd, uOr, aNil, aCons, uTup, oLst, fIx, oVar, iSeq, iR1, uCall, oCall, uLend, oLend, shaped_iff, sh_non, sh_int, sh_bool, sh_str, eqv_int, eqv_str, eqv_bool, ixN_30, ixN_31, ixN_32, ixN_20, ixN_21, atI_0, atI_1, atI_2, atI_3, atI_b1, atI_b2, atI_b3, List.length_map, Int.reduceEq, forall_const, implies_true, and_assoc, sz_0, sz_1, sz_2, sz_3, sz_4, sz_5, sz_6, sz_7, sz_8, Bool.not_eq_true', beq_eq_false_iff_ne, beq_iff_eq, ne_eq, Bool.and_eq_true, Bool.or_eq_true, decide_eq_false_iff_not, not_false_eq_true, not_true_eq_false, Bool.not_true, Bool.not_false, isS_n, isS_b, isS_i, isS_s, isS_l, isS_t, ca_0, ca_1, ca_2, ca_3, ca_4, ca_5, ca_6, Int.reduceToNat, Int.toNat_natCast, Int.reducePow, Int.reduceMul, Int.reduceLT, Int.reduceLE, Int.reduceNeg, zFor, List.replicate, List.length_cons, List.length_nil, List.nil_append, List.cons_append, List.append_nil, List.map_cons, List.map_nil, List.set_cons_zero, List.set_cons_succ, List.getElem?_cons_zero, List.getElem?_cons_succ, Option.some.injEq, S.d.injEq, S.o.injEq, Res.lst.injEq, Res.lstP.injEq, PyData.int.injEq, PyData.str.injEq, PyData.bool.injEq, PyData.list.injEq, PyData.tuple.injEq, List.cons.injEq, reduceCtorEq, exists_eq_left', exists_eq_left, exists_eq_right, exists_eq_right', true_and, and_true, false_and, and_false, exists_false, false_or, or_false, exists_and_left, exists_and_right, exists_eq', exists_eq, exists_const, Bool.false_eq_true, ite_true, ite_false, decide_eq_true_eq, Nat.sub_self, Nat.zero_add, Nat.add_sub_cancel, Nat.reduceSub, Nat.reduceAdd, ne_Clash_NoText, ne_Clash_Unfit, ne_NoText_Clash, ne_NoText_Unfit, ne_Unfit_Clash, ne_Unfit_NoText])
theorem c_law_kept {P : Program} {w : World} {K : PySem.W.Frag} {mg : Str → Option Value} {base : Heap} (hb : Bi K mg) (D : Df K mg "_law_kept" (topS 43) ["number"]) (C_Clash___init__ : InEx P w K mg base "Clash" "numbers" "ring" 1) : Cal P w K mg base "_law_kept" 3 ["number"] T_law_kept := (by
  obtain ⟨f, fd, F, hm, hB⟩ := D
  refine ⟨f, fd, fn_d (k := 2) F sc_law_kept ?hT (fun cdv A outer s H E hr => (q_cons (s_set (j := 1) sc_law_kept.nd d_bl)
 (q_cons (s_tryL (i := 2) rfl rfl sc_law_kept.nd hb.cls_Clash (fun W pn xe tk po => (qy_one (s_raiseI rfl tk hb.ex2_Clash hb.init_Clash C_Clash___init__ (hr.mono (by decide)) hb.cls_Clash (ay_cons (ey_e (d_fz (o_lst (a_cons d_int (a_cons (dv 0) a_nil))))) (ay_cons (ey_e (d_fz (o_lst (a_cons (d_tup (a_cons d_str (a_cons d_str (a_cons (dv 0) a_nil)))) a_nil)))) ay_nil))))) (SuAll.cons hb.exm_Clash_Clash (fun a d oe pn hz hfl => (q_one (s_set (j := 1) sc_law_kept.nd (d_and (d_eq hr.units (d_xf 2 hb.xf_Clash hb.no_Clash_numbers hz hfl) (d_fz (o_lst (a_cons d_int (a_cons (dv 0) a_nil))))) (d_one (d_eq hr.units (d_xf 2 hb.xf_Clash hb.no_Clash_ring hz hfl) (d_fz (o_lst (a_cons (d_tup (a_cons d_str (a_cons d_str (a_cons (dv 0) a_nil)))) a_nil))))))))) SuAll.nil))
 (q_one (s_ret (dv 1)))))), hm, F.kp, hB⟩
  case hT =>
    intro a Q h
    obtain ⟨n, rfl, q⟩ := h
    refine ⟨rfl, ?_⟩
    have hsz := sizeLine_eq
    have pn : Pl 1 (.list [.int 1, .int n]) := pl_list fun d hd => by
      simp at hd; rcases hd with rfl | rfl <;> exact pl_int
    have pr : Pl 2 (.list [.tuple [.str "row", .str "a", .int n]]) := pl_list fun d hd => by
      obtain rfl := List.mem_singleton.mp hd
      exact pl_t3 (pl_str (by decide +kernel)) (pl_str (by decide +kernel)) pl_int
    (try walk_at "wpt")
    refine fun a d => ⟨_, rfl, _, rfl, pn.sh, pn.sh, ?_⟩
    rw [pn.eqv pn, if_pos (decide_eq_true rfl)]
    refine ⟨_, rfl, _, rfl, pr.sh, pr.sh, ?_⟩
    rw [pr.eqv pr, decide_eq_true rfl]
    exact q _
  )
theorem lkFrom_app : ∀ {a b seen : List Lk3}, lkFrom seen (a ++ b) = (lkFrom seen a && lkFrom (seen ++ a) b)
  | [], b, seen => by rw [List.append_nil]; rfl
  | l :: a, b, seen => by
    rw [List.cons_append, lkFrom_cons, lkFrom_cons, lkFrom_app, Bool.and_assoc, List.append_assoc]; rfl
theorem fit_odd {bs : List Bo} {ls : List Lk3} {x y : Str} : fitF bs (ls ++ [(x, y, 10)]) = false := (by
  unfold fitF
  rw [lkFrom_app]
  simp [lkFrom, lkOk]
  )
theorem fit_two {bs : List Bo} {b : Bo} {ls : List Lk3} (h : b ∈ bs) : fitF (bs ++ [b]) ls = false := (by
  unfold fitF
  have : ¬ ((bs ++ [b]).map Bo.nm).Nodup := fun nd => by
    rw [List.map_append] at nd
    exact (List.nodup_append.mp nd).2.2 _ (List.mem_map_of_mem (f := Bo.nm) h) _ (List.mem_singleton.mpr rfl) rfl
  rw [decide_eq_false this]
  simp
  )
theorem fld_flsz {nm ms : List Str} {bs : List Bo} {ls : List Lk3} (hF : FieldTo nm ms bs ls) : FlSz bs ls := (by
  obtain ⟨hb, hl⟩ := fld_rd hF
  refine ⟨by have := hF.few; omega, fun b hbm => ?_, by have := hF.ll; omega, fun l hlm => ?_⟩
  · have h := hb b hbm
    have h2 := (hF.bo.each b hbm).bl
    have hf := flat_few h2.each
    have h3 := h2.few
    refine ⟨by have := word_len h.nm; omega, by omega, fun k hk => ⟨?_, fun l hl => by have := word_len ((h.bl k hk).2 l hl).1; omega⟩⟩
    have := List.Sublist.length_le (List.sublist_flatten_of_mem hk)
    omega
  · obtain ⟨h1, h2, _⟩ := hl l hlm
    exact ⟨by have := word_len h1; omega, by have := word_len h2; omega⟩
  )
theorem sh_bls (l : List Bool) : Sh 64 (.list (l.map PyData.bool)) := sh_list.mpr fun d hd => by
  obtain ⟨b, _, rfl⟩ := List.mem_map.mp hd
  exact sh_bool.mpr trivial
theorem eqv_bls : ∀ l : List Bool, PyData.eqvAll (l.map PyData.bool) (l.map PyData.bool) = true
  | [] => by simp [PyData.eqvAll]
  | b :: l => by
    rw [List.map_cons, eqvAll_cons, eqv_bls l, eqv_bool]
    simp
theorem eqv_blsL (l : List Bool) : PyData.eqv (.list (l.map PyData.bool)) (.list (l.map PyData.bool)) = true := by rw [eqv_list, eqv_bls]
def T_law : TF := fun a Q => ∃ ns : List Int, a = [.d (.list (ns.map PyData.int))] ∧ ret Q (.d (.bool true))
theorem law_ok : TLaw T_law := fun ns Q _ q => ⟨ns, rfl, q⟩
theorem sc_law : FnScope ["script", "feed", "number", "bent", "way", "holes", "likes", "due"] ["script"] (defScope (topS 44)) := ⟨rfl, rfl, rfl, by decide +kernel, rfl, by decide +kernel, by decide +kernel⟩
local macro_rules | `(tactic| walk_at "wpt") => `(tactic| simp (maxSteps := 1000000) only [↓TE_law_next, ↓TE_law_great, ↓TE_law_feed, ↓TE_law_field, ↓reduceIte, xHand, uIsP, zPlAppY, zPlAppX, xTupL, aoLast, aoCons, uLenPl, oTl0, ↓asOTx_d, ↓asOTx_o, yNil, yCons, zSeqY, zIfY, zRaiseY, zExY, zRetXY, zForY, yCallA, ↓retE_k, zRaise2, uXf, zTryL, ↓atY_cons, ↓ret_wd, ↓ret_wo, ↓ret_wt, kC, ↓asTr_t, ↓asDs_l, ↓asDs_n, ↓asLs_l, ↓asOT_l, ↓asOT_t, ↓asOT_ll, pVar, pIx, uPlV, ↓asOw_o, ↓mvS_d, ↓mvS_f, ↓mvS_o, zRetX, oX, ↓frS_d, ↓frS_f, ↓plainA_n, ↓plainA_d, ↓plainA_f, ↓ret_xd, ↓ret_xf, ↓ret_xo, ↓retA_xd, ↓retA_xf, ↓retA_xo, ↓ret_vd, ↓ret_vo, OT.areD, OT.isD, OT.toDs, OT.toD, OT.upd, OT.wch, OT.ch, ↓retA_kO, ↓retA_kD, ↓retA_kDo, ↓retA_kS, ↓asBs_m, ↓asSs_m, fAll, fStr, ↓fIntS_i, ↓fIntS_b, ↓fIntS_s, oLcN, fSortST, zSeqX, zIfX, zRaise, ↓bare_d, ↓bare_o, ↓bare_l, ↓bare_no, ↓bare_f, ↓bare_tr, ↓bare_g, ↓bare_P, ↓bare_dic, oDic0, zSetK, uDin, ↓asDic_d, zDput, fMin2S, fMax2S, uLenSet, oSplit, S.f.injEq, eq_self, ↓fAddA_i, ↓fAddA_s, ↓fAddA_t, uChain, oRep, fSortS, ↓slW_d, ↓slW_o, ↓slW_P, ↓slW_s, ↓hasS_d, ↓hasS_o, ↓hasS_f, ↓hasS_s, uV, uN, u1, o1, o2, oN, ↓fIn_l, ↓fIn_s, fCat, ↓fList_l, ↓fList_t, ↓fTup_l, ↓fTup_t, ↓lstR_l, ↓lstR_P, zM1, fApp, zIns, ↓slF_d, ↓slF_o, ↓slF_s, uVf, pNo, pSo, ↓fSl_s, ↓fSl_t, uSl, ↓scal_n, ↓scal_b, ↓scal_i, ↓scal_s, ↓kS_d, ↓ret_S, rNil, rD, rS, uCallA, ↓toS_d, ↓toS_f, ↓toS_s, ↓slS_0, ↓slS_s, ↓retA_d, ↓retA_o, ↓retA_O, ↓backL_n, ↓backL_s, ↓backL_d, ↓backL_f, ↓lok_n, ↓lok_s, ↓lok_d, ↓lok_f, ↓lent_n, ↓lent_s, ↓lent_d, ↓lent_f, bYes, oLc, ↓clr_n, ↓clr_c, ↓clr2_n, ↓clr2_c, ↓rest_n, ↓rest_c, ↓keep1_d, ↓keep1_o, ↓keep1_f, ↓keep1_no, ↓keep1_s, ↓asLL_l, oLL0, zLLn, zLLa, uLLlen, List.mem_cons, List.not_mem_nil, Nat.reduceEqDiff, eqv_list, eqv_tuple, eqv_none, ↓asI_i, ↓asB_b, ↓asS_s, ↓asL_l, ↓asT_t, ↓slD_0, ↓slD_s, ↓slO_0, ↓slO_s, ↓asR_l, ↓fAdd_i, ↓fAdd_s, ↓ixbo_0, ↓ixbo_1, ↓ixbo_2, ↓ixbo_3, ↓ixD_l, ↓ixD_t, ↓ixD_s, ↓arg2_2, ↓fLen1_l, ↓fLen1_t, ↓fLen1_s, ↓asC_c, ↓asQ_l, ↓asQ_t, ↓asQ_s, ↓kD_d, ↓kD_o, ↓kO_o, ↓fz_l, ↓fz_P, ↓fz_ll, ↓ret_d, ↓ret_o, ↓ret_O, ↓retL_d, ↓retL_o, ↓retL_O, ↓atD_0, ↓atD_1, ↓atD_2, ↓atD_3, ↓atD_b1, ↓atD_b2, ↓atD_b3, ↓ixP_30, ↓ixP_31, ↓ixP_32, ↓if_true, ↓if_false, zNext, zSeq, zSet, zSetO, zRet, zRetO, zRetP, zIf, zAsg, zPut, gN, gsNil, gsCons, gT, uVar, uC, uFz, u2, fI, fI0, fEq, uCB, wB, wNot, wAnd, wOr, uAnd, uOr, aNil, aCons, uTup, oLst, fIx, oVar, iSeq, iR1, uCall, oCall, uLend, oLend, shaped_iff, sh_non, sh_int, sh_bool, sh_str, eqv_int, eqv_str, eqv_bool, ixN_30, ixN_31, ixN_32, ixN_20, ixN_21, atI_0, atI_1, atI_2, atI_3, atI_b1, atI_b2, atI_b3, List.length_map, Int.reduceEq, forall_const, implies_true, and_assoc, sz_0, sz_1, sz_2, sz_3, sz_4, sz_5, sz_6, sz_7, sz_8, Bool.not_eq_true', beq_eq_false_iff_ne, beq_iff_eq, ne_eq, Bool.and_eq_true, Bool.or_eq_true, decide_eq_false_iff_not, not_false_eq_true, not_true_eq_false, Bool.not_true, Bool.not_false, isS_n, isS_b, isS_i, isS_s, isS_l, isS_t, ca_0, ca_1, ca_2, ca_3, ca_4, ca_5, ca_6, Int.reduceToNat, Int.toNat_natCast, Int.reducePow, Int.reduceMul, Int.reduceLT, Int.reduceLE, Int.reduceNeg, zFor, List.replicate, List.length_cons, List.length_nil, List.nil_append, List.cons_append, List.append_nil, List.map_cons, List.map_nil, List.set_cons_zero, List.set_cons_succ, List.getElem?_cons_zero, List.getElem?_cons_succ, Option.some.injEq, S.d.injEq, S.o.injEq, Res.lst.injEq, Res.lstP.injEq, PyData.int.injEq, PyData.str.injEq, PyData.bool.injEq, PyData.list.injEq, PyData.tuple.injEq, List.cons.injEq, reduceCtorEq, exists_eq_left', exists_eq_left, exists_eq_right, exists_eq_right', true_and, and_true, false_and, and_false, exists_false, false_or, or_false, exists_and_left, exists_and_right, exists_eq', exists_eq, exists_const, Bool.false_eq_true, ite_true, ite_false, decide_eq_true_eq, Nat.sub_self, Nat.zero_add, Nat.add_sub_cancel, Nat.reduceSub, Nat.reduceAdd, ne_Clash_NoText, ne_Clash_Unfit, ne_NoText_Clash, ne_NoText_Unfit, ne_Unfit_Clash, ne_Unfit_NoText])
local macro_rules | `(tactic| walk_at "st") => `(tactic| simp (maxSteps := 1000000) only [↓TE_law_next, ↓TE_law_great, ↓TE_law_feed, ↓TE_law_field, ↓reduceIte, xHand, uIsP, zPlAppY, zPlAppX, xTupL, aoLast, aoCons, uLenPl, oTl0, ↓asOTx_d, ↓asOTx_o, yNil, yCons, zSeqY, zIfY, zRaiseY, zExY, zRetXY, zForY, yCallA, ↓retE_k, zRaise2, uXf, zTryL, ↓atY_cons, ↓ret_wd, ↓ret_wo, ↓ret_wt, kC, ↓asTr_t, ↓asDs_l, ↓asDs_n, ↓asLs_l, ↓asOT_l, ↓asOT_t, ↓asOT_ll, pVar, pIx, uPlV, ↓asOw_o, ↓mvS_d, ↓mvS_f, ↓mvS_o, zRetX, oX, ↓frS_d, ↓frS_f, ↓plainA_n, ↓plainA_d, ↓plainA_f, ↓ret_xd, ↓ret_xf, ↓ret_xo, ↓retA_xd, ↓retA_xf, ↓retA_xo, ↓ret_vd, ↓ret_vo, OT.areD, OT.isD, OT.toDs, OT.toD, OT.upd, OT.wch, OT.ch, ↓retA_kO, ↓retA_kD, ↓retA_kDo, ↓retA_kS, ↓asBs_m, ↓asSs_m, fAll, fStr, ↓fIntS_i, ↓fIntS_b, ↓fIntS_s, oLcN, fSortST, zSeqX, zIfX, zRaise, ↓bare_d, ↓bare_o, ↓bare_l, ↓bare_no, ↓bare_f, ↓bare_tr, ↓bare_g, ↓bare_P, ↓bare_dic, oDic0, zSetK, uDin, ↓asDic_d, zDput, fMin2S, fMax2S, uLenSet, oSplit, S.f.injEq, eq_self, ↓fAddA_i, ↓fAddA_s, ↓fAddA_t, uChain, oRep, fSortS, ↓slW_d, ↓slW_o, ↓slW_P, ↓slW_s, ↓hasS_d, ↓hasS_o, ↓hasS_f, ↓hasS_s, uV, uN, u1, o1, o2, oN, ↓fIn_l, ↓fIn_s, fCat, ↓fList_l, ↓fList_t, ↓fTup_l, ↓fTup_t, ↓lstR_l, ↓lstR_P, zM1, fApp, zIns, ↓slF_d, ↓slF_o, ↓slF_s, uVf, pNo, pSo, ↓fSl_s, ↓fSl_t, uSl, ↓scal_n, ↓scal_b, ↓scal_i, ↓scal_s, ↓kS_d, ↓ret_S, rNil, rD, rS, uCallA, ↓toS_d, ↓toS_f, ↓toS_s, ↓slS_0, ↓slS_s, ↓retA_d, ↓retA_o, ↓retA_O, ↓backL_n, ↓backL_s, ↓backL_d, ↓backL_f, ↓lok_n, ↓lok_s, ↓lok_d, ↓lok_f, ↓lent_n, ↓lent_s, ↓lent_d, ↓lent_f, bYes, oLc, ↓clr_n, ↓clr_c, ↓clr2_n, ↓clr2_c, ↓rest_n, ↓rest_c, ↓keep1_d, ↓keep1_o, ↓keep1_f, ↓keep1_no, ↓keep1_s, ↓asLL_l, oLL0, zLLn, zLLa, uLLlen, List.mem_cons, List.not_mem_nil, Nat.reduceEqDiff, eqv_list, eqv_tuple, eqv_none, ↓asI_i, ↓asB_b, ↓asS_s, ↓asL_l, ↓asT_t, ↓slD_0, ↓slD_s, ↓slO_0, ↓slO_s, ↓asR_l, ↓fAdd_i, ↓fAdd_s, ↓ixbo_0, ↓ixbo_1, ↓ixbo_2, ↓ixbo_3, ↓ixD_l, ↓ixD_t, ↓ixD_s, ↓arg2_2, ↓fLen1_l, ↓fLen1_t, ↓fLen1_s, ↓asC_c, ↓asQ_l, ↓asQ_t, ↓asQ_s, ↓kD_d, ↓kD_o, ↓kO_o, ↓fz_l, ↓fz_P, ↓fz_ll, ↓ret_d, ↓ret_o, ↓ret_O, ↓retL_d, ↓retL_o, ↓retL_O, ↓atD_0, ↓atD_1, ↓atD_2, ↓atD_3, ↓atD_b1, ↓atD_b2, ↓atD_b3, ↓ixP_30, ↓ixP_31, ↓ixP_32, ↓if_true, ↓if_false, zNext, zSet, zSetO, zRet, zRetO, zRetP, zIf, zAsg, zPut, gN, gsNil, gsCons, gT, uVar, uC, uFz, u2, fI, fI0, fEq, uCB, wB, wNot, wAnd, wOr, uAnd, uOr, aNil, aCons, uTup, oLst, fIx, oVar, iSeq, iR1, uCall, oCall, uLend, oLend, shaped_iff, sh_non, sh_int, sh_bool, sh_str, eqv_int, eqv_str, eqv_bool, ixN_30, ixN_31, ixN_32, ixN_20, ixN_21, atI_0, atI_1, atI_2, atI_3, atI_b1, atI_b2, atI_b3, List.length_map, Int.reduceEq, forall_const, implies_true, and_assoc, sz_0, sz_1, sz_2, sz_3, sz_4, sz_5, sz_6, sz_7, sz_8, Bool.not_eq_true', beq_eq_false_iff_ne, beq_iff_eq, ne_eq, Bool.and_eq_true, Bool.or_eq_true, decide_eq_false_iff_not, not_false_eq_true, not_true_eq_false, Bool.not_true, Bool.not_false, isS_n, isS_b, isS_i, isS_s, isS_l, isS_t, ca_0, ca_1, ca_2, ca_3, ca_4, ca_5, ca_6, Int.reduceToNat, Int.toNat_natCast, Int.reducePow, Int.reduceMul, Int.reduceLT, Int.reduceLE, Int.reduceNeg, zFor, List.replicate, List.length_cons, List.length_nil, List.nil_append, List.cons_append, List.append_nil, List.map_cons, List.map_nil, List.set_cons_zero, List.set_cons_succ, List.getElem?_cons_zero, List.getElem?_cons_succ, Option.some.injEq, S.d.injEq, S.o.injEq, Res.lst.injEq, Res.lstP.injEq, PyData.int.injEq, PyData.str.injEq, PyData.bool.injEq, PyData.list.injEq, PyData.tuple.injEq, List.cons.injEq, reduceCtorEq, exists_eq_left', exists_eq_left, exists_eq_right, exists_eq_right', true_and, and_true, false_and, and_false, exists_false, false_or, or_false, exists_and_left, exists_and_right, exists_eq', exists_eq, exists_const, Bool.false_eq_true, ite_true, ite_false, decide_eq_true_eq, Nat.sub_self, Nat.zero_add, Nat.add_sub_cancel, Nat.reduceSub, Nat.reduceAdd, ne_Clash_NoText, ne_Clash_Unfit, ne_NoText_Clash, ne_NoText_Unfit, ne_Unfit_Clash, ne_Unfit_NoText])
theorem f_law {P : Program} {w : World} {K : PySem.W.Frag} {mg : Str → Option Value} {base : Heap} {f : Addr} {fd : FuncData} (hb : Bi K mg) (F : Fun K "law" "law" (topS 44) f fd) (C__law_kept : Cal P w K mg base "_law_kept" 3 ["number"] T_law_kept) (C__law_told : Cal P w K mg base "_law_told" 8 ["way", "field", "number"] T_law_told) (C__law_next : Cal P w K mg base "_law_next" 2 ["feed", "many"] T_law_next) (C__law_great : Cal P w K mg base "_law_great" 3 ["feed"] T_law_great) (C__law_feed : Cal P w K mg base "_law_feed" 1 ["script", "k"] T_law_feed) (C__law_field : Cal P w K mg base "_law_field" 7 ["script"] T_law_field) : FnOk P w K mg base CX0 9 f fd ["script"] (SpD K T_law) := (by
  refine fn_d (k := 8) F sc_law ?hT (fun cdv A outer s H E hr => (q_cons (s_asg (d_callC C__law_field (hr.mono (by decide)) (a_cons (dv 0) a_nil)) (g_tup (n := 2) rfl (gs_cons (g_name 5 sc_law.nd) (gs_cons (g_name 6 sc_law.nd) gs_nil))))
 (q_cons (s_setO (j := 1) sc_law.nd (o_callC C__law_feed (hr.mono (by decide)) (a_cons (dv 0) (a_cons d_int a_nil))))
 (q_cons (s_set (j := 2) sc_law.nd (d_lendC 1 C__law_great (hr.mono (by decide)) a_nil))
 (q_cons (s_set (j := 3) sc_law.nd (d_tup (a_cons (dv 5) (a_cons (d_addA (dv 6) (d_tup (a_cons (d_tup (a_cons d_str (a_cons d_str (a_cons d_int a_nil)))) a_nil))) a_nil))))
 (q_cut (s_if (DW.dt (w_and (t_gt (d_lenV hb.len (vv 5)) d_int) (w_and1 (t_eq hr.units (d_lendC 1 C__law_next (hr.mono (by decide)) (a_cons d_int a_nil)) d_int))))
 (q_one (s_set (j := 3) sc_law.nd (d_tup (a_cons (d_addA (dv 5) (d_sl (dv 5) p_no (p_so d_int))) (a_cons (dv 6) a_nil))))) q_nil)
 (q_cons (s_for PassesOwn.never rfl (i_range1 hb.range d_int) (g_name 4 sc_law.nd)
 (q_cons (s_setO (j := 7) sc_law.nd (o_catL (d_fz (o_rep (o_lst (a_cons d_bl a_nil)) d_int)) (DE.dv (d_fz (o_lst (a_cons d_bl (a_cons d_bl a_nil)))))))
 (q_cons (s_put 7 d_bl (d_ix (fun _ _ => rfl) (d_fz (o_lst (a_cons d_int (a_cons d_int (a_cons d_int (a_cons d_int (a_cons d_int a_nil))))))) (dv 4)))
 (q_one (s_if (t_cmpL (op_neD hr.units) opv_ne (d_fz (o_callC C__law_told (hr.mono (by decide)) (a_cons (dv 4) (a_cons (dv 3) (a_cons (dv 2) a_nil))))) (vv 7) (by rfl))
 (q_one (s_ret d_bl)) q_nil)))))
 (q_one (s_ret (d_callC C__law_kept (hr.mono (by decide)) (a_cons (dv 2) a_nil)))))))))))
  case hT =>
    intro a Q h
    obtain ⟨ns, rfl, q⟩ := h
    refine ⟨rfl, ?_⟩
    have hsz := sizeLine_eq
    (refine seq_gen fun Nx hS => ?_; walk_at "st")
    intro nm ms bs ls hF
    have fs := fld_flsz hF
    have few := hF.few
    have lfew := hF.ll
    (refine hS _ ?_; try clear hS; (repeat (refine seq_gen fun Nx hS => ?_; walk_at "st"; refine hS _ ?_; clear hS)))
    (refine seq_gen fun Nx hS => ?_; walk_at "st")
    intro n n0 n1
    have n1 : n < 10 ^ 59 := n1
    (refine hS _ ?_; try clear hS; (repeat (refine seq_gen fun Nx hS => ?_; walk_at "st"; refine hS _ ?_; clear hS)))
    (refine seq_gen fun Nx hS => ?_; walk_at "st")
    refine ⟨by omega, ?_⟩
    obtain ⟨od, hod⟩ : ∃ od : Lk3, od = ((("abc" : Str), ("abd" : Str), (10 : Int)) : Lk3) := ⟨_, rfl⟩
    have e1 : (ls.map lkD) ++ [PyData.tuple [.str "abc", .str "abd", .int 10]] = (ls ++ [od]).map lkD := by rw [List.map_append, hod]; rfl
    rw [e1]
    have f1 : FlSz bs (ls ++ [od]) := ⟨fs.bl, fs.bo, by rw [List.length_append, List.length_singleton]; omega, fun l hl => by
      rcases List.mem_append.mp hl with z | z
      · exact fs.lw l z
      · rw [List.mem_singleton.mp z, hod]
        exact ⟨by decide +kernel, by decide +kernel⟩⟩
    have f2 : fitF bs (ls ++ [od]) = false := by rw [hod]; exact fit_odd
    (refine hS _ ?_; try clear hS; (repeat (refine seq_gen fun Nx hS => ?_; walk_at "st"; refine hS _ ?_; clear hS)))
    refine cut_by (fun c => ∃ (bs' : List Bo) (ls' : List Lk3), c = ([.d (.list (ns.map PyData.int)), .o none (.lstP FeedP), .d (.int n), .d (.tuple [.tuple (bs'.map boD), .tuple (ls'.map lkD)]), .no, .d (.tuple (bs.map boD)), .d (.tuple (ls.map lkD)), .no] : Dl.Ctx) ∧ FlSz bs' ls' ∧ fitF bs' ls' = false) ?_ ?_
    · intro M hM
      (try walk_at "wpt")
      have k1 := hM _ ⟨bs, ls ++ [od], rfl, f1, f2⟩
      by_cases hb : 0 < (bs.length : Int)
      · rw [if_pos hb]
        refine ⟨by decide, fun r r0 r1 => ?_⟩
        by_cases hr : r = 0
        · rw [if_pos hr]
          obtain ⟨b, bs0, rfl⟩ : ∃ b r, bs = b :: r := by
            cases bs with
            | nil => simp at hb
            | cons b r => exact ⟨b, r, rfl⟩
          rw [show cutL ((b :: bs0).map boD) none (some 1) = [boD b] from rfl]
          refine ⟨by rw [List.length_singleton]; omega, ?_⟩
          rw [show (b :: bs0).map boD ++ [boD b] = ((b :: bs0) ++ [b]).map boD by rw [List.map_append]; rfl]
          refine hM _ ⟨(b :: bs0) ++ [b], ls, rfl, ⟨by rw [List.length_append, List.length_singleton]; omega, fun x hx => ?_, fs.ll, fs.lw⟩, fit_two List.mem_cons_self⟩
          rcases List.mem_append.mp hx with z | z
          · exact fs.bo x z
          · rw [List.mem_singleton.mp z]; exact fs.bo b List.mem_cons_self
        · rw [if_neg hr]
          exact k1
      · rw [if_neg hb]
        exact k1
    rintro c ⟨bs', ls', rfl, sz, ft⟩
    (try walk_at "wpt")
    refine loop_by (fun i c => ∃ (x4 x7 : S), c = [.d (.list (ns.map PyData.int)), .o none (.lstP FeedP), .d (.int n), .d (.tuple [.tuple (bs'.map boD), .tuple (ls'.map lkD)]), x4, .d (.tuple (bs.map boD)), .d (.tuple (ls.map lkD)), x7] ∧ True) ⟨_, _, rfl, trivial⟩ ?_ ?_
    · rintro i y c N hy ⟨x4, x7, rfl, -⟩ hN
      obtain ⟨hi, rfl⟩ := rngD_get hy
      obtain ⟨w, hw⟩ : ∃ w : Int, w = (i : Int) := ⟨_, rfl⟩
      rw [Int.zero_add, ← hw]
      have c5 : w = 0 ∨ w = 1 ∨ w = 2 ∨ w = 3 ∨ w = 4 := by omega
      clear hw
      simp only [↓asT_t, ↓asC_c, gT, gsCons, gsNil, gN, List.length_cons, List.length_nil, List.set_cons_zero, List.set_cons_succ, Nat.zero_add, Nat.reduceAdd, true_and]
      rcases c5 with rfl | rfl | rfl | rfl | rfl
      · (try walk_at "wpt")
        refine ⟨by omega, by show 5 + 2 ≤ sizeLine; omega, ?_⟩
        unfold ixP
        refine ⟨_, rfl, ?_⟩
        refine ⟨0, bs', ls', n, rfl, n0, n1, sz, ft, by decide, by decide, ?_⟩
        (try walk_at "wpt")
        refine ⟨sh_bls [true, false, false, false, false, true, true], sh_bls [true, false, false, false, false, true, true], ite_n (fun z => ?_) (hN _ ⟨_, _, rfl, trivial⟩)⟩
        exact absurd ((eqv_blsL [true, false, false, false, false, true, true]).symm.trans z) (by decide)
      · (try walk_at "wpt")
        refine ⟨by omega, by show 5 + 2 ≤ sizeLine; omega, ?_⟩
        unfold ixP
        refine ⟨_, rfl, ?_⟩
        refine ⟨1, bs', ls', n, rfl, n0, n1, sz, ft, by decide, by decide, ?_⟩
        (try walk_at "wpt")
        refine ⟨sh_bls [true, false, false, false, false, true, true], sh_bls [true, false, false, false, false, true, true], ite_n (fun z => ?_) (hN _ ⟨_, _, rfl, trivial⟩)⟩
        exact absurd ((eqv_blsL [true, false, false, false, false, true, true]).symm.trans z) (by decide)
      · (try walk_at "wpt")
        refine ⟨by omega, by show 5 + 2 ≤ sizeLine; omega, ?_⟩
        unfold ixP
        refine ⟨_, rfl, ?_⟩
        refine ⟨2, bs', ls', n, rfl, n0, n1, sz, ft, by decide, by decide, ?_⟩
        (try walk_at "wpt")
        refine ⟨sh_bls [false, true, false, false, false, true, true], sh_bls [false, true, false, false, false, true, true], ite_n (fun z => ?_) (hN _ ⟨_, _, rfl, trivial⟩)⟩
        exact absurd ((eqv_blsL [false, true, false, false, false, true, true]).symm.trans z) (by decide)
      · (try walk_at "wpt")
        refine ⟨by omega, by show 5 + 2 ≤ sizeLine; omega, ?_⟩
        unfold ixP
        refine ⟨_, rfl, ?_⟩
        refine ⟨3, bs', ls', n, rfl, n0, n1, sz, ft, by decide, by decide, ?_⟩
        (try walk_at "wpt")
        refine ⟨sh_bls [false, true, false, false, false, true, true], sh_bls [false, true, false, false, false, true, true], ite_n (fun z => ?_) (hN _ ⟨_, _, rfl, trivial⟩)⟩
        exact absurd ((eqv_blsL [false, true, false, false, false, true, true]).symm.trans z) (by decide)
      · (try walk_at "wpt")
        refine ⟨by omega, by show 5 + 2 ≤ sizeLine; omega, ?_⟩
        unfold atD
        refine ⟨.int 4, rfl, ?_⟩
        show ixP _ _ _
        unfold ixP
        refine ⟨_, rfl, ?_⟩
        refine ⟨4, bs', ls', n, rfl, n0, n1, sz, ft, by decide, by decide, ?_⟩
        (try walk_at "wpt")
        refine ⟨sh_bls [false, false, false, false, true, true, true], sh_bls [false, false, false, false, true, true, true], ite_n (fun z => ?_) (hN _ ⟨_, _, rfl, trivial⟩)⟩
        exact absurd ((eqv_blsL [false, false, false, false, true, true, true]).symm.trans z) (by decide)
    rintro c ⟨x4, x7, rfl, -⟩
    (try walk_at "wpt")
    exact ⟨n, rfl, fun c => q _⟩
  )
theorem factsL {P : Program} {w : World} {K : PySem.W.Frag} {h : Heap} {mg : Str → Option Value} {fa : Addr} (X : K.In h) (G : h.Ns mainGlobals mg) (hfa : mg "law" = some (.ref fa)) (c : SaysX facL fnsL xsL K) :
    ∃ (fd : FuncData) (sp : Sp), (∀ (s : Shared) (u : Value), BindsTo s fd ⟨[u], []⟩ [("script", u)]) ∧ (∀ (H : Hp) (a : Addr) (ns : List Int), ns.length ≤ 63 → Only H → SqL K H a (ns.map V.int) → sp [.ref a] H (fun v _ => v = .bl true) fun _ _ _ => False) ∧
      ∀ base : Heap, K.In base → base.Ns mainGlobals mg → FnOk P w K mg base CX0 9 fa fd ["script"] sp := (by
  have hb : Bi K mg := ⟨He.free_ok X G (c.d.fact 32 (f := .free "ValueError") rfl), He.free_ok X G (c.d.fact 33 (f := .free "all") rfl), He.free_ok X G (c.d.fact 34 (f := .free "int") rfl), He.free_ok X G (c.d.fact 35 (f := .free "isinstance") rfl), He.free_ok X G (c.d.fact 36 (f := .free "len") rfl), He.free_ok X G (c.d.fact 37 (f := .free "list") rfl), He.free_ok X G (c.d.fact 38 (f := .free "max") rfl), He.free_ok X G (c.d.fact 39 (f := .free "min") rfl), He.free_ok X G (c.d.fact 40 (f := .free "range") rfl), He.free_ok X G (c.d.fact 41 (f := .free "set") rfl), He.free_ok X G (c.d.fact 42 (f := .free "sorted") rfl), He.free_ok X G (c.d.fact 43 (f := .free "str") rfl), He.free_ok X G (c.d.fact 44 (f := .free "tuple") rfl), He.str_ok X G (c.d.fact 45 (f := .str "LETTERS" "abcdefghijklmnopqrstuvwxyz") rfl), He.str_ok X G (c.d.fact 46 (f := .str "FIGURES" "0123456789") rfl), He.glo_ok X G (c.d.fact 47 (f := .glo "BoreError") rfl), He.glo_ok X G (c.d.fact 48 (f := .glo "NoText") rfl), He.glo_ok X G (c.d.fact 49 (f := .glo "Unfit") rfl), He.glo_ok X G (c.d.fact 50 (f := .glo "Unknown") rfl), He.glo_ok X G (c.d.fact 51 (f := .glo "Twice") rfl), He.glo_ok X G (c.d.fact 52 (f := .glo "Clash") rfl), excB_ok (c.x 0 (t := excB "Clash") rfl), He.exm_ok (c.d.fact 53 (f := .exm "Clash" "BoreError" true) rfl), He.exm_ok (c.d.fact 54 (f := .exm "Clash" "Clash" true) rfl), of_decide_eq_true (c.x 1 (t := kitB "Clash" "BoreError" true) rfl), of_decide_eq_true (c.x 2 (t := kitB "Clash" "Clash" true) rfl), of_decide_eq_true (c.x 3 (t := kitB "Clash" "NoText" false) rfl), of_decide_eq_true (c.x 4 (t := kitB "Clash" "Twice" false) rfl), of_decide_eq_true (c.x 5 (t := kitB "Clash" "Unfit" false) rfl), of_decide_eq_true (c.x 6 (t := kitB "Clash" "Unknown" false) rfl), of_decide_eq_true (c.x 7 (t := kitT "Clash" "ValueError" true) rfl), exF_of X G (c.d.fact 48 (f := .glo "NoText") rfl) (c.d.fact 55 (f := .exc "NoText") rfl), excB_ok (c.x 8 (t := excB "NoText") rfl), He.exm_ok (c.d.fact 56 (f := .exm "NoText" "BoreError" true) rfl), of_decide_eq_true (c.x 9 (t := kitB "NoText" "BoreError" true) rfl), of_decide_eq_true (c.x 10 (t := kitB "NoText" "Clash" false) rfl), of_decide_eq_true (c.x 11 (t := kitB "NoText" "NoText" true) rfl), of_decide_eq_true (c.x 12 (t := kitB "NoText" "Twice" false) rfl), of_decide_eq_true (c.x 13 (t := kitB "NoText" "Unfit" false) rfl), of_decide_eq_true (c.x 14 (t := kitB "NoText" "Unknown" false) rfl), of_decide_eq_true (c.x 15 (t := kitT "NoText" "ValueError" true) rfl), exF_of X G (c.d.fact 49 (f := .glo "Unfit") rfl) (c.d.fact 57 (f := .exc "Unfit") rfl), excB_ok (c.x 16 (t := excB "Unfit") rfl), He.exm_ok (c.d.fact 58 (f := .exm "Unfit" "BoreError" true) rfl), of_decide_eq_true (c.x 17 (t := kitB "Unfit" "BoreError" true) rfl), of_decide_eq_true (c.x 18 (t := kitB "Unfit" "Clash" false) rfl), of_decide_eq_true (c.x 19 (t := kitB "Unfit" "NoText" false) rfl), of_decide_eq_true (c.x 20 (t := kitB "Unfit" "Twice" false) rfl), of_decide_eq_true (c.x 21 (t := kitB "Unfit" "Unfit" true) rfl), of_decide_eq_true (c.x 22 (t := kitB "Unfit" "Unknown" false) rfl), of_decide_eq_true (c.x 23 (t := kitT "Unfit" "ValueError" true) rfl), ex2B_ok (c.x 24 (t := ex2B "Clash" "numbers" "ring") rfl), initB_ok (c.x 25 (t := initB "Clash") rfl), binB_ok (c.x 26 (t := binB "BoreError") rfl), xfB_ok (c.x 27 (t := xfcB "Clash") rfl), of_decide_eq_true (c.x 28 (t := noatB "Clash" "numbers") rfl), of_decide_eq_true (c.x 29 (t := noatB "Clash" "ring") rfl)⟩
  have D_is_name : Df K mg "is_name" (topS 10) ["word"] := df_of X G c.d 0 0 rfl rfl (fun _ _ _ _ _ _ us hl => match us, hl with | [_], _ => rfl)
  have D_is_number : Df K mg "is_number" (topS 11) ["word"] := df_of X G c.d 1 1 rfl rfl (fun _ _ _ _ _ _ us hl => match us, hl with | [_], _ => rfl)
  have D_words_of : Df K mg "words_of" (topS 12) ["row"] := df_of X G c.d 2 2 rfl rfl (fun _ _ _ _ _ _ us hl => match us, hl with | [_], _ => rfl)
  have D_rows_of : Df K mg "rows_of" (topS 13) ["text"] := df_of X G c.d 3 3 rfl rfl (fun _ _ _ _ _ _ us hl => match us, hl with | [_], _ => rfl)
  have D_block_fits : Df K mg "block_fits" (topS 15) ["block"] := df_of X G c.d 4 4 rfl rfl (fun _ _ _ _ _ _ us hl => match us, hl with | [_], _ => rfl)
  have D_bore_fits : Df K mg "bore_fits" (topS 16) ["bore"] := df_of X G c.d 5 5 rfl rfl (fun _ _ _ _ _ _ us hl => match us, hl with | [_], _ => rfl)
  have D_likes_fit : Df K mg "likes_fit" (topS 17) ["likes"] := df_of X G c.d 6 6 rfl rfl (fun _ _ _ _ _ _ us hl => match us, hl with | [_], _ => rfl)
  have D_fits : Df K mg "fits" (topS 18) ["field"] := df_of X G c.d 7 7 rfl rfl (fun _ _ _ _ _ _ us hl => match us, hl with | [_], _ => rfl)
  have D_fitted : Df K mg "fitted" (topS 19) ["field"] := df_of X G c.d 8 8 rfl rfl (fun _ _ _ _ _ _ us hl => match us, hl with | [_], _ => rfl)
  have D_need : Df K mg "need" (topS 21) ["truth"] := df_of X G c.d 9 9 rfl rfl (fun _ _ _ _ _ _ us hl => match us, hl with | [_], _ => rfl)
  have D_head_of : Df K mg "head_of" (topS 22) ["words"] := df_of X G c.d 10 10 rfl rfl (fun _ _ _ _ _ _ us hl => match us, hl with | [_], _ => rfl)
  have D_layer_of : Df K mg "layer_of" (topS 23) ["words"] := df_of X G c.d 11 11 rfl rfl (fun _ _ _ _ _ _ us hl => match us, hl with | [_], _ => rfl)
  have D_like_of : Df K mg "like_of" (topS 24) ["words"] := df_of X G c.d 12 12 rfl rfl (fun _ _ _ _ _ _ us hl => match us, hl with | [_], _ => rfl)
  have D_lay_row : Df K mg "lay_row" (topS 25) ["found", "likes", "words"] := df_of X G c.d 13 13 rfl rfl (fun _ _ _ _ _ _ us hl => match us, hl with | [_, _, _], _ => rfl)
  have D_read : Df K mg "read" (topS 26) ["text"] := df_of X G c.d 14 14 rfl rfl (fun _ _ _ _ _ _ us hl => match us, hl with | [_], _ => rfl)
  have D__law_draw : Df K mg "_law_draw" (topS 28) ["script", "k", "many"] := df_of X G c.d 15 15 rfl rfl (fun _ _ _ _ _ _ us hl => match us, hl with | [_, _, _], _ => rfl)
  have D__law_feed : Df K mg "_law_feed" (topS 29) ["script", "k"] := df_of X G c.d 16 16 rfl rfl (fun _ _ _ _ _ _ us hl => match us, hl with | [_, _], _ => rfl)
  have D__law_next : Df K mg "_law_next" (topS 30) ["feed", "many"] := df_of X G c.d 17 17 rfl rfl (fun _ _ _ _ _ _ us hl => match us, hl with | [_, _], _ => rfl)
  have D__law_great : Df K mg "_law_great" (topS 31) ["feed"] := df_of X G c.d 18 18 rfl rfl (fun _ _ _ _ _ _ us hl => match us, hl with | [_], _ => rfl)
  have D__law_long : Df K mg "_law_long" (topS 32) ["feed"] := df_of X G c.d 19 19 rfl rfl (fun _ _ _ _ _ _ us hl => match us, hl with | [_], _ => rfl)
  have D__law_name : Df K mg "_law_name" (topS 33) ["feed", "names"] := df_of X G c.d 20 20 rfl rfl (fun _ _ _ _ _ _ us hl => match us, hl with | [_, _], _ => rfl)
  have D__law_names : Df K mg "_law_names" (topS 34) ["feed", "many"] := df_of X G c.d 21 21 rfl rfl (fun _ _ _ _ _ _ us hl => match us, hl with | [_, _], _ => rfl)
  have D__law_blocks : Df K mg "_law_blocks" (topS 35) ["feed", "marks"] := df_of X G c.d 22 22 rfl rfl (fun _ _ _ _ _ _ us hl => match us, hl with | [_, _], _ => rfl)
  have D__law_bores : Df K mg "_law_bores" (topS 36) ["script", "names", "marks"] := df_of X G c.d 23 23 rfl rfl (fun _ _ _ _ _ _ us hl => match us, hl with | [_, _, _], _ => rfl)
  have D__law_likes : Df K mg "_law_likes" (topS 37) ["feed", "marks"] := df_of X G c.d 24 24 rfl rfl (fun _ _ _ _ _ _ us hl => match us, hl with | [_, _], _ => rfl)
  have D__law_marks : Df K mg "_law_marks" (topS 38) ["feed", "names"] := df_of X G c.d 25 25 rfl rfl (fun _ _ _ _ _ _ us hl => match us, hl with | [_, _], _ => rfl)
  have D__law_field : Df K mg "_law_field" (topS 39) ["script"] := df_of X G c.d 26 26 rfl rfl (fun _ _ _ _ _ _ us hl => match us, hl with | [_], _ => rfl)
  have D__law_kinds : Df K mg "_law_kinds" (topS 40) ["e"] := df_of X G c.d 27 27 rfl rfl (fun _ _ _ _ _ _ us hl => match us, hl with | [_], _ => rfl)
  have D__law_deed : Df K mg "_law_deed" (topS 41) ["way", "field", "number"] := df_of X G c.d 28 28 rfl rfl (fun _ _ _ _ _ _ us hl => match us, hl with | [_, _, _], _ => rfl)
  have D__law_told : Df K mg "_law_told" (topS 42) ["way", "field", "number"] := df_of X G c.d 29 29 rfl rfl (fun _ _ _ _ _ _ us hl => match us, hl with | [_, _, _], _ => rfl)
  have D__law_kept : Df K mg "_law_kept" (topS 43) ["number"] := df_of X G c.d 30 30 rfl rfl (fun _ _ _ _ _ _ us hl => match us, hl with | [_], _ => rfl)
  have D_law : Df K mg "law" (topS 44) ["script"] := df_of X G c.d 31 31 rfl rfl (fun _ _ _ _ _ _ us hl => match us, hl with | [_], _ => rfl)
  have D_Clash___init__ : DfM K "Clash" "__init__" "Clash.__init__" (mtS 6 0) ["self", "numbers", "ring"] := dfm_of c.d 32 rfl (fun _ _ _ _ _ _ us hl => match us, hl with | [_, _, _], _ => rfl)
  refine law_end law_ok D_law hfa (fun _ _ _ _ _ _ _ => rfl) fun base hX hG f fd F => ?_
  have C_Clash___init__ := c_Clash___init__ (P := P) (w := w) (base := base) hb D_Clash___init__ 
  have C_is_name := c_is_name (P := P) (w := w) (base := base) hb D_is_name 
  have C_is_number := c_is_number (P := P) (w := w) (base := base) hb D_is_number 
  have C_words_of := c_words_of (P := P) (w := w) (base := base) hb D_words_of 
  have C_words_of__y := c_words_of__y (P := P) (w := w) (base := base) hb D_words_of 
  have C_rows_of := c_rows_of (P := P) (w := w) (base := base) hb D_rows_of 
  have C_block_fits := c_block_fits (P := P) (w := w) (base := base) hb D_block_fits C_is_name
  have C_bore_fits := c_bore_fits (P := P) (w := w) (base := base) hb D_bore_fits C_block_fits C_is_name
  have C_likes_fit := c_likes_fit (P := P) (w := w) (base := base) hb D_likes_fit C_is_name
  have C_fits := c_fits (P := P) (w := w) (base := base) hb D_fits C_likes_fit C_bore_fits
  have C_fitted := c_fitted (P := P) (w := w) (base := base) hb D_fitted C_fits
  have C_need := c_need (P := P) (w := w) (base := base) hb D_need 
  have C_head_of := c_head_of (P := P) (w := w) (base := base) hb D_head_of C_need C_is_number C_is_name
  have C_layer_of := c_layer_of (P := P) (w := w) (base := base) hb D_layer_of C_need C_is_number C_is_name
  have C_like_of := c_like_of (P := P) (w := w) (base := base) hb D_like_of C_need C_is_number C_is_name
  have C_lay_row := c_lay_row (P := P) (w := w) (base := base) hb D_lay_row C_need C_like_of C_head_of C_layer_of
  have C_read := c_read (P := P) (w := w) (base := base) hb D_read C_need C_rows_of C_words_of C_lay_row C_fitted
  have C__law_draw := c_law_draw (P := P) (w := w) (base := base) hb D__law_draw 
  have C__law_feed := c_law_feed (P := P) (w := w) (base := base) hb D__law_feed 
  have C__law_next := c_law_next (P := P) (w := w) (base := base) hb D__law_next C__law_draw
  have C__law_great := c_law_great (P := P) (w := w) (base := base) hb D__law_great C__law_next
  have C__law_long := c_law_long (P := P) (w := w) (base := base) hb D__law_long C__law_great C__law_next
  have C__law_name := c_law_name (P := P) (w := w) (base := base) hb D__law_name C__law_next
  have C__law_names := c_law_names (P := P) (w := w) (base := base) hb D__law_names C__law_next C__law_name
  have C__law_blocks := c_law_blocks (P := P) (w := w) (base := base) hb D__law_blocks C__law_next C__law_long
  have C__law_bores := c_law_bores (P := P) (w := w) (base := base) hb D__law_bores C__law_next C__law_blocks C__law_long C__law_feed
  have C__law_likes := c_law_likes (P := P) (w := w) (base := base) hb D__law_likes C__law_next
  have C__law_marks := c_law_marks (P := P) (w := w) (base := base) hb D__law_marks C__law_next C__law_names
  have C__law_field := c_law_field (P := P) (w := w) (base := base) hb D__law_field C__law_likes C__law_bores C__law_marks C__law_feed C__law_names C__law_next
  have C__law_kinds := c_law_kinds (P := P) (w := w) (base := base) hb D__law_kinds 
  have C__law_deed := c_law_deed (P := P) (w := w) (base := base) hb D__law_deed C_words_of__y C_read C_fitted C_Clash___init__
  have C__law_told := c_law_told (P := P) (w := w) (base := base) hb D__law_told C__law_kinds C__law_deed
  have C__law_kept := c_law_kept (P := P) (w := w) (base := base) hb D__law_kept C_Clash___init__
  exact f_law hb F C__law_kept C__law_told C__law_next C__law_great C__law_feed C__law_field
  )
end Bores
open PySem PySem.W PySem.Calls PyProof.Rows
set_option maxHeartbeats 0 in
theorem PySem.Challenge.cw_bores_k13_refusals_apart_holds : PySem.Challenge.rw_bores_k13_refusals_apart.Holds := by
  w_on; o_law
  refine HandSHeadRun.head_any (r := Bores.rowL) (q := view Bores.rowL.prog [44]) (H := Bores.hookL) (ob := Bores.obL) (M := 12000) (loose := (("BoreError" : PySem.Str) :: ("NoText" : PySem.Str) :: ("Unfit" : PySem.Str) :: ("Unknown" : PySem.Str) :: ("Twice" : PySem.Str) :: ("Clash" : PySem.Str) :: ("LETTERS" : PySem.Str) :: ("FIGURES" : PySem.Str) :: ("is_name" : PySem.Str) :: ("is_number" : PySem.Str) :: ("words_of" : PySem.Str) :: ("rows_of" : PySem.Str) :: ("block_fits" : PySem.Str) :: ("bore_fits" : PySem.Str) :: ("likes_fit" : PySem.Str) :: ("fits" : PySem.Str) :: ("fitted" : PySem.Str) :: ("need" : PySem.Str) :: ("head_of" : PySem.Str) :: ("layer_of" : PySem.Str) :: ("like_of" : PySem.Str) :: ("lay_row" : PySem.Str) :: ("read" : PySem.Str) :: ("_law_draw" : PySem.Str) :: ("_law_feed" : PySem.Str) :: ("_law_next" : PySem.Str) :: ("_law_great" : PySem.Str) :: ("_law_long" : PySem.Str) :: ("_law_name" : PySem.Str) :: ("_law_names" : PySem.Str) :: ("_law_blocks" : PySem.Str) :: ("_law_bores" : PySem.Str) :: ("_law_likes" : PySem.Str) :: ("_law_marks" : PySem.Str) :: ("_law_field" : PySem.Str) :: ("_law_kinds" : PySem.Str) :: ("_law_deed" : PySem.Str) :: ("_law_told" : PySem.Str) :: ("_law_kept" : PySem.Str) :: [])) (d := HandSHeadRun.topDef Bores.rowL.prog 44) (kwd := []) Bores.obL_eq
    (by kernel_rfl) (fun s => by kernel_rfl) Bores.runL (by kernel_rfl) (by kernel_rfl) (by kernel_rfl) (by rfl) (by first | assumption | decide +kernel) (by decide +kernel) ⟨rfl, rfl, rfl, rfl, rfl, by decide +kernel⟩ ?hw ?hc
  case hw => w_witness2
  case hc =>
    refine L2.walk_ofE (l := PySem.Challenge.rw_bores_k13_refusals_apart) (n := 63) (k := 9) (x := "script") (CX := L2.CX0) rfl (by decide) (by kernel_rfl) ⟨rfl, by decide, by decide⟩ ?F (fun _ _ _ _ z => z)
    intro w mg fa h Y G hmg0
    obtain ⟨K, KX, c⟩ := Y
    have hmg : mg ("law" : PySem.Str) = some (.ref fa) := by
      have e : (HandSHeadRun.topDef Bores.rowL.prog 44).name = ("law" : PySem.Str) := by kernel_rfl
      exact e ▸ hmg0
    obtain ⟨fd, sp, b1, b2, b3⟩ := Bores.factsL (P := (PySem.Challenge.rw_bores_k13_refusals_apart).prog) (w := w) KX G hmg c
    exact ⟨K, fd, sp, KX, b1, b2, b3⟩
