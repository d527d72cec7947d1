import PyProof.Rows.All
import HandS.Deep
import HandS.Comp
import HandS.Iter
import HandS.Dict
import HandS.DictTup
import KE.KDictWalk
import KE.KDictKeyed
import KE.KDictDisplayH
import Wide.All
import OpenK.AllK
import Wide.FinOn
import HandS.ForMost
import HandS.Wide
import HandS.IsInst
import HandS.HeadHook2
import HandS.HeadEnd
import HandS.Head2
import HandS.More
import HandS.TupAny
import HandS.Text
import HandS.Conv
import HandS.SortInts
import HandS.RevRange
import HandS.Rev
import HandS.SortRule
import KE.DataCmp
import KE.SortData
import HandS.Zip
import HandS.TryOnly
import PyProof.Rows.SortShellK
import PyProof.Rows.SortStr
import HandS.SortOrd
import KE.KSortTup
import KE.KSortTupAny
import KE.LtData
import HandS.TupMul
import HandS.Exc
import HandS.ExcOwn
import HandS.ExcIs
import HandS.WordsExc
import PyProof.ExcBaseAll.ValueError
import PyProof.StrLawsChain
import PyProof.StrLawsTight
import KE.SortKeyHeap
import HandS.SortKw
import HandS.Small
import HandS.Strs
import HandS.SetKeys
import PyProof.Rows.SetFrom
import KE.KDictCopyH
import HandS.Style
import HandS.ExcInit
import HandS.ExcField
import HandS.TryMany
import HandS.ForDict
import KE.KExcIs
import KE.KIsAll
import HandS.ForSpec
import HandS.SetFor
import KE.KEqDict
import HandS.HotCalls
import KE.GoesRaise
import PyProof.StrBlock2
import HandS.TupSets
import KE.KeyNested
import PyProof.SetRoads
import KE.KIntText
import KE.IntTextLaws
import PySem.Challenge.RW_bores_k07_texts_refused
set_option Elab.async false
set_option linter.all false
set_option maxRecDepth 100000
set_option maxHeartbeats 4000000
/-! Dicts whose keys are plain data. -/
namespace L2
open PySem PySem.Spec PyProof.Rows
/-! ### keys -/
mutual
def nkOf : PyData → NestedKey
  | .none => .none
  | .bool b => .num (if b = true then 1 else 0)
  | .int i => .num i
  | .str x => .text x
  | .tuple ds => .tup (nkOfs ds)
  | .list _ => .none
  | .dict _ => .none
def nkOfs : List PyData → List NestedKey
  | [] => []
  | d :: ds => nkOf d :: nkOfs ds
end
mutual
def kOk : PyData → Bool
  | .list _ => false
  | .dict _ => false
  | .tuple ds => kOks ds
  | _ => true
def kOks : List PyData → Bool
  | [] => true
  | d :: ds => kOk d && kOks ds
end
/-- data that may be a key -/
def keyOk (d : PyData) : Prop := kOk d = true ∧ (nkOf d).depth ≤ 8
section
variable {X : Cx} {pins : List (Addr × Obj)} {σ : St} {H : Hp} {s : Shared}
mutual
theorem nk_is (I : Inv X pins σ H s) : ∀ (d : PyData) (v : V) (u : Value), Dp X.K H v d → kOk d = true → RelV v u → NestedIs s.heap (nkOf d) u
  | .none, _, _, h, _, r => by
    cases h
    cases r
    exact .none
  | .bool b, _, _, h, _, r => by
    cases h
    cases r
    exact .bool rfl
  | .int i, _, _, h, _, r => by
    cases h
    obtain ⟨t, rfl⟩ := r
    exact .int _ _
  | .str x, _, _, h, _, r => by
    cases h
    obtain ⟨t, rfl⟩ := r
    exact .text _ _
  | .tuple ds, _, _, h, k, r => by
    cases h with
    | tup hs ha =>
      cases r
      obtain ⟨its, rv, ⟨o, h1, h2, n, h3⟩, _⟩ := I.tuple hs
      exact .tup h1 h2 h3 (by simpa using nks_is I ds _ _ ha k rv)
  | .list _, _, _, _, k, _ => by cases k
  | .dict _, _, _, _, k, _ => by cases k
theorem nks_is (I : Inv X pins σ H s) : ∀ (ds : List PyData) (vs : List V) (us : List Value), DpAll X.K H vs ds → kOks ds = true → Vals vs us → NestedAll s.heap (nkOfs ds) us
  | [], _, _, h, _, r => by
    cases h
    cases r
    exact .nil
  | d :: ds, _, _, h, k, r => by
    cases h with
    | cons h1 h2 =>
      cases r with
      | cons r1 r2 =>
        have k : (kOk d && kOks ds) = true := k
        obtain ⟨k1, k2⟩ := Bool.and_eq_true_iff.mp k
        exact .cons (nk_is I d _ _ h1 k1 r1) (nks_is I ds _ _ h2 k2 r2)
end
/-- the tuple at b is a key -/
def KeyAt (K : PySem.W.Frag) (H : Hp) (k : NestedKey) (b : Addr) : Prop := ∃ d, Dp K H (.ref b) d ∧ keyOk d ∧ nkOf d = k
theorem KeyAt.is (I : Inv X pins σ H s) {k : NestedKey} {b : Addr} (h : KeyAt X.K H k b) : (nestedKind X.prog X.w).is s.heap k b := (by
  obtain ⟨d, h1, h2, rfl⟩ := h
  exact ⟨nk_is I d _ _ h1 h2.1 rfl, h2.2⟩
  )
end
/-! ### dicts -/
def zip3 (kb : List (NestedKey × Addr)) (us : List Value) : List (NestedKey × Addr × Value) := (kb.zip us).map fun x => (x.1.1, x.1.2, x.2)
def NkO (P : Program) (w : World) (p : Addr) (kb : List (NestedKey × Addr)) (vs : List V) : HO := .ext fun h => (p == sysModules) = false ∧ kb.length ≤ sizeLine ∧
  ∃ (us : List Value) (o : Obj) (es : Array DictEntry) (ep : Nat), Vals vs us ∧ kb.length = us.length ∧ h.get? p = some o ∧ o.ExactDict ∧ o.data = .dict es ep ∧ es.toList = (zip3 kb us).map (entryOfKey (nestedKind P w)) ∧ (kb.map (·.1)).Nodup
section
variable {X : Cx} {pins : List (Addr × Obj)} {σ : St} {H : Hp} {s : Shared} {a b : Addr} {k : NestedKey} {kb kb' : List (NestedKey × Addr)} {vs vs' : List V}
def KeysAt (K : PySem.W.Frag) (H : Hp) (kb : List (NestedKey × Addr)) : Prop := ∀ x ∈ kb, KeyAt K H x.1 x.2
theorem KeysAt.is (I : Inv X pins σ H s) (h : KeysAt X.K H kb) : ∀ x ∈ kb, (nestedKind X.prog X.w).is s.heap x.1 x.2 := fun x hx => (h x hx).is I
end
end L2

/-! The data layer: readings over pure data. G: the frozen ghost heap; owned things by their addresses. -/
namespace Dl
open PySem PySem.Spec PyProof.Rows L2

/-! ### data over a growing heap -/
theorem same_t {K : PySem.W.Frag} {G G' : Hp} {a : Addr} {xs : List V} (e : Same G G') (h : SqT K G a xs) : SqT K G' a xs := (by
  rcases h with (h | ⟨o, h⟩) | h
  · exact .inl (.inl (e _ _ h))
  · exact .inl (.inr ⟨o, e _ _ h⟩)
  · exact .inr h
  )
mutual
theorem dp_mono {K : PySem.W.Frag} {G G' : Hp} (e : Same G G') : ∀ (d : PyData) (v : V), Dp K G v d → Dp K G' v d
  | .none, _, h => by cases h; exact .non
  | .bool b, _, h => by cases h; exact .bl b
  | .int i, _, h => by cases h; exact .int i
  | .str x, _, h => by cases h; exact .str x
  | .list ds, _, h => by
    cases h with
    | lst hs ha => exact .lst (Same.seq e hs) (dpa_mono e ds _ ha)
  | .tuple ds, _, h => by
    cases h with
    | tup hs ha => exact .tup (same_t e hs) (dpa_mono e ds _ ha)
  | .dict _, _, h => by cases h
theorem dpa_mono {K : PySem.W.Frag} {G G' : Hp} (e : Same G G') : ∀ (ds : List PyData) (vs : List V), DpAll K G vs ds → DpAll K G' vs ds
  | [], _, h => by cases h; exact .nil
  | d :: ds, _, h => by
    cases h with
    | cons h1 h2 => exact .cons (dp_mono e d _ h1) (dpa_mono e ds _ h2)
end
section
variable {K : PySem.W.Frag} {G : Hp}
theorem dpa_len : ∀ {ds : List PyData} {vs : List V}, DpAll K G vs ds → vs.length = ds.length
  | [], _, h => by cases h; rfl
  | d :: ds, _, h => by
    cases h with
    | cons h1 h2 => rw [List.length_cons, List.length_cons, dpa_len h2]
theorem dpa_get : ∀ {ds : List PyData} {vs : List V} {i : Nat} {d : PyData}, DpAll K G vs ds → ds[i]? = some d → ∃ v, vs[i]? = some v ∧ Dp K G v d
  | [], _, i, _, h, e => by simp at e
  | d :: ds, _, 0, _, h, e => by
    cases h with
    | cons h1 h2 => simp at e; subst e; exact ⟨_, rfl, h1⟩
  | d :: ds, _, i + 1, _, h, e => by
    cases h with
    | cons h1 h2 =>
      obtain ⟨v, q1, q2⟩ := dpa_get (i := i) h2 (by simpa using e)
      exact ⟨v, by simpa using q1, q2⟩
theorem dpa_app : ∀ {ds es : List PyData} {vs us : List V}, DpAll K G vs ds → DpAll K G us es → DpAll K G (vs ++ us) (ds ++ es)
  | [], _, _, _, h, h' => by cases h; exact h'
  | d :: ds, _, _, _, h, h' => by
    cases h with
    | cons h1 h2 => exact .cons h1 (dpa_app h2 h')
theorem dpa_set : ∀ {ds : List PyData} {vs : List V} {i : Nat} {v : V} {d : PyData}, DpAll K G vs ds → Dp K G v d → DpAll K G (vs.set i v) (ds.set i d)
  | [], _, i, _, _, h, _ => by cases h; exact .nil
  | d :: ds, _, 0, _, _, h, q => by
    cases h with
    | cons h1 h2 => exact .cons q h2
  | d :: ds, _, i + 1, _, _, h, q => by
    cases h with
    | cons h1 h2 => exact .cons h1 (dpa_set h2 q)
theorem dpa_take : ∀ {ds : List PyData} {vs : List V} (n : Nat), DpAll K G vs ds → DpAll K G (vs.take n) (ds.take n)
  | _, _, 0, h => .nil
  | [], _, n + 1, h => by cases h; exact .nil
  | d :: ds, _, n + 1, h => by
    cases h with
    | cons h1 h2 => exact .cons h1 (dpa_take n h2)
theorem dpa_drop : ∀ {ds : List PyData} {vs : List V} (n : Nat), DpAll K G vs ds → DpAll K G (vs.drop n) (ds.drop n)
  | _, _, 0, h => h
  | [], _, n + 1, h => by cases h; exact .nil
  | d :: ds, _, n + 1, h => by
    cases h with
    | cons h1 h2 => exact dpa_drop n h2
theorem dpa_ints : ∀ (ns : List Int), DpAll K G (ns.map V.int) (ns.map PyData.int)
  | [] => .nil
  | n :: ns => .cons (.int n) (dpa_ints ns)
theorem dpa_bls_inv : ∀ {ns : List Bool} {vs : List V}, DpAll K G vs (ns.map PyData.bool) → vs = ns.map V.bl
  | [], _, h => by cases h; rfl
  | n :: ns, _, h => by
    cases h with
    | cons h1 h2 =>
      cases h1
      rw [List.map_cons, dpa_bls_inv h2]
theorem dpa_strs_inv : ∀ {ns : List Str} {vs : List V}, DpAll K G vs (ns.map PyData.str) → vs = ns.map V.str
  | [], _, h => by cases h; rfl
  | n :: ns, _, h => by
    cases h with
    | cons h1 h2 =>
      cases h1
      rw [List.map_cons, dpa_strs_inv h2]
theorem dpa_strs : ∀ (ns : List Str), DpAll K G (ns.map V.str) (ns.map PyData.str)
  | [] => .nil
  | n :: ns => .cons (.str n) (dpa_strs ns)
end

/-! ### owned things -/
/-- a tuple, locked or not -/
def isTup : HO → Bool
  | .tup _ => true
  | .frz _ u => isTup u
  | _ => false
def tupAt (H : Hp) (a : Addr) : Prop := ∃ o, H a = some o ∧ isTup o = true
/-- an owned thing of any kind -/
structure ResG where
  P : PySem.W.Frag → Hp → Hp → V → List Addr → Prop
  grow : ∀ K G G' H v A, P K G H v A → Same G G' → P K G' H v A
  loc : ∀ K G H H' v A, P K G H v A → (∀ a ∈ A, H' a = H a) → P K G H' v A
  here : ∀ K G H v A, P K G H v A → ∀ a ∈ A, H a ≠ none
  nt : ∀ K G H v A, P K G H v A → ∀ a ∈ A, ∀ o, H a = some o → isTup o = false
/-- a tree of things of one's own: data, lists, tuples, dicts whose keys are flat tuples, instances -/
inductive OT where
  | dat (x : PyData)
  | lst (ts : List OT)
  | tup (ts : List OT)
  | dic (P : Program) (w : World) (ks : List PyData) (ts : List OT)
  | obj (C : Str) (fs : List Str) (ts : List OT)
inductive Res where
  | lst (ds : List PyData)
  | lstP (P : List PyData → Prop)
  | lls (dss : List (List PyData))
  | gen (R : ResG)
  | dic (kvs : List (PyData × PyData))
  | tr (t : OT)
def OwnL (K : PySem.W.Frag) (G H : Hp) (v : V) (A : List Addr) (ds : List PyData) : Prop := ∃ p vs, v = .ref p ∧ A = [p] ∧ H p = some (.lst vs) ∧ DpAll K G vs ds
/-- lists of one's own, one behind the other -/
inductive OwnLs (K : PySem.W.Frag) (G H : Hp) : List Addr → List (List PyData) → Prop
  | nil : OwnLs K G H [] []
  | cons {p : Addr} {vs : List V} {ds : List PyData} {ps : List Addr} {dss : List (List PyData)} : H p = some (.lst vs) → DpAll K G vs ds → OwnLs K G H ps dss → OwnLs K G H (p :: ps) (ds :: dss)
/-- a list of them -/
def OwnLL (K : PySem.W.Frag) (G H : Hp) (v : V) (A : List Addr) (dss : List (List PyData)) : Prop := ∃ p ps, v = .ref p ∧ A = p :: ps ∧ H p = some (.lst (ps.map V.ref)) ∧ OwnLs K G H ps dss
def keyD : L2.Key → PyData
  | .inl i => .int i
  | .inr x => .str x
/-- a flat tuple of the heap, if the data is one -/
def TupV (G : Hp) (v : V) (d : PyData) : Prop := ∀ ks : List L2.Key, d = .tuple (ks.map keyD) → ∃ b, v = .ref b ∧ G b = some (.tup (ks.map L2.kV))
theorem TupV.mono {G G' : Hp} {v : V} {d : PyData} (h : TupV G v d) (e : Same G G') : TupV G' v d := fun ks z => let ⟨b, e1, e2⟩ := h ks z; ⟨b, e1, e _ _ e2⟩
/-- a dict's entries: the keys flat tuples -/
inductive DicE (K : PySem.W.Frag) (G : Hp) : List (List L2.Key × V) → List (PyData × PyData) → Prop
  | nil : DicE K G [] []
  | cons {k : List L2.Key} {v : V} {d : PyData} {ws : List (List L2.Key × V)} {kvs : List (PyData × PyData)} : Dp K G v d → TupV G v d → DicE K G ws kvs → DicE K G ((k, v) :: ws) ((.tuple (k.map keyD), d) :: kvs)
theorem dicE_mono {K : PySem.W.Frag} {G G' : Hp} {ws : List (List L2.Key × V)} {kvs : List (PyData × PyData)} (h : DicE K G ws kvs) (e : Same G G') : DicE K G' ws kvs := (by
  induction h with
  | nil => exact .nil
  | cons h1 hs _ ih => exact .cons (dp_mono e _ _ h1) (hs.mono e) ih
  )
/-- a dict of one's own -/
def OwnD (K : PySem.W.Frag) (G H : Hp) (v : V) (A : List Addr) (kvs : List (PyData × PyData)) : Prop := ∃ p ws, v = .ref p ∧ A = [p] ∧ H p = some (.dT ws) ∧ DicE K G ws kvs
mutual
inductive OwnT (K : PySem.W.Frag) (G H : Hp) : OT → V → List Addr → Prop
  | dat {x : PyData} {v : V} : Dp K G v x → OwnT K G H (.dat x) v []
  | lst {p : Addr} {ts : List OT} {vs : List V} {A : List Addr} : H p = some (.lst vs) → OwnTs K G H ts vs A → OwnT K G H (.lst ts) (.ref p) (p :: A)
  | tup {p : Addr} {ts : List OT} {vs : List V} {A : List Addr} : G p = some (.tup vs) → OwnTs K G H ts vs A → OwnT K G H (.tup ts) (.ref p) A
  | dic {P : Program} {w : World} {p : Addr} {kb : List (NestedKey × Addr)} {ks : List PyData} {ts : List OT} {vs : List V} {A : List Addr} : H p = some (NkO P w p kb vs) → (kb.length = vs.length ∧ DpAll K G (kb.map fun x => .ref x.2) ks ∧ (∀ k ∈ ks, keyOk k) ∧ kb.map (·.1) = ks.map nkOf) → OwnTs K G H ts vs A → OwnT K G H (.dic P w ks ts) (.ref p) (p :: A)
  | obj {p dx : Addr} {C : Str} {fs : List Str} {ts : List OT} {vs : List V} {A : List Addr} : H p = some (.ins (He.ga K C) dx (fs.zip vs)) → H dx = some (.own p) → fs.length = vs.length → OwnTs K G H ts vs A → OwnT K G H (.obj C fs ts) (.ref p) (p :: dx :: A)
inductive OwnTs (K : PySem.W.Frag) (G H : Hp) : List OT → List V → List Addr → Prop
  | nil : OwnTs K G H [] [] []
  | cons {t : OT} {ts : List OT} {v : V} {vs : List V} {A A' : List Addr} : OwnT K G H t v A → OwnTs K G H ts vs A' → OwnTs K G H (t :: ts) (v :: vs) (A ++ A')
end
mutual
theorem ot_mono {K : PySem.W.Frag} {G G' H H' : Hp} (e : Same G G') : ∀ (t : OT) (v : V) (A : List Addr), OwnT K G H t v A → (∀ a ∈ A, H' a = H a) → OwnT K G' H' t v A
  | .dat x, _, _, h, _ => by
    cases h with
    | dat h => exact .dat (dp_mono e _ _ h)
  | .lst ts, _, _, h, k => by
    cases h with
    | lst h1 h2 => exact .lst ((k _ List.mem_cons_self).trans h1) (ots_mono e ts _ _ h2 fun a ha => k a (List.mem_cons_of_mem _ ha))
  | .tup ts, _, _, h, k => by
    cases h with
    | tup h1 h2 => exact .tup (e _ _ h1) (ots_mono e ts _ _ h2 k)
  | .dic _ _ _ ts, _, _, h, k => by
    cases h with
    | dic h1 h3 h2 => exact .dic ((k _ List.mem_cons_self).trans h1) ⟨h3.1, dpa_mono e _ _ h3.2.1, h3.2.2⟩ (ots_mono e ts _ _ h2 fun a ha => k a (List.mem_cons_of_mem _ ha))
  | .obj _ _ ts, _, _, h, k => by
    cases h with
    | obj h1 h3 h4 h2 => exact .obj ((k _ List.mem_cons_self).trans h1) ((k _ (List.mem_cons_of_mem _ List.mem_cons_self)).trans h3) h4 (ots_mono e ts _ _ h2 fun a ha => k a (List.mem_cons_of_mem _ (List.mem_cons_of_mem _ ha)))
theorem ots_mono {K : PySem.W.Frag} {G G' H H' : Hp} (e : Same G G') : ∀ (ts : List OT) (vs : List V) (A : List Addr), OwnTs K G H ts vs A → (∀ a ∈ A, H' a = H a) → OwnTs K G' H' ts vs A
  | [], _, _, h, _ => by cases h; exact .nil
  | t :: ts, _, _, h, k => by
    cases h with
    | cons h1 h2 => exact .cons (ot_mono e t _ _ h1 fun a ha => k a (List.mem_append_left _ ha)) (ots_mono e ts _ _ h2 fun a ha => k a (List.mem_append_right _ ha))
end
mutual
theorem ot_here {K : PySem.W.Frag} {G H : Hp} : ∀ (t : OT) (v : V) (A : List Addr), OwnT K G H t v A → ∀ a ∈ A, ∃ o, H a = some o ∧ isTup o = false
  | .dat x, _, _, h => by
    cases h with
    | dat h => intro a ha; cases ha
  | .lst ts, _, _, h => by
    cases h with
    | lst h1 h2 =>
      intro a ha
      rcases List.mem_cons.mp ha with rfl | z
      · exact ⟨_, h1, rfl⟩
      · exact ots_here ts _ _ h2 a z
  | .tup ts, _, _, h => by
    cases h with
    | tup h1 h2 => exact ots_here ts _ _ h2
  | .dic _ _ _ ts, _, _, h => by
    cases h with
    | dic h1 h3 h2 =>
      intro a ha
      rcases List.mem_cons.mp ha with rfl | z
      · exact ⟨_, h1, rfl⟩
      · exact ots_here ts _ _ h2 a z
  | .obj _ _ ts, _, _, h => by
    cases h with
    | obj h1 h3 h4 h2 =>
      intro a ha
      rcases List.mem_cons.mp ha with rfl | z
      · exact ⟨_, h1, rfl⟩
      · rcases List.mem_cons.mp z with rfl | z
        · exact ⟨_, h3, rfl⟩
        · exact ots_here ts _ _ h2 a z
theorem ots_here {K : PySem.W.Frag} {G H : Hp} : ∀ (ts : List OT) (vs : List V) (A : List Addr), OwnTs K G H ts vs A → ∀ a ∈ A, ∃ o, H a = some o ∧ isTup o = false
  | [], _, _, h => by cases h; intro a ha; cases ha
  | t :: ts, _, _, h => by
    cases h with
    | cons h1 h2 =>
      intro a ha
      rcases List.mem_append.mp ha with z | z
      · exact ot_here t _ _ h1 a z
      · exact ots_here ts _ _ h2 a z
end
/-! a tree of lists and tuples as data -/
mutual
def OT.isD : OT → Bool
  | .dat _ => true
  | .lst ts => OT.areD ts
  | .tup ts => OT.areD ts
  | .dic _ _ _ _ => false
  | .obj _ _ _ => false
def OT.areD : List OT → Bool
  | [] => true
  | t :: ts => OT.isD t && OT.areD ts
end
mutual
def OT.toD : OT → PyData
  | .dat x => x
  | .lst ts => .list (OT.toDs ts)
  | .tup ts => .tuple (OT.toDs ts)
  | .dic _ _ _ _ => .none
  | .obj _ _ _ => .none
def OT.toDs : List OT → List PyData
  | [] => []
  | t :: ts => OT.toD t :: OT.toDs ts
end
mutual
theorem ot_dp {K : PySem.W.Frag} {G G' H : Hp} (e : Same G G') : ∀ (t : OT) (v : V) (A : List Addr), OwnT K G H t v A → t.isD = true → (∀ a ∈ A, G' a = H a) → Dp K G' v t.toD
  | .dat x, _, _, h, _, _ => by
    cases h with
    | dat h => exact dp_mono e _ _ h
  | .lst ts, _, _, h, d, k => by
    cases h with
    | lst h1 h2 => exact .lst (.inl (.inl ((k _ List.mem_cons_self).trans h1))) (ots_dp e ts _ _ h2 d fun a ha => k a (List.mem_cons_of_mem _ ha))
  | .tup ts, _, _, h, d, k => by
    cases h with
    | tup h1 h2 => exact .tup (.inl (.inl (e _ _ h1))) (ots_dp e ts _ _ h2 d k)
  | .dic _ _ _ ts, _, _, h, d, k => by cases d
  | .obj _ _ ts, _, _, h, d, k => by cases d
theorem ots_dp {K : PySem.W.Frag} {G G' H : Hp} (e : Same G G') : ∀ (ts : List OT) (vs : List V) (A : List Addr), OwnTs K G H ts vs A → OT.areD ts = true → (∀ a ∈ A, G' a = H a) → DpAll K G' vs (OT.toDs ts)
  | [], _, _, h, _, _ => by cases h; exact .nil
  | t :: ts, _, _, h, d, k => by
    cases h with
    | cons h1 h2 =>
      have d : (OT.isD t && OT.areD ts) = true := d
      obtain ⟨d1, d2⟩ := Bool.and_eq_true_iff.mp d
      exact .cons (ot_dp e t _ _ h1 d1 fun a ha => k a (List.mem_append_left _ ha)) (ots_dp e ts _ _ h2 d2 fun a ha => k a (List.mem_append_right _ ha))
end
def Res.P (K : PySem.W.Frag) (G H : Hp) (v : V) (A : List Addr) : Res → Prop
  | .lst ds => OwnL K G H v A ds
  | .lstP P => ∃ ds, P ds ∧ OwnL K G H v A ds
  | .lls dss => OwnLL K G H v A dss
  | .gen R => R.P K G H v A
  | .dic kvs => OwnD K G H v A kvs
  | .tr t => OwnT K G H t v A
section
variable {K : PySem.W.Frag} {G G' H H' : Hp} {v : V} {A : List Addr}
theorem ownL_mono {ds : List PyData} (h : OwnL K G H v A ds) (e : Same G G') (k : ∀ a ∈ A, H' a = H a) : OwnL K G' H' v A ds := (by
  obtain ⟨p, vs, rfl, rfl, h1, h2⟩ := h
  exact ⟨p, vs, rfl, rfl, (k p (by simp)).trans h1, dpa_mono e _ _ h2⟩
  )
theorem ownLs_mono {ps : List Addr} {dss : List (List PyData)} (h : OwnLs K G H ps dss) (e : Same G G') (k : ∀ a ∈ ps, H' a = H a) : OwnLs K G' H' ps dss := (by
  induction h with
  | nil => exact .nil
  | cons h1 h2 _ ih => exact .cons ((k _ List.mem_cons_self).trans h1) (dpa_mono e _ _ h2) (ih fun a ha => k a (List.mem_cons_of_mem _ ha))
  )
theorem ownLs_here {ps : List Addr} {dss : List (List PyData)} (h : OwnLs K G H ps dss) : ∀ a ∈ ps, H a ≠ none := (by
  induction h with
  | nil => intro a ha; simp at ha
  | cons h1 h2 _ ih =>
    intro a ha
    rcases List.mem_cons.mp ha with rfl | z
    · rw [h1]; exact fun z => nomatch z
    · exact ih a z
  )
theorem Res.mono {R : Res} (h : R.P K G H v A) (e : Same G G') (k : ∀ a ∈ A, H' a = H a) : R.P K G' H' v A := (by
  cases R with
  | lst ds => exact ownL_mono h e k
  | lstP P =>
    obtain ⟨ds, p, q⟩ := h
    exact ⟨ds, p, ownL_mono q e k⟩
  | lls dss =>
    obtain ⟨p, ps, rfl, rfl, h1, h2⟩ := h
    exact ⟨p, ps, rfl, rfl, (k p List.mem_cons_self).trans h1, ownLs_mono h2 e fun a ha => k a (List.mem_cons_of_mem _ ha)⟩
  | gen R => exact R.loc _ _ _ _ _ _ (R.grow _ _ _ _ _ _ h e) k
  | dic kvs =>
    obtain ⟨p, ws, rfl, rfl, h1, h2⟩ := h
    exact ⟨p, ws, rfl, rfl, (k p (by simp)).trans h1, dicE_mono h2 e⟩
  | tr t => exact ot_mono e t _ _ h k
  )
theorem ownL_here {ds : List PyData} (h : OwnL K G H v A ds) : ∀ a ∈ A, H a ≠ none := (by
  obtain ⟨p, vs, rfl, rfl, h1, h2⟩ := h
  intro a ha
  obtain rfl : a = p := by simpa using ha
  rw [h1]
  exact fun z => nomatch z
  )
theorem Res.here {R : Res} (h : R.P K G H v A) : ∀ a ∈ A, H a ≠ none := (by
  cases R with
  | lst ds => exact ownL_here h
  | lstP P =>
    obtain ⟨ds, p, q⟩ := h
    exact ownL_here q
  | lls dss =>
    obtain ⟨p, ps, rfl, rfl, h1, h2⟩ := h
    intro a ha
    rcases List.mem_cons.mp ha with rfl | z
    · rw [h1]; exact fun z => nomatch z
    · exact ownLs_here h2 a z
  | gen R => exact R.here _ _ _ _ _ h
  | dic kvs =>
    obtain ⟨p, ws, rfl, rfl, h1, h2⟩ := h
    intro a ha
    obtain rfl : a = p := by simpa using ha
    rw [h1]
    exact fun z => nomatch z
  | tr t =>
    intro a ha
    obtain ⟨o, h1, _⟩ := ot_here t _ _ h a ha
    rw [h1]
    exact fun z => nomatch z
  )
theorem ownL_nt {ds : List PyData} (h : OwnL K G H v A ds) : ∀ a ∈ A, ∀ o, H a = some o → isTup o = false := (by
  obtain ⟨p, vs, rfl, rfl, h1, h2⟩ := h
  intro a ha o e
  obtain rfl : a = p := by simpa using ha
  rw [h1] at e
  cases e; rfl
  )
theorem ownLs_nt {ps : List Addr} {dss : List (List PyData)} (h : OwnLs K G H ps dss) : ∀ a ∈ ps, ∀ o, H a = some o → isTup o = false := (by
  induction h with
  | nil => intro a ha; simp at ha
  | cons h1 h2 _ ih =>
    intro a ha o e
    rcases List.mem_cons.mp ha with rfl | z
    · rw [h1] at e
      cases e; rfl
    · exact ih a z o e
  )
theorem Res.nt {R : Res} (h : R.P K G H v A) : ∀ a ∈ A, ∀ o, H a = some o → isTup o = false := (by
  cases R with
  | lst ds => exact ownL_nt h
  | lstP P =>
    obtain ⟨ds, p, q⟩ := h
    exact ownL_nt q
  | lls dss =>
    obtain ⟨p, ps, rfl, rfl, h1, h2⟩ := h
    intro a ha o e
    rcases List.mem_cons.mp ha with rfl | z
    · rw [h1] at e
      cases e; rfl
    · exact ownLs_nt h2 a z o e
  | gen R => exact R.nt _ _ _ _ _ h
  | dic kvs =>
    obtain ⟨p, ws, rfl, rfl, h1, h2⟩ := h
    intro a ha o e
    obtain rfl : a = p := by simpa using ha
    rw [h1] at e
    cases e; rfl
  | tr t =>
    intro a ha o e
    obtain ⟨o', h1, h2⟩ := ot_here t _ _ h a ha
    rw [h1] at e
    cases e; exact h2
  )
end

/-! ### slots -/
/-- a frozen thing of any kind -/
structure FrG where
  P : PySem.W.Frag → Hp → V → Prop
  grow : ∀ K G G' v, P K G v → Same G G' → P K G' v
  ks : List PyData := []
  ds : List PyData := []
/-- a thing that came in from outside: its value, the addresses it had -/
structure Lt where
  v : V
  al : List Addr
/-- what a slot holds: nothing known; data; an owned thing (w: its value where it came in from outside, none where it was made here) -/
inductive S where
  | no
  | d (x : PyData)
  | f (F : FrG)
  | o (w : Option Lt) (R : Res)
abbrev Ctx := List S
/-- the def's entry: the heap, the ghost, what it may change -/
structure Base where
  H0 : Hp
  G0 : Hp
  io : List Addr
def WOk (B : Base) (w : Option Lt) (v : V) (A : List Addr) : Prop := match w with
  | none => ∀ a ∈ A, B.H0 a = none
  | some u => v = u.v ∧ ∀ a ∈ A, a ∈ u.al ∨ B.H0 a = none
inductive Reps (K : PySem.W.Frag) (B : Base) (G H : Hp) : Ctx → List (Option V) → List Addr → Prop
  | nil : Reps K B G H [] [] []
  | no {x : Option V} {c : Ctx} {s : List (Option V)} {A : List Addr} : Reps K B G H c s A → Reps K B G H (.no :: c) (x :: s) A
  | d {v : V} {x : PyData} {c : Ctx} {s : List (Option V)} {A : List Addr} : Dp K G v x → Reps K B G H c s A → Reps K B G H (.d x :: c) (some v :: s) A
  | f {v : V} {F : FrG} {c : Ctx} {s : List (Option V)} {A : List Addr} : F.P K G v → Reps K B G H c s A → Reps K B G H (.f F :: c) (some v :: s) A
  | o {w : Option Lt} {v : V} {R : Res} {c : Ctx} {s : List (Option V)} {A A' : List Addr} : R.P K G H v A → WOk B w v A → Reps K B G H c s A' → Reps K B G H (.o w R :: c) (some v :: s) (A ++ A')
structure Wd (B : Base) (G H : Hp) (A : List Addr) : Prop where
  sub : Same G H
  nd : A.Nodup
  out : ∀ a ∈ A, G a = none
  old : Same B.G0 G
  stay : ∀ a o, B.H0 a = some o → a ∉ B.io → H a = some o
  dom : ∀ a, H a = none → B.H0 a = none
  newG : ∀ a, a ∉ B.io → B.H0 a ≠ none → G a = B.G0 a ∨ tupAt B.H0 a
  lim : ∀ a ∈ A, a ∈ B.io ∨ B.H0 a = none
structure Stt (K : PySem.W.Frag) (B : Base) (c : Ctx) (s : List (Option V)) (G H : Hp) : Prop where
  ex : ∃ A, Reps K B G H c s A ∧ Wd B G H A

section
variable {K : PySem.W.Frag} {B : Base} {G G' H H' : Hp} {c : Ctx} {s : List (Option V)} {A : List Addr}
theorem Reps.mono (h : Reps K B G H c s A) (e : Same G G') (k : ∀ a ∈ A, H' a = H a) : Reps K B G' H' c s A := (by
  induction h with
  | nil => exact .nil
  | no _ ih => exact .no (ih k)
  | d h _ ih => exact .d (dp_mono e _ _ h) (ih k)
  | f h _ ih => exact .f (FrG.grow _ _ _ _ _ h e) (ih k)
  | o h w _ ih => exact .o (Res.mono h e fun a ha => k a (List.mem_append_left _ ha)) w (ih fun a ha => k a (List.mem_append_right _ ha))
  )
theorem Reps.here (h : Reps K B G H c s A) : ∀ a ∈ A, H a ≠ none := (by
  induction h with
  | nil => intro a ha; simp at ha
  | no _ ih => exact ih
  | d h _ ih => exact ih
  | f h _ ih => exact ih
  | o h w _ ih =>
    intro a ha
    rcases List.mem_append.mp ha with z | z
    · exact Res.here h a z
    · exact ih a z
  )
theorem Reps.nt (h : Reps K B G H c s A) : ∀ a ∈ A, ∀ o, H a = some o → isTup o = false := (by
  induction h with
  | nil => intro a ha; simp at ha
  | no _ ih => exact ih
  | d h _ ih => exact ih
  | f h _ ih => exact ih
  | o h w _ ih =>
    intro a ha
    rcases List.mem_append.mp ha with z | z
    · exact Res.nt h a z
    · exact ih a z
  )
theorem Reps.len (h : Reps K B G H c s A) : s.length = c.length := (by
  induction h with
  | nil => rfl
  | no _ ih => simp [ih]
  | d _ _ ih => simp [ih]
  | f _ _ ih => simp [ih]
  | o _ _ _ ih => simp [ih]
  )
theorem Reps.get_d (h : Reps K B G H c s A) : ∀ {i : Nat} {x : PyData}, c[i]? = some (.d x) → ∃ v, s[i]? = some (some v) ∧ Dp K G v x := (by
  induction h with
  | nil => intro i x e; simp at e
  | no _ ih =>
    intro i x e
    cases i with
    | zero => simp at e
    | succ i => simpa using ih (by simpa using e)
  | d h _ ih =>
    intro i x e
    cases i with
    | zero => simp at e; subst e; exact ⟨_, rfl, h⟩
    | succ i => simpa using ih (by simpa using e)
  | f h _ ih =>
    intro i x e
    cases i with
    | zero => simp at e
    | succ i => simpa using ih (by simpa using e)
  | o h w _ ih =>
    intro i x e
    cases i with
    | zero => simp at e
    | succ i => simpa using ih (by simpa using e)
  )
/-- slot j forgotten, or data laid there -/
theorem Reps.set_no (h : Reps K B G H c s A) : ∀ (j : Nat) (x : Option V), ∃ A', Reps K B G H (c.set j .no) (s.set j x) A' ∧ A'.Sublist A := (by
  induction h with
  | nil => intro j x; exact ⟨[], by simpa using .nil, List.Sublist.refl _⟩
  | no h ih =>
    intro j x
    cases j with
    | zero => exact ⟨_, .no h, List.Sublist.refl _⟩
    | succ j =>
      obtain ⟨A', r, q⟩ := ih j x
      exact ⟨A', .no r, q⟩
  | d hd h ih =>
    intro j x
    cases j with
    | zero => exact ⟨_, .no h, List.Sublist.refl _⟩
    | succ j =>
      obtain ⟨A', r, q⟩ := ih j x
      exact ⟨A', .d hd r, q⟩
  | f hd h ih =>
    intro j x
    cases j with
    | zero => exact ⟨_, .no h, List.Sublist.refl _⟩
    | succ j =>
      obtain ⟨A', r, q⟩ := ih j x
      exact ⟨A', .f hd r, q⟩
  | o ho w h ih =>
    intro j x
    cases j with
    | zero => exact ⟨_, .no h, List.sublist_append_right _ _⟩
    | succ j =>
      obtain ⟨A', r, q⟩ := ih j x
      exact ⟨_, .o ho w r, List.Sublist.append (List.Sublist.refl _) q⟩
  )
theorem Reps.set_d {v : V} {x : PyData} (hx : Dp K G v x) (h : Reps K B G H c s A) : ∀ (j : Nat), ∃ A', Reps K B G H (c.set j (.d x)) (s.set j (some v)) A' ∧ A'.Sublist A := (by
  induction h with
  | nil => intro j; exact ⟨[], by simpa using .nil, List.Sublist.refl _⟩
  | no h ih =>
    intro j
    cases j with
    | zero => exact ⟨_, .d hx h, List.Sublist.refl _⟩
    | succ j =>
      obtain ⟨A', r, q⟩ := ih j
      exact ⟨A', .no r, q⟩
  | d hd h ih =>
    intro j
    cases j with
    | zero => exact ⟨_, .d hx h, List.Sublist.refl _⟩
    | succ j =>
      obtain ⟨A', r, q⟩ := ih j
      exact ⟨A', .d hd r, q⟩
  | f hd h ih =>
    intro j
    cases j with
    | zero => exact ⟨_, .d hx h, List.Sublist.refl _⟩
    | succ j =>
      obtain ⟨A', r, q⟩ := ih j
      exact ⟨A', .f hd r, q⟩
  | o ho w h ih =>
    intro j
    cases j with
    | zero => exact ⟨_, .d hx h, List.sublist_append_right _ _⟩
    | succ j =>
      obtain ⟨A', r, q⟩ := ih j
      exact ⟨_, .o ho w r, List.Sublist.append (List.Sublist.refl _) q⟩
  )
/-- an owned thing laid into slot j -/
theorem Reps.set_o {v : V} {w : Option Lt} {R : Res} {A1 : List Addr} (hR : R.P K G H v A1) (hw : WOk B w v A1) (h : Reps K B G H c s A) : ∀ (j : Nat), (A1 ++ A).Nodup →
    ∃ A', Reps K B G H (c.set j (.o w R)) (s.set j (some v)) A' ∧ A'.Nodup ∧ ∀ a ∈ A', a ∈ A1 ++ A := (by
  induction h with
  | nil => intro j nd; exact ⟨[], by simpa using .nil, List.nodup_nil, fun a ha => by simp at ha⟩
  | no h ih =>
    intro j nd
    cases j with
    | zero => exact ⟨_, .o hR hw h, nd, fun a ha => ha⟩
    | succ j =>
      obtain ⟨A', r, q⟩ := ih j nd
      exact ⟨A', .no r, q⟩
  | d hd h ih =>
    intro j nd
    cases j with
    | zero => exact ⟨_, .o hR hw h, nd, fun a ha => ha⟩
    | succ j =>
      obtain ⟨A', r, q⟩ := ih j nd
      exact ⟨A', .d hd r, q⟩
  | f hd h ih =>
    intro j nd
    cases j with
    | zero => exact ⟨_, .o hR hw h, nd, fun a ha => ha⟩
    | succ j =>
      obtain ⟨A', r, q⟩ := ih j nd
      exact ⟨A', .f hd r, q⟩
  | @o w2 v2 R2 c2 s2 Ah At ho hw2 h ih =>
    intro j nd
    have n1 : (A1 ++ At).Nodup := nd.sublist (List.Sublist.append (List.Sublist.refl _) (List.sublist_append_right _ _))
    cases j with
    | zero => exact ⟨_, .o hR hw h, n1, fun a ha => by
        rcases List.mem_append.mp ha with z | z
        · exact List.mem_append_left _ z
        · exact List.mem_append_right _ (List.mem_append_right _ z)⟩
    | succ j =>
      obtain ⟨A', r, n2, q⟩ := ih j n1
      refine ⟨Ah ++ A', .o ho hw2 r, ?_, fun a ha => ?_⟩
      · have n3 : (Ah ++ At).Nodup := nd.sublist (List.sublist_append_right _ _)
        refine List.nodup_append.mpr ⟨(List.nodup_append.mp n3).1, n2, fun a ha b hb e => ?_⟩
        subst e
        rcases List.mem_append.mp (q a hb) with z | z
        · exact (List.nodup_append.mp nd).2.2 a z a (List.mem_append_left _ ha) rfl
        · exact (List.nodup_append.mp n3).2.2 a ha a z rfl
      · rcases List.mem_append.mp ha with z | z
        · exact List.mem_append_right _ (List.mem_append_left _ z)
        · rcases List.mem_append.mp (q a z) with z | z
          · exact List.mem_append_left _ z
          · exact List.mem_append_right _ (List.mem_append_right _ z)
  )
/-- slot j looked at and changed -/
theorem Reps.focus (h : Reps K B G H c s A) : ∀ {j : Nat} {w : Option Lt} {R : Res}, A.Nodup → c[j]? = some (.o w R) →
    ∃ v A1, s[j]? = some (some v) ∧ R.P K G H v A1 ∧ WOk B w v A1 ∧ A1.Nodup ∧ (∀ a ∈ A1, a ∈ A) ∧
      ∀ {G' H' : Hp} {R' : Res} {w' : Option Lt} {A1' : List Addr}, Same G G' → (∀ a ∈ A, a ∉ A1 → H' a = H a) → R'.P K G' H' v A1' → WOk B w' v A1' → A1'.Nodup → (∀ a ∈ A1', a ∈ A1 ∨ a ∉ A) →
        ∃ A', Reps K B G' H' (c.set j (.o w' R')) s A' ∧ A'.Nodup ∧ ∀ a ∈ A', a ∈ A1' ∨ (a ∈ A ∧ a ∉ A1) := (by
  induction h with
  | nil => intro j w R nd e; simp at e
  | no h ih =>
    intro j w R nd e
    cases j with
    | zero => simp at e
    | succ j =>
      obtain ⟨v, A1, h1, h2, h3, h4, h5, k⟩ := ih nd (by simpa using e)
      refine ⟨v, A1, by simpa using h1, h2, h3, h4, h5, fun {G' H' R' w' A1'} e1 e2 e3 e4 e5 e6 => ?_⟩
      obtain ⟨A', r, q⟩ := k e1 e2 e3 e4 e5 e6
      exact ⟨A', .no r, q⟩
  | d hd h ih =>
    intro j w R nd e
    cases j with
    | zero => simp at e
    | succ j =>
      obtain ⟨v, A1, h1, h2, h3, h4, h5, k⟩ := ih nd (by simpa using e)
      refine ⟨v, A1, by simpa using h1, h2, h3, h4, h5, fun {G' H' R' w' A1'} e1 e2 e3 e4 e5 e6 => ?_⟩
      obtain ⟨A', r, q⟩ := k e1 e2 e3 e4 e5 e6
      exact ⟨A', .d (dp_mono e1 _ _ hd) r, q⟩
  | f hd h ih =>
    intro j w R nd e
    cases j with
    | zero => simp at e
    | succ j =>
      obtain ⟨v, A1, h1, h2, h3, h4, h5, k⟩ := ih nd (by simpa using e)
      refine ⟨v, A1, by simpa using h1, h2, h3, h4, h5, fun {G' H' R' w' A1'} e1 e2 e3 e4 e5 e6 => ?_⟩
      obtain ⟨A', r, q⟩ := k e1 e2 e3 e4 e5 e6
      exact ⟨A', .f (FrG.grow _ _ _ _ _ hd e1) r, q⟩
  | @o w2 v2 R2 c2 s2 Ah At ho hw2 h ih =>
    intro j w R nd e
    obtain ⟨n1, n2, n3⟩ := List.nodup_append.mp nd
    cases j with
    | zero =>
      have e' : S.o w2 R2 = S.o w R := by simpa using e
      cases e'
      refine ⟨v2, Ah, rfl, ho, hw2, n1, fun a ha => List.mem_append_left _ ha, fun {G' H' R' w' A1'} e1 e2 e3 e4 e5 e6 => ?_⟩
      have nin : ∀ a ∈ At, a ∉ Ah := fun a ha z => n3 a z a ha rfl
      refine ⟨A1' ++ At, .o e3 e4 (h.mono e1 fun a ha => e2 a (List.mem_append_right _ ha) (nin a ha)), ?_, fun a ha => ?_⟩
      · refine List.nodup_append.mpr ⟨e5, n2, fun a ha b hb e => ?_⟩
        subst e
        rcases e6 a ha with z | z
        · exact nin a hb z
        · exact z (List.mem_append_right _ hb)
      · rcases List.mem_append.mp ha with z | z
        · exact .inl z
        · exact .inr ⟨List.mem_append_right _ z, nin a z⟩
    | succ j =>
      obtain ⟨v, A1, h1, h2, h3, h4, h5, k⟩ := ih n2 (by simpa using e)
      refine ⟨v, A1, by simpa using h1, h2, h3, h4, fun a ha => List.mem_append_right _ (h5 a ha), fun {G' H' R' w' A1'} e1 e2 e3 e4 e5 e6 => ?_⟩
      have nA1 : ∀ a ∈ Ah, a ∉ A1 := fun a ha z => n3 a ha a (h5 a z) rfl
      obtain ⟨A', r, m1, m2⟩ := k e1 (fun a ha hn => e2 a (List.mem_append_right _ ha) hn) e3 e4 e5 (fun a ha => by
        rcases e6 a ha with z | z
        · exact .inl z
        · exact .inr fun y => z (List.mem_append_right _ y))
      refine ⟨Ah ++ A', .o (Res.mono ho e1 fun a ha => e2 a (List.mem_append_left _ ha) (nA1 a ha)) hw2 r, ?_, fun a ha => ?_⟩
      · refine List.nodup_append.mpr ⟨n1, m1, fun a ha b hb e => ?_⟩
        subst e
        rcases m2 a hb with z | ⟨z, _⟩
        · rcases e6 a z with y | y
          · exact nA1 a ha y
          · exact y (List.mem_append_left _ ha)
        · exact n3 a ha a z rfl
      · rcases List.mem_append.mp ha with z | z
        · exact .inr ⟨List.mem_append_left _ z, nA1 a z⟩
        · rcases m2 a z with y | ⟨y1, y2⟩
          · exact .inl y
          · exact .inr ⟨List.mem_append_right _ y1, y2⟩
  )
theorem Wd.sub_of (h : Wd B G H A) {A' : List Addr} (q : A'.Sublist A) : Wd B G H A' :=
  ⟨h.sub, h.nd.sublist q, fun a ha => h.out a (q.subset ha), h.old, h.stay, h.dom, h.newG, fun a ha => h.lim a (q.subset ha)⟩
end

/-! ### steps of the state -/
section
variable {K : PySem.W.Frag} {B : Base} {G G' H H' : Hp} {c : Ctx} {s : List (Option V)}
theorem Stt.sub (h : Stt K B c s G H) : Same G H := let ⟨_, _, w⟩ := h.ex; w.sub
theorem Stt.get_d (h : Stt K B c s G H) {i : Nat} {x : PyData} (e : c[i]? = some (.d x)) : ∃ v, s[i]? = some (some v) ∧ Dp K G v x :=
  let ⟨_, r, _⟩ := h.ex; r.get_d e
theorem Stt.set_d (h : Stt K B c s G H) (j : Nat) {v : V} {x : PyData} (hx : Dp K G v x) : Stt K B (c.set j (.d x)) (s.set j (some v)) G H := (by
  obtain ⟨A, r, w⟩ := h.ex
  obtain ⟨A', r', q⟩ := r.set_d hx j
  exact ⟨A', r', w.sub_of q⟩
  )
theorem Stt.set_no (h : Stt K B c s G H) (j : Nat) (x : Option V) : Stt K B (c.set j .no) (s.set j x) G H := (by
  obtain ⟨A, r, w⟩ := h.ex
  obtain ⟨A', r', q⟩ := r.set_no j x
  exact ⟨A', r', w.sub_of q⟩
  )
/-- data pushed on top, and popped -/
theorem Stt.push_d (h : Stt K B c s G H) {v : V} {x : PyData} (hx : Dp K G v x) : Stt K B (.d x :: c) (some v :: s) G H := (by
  obtain ⟨A, r, w⟩ := h.ex
  exact ⟨A, .d hx r, w⟩
  )
theorem Stt.pop {x : S} {v : Option V} (h : Stt K B (x :: c) (v :: s) G H) : Stt K B c s G H := (by
  obtain ⟨A, r, w⟩ := h.ex
  cases r with
  | no r => exact ⟨A, r, w⟩
  | d _ r => exact ⟨A, r, w⟩
  | f _ r => exact ⟨A, r, w⟩
  | o _ _ r => exact ⟨_, r, w.sub_of (List.sublist_append_right _ _)⟩
  )
/-- the owned thing on top goes to slot j -/
theorem Stt.set_o {wo : Option Lt} {R : Res} {v : V} (h : Stt K B (.o wo R :: c) (some v :: s) G H) (j : Nat) : Stt K B (c.set j (.o wo R)) (s.set j (some v)) G H := (by
  obtain ⟨A, r, w⟩ := h.ex
  cases r with
  | o h1 h2 r =>
    obtain ⟨A', r', n, q⟩ := r.set_o h1 h2 j w.nd
    exact ⟨A', r', w.sub, n, fun a ha => w.out a (q a ha), w.old, w.stay, w.dom, w.newG, fun a ha => w.lim a (q a ha)⟩
  )
/-- a new frozen object -/
theorem Stt.laid (h : Stt K B c s G H) {p : Addr} {o : HO} (hp : H p = none) : Stt K B c s (upd G p o) (upd H p o) ∧ Same G (upd G p o) := (by
  obtain ⟨A, r, w⟩ := h.ex
  have gp : G p = none := w.sub.free hp
  have e : Same G (upd G p o) := fun b u q => by rw [upd_ne (ne_of_none q gp)]; exact q
  have np : ∀ a ∈ A, a ≠ p := fun a ha z => r.here a ha (by rw [z]; exact hp)
  have h0 : B.H0 p = none := w.dom p hp
  have n0 : ∀ a, B.H0 a ≠ none → a ≠ p := fun a ha z => ha (by rw [z]; exact h0)
  refine ⟨⟨A, r.mono e fun a ha => upd_ne (np a ha), fun b u q => ?_, w.nd, fun a ha => by rw [upd_ne (np a ha)]; exact w.out a ha, w.old.trans e, fun a u q hi => ?_, fun a q => ?_, fun a i q => by rw [upd_ne (n0 a q)]; exact w.newG a i q, w.lim⟩, e⟩
  · by_cases hb : b = p
    · subst hb; rw [upd_same] at q ⊢; exact q
    · rw [upd_ne hb] at q ⊢; exact w.sub b u q
  · rw [upd_ne (n0 a (by rw [q]; exact fun z => nomatch z))]
    exact w.stay a u q hi
  · by_cases hb : a = p
    · subst hb; exact h0
    · rw [upd_ne hb] at q; exact w.dom a q
  )
/-- a new owned list -/
theorem Stt.laidL (h : Stt K B c s G H) {p : Addr} {vs : List V} {ds : List PyData} (hp : H p = none) (hd : DpAll K G vs ds) : Stt K B (.o none (.lst ds) :: c) (some (.ref p) :: s) G (upd H p (.lst vs)) := (by
  obtain ⟨A, r, w⟩ := h.ex
  have np : ∀ a ∈ A, a ≠ p := fun a ha z => r.here a ha (by rw [z]; exact hp)
  have h0 : B.H0 p = none := w.dom p hp
  have n0 : ∀ a, B.H0 a ≠ none → a ≠ p := fun a ha z => ha (by rw [z]; exact h0)
  have gp : G p = none := w.sub.free hp
  refine ⟨[p] ++ A, .o (R := .lst ds) ⟨p, vs, rfl, rfl, upd_same, hd⟩ (fun a ha => ?_) (r.mono (Same.refl _) fun a ha => upd_ne (np a ha)), fun b u q => ?_, ?_, fun a ha => ?_, w.old, fun a u q hi => ?_, fun a q => ?_, w.newG, fun a ha => ?_⟩
  · obtain rfl : a = p := by simpa using ha
    exact h0
  · rw [upd_ne (ne_of_none q gp)]; exact w.sub b u q
  · exact List.nodup_append.mpr ⟨by simp, w.nd, fun a ha b hb e => np b hb (by rw [← e]; simpa using ha)⟩
  · rcases List.mem_append.mp ha with z | z
    · obtain rfl : a = p := by simpa using z
      exact gp
    · exact w.out a z
  · rw [upd_ne (n0 a (by rw [q]; exact fun z => nomatch z))]
    exact w.stay a u q hi
  · by_cases hb : a = p
    · subst hb; exact h0
    · rw [upd_ne hb] at q; exact w.dom a q
  · rcases List.mem_append.mp ha with z | z
    · obtain rfl : a = p := by simpa using z
      exact .inr h0
    · exact w.lim a z
  )
/-- an owned list made here is frozen -/
theorem Stt.frz {ds : List PyData} {v : V} (h : Stt K B (.o none (.lst ds) :: c) (some v :: s) G H) : ∃ G', Stt K B c s G' H ∧ Same G G' ∧ Dp K G' v (.list ds) := (by
  obtain ⟨A, r, w⟩ := h.ex
  cases r with
  | @o _ _ _ _ _ Ah At h1 h2 r =>
    obtain ⟨p, vs, rfl, rfl, hp, hd⟩ := h1
    have gp : G p = none := w.out p (by simp)
    have h0 : B.H0 p = none := h2 p (by simp)
    have n0 : ∀ a, B.H0 a ≠ none → a ≠ p := fun a ha z => ha (by rw [z]; exact h0)
    have e : Same G (upd G p (.lst vs)) := fun b u q => by rw [upd_ne (ne_of_none q gp)]; exact q
    obtain ⟨n1, n2, n3⟩ := List.nodup_append.mp w.nd
    have np : ∀ a ∈ At, a ≠ p := fun a ha z => n3 p (by simp) a ha z.symm
    refine ⟨upd G p (.lst vs), ⟨At, r.mono e fun a ha => rfl, fun b u q => ?_, n2, fun a ha => by rw [upd_ne (np a ha)]; exact w.out a (List.mem_append_right _ ha), w.old.trans e, w.stay, w.dom, fun a i q => by rw [upd_ne (n0 a q)]; exact w.newG a i q, fun a ha => w.lim a (List.mem_append_right _ ha)⟩, e, .lst (.inl (.inl upd_same)) (dpa_mono e _ _ hd)⟩
    by_cases hb : b = p
    · subst hb; rw [upd_same] at q; rw [← q]; exact hp
    · rw [upd_ne hb] at q; exact w.sub b u q
  )
/-- what an owned thing may be frozen to -/
def Res.fz : Res → (PyData → Prop) → Prop
  | .lst ds, Q => Q (.list ds)
  | .lstP P, Q => ∀ ds, P ds → Q (.list ds)
  | .lls dss, Q => Q (.list (dss.map PyData.list))
  | .gen _, _ => False
  | .dic _, _ => False
  | .tr t, Q => t.isD = true ∧ Q t.toD
/-- the owned thing on top, frozen whole -/
theorem Stt.frzA {R : Res} {v : V} (h : Stt K B (.o none R :: c) (some v :: s) G H) : ∃ G' A, Stt K B c s G' H ∧ Same G G' ∧ R.P K G H v A ∧ (∀ a ∈ A, G' a = H a) := (by
  obtain ⟨A, r, w⟩ := h.ex
  cases r with
  | @o _ _ _ _ _ Ah At h1 h2 r =>
    obtain ⟨n1, n2, n3⟩ := List.nodup_append.mp w.nd
    have h2 : ∀ a ∈ Ah, B.H0 a = none := h2
    let G' : Hp := fun a => if a ∈ Ah then H a else G a
    have gi : ∀ a ∈ Ah, G' a = H a := fun a ha => if_pos ha
    have gn : ∀ a, a ∉ Ah → G' a = G a := fun a ha => if_neg ha
    have e : Same G G' := fun a o q => by
      have ha : a ∉ Ah := fun z => by rw [w.out a (List.mem_append_left _ z)] at q; cases q
      rw [gn a ha]; exact q
    have nt : ∀ a ∈ At, a ∉ Ah := fun a ha z => n3 a z a ha rfl
    refine ⟨G', Ah, ⟨At, r.mono e fun a ha => rfl, fun a o q => ?_, n2, fun a ha => by rw [gn a (nt a ha)]; exact w.out a (List.mem_append_right _ ha), w.old.trans e, w.stay, w.dom, fun a i q => ?_, fun a ha => w.lim a (List.mem_append_right _ ha)⟩, e, h1, gi⟩
    · by_cases ha : a ∈ Ah
      · rw [gi a ha] at q; exact q
      · rw [gn a ha] at q; exact w.sub a o q
    · rw [gn a fun z => q (h2 a z)]
      exact w.newG a i q
  )
theorem dpa_lists {ps : List Addr} {dss : List (List PyData)} (h : OwnLs K G H ps dss) (e : Same G G') (k : ∀ a ∈ ps, G' a = H a) : DpAll K G' (ps.map V.ref) (dss.map PyData.list) := (by
  induction h with
  | nil => exact .nil
  | cons h1 h2 _ ih => exact .cons (.lst (.inl (.inl ((k _ List.mem_cons_self).trans h1))) (dpa_mono e _ _ h2)) (ih fun a ha => k a (List.mem_cons_of_mem _ ha))
  )
theorem Stt.frzR {R : Res} {v : V} {Q : PyData → Prop} (h : Stt K B (.o none R :: c) (some v :: s) G H) (q : R.fz Q) : ∃ G' d, Stt K B c s G' H ∧ Same G G' ∧ Dp K G' v d ∧ Q d := (by
  cases R with
  | lst ds =>
    obtain ⟨G', a, b, d⟩ := h.frz
    exact ⟨G', _, a, b, d, q⟩
  | lstP P =>
    obtain ⟨A, r, w⟩ := h.ex
    cases r with
    | o h1 h2 r =>
      obtain ⟨ds, p, h1⟩ := h1
      obtain ⟨G', a, b, d⟩ := Stt.frz (ds := ds) ⟨_, .o (R := .lst ds) h1 h2 r, w⟩
      exact ⟨G', _, a, b, d, q ds p⟩
  | lls dss =>
    obtain ⟨G', A, a, b, ⟨p, ps, rfl, rfl, h1, h2⟩, g⟩ := h.frzA
    exact ⟨G', _, a, b, .lst (.inl (.inl ((g p List.mem_cons_self).trans h1))) (dpa_lists h2 b fun a ha => g a (List.mem_cons_of_mem _ ha)), q⟩
  | gen _ => exact q.elim
  | dic _ => exact q.elim
  | tr t =>
    obtain ⟨G', A, a, b, h, g⟩ := h.frzA
    exact ⟨G', _, a, b, ot_dp b t _ _ h q.1 g, q.2⟩
  )
/-- the owned list at slot j: read, written -/
theorem Stt.own (h : Stt K B c s G H) {j : Nat} {wo : Option Lt} {ds : List PyData} (e : c[j]? = some (.o wo (.lst ds))) :
    ∃ p vs, s[j]? = some (some (.ref p)) ∧ H p = some (.lst vs) ∧ DpAll K G vs ds ∧ 
      ∀ vs' ds', DpAll K G vs' ds' → Stt K B (c.set j (.o wo (.lst ds'))) s G (upd H p (.lst vs')) := (by
  obtain ⟨A, r, w⟩ := h.ex
  obtain ⟨v, A1, h1, h2, h3, h4, h5, k⟩ := r.focus w.nd e
  obtain ⟨p, vs, rfl, rfl, hp, hd⟩ := h2
  refine ⟨p, vs, h1, hp, hd, fun vs' ds' hd' => ?_⟩
  · have gp : G p = none := w.out p (h5 p (by simp))
    obtain ⟨A', r', n, q⟩ := k (G' := G) (H' := upd H p (.lst vs')) (R' := .lst ds') (w' := wo) (A1' := [p]) (Same.refl _) (fun a ha hn => upd_ne fun z => hn (by simp [z])) ⟨p, vs', rfl, rfl, upd_same, hd'⟩ h3 (by simp) (fun a ha => .inl ha)
    have q' : ∀ a ∈ A', a ∈ A := fun a ha => by
      rcases q a ha with z | z
      · exact h5 a z
      · exact z.1
    refine ⟨A', r', fun b u q => ?_, n, fun a ha => w.out a (q' a ha), w.old, fun a u q hi => ?_, fun a q => ?_, w.newG, fun a ha => w.lim a (q' a ha)⟩
    · rw [upd_ne (ne_of_none q gp)]; exact w.sub b u q
    · have z := w.stay a u q hi
      rw [upd_ne]
      · exact z
      · rintro rfl
        rcases w.lim a (h5 a (by simp)) with y | y
        · exact hi y
        · have q2 : B.H0 a = some u := by assumption
          rw [y] at q2; cases q2
    · by_cases hb : a = p
      · subst hb; rw [upd_same] at q; cases q
      · rw [upd_ne hb] at q; exact w.dom a q
  )
/-- a list of which a fact is known: its items told; and forgotten again -/
theorem Stt.open_ (h : Stt K B c s G H) {j : Nat} {wo : Option Lt} {P : List PyData → Prop} (e : c[j]? = some (.o wo (.lstP P))) : ∃ ds, P ds ∧ Stt K B (c.set j (.o wo (.lst ds))) s G H := (by
  obtain ⟨A, r, w⟩ := h.ex
  obtain ⟨v, A1, h1, h2, h3, h4, h5, k⟩ := r.focus w.nd e
  obtain ⟨ds, hP, h2⟩ := h2
  obtain ⟨A', r', n, q⟩ := k (G' := G) (H' := H) (R' := .lst ds) (w' := wo) (A1' := A1) (Same.refl _) (fun _ _ _ => rfl) h2 h3 h4 fun a ha => .inl ha
  have q' : ∀ a ∈ A', a ∈ A := fun a ha => by
    rcases q a ha with z | z
    · exact h5 a z
    · exact z.1
  exact ⟨ds, hP, ⟨A', r', w.sub, n, fun a ha => w.out a (q' a ha), w.old, w.stay, w.dom, w.newG, fun a ha => w.lim a (q' a ha)⟩⟩
  )
theorem Stt.shut (h : Stt K B c s G H) {j : Nat} {wo : Option Lt} {ds : List PyData} {P : List PyData → Prop} (e : c[j]? = some (.o wo (.lst ds))) (hP : P ds) : Stt K B (c.set j (.o wo (.lstP P))) s G H := (by
  obtain ⟨A, r, w⟩ := h.ex
  obtain ⟨v, A1, h1, h2, h3, h4, h5, k⟩ := r.focus w.nd e
  obtain ⟨A', r', n, q⟩ := k (G' := G) (H' := H) (R' := .lstP P) (w' := wo) (A1' := A1) (Same.refl _) (fun _ _ _ => rfl) ⟨ds, hP, h2⟩ h3 h4 fun a ha => .inl ha
  have q' : ∀ a ∈ A', a ∈ A := fun a ha => by
    rcases q a ha with z | z
    · exact h5 a z
    · exact z.1
  exact ⟨A', r', w.sub, n, fun a ha => w.out a (q' a ha), w.old, w.stay, w.dom, w.newG, fun a ha => w.lim a (q' a ha)⟩
  )
end
end Dl

/-! Readings over data: expressions, tests, statements. -/
namespace Dl
open PySem PySem.Spec PyProof.Rows L2

abbrev TD := Ctx → (PyData → Ctx → Prop) → Prop
abbrev TB := Ctx → (Bool → Ctx → Prop) → Prop
abbrev TL := Ctx → (List PyData → Ctx → Prop) → Prop
abbrev TR := Ctx → (Res → Ctx → Prop) → Prop

def DEv (K : PySem.W.Frag) (te : TE) (t : TD) : Prop := ∀ (B : Base) (c : Ctx) (s : L2.St) (G H : Hp) (Q : PyData → Ctx → Prop) (R : VK), Stt K B c s G H → t c Q →
  (∀ v x c' G' H', Stt K B c' s G' H' → Same G G' → Dp K G' v x → Q x c' → R v H') → te s H R
def DTv (K : PySem.W.Frag) (te : TT) (t : TB) : Prop := ∀ (B : Base) (c : Ctx) (s : L2.St) (G H : Hp) (Q : Bool → Ctx → Prop) (R : Bool → Hp → Prop), Stt K B c s G H → t c Q →
  (∀ b c' G' H', Stt K B c' s G' H' → Same G G' → Q b c' → R b H') → te s H R
def DAv (K : PySem.W.Frag) (te : TA) (t : TL) : Prop := ∀ (B : Base) (c : Ctx) (s : L2.St) (G H : Hp) (Q : List PyData → Ctx → Prop) (R : List V → Hp → Prop), Stt K B c s G H → t c Q →
  (∀ vs xs c' G' H', Stt K B c' s G' H' → Same G G' → DpAll K G' vs xs → Q xs c' → R vs H') → te s H R
def DOv (K : PySem.W.Frag) (te : TE) (t : TR) : Prop := ∀ (B : Base) (c : Ctx) (s : L2.St) (G H : Hp) (Q : Res → Ctx → Prop) (R : VK), Stt K B c s G H → t c Q →
  (∀ v x c' G' H', Stt K B (.o none x :: c') (some v :: s) G' H' → Same G G' → Q x c' → R v H') → te s H R
structure DE (X : Cx) (e : Expr) (t : TD) : Prop where
  ex : ∃ te, PE X e te ∧ DEv X.K te t
structure DT (X : Cx) (e : Expr) (t : TB) : Prop where
  ex : ∃ te, PT X e te ∧ DTv X.K te t
structure DW (X : Cx) (e : Expr) (t : TB) : Prop where
  ex : ∃ te, PW X e te ∧ DTv X.K te t
structure DA (X : Cx) (es : List Expr) (t : TL) : Prop where
  ex : ∃ te, PA X es te ∧ DAv X.K te t
/-- a new owned thing -/
structure DO (X : Cx) (e : Expr) (t : TR) : Prop where
  ex : ∃ te, PE X e te ∧ DOv X.K te t

/-! ### what data is: ways of asking that a walk goes through from the left -/
def asI (x : PyData) (Q : Int → Prop) : Prop := match x with
  | .int i => Q i
  | _ => False
def asB (x : PyData) (Q : Bool → Prop) : Prop := match x with
  | .bool i => Q i
  | _ => False
def asS (x : PyData) (Q : Str → Prop) : Prop := match x with
  | .str i => Q i
  | _ => False
def asL (x : PyData) (Q : List PyData → Prop) : Prop := match x with
  | .list i => Q i
  | _ => False
def asT (x : PyData) (Q : List PyData → Prop) : Prop := match x with
  | .tuple i => Q i
  | _ => False
theorem asI_i {i : Int} {Q : Int → Prop} : asI (.int i) Q = Q i := id rfl
theorem asB_b {i : Bool} {Q : Bool → Prop} : asB (.bool i) Q = Q i := id rfl
theorem asS_s {i : Str} {Q : Str → Prop} : asS (.str i) Q = Q i := id rfl
theorem asL_l {i : List PyData} {Q : List PyData → Prop} : asL (.list i) Q = Q i := id rfl
theorem asT_t {i : List PyData} {Q : List PyData → Prop} : asT (.tuple i) Q = Q i := id rfl
theorem asI_of {x : PyData} {Q : Int → Prop} (h : asI x Q) : ∃ i, x = .int i ∧ Q i := (by
  cases x <;> first | exact ⟨_, rfl, h⟩ | exact False.elim h
  )
theorem asB_of {x : PyData} {Q : Bool → Prop} (h : asB x Q) : ∃ i, x = .bool i ∧ Q i := (by
  cases x <;> first | exact ⟨_, rfl, h⟩ | exact False.elim h
  )
theorem asS_of {x : PyData} {Q : Str → Prop} (h : asS x Q) : ∃ i, x = .str i ∧ Q i := (by
  cases x <;> first | exact ⟨_, rfl, h⟩ | exact False.elim h
  )
theorem asL_of {x : PyData} {Q : List PyData → Prop} (h : asL x Q) : ∃ i, x = .list i ∧ Q i := (by
  cases x <;> first | exact ⟨_, rfl, h⟩ | exact False.elim h
  )
theorem asT_of {x : PyData} {Q : List PyData → Prop} (h : asT x Q) : ∃ i, x = .tuple i ∧ Q i := (by
  cases x <;> first | exact ⟨_, rfl, h⟩ | exact False.elim h
  )
/-- slot i holds data -/
def slD : Ctx → Nat → (PyData → Prop) → Prop
  | .d x :: _, 0, Q => Q x
  | _ :: c, i + 1, Q => slD c i Q
  | _, _, _ => False
theorem slD_0 {x : PyData} {c : Ctx} {Q : PyData → Prop} : slD (.d x :: c) 0 Q = Q x := id rfl
theorem slD_s {x : S} {c : Ctx} {i : Nat} {Q : PyData → Prop} : slD (x :: c) (i + 1) Q = slD c i Q := by cases x <;> rfl
theorem slD_of : ∀ {c : Ctx} {i : Nat} {Q : PyData → Prop}, slD c i Q → ∃ x, c[i]? = some (.d x) ∧ Q x
  | [], 0, _, h => h.elim
  | [], _ + 1, _, h => h.elim
  | .d x :: c, 0, _, h => ⟨x, rfl, h⟩
  | .no :: c, 0, _, h => h.elim
  | .f _ :: c, 0, _, h => h.elim
  | .o _ _ :: c, 0, _, h => h.elim
  | y :: c, i + 1, _, h => by
    rw [slD_s] at h
    obtain ⟨x, e, q⟩ := slD_of h
    exact ⟨x, by simpa using e, q⟩
/-- slot i holds an owned thing -/
def slO : Ctx → Nat → (Option Lt → Res → Prop) → Prop
  | .o w R :: _, 0, Q => Q w R
  | _ :: c, i + 1, Q => slO c i Q
  | _, _, _ => False
theorem slO_0 {w : Option Lt} {R : Res} {c : Ctx} {Q : Option Lt → Res → Prop} : slO (.o w R :: c) 0 Q = Q w R := id rfl
theorem slO_s {x : S} {c : Ctx} {i : Nat} {Q : Option Lt → Res → Prop} : slO (x :: c) (i + 1) Q = slO c i Q := by cases x <;> rfl
theorem slO_of : ∀ {c : Ctx} {i : Nat} {Q : Option Lt → Res → Prop}, slO c i Q → ∃ w R, c[i]? = some (.o w R) ∧ Q w R
  | [], 0, _, h => h.elim
  | [], _ + 1, _, h => h.elim
  | .o w R :: c, 0, _, h => ⟨w, R, rfl, h⟩
  | .no :: c, 0, _, h => h.elim
  | .f _ :: c, 0, _, h => h.elim
  | .d _ :: c, 0, _, h => h.elim
  | y :: c, i + 1, _, h => by
    rw [slO_s] at h
    obtain ⟨w, R, e, q⟩ := slO_of h
    exact ⟨w, R, by simpa using e, q⟩
/-- an owned thing is a list of known items -/
def asR (R : Res) (Q : List PyData → Prop) : Prop := match R with
  | .lst ds => Q ds
  | _ => False
theorem asR_l {ds : List PyData} {Q : List PyData → Prop} : asR (.lst ds) Q = Q ds := id rfl
theorem asR_of {R : Res} {Q : List PyData → Prop} (h : asR R Q) : ∃ ds, R = .lst ds ∧ Q ds := (by
  cases R <;> first | exact ⟨_, rfl, h⟩ | exact False.elim h
  )
/-- an item by its place -/
def atD (ds : List PyData) (i : Int) (Q : PyData → Prop) : Prop := ∃ d, atI ds i = some d ∧ Q d
def ixP (n : Nat) (i : Int) (Q : Nat → Prop) : Prop := ∃ k, ixN n i = some k ∧ Q k

/-! ### names, constants -/
def uVar (i : Nat) : TD := fun c Q => slD c i fun x => Q x c
def uC (x : PyData) : TD := fun c Q => Q x c
section
variable {X : Cx} {pos : Pos}
theorem dv (i : Nat) {x : Str} (hN : X.N[i]? = some x := by rfl) (hv : Vis X.env.scope x := by first | exact Or.inl rfl | exact Or.inr (Or.inl rfl) | exact Or.inr (Or.inr rfl)) (hd : (x == ("__debug__" : Str)) = false := by decide)
    (hcd : (x == ("__classdict__" : Str)) = false := by decide) : DE X (.Name x pos) (uVar i) := (by
  refine ⟨_, pe_var hN hv hd hcd, fun B c s G H Q R st h k => ?_⟩
  obtain ⟨x, e, q⟩ := slD_of h
  obtain ⟨v, e1, e2⟩ := st.get_d e
  exact ⟨v, e1, k v x c G H st (Same.refl _) e2 q⟩
  )
theorem d_int {i j} : DE X (.Constant (.int i) j pos) (uC (.int i)) := ⟨_, pe_int, fun _ c _ G H _ _ st h k => k _ _ c G H st (Same.refl _) (.int i) h⟩
theorem d_bl {b j} : DE X (.Constant (.bool b) j pos) (uC (.bool b)) := ⟨_, pe_bl, fun _ c _ G H _ _ st h k => k _ _ c G H st (Same.refl _) (.bl b) h⟩
theorem d_non {j} : DE X (.Constant .none j pos) (uC .none) := ⟨_, pe_non, fun _ c _ G H _ _ st h k => k _ _ c G H st (Same.refl _) .non h⟩
theorem d_str {x j} : DE X (.Constant (.str x) j pos) (uC (.str x)) := ⟨_, pe_str, fun _ c _ G H _ _ st h k => k _ _ c G H st (Same.refl _) (.str x) h⟩
/-- an owned expression, frozen -/
def uFz (t : TR) : TD := fun c Q => t c fun R c1 => R.fz fun x => Q x c1
theorem d_fz {e : Expr} {t : TR} (h : DO X e t) : DE X e (uFz t) := (by
  obtain ⟨te, he, hv⟩ := h.ex
  refine ⟨te, he, fun B c s G H Q R st q k => hv B c s G H _ R st q fun v x c' G' H' st' e q' => ?_⟩
  obtain ⟨G2, d, a1, a2, a3, a4⟩ := st'.frzR q'
  exact k v d c' G2 H' a1 (e.trans a2) a3 a4
  )
/-! ### operators -/
/-- what a two-place rule asks of data -/
def OpD (K : PySem.W.Frag) (r : R2) (f : PyData → PyData → (PyData → Prop) → Prop) : Prop := ∀ (B : Base) (c : Ctx) (s : L2.St) (G H : Hp) (x y : V) (a b : PyData) (Q : PyData → Prop) (R : VK), Stt K B c s G H → Dp K G x a → Dp K G y b → f a b Q →
  (∀ v d G' H', Stt K B c s G' H' → Same G G' → Dp K G' v d → Q d → R v H') → r x y H R
def u2 (f : PyData → PyData → (PyData → Prop) → Prop) (ta tb : TD) : TD := fun c Q => ta c fun x c1 => tb c1 fun y c2 => f x y fun z => Q z c2
variable {a b : Expr} {ta tb : TD}
theorem two {tea teb : TE} (ha : DEv X.K tea ta) (hb : DEv X.K teb tb) {r : R2} {f : PyData → PyData → (PyData → Prop) → Prop} (hr : OpD X.K r f) : DEv X.K (tOp r tea teb) (u2 f ta tb) := (by
  intro B c s G H Q R st q k
  refine ha B c s G H _ _ st q fun v x c1 G1 H1 st1 e1 d1 q1 => ?_
  refine hb B c1 s G1 H1 _ _ st1 q1 fun w y c2 G2 H2 st2 e2 d2 q2 => ?_
  exact hr B c2 s G2 H2 v w x y _ R st2 (dp_mono e2 _ _ d1) d2 q2 fun z d G3 H3 st3 e3 d3 q3 => k z d c2 G3 H3 st3 ((e1.trans e2).trans e3) d3 q3
  )
theorem d_op {op : Operator} {r : R2} {f : PyData → PyData → (PyData → Prop) → Prop} (ho : OpR X (binaryOp op) r) (hr : OpD X.K r f) (ha : DE X a ta) (hb : DE X b tb) : DE X (.BinOp a op b pos) (u2 f ta tb) := (by
  obtain ⟨tea, pa, va⟩ := ha.ex
  obtain ⟨teb, pb, vb⟩ := hb.ex
  exact ⟨_, pe_op ho pa pb, two va vb hr⟩
  )
theorem d_cmp {op : CmpOp} {r : R2} {f : PyData → PyData → (PyData → Prop) → Prop} (ho : OpR X (compareOp op) r) (hr : OpD X.K r f) (ha : DE X a ta) (hb : DE X b tb) (hm : behindInMarks op b = false) : DE X (.Compare a [op] [b] pos) (u2 f ta tb) := (by
  obtain ⟨tea, pa, va⟩ := ha.ex
  obtain ⟨teb, pb, vb⟩ := hb.ex
  exact ⟨_, pe_cmpR ho pa pb hm, two va vb hr⟩
  )
/-- two ints in, under C -/
def fI (C : Int → Int → Prop) (g : Int → Int → PyData) : PyData → PyData → (PyData → Prop) → Prop := fun x y Q => asI x fun i => asI y fun j => C i j ∧ Q (g i j)
def fI0 (g : Int → Int → PyData) : PyData → PyData → (PyData → Prop) → Prop := fun x y Q => asI x fun i => asI y fun j => Q (g i j)
theorem dp_int {K : PySem.W.Frag} {G : Hp} {v : V} {i : Int} (h : Dp K G v (.int i)) : v = .int i := by cases h; rfl
theorem dp_str {K : PySem.W.Frag} {G : Hp} {v : V} {i : Str} (h : Dp K G v (.str i)) : v = .str i := by cases h; rfl
theorem dp_bl {K : PySem.W.Frag} {G : Hp} {v : V} {i : Bool} (h : Dp K G v (.bool i)) : v = .bl i := by cases h; rfl
theorem dp_lst {K : PySem.W.Frag} {G : Hp} {v : V} {ds : List PyData} (h : Dp K G v (.list ds)) : ∃ a vs, v = .ref a ∧ SqL K G a vs ∧ DpAll K G vs ds := by cases h; exact ⟨_, _, rfl, by assumption, by assumption⟩
theorem dp_tup {K : PySem.W.Frag} {G : Hp} {v : V} {ds : List PyData} (h : Dp K G v (.tuple ds)) : ∃ a vs, v = .ref a ∧ SqT K G a vs ∧ DpAll K G vs ds := by cases h; exact ⟨_, _, rfl, by assumption, by assumption⟩
theorem op_i {K : PySem.W.Frag} {C : Int → Int → Prop} {g : Int → Int → Int} : OpD K (rI C fun i j => .int (g i j)) (fI C fun i j => .int (g i j)) := (by
  intro B c s G H x y a b Q R st dx dy h k
  unfold fI at h
  obtain ⟨i, rfl, h⟩ := asI_of h
  have h : asI b fun j => C i j ∧ Q (.int (g i j)) := h
  obtain ⟨j, rfl, hc, q⟩ := asI_of h
  exact ⟨i, j, dp_int dx, dp_int dy, hc, k _ _ G H st (Same.refl _) (.int _) q⟩
  )
theorem op_i0 {K : PySem.W.Frag} {g : Int → Int → Int} : OpD K (rI0 fun i j => .int (g i j)) (fI0 fun i j => .int (g i j)) := (by
  intro B c s G H x y a b Q R st dx dy h k
  unfold fI0 at h
  obtain ⟨i, rfl, h⟩ := asI_of h
  have h : asI b fun j => Q (.int (g i j)) := h
  obtain ⟨j, rfl, q⟩ := asI_of h
  exact ⟨i, j, dp_int dx, dp_int dy, k _ _ G H st (Same.refl _) (.int _) q⟩
  )
theorem op_b0 {K : PySem.W.Frag} {g : Int → Int → Bool} : OpD K (rI0 fun i j => .bl (g i j)) (fI0 fun i j => .bool (g i j)) := (by
  intro B c s G H x y a b Q R st dx dy h k
  unfold fI0 at h
  obtain ⟨i, rfl, h⟩ := asI_of h
  have h : asI b fun j => Q (.bool (g i j)) := h
  obtain ⟨j, rfl, q⟩ := asI_of h
  exact ⟨i, j, dp_int dx, dp_int dy, k _ _ G H st (Same.refl _) (.bl _) q⟩
  )
/-- + of ints, of texts -/
def fAdd : PyData → PyData → (PyData → Prop) → Prop := fun x y Q => match x with
  | .int i => asI y fun j => Q (.int (i + j))
  | .str i => asS y fun j => i.length + j.length ≤ sizeLine ∧ Q (.str (i ++ j))
  | _ => False
theorem fAdd_i {i j : Int} {Q : PyData → Prop} : fAdd (.int i) (.int j) Q = Q (.int (i + j)) := id rfl
theorem fAdd_s {i j : Str} {Q : PyData → Prop} : fAdd (.str i) (.str j) Q = (i.length + j.length ≤ sizeLine ∧ Q (.str (i ++ j))) := id rfl
theorem OpR.or2 {f : Value → Value → Sem Value} {r r' : R2} (h : OpR X f r) (h' : OpR X f r') : OpR X f (fun x y H Q => r x y H Q ∨ r' x y H Q) := fun pins s σ H x y v u Q I r1 r2 hh => hh.elim (h pins s σ H x y v u Q I r1 r2) (h' pins s σ H x y v u Q I r1 r2)
theorem d_add (ha : DE X a ta) (hb : DE X b tb) : DE X (.BinOp a .Add b pos) (u2 fAdd ta tb) := (by
  refine d_op (OpR.or2 op_add op_add_str) (fun B c s G H x y a b Q R st dx dy h k => ?_) ha hb
  cases a with
  | int i =>
    obtain ⟨j, rfl, q⟩ := asI_of h
    exact .inl ⟨i, j, dp_int dx, dp_int dy, k _ _ G H st (Same.refl _) (.int _) q⟩
  | str i =>
    obtain ⟨j, rfl, hl, q⟩ := asS_of h
    exact .inr ⟨i, j, dp_str dx, dp_str dy, hl, k _ _ G H st (Same.refl _) (.str _) q⟩
  | none => exact h.elim
  | bool _ => exact h.elim
  | list _ => exact h.elim
  | tuple _ => exact h.elim
  | dict _ => exact h.elim
  )
theorem d_sub (ha : DE X a ta) (hb : DE X b tb) : DE X (.BinOp a .Sub b pos) (u2 (fI0 fun i j => .int (i - j)) ta tb) := d_op op_sub op_i0 ha hb
/-- one factor of at most 64 bits, or both of together less than a million -/
def CMulA (i j : Int) : Prop := CMul i j ∨ CMulW i j
theorem op_mulA : OpR X (binaryOp .Mult) (rI CMulA fun i j => .int (i * j)) := opI fun _ _ _ _ _ _ _ hc q => mul_int q (hc.elim (fun z => z.ok) fun z => z.ok)
theorem d_mul (ha : DE X a ta) (hb : DE X b tb) : DE X (.BinOp a .Mult b pos) (u2 (fI CMulA fun i j => .int (i * j)) ta tb) := d_op op_mulA op_i ha hb
def CDivA (_ j : Int) : Prop := j ≠ 0 ∧ j.natAbs.log2 < 9000
theorem op_fdivA : OpR X (binaryOp .FloorDiv) (rI CDivA fun i j => .int (i.fdiv j)) := opI fun _ _ _ _ _ _ _ hc q => floordiv_int hc.1 q (.inl (PyProof.noPylong_of_log2 hc.2))
theorem d_fdiv (ha : DE X a ta) (hb : DE X b tb) : DE X (.BinOp a .FloorDiv b pos) (u2 (fI CDivA fun i j => .int (i.fdiv j)) ta tb) := d_op op_fdivA op_i ha hb
theorem d_mod (ha : DE X a ta) (hb : DE X b tb) : DE X (.BinOp a .Mod b pos) (u2 (fI (fun _ j => j ≠ 0) fun i j => .int (i.fmod j)) ta tb) := d_op op_modN op_i ha hb
theorem d_pow (ha : DE X a ta) (hb : DE X b tb) : DE X (.BinOp a .Pow b pos) (u2 (fI CPow fun i j => .int (i ^ j.toNat)) ta tb) := d_op op_pow op_i ha hb
theorem d_gt (ha : DE X a ta) (hb : DE X b tb) : DE X (.Compare a [.Gt] [b] pos) (u2 (fI0 fun i j => .bool (decide (j < i))) ta tb) := d_cmp op_gt op_b0 ha hb (nomark _)
theorem d_ge (ha : DE X a ta) (hb : DE X b tb) : DE X (.Compare a [.GtE] [b] pos) (u2 (fI0 fun i j => .bool (decide (j ≤ i))) ta tb) := d_cmp op_ge op_b0 ha hb (nomark _)
/-- == and != of data at any depth -/
def fEq (neg : Bool) : PyData → PyData → (PyData → Prop) → Prop := fun x y Q => SeqAt.shaped x = true ∧ SeqAt.shaped y = true ∧ Q (.bool (if neg then !PyData.eqv x y else PyData.eqv x y))
theorem d_eq (hu : X.A.units + 64 < cLine) (ha : DE X a ta) (hb : DE X b tb) : DE X (.Compare a [.Eq] [b] pos) (u2 (fEq false) ta tb) := (by
  refine d_cmp (op_eqD hu) (fun B c s G H x y a b Q R st dx dy h k => ?_) ha hb (nomark _)
  obtain ⟨s1, s2, q⟩ := h
  exact ⟨a, b, dp_mono st.sub _ _ dx, dp_mono st.sub _ _ dy, s1, s2, k _ _ G H st (Same.refl _) (.bl _) q⟩
  )
theorem d_ne (hu : X.A.units + 64 < cLine) (ha : DE X a ta) (hb : DE X b tb) : DE X (.Compare a [.NotEq] [b] pos) (u2 (fEq true) ta tb) := (by
  refine d_cmp (op_neD hu) (fun B c s G H x y a b Q R st dx dy h k => ?_) ha hb (nomark _)
  obtain ⟨s1, s2, q⟩ := h
  exact ⟨a, b, dp_mono st.sub _ _ dx, dp_mono st.sub _ _ dy, s1, s2, k _ _ G H st (Same.refl _) (.bl _) q⟩
  )
/-- is None, is not None -/
def isNo : PyData → Bool
  | .none => true
  | _ => false
theorem isNo_dp {K : PySem.W.Frag} {G : Hp} {v : V} {x : PyData} (h : Dp K G v x) : decide (v = V.non) = isNo x := by cases h <;> rfl
theorem d_neg (ha : DE X a ta) : DE X (.UnaryOp .USub a pos) (fun c Q => ta c fun x c1 => asI x fun i => Q (.int (-i)) c1) := (by
  obtain ⟨tea, pa, va⟩ := ha.ex
  refine ⟨_, pe_un un_neg pa, fun B c s G H Q R st q k => va B c s G H _ _ st q fun v x c1 G1 H1 st1 e1 d1 q1 => ?_⟩
  obtain ⟨i, rfl, q⟩ := asI_of q1
  exact ⟨i, dp_int d1, k _ _ c1 G1 H1 st1 e1 (.int _) q⟩
  )
/-! ### tests -/
/-- an expression that is a truth -/
def wB (t : TD) : TB := fun c Q => t c fun x c1 => asB x fun b => Q b c1
variable {tA tB' : TB} {rest : List Expr}
theorem tv {e : Expr} {t : TD} (h : DE X e t) (he : ∀ whole, isTrue e X.env whole = (do let v ← whole; standAt e.pos; holding [v] (truthy v)) := by intro _; rfl) : DT X e (wB t) := (by
  obtain ⟨te, pe, ve⟩ := h.ex
  refine ⟨_, pt_val pe he, fun B c s G H Q R st q k => ve B c s G H _ _ st q fun v x c1 G1 H1 st1 e1 d1 q1 => ?_⟩
  obtain ⟨b, rfl, q⟩ := asB_of q1
  exact ⟨b, dp_bl d1, k b c1 G1 H1 st1 e1 q⟩
  )
/-- a comparison as a test -/
theorem tc {op : CmpOp} {r : R2} {f : PyData → PyData → (PyData → Prop) → Prop} (ho : OpR X (compareOp op) r) (hr : OpD X.K r f) (ha : DE X a ta) (hb : DE X b tb) (hm : behindInMarks op b = false) : DT X (.Compare a [op] [b] pos) (wB (u2 f ta tb)) := (by
  obtain ⟨tea, pa, va⟩ := ha.ex
  obtain ⟨teb, pb, vb⟩ := hb.ex
  refine ⟨_, pt_cmpR ho pa pb hm, fun B c s G H Q R st q k => two va vb hr B c s G H _ _ st q fun v x c1 G1 H1 st1 e1 d1 q1 => ?_⟩
  obtain ⟨b, rfl, q⟩ := asB_of q1
  exact ⟨b, dp_bl d1, k b c1 G1 H1 st1 e1 q⟩
  )
theorem t_lt (ha : DE X a ta) (hb : DE X b tb) : DT X (.Compare a [.Lt] [b] pos) (wB (u2 (fI0 fun i j => .bool (decide (i < j))) ta tb)) := tc op_lt op_b0 ha hb (nomark _)
theorem t_gt (ha : DE X a ta) (hb : DE X b tb) : DT X (.Compare a [.Gt] [b] pos) (wB (u2 (fI0 fun i j => .bool (decide (j < i))) ta tb)) := tc op_gt op_b0 ha hb (nomark _)
theorem opd_eq {K : PySem.W.Frag} : OpD K (rEqD K) (fEq false) := fun B c s G H x y a b Q R st dx dy ⟨s1, s2, q⟩ k => ⟨a, b, dp_mono st.sub _ _ dx, dp_mono st.sub _ _ dy, s1, s2, k _ _ G H st (Same.refl _) (.bl _) q⟩
theorem opd_ne {K : PySem.W.Frag} : OpD K (rNeD K) (fEq true) := fun B c s G H x y a b Q R st dx dy ⟨s1, s2, q⟩ k => ⟨a, b, dp_mono st.sub _ _ dx, dp_mono st.sub _ _ dy, s1, s2, k _ _ G H st (Same.refl _) (.bl _) q⟩
theorem t_eq (hu : X.A.units + 64 < cLine) (ha : DE X a ta) (hb : DE X b tb) : DT X (.Compare a [.Eq] [b] pos) (wB (u2 (fEq false) ta tb)) := tc (op_eqD hu) opd_eq ha hb (nomark _)
theorem t_ne (hu : X.A.units + 64 < cLine) (ha : DE X a ta) (hb : DE X b tb) : DT X (.Compare a [.NotEq] [b] pos) (wB (u2 (fEq true) ta tb)) := tc (op_neD hu) opd_ne ha hb (nomark _)
def wNot (t : TB) : TB := fun c Q => t c fun b c1 => Q (!b) c1
def wAnd (t u : TB) : TB := fun c Q => t c fun b c1 => if b = true then u c1 Q else Q false c1
def wOr (t u : TB) : TB := fun c Q => t c fun b c1 => if b = true then Q true c1 else u c1 Q
theorem t_not (ha : DT X a tA) : DT X (.UnaryOp .Not a pos) (wNot tA) := (by
  obtain ⟨te, pe, ve⟩ := ha.ex
  exact ⟨_, pt_not pe, fun B c s G H Q R st q k => ve B c s G H _ _ st q fun b c1 G1 H1 st1 e1 q1 => k _ c1 G1 H1 st1 e1 q1⟩
  )
theorem DW.dt {e : Expr} {t : TB} (h : DW X e t) : DT X e t := let ⟨te, p, v⟩ := h.ex; ⟨te, p.pt, v⟩
theorem w_and1 (ha : DT X a tA) : DW X (.BoolOp .And [a] pos) tA := let ⟨te, p, v⟩ := ha.ex; ⟨te, pw_and1 p, v⟩
theorem w_or1 (ha : DT X a tA) : DW X (.BoolOp .Or [a] pos) tA := let ⟨te, p, v⟩ := ha.ex; ⟨te, pw_or1 p, v⟩
theorem wand_v {t1 t2 : TT} (v1 : DTv X.K t1 tA) (v2 : DTv X.K t2 tB') : DTv X.K (L2.tAnd t1 t2) (wAnd tA tB') := fun B c s G H Q R st q k => v1 B c s G H _ _ st q fun b c1 G1 H1 st1 e1 q1 => by
  cases b with
  | true =>
    rw [if_pos rfl] at q1 ⊢
    exact v2 B c1 s G1 H1 _ _ st1 q1 fun b2 c2 G2 H2 st2 e2 q2 => k b2 c2 G2 H2 st2 (e1.trans e2) q2
  | false =>
    rw [if_neg Bool.false_ne_true] at q1 ⊢
    exact k _ c1 G1 H1 st1 e1 q1
theorem wor_v {t1 t2 : TT} (v1 : DTv X.K t1 tA) (v2 : DTv X.K t2 tB') : DTv X.K (L2.tOr t1 t2) (wOr tA tB') := fun B c s G H Q R st q k => v1 B c s G H _ _ st q fun b c1 G1 H1 st1 e1 q1 => by
  cases b with
  | false =>
    rw [if_neg Bool.false_ne_true] at q1 ⊢
    exact v2 B c1 s G1 H1 _ _ st1 q1 fun b2 c2 G2 H2 st2 e2 q2 => k b2 c2 G2 H2 st2 (e1.trans e2) q2
  | true =>
    rw [if_pos rfl] at q1 ⊢
    exact k _ c1 G1 H1 st1 e1 q1
theorem w_and (ha : DT X a tA) (hb : DW X (.BoolOp .And (b :: rest) pos) tB') : DW X (.BoolOp .And (a :: b :: rest) pos) (wAnd tA tB') :=
  let ⟨_, p1, v1⟩ := ha.ex; let ⟨_, p2, v2⟩ := hb.ex; ⟨_, pw_and p1 p2, wand_v v1 v2⟩
theorem w_or (ha : DT X a tA) (hb : DW X (.BoolOp .Or (b :: rest) pos) tB') : DW X (.BoolOp .Or (a :: b :: rest) pos) (wOr tA tB') :=
  let ⟨_, p1, v1⟩ := ha.ex; let ⟨_, p2, v2⟩ := hb.ex; ⟨_, pw_or p1 p2, wor_v v1 v2⟩
/-- and, or, not as values -/
def uAnd (ta tb : TD) : TD := fun c Q => ta c fun x c1 => asB x fun b => if b = true then tb c1 Q else Q (.bool false) c1
def uOr (ta tb : TD) : TD := fun c Q => ta c fun x c1 => asB x fun b => if b = true then Q (.bool true) c1 else tb c1 Q
theorem d_one {op} {t : TD} (h : DE X a t) : DE X (.BoolOp op [a] pos) t := let ⟨te, p, v⟩ := h.ex; ⟨te, pe_one p, v⟩
theorem d_and (ha : DE X a ta) (hb : DE X (.BoolOp .And (b :: rest) pos) tb) : DE X (.BoolOp .And (a :: b :: rest) pos) (uAnd ta tb) := (by
  obtain ⟨tea, pa, va⟩ := ha.ex
  obtain ⟨teb, pb, vb⟩ := hb.ex
  refine ⟨_, pe_and pa pb, fun B c s G H Q R st q k => va B c s G H _ _ st q fun v x c1 G1 H1 st1 e1 d1 q1 => ?_⟩
  obtain ⟨b, rfl, q⟩ := asB_of q1
  refine ⟨b, dp_bl d1, ?_⟩
  cases b with
  | true =>
    rw [if_pos rfl] at q ⊢
    exact vb B c1 s G1 H1 _ _ st1 q fun v2 x2 c2 G2 H2 st2 e2 d2 q2 => k v2 x2 c2 G2 H2 st2 (e1.trans e2) d2 q2
  | false =>
    rw [if_neg Bool.false_ne_true] at q ⊢
    exact k _ _ c1 G1 H1 st1 e1 (.bl _) q
  )
theorem d_or (ha : DE X a ta) (hb : DE X (.BoolOp .Or (b :: rest) pos) tb) : DE X (.BoolOp .Or (a :: b :: rest) pos) (uOr ta tb) := (by
  obtain ⟨tea, pa, va⟩ := ha.ex
  obtain ⟨teb, pb, vb⟩ := hb.ex
  refine ⟨_, pe_or pa pb, fun B c s G H Q R st q k => va B c s G H _ _ st q fun v x c1 G1 H1 st1 e1 d1 q1 => ?_⟩
  obtain ⟨b, rfl, q⟩ := asB_of q1
  refine ⟨b, dp_bl d1, ?_⟩
  cases b with
  | false =>
    rw [if_neg Bool.false_ne_true] at q ⊢
    exact vb B c1 s G1 H1 _ _ st1 q fun v2 x2 c2 G2 H2 st2 e2 d2 q2 => k v2 x2 c2 G2 H2 st2 (e1.trans e2) d2 q2
  | true =>
    rw [if_pos rfl] at q ⊢
    exact k _ _ c1 G1 H1 st1 e1 (.bl _) q
  )
/-! ### argument lists, displays, items -/
def aNil : TL := fun c Q => Q [] c
def aCons (ta : TD) (tr : TL) : TL := fun c Q => ta c fun x c1 => tr c1 fun xs c2 => Q (x :: xs) c2
theorem a_nil : DA X [] aNil := ⟨_, pa_nil, fun B c s G H Q R st q k => k [] [] c G H st (Same.refl _) .nil q⟩
theorem a_cons {es : List Expr} {tr : TL} (ha : DE X a ta) (hr : DA X es tr) (hs : starEach (a :: es) X.env = (false, eval a X.env) :: starEach es X.env := by rfl) : DA X (a :: es) (aCons ta tr) := (by
  obtain ⟨tea, pa, va⟩ := ha.ex
  obtain ⟨ter, pr, vr⟩ := hr.ex
  refine ⟨_, pa_cons pa pr hs, fun B c s G H Q R st q k => va B c s G H _ _ st q fun v x c1 G1 H1 st1 e1 d1 q1 => ?_⟩
  exact vr B c1 s G1 H1 _ _ st1 q1 fun vs xs c2 G2 H2 st2 e2 d2 q2 => k _ _ c2 G2 H2 st2 (e1.trans e2) (.cons (dp_mono e2 _ _ d1) d2) q2
  )
variable {es : List Expr} {tl : TL}
def uTup (t : TL) : TD := fun c Q => t c fun xs c1 => xs.length ≤ sizeLine ∧ Q (.tuple xs) c1
theorem d_tup {x1} (h : DA X es tl) : DE X (.Tuple es x1 pos) (uTup tl) := (by
  obtain ⟨te, p, v⟩ := h.ex
  refine ⟨_, pe_tup p, fun B c s G H Q R st q k => v B c s G H _ _ st q fun vs xs c1 G1 H1 st1 e1 d1 q1 => ?_⟩
  refine ⟨by rw [dpa_len d1]; exact q1.1, fun p hp => ?_⟩
  obtain ⟨st2, e2⟩ := st1.laid (o := .tup vs) hp
  exact k _ _ c1 _ _ st2 (e1.trans e2) (.tup (.inl (.inl upd_same)) (dpa_mono e2 _ _ d1)) q1.2
  )
def oLst (t : TL) : TR := fun c Q => t c fun xs c1 => xs.length ≤ sizeLine ∧ Q (.lst xs) c1
theorem o_lst (h : DA X es tl) : DO X (.List es pos) (oLst tl) := (by
  obtain ⟨te, p, v⟩ := h.ex
  refine ⟨_, pe_lst p, fun B c s G H Q R st q k => v B c s G H _ _ st q fun vs xs c1 G1 H1 st1 e1 d1 q1 => ?_⟩
  refine ⟨by rw [dpa_len d1]; exact q1.1, fun p hp => ?_⟩
  exact k _ _ c1 _ _ (st1.laidL hp d1) e1 q1.2
  )
/-- xs[i] of data: lists, tuples, texts -/
def ixD (x : PyData) (i : Int) (Q : PyData → Prop) : Prop := match x with
  | .list ds => atD ds i Q
  | .tuple ds => atD ds i Q
  | .str z => ∃ n, z.length ≤ sizeLine ∧ atI z.cps.toList i = some n ∧ Q (.str ⟨#[n]⟩)
  | _ => False
theorem ixD_l {ds : List PyData} {i : Int} {Q : PyData → Prop} : ixD (.list ds) i Q = atD ds i Q := id rfl
theorem ixD_t {ds : List PyData} {i : Int} {Q : PyData → Prop} : ixD (.tuple ds) i Q = atD ds i Q := id rfl
theorem ixD_s {z : Str} {i : Int} {Q : PyData → Prop} : ixD (.str z) i Q = ∃ n, z.length ≤ sizeLine ∧ atI z.cps.toList i = some n ∧ Q (.str ⟨#[n]⟩) := id rfl
def fIx : PyData → PyData → (PyData → Prop) → Prop := fun x y Q => asI y fun i => ixD x i Q
theorem atI_dp {K : PySem.W.Frag} {G : Hp} {vs : List V} {ds : List PyData} {i : Int} {d : PyData} (h : DpAll K G vs ds) (e : atI ds i = some d) : ∃ v, atI vs i = some v ∧ Dp K G v d := (by
  unfold atI at e ⊢
  rw [dpa_len h]
  cases q : ixN ds.length i with
  | none => rw [q] at e; cases e
  | some j =>
    rw [q] at e
    exact dpa_get h e
  )
theorem d_ix (hs : PlainIx b) (ha : DE X a ta) (hb : DE X b tb) : DE X (.Subscript a b pos) (u2 fIx ta tb) := (by
  obtain ⟨tea, pa, va⟩ := ha.ex
  obtain ⟨teb, pb, vb⟩ := hb.ex
  refine ⟨_, pe_ix ix_seq pa pb hs, two va vb fun B c s G H x y a b Q R st dx dy h k => ?_⟩
  unfold fIx at h
  obtain ⟨i, rfl, h⟩ := asI_of h
  cases a with
  | list ds =>
    obtain ⟨d, e, q⟩ := h
    obtain ⟨p, vs, rfl, h1, h2⟩ := dp_lst dx
    obtain ⟨v, e2, d2⟩ := atI_dp h2 e
    exact .inl ⟨p, vs, i, v, rfl, dp_int dy, Same.seq st.sub h1, e2, k v d G H st (Same.refl _) d2 q⟩
  | tuple ds =>
    obtain ⟨d, e, q⟩ := h
    obtain ⟨p, vs, rfl, h1, h2⟩ := dp_tup dx
    obtain ⟨v, e2, d2⟩ := atI_dp h2 e
    exact .inr (.inl ⟨p, vs, i, v, rfl, dp_int dy, same_t st.sub h1, e2, k v d G H st (Same.refl _) d2 q⟩)
  | str z =>
    obtain ⟨n, hl, e, q⟩ := h
    exact .inr (.inr ⟨z, i, n, dp_str dx, dp_int dy, hl, e, k _ _ G H st (Same.refl _) (.str _) q⟩)
  | none => exact h.elim
  | bool _ => exact h.elim
  | int _ => exact h.elim
  | dict _ => exact h.elim
  )
theorem Stt.own_at {K : PySem.W.Frag} {B : Base} {c : Ctx} {s : L2.St} {G H : Hp} (st : Stt K B c s G H) {j : Nat} {w : Option Lt} {R : Res} (e : c[j]? = some (.o w R)) : ∃ v, s[j]? = some (some v) := (by
  obtain ⟨A, r, w'⟩ := st.ex
  obtain ⟨v, _, h, _⟩ := r.focus w'.nd e
  exact ⟨v, h⟩
  )
/-- a built-in called with data, its answer data; its answer a new owned thing -/
def CallD (K : PySem.W.Frag) (r : List V → Hp → VK → Prop) (f : List PyData → (PyData → Prop) → Prop) : Prop := ∀ (B : Base) (c : Ctx) (s : L2.St) (G H : Hp) (vs : List V) (xs : List PyData) (Q : PyData → Prop) (R : VK), Stt K B c s G H → DpAll K G vs xs → f xs Q →
  (∀ v d G' H', Stt K B c s G' H' → Same G G' → Dp K G' v d → Q d → R v H') → r vs H R
def uCB (f : List PyData → (PyData → Prop) → Prop) (t : TL) : TD := fun c Q => t c fun xs c1 => f xs fun z => Q z c1
variable {id T : String} {r : List V → Hp → VK → Prop} {f : List PyData → (PyData → Prop) → Prop} {fo : List PyData → (Res → Prop) → Prop} {x : Str} {p : Pos}
theorem d_callB (hc : CallR X (.builtin id) r) (hr : CallD X.K r f) (hm : X.mg x = none) (hv : bootBuiltins x = some (.builtin id)) (ha : DA X (a :: es) tl) (hg : Gl X x := by rfl) (hn : x ≠ "__name__" := by decide) (hdb : (x == ("__debug__" : Str)) = false := by decide)
    (he : starEach (a :: es) X.env = (false, eval a X.env) :: starEach es X.env := by rfl) (hpl : (backTo pos (starEach es X.env)).any (·.1) = false := by rfl) : DE X (.Call (.Name x p) (a :: es) [] pos) (uCB f tl) := (by
  obtain ⟨tea, pa, va⟩ := ha.ex
  refine ⟨_, pe_callB hc hg hm hv pa hn hdb he hpl, fun B c s G H Q R st q k => va B c s G H _ _ st q fun vs xs c1 G1 H1 st1 e1 d1 q1 => ?_⟩
  exact hr B c1 s G1 H1 vs xs _ R st1 d1 q1 fun v d G2 H2 st2 e2 d2 q2 => k v d c1 G2 H2 st2 (e1.trans e2) d2 q2
  )
theorem dpa_1 {K : PySem.W.Frag} {G : Hp} {vs : List V} {x : PyData} (h : DpAll K G vs [x]) : ∃ v, vs = [v] ∧ Dp K G v x := (by
  cases h with
  | cons h1 h2 => cases h2; exact ⟨_, rfl, h1⟩
  )
theorem dpa_2 {K : PySem.W.Frag} {G : Hp} {vs : List V} {x y : PyData} (h : DpAll K G vs [x, y]) : ∃ v w, vs = [v, w] ∧ Dp K G v x ∧ Dp K G w y := (by
  cases h with
  | cons h1 h2 =>
    obtain ⟨w, rfl, h3⟩ := dpa_1 h2
    exact ⟨_, w, rfl, h1, h3⟩
  )
/-- len(e) of data -/
def fLen1 (x : PyData) (Q : PyData → Prop) : Prop := match x with
  | .list ds => Q (.int ds.length)
  | .tuple ds => Q (.int ds.length)
  | .str z => z.length ≤ sizeLine ∧ Q (.int z.length)
  | _ => False
def arg2 (xs : List PyData) (Q : PyData → PyData → Prop) : Prop := match xs with
  | [x, y] => Q x y
  | _ => False
theorem arg2_2 {x y : PyData} {Q : PyData → PyData → Prop} : arg2 [x, y] Q = Q x y := id rfl
theorem arg2_of {xs : List PyData} {Q : PyData → PyData → Prop} (h : arg2 xs Q) : ∃ x y, xs = [x, y] ∧ Q x y := (by
  match xs, h with
  | [x, y], h => exact ⟨x, y, rfl, h⟩
  | [], h => exact False.elim h
  | [_], h => exact False.elim h
  | _ :: _ :: _ :: _, h => exact False.elim h
  )
theorem fLen1_l {ds : List PyData} {Q : PyData → Prop} : fLen1 (.list ds) Q = Q (.int ds.length) := id rfl
theorem fLen1_t {ds : List PyData} {Q : PyData → Prop} : fLen1 (.tuple ds) Q = Q (.int ds.length) := id rfl
theorem fLen1_s {z : Str} {Q : PyData → Prop} : fLen1 (.str z) Q = (z.length ≤ sizeLine ∧ Q (.int z.length)) := id rfl
/-! ### isinstance of data -/
def tyD : PyData → Value
  | .none => .type "NoneType"
  | .bool _ => .type "bool"
  | .int _ => .type "int"
  | .str _ => .type "str"
  | .list _ => .type "list"
  | .tuple _ => .type "tuple"
  | .dict _ => .type "dict"
theorem tyX_of {K : PySem.W.Frag} {G H : Hp} (e : Same G H) : ∀ {v : V} {x : PyData}, Dp K G v x → TyX K H v (tyD x) := (by
  intro v x h
  cases h with
  | non => exact .base .non
  | bl b => exact .base (.bl b)
  | int i => exact .base (.int i)
  | str z => exact .base (.str z)
  | lst hs _ =>
    rcases hs with (h | ⟨o, h⟩) | ⟨o, its, n, h1, h2, _⟩
    · exact .base (.lst (e _ _ h))
    · exact .base (.frz (e _ _ h))
    · exact .kList h1 h2
  | tup hs _ =>
    rcases hs with (h | ⟨o, h⟩) | ⟨o, its, n, h1, h2, _⟩
    · exact .base (.tup (e _ _ h))
    · exact .fTuple (e _ _ h)
    · exact .kTuple h1 h2
  )
def isStrD : PyData → Bool
  | .str _ => true
  | _ => false
def isTupD : PyData → Bool
  | .tuple _ => true
  | _ => false
section
variable {b : Bool} {i : Int} {z : Str} {ds : List PyData}
theorem isS_n : isStrD .none = false := id rfl
theorem isS_b : isStrD (.bool b) = false := id rfl
theorem isS_i : isStrD (.int i) = false := id rfl
theorem isS_s : isStrD (.str z) = true := id rfl
theorem isS_l : isStrD (.list ds) = false := id rfl
theorem isS_t : isStrD (.tuple ds) = false := id rfl
theorem isT_n : isTupD .none = false := id rfl
theorem isT_b : isTupD (.bool b) = false := id rfl
theorem isT_i : isTupD (.int i) = false := id rfl
theorem isT_s : isTupD (.str z) = false := id rfl
theorem isT_l : isTupD (.list ds) = false := id rfl
theorem isT_t : isTupD (.tuple ds) = true := id rfl
theorem isN_n : isNo .none = true := id rfl
theorem isN_b : isNo (.bool b) = false := id rfl
theorem isN_i : isNo (.int i) = false := id rfl
theorem isN_s : isNo (.str z) = false := id rfl
theorem isN_l : isNo (.list ds) = false := id rfl
theorem isN_t : isNo (.tuple ds) = false := id rfl
end
theorem d_isi {p2 : Pos} {T : Str} {n : String} (hm : X.mg "isinstance" = none) (hT : X.mg T = none) (hv : bootBuiltins T = some (.type n)) (ha : DE X a ta) {fi : PyData → Bool} (hk : ∀ x : PyData, (∀ kv, x ≠ .dict kv) → PySem.W.kitOne X.K (tyD x) (.type n) = some (fi x)) (hg : Gl X "isinstance" := by rfl) (hg2 : Gl X T := by rfl)
    (h1 : T ≠ "__name__" := by decide) (h2 : (T == ("__debug__" : Str)) = false := by decide) (he : starEach (a :: [.Name T p2]) X.env = (false, eval a X.env) :: starEach [.Name T p2] X.env := by rfl) (hpl : (backTo pos (starEach [.Name T p2] X.env)).any (·.1) = false := by rfl) :
    DE X (.Call (.Name "isinstance" p) [a, .Name T p2] [] pos) (fun c Q => ta c fun x c1 => Q (.bool (fi x)) c1) := (by
  obtain ⟨tea, pa, va⟩ := ha.ex
  refine ⟨_, pe_callB call_isi hg hm (by decide +kernel) (pa_cons pa (pa_cons (pe_bltn (v := .ty n) hg2 hT hv rfl h1 h2) pa_nil) he) (by decide) (by decide) he hpl, fun B c s G H Q R st q k => va B c s G H _ _ st q fun v x c1 G1 H1 st1 e1 d1 q1 => ?_⟩
  refine ⟨v, .ty n, tyD x, .type n, fi x, rfl, .ty n, tyX_of st1.sub d1, hk x (fun kv z => by subst z; cases d1), k _ _ c1 G1 H1 st1 e1 (.bl _) q1⟩
  )
end
end Dl

/-! Statements and defs over data. -/
namespace Dl
open PySem PySem.Spec PyProof.Rows L2

/-- what is wanted behind a statement -/
structure De where
  nx : Ctx → Prop
  rt : S → Ctx → Prop
  bk : Ctx → Prop := fun _ => False
  ct : Ctx → Prop := fun _ => False
abbrev TSd := De → Ctx → Prop
structure Conn (K : PySem.W.Frag) (B : Base) (G : Hp) (D : Ends) (E : De) : Prop where
  nx : ∀ c s G' H', Stt K B c s G' H' → Same G G' → E.nx c → D.nx s H'
  rt : ∀ r c v s G' H', Stt K B (r :: c) (some v :: s) G' H' → Same G G' → E.rt r c → D.rt v H'
  bk : ∀ c s G' H', Stt K B c s G' H' → Same G G' → E.bk c → D.bk s H'
  ct : ∀ c s G' H', Stt K B c s G' H' → Same G G' → E.ct c → D.ct s H'
theorem Conn.mono {K : PySem.W.Frag} {B : Base} {G G1 : Hp} {D : Ends} {E : De} (h : Conn K B G D E) (e : Same G G1) : Conn K B G1 D E :=
  ⟨fun c s G' H' st e' q => h.nx c s G' H' st (e.trans e') q, fun r c v s G' H' st e' q => h.rt r c v s G' H' st (e.trans e') q, fun c s G' H' st e' q => h.bk c s G' H' st (e.trans e') q, fun c s G' H' st e' q => h.ct c s G' H' st (e.trans e') q⟩
def DSv (K : PySem.W.Frag) (ts : TS) (t : TSd) : Prop := ∀ (B : Base) (c : Ctx) (s : L2.St) (G H : Hp) (D : Ends) (E : De), Stt K B c s G H → Conn K B G D E → t E c → ts D s H
structure DS (X : Cx) (st : Stmt) (t : TSd) : Prop where
  ex : ∃ ts, PS X st ts ∧ DSv X.K ts t
structure DSs (X : Cx) (st : List Stmt) (t : TSd) : Prop where
  ex : ∃ ts, PSs X st ts ∧ DSv X.K ts t

section
variable {X : Cx} {st : Stmt} {rest : List Stmt} {t u : TSd} {e : Expr} {te : TD} {to : TR} {tb : TB} {pos : Pos}
def zNext : TSd := fun E c => E.nx c
def zSeq (t u : TSd) : TSd := fun E c => t { E with nx := u E } c
theorem q_nil : DSs X [] zNext := ⟨_, pss_nil, fun B c s G H D E st k q => k.nx c s G H st (Same.refl _) q⟩
theorem q_one (h : DS X st t) : DSs X [st] t := let ⟨ts, p, v⟩ := h.ex; ⟨ts, pss_one p, v⟩
theorem q_cons (h : DS X st t) (h2 : DSs X rest u) : DSs X (st :: rest) (zSeq t u) := (by
  obtain ⟨ts, p, v⟩ := h.ex
  obtain ⟨us, p2, v2⟩ := h2.ex
  refine ⟨_, pss_cons p p2, fun B c s G H D E st k q => v B c s G H { D with nx := us D } { E with nx := u E } st ⟨fun c1 s1 G1 H1 st1 e1 q1 => ?_, k.rt, k.bk, k.ct⟩ q⟩
  exact v2 B c1 s1 G1 H1 D E st1 (k.mono e1) q1
  )
/-- a statement whose ways come together behind it -/
def zCut (t u : TSd) : TSd := fun E c => ∃ M : Ctx → Prop, t { E with nx := M } c ∧ ∀ c', M c' → u E c'
theorem q_cut (h : DS X st t) (h2 : DSs X rest u) : DSs X (st :: rest) (zCut t u) := (by
  obtain ⟨ts, p, v⟩ := h.ex
  obtain ⟨us, p2, v2⟩ := h2.ex
  refine ⟨_, pss_cons p p2, fun B c s G H D E st k q => ?_⟩
  obtain ⟨M, q1, q2⟩ := q
  refine v B c s G H { D with nx := us D } { E with nx := M } st ⟨fun c1 s1 G1 H1 st1 e1 m => ?_, k.rt, k.bk, k.ct⟩ q1
  exact v2 B c1 s1 G1 H1 D E st1 (k.mono e1) (q2 c1 m)
  )
/-- x = e -/
def zSet (j : Nat) (te : TD) : TSd := fun E c => te c fun x c1 => E.nx (c1.set j (.d x))
theorem s_set {j : Nat} {x : Str} {pos' : Pos} (hN : X.N.Nodup) (he : DE X e te) (hi : X.N[j]? = some x := by rfl) (hx : Loc X.env.scope x := by first | exact Or.inl rfl | exact Or.inr rfl) (hs : swapsWith e (some (.Name x pos')) pos.line X.env = pure false := by rfl) (hf : X.fn x = true ∨ X.env.scope.names.lookup x = some .local := by first | exact .inl rfl | exact .inr rfl | assumption) :
    DS X (.Assign [.Name x pos'] e pos) (zSet j te) := (by
  obtain ⟨tp, p, v⟩ := he.ex
  refine ⟨_, ps_set hN hi hx p hs hf, fun B c s G H D E st k q => v B c s G H _ _ st q fun w y c1 G1 H1 st1 e1 d1 q1 => ?_⟩
  exact k.nx _ _ G1 H1 (st1.set_d j d1) e1 q1
  )
/-- x = a new owned thing -/
def zSetO (j : Nat) (te : TR) : TSd := fun E c => te c fun R c1 => E.nx (c1.set j (.o none R))
theorem s_setO {j : Nat} {x : Str} {pos' : Pos} (hN : X.N.Nodup) (he : DO X e to) (hi : X.N[j]? = some x := by rfl) (hx : Loc X.env.scope x := by first | exact Or.inl rfl | exact Or.inr rfl) (hs : swapsWith e (some (.Name x pos')) pos.line X.env = pure false := by rfl) (hf : X.fn x = true ∨ X.env.scope.names.lookup x = some .local := by first | exact .inl rfl | exact .inr rfl | assumption) :
    DS X (.Assign [.Name x pos'] e pos) (zSetO j to) := (by
  obtain ⟨tp, p, v⟩ := he.ex
  refine ⟨_, ps_set hN hi hx p hs hf, fun B c s G H D E st k q => v B c s G H _ _ st q fun w y c1 G1 H1 st1 e1 q1 => ?_⟩
  exact k.nx _ _ G1 H1 (st1.set_o j) e1 q1
  )
def zRet (te : TD) : TSd := fun E c => te c fun x c1 => E.rt (.d x) c1
theorem s_ret (he : DE X e te) : DS X (.Return (some e) pos) (zRet te) := (by
  obtain ⟨tp, p, v⟩ := he.ex
  refine ⟨_, ps_ret p, fun B c s G H D E st k q => v B c s G H _ _ st q fun w y c1 G1 H1 st1 e1 d1 q1 => ?_⟩
  exact k.rt _ _ _ _ G1 H1 (st1.push_d d1) e1 q1
  )
def zRetO (te : TR) : TSd := fun E c => te c fun R c1 => E.rt (.o none R) c1
theorem s_retO (he : DO X e to) : DS X (.Return (some e) pos) (zRetO to) := (by
  obtain ⟨tp, p, v⟩ := he.ex
  refine ⟨_, ps_ret p, fun B c s G H D E st k q => v B c s G H _ _ st q fun w y c1 G1 H1 st1 e1 q1 => ?_⟩
  exact k.rt _ _ _ _ G1 H1 st1 e1 q1
  )
/-- .. of which a fact is kept alone -/
def zRetP (te : TR) (P : List PyData → Prop) : TSd := fun E c => te c fun R c1 => asR R fun ds => P ds ∧ E.rt (.o none (.lstP P)) c1
theorem s_retP (P : List PyData → Prop) (he : DO X e to) : DS X (.Return (some e) pos) (zRetP to P) := (by
  obtain ⟨tp, p, v⟩ := he.ex
  refine ⟨_, ps_ret p, fun B c s G H D E st k q => v B c s G H _ _ st q fun w y c1 G1 H1 st1 e1 q1 => ?_⟩
  obtain ⟨ds, rfl, hP, q2⟩ := asR_of q1
  have st2 := st1.shut (j := 0) rfl hP
  exact k.rt _ _ _ _ G1 H1 st2 e1 q2
  )
/-- return of the owned thing in slot j -/
theorem Stt.take_o {K : PySem.W.Frag} {B : Base} {c : Ctx} {s : L2.St} {G H : Hp} (st : Stt K B c s G H) {j : Nat} {R : Res} (e : c[j]? = some (.o none R)) : ∃ v, s[j]? = some (some v) ∧ Stt K B (.o none R :: c.set j .no) (some v :: s) G H := (by
  obtain ⟨A, r, w⟩ := st.ex
  have key : ∀ {c : Ctx} {s : L2.St} {A : List Addr}, Reps K B G H c s A → ∀ {j : Nat}, A.Nodup → c[j]? = some (.o none R) → ∃ v A1 A2, s[j]? = some (some v) ∧ R.P K G H v A1 ∧ WOk B none v A1 ∧ Reps K B G H (c.set j .no) s A2 ∧ (A1 ++ A2).Nodup ∧ ∀ a ∈ A1 ++ A2, a ∈ A := by
    intro c s A r
    induction r with
    | nil => intro j nd e; simp at e
    | no r ih =>
      intro j nd e
      cases j with
      | zero => simp at e
      | succ j =>
        obtain ⟨v, A1, A2, h1, h2, h3, h4, h5, h6⟩ := ih nd (by simpa using e)
        exact ⟨v, A1, A2, by simpa using h1, h2, h3, .no h4, h5, h6⟩
    | d hd r ih =>
      intro j nd e
      cases j with
      | zero => simp at e
      | succ j =>
        obtain ⟨v, A1, A2, h1, h2, h3, h4, h5, h6⟩ := ih nd (by simpa using e)
        exact ⟨v, A1, A2, by simpa using h1, h2, h3, .d hd h4, h5, h6⟩
    | f hd r ih =>
      intro j nd e
      cases j with
      | zero => simp at e
      | succ j =>
        obtain ⟨v, A1, A2, h1, h2, h3, h4, h5, h6⟩ := ih nd (by simpa using e)
        exact ⟨v, A1, A2, by simpa using h1, h2, h3, .f hd h4, h5, h6⟩
    | @o w2 v2 R2 c2 s2 Ah At ho hw2 r ih =>
      intro j nd e
      obtain ⟨n1, n2, n3⟩ := List.nodup_append.mp nd
      cases j with
      | zero =>
        have e' : S.o w2 R2 = S.o none R := by simpa using e
        cases e'
        exact ⟨v2, Ah, At, rfl, ho, hw2, .no r, nd, fun a ha => ha⟩
      | succ j =>
        obtain ⟨v, A1, A2, h1, h2, h3, h4, h5, h6⟩ := ih n2 (by simpa using e)
        refine ⟨v, A1, Ah ++ A2, by simpa using h1, h2, h3, .o ho hw2 h4, ?_, fun a ha => ?_⟩
        · obtain ⟨m1, m2, m3⟩ := List.nodup_append.mp h5
          refine List.nodup_append.mpr ⟨m1, List.nodup_append.mpr ⟨n1, m2, fun a ha b hb z => n3 a ha b (h6 b (List.mem_append_right _ hb)) z⟩, fun a ha b hb z => ?_⟩
          rcases List.mem_append.mp hb with y | y
          · exact n3 b y a (h6 a (List.mem_append_left _ ha)) z.symm
          · exact m3 a ha b y z
        · rcases List.mem_append.mp ha with y | y
          · exact List.mem_append_right _ (h6 a (List.mem_append_left _ y))
          · rcases List.mem_append.mp y with y | y
            · exact List.mem_append_left _ y
            · exact List.mem_append_right _ (h6 a (List.mem_append_right _ y))
  obtain ⟨v, A1, A2, h1, h2, h3, h4, h5, h6⟩ := key r w.nd e
  exact ⟨v, h1, ⟨A1 ++ A2, .o h2 h3 h4, w.sub, h5, fun a ha => w.out a (h6 a ha), w.old, w.stay, w.dom, w.newG, fun a ha => w.lim a (h6 a ha)⟩⟩
  )
/-- the name of an owned thing made here, given away -/
def oVar (j : Nat) : TR := fun c Q => slO c j fun w R => w = none ∧ Q R (c.set j .no)
theorem o_var (j : Nat) {x : Str} (hN : X.N[j]? = some x := by rfl) (hv : Vis X.env.scope x := by first | exact Or.inl rfl | exact Or.inr (Or.inl rfl) | exact Or.inr (Or.inr rfl)) (hd : (x == ("__debug__" : Str)) = false := by decide)
    (hcd : (x == ("__classdict__" : Str)) = false := by decide) : DO X (.Name x pos) (oVar j) := (by
  refine ⟨_, pe_var hN hv hd hcd, fun B c s G H Q R st h k => ?_⟩
  obtain ⟨w0, R0, e, hw, q⟩ := slO_of h
  subst hw
  obtain ⟨v, e1, st2⟩ := st.take_o e
  exact ⟨v, e1, k v R0 _ G H st2 (Same.refl _) q⟩
  )
def zIf (tc : TB) (t u : TSd) : TSd := fun E c => tc c fun b c1 => if b = true then t E c1 else u E c1
theorem s_if {a b : List Stmt} (hc : DT X e tb) (ha : DSs X a t) (hb : DSs X b u) : DS X (.If e a b pos) (zIf tb t u) := (by
  obtain ⟨tp, p, v⟩ := hc.ex
  obtain ⟨t1, p1, v1⟩ := ha.ex
  obtain ⟨t2, p2, v2⟩ := hb.ex
  refine ⟨_, ps_if p p1 p2, fun B c s G H D E st k q => v B c s G H _ _ st q fun b c1 G1 H1 st1 e1 q1 => ?_⟩
  cases b with
  | true =>
    rw [if_pos rfl] at q1 ⊢
    exact v1 B c1 s G1 H1 D E st1 (k.mono e1) q1
  | false =>
    rw [if_neg Bool.false_ne_true] at q1 ⊢
    exact v2 B c1 s G1 H1 D E st1 (k.mono e1) q1
  )
/-! ### targets of data -/
abbrev TGd := PyData → Ctx → (Ctx → Prop) → Prop
/-- slots but those at js are as they were -/
def But (js : List Nat) (s s' : L2.St) : Prop := s'.length = s.length ∧ ∀ k, k ∉ js → s'[k]? = s[k]?
def DGv (K : PySem.W.Frag) (js : List Nat) (tg : TG) (t : TGd) : Prop := ∀ (B : Base) (c : Ctx) (s : L2.St) (G H : Hp) (v : V) (x : PyData) (Q : Ctx → Prop) (R : L2.St → Hp → Prop), Stt K B c s G H → Dp K G v x → t x c Q → (∀ c' s', Stt K B c' s' G H → But js s s' → Q c' → R s' H) → tg v s H R
structure DG (X : Cx) (e : Expr) (js : List Nat) (t : TGd) : Prop where
  ex : ∃ tg, PG X e tg ∧ DGv X.K js tg t
def gN (j : Nat) : TGd := fun x c Q => Q (c.set j (.d x))
theorem g_name (j : Nat) {x : Str} (hN : X.N.Nodup) (hi : X.N[j]? = some x := by rfl) (hx : Loc X.env.scope x := by first | exact Or.inl rfl | exact Or.inr rfl) (hf : X.fn x = true ∨ X.env.scope.names.lookup x = some .local := by first | exact .inl rfl | exact .inr rfl | assumption) : DG X (.Name x pos) [j] (gN j) :=
  ⟨_, pg_name hN hi hx hf, fun B c s G H v x Q R st d q k => k _ _ (st.set_d j d) ⟨List.length_set .., fun k hk => List.getElem?_set_ne (fun z => hk (by simp [z]))⟩ q⟩
abbrev TGsd := List PyData → Ctx → (Ctx → Prop) → Prop
def DGsv (K : PySem.W.Frag) (js : List Nat) (tg : TGs) (t : TGsd) : Prop := ∀ (B : Base) (c : Ctx) (s : L2.St) (G H : Hp) (vs : List V) (xs : List PyData) (Q : Ctx → Prop) (R : L2.St → Hp → Prop), Stt K B c s G H → DpAll K G vs xs → t xs c Q → (∀ c' s', Stt K B c' s' G H → But js s s' → Q c' → R s' H) → tg vs s H R
structure DGs (X : Cx) (es : List Expr) (js : List Nat) (t : TGsd) : Prop where
  ex : ∃ tg, PGs X es tg ∧ DGsv X.K js tg t
def gsNil : TGsd := fun xs c Q => xs = [] ∧ Q c
def asC (xs : List PyData) (Q : PyData → List PyData → Prop) : Prop := match xs with
  | x :: r => Q x r
  | [] => False
theorem asC_c {x : PyData} {r : List PyData} {Q : PyData → List PyData → Prop} : asC (x :: r) Q = Q x r := id rfl
theorem asC_of {xs : List PyData} {Q : PyData → List PyData → Prop} (h : asC xs Q) : ∃ x r, xs = x :: r ∧ Q x r := (by
  cases xs with
  | nil => exact False.elim h
  | cons x r => exact ⟨x, r, rfl, h⟩
  )
def gsCons (t : TGd) (u : TGsd) : TGsd := fun xs c Q => asC xs fun x r => t x c fun c1 => u r c1 Q
theorem gs_nil : DGs X [] [] gsNil := ⟨_, pgs_nil, fun B c s G H vs xs Q R st d q k => by
  obtain ⟨rfl, q⟩ := q
  cases d
  exact ⟨rfl, k _ _ st ⟨rfl, fun _ _ => rfl⟩ q⟩⟩
theorem gs_cons {es : List Expr} {t : TGd} {u : TGsd} {js ks : List Nat} (h : DG X e js t) (h2 : DGs X es ks u) (hs : (assignEach (e :: es) X.env).map (·.2) = assign e X.env :: (assignEach es X.env).map (·.2) := by rfl) : DGs X (e :: es) (js ++ ks) (gsCons t u) := (by
  obtain ⟨tg, p, v⟩ := h.ex
  obtain ⟨tg2, p2, v2⟩ := h2.ex
  refine ⟨_, pgs_cons p p2 hs, fun B c s G H vs xs Q R st d q k => ?_⟩
  obtain ⟨x, r, rfl, q⟩ := asC_of q
  cases d with
  | cons d1 d2 => exact ⟨_, _, rfl, v B c s G H _ x _ _ st d1 q fun c1 s1 st1 b1 q1 => v2 B c1 s1 G H _ r Q R st1 d2 q1 fun c2 s2 st2 b2 q2 => k c2 s2 st2 ⟨b2.1.trans b1.1, fun i hi => (b2.2 i fun z => hi (List.mem_append_right _ z)).trans (b1.2 i fun z => hi (List.mem_append_left _ z))⟩ q2⟩
  )
def gT (n : Nat) (t : TGsd) : TGd := fun x c Q => asT x fun xs => xs.length = n ∧ t xs c Q
theorem g_tup {es : List Expr} {k : Nat} {t : TGsd} {n : Nat} {js : List Nat} (hc : X.calm = true) (h : DGs X es js t) (hn : (assignEach es X.env).length = n := by rfl) (hst : (assignEach es X.env).findIdx? (·.1) = none := by rfl) : DG X (.Tuple es k pos) js (gT n t) := (by
  obtain ⟨tg, p, v⟩ := h.ex
  refine ⟨_, pg_tup hc p hn hst, fun B c s G H w x Q R st d q k => ?_⟩
  obtain ⟨xs, rfl, hl, q⟩ := asT_of q
  obtain ⟨a, vs, rfl, h1, h2⟩ := dp_tup d
  exact ⟨a, vs, rfl, same_t st.sub h1, by rw [dpa_len h2]; exact hl, v B c s G H vs xs Q R st h2 q k⟩
  )
/-- a, b = e -/
def zAsg (te : TD) (t : TGd) : TSd := fun E c => te c fun x c1 => t x c1 E.nx
theorem s_asg {tg : Expr} {t : TGd} {js : List Nat} (he : DE X e te) (hg : DG X tg js t) (hs : swapsWithSole [tg] e pos.line X.env = pure false := by rfl) (hw : swappedStores [tg] e X.env = pure none := by rfl)
    (h1 : (assignEach [tg] X.env).map (·.2) = [assign tg X.env] := by rfl) : DS X (.Assign [tg] e pos) (zAsg te t) := (by
  obtain ⟨tp, p, v⟩ := he.ex
  obtain ⟨tq, p2, v2⟩ := hg.ex
  refine ⟨_, ps_asg p p2 hs hw h1, fun B c s G H D E st k q => v B c s G H _ _ st q fun w y c1 G1 H1 st1 e1 d1 q1 => ?_⟩
  exact v2 B c1 s G1 H1 w y _ _ st1 d1 q1 fun c2 s2 st2 _ q2 => k.nx c2 s2 G1 H1 st2 e1 q2
  )
/-- xs[i] = e, xs an owned list in slot j -/
def zPut (j : Nat) (te ti : TD) : TSd := fun E c => te c fun x c1 => slO c1 j fun _ _ => ti c1 fun y c2 => slO c2 j fun w R => asR R fun ds => asI y fun i => ixP ds.length i fun n => E.nx (c2.set j (.o w (.lst (ds.set n x))))
theorem s_put (j : Nat) {x : Str} {i : Expr} {ti : TD} {pos' pos'' : Pos} (he : DE X e te) (hi : DE X i ti) (hN : X.N[j]? = some x := by rfl) (hv : Vis X.env.scope x := by first | exact Or.inl rfl | exact Or.inr (Or.inl rfl) | exact Or.inr (Or.inr rfl)) (hd : (x == ("__debug__" : Str)) = false := by decide)
    (hcd : (x == ("__classdict__" : Str)) = false := by decide)
    (ha : ∀ v, assign (.Subscript (.Name x pos') i pos'') X.env v = (do
      let ov ← holding [v] (eval (.Name x pos') X.env)
      let iv ← holding [v, ov] (eval i X.env)
      standAt pos''
      holding [v, ov, iv] (setItem ov iv v)
      release [v, ov, iv] []) := by intro _; rfl)
    (hs : swapsWithSole [.Subscript (.Name x pos') i pos''] e pos.line X.env = pure false := by rfl) (hw : swappedStores [.Subscript (.Name x pos') i pos''] e X.env = pure none := by rfl)
    (h1 : (assignEach [.Subscript (.Name x pos') i pos''] X.env).map (·.2) = [assign (.Subscript (.Name x pos') i pos'') X.env] := by rfl) : DS X (.Assign [.Subscript (.Name x pos') i pos''] e pos) (zPut j te ti) := (by
  obtain ⟨tp, p, v⟩ := he.ex
  obtain ⟨tq, p2, v2⟩ := hi.ex
  refine ⟨_, ps_asg p (pg_sub (pe_var hN hv hd hcd) p2 set_list ha) hs hw h1, fun B c s G H D E st k q => v B c s G H _ _ st q fun w y c1 G1 H1 st1 e1 d1 q1 => ?_⟩
  obtain ⟨w0, R0, g0, q1⟩ := slO_of q1
  obtain ⟨u, hu⟩ := st1.own_at g0
  refine ⟨u, hu, v2 B c1 s G1 H1 _ _ st1 q1 fun iv z c2 G2 H2 st2 e2 d2 q2 => ?_⟩
  obtain ⟨w1, R1, g1, q2⟩ := slO_of q2
  obtain ⟨ds, rfl, q2⟩ := asR_of q2
  obtain ⟨i, rfl, q2⟩ := asI_of q2
  obtain ⟨n, g2, q3⟩ := q2
  obtain ⟨a, vs, g3, g4, g5, g6⟩ := st2.own g1
  rw [hu] at g3
  cases g3
  refine ⟨a, vs, i, n, rfl, dp_int d2, g4, by rw [dpa_len g5]; exact g2, ?_⟩
  exact k.nx _ _ G2 _ (g6 _ _ (dpa_set g5 (dp_mono e2 _ _ d1))) (e1.trans e2) q3
  )
/-! ### loops -/
/-- what an iterable yields: the data ys -/
def ItOk (K : PySem.W.Frag) (G : Hp) (J : It) (ys : List PyData) : Prop := ∀ (B : Base) (c : Ctx) (s : L2.St) (G' H' : Hp), Stt K B c s G' H' → Same G G' → ∀ i : Nat,
  (ys.length ≤ i → J.stop i H') ∧ (i < ys.length → J.go i H' ∧ ∀ x H2, J.yld i H' x H2 → ∃ G2 y, ys[i]? = some y ∧ Stt K B c s G2 H2 ∧ Same G' G2 ∧ Dp K G2 x y)
def DIv (K : PySem.W.Frag) (wi : TI) (t : TL) : Prop := ∀ (B : Base) (c : Ctx) (s : L2.St) (G H : Hp) (Q : List PyData → Ctx → Prop) (R : It → Hp → Prop), Stt K B c s G H → t c Q →
  (∀ J ys c' G' H', Stt K B c' s G' H' → Same G G' → ItOk K G' J ys → Q ys c' → R J H') → wi s H R
structure DI (X : Cx) (tg iter : Expr) (t : TL) : Prop where
  ex : ∃ wi, PI X tg iter wi ∧ DIv X.K wi t
variable {tg : Expr} {ti : TL}
def signs (z : Str) : List PyData := z.cps.toList.map fun (n : Nat) => .str ⟨#[n]⟩
def asQ (x : PyData) (Q : List PyData → Prop) : Prop := match x with
  | .list ds => Q ds
  | .tuple ds => Q ds
  | .str z => Q (signs z)
  | _ => False
theorem asQ_l {ds : List PyData} {Q : List PyData → Prop} : asQ (.list ds) Q = Q ds := id rfl
theorem asQ_t {ds : List PyData} {Q : List PyData → Prop} : asQ (.tuple ds) Q = Q ds := id rfl
theorem asQ_s {z : Str} {Q : List PyData → Prop} : asQ (.str z) Q = Q (signs z) := id rfl
def iSeq (te : TD) : TL := fun c Q => te c fun x c1 => asQ x fun ds => Q ds c1
/-- lists, tuples, texts -/
theorem i_seq (he : DE X e te) : DI X tg e (iSeq te) := (by
  obtain ⟨tp, p, v⟩ := he.ex
  refine ⟨_, PI.mk fun pins st s H R I (h : tp s H fun x H1 => (∃ a, x = .ref a ∧ (∃ xs, SqL X.K H1 a xs) ∧ R (Itl X.K a) H1) ∨ (∃ a, x = .ref a ∧ (∃ xs, SqT X.K H1 a xs) ∧ R (Itt X.K a) H1) ∨ ∃ z, x = .str z ∧ R (Its z) H1) => ?_, fun B c s G H Q R st q k => v B c s G H _ _ st q fun w y c1 G1 H1 st1 e1 d1 q1 => ?_⟩
  · refine thn (p.run pins st s H _ I h) fun u s1 ⟨x, H1, I1, r1, q1⟩ => ?_
    rcases q1 with ⟨a, rfl, ⟨xs, hq⟩, q⟩ | ⟨a, rfl, ⟨xs, hq⟩, q⟩ | ⟨z, rfl, q⟩
    · cases r1
      obtain ⟨its, rv, pl, hz⟩ := I1.list hq
      refine wpAny_pyIter_list pl.isList ?_
      refine ⟨s1.heap.objs.size, [s1.heap.objs.size], _, _, H1, rfl, I1.kept (t' := s1.toks) fun b o e => Heap.get?_push_of_some _ e, turn_list a _, ⟨_, Heap.get?_push_size _ rfl, rfl, rfl⟩, fun b hb => ?_, q⟩
      obtain rfl : b = s1.heap.objs.size := by simpa using hb
      exact I1.fpOk (Nat.le_refl _) (I1.hok.fresh (Nat.le_refl _))
    · cases r1
      obtain ⟨its, rv, pl, hz⟩ := I1.tuple hq
      refine wpAny_pyIter_tuple (show s1.heap.IsTuple a its.toArray from pl) ?_
      refine ⟨s1.heap.objs.size, [s1.heap.objs.size], _, _, H1, rfl, I1.kept (t' := s1.toks) fun b o e => Heap.get?_push_of_some _ e, turn_tuple a _, ⟨_, Heap.get?_push_size _ rfl, rfl, rfl⟩, fun b hb => ?_, q⟩
      obtain rfl : b = s1.heap.objs.size := by simpa using hb
      exact I1.fpOk (Nat.le_refl _) (I1.hok.fresh (Nat.le_refl _))
    · obtain ⟨t, rfl⟩ := r1
      cases ha : z.cps.all (· < 128)
      · exact wpAny_pyIter_wide ha (pi_one (tk := s1.toks) I1 _ (turn_str _ z t "str_iterator" (.inr rfl)) ⟨_, Heap.get?_push_size _ rfl, rfl, rfl⟩ q)
      · exact wpAny_pyIter_ascii ha (pi_one (tk := s1.toks) I1 _ (turn_str _ z t "str_ascii_iterator" (.inl rfl)) ⟨_, Heap.get?_push_size _ rfl, rfl, rfl⟩ q)
  · cases y with
    | list ds =>
      obtain ⟨a, vs, rfl, h1, h2⟩ := dp_lst d1
      refine .inl ⟨a, rfl, ⟨vs, Same.seq st1.sub h1⟩, k (Itl X.K a) ds c1 G1 H1 st1 e1 (fun B' c' s' G' H' st' e' i => ⟨fun hi => ⟨vs, Same.seq st'.sub (Same.seq e' h1), by rw [dpa_len h2]; exact hi⟩, fun hi => ?_⟩) q1⟩
      have hq : SqL X.K H' a vs := Same.seq st'.sub (Same.seq e' h1)
      obtain ⟨x, hx, dx⟩ := dpa_get h2 (List.getElem?_eq_getElem hi)
      refine ⟨⟨vs, x, hq, hx⟩, fun z H2 hy => ?_⟩
      obtain ⟨rfl, hz⟩ := hy
      have := hz vs hq
      rw [hx] at this
      cases this
      exact ⟨G', _, List.getElem?_eq_getElem hi, st', Same.refl _, dp_mono e' _ _ dx⟩
    | tuple ds =>
      obtain ⟨a, vs, rfl, h1, h2⟩ := dp_tup d1
      refine .inr (.inl ⟨a, rfl, ⟨vs, same_t st1.sub h1⟩, k (Itt X.K a) ds c1 G1 H1 st1 e1 (fun B' c' s' G' H' st' e' i => ⟨fun hi => ⟨vs, same_t st'.sub (same_t e' h1), by rw [dpa_len h2]; exact hi⟩, fun hi => ?_⟩) q1⟩)
      have hq : SqT X.K H' a vs := same_t st'.sub (same_t e' h1)
      obtain ⟨x, hx, dx⟩ := dpa_get h2 (List.getElem?_eq_getElem hi)
      refine ⟨⟨vs, x, hq, hx⟩, fun z H2 hy => ?_⟩
      obtain ⟨rfl, hz⟩ := hy
      have := hz vs hq
      rw [hx] at this
      cases this
      exact ⟨G', _, List.getElem?_eq_getElem hi, st', Same.refl _, dp_mono e' _ _ dx⟩
    | str z =>
      cases d1
      refine .inr (.inr ⟨z, rfl, k (Its z) (signs z) c1 G1 H1 st1 e1 (fun B' c' s' G' H' st' e' i => ?_) q1⟩)
      have hl : (signs z).length = z.cps.size := by simp [signs]
      rw [hl]
      refine ⟨fun hi => hi, fun hi => ⟨hi, fun x H2 hy => ?_⟩⟩
      obtain ⟨rfl, n, hn, rfl⟩ := hy
      refine ⟨G', _, ?_, st', Same.refl _, .str _⟩
      have hn' : z.cps.toList[i]? = some n := by rw [Array.getElem?_toList]; exact hn
      rw [signs, List.getElem?_map, hn']
      rfl
    | none => exact q1.elim
    | bool _ => exact q1.elim
    | int _ => exact q1.elim
    | dict _ => exact q1.elim
  )
/-- lo, lo + 1, .. -/
def rngD (lo : Int) (n : Nat) : List PyData := (List.range n).map fun (k : Nat) => .int (lo + (k : Int))
theorem rngD_len (lo : Int) (n : Nat) : (rngD lo n).length = n := by simp [rngD]
theorem it_rng {K : PySem.W.Frag} {G : Hp} (lo : Int) (n : Nat) : ItOk K G (Itr lo n) (rngD lo n) := fun _ c s G' H' st e i => by
  rw [rngD_len]
  refine ⟨fun hi => hi, fun hi => ⟨hi, fun x H2 hy => ?_⟩⟩
  obtain ⟨rfl, rfl⟩ := hy
  refine ⟨G', _, ?_, st, Same.refl _, .int (lo + i)⟩
  simp [rngD, hi]
variable {a b : Expr} {ta tb2 : TD} {p : Pos}
def iR1 (ta : TD) : TL := fun c Q => ta c fun x c1 => asI x fun j => -(2 ^ 62) ≤ j ∧ j < 2 ^ 62 ∧ Q (rngD 0 j.toNat) c1
theorem i_range1 (hm : X.mg "range" = none) (ha : DE X a ta) (hg : Gl X "range" := by rfl) (he : starEach (a :: []) X.env = (false, eval a X.env) :: starEach [] X.env := by rfl) (hs : starEach [a] X.env = [(false, eval a X.env)] := by rfl) : DI X tg (.Call (.Name "range" p) [a] [] pos) (iR1 ta) := (by
  obtain ⟨tp, pp, v⟩ := ha.ex
  refine ⟨_, pi_range1 hg hm (pa_cons pp pa_nil he) hs, fun B c s G H Q R st q k => v B c s G H _ _ st q fun w y c1 G1 H1 st1 e1 d1 q1 => ?_⟩
  obtain ⟨j, rfl, h1, h2, q2⟩ := asI_of q1
  cases d1
  exact ⟨j, rfl, h1, h2, k _ _ c1 G1 H1 st1 e1 (it_rng 0 j.toNat) q2⟩
  )
/-- for target in iter: body -/
def zLoop (tg : TGd) (tb : TSd) (E : De) (ys : List PyData) (c1 : Ctx) : Prop := ∃ I : Nat → Ctx → Prop, I 0 c1 ∧
  (∀ i y c, ys[i]? = some y → I i c → tg y c fun c2 => tb { E with nx := I (i + 1), ct := I (i + 1), bk := E.nx } c2) ∧ ∀ c, I ys.length c → E.nx c
def zFor (ti : TL) (tg : TGd) (tb : TSd) : TSd := fun E c => ti c fun ys c1 => zLoop tg tb E ys c1
theorem s_for {iter : Expr} {body : List Stmt} {t : TGd} {tb : TSd} {js : List Nat} (hp : PassesOwn (model X.prog X.w) X.A X.env X.xe) (hc : X.calm = true) (hi : DI X tg iter ti) (hg : DG X tg js t) (hb : DSs X body tb)
    (hs : ∀ x, foldedSetIterable iter X.env x = pure x := by intro _; rfl) : DS X (.For tg iter body [] pos) (zFor ti t tb) := (by
  obtain ⟨wi, pi, vi⟩ := hi.ex
  obtain ⟨g, pg, vg⟩ := hg.ex
  obtain ⟨ts, pb, vb⟩ := hb.ex
  refine ⟨_, ps_for hp hc pi pg pb hs, fun B c s G H D E st k q => vi B c s G H _ _ st q fun J ys c1 G1 H1 st1 e1 ok q1 => ?_⟩
  obtain ⟨I, i0, turn, fin⟩ := q1
  refine ⟨fun i m s' H' => m = ys.length - i ∧ i ≤ ys.length ∧ ∃ c' G', Stt X.K B c' s' G' H' ∧ Same G1 G' ∧ I i c', ⟨ys.length, rfl, Nat.zero_le _, c1, G1, st1, Same.refl _, i0⟩, ?_⟩
  rintro i m s' H' ⟨rfl, hi, c', G', st', e', hI⟩
  by_cases hlt : i < ys.length
  · refine .inr ⟨((ok B c' s' G' H' st' e' i).2 hlt).1, fun s2 H2 => ∃ c2 G2, Stt X.K B c2 s2 G2 H2 ∧ Same G1 G2 ∧ I (i + 1) c2, fun s2 H2 ⟨c2, G2, st2, e2, hI2⟩ => ⟨ys.length - (i + 1), by omega, rfl, hlt, c2, G2, st2, e2, hI2⟩, fun x H2 hy => ?_⟩
    obtain ⟨G2, y, hy1, st2, e2, dy⟩ := ((ok B c' s' G' H' st' e' i).2 hlt).2 x H2 hy
    refine vg B c' s' G2 H2 x y _ _ st2 dy (turn i y c' hy1 hI) fun c3 s3 st3 _ q3 => ?_
    have e13 : Same G1 G2 := e'.trans e2
    exact vb B c3 s3 G2 H2 _ { E with nx := I (i + 1), ct := I (i + 1), bk := E.nx } st3 ⟨fun c4 s4 G4 H4 st4 e4 q4 => ⟨c4, G4, st4, e13.trans e4, q4⟩, fun r c4 v s4 G4 H4 st4 e4 q4 => k.rt r c4 v s4 G4 H4 st4 ((e1.trans e13).trans e4) q4, fun c4 s4 G4 H4 st4 e4 q4 => k.nx c4 s4 G4 H4 st4 ((e1.trans e13).trans e4) q4, fun c4 s4 G4 H4 st4 e4 q4 => ⟨c4, G4, st4, e13.trans e4, q4⟩⟩ q3
  · have e : i = ys.length := by omega
    subst e
    exact .inl ⟨(ok B c' s' G' H' st' e' _).1 (Nat.le_refl _), k.nx c' s' G' H' st' (e1.trans e') (fin c' hI)⟩
  )
end

/-! ### defs -/
abbrev TF := Ctx → (S → Ctx → Prop) → Prop
def SpD (K : PySem.W.Frag) (T : TF) : Sp := fun vs H Q _ => ∃ (G : Hp) (io : List Addr) (a : Ctx) (Q1 : S → Ctx → Prop), Stt K ⟨H, G, io⟩ a (vs.map some) G H ∧ T a Q1 ∧
  ∀ r c v s G' H', Stt K ⟨H, G, io⟩ (r :: c) (some v :: s) G' H' → Q1 r c → Q v H'
theorem reps_more {K : PySem.W.Frag} {B : Base} {G H : Hp} {c : Ctx} {s : L2.St} {A : List Addr} (h : Reps K B G H c s A) (n : Nat) : Reps K B G H (c ++ List.replicate n .no) (s ++ List.replicate n none) A := (by
  induction h with
  | nil =>
    induction n with
    | zero => exact .nil
    | succ n ih => exact .no ih
  | no _ ih => exact .no ih
  | d hd _ ih => exact .d hd ih
  | f hd _ ih => exact .f hd ih
  | o ho hw _ ih => exact .o ho hw ih
  )
/-- THE RULE for a def over data -/
theorem fn_d {P : Program} {w : World} {K : PySem.W.Frag} {mg : Str → Option Value} {base : Heap} {x qual : Str} {st : Stmt} {f : Addr} {fd : FuncData} {N ps : List Str} {k : Nat} {T : TF} {t : TSd} (F : Fun K x qual st f fd) (sc : FnScope N ps (defScope st))
    (hT : ∀ a Q, T a Q → a.length = ps.length ∧ t { nx := fun c => Q (.d .none) c, rt := Q } (a ++ List.replicate (N.length - ps.length) .no))
    (body : ∀ (cdv : Value) (A : Around) (outer : List Env) (s : Shared) (H : Hp) (E : XK), Room k (A.deeper (envOfC qual (defScope st) s.heap.objs.size f cdv)) →
      DSs (cxOf CX0 P w K mg base N qual (defScope st) f cdv A outer s H E).nox (defBody st) t) : FnOk P w K mg base CX0 (k + 1) f fd ps (SpD K T) := (by
  have hl : ∀ vs H Q E, SpD K T vs H Q E → vs.length = ps.length := fun vs H Q E h => by
    obtain ⟨G, io, a, Q1, ⟨A, r, _⟩, h2, _⟩ := h
    have := r.len
    rw [List.length_map] at this
    rw [this]
    exact (hT a Q1 h2).1
  refine F.ok sc hl (fun cdv A outer s H vs Q E hr h => ?_)
  obtain ⟨ts, p, v⟩ := (body cdv A outer s H E hr).ex
  refine ⟨ts, p, ?_⟩
  have lv := hl _ _ _ _ h
  obtain ⟨G, io, a, Q1, ⟨A1, r, wd⟩, h2, h3⟩ := h
  have st0 : Stt K ⟨H, G, io⟩ (a ++ List.replicate (N.length - ps.length) .no) (L2.start N vs) G H := by
    refine ⟨A1, ?_, wd⟩
    unfold L2.start
    rw [lv]
    exact reps_more r _
  exact v ⟨H, G, io⟩ _ _ G H _ { nx := fun c => Q1 (.d .none) c, rt := Q1 } st0 ⟨fun c s' G' H' st' _ q => h3 (.d .none) c .non s' G' H' (st'.push_d .non) q, fun r c v s' G' H' st' _ q => h3 r c v s' G' H' st' q, fun _ _ _ _ _ _ q => q.elim, fun _ _ _ _ _ _ q => q.elim⟩ (hT a Q1 h2).2
  )
/-- .. whose first argument is a lent list of which a fact is known: its items told at the entry -/
theorem fn_dP {P : Program} {w : World} {K : PySem.W.Frag} {mg : Str → Option Value} {base : Heap} {x qual : Str} {st : Stmt} {f : Addr} {fd : FuncData} {N ps : List Str} {k : Nat} {T : TF} {t : TSd} (F : Fun K x qual st f fd) (sc : FnScope N ps (defScope st))
    (hT : ∀ a Q, T a Q → a.length = ps.length ∧ ∃ wo Pl, a[0]? = some (.o wo (.lstP Pl)) ∧ ∀ ds, Pl ds → t { nx := fun c => slO c 0 fun w R => w = wo ∧ asR R fun ds' => Pl ds' ∧ Q (.d .none) (c.set 0 (.o wo (.lstP Pl))), rt := fun r c => slO c 0 fun w R => w = wo ∧ asR R fun ds' => Pl ds' ∧ Q r (c.set 0 (.o wo (.lstP Pl))) } (a.set 0 (.o wo (.lst ds)) ++ List.replicate (N.length - ps.length) .no))
    (body : ∀ (cdv : Value) (A : Around) (outer : List Env) (s : Shared) (H : Hp) (E : XK), Room k (A.deeper (envOfC qual (defScope st) s.heap.objs.size f cdv)) →
      DSs (cxOf CX0 P w K mg base N qual (defScope st) f cdv A outer s H E).nox (defBody st) t) : FnOk P w K mg base CX0 (k + 1) f fd ps (SpD K T) := (by
  have hl : ∀ vs H Q E, SpD K T vs H Q E → vs.length = ps.length := fun vs H Q E h => by
    obtain ⟨G, io, a, Q1, ⟨A, r, _⟩, h2, _⟩ := h
    have := r.len
    rw [List.length_map] at this
    rw [this]
    exact (hT a Q1 h2).1
  refine F.ok sc hl (fun cdv A outer s H vs Q E hr h => ?_)
  obtain ⟨ts, p, v⟩ := (body cdv A outer s H E hr).ex
  refine ⟨ts, p, ?_⟩
  have lv := hl _ _ _ _ h
  obtain ⟨G, io, a, Q1, st1, h2, h3⟩ := h
  obtain ⟨_, wo, Pl, g1, g2⟩ := hT a Q1 h2
  obtain ⟨ds, hP, st2⟩ := st1.open_ g1
  obtain ⟨A1, r, wd⟩ := st2.ex
  have st0 : Stt K ⟨H, G, io⟩ (a.set 0 (.o wo (.lst ds)) ++ List.replicate (N.length - ps.length) .no) (L2.start N vs) G H := by
    refine ⟨A1, ?_, wd⟩
    unfold L2.start
    rw [lv]
    exact reps_more r _
  refine v ⟨H, G, io⟩ _ _ G H _ { nx := fun c => slO c 0 fun w R => w = wo ∧ asR R fun ds' => Pl ds' ∧ Q1 (.d .none) (c.set 0 (.o wo (.lstP Pl))), rt := fun r c => slO c 0 fun w R => w = wo ∧ asR R fun ds' => Pl ds' ∧ Q1 r (c.set 0 (.o wo (.lstP Pl))) } st0 ⟨fun c s' G' H' st' _ q => ?_, fun rr c v s' G' H' st' _ q => ?_, fun _ _ _ _ _ _ q => q.elim, fun _ _ _ _ _ _ q => q.elim⟩ (g2 ds hP)
  · obtain ⟨w1, R1, q1, hw, q⟩ := slO_of q
    subst hw
    obtain ⟨ds', rfl, q2, q3⟩ := asR_of q
    exact h3 (.d .none) _ .non s' G' H' ((st'.shut q1 q2).push_d .non) q3
  · obtain ⟨w1, R1, q1, hw, q⟩ := slO_of q
    subst hw
    obtain ⟨ds', rfl, q2, q3⟩ := asR_of q
    exact h3 rr _ v s' G' H' (st'.shut (j := 1) (by simpa using q1) q2) q3
  )
/-- what a caller has, behind a call to which the addresses io were lent -/
theorem wd_after {B : Base} {G H G' H' : Hp} {io A A' A2 : List Addr} (w0 : Wd B G H A) (hA : ∀ a ∈ A, H a ≠ none) (hT : ∀ a ∈ A, ∀ o, H a = some o → isTup o = false) (hio : ∀ a ∈ io, a ∈ A) (w : Wd ⟨H, G, io⟩ G' H' A') (n : A2.Nodup) (hi : ∀ a ∈ A2, a ∈ A' ∨ (a ∈ A ∧ a ∉ io)) : Wd B G' H' A2 where
  sub := w.sub
  nd := n
  out := fun a ha => by
    rcases hi a ha with z | ⟨z, y⟩
    · exact w.out a z
    · rcases w.newG a y (hA a z) with e | ⟨o, e, t⟩
      · rw [e]; exact w0.out a z
      · rw [hT a z o e] at t; cases t
  old := w0.old.trans w.old
  stay := fun a o q hn => by
    have q1 := w0.stay a o q hn
    refine w.stay a o q1 fun z => ?_
    rcases w0.lim a (hio a z) with y | y
    · exact hn y
    · rw [y] at q; cases q
  dom := fun a q => w0.dom a (w.dom a q)
  newG := fun a i q => by
    have hn : a ∉ A := fun z => (w0.lim a z).elim i q
    have e : H a = B.H0 a := by
      cases z : B.H0 a with
      | none => exact absurd z q
      | some o => exact w0.stay a o z i
    rcases w.newG a (fun z => hn (hio a z)) (fun z => q (w0.dom a z)) with e2 | ⟨o, e2, t⟩
    · rw [e2]; exact w0.newG a i q
    · exact .inr ⟨o, e ▸ e2, t⟩
  lim := fun a ha => by
    rcases hi a ha with z | ⟨z, _⟩
    · rcases w.lim a z with y | y
      · exact w0.lim a (hio a y)
      · exact .inr (w0.dom a y)
    · exact w0.lim a z
theorem keep_after {G H G' H' : Hp} {io A A' : List Addr} (hA : ∀ a ∈ A, H a ≠ none) (w : Wd ⟨H, G, io⟩ G' H' A') : ∀ a ∈ A, a ∉ io → H' a = H a := fun a ha hn => by
  cases q : H a with
  | none => exact absurd q (hA a ha)
  | some o => exact w.stay a o q hn
theorem after0 {K : PySem.W.Frag} {B : Base} {c c' : Ctx} {s s' : L2.St} {G H G' H' : Hp} (st : Stt K B c s G H) (st' : Stt K ⟨H, G, []⟩ c' s' G' H') : Stt K B c s G' H' ∧ Same G G' := (by
  obtain ⟨A, r, w0⟩ := st.ex
  obtain ⟨A', r', w⟩ := st'.ex
  exact ⟨⟨A, r.mono w.old fun a ha => keep_after r.here w a ha (by simp), wd_after w0 r.here r.nt (by simp) w w0.nd fun a ha => .inr ⟨ha, by simp⟩⟩, w.old⟩
  )
theorem after0o {K : PySem.W.Frag} {B : Base} {c c' : Ctx} {s s' : L2.St} {G H G' H' : Hp} {R : Res} {v : V} (st : Stt K B c s G H) (st' : Stt K ⟨H, G, []⟩ (.o none R :: c') (some v :: s') G' H') : Stt K B (.o none R :: c) (some v :: s) G' H' ∧ Same G G' := (by
  obtain ⟨A, r, w0⟩ := st.ex
  obtain ⟨A', r', w⟩ := st'.ex
  cases r' with
  | @o _ _ _ _ _ Ar At h1 h2 r' =>
    obtain ⟨n1, n2, n3⟩ := List.nodup_append.mp w.nd
    have h2' : ∀ a ∈ Ar, H a = none := h2
    refine ⟨⟨Ar ++ A, .o h1 (fun a ha => w0.dom a (h2' a ha)) (r.mono w.old fun a ha => keep_after r.here w a ha (by simp)), wd_after w0 r.here r.nt (by simp) w ?_ fun a ha => ?_⟩, w.old⟩
    · refine List.nodup_append.mpr ⟨n1, w0.nd, fun a ha b hb z => ?_⟩
      subst z
      exact r.here a hb (h2' a ha)
    · rcases List.mem_append.mp ha with z | z
      · exact .inl (List.mem_append_left _ z)
      · exact .inr ⟨z, by simp⟩
  )
/-- a call to which the owned thing in slot j is lent, as the first argument -/
theorem lend1 {K : PySem.W.Frag} {B : Base} {c : Ctx} {s : L2.St} {G H : Hp} {j : Nat} {w : Option Lt} {R : Res} (st : Stt K B c s G H) (e : c[j]? = some (.o w R)) :
    ∃ (v : V) (x : Lt), x.v = v ∧ s[j]? = some (some v) ∧ (∀ {vs : List V} {xs : List PyData}, DpAll K G vs xs → Stt K ⟨H, G, x.al⟩ (.o (some x) R :: xs.map S.d) ((v :: vs).map some) G H) ∧
      (∀ {r : S} {c' : Ctx} {vr : V} {s' : L2.St} {G' H' : Hp} {R' : Res}, Stt K ⟨H, G, x.al⟩ (r :: c') (some vr :: s') G' H' → c'[0]? = some (.o (some x) R') →
        Same G G' ∧ (∀ y, r = .d y → Dp K G' vr y ∧ Stt K B (c.set j (.o w R')) s G' H') ∧ ∀ R2, r = .o none R2 → Stt K B (.o none R2 :: c.set j (.o w R')) (some vr :: s) G' H') := (by
  obtain ⟨A, r, w0⟩ := st.ex
  obtain ⟨v, A1, h1, h2, h3, h4, h5, k⟩ := r.focus w0.nd e
  refine ⟨v, ⟨v, A1⟩, rfl, h1, fun {vs xs} d => ?_, fun {r' c' vr s' G' H' R'} st' e' => ?_⟩
  · refine ⟨A1 ++ [], .o h2 ⟨rfl, fun a ha => .inl ha⟩ ?_, ?_⟩
    · clear k
      induction xs generalizing vs with
      | nil => cases d; exact .nil
      | cons x xs ih =>
        cases d with
        | cons d1 d2 => exact .d d1 (ih d2)
    · rw [List.append_nil]
      exact ⟨w0.sub, h4, fun a ha => w0.out a (h5 a ha), Same.refl _, fun a o q _ => q, fun a q => q, fun a _ q => .inl rfl, fun a ha => .inl ha⟩
  · obtain ⟨A', r2, wd⟩ := st'.ex
    have keepA := keep_after r.here wd
    have key : ∀ {A1' : List Addr} {v' : V}, R'.P K G' H' v' A1' → WOk ⟨H, G, A1⟩ (some ⟨v, A1⟩) v' A1' → A1'.Nodup → (∀ a ∈ A1', a ∈ A') → ∃ A2, Reps K B G' H' (c.set j (.o w R')) s A2 ∧ A2.Nodup ∧ ∀ a ∈ A2, a ∈ A1' ∨ (a ∈ A ∧ a ∉ A1) := by
      intro A1' v' g2 g3 g4 g5
      obtain ⟨rfl, g6⟩ := g3
      have g6' : ∀ a ∈ A1', a ∈ A1 ∨ H a = none := g6
      refine k wd.old (fun a ha hn => keepA a ha hn) g2 ?_ g4 fun a ha => ?_
      · cases w with
        | none =>
          intro a ha
          rcases g6' a ha with z | z
          · exact h3 a z
          · exact w0.dom a z
        | some u =>
          refine ⟨h3.1, fun a ha => ?_⟩
          rcases g6' a ha with z | z
          · exact h3.2 a z
          · exact .inr (w0.dom a z)
      · rcases g6' a ha with z | z
        · exact .inl z
        · exact .inr fun y => r.here a y z
    refine ⟨wd.old, fun x hx => ?_, fun R2 hx => ?_⟩
    · subst hx
      obtain ⟨v', A1', g1, g2, g3, g4, g5, _⟩ := r2.focus (j := 1) wd.nd (by simpa using e')
      obtain ⟨A2, r3, n3, q3⟩ := key g2 g3 g4 g5
      cases r2 with
      | d hd r2 =>
        refine ⟨hd, A2, r3, wd_after w0 r.here r.nt h5 wd n3 fun a ha => ?_⟩
        rcases q3 a ha with z | z
        · exact .inl (g5 a z)
        · exact .inr z
    · subst hx
      cases r2 with
      | @o _ _ _ _ _ Ar At p1 p2 r2 =>
        have p2' : ∀ a ∈ Ar, H a = none := p2
        obtain ⟨n1, n2, n4⟩ := List.nodup_append.mp wd.nd
        obtain ⟨v', A1', g1, g2, g3, g4, g5, _⟩ := r2.focus (j := 0) n2 e'
        obtain ⟨A2, r3, n3, q3⟩ := key g2 g3 g4 fun a ha => List.mem_append_right _ (g5 a ha)
        refine ⟨Ar ++ A2, .o p1 (fun a ha => w0.dom a (p2' a ha)) r3, wd_after w0 r.here r.nt h5 wd ?_ fun a ha => ?_⟩
        · refine List.nodup_append.mpr ⟨n1, n3, fun a ha b hb z => ?_⟩
          subst z
          rcases q3 a hb with y | ⟨y, _⟩
          · exact n4 a ha a (g5 a y) rfl
          · exact r.here a y (p2' a ha)
        · rcases List.mem_append.mp ha with z | z
          · exact .inl (List.mem_append_left _ z)
          · rcases q3 a z with y | y
            · exact .inl (List.mem_append_right _ (g5 a y))
            · exact .inr y
  )
theorem reps_data {K : PySem.W.Frag} {B : Base} {G H : Hp} : ∀ {vs : List V} {xs : List PyData}, DpAll K G vs xs → Reps K B G H (xs.map S.d) (vs.map some) []
  | _, [], h => by cases h; exact .nil
  | _, x :: xs, h => by
    cases h with
    | cons h1 h2 => exact .d h1 (reps_data h2)
theorem stt_data {K : PySem.W.Frag} {G H : Hp} {vs : List V} {xs : List PyData} (e : Same G H) (h : DpAll K G vs xs) : Stt K ⟨H, G, []⟩ (xs.map S.d) (vs.map some) G H :=
  ⟨[], reps_data h, e, List.nodup_nil, by simp, Same.refl _, fun a o q _ => q, fun a q => q, fun a _ q => .inl rfl, by simp⟩

/-- what is done with a call's answer: data wanted; a new owned thing wanted; the same where a thing was lent -/
def kD (Q : PyData → Prop) : S → Ctx → Prop := fun r _ => match r with
  | .d x => Q x
  | .o none R => R.fz Q
  | _ => False
def kO (Q : Res → Prop) : S → Ctx → Prop := fun r _ => match r with
  | .o none R => Q R
  | _ => False
def kL (v : Lt) (Q : PyData → Res → Prop) : S → Ctx → Prop := fun r c => ∃ R', c[0]? = some (.o (some v) R') ∧ kD (fun x => Q x R') r c
def kLO (v : Lt) (Q : Res → Res → Prop) : S → Ctx → Prop := fun r c => ∃ R', c[0]? = some (.o (some v) R') ∧ kO (fun x => Q x R') r c
theorem kD_d {Q : PyData → Prop} {x : PyData} {c : Ctx} : kD Q (.d x) c = Q x := id rfl
theorem kD_o {Q : PyData → Prop} {R : Res} {c : Ctx} : kD Q (.o none R) c = R.fz Q := id rfl
theorem kO_o {Q : Res → Prop} {R : Res} {c : Ctx} : kO Q (.o none R) c = Q R := id rfl
theorem fz_l {ds : List PyData} {Q : PyData → Prop} : (Res.lst ds).fz Q = Q (.list ds) := id rfl
theorem fz_P {P : List PyData → Prop} {Q : PyData → Prop} : (Res.lstP P).fz Q = ∀ ds, P ds → Q (.list ds) := id rfl
/-- what a def hands back, its own names let go; the same, the lent thing being R -/
def ret (Q : S → Ctx → Prop) (r : S) : Prop := ∀ c, Q r c
def retL (v : Lt) (R : Res) (Q : S → Ctx → Prop) (r : S) : Prop := ∀ c : Ctx, c[0]? = some (.o (some v) R) → Q r c
theorem ret_d {Q : PyData → Prop} {x : PyData} : ret (kD Q) (.d x) = Q x := propext ⟨fun h => h [], fun h _ => h⟩
theorem ret_o {Q : PyData → Prop} {R : Res} : ret (kD Q) (.o none R) = R.fz Q := propext ⟨fun h => h [], fun h _ => h⟩
theorem ret_O {Q : Res → Prop} {R : Res} : ret (kO Q) (.o none R) = Q R := propext ⟨fun h => h [], fun h _ => h⟩
theorem retL_d {v : Lt} {Q : PyData → Res → Prop} {x : PyData} {R : Res} : retL v R (kL v Q) (.d x) = Q x R :=
  propext ⟨fun h => by
    obtain ⟨R', e, q⟩ := h [.o (some v) R] rfl
    cases e
    exact q, fun q c e => ⟨R, e, q⟩⟩
theorem retL_o {v : Lt} {Q : PyData → Res → Prop} {R2 R : Res} : retL v R (kL v Q) (.o none R2) = R2.fz fun x => Q x R :=
  propext ⟨fun h => by
    obtain ⟨R', e, q⟩ := h [.o (some v) R] rfl
    cases e
    exact q, fun q c e => ⟨R, e, q⟩⟩
theorem retL_O {v : Lt} {Q : Res → Res → Prop} {R2 R : Res} : retL v R (kLO v Q) (.o none R2) = Q R2 R :=
  propext ⟨fun h => by
    obtain ⟨R', e, q⟩ := h [.o (some v) R] rfl
    cases e
    exact q, fun q c e => ⟨R, e, q⟩⟩
section
variable {X : Cx} {e : Expr} {es : List Expr} {tl : TL} {x : Str} {p pos : Pos} {k : Nat} {f : Addr} {fd : FuncData} {ps : List Str} {T : TF}
/-- a call with data alone: its answer data (an owned answer is frozen) -/
def uCall (T : TF) (t : TL) : TD := fun c Q => t c fun xs c1 => T (xs.map S.d) (kD fun x => Q x c1)
theorem d_call {ds : List Value} (F : FnOk X.prog X.w X.K X.mg X.base CX0 k f fd ps (SpD X.K T)) (hr : Room k X.A) (hm : X.mg x = some (.ref f)) (hk : PySem.W.keepIn X.K (.ref f) = true) (hb : Binds X.K fd ps []) (ha : DA X (e :: es) tl) (hg : Gl X x := by rfl)
    (hdb : (x == ("__debug__" : Str)) = false := by decide) (he : starEach (e :: es) X.env = (false, eval e X.env) :: starEach es X.env := by rfl) (hpl : (backTo pos (starEach es X.env)).any (·.1) = false := by rfl) : DE X (.Call (.Name x p) (e :: es) [] pos) (uCall T tl) := (by
  obtain ⟨ta, pa, va⟩ := ha.ex
  refine ⟨_, pe_call F hr hg hm hk hb .nil pass0 pa hdb he hpl, fun B c s G H Q R st q k => va B c s G H _ _ st q fun vs xs c1 G1 H1 st1 e1 d1 q1 => ?_⟩
  rw [List.append_nil]
  refine ⟨G1, [], xs.map S.d, _, stt_data st1.sub d1, q1, fun r c' v s' G' H' st' q2 => ?_⟩
  cases r with
  | d y =>
    obtain ⟨st2, e2⟩ := after0 st1 st'
    obtain ⟨A', r', _⟩ := st'.ex
    cases r' with
    | d hd _ => exact k v y c1 G' H' st2 (e1.trans e2) hd q2
  | o w R2 =>
    cases w with
    | none =>
      obtain ⟨st2, e2⟩ := after0o st1 st'
      obtain ⟨G2, d, a1, a2, a3, a4⟩ := st2.frzR q2
      exact k v d c1 G2 H' a1 ((e1.trans e2).trans a2) a3 a4
    | some _ => exact q2.elim
  | no => exact q2.elim
  | f _ => exact q2.elim
  )
/-- .. its answer a new owned thing -/
def oCall (T : TF) (t : TL) : TR := fun c Q => t c fun xs c1 => T (xs.map S.d) (kO fun R => Q R c1)
theorem o_call (F : FnOk X.prog X.w X.K X.mg X.base CX0 k f fd ps (SpD X.K T)) (hr : Room k X.A) (hm : X.mg x = some (.ref f)) (hk : PySem.W.keepIn X.K (.ref f) = true) (hb : Binds X.K fd ps []) (ha : DA X (e :: es) tl) (hg : Gl X x := by rfl)
    (hdb : (x == ("__debug__" : Str)) = false := by decide) (he : starEach (e :: es) X.env = (false, eval e X.env) :: starEach es X.env := by rfl) (hpl : (backTo pos (starEach es X.env)).any (·.1) = false := by rfl) : DO X (.Call (.Name x p) (e :: es) [] pos) (oCall T tl) := (by
  obtain ⟨ta, pa, va⟩ := ha.ex
  refine ⟨_, pe_call F hr hg hm hk hb .nil pass0 pa hdb he hpl, fun B c s G H Q R st q k => va B c s G H _ _ st q fun vs xs c1 G1 H1 st1 e1 d1 q1 => ?_⟩
  rw [List.append_nil]
  refine ⟨G1, [], xs.map S.d, _, stt_data st1.sub d1, q1, fun r c' v s' G' H' st' q2 => ?_⟩
  cases r with
  | o w R2 =>
    cases w with
    | none =>
      obtain ⟨st2, e2⟩ := after0o st1 st'
      exact k v R2 c1 G' H' st2 (e1.trans e2) q2
    | some _ => exact q2.elim
  | d _ => exact q2.elim
  | no => exact q2.elim
  | f _ => exact q2.elim
  )
/-- a call to which slot j is lent as the first argument -/
def uLend (T : TF) (j : Nat) (t : TL) : TD := fun c Q => slO c j fun _ _ => t c fun xs c1 => slO c1 j fun w R => ∀ v : Lt, T (.o (some v) R :: xs.map S.d) (kL v fun x R' => Q x (c1.set j (.o w R')))
theorem d_lend (j : Nat) {y : Str} {py : Pos} (F : FnOk X.prog X.w X.K X.mg X.base CX0 k f fd ps (SpD X.K T)) (hr : Room k X.A) (hm : X.mg x = some (.ref f)) (hk : PySem.W.keepIn X.K (.ref f) = true) (hb : Binds X.K fd ps []) (ha : DA X es tl) (hN : X.N[j]? = some y := by rfl) (hv : Vis X.env.scope y := by first | exact Or.inl rfl | exact Or.inr (Or.inl rfl) | exact Or.inr (Or.inr rfl)) (hd : (y == ("__debug__" : Str)) = false := by decide)
    (hcd : (y == ("__classdict__" : Str)) = false := by decide) (hg : Gl X x := by rfl)
    (hdb : (x == ("__debug__" : Str)) = false := by decide) (he : starEach (.Name y py :: es) X.env = (false, eval (.Name y py) X.env) :: starEach es X.env := by rfl) (hpl : (backTo pos (starEach es X.env)).any (·.1) = false := by rfl) : DE X (.Call (.Name x p) (.Name y py :: es) [] pos) (uLend T j tl) := (by
  obtain ⟨ta, pa, va⟩ := ha.ex
  refine ⟨_, pe_call F hr hg hm hk hb .nil pass0 (pa_cons (pe_var hN hv hd hcd) pa he) hdb he hpl, fun B c s G H Q R st q k => ?_⟩
  obtain ⟨w0, R0, g0, q⟩ := slO_of q
  obtain ⟨v0, hv0⟩ := st.own_at g0
  refine ⟨v0, hv0, va B c s G H _ _ st q fun vs xs c1 G1 H1 st1 e1 d1 q1 => ?_⟩
  obtain ⟨w, R1, g1, q1⟩ := slO_of q1
  obtain ⟨v, lx, _, hv1, ent, aft⟩ := lend1 st1 g1
  rw [hv0] at hv1
  cases hv1
  rw [List.append_nil]
  refine ⟨G1, lx.al, _, _, ent d1, q1 lx, fun r c' vr s' G' H' st' q2 => ?_⟩
  obtain ⟨R', g2, q2⟩ := q2
  obtain ⟨e2, h1, h2⟩ := aft st' g2
  cases r with
  | d y =>
    obtain ⟨hd, st2⟩ := h1 y rfl
    exact k vr y _ G' H' st2 (e1.trans e2) hd q2
  | o w R2 =>
    cases w with
    | none =>
      obtain ⟨G2, d, a1, a2, a3, a4⟩ := (h2 R2 rfl).frzR q2
      exact k vr d _ G2 H' a1 ((e1.trans e2).trans a2) a3 a4
    | some _ => exact q2.elim
  | no => exact q2.elim
  | f _ => exact q2.elim
  )
def oLend (T : TF) (j : Nat) (t : TL) : TR := fun c Q => slO c j fun _ _ => t c fun xs c1 => slO c1 j fun w R => ∀ v : Lt, T (.o (some v) R :: xs.map S.d) (kLO v fun R2 R' => Q R2 (c1.set j (.o w R')))
theorem o_lend (j : Nat) {y : Str} {py : Pos} (F : FnOk X.prog X.w X.K X.mg X.base CX0 k f fd ps (SpD X.K T)) (hr : Room k X.A) (hm : X.mg x = some (.ref f)) (hk : PySem.W.keepIn X.K (.ref f) = true) (hb : Binds X.K fd ps []) (ha : DA X es tl) (hN : X.N[j]? = some y := by rfl) (hv : Vis X.env.scope y := by first | exact Or.inl rfl | exact Or.inr (Or.inl rfl) | exact Or.inr (Or.inr rfl)) (hd : (y == ("__debug__" : Str)) = false := by decide)
    (hcd : (y == ("__classdict__" : Str)) = false := by decide) (hg : Gl X x := by rfl)
    (hdb : (x == ("__debug__" : Str)) = false := by decide) (he : starEach (.Name y py :: es) X.env = (false, eval (.Name y py) X.env) :: starEach es X.env := by rfl) (hpl : (backTo pos (starEach es X.env)).any (·.1) = false := by rfl) : DO X (.Call (.Name x p) (.Name y py :: es) [] pos) (oLend T j tl) := (by
  obtain ⟨ta, pa, va⟩ := ha.ex
  refine ⟨_, pe_call F hr hg hm hk hb .nil pass0 (pa_cons (pe_var hN hv hd hcd) pa he) hdb he hpl, fun B c s G H Q R st q k => ?_⟩
  obtain ⟨w0, R0, g0, q⟩ := slO_of q
  obtain ⟨v0, hv0⟩ := st.own_at g0
  refine ⟨v0, hv0, va B c s G H _ _ st q fun vs xs c1 G1 H1 st1 e1 d1 q1 => ?_⟩
  obtain ⟨w, R1, g1, q1⟩ := slO_of q1
  obtain ⟨v, lx, _, hv1, ent, aft⟩ := lend1 st1 g1
  rw [hv0] at hv1
  cases hv1
  rw [List.append_nil]
  refine ⟨G1, lx.al, _, _, ent d1, q1 lx, fun r c' vr s' G' H' st' q2 => ?_⟩
  obtain ⟨R', g2, q2⟩ := q2
  obtain ⟨e2, h1, h2⟩ := aft st' g2
  cases r with
  | o w R2 =>
    cases w with
    | none => exact k vr R2 _ G' H' (h2 R2 rfl) (e1.trans e2) q2
    | some _ => exact q2.elim
  | d _ => exact q2.elim
  | no => exact q2.elim
  | f _ => exact q2.elim
  )
end

/-! ### defs by name -/
/-- a def of the text that keeps its promise over data -/
structure Cal (P : Program) (w : World) (K : PySem.W.Frag) (mg : Str → Option Value) (base : Heap) (x : Str) (k : Nat) (ps : List Str) (T : TF) : Prop where
  ex : ∃ f fd, FnOk P w K mg base CX0 k f fd ps (SpD K T) ∧ mg x = some (.ref f) ∧ PySem.W.keepIn K (.ref f) = true ∧ Binds K fd ps []
theorem Cal.of {P : Program} {w : World} {K : PySem.W.Frag} {mg : Str → Option Value} {base : Heap} {x : Str} {k : Nat} {ps : List Str} {T : TF} {f : Addr} {fd : FuncData}
    (h1 : FnOk P w K mg base CX0 k f fd ps (SpD K T)) (h2 : mg x = some (.ref f)) (h3 : PySem.W.keepIn K (.ref f) = true) (h4 : Binds K fd ps []) : Cal P w K mg base x k ps T := ⟨f, fd, h1, h2, h3, h4⟩
/-- what the top has left of a def -/
structure Df (K : PySem.W.Frag) (mg : Str → Option Value) (x : Str) (st : Stmt) (ps : List Str) : Prop where
  ex : ∃ f fd, Fun K x x st f fd ∧ mg x = some (.ref f) ∧ Binds K fd ps []
section
variable {X : Cx} {e : Expr} {es : List Expr} {tl : TL} {x : Str} {p pos : Pos} {k : Nat} {ps : List Str} {T : TF}
theorem d_callC (C : Cal X.prog X.w X.K X.mg X.base x k ps T) (hr : Room k X.A) (ha : DA X (e :: es) tl) (hg : Gl X x := by rfl)
    (hdb : (x == ("__debug__" : Str)) = false := by decide) (he : starEach (e :: es) X.env = (false, eval e X.env) :: starEach es X.env := by rfl) (hpl : (backTo pos (starEach es X.env)).any (·.1) = false := by rfl) : DE X (.Call (.Name x p) (e :: es) [] pos) (uCall T tl) :=
  let ⟨_, _, h1, h2, h3, h4⟩ := C.ex; d_call (ds := []) h1 hr h2 h3 h4 ha hg hdb he hpl
theorem o_callC (C : Cal X.prog X.w X.K X.mg X.base x k ps T) (hr : Room k X.A) (ha : DA X (e :: es) tl) (hg : Gl X x := by rfl)
    (hdb : (x == ("__debug__" : Str)) = false := by decide) (he : starEach (e :: es) X.env = (false, eval e X.env) :: starEach es X.env := by rfl) (hpl : (backTo pos (starEach es X.env)).any (·.1) = false := by rfl) : DO X (.Call (.Name x p) (e :: es) [] pos) (oCall T tl) :=
  let ⟨_, _, h1, h2, h3, h4⟩ := C.ex; o_call h1 hr h2 h3 h4 ha hg hdb he hpl
theorem d_lendC (j : Nat) {y : Str} {py : Pos} (C : Cal X.prog X.w X.K X.mg X.base x k ps T) (hr : Room k X.A) (ha : DA X es tl) (hN : X.N[j]? = some y := by rfl) (hv : Vis X.env.scope y := by first | exact Or.inl rfl | exact Or.inr (Or.inl rfl) | exact Or.inr (Or.inr rfl)) (hd : (y == ("__debug__" : Str)) = false := by decide)
    (hcd : (y == ("__classdict__" : Str)) = false := by decide) (hg : Gl X x := by rfl)
    (hdb : (x == ("__debug__" : Str)) = false := by decide) (he : starEach (.Name y py :: es) X.env = (false, eval (.Name y py) X.env) :: starEach es X.env := by rfl) (hpl : (backTo pos (starEach es X.env)).any (·.1) = false := by rfl) : DE X (.Call (.Name x p) (.Name y py :: es) [] pos) (uLend T j tl) :=
  let ⟨_, _, h1, h2, h3, h4⟩ := C.ex; d_lend j h1 hr h2 h3 h4 ha hN hv hd hcd hg hdb he hpl
theorem o_lendC (j : Nat) {y : Str} {py : Pos} (C : Cal X.prog X.w X.K X.mg X.base x k ps T) (hr : Room k X.A) (ha : DA X es tl) (hN : X.N[j]? = some y := by rfl) (hv : Vis X.env.scope y := by first | exact Or.inl rfl | exact Or.inr (Or.inl rfl) | exact Or.inr (Or.inr rfl)) (hd : (y == ("__debug__" : Str)) = false := by decide)
    (hcd : (y == ("__classdict__" : Str)) = false := by decide) (hg : Gl X x := by rfl)
    (hdb : (x == ("__debug__" : Str)) = false := by decide) (he : starEach (.Name y py :: es) X.env = (false, eval (.Name y py) X.env) :: starEach es X.env := by rfl) (hpl : (backTo pos (starEach es X.env)).any (·.1) = false := by rfl) : DO X (.Call (.Name x p) (.Name y py :: es) [] pos) (oLend T j tl) :=
  let ⟨_, _, h1, h2, h3, h4⟩ := C.ex; o_lend j h1 hr h2 h3 h4 ha hN hv hd hcd hg hdb he hpl
end
/-! ### isinstance: the built-in classes -/
theorem kt_str {K : PySem.W.Frag} : ∀ x : PyData, (∀ kv, x ≠ .dict kv) → PySem.W.kitOne K (tyD x) (.type "str") = some (isStrD x)
  | .none, _ => kit_ty (r := false) (by decide +kernel)
  | .bool _, _ => kit_ty (r := false) (by decide +kernel)
  | .int _, _ => kit_ty (r := false) (by decide +kernel)
  | .str _, _ => kit_ty (r := true) (by decide +kernel)
  | .list _, _ => kit_ty (r := false) (by decide +kernel)
  | .tuple _, _ => kit_ty (r := false) (by decide +kernel)
  | .dict kv, h => absurd rfl (h kv)
theorem kt_tuple {K : PySem.W.Frag} : ∀ x : PyData, (∀ kv, x ≠ .dict kv) → PySem.W.kitOne K (tyD x) (.type "tuple") = some (isTupD x)
  | .none, _ => kit_ty (r := false) (by decide +kernel)
  | .bool _, _ => kit_ty (r := false) (by decide +kernel)
  | .int _, _ => kit_ty (r := false) (by decide +kernel)
  | .str _, _ => kit_ty (r := false) (by decide +kernel)
  | .list _, _ => kit_ty (r := false) (by decide +kernel)
  | .tuple _, _ => kit_ty (r := true) (by decide +kernel)
  | .dict kv, h => absurd rfl (h kv)
theorem bb_int : bootBuiltins "int" = some (.type "int") := by decide +kernel
theorem bb_str : bootBuiltins "str" = some (.type "str") := by decide +kernel
theorem bb_list : bootBuiltins "list" = some (.type "list") := by decide +kernel
theorem bb_tuple : bootBuiltins "tuple" = some (.type "tuple") := by decide +kernel
theorem hu65 {A : Around} {k : Nat} (hr : Room k A) : A.units + 65 < cLine := by have := hr.un; omega
/-! ### loops by what they compute -/
theorem rngD_get {lo : Int} {n i : Nat} {y : PyData} (h : (rngD lo n)[i]? = some y) : i < n ∧ y = .int (lo + i) := (by
  unfold rngD at h
  rw [List.getElem?_map] at h
  by_cases hi : i < n
  · rw [List.getElem?_range hi] at h
    exact ⟨hi, (Option.some.inj h).symm⟩
  · rw [List.getElem?_eq_none (by simpa using hi)] at h
    cases h
  )
/-- a cut by a word of one's own; the walk sees a letter in its place -/
theorem cut_by {t u : TSd} {E : De} {c : Ctx} (M : Ctx → Prop) (h1 : ∀ N : Ctx → Prop, (∀ c, M c → N c) → t { E with nx := N } c) (h2 : ∀ c, M c → u E c) : zCut t u E c := ⟨M, h1 M fun _ h => h, h2⟩
theorem loop_by {tg : TGd} {tb : TSd} {E : De} {ys : List PyData} {c : Ctx} (I : Nat → Ctx → Prop) (h0 : I 0 c)
    (turn : ∀ i y c (N : Ctx → Prop), ys[i]? = some y → I i c → (∀ c, I (i + 1) c → N c) → tg y c fun c2 => tb { E with nx := N, ct := N, bk := E.nx } c2) (fin : ∀ c, I ys.length c → E.nx c) : zLoop tg tb E ys c :=
  ⟨I, h0, fun i y c hy hI => turn i y c _ hy hI fun _ h => h, fin⟩
instance : Inhabited V := ⟨.non⟩
instance : Inhabited Lt := ⟨⟨.non, []⟩⟩

/-! ### == of data -/
/-- data that can be compared, at most n deep -/
def Sh (n : Nat) (d : PyData) : Prop := d.canLay0 = true ∧ d.depth ≤ n
theorem shaped_of {n : Nat} {d : PyData} (h : Sh n d) (hn : n ≤ 64 := by decide) : SeqAt.shaped d = true := (by
  unfold SeqAt.shaped
  rw [h.1, decide_eq_true (Nat.le_trans h.2 hn)]
  rfl
  )
theorem shaped_iff {d : PyData} : SeqAt.shaped d = true ↔ Sh 64 d := ⟨fun h => ⟨SeqAt.canLay_of_shaped h, SeqAt.depth_of_shaped h⟩, fun h => shaped_of h⟩
theorem sh_non {n : Nat} : Sh n .none ↔ True := iff_true_intro ⟨rfl, Nat.zero_le _⟩
theorem sh_int {n : Nat} {i : Int} : Sh n (.int i) ↔ True := iff_true_intro ⟨rfl, Nat.zero_le _⟩
theorem sh_bool {n : Nat} {i : Bool} : Sh n (.bool i) ↔ True := iff_true_intro ⟨rfl, Nat.zero_le _⟩
theorem sh_str {n : Nat} {x : Str} : Sh n (.str x) ↔ PyData.strOk x = true := ⟨fun h => h.1, fun h => ⟨h, Nat.zero_le _⟩⟩
theorem sh_all {n : Nat} : ∀ {ds : List PyData}, (PyData.canLayAll0 ds = true ∧ PyData.depthAll ds ≤ n) ↔ ∀ d ∈ ds, Sh n d
  | [] => by simp [PyData.canLayAll0, PyData.depthAll]
  | d :: ds => by
    have ih := @sh_all n ds
    unfold PyData.canLayAll0 PyData.depthAll
    rw [Bool.and_eq_true, Nat.max_le]
    constructor
    · rintro ⟨⟨a, b⟩, c, e⟩ x hx
      rcases List.mem_cons.mp hx with rfl | hx
      · exact ⟨a, c⟩
      · exact ih.mp ⟨b, e⟩ x hx
    · intro h
      have h1 := h d List.mem_cons_self
      have h2 := ih.mpr fun x hx => h x (List.mem_cons_of_mem _ hx)
      exact ⟨⟨h1.1, h2.1⟩, h1.2, h2.2⟩
theorem sh_list {n : Nat} {ds : List PyData} : Sh (n + 1) (.list ds) ↔ ∀ d ∈ ds, Sh n d := (by
  rw [← sh_all]
  unfold Sh PyData.canLay0 PyData.depth
  rw [Nat.add_le_add_iff_right]
  )
theorem sh_tuple {n : Nat} {ds : List PyData} : Sh (n + 1) (.tuple ds) ↔ ∀ d ∈ ds, Sh n d := (by
  rw [← sh_all]
  unfold Sh PyData.canLay0 PyData.depth
  rw [Nat.add_le_add_iff_right]
  )
theorem Sh.mono {n m : Nat} {d : PyData} (h : Sh n d) (hm : n ≤ m) : Sh m d := ⟨h.1, Nat.le_trans h.2 hm⟩
theorem eqv_int {i j : Int} : PyData.eqv (.int i) (.int j) = (i == j) := by simp [PyData.eqv]
theorem eqv_str {i j : Str} : PyData.eqv (.str i) (.str j) = (i == j) := by simp [PyData.eqv]
theorem eqv_bool {i j : Bool} : PyData.eqv (.bool i) (.bool j) = (i == j) := by simp [PyData.eqv]
theorem eqv_list {i j : List PyData} : PyData.eqv (.list i) (.list j) = PyData.eqvAll i j := by simp [PyData.eqv]
theorem eqv_tuple {i j : List PyData} : PyData.eqv (.tuple i) (.tuple j) = PyData.eqvAll i j := by simp [PyData.eqv]
theorem eqvAll_cons {x y : PyData} {i j : List PyData} : PyData.eqvAll (x :: i) (y :: j) = (PyData.eqv x y && PyData.eqvAll i j) := by simp [PyData.eqvAll]
theorem sz_0 : (0 ≤ sizeLine) ↔ True := iff_true_intro (by decide)
theorem sz_1 : (1 ≤ sizeLine) ↔ True := iff_true_intro (by decide)
theorem sz_2 : (2 ≤ sizeLine) ↔ True := iff_true_intro (by decide)
theorem sz_3 : (3 ≤ sizeLine) ↔ True := iff_true_intro (by decide)
theorem sz_4 : (4 ≤ sizeLine) ↔ True := iff_true_intro (by decide)
theorem sz_5 : (5 ≤ sizeLine) ↔ True := iff_true_intro (by decide)
theorem sz_6 : (6 ≤ sizeLine) ↔ True := iff_true_intro (by decide)
theorem sz_7 : (7 ≤ sizeLine) ↔ True := iff_true_intro (by decide)
theorem sz_8 : (8 ≤ sizeLine) ↔ True := iff_true_intro (by decide)
/-! ### numbers -/
theorem mulA_l {i j : Int} (h1 : -(2 ^ 64) < i) (h2 : i < 2 ^ 64) : CMulA i j := .inl (.inl ⟨h1, h2⟩)
theorem mulA_r {i j : Int} (h1 : -(2 ^ 64) < j) (h2 : j < 2 ^ 64) : CMulA i j := .inl (.inr ⟨h1, h2⟩)
/-- a number of at most n bits -/
def Bd (n : Nat) (x : Int) : Prop := x.natAbs < 2 ^ n
instance {n : Nat} {x : Int} : Decidable (Bd n x) := inferInstanceAs (Decidable (x.natAbs < 2 ^ n))
theorem ca_0 : ((0 : Nat) : Int) = 0 := id rfl
theorem ca_1 : ((1 : Nat) : Int) = 1 := id rfl
theorem ca_2 : ((2 : Nat) : Int) = 2 := id rfl
theorem ca_3 : ((3 : Nat) : Int) = 3 := id rfl
theorem ca_4 : ((4 : Nat) : Int) = 4 := id rfl
theorem ca_5 : ((5 : Nat) : Int) = 5 := id rfl
theorem ca_6 : ((6 : Nat) : Int) = 6 := id rfl
theorem powA {i j : Int} (h : (decide (0 ≤ j) && decide (j ≤ 1000000) && decide (i.natAbs < 2 ^ 64)) = true) : CPow i j := (by
  rw [Bool.and_eq_true, Bool.and_eq_true] at h
  exact ⟨of_decide_eq_true h.1.1, of_decide_eq_true h.1.2, of_decide_eq_true h.2⟩
  )
theorem Bd.mono {n m : Nat} {x : Int} (h : Bd n x) (hm : n ≤ m) : Bd m x := Nat.lt_of_lt_of_le h (Nat.pow_le_pow_right (by decide) hm)
theorem mulA_b {i j : Int} {n m : Nat} (hi : Bd n i) (hj : Bd m j) (h : n + m + 2 ≤ 1000000) : CMulA i j := .inr (wide_mul (a := n + 1) (b := m + 1) (hi.mono (Nat.le_succ n)) (hj.mono (Nat.le_succ m)) (Nat.succ_pos _) (Nat.succ_pos _) (by omega))
theorem divA_b {i j : Int} {n : Nat} (h0 : j ≠ 0) (hj : Bd n j) (h : n < 9000) : CDivA i j := (by
  have h1 : j.natAbs < 2 ^ (n + 1) := hj.mono (Nat.le_succ n)
  exact ⟨h0, Nat.lt_of_lt_of_le (PySem.Flt.log2_lt_of (Nat.succ_pos _) h1) (by omega)⟩
  )
theorem bd_of {x : Int} {n : Nat} (h1 : -(2 ^ n) < x) (h2 : x < 2 ^ n) : Bd n x := (by
  unfold Bd
  have e : ((2 ^ n : Nat) : Int) = (2 : Int) ^ n := by simp
  rw [← e] at h1 h2
  omega
  )
theorem fmod_pos {i j : Int} (h : 0 < j) : 0 ≤ i.fmod j ∧ i.fmod j < j := ⟨Int.fmod_nonneg_of_pos i h, Int.fmod_lt_of_pos i h⟩
theorem atI_of {α : Type} {xs : List α} {i : Int} (h0 : 0 ≤ i) (h1 : i < xs.length) : atI xs i = xs[i.toNat]? := (by
  obtain ⟨n, rfl⟩ := Int.eq_ofNat_of_zero_le h0
  have hn : n < xs.length := by omega
  rw [show atI xs (n : Int) = some xs[n] from atI_nat (List.getElem?_eq_getElem hn)]
  simp [hn]
  )
section
variable {α : Type} {x y z u : α} {xs : List α}
theorem atI_0 : atI (x :: xs) 0 = some x := atI_nat (j := 0) rfl
theorem atI_1 : atI (x :: y :: xs) 1 = some y := atI_nat (j := 1) rfl
theorem atI_2 : atI (x :: y :: z :: xs) 2 = some z := atI_nat (j := 2) rfl
theorem atI_3 : atI (x :: y :: z :: u :: xs) 3 = some u := atI_nat (j := 3) rfl
theorem atI_b1 : atI [x] (-1) = some x := atI_last [] x
theorem atI_b2 : atI [x, y] (-1) = some y := atI_last [x] y
theorem atI_b3 : atI [x, y, z] (-1) = some z := atI_last [x, y] z
end
section
variable {x y z u : PyData} {xs : List PyData} {Q : PyData → Prop} {P : Nat → Prop}
theorem atD_0 : atD (x :: xs) 0 Q = Q x := propext ⟨fun ⟨d, e, q⟩ => by rw [atI_0] at e; cases e; exact q, fun q => ⟨x, atI_0, q⟩⟩
theorem atD_1 : atD (x :: y :: xs) 1 Q = Q y := propext ⟨fun ⟨d, e, q⟩ => by rw [atI_1] at e; cases e; exact q, fun q => ⟨y, atI_1, q⟩⟩
theorem atD_2 : atD (x :: y :: z :: xs) 2 Q = Q z := propext ⟨fun ⟨d, e, q⟩ => by rw [atI_2] at e; cases e; exact q, fun q => ⟨z, atI_2, q⟩⟩
theorem atD_3 : atD (x :: y :: z :: u :: xs) 3 Q = Q u := propext ⟨fun ⟨d, e, q⟩ => by rw [atI_3] at e; cases e; exact q, fun q => ⟨u, atI_3, q⟩⟩
theorem atD_b1 : atD [x] (-1) Q = Q x := propext ⟨fun ⟨d, e, q⟩ => by rw [atI_b1] at e; cases e; exact q, fun q => ⟨x, atI_b1, q⟩⟩
theorem atD_b2 : atD [x, y] (-1) Q = Q y := propext ⟨fun ⟨d, e, q⟩ => by rw [atI_b2] at e; cases e; exact q, fun q => ⟨y, atI_b2, q⟩⟩
theorem atD_b3 : atD [x, y, z] (-1) Q = Q z := propext ⟨fun ⟨d, e, q⟩ => by rw [atI_b3] at e; cases e; exact q, fun q => ⟨z, atI_b3, q⟩⟩
theorem ixP_30 : ixP 3 0 P = P 0 := propext ⟨fun ⟨k, e, q⟩ => by cases e; exact q, fun q => ⟨0, rfl, q⟩⟩
theorem ixP_31 : ixP 3 1 P = P 1 := propext ⟨fun ⟨k, e, q⟩ => by cases e; exact q, fun q => ⟨1, rfl, q⟩⟩
theorem ixP_32 : ixP 3 2 P = P 2 := propext ⟨fun ⟨k, e, q⟩ => by cases e; exact q, fun q => ⟨2, rfl, q⟩⟩
end
theorem ixN_30 : ixN 3 0 = some 0 := id rfl
theorem ixN_31 : ixN 3 1 = some 1 := id rfl
theorem ixN_32 : ixN 3 2 = some 2 := id rfl
theorem ixN_20 : ixN 2 0 = some 0 := id rfl
theorem ixN_21 : ixN 2 1 = some 1 := id rfl
theorem atI_ints {ns : List Int} {i : Int} (h0 : 0 ≤ i) (h1 : i < ns.length) : ∃ n ∈ ns, atI (ns.map PyData.int) i = some (.int n) := (by
  rw [atI_of h0 (by simpa using h1), List.getElem?_map, List.getElem?_eq_getElem (show i.toNat < ns.length by omega)]
  exact ⟨_, List.getElem_mem _, rfl⟩
  )
/-! ### the law's feed: [cell, count, script] -/
def FeedP (ds : List PyData) : Prop := ∃ (c k : Int) (ns : List Int), ds = [.int c, .int k, .list (ns.map PyData.int)]

/-! ### what the top has left -/
theorem fun_ofD {K : PySem.W.Frag} {x q : Str} {st : Stmt} {f : Addr} {fd : FuncData} (F : FunD K x q (defArgs st) (defBody st) (defScope st) [] [] f fd) : Fun K x q st f fd := (by
  obtain ⟨oc, od, dV, kV, doc, pm, an, cdv, ct, osl, e, lk, hc, hd, _⟩ := F.ex
  have hN : dV = .none := by
    rcases hd with ⟨_, z⟩ | ⟨z, _⟩
    · exact z
    · exact absurd rfl z
  subst hN
  exact ⟨⟨oc, od, kV, doc, pm, an, cdv, ct, osl, e, lk, hc⟩, F.kp⟩
  )
theorem df_of {K : PySem.W.Frag} {h : Heap} {mg : Str → Option Value} {fa : List He.Fa} {fn : List He.DefD} {x : Str} {st : Stmt} {ps : List Str} (X : K.In h) (G : h.Ns mainGlobals mg) (c : He.SaysD fa fn K) (i j : Nat)
    (hd : fn[i]? = some ⟨(x, none), x, x, defArgs st, defBody st, defScope st, [], []⟩) (hf : fa[j]? = some (.glo x))
    (hb : ∀ (kV doc pm : Value) (an : Option Addr) (cdv ct : Value) (us : List Value), us.length = ps.length → bindArgs (PySem.W.fnOf x x (defArgs st) (defBody st) (defScope st) .none kV doc pm an cdv ct) ⟨us, []⟩ = pure (ps.zip us)) : Df K mg x st ps := (by
  obtain ⟨fd, F⟩ := c.def_ i hd
  have F2 := fun_ofD F
  exact ⟨_, fd, F2, He.glo_ok X G (c.fact j hf), F2.binds hb⟩
  )
/-- the law: a script's list in, True out -/
def TLaw (T : TF) : Prop := ∀ (ns : List Int) (Q : S → Ctx → Prop), ns.length ≤ 63 → ret Q (.d (.bool true)) → T [.d (.list (ns.map PyData.int))] Q
theorem law_end {P : Program} {w : World} {K : PySem.W.Frag} {mg : Str → Option Value} {k : Nat} {T : TF} {fa : Addr} {st : Stmt} (hT : TLaw T) (D : Df K mg "law" st ["script"]) (hfa : mg "law" = some (.ref fa))
    (hb : ∀ (kV doc pm : Value) (an : Option Addr) (cdv ct : Value) (u : Value), bindArgs (PySem.W.fnOf "law" "law" (defArgs st) (defBody st) (defScope st) .none kV doc pm an cdv ct) ⟨[u], []⟩ = pure [(("script" : Str), u)])
    (C : ∀ base : Heap, K.In base → base.Ns mainGlobals mg → ∀ f fd, Fun K "law" "law" st f fd → FnOk P w K mg base CX0 k f fd ["script"] (SpD K T)) :
    ∃ (fd : FuncData) (sp : Sp), (∀ (s : Shared) (u : Value), BindsTo s fd ⟨[u], []⟩ [("script", u)]) ∧
      (∀ (H : Hp) (a : Addr) (ns : List Int), ns.length ≤ 63 → Only H → SqL K H a (ns.map V.int) → sp [.ref a] H (fun v _ => v = .bl true) fun _ _ _ => False) ∧
      ∀ base : Heap, K.In base → base.Ns mainGlobals mg → FnOk P w K mg base CX0 k fa fd ["script"] sp := (by
  obtain ⟨f, fd, F, hm, _⟩ := D.ex
  rw [hfa] at hm
  cases hm
  refine ⟨fd, SpD K T, ?_, ?_, fun base h1 h2 => C base h1 h2 _ fd F⟩
  · obtain ⟨oc, od, kV, doc, pm, an, cdv, ct, osl, rfl, _, _⟩ := F.ex
    exact fun s u => .of_eq (hb kV doc pm an cdv ct u)
  · intro H a ns hl _ hS
    refine ⟨H, [], [.d (.list (ns.map PyData.int))], fun r _ => r = .d (.bool true), stt_data (vs := [.ref a]) (xs := [.list (ns.map PyData.int)]) (Same.refl H) (.cons (.lst hS (dpa_ints ns)) .nil), hT ns _ hl fun _ => rfl, ?_⟩
    intro r c v s G' H' st' hr
    subst hr
    obtain ⟨A, r', _⟩ := st'.ex
    cases r' with
    | d hd _ => exact dp_bl hd
  )
end Dl

/-! Calls to which any of a def's own things are lent. -/
namespace Dl
open PySem PySem.Spec PyProof.Rows L2

/-! ### a state, slot by slot -/
structure Fp (K : PySem.W.Frag) (B : Base) (G H : Hp) (c : Ctx) (s : L2.St) (A : List Addr) (fp : Nat → List Addr) : Prop where
  len : s.length = c.length
  d : ∀ (i : Nat) (x : PyData), c[i]? = some (S.d x) → ∃ v, s[i]? = some (some v) ∧ Dp K G v x
  f : ∀ (i : Nat) (F : FrG), c[i]? = some (S.f F) → ∃ v, s[i]? = some (some v) ∧ F.P K G v
  o : ∀ (i : Nat) (w : Option Lt) (R : Res), c[i]? = some (S.o w R) → ∃ v, s[i]? = some (some v) ∧ R.P K G H v (fp i) ∧ WOk B w v (fp i)
  nd : ∀ i, (fp i).Nodup
  dj : ∀ i j, i ≠ j → ∀ a ∈ fp i, a ∉ fp j
  sub : ∀ i, ∀ a ∈ fp i, a ∈ A
section
variable {K : PySem.W.Frag} {B : Base} {G G' H H' : Hp} {c : Ctx} {s : L2.St} {A : List Addr}
def fpCons (A : List Addr) (fp : Nat → List Addr) : Nat → List Addr
  | 0 => A
  | i + 1 => fp i
theorem fp_of (h : Reps K B G H c s A) : A.Nodup → ∃ fp, Fp K B G H c s A fp := (by
  induction h with
  | nil => intro _; exact ⟨fun _ => [], rfl, by simp, by simp, by simp, by simp, by simp, by simp⟩
  | @no x c s A h ih =>
    intro nd
    obtain ⟨fp, F⟩ := ih nd
    refine ⟨fpCons [] fp, by simp [F.len], ?_, ?_, ?_, ?_, ?_, ?_⟩
    · intro i y e; cases i with
      | zero => simp at e
      | succ i => simpa using F.d i y (by simpa using e)
    · intro i y e; cases i with
      | zero => simp at e
      | succ i => simpa using F.f i y (by simpa using e)
    · intro i w R e; cases i with
      | zero => simp at e
      | succ i => simpa [fpCons] using F.o i w R (by simpa using e)
    · intro i; cases i with
      | zero => exact List.nodup_nil
      | succ i => exact F.nd i
    · intro i j hij a ha; cases i with
      | zero => simp [fpCons] at ha
      | succ i => cases j with
        | zero => simp [fpCons]
        | succ j => exact F.dj i j (fun z => hij (by rw [z])) a ha
    · intro i a ha; cases i with
      | zero => simp [fpCons] at ha
      | succ i => exact F.sub i a ha
  | @d v x c s A hd h ih =>
    intro nd
    obtain ⟨fp, F⟩ := ih nd
    refine ⟨fpCons [] fp, by simp [F.len], ?_, ?_, ?_, ?_, ?_, ?_⟩
    · intro i y e; cases i with
      | zero =>
        have e' : S.d x = S.d y := by simpa using e
        cases e'; exact ⟨v, rfl, hd⟩
      | succ i => simpa using F.d i y (by simpa using e)
    · intro i y e; cases i with
      | zero => simp at e
      | succ i => simpa using F.f i y (by simpa using e)
    · intro i w R e; cases i with
      | zero => simp at e
      | succ i => simpa [fpCons] using F.o i w R (by simpa using e)
    · intro i; cases i with
      | zero => exact List.nodup_nil
      | succ i => exact F.nd i
    · intro i j hij a ha; cases i with
      | zero => simp [fpCons] at ha
      | succ i => cases j with
        | zero => simp [fpCons]
        | succ j => exact F.dj i j (fun z => hij (by rw [z])) a ha
    · intro i a ha; cases i with
      | zero => simp [fpCons] at ha
      | succ i => exact F.sub i a ha
  | @f v x c s A hd h ih =>
    intro nd
    obtain ⟨fp, F⟩ := ih nd
    refine ⟨fpCons [] fp, by simp [F.len], ?_, ?_, ?_, ?_, ?_, ?_⟩
    · intro i y e; cases i with
      | zero => simp at e
      | succ i => simpa using F.d i y (by simpa using e)
    · intro i y e; cases i with
      | zero =>
        have e' : S.f x = S.f y := by simpa using e
        cases e'; exact ⟨v, rfl, hd⟩
      | succ i => simpa using F.f i y (by simpa using e)
    · intro i w R e; cases i with
      | zero => simp at e
      | succ i => simpa [fpCons] using F.o i w R (by simpa using e)
    · intro i; cases i with
      | zero => exact List.nodup_nil
      | succ i => exact F.nd i
    · intro i j hij a ha; cases i with
      | zero => simp [fpCons] at ha
      | succ i => cases j with
        | zero => simp [fpCons]
        | succ j => exact F.dj i j (fun z => hij (by rw [z])) a ha
    · intro i a ha; cases i with
      | zero => simp [fpCons] at ha
      | succ i => exact F.sub i a ha
  | @o w v R c s A A' ho hw h ih =>
    intro nd
    obtain ⟨n1, n2, n3⟩ := List.nodup_append.mp nd
    obtain ⟨fp, F⟩ := ih n2
    refine ⟨fpCons A fp, by simp [F.len], ?_, ?_, ?_, ?_, ?_, ?_⟩
    · intro i y e; cases i with
      | zero => simp at e
      | succ i => simpa using F.d i y (by simpa using e)
    · intro i y e; cases i with
      | zero => simp at e
      | succ i => simpa using F.f i y (by simpa using e)
    · intro i w2 R2 e; cases i with
      | zero =>
        have e' : S.o w R = S.o w2 R2 := by simpa using e
        cases e'; exact ⟨v, rfl, ho, hw⟩
      | succ i => simpa [fpCons] using F.o i w2 R2 (by simpa using e)
    · intro i; cases i with
      | zero => exact n1
      | succ i => exact F.nd i
    · intro i j hij a ha; cases i with
      | zero => cases j with
        | zero => exact absurd rfl hij
        | succ j => exact fun z => n3 a ha a (F.sub j a z) rfl
      | succ i => cases j with
        | zero => exact fun z => n3 a z a (F.sub i a ha) rfl
        | succ j => exact F.dj i j (fun z => hij (by rw [z])) a ha
    · intro i a ha; cases i with
      | zero => exact List.mem_append_left _ ha
      | succ i => exact List.mem_append_right _ (F.sub i a ha)
  )
theorem reps_of : ∀ {c : Ctx} {s : L2.St} {fp : Nat → List Addr}, Fp K B G H c s A fp → ∃ A', Reps K B G H c s A' ∧ A'.Nodup ∧ ∀ a ∈ A', ∃ i w R, c[i]? = some (.o w R) ∧ a ∈ fp i := (by
  intro c
  induction c with
  | nil =>
    intro s fp F
    have := F.len
    cases s with
    | nil => exact ⟨[], .nil, List.nodup_nil, by simp⟩
    | cons _ _ => simp at this
  | cons x c ih =>
    intro s fp F
    cases s with
    | nil => have := F.len; simp at this
    | cons v s =>
      have F2 : Fp K B G H c s A (fun i => fp (i + 1)) :=
        ⟨by have := F.len; simpa using this, fun i y e => by simpa using F.d (i + 1) y (by simpa using e), fun i y e => by simpa using F.f (i + 1) y (by simpa using e), fun i w R e => by simpa using F.o (i + 1) w R (by simpa using e), fun i => F.nd (i + 1), fun i j hij => F.dj (i + 1) (j + 1) (fun z => hij (by omega)), fun i => F.sub (i + 1)⟩
      obtain ⟨A', r, n, q⟩ := ih F2
      have q2 : ∀ a ∈ A', ∃ i w R, (x :: c)[i]? = some (S.o w R) ∧ a ∈ fp i := fun a ha => by
        obtain ⟨i, w, R, e, h⟩ := q a ha
        exact ⟨i + 1, w, R, by simpa using e, h⟩
      cases x with
      | no => exact ⟨A', .no r, n, q2⟩
      | d y =>
        obtain ⟨u, e, h⟩ := F.d 0 y rfl
        simp at e; subst e
        exact ⟨A', .d h r, n, q2⟩
      | f y =>
        obtain ⟨u, e, h⟩ := F.f 0 y rfl
        simp at e; subst e
        exact ⟨A', .f h r, n, q2⟩
      | o w R =>
        obtain ⟨u, e, h, hw⟩ := F.o 0 w R rfl
        simp at e; subst e
        refine ⟨fp 0 ++ A', .o h hw r, List.nodup_append.mpr ⟨F.nd 0, n, fun a ha b hb z => ?_⟩, fun a ha => ?_⟩
        · subst z
          obtain ⟨i, w2, R2, _, h2⟩ := q a hb
          exact F.dj 0 (i + 1) (by omega) a ha h2
        · rcases List.mem_append.mp ha with z | z
          · exact ⟨0, w, R, rfl, z⟩
          · exact q2 a z
  )
end

/-! ### arguments: data, frozen things, slots -/
inductive Arg where
  | d (x : PyData)
  | f (F : FrG)
  | s (j : Nat)
/-- an owned thing at slot j, lent: its value u -/
def slS : Ctx → Nat → Lt → S
  | .o _ R :: _, 0, u => .o (some u) R
  | _ :: c, i + 1, u => slS c i u
  | _, _, _ => .no
theorem slS_0 {w : Option Lt} {R : Res} {c : Ctx} {u : Lt} : slS (.o w R :: c) 0 u = .o (some u) R := id rfl
theorem slS_s {x : S} {c : Ctx} {i : Nat} {u : Lt} : slS (x :: c) (i + 1) u = slS c i u := by cases x <;> rfl
theorem slS_eq : ∀ {c : Ctx} {i : Nat} {w : Option Lt} {R : Res} {u : Lt}, c[i]? = some (.o w R) → slS c i u = .o (some u) R
  | [], _, _, _, _, e => by simp at e
  | x :: c, 0, w, R, u, e => by
    have e' : x = .o w R := by simpa using e
    rw [e']; rfl
  | x :: c, i + 1, w, R, u, e => by
    rw [slS_s]
    exact slS_eq (by simpa using e)
def toS (c : Ctx) (v : Nat → Lt) : Arg → S
  | .d x => .d x
  | .f F => .f F
  | .s j => slS c j (v j)
theorem toS_d {c : Ctx} {v : Nat → Lt} {x : PyData} : toS c v (.d x) = .d x := id rfl
theorem toS_f {c : Ctx} {v : Nat → Lt} {x : FrG} : toS c v (.f x) = .f x := id rfl
theorem toS_s {c : Ctx} {v : Nat → Lt} {j : Nat} : toS c v (.s j) = slS c j (v j) := id rfl
/-- the slots lent -/
def lent : List Arg → List Nat
  | [] => []
  | .s j :: as => j :: lent as
  | .d _ :: as => lent as
  | .f _ :: as => lent as
/-- what the lent slots hold behind the call, by the callee's parameters c' -/
def back (v : Nat → Lt) : List Arg → Ctx → Ctx → (Ctx → Prop) → Prop
  | [], _, c, Q => Q c
  | .s j :: as, .o (some u) R :: c', c, Q => u = v j ∧ slO c j fun w _ => back v as c' (c.set j (.o w R)) Q
  | .s _ :: _, _, _, _ => False
  | .d _ :: as, _ :: c', c, Q => back v as c' c Q
  | .d _ :: _, [], _, _ => False
  | .f _ :: as, _ :: c', c, Q => back v as c' c Q
  | .f _ :: _, [], _, _ => False
abbrev TAr := Ctx → (List Arg → Ctx → Prop) → Prop
/-- an argument's value -/
def ArgV (K : PySem.W.Frag) (G : Hp) (s : L2.St) : Arg → V → Prop
  | .d x, v => Dp K G v x
  | .f F, v => F.P K G v
  | .s j, v => s[j]? = some (some v)
inductive ArgVs (K : PySem.W.Frag) (G : Hp) (s : L2.St) : List Arg → List V → Prop
  | nil : ArgVs K G s [] []
  | cons {a : Arg} {v : V} {as : List Arg} {vs : List V} : ArgV K G s a v → ArgVs K G s as vs → ArgVs K G s (a :: as) (v :: vs)
theorem ArgV.mono {K : PySem.W.Frag} {G G' : Hp} {s : L2.St} (e : Same G G') : ∀ {a : Arg} {v : V}, ArgV K G s a v → ArgV K G' s a v
  | .d _, _, h => dp_mono e _ _ h
  | .f F, _, h => F.grow _ _ _ _ h e
  | .s _, _, h => h
def DArv (K : PySem.W.Frag) (te : TA) (t : TAr) : Prop := ∀ (B : Base) (c : Ctx) (s : L2.St) (G H : Hp) (Q : List Arg → Ctx → Prop) (R : List V → Hp → Prop), Stt K B c s G H → t c Q →
  (∀ vs as c' G' H', Stt K B c' s G' H' → Same G G' → ArgVs K G' s as vs → Q as c' → R vs H') → te s H R
structure DAr (X : Cx) (es : List Expr) (t : TAr) : Prop where
  ex : ∃ te, PA X es te ∧ DArv X.K te t
def rNil : TAr := fun c Q => Q [] c
def rD (ta : TD) (tr : TAr) : TAr := fun c Q => ta c fun x c1 => tr c1 fun as c2 => Q (.d x :: as) c2
def rS (j : Nat) (tr : TAr) : TAr := fun c Q => slO c j fun _ _ => tr c fun as c2 => Q (.s j :: as) c2
section
variable {X : Cx} {a e : Expr} {es : List Expr} {ta : TD} {tr t : TAr} {pos p : Pos}
theorem r_nil : DAr X [] rNil := ⟨_, pa_nil, fun B c s G H Q R st q k => k [] [] c G H st (Same.refl _) .nil q⟩
theorem r_d (ha : DE X a ta) (hr : DAr X es tr) (hs : starEach (a :: es) X.env = (false, eval a X.env) :: starEach es X.env := by rfl) : DAr X (a :: es) (rD ta tr) := (by
  obtain ⟨tea, pa, va⟩ := ha.ex
  obtain ⟨ter, pr, vr⟩ := hr.ex
  refine ⟨_, pa_cons pa pr hs, fun B c s G H Q R st q k => va B c s G H _ _ st q fun v x c1 G1 H1 st1 e1 d1 q1 => ?_⟩
  exact vr B c1 s G1 H1 _ _ st1 q1 fun vs xs c2 G2 H2 st2 e2 d2 q2 => k _ _ c2 G2 H2 st2 (e1.trans e2) (.cons (a := .d x) (dp_mono e2 _ _ d1) d2) q2
  )
theorem r_s (j : Nat) {y : Str} {py : Pos} (hr : DAr X es tr) (hN : X.N[j]? = some y := by rfl) (hv : Vis X.env.scope y := by first | exact Or.inl rfl | exact Or.inr (Or.inl rfl) | exact Or.inr (Or.inr rfl)) (hd : (y == ("__debug__" : Str)) = false := by decide)
    (hcd : (y == ("__classdict__" : Str)) = false := by decide) (hs : starEach (.Name y py :: es) X.env = (false, eval (.Name y py) X.env) :: starEach es X.env := by rfl) : DAr X (.Name y py :: es) (rS j tr) := (by
  obtain ⟨ter, pr, vr⟩ := hr.ex
  refine ⟨_, pa_cons (pe_var hN hv hd hcd) pr hs, fun B c s G H Q R st q k => ?_⟩
  obtain ⟨w, R0, e0, q⟩ := slO_of q
  obtain ⟨u, hu⟩ := st.own_at e0
  exact ⟨u, hu, vr B c s G H _ _ st q fun vs xs c2 G2 H2 st2 e2 d2 q2 => k _ _ c2 G2 H2 st2 e2 (.cons (a := .s j) hu d2) q2⟩
  )
end
/-- the values of the slots -/
def slV (s : L2.St) (j : Nat) : V := match s[j]? with
  | some (some v) => v
  | _ => .non
theorem slV_eq {s : L2.St} {j : Nat} {v : V} (h : s[j]? = some (some v)) : slV s j = v := by unfold slV; rw [h]
section
variable {K : PySem.W.Frag} {B : Base} {c : Ctx} {s : L2.St} {G H : Hp} {as : List Arg} {vs : List V}
theorem lent_mem : ∀ {as : List Arg} {j : Nat}, j ∈ lent as ↔ ∃ i : Nat, as[i]? = some (Arg.s j)
  | [], j => by simp [lent]
  | .d x :: as, j => by
    rw [show lent (.d x :: as) = lent as from rfl, lent_mem]
    constructor
    · rintro ⟨i, e⟩; exact ⟨i + 1, by simpa using e⟩
    · rintro ⟨i, e⟩
      cases i with
      | zero => simp at e
      | succ i => exact ⟨i, by simpa using e⟩
  | .f x :: as, j => by
    rw [show lent (.f x :: as) = lent as from rfl, lent_mem]
    constructor
    · rintro ⟨i, e⟩; exact ⟨i + 1, by simpa using e⟩
    · rintro ⟨i, e⟩
      cases i with
      | zero => simp at e
      | succ i => exact ⟨i, by simpa using e⟩
  | .s k :: as, j => by
    rw [show lent (.s k :: as) = k :: lent as from rfl, List.mem_cons, lent_mem]
    constructor
    · rintro (rfl | ⟨i, e⟩)
      · exact ⟨0, rfl⟩
      · exact ⟨i + 1, by simpa using e⟩
    · rintro ⟨i, e⟩
      cases i with
      | zero =>
        have e' : Arg.s k = Arg.s j := by simpa using e
        cases e'; exact .inl rfl
      | succ i => exact .inr ⟨i, by simpa using e⟩
/-- the words behind a call, put back: which slot holds what -/
theorem back_of {v : Nat → Lt} {Q : Ctx → Prop} : ∀ {as : List Arg} {c' c : Ctx}, (lent as).Nodup → back v as c' c Q →
    ∃ c2 : Ctx, Q c2 ∧ c2.length = c.length ∧ (∀ j, j ∉ lent as → c2[j]? = c[j]?) ∧ ∀ (i j : Nat), as[i]? = some (Arg.s j) → ∃ (w : Option Lt) (R R0 : Res), c'[i]? = some (S.o (some (v j)) R) ∧ c2[j]? = some (S.o w R) ∧ c[j]? = some (S.o w R0)
  | [], _, c, _, h => ⟨c, h, rfl, fun _ _ => rfl, by simp⟩
  | .d x :: as, [], c, _, h => h.elim
  | .f x :: as, [], c, _, h => h.elim
  | .d x :: as, y :: c', c, nd, h => by
    obtain ⟨c2, q, l, h1, h2⟩ := back_of (as := as) nd h
    refine ⟨c2, q, l, h1, fun i j e => ?_⟩
    cases i with
    | zero => simp at e
    | succ i => simpa using h2 i j (by simpa using e)
  | .f x :: as, y :: c', c, nd, h => by
    obtain ⟨c2, q, l, h1, h2⟩ := back_of (as := as) nd h
    refine ⟨c2, q, l, h1, fun i j e => ?_⟩
    cases i with
    | zero => simp at e
    | succ i => simpa using h2 i j (by simpa using e)
  | .s j :: as, [], c, _, h => h.elim
  | .s j :: as, .no :: c', c, _, h => h.elim
  | .s j :: as, .d _ :: c', c, _, h => h.elim
  | .s j :: as, .f _ :: c', c, _, h => h.elim
  | .s j :: as, .o none _ :: c', c, _, h => h.elim
  | .s j :: as, .o (some u) R :: c', c, nd, h => by
    obtain ⟨m1, m2⟩ := List.nodup_cons.mp (show (j :: lent as).Nodup from nd)
    obtain ⟨hu, h⟩ := h
    obtain ⟨w, R0, e0, h⟩ := slO_of h
    obtain ⟨c2, q, l, h1, h2⟩ := back_of (as := as) m2 h
    have hj : j < c.length := (List.getElem?_eq_some_iff.mp e0).1
    have ej : c2[j]? = some (.o w R) := by rw [h1 j m1, List.getElem?_set_self hj]
    refine ⟨c2, q, by rw [l, List.length_set], fun k hk => ?_, fun i k e => ?_⟩
    · have hk' : k ∉ j :: lent as := hk
      rw [h1 k (fun z => hk' (List.mem_cons_of_mem _ z)), List.getElem?_set_ne (fun z => hk' (by rw [z]; exact List.mem_cons_self))]
    · cases i with
      | zero =>
        have e' : Arg.s j = Arg.s k := by simpa using e
        cases e'
        exact ⟨w, R, R0, by rw [hu]; rfl, ej, e0⟩
      | succ i =>
        obtain ⟨w2, R2, R3, g1, g2, g3⟩ := h2 i k (by simpa using e)
        have kj : j ≠ k := fun z => m1 (by rw [z]; exact lent_mem.mpr ⟨i, by simpa using e⟩)
        rw [List.getElem?_set_ne kj] at g3
        exact ⟨w2, R2, R3, by simpa using g1, g2, g3⟩
theorem lent_one : ∀ {as : List Arg} {i i' j : Nat}, (lent as).Nodup → as[i]? = some (Arg.s j) → as[i']? = some (Arg.s j) → i = i'
  | [], i, _, _, _, e, _ => by simp at e
  | a :: as, 0, 0, _, _, _, _ => rfl
  | a :: as, 0, i' + 1, j, nd, e, e' => by
    have ea : a = .s j := by simpa using e
    rw [ea] at nd
    exact absurd (lent_mem.mpr ⟨i', by simpa using e'⟩) (List.nodup_cons.mp (show (j :: lent as).Nodup from nd)).1
  | a :: as, i + 1, 0, j, nd, e, e' => by
    have ea : a = .s j := by simpa using e'
    rw [ea] at nd
    exact absurd (lent_mem.mpr ⟨i, by simpa using e⟩) (List.nodup_cons.mp (show (j :: lent as).Nodup from nd)).1
  | a :: as, i + 1, i' + 1, j, nd, e, e' => by
    have nd' : (lent as).Nodup := by
      cases a with
      | d _ => exact nd
      | f _ => exact nd
      | s k => exact (List.nodup_cons.mp (show (k :: lent as).Nodup from nd)).2
    exact congrArg (· + 1) (lent_one (j := j) nd' (by simpa using e) (by simpa using e'))
/-- THE RULE for lending -/
theorem lendA (st : Stt K B c s G H) (hl : ∀ j ∈ lent as, ∃ w R, c[j]? = some (.o w R)) (nd : (lent as).Nodup) (hv : ArgVs K G s as vs) :
    ∃ (io : List Addr) (tg : Nat → Lt), Stt K ⟨H, G, io⟩ (as.map (toS c tg)) (vs.map some) G H ∧
      ∀ {r : S} {c' : Ctx} {vr : V} {s' : L2.St} {G' H' : Hp} {Q : Ctx → Prop}, Stt K ⟨H, G, io⟩ (r :: c') (some vr :: s') G' H' → back tg as c' c Q →
        Same G G' ∧ ∃ c2, Q c2 ∧ (∀ x, r = .d x → Dp K G' vr x ∧ Stt K B c2 s G' H') ∧ (∀ R2, r = .o none R2 → Stt K B (.o none R2 :: c2) (some vr :: s) G' H') ∧ ∀ F, r = .f F → F.P K G' vr ∧ Stt K B c2 s G' H' := (by
  obtain ⟨A, r0, w0⟩ := st.ex
  obtain ⟨fp, F⟩ := fp_of r0 w0.nd
  have hA : ∀ i, ∀ a ∈ fp i, H a ≠ none := fun i a ha => r0.here a (F.sub i a ha)
  -- what the callee gets: by induction over the arguments
  have ent : ∀ {as : List Arg} {vs : List V}, ArgVs K G s as vs → (lent as).Nodup → (∀ j ∈ lent as, ∃ w R, c[j]? = some (.o w R)) → ∀ io : List Addr, ∃ A', Reps K ⟨H, G, io⟩ G H (as.map (toS c fun j => ⟨slV s j, fp j⟩)) (vs.map some) A' ∧ A'.Nodup ∧ ∀ a, a ∈ A' ↔ ∃ j ∈ lent as, a ∈ fp j := by
    intro as vs hv
    induction hv with
    | nil => intro _ _ io; exact ⟨[], .nil, List.nodup_nil, by simp [lent]⟩
    | @cons a v as vs h1 h2 ih =>
      intro nd hl io
      cases a with
      | d x =>
        obtain ⟨A', r', n', q'⟩ := ih nd hl io
        exact ⟨A', .d h1 r', n', q'⟩
      | f x =>
        obtain ⟨A', r', n', q'⟩ := ih nd hl io
        exact ⟨A', .f h1 r', n', q'⟩
      | s j =>
        obtain ⟨m1, m2⟩ := List.nodup_cons.mp (show (j :: lent as).Nodup from nd)
        obtain ⟨A', r', n', q'⟩ := ih m2 (fun k hk => hl k (List.mem_cons_of_mem _ hk)) io
        obtain ⟨w, R, e⟩ := hl j List.mem_cons_self
        obtain ⟨u, hu, hP, hW⟩ := F.o j w R e
        have h1' : s[j]? = some (some v) := h1
        rw [hu] at h1'
        cases h1'
        have e1 : toS c (fun j => ⟨slV s j, fp j⟩) (.s j) = .o (some ⟨v, fp j⟩) R := by rw [toS_s, slV_eq hu]; exact slS_eq e
        refine ⟨fp j ++ A', ?_, List.nodup_append.mpr ⟨F.nd j, n', fun a ha b hb z => ?_⟩, fun a => ?_⟩
        · rw [List.map_cons, e1, List.map_cons]
          exact .o hP ⟨rfl, fun a ha => .inl ha⟩ r'
        · subst z
          obtain ⟨k, hk, hk2⟩ := (q' a).mp hb
          exact F.dj j k (fun z => m1 (z ▸ hk)) a ha hk2
        · rw [List.mem_append, q']
          constructor
          · rintro (z | ⟨k, hk, z⟩)
            · exact ⟨j, List.mem_cons_self, z⟩
            · exact ⟨k, List.mem_cons_of_mem _ hk, z⟩
          · rintro ⟨k, hk, z⟩
            rcases List.mem_cons.mp hk with rfl | hk
            · exact .inl z
            · exact .inr ⟨k, hk, z⟩
  obtain ⟨io, _, _, hio⟩ := ent hv nd hl []
  obtain ⟨A1, r1, n1, h1⟩ := ent hv nd hl io
  have hioA : ∀ a ∈ io, a ∈ A := fun a ha => let ⟨j, _, z⟩ := (hio a).mp ha; F.sub j a z
  refine ⟨io, fun j => ⟨slV s j, fp j⟩, ⟨A1, r1, w0.sub, n1, fun a ha => w0.out a (let ⟨j, _, z⟩ := (h1 a).mp ha; F.sub j a z), Same.refl _, fun a o q _ => q, fun a q => q, fun a _ q => .inl rfl, fun a ha => .inl ((hio a).mpr ((h1 a).mp ha))⟩, ?_⟩
  intro r c' vr s' G' H' Q st' hb
  obtain ⟨A', r', wd⟩ := st'.ex
  obtain ⟨fp', F'⟩ := fp_of r' wd.nd
  have keepA := keep_after r0.here wd
  obtain ⟨c2, q2, l2, k1, k2⟩ := back_of nd hb
  -- the footprints behind the call
  let fq : Nat → List Addr := fun j => open Classical in if h : ∃ i : Nat, as[i]? = some (Arg.s j) then fp' (h.choose + 1) else match c[j]? with
    | some (.o _ _) => fp j
    | _ => []
  have fqL : ∀ i j, as[i]? = some (Arg.s j) → fq j = fp' (i + 1) := fun i j e => by
    have h : ∃ i : Nat, as[i]? = some (Arg.s j) := ⟨i, e⟩
    show (open Classical in if h : ∃ i : Nat, as[i]? = some (Arg.s j) then fp' (h.choose + 1) else _) = _
    rw [dif_pos h, lent_one nd h.choose_spec e]
  have fqN : ∀ j, j ∉ lent as → ∀ w R, c[j]? = some (.o w R) → fq j = fp j := fun j hj w R e => by
    have h : ¬ ∃ i : Nat, as[i]? = some (Arg.s j) := fun z => hj (lent_mem.mpr z)
    show (open Classical in if h : ∃ i : Nat, as[i]? = some (Arg.s j) then fp' (h.choose + 1) else _) = _
    rw [dif_neg h, e]
  have fqE : ∀ j, j ∉ lent as → (∀ w R, c[j]? ≠ some (.o w R)) → fq j = [] := fun j hj ne => by
    have h : ¬ ∃ i : Nat, as[i]? = some (Arg.s j) := fun z => hj (lent_mem.mpr z)
    show (open Classical in if h : ∃ i : Nat, as[i]? = some (Arg.s j) then fp' (h.choose + 1) else _) = _
    rw [dif_neg h]
    cases q : c[j]? with
    | none => rfl
    | some x =>
      cases x with
      | o w R => exact absurd q (ne w R)
      | _ => rfl
  -- a slot's footprint lies in what it had, or is new
  have fqS : ∀ j a, a ∈ fq j → (a ∈ fp j ∨ H a = none) ∧ ((∃ i : Nat, as[i]? = some (Arg.s j) ∧ a ∈ fp' (i + 1)) ∨ (j ∉ lent as ∧ a ∈ fp j)) := fun j a ha => by
    by_cases hj : j ∈ lent as
    · obtain ⟨i, e⟩ := lent_mem.mp hj
      rw [fqL i j e] at ha
      obtain ⟨w, R, R0, g1, g2, g3⟩ := k2 i j e
      obtain ⟨v', _, _, hw⟩ := F'.o (i + 1) _ R (by simpa using g1)
      exact ⟨hw.2 a ha, .inl ⟨i, e, ha⟩⟩
    · by_cases ho : ∃ w R, c[j]? = some (S.o w R)
      · obtain ⟨w, R, e⟩ := ho
        rw [fqN j hj w R e] at ha
        exact ⟨.inl ha, .inr ⟨hj, ha⟩⟩
      · rw [fqE j hj fun w R e => ho ⟨w, R, e⟩] at ha
        simp at ha
  have nio : ∀ j, j ∉ lent as → ∀ a ∈ fp j, a ∉ io := fun j hj a ha z => by
    obtain ⟨k, hk, z⟩ := (hio a).mp z
    exact F.dj j k (fun e => hj (e ▸ hk)) a ha z
  have FQ : Fp K B G' H' c2 s (A ++ A') fq := by
    refine ⟨by rw [l2]; exact F.len, fun j x e => ?_, fun j x e => ?_, fun j w R e => ?_, fun j => ?_, fun i j hij a ha hb => ?_, fun j a ha => ?_⟩
    · have hj : j ∉ lent as := fun z => by
        obtain ⟨i, ei⟩ := lent_mem.mp z
        obtain ⟨w, R, R0, g1, g2, g3⟩ := k2 i j ei
        rw [e] at g2; cases g2
      rw [k1 j hj] at e
      obtain ⟨v, e1, d1⟩ := F.d j x e
      exact ⟨v, e1, dp_mono wd.old _ _ d1⟩
    · have hj : j ∉ lent as := fun z => by
        obtain ⟨i, ei⟩ := lent_mem.mp z
        obtain ⟨w, R, R0, g1, g2, g3⟩ := k2 i j ei
        rw [e] at g2; cases g2
      rw [k1 j hj] at e
      obtain ⟨v, e1, d1⟩ := F.f j x e
      exact ⟨v, e1, x.grow _ _ _ _ d1 wd.old⟩
    · by_cases hj : j ∈ lent as
      · obtain ⟨i, ei⟩ := lent_mem.mp hj
        obtain ⟨w2, R2, R0, g1, g2, g3⟩ := k2 i j ei
        rw [e] at g2
        cases g2
        obtain ⟨u, hu, hP, hW⟩ := F.o j w R0 g3
        obtain ⟨v', _, hP', hw'⟩ := F'.o (i + 1) _ R (by simpa using g1)
        obtain ⟨ev, hw'⟩ := hw'
        have ev : v' = slV s j := ev
        rw [slV_eq hu] at ev
        subst ev
        rw [fqL i j ei]
        have hs : ∀ a ∈ fp' (i + 1), a ∈ fp j ∨ H a = none := hw'
        refine ⟨v', hu, hP', ?_⟩
        cases w with
        | none =>
          intro a ha
          rcases hs a ha with z | z
          · exact hW a z
          · exact w0.dom a z
        | some t =>
          refine ⟨hW.1, fun a ha => ?_⟩
          rcases hs a ha with z | z
          · exact hW.2 a z
          · exact .inr (w0.dom a z)
      · rw [k1 j hj] at e
        obtain ⟨u, hu, hP, hW⟩ := F.o j w R e
        rw [fqN j hj w R e]
        exact ⟨u, hu, Res.mono hP wd.old fun a ha => keepA a (F.sub j a ha) (nio j hj a ha), hW⟩
    · by_cases hj : j ∈ lent as
      · obtain ⟨i, ei⟩ := lent_mem.mp hj
        rw [fqL i j ei]
        exact F'.nd _
      · by_cases ho : ∃ w R, c[j]? = some (S.o w R)
        · obtain ⟨w, R, e⟩ := ho
          rw [fqN j hj w R e]
          exact F.nd j
        · rw [fqE j hj fun w R e => ho ⟨w, R, e⟩]
          exact List.nodup_nil
    · obtain ⟨p1, p2⟩ := fqS i a ha
      obtain ⟨p3, p4⟩ := fqS j a hb
      rcases p2 with ⟨m, em, z⟩ | ⟨hi, z⟩
      · rcases p4 with ⟨m', em', z'⟩ | ⟨hj, z'⟩
        · refine F'.dj (m + 1) (m' + 1) (fun e => ?_) a z z'
          have e2 : m = m' := by omega
          rw [e2, em'] at em
          cases em
          exact hij rfl
        · rcases p1 with y | y
          · exact F.dj i j hij a y z'
          · exact hA j a z' y
      · rcases p4 with ⟨m', em', z'⟩ | ⟨hj, z'⟩
        · rcases p3 with y | y
          · exact F.dj j i (Ne.symm hij) a y z
          · exact hA i a z y
        · exact F.dj i j hij a z z'
    · rcases (fqS j a ha).2 with ⟨m, em, z⟩ | ⟨_, z⟩
      · exact List.mem_append_right _ (F'.sub _ a z)
      · exact List.mem_append_left _ (F.sub j a z)
  obtain ⟨A2, r2, n2, h2⟩ := reps_of FQ
  have inA : ∀ a ∈ A2, (∃ m, a ∈ fp' (m + 1)) ∨ (a ∈ A ∧ a ∉ io) := fun a ha => by
    obtain ⟨j, w, R, e, z⟩ := h2 a ha
    rcases (fqS j a z).2 with ⟨m, _, y⟩ | ⟨hj, y⟩
    · exact .inl ⟨m, y⟩
    · exact .inr ⟨F.sub j a y, nio j hj a y⟩
  refine ⟨wd.old, c2, q2, fun x hx => ?_, fun R2 hx => ?_, fun F0 hx => ?_⟩
  · subst hx
    obtain ⟨v, e, hd⟩ := F'.d 0 x rfl
    simp at e
    subst e
    refine ⟨hd, A2, r2, wd_after w0 r0.here r0.nt hioA wd n2 fun a ha => ?_⟩
    rcases inA a ha with ⟨m, z⟩ | z
    · exact .inl (F'.sub _ a z)
    · exact .inr z
  · subst hx
    obtain ⟨v, e, hP, hW⟩ := F'.o 0 none R2 rfl
    simp at e
    subst e
    have hW' : ∀ a ∈ fp' 0, H a = none := hW
    refine ⟨fp' 0 ++ A2, .o hP (fun a ha => w0.dom a (hW' a ha)) r2, wd_after w0 r0.here r0.nt hioA wd (List.nodup_append.mpr ⟨F'.nd 0, n2, fun a ha b hb z => ?_⟩) fun a ha => ?_⟩
    · subst z
      rcases inA a hb with ⟨m, z⟩ | ⟨z, _⟩
      · exact F'.dj 0 (m + 1) (by omega) a ha z
      · exact r0.here a z (hW' a ha)
    · rcases List.mem_append.mp ha with z | z
      · exact .inl (F'.sub 0 a z)
      · rcases inA a z with ⟨m, z⟩ | z
        · exact .inl (F'.sub _ a z)
        · exact .inr z
  · subst hx
    obtain ⟨v, e, hd⟩ := F'.f 0 F0 rfl
    simp at e
    subst e
    refine ⟨hd, A2, r2, wd_after w0 r0.here r0.nt hioA wd n2 fun a ha => ?_⟩
    rcases inA a ha with ⟨m, z⟩ | z
    · exact .inl (F'.sub _ a z)
    · exact .inr z
  )
/-- what is done with a call's answer where slots were lent -/
def kA (v : Nat → Lt) (as : List Arg) (c1 : Ctx) (Q : PyData → Ctx → Prop) : S → Ctx → Prop := fun r c' => back v as c' c1 fun c2 => kD (fun x => Q x c2) r c'
def kAO (v : Nat → Lt) (as : List Arg) (c1 : Ctx) (Q : Res → Ctx → Prop) : S → Ctx → Prop := fun r c' => back v as c' c1 fun c2 => kO (fun x => Q x c2) r c'
/-- the def's parameters at its end, as far as they were lent -/
def Pat (ls : List (Option (Lt × Res))) (c' : Ctx) : Prop := ls.length ≤ c'.length ∧ ∀ (i : Nat) (u : Lt) (R : Res), ls[i]? = some (some (u, R)) → c'[i]? = some (.o (some u) R)
def retA (ls : List (Option (Lt × Res))) (Q : S → Ctx → Prop) (r : S) : Prop := ∀ c', Pat ls c' → Q r c'
def backL (v : Nat → Lt) : List Arg → List (Option (Lt × Res)) → Ctx → (Ctx → Prop) → Prop
  | [], _, c, Q => Q c
  | .s j :: as, some (u, R) :: ls, c, Q => u = v j ∧ slO c j fun w _ => backL v as ls (c.set j (.o w R)) Q
  | .s _ :: _, _, _, _ => False
  | .d _ :: as, _ :: ls, c, Q => backL v as ls c Q
  | .d _ :: _, [], _, _ => False
  | .f _ :: as, _ :: ls, c, Q => backL v as ls c Q
  | .f _ :: _, [], _, _ => False
theorem pat_tail {x : Option (Lt × Res)} {ls : List (Option (Lt × Res))} {y : S} {c' : Ctx} (h : Pat (x :: ls) (y :: c')) : Pat ls c' :=
  ⟨by have := h.1; simp at this; exact this, fun i u R e => by simpa using h.2 (i + 1) u R (by simpa using e)⟩
theorem back_pat {v : Nat → Lt} {Q : Ctx → Prop} : ∀ {as : List Arg} {ls : List (Option (Lt × Res))} {c' c : Ctx}, Pat ls c' → backL v as ls c Q → back v as c' c Q
  | [], _, _, _, _, h => h
  | .s j :: as, some (u, R) :: ls, [], c, p, h => by have := p.1; simp at this
  | .s j :: as, some (u, R) :: ls, y :: c', c, p, h => by
    have e : y = .o (some u) R := by simpa using p.2 0 u R rfl
    subst e
    obtain ⟨h1, h2⟩ := h
    refine ⟨h1, ?_⟩
    obtain ⟨w, R0, e0, q⟩ := slO_of h2
    have key : ∀ {c : Ctx} {j : Nat} {w : Option Lt} {R : Res} {P : Option Lt → Res → Prop}, c[j]? = some (.o w R) → P w R → slO c j P := by
      intro c
      induction c with
      | nil => intro j w R P e; simp at e
      | cons x c ih =>
        intro j w R P e p
        cases j with
        | zero =>
          have e' : x = .o w R := by simpa using e
          rw [e']; exact p
        | succ j => rw [slO_s]; exact ih (by simpa using e) p
    exact key e0 (back_pat (pat_tail p) q)
  | .s _ :: _, [], _, _, _, h => h.elim
  | .s _ :: _, none :: _, _, _, _, h => h.elim
  | .d _ :: as, _ :: ls, [], c, p, h => by have := p.1; simp at this
  | .d _ :: as, _ :: ls, _ :: c', c, p, h => back_pat (as := as) (pat_tail p) h
  | .d _ :: _, [], _, _, _, h => h.elim
  | .f _ :: as, _ :: ls, [], c, p, h => by have := p.1; simp at this
  | .f _ :: as, _ :: ls, _ :: c', c, p, h => back_pat (as := as) (pat_tail p) h
  | .f _ :: _, [], _, _, _, h => h.elim
def patS : Option (Lt × Res) → S
  | some (u, R) => .o (some u) R
  | none => .no
theorem pat_self (ls : List (Option (Lt × Res))) : Pat ls (ls.map patS) := ⟨by simp, fun i u R e => by rw [List.getElem?_map, e]; rfl⟩
theorem back_self {v : Nat → Lt} {Q : Ctx → Prop} : ∀ {as : List Arg} {ls : List (Option (Lt × Res))} {c : Ctx}, back v as (ls.map patS) c Q → backL v as ls c Q
  | [], _, _, h => h
  | .s j :: as, some (u, R) :: ls, c, h => by
    obtain ⟨h1, h2⟩ := h
    refine ⟨h1, ?_⟩
    obtain ⟨w, R0, e0, q⟩ := slO_of h2
    have key : ∀ {c : Ctx} {j : Nat} {w : Option Lt} {R : Res} {P : Option Lt → Res → Prop}, c[j]? = some (.o w R) → P w R → slO c j P := by
      intro c
      induction c with
      | nil => intro j w R P e; simp at e
      | cons x c ih =>
        intro j w R P e p
        cases j with
        | zero =>
          have e' : x = .o w R := by simpa using e
          rw [e']; exact p
        | succ j => rw [slO_s]; exact ih (by simpa using e) p
    exact key e0 (back_self q)
  | .s _ :: _, [], _, h => h.elim
  | .s _ :: _, none :: _, _, h => h.elim
  | .d _ :: as, _ :: ls, c, h => back_self (as := as) (ls := ls) h
  | .d _ :: _, [], _, h => h.elim
  | .f _ :: as, _ :: ls, c, h => back_self (as := as) (ls := ls) h
  | .f _ :: _, [], _, h => h.elim
theorem retA_d {v : Nat → Lt} {as : List Arg} {ls : List (Option (Lt × Res))} {c1 : Ctx} {Q : PyData → Ctx → Prop} {x : PyData} : retA ls (kA v as c1 Q) (.d x) = backL v as ls c1 fun c2 => Q x c2 :=
  propext ⟨fun h => back_self (h _ (pat_self ls)), fun h c' p => back_pat p h⟩
theorem retA_o {v : Nat → Lt} {as : List Arg} {ls : List (Option (Lt × Res))} {c1 : Ctx} {Q : PyData → Ctx → Prop} {R : Res} : retA ls (kA v as c1 Q) (.o none R) = backL v as ls c1 fun c2 => R.fz fun x => Q x c2 :=
  propext ⟨fun h => back_self (h _ (pat_self ls)), fun h c' p => back_pat p h⟩
theorem retA_O {v : Nat → Lt} {as : List Arg} {ls : List (Option (Lt × Res))} {c1 : Ctx} {Q : Res → Ctx → Prop} {R : Res} : retA ls (kAO v as c1 Q) (.o none R) = backL v as ls c1 fun c2 => Q R c2 :=
  propext ⟨fun h => back_self (h _ (pat_self ls)), fun h c' p => back_pat p h⟩
theorem backL_n {v : Nat → Lt} {ls : List (Option (Lt × Res))} {c : Ctx} {Q : Ctx → Prop} : backL v [] ls c Q = Q c := id rfl
theorem backL_s {v : Nat → Lt} {j : Nat} {as : List Arg} {R : Res} {ls : List (Option (Lt × Res))} {c : Ctx} {Q : Ctx → Prop} : backL v (.s j :: as) (some (v j, R) :: ls) c Q = slO c j fun w _ => backL v as ls (c.set j (.o w R)) Q := propext ⟨fun h => h.2, fun h => ⟨rfl, h⟩⟩
theorem backL_d {v : Nat → Lt} {x : PyData} {as : List Arg} {y : Option (Lt × Res)} {ls : List (Option (Lt × Res))} {c : Ctx} {Q : Ctx → Prop} : backL v (.d x :: as) (y :: ls) c Q = backL v as ls c Q := id rfl
theorem backL_f {v : Nat → Lt} {x : FrG} {as : List Arg} {y : Option (Lt × Res)} {ls : List (Option (Lt × Res))} {c : Ctx} {Q : Ctx → Prop} : backL v (.f x :: as) (y :: ls) c Q = backL v as ls c Q := id rfl
/-- the slots lent are there, no two alike -/
def lentOk (c : Ctx) : List Arg → Prop
  | [] => True
  | .s j :: as => (slO c j fun _ _ => True) ∧ j ∉ lent as ∧ lentOk c as
  | .d _ :: as => lentOk c as
  | .f _ :: as => lentOk c as
theorem lentOk_of {c : Ctx} : ∀ {as : List Arg}, lentOk c as → (∀ j ∈ lent as, ∃ w R, c[j]? = some (S.o w R)) ∧ (lent as).Nodup
  | [], _ => ⟨by simp [lent], List.nodup_nil⟩
  | .d _ :: as, h => lentOk_of (as := as) h
  | .f _ :: as, h => lentOk_of (as := as) h
  | .s j :: as, h => by
    obtain ⟨h1, h2, h3⟩ := h
    obtain ⟨i1, i2⟩ := lentOk_of h3
    obtain ⟨w, R, e, _⟩ := slO_of h1
    refine ⟨fun k hk => ?_, List.nodup_cons.mpr ⟨h2, i2⟩⟩
    rcases List.mem_cons.mp hk with rfl | hk
    · exact ⟨w, R, e⟩
    · exact i1 k hk
end
section
variable {X : Cx} {e : Expr} {es : List Expr} {t : TAr} {x : Str} {p pos : Pos} {k : Nat} {ps : List Str} {T : TF}
def uCallA (T : TF) (t : TAr) : TD := fun c Q => t c fun as c1 => lentOk c1 as ∧ ∀ v : Nat → Lt, T (as.map (toS c1 v)) (kA v as c1 Q)
theorem d_callA (C : Cal X.prog X.w X.K X.mg X.base x k ps T) (hr : Room k X.A) (ha : DAr X (e :: es) t) (hg : Gl X x := by rfl)
    (hdb : (x == ("__debug__" : Str)) = false := by decide) (he : starEach (e :: es) X.env = (false, eval e X.env) :: starEach es X.env := by rfl) (hpl : (backTo pos (starEach es X.env)).any (·.1) = false := by rfl) : DE X (.Call (.Name x p) (e :: es) [] pos) (uCallA T t) := (by
  obtain ⟨f, fd, h1, h2, h3, h4⟩ := C.ex
  obtain ⟨ta, pa, va⟩ := ha.ex
  refine ⟨_, pe_call h1 hr hg h2 h3 h4 .nil pass0 pa hdb he hpl, fun B c s G H Q R st q k => va B c s G H _ _ st q fun vs as c1 G1 H1 st1 e1 d1 q1 => ?_⟩
  obtain ⟨hl, q1⟩ := q1
  obtain ⟨l1, l2⟩ := lentOk_of hl
  obtain ⟨io, tg, st2, aft⟩ := lendA st1 l1 l2 d1
  rw [List.append_nil]
  refine ⟨G1, io, _, _, st2, q1 tg, fun r c' vr s' G' H' st' q2 => ?_⟩
  obtain ⟨e2, c2, q3, g1, g2, _⟩ := aft st' q2
  cases r with
  | d y =>
    obtain ⟨hd, st3⟩ := g1 y rfl
    exact k vr y _ G' H' st3 (e1.trans e2) hd q3
  | o w R2 =>
    cases w with
    | none =>
      obtain ⟨G2, d, a1, a2, a3, a4⟩ := (g2 R2 rfl).frzR q3
      exact k vr d _ G2 H' a1 ((e1.trans e2).trans a2) a3 a4
    | some _ => exact q3.elim
  | no => exact q3.elim
  | f _ => exact q3.elim
  )
end
instance : Inhabited (Nat → Lt) := ⟨fun _ => default⟩
end Dl

/-! Things looked at (data or owned), methods of lists, comprehensions. -/
namespace Dl
open PySem PySem.Spec PyProof.Rows L2

/-! ### what is seen of a value: a list's items are frozen, the list itself may be owned -/
def Vw (K : PySem.W.Frag) (G H : Hp) (v : V) (x : PyData) : Prop := Dp K G v x ∨ ∃ p vs ds, v = .ref p ∧ x = .list ds ∧ SqL K H p vs ∧ DpAll K G vs ds
section
variable {K : PySem.W.Frag} {B : Base} {G G' H H' : Hp} {c : Ctx} {s : L2.St} {v : V} {x : PyData}
theorem Vw.dp (h : Vw K G H v x) (e : Same G H) : Dp K H v x := (by
  rcases h with h | ⟨p, vs, ds, rfl, rfl, h1, h2⟩
  · exact dp_mono e _ _ h
  · exact .lst h1 (dpa_mono e _ _ h2)
  )
theorem Vw.lst {ds : List PyData} (h : Vw K G H v (.list ds)) (e : Same G H) : ∃ p vs, v = .ref p ∧ SqL K H p vs ∧ DpAll K G vs ds := (by
  rcases h with h | ⟨p, vs, ds, rfl, e1, h1, h2⟩
  · obtain ⟨p, vs, rfl, h1, h2⟩ := dp_lst h
    exact ⟨p, vs, rfl, Same.seq e h1, h2⟩
  · cases e1
    exact ⟨p, vs, rfl, h1, h2⟩
  )
theorem Vw.oth (h : Vw K G H v x) (hx : ∀ ds, x ≠ .list ds) : Dp K G v x := (by
  rcases h with h | ⟨p, vs, ds, rfl, rfl, h1, h2⟩
  · exact h
  · exact absurd rfl (hx ds)
  )
end
/-- what slot i holds, seen -/
def slW : Ctx → Nat → (PyData → Prop) → Prop
  | .d x :: _, 0, Q => Q x
  | .o _ (.lst ds) :: _, 0, Q => Q (.list ds)
  | .o _ (.lstP P) :: _, 0, Q => ∀ ds, P ds → Q (.list ds)
  | _ :: c, i + 1, Q => slW c i Q
  | _, _, _ => False
section
variable {x : PyData} {y : S} {w : Option Lt} {ds : List PyData} {P : List PyData → Prop} {c : Ctx} {i : Nat} {Q : PyData → Prop}
theorem slW_d : slW (.d x :: c) 0 Q = Q x := id rfl
theorem slW_o : slW (.o w (.lst ds) :: c) 0 Q = Q (.list ds) := id rfl
theorem slW_P : slW (.o w (.lstP P) :: c) 0 Q = ∀ ds, P ds → Q (.list ds) := id rfl
theorem slW_s : slW (y :: c) (i + 1) Q = slW c i Q := (by
  cases y with
  | o w R => cases R <;> rfl
  | _ => rfl
  )
theorem slW_of : ∀ {c : Ctx} {i : Nat} {Q : PyData → Prop}, slW c i Q → (∃ x, c[i]? = some (.d x) ∧ Q x) ∨ (∃ w ds, c[i]? = some (.o w (.lst ds)) ∧ Q (.list ds)) ∨ ∃ w P, c[i]? = some (.o w (.lstP P)) ∧ ∀ ds, P ds → Q (.list ds)
  | [], 0, _, h => h.elim
  | [], _ + 1, _, h => h.elim
  | .d x :: c, 0, _, h => .inl ⟨x, rfl, h⟩
  | .no :: c, 0, _, h => h.elim
  | .f _ :: c, 0, _, h => h.elim
  | .o w (.lst ds) :: c, 0, _, h => .inr (.inl ⟨w, ds, rfl, h⟩)
  | .o w (.lstP P) :: c, 0, _, h => .inr (.inr ⟨w, P, rfl, h⟩)
  | .o w (.gen _) :: c, 0, _, h => h.elim
  | .o w (.dic _) :: c, 0, _, h => h.elim
  | .o w (.tr _) :: c, 0, _, h => h.elim
  | .o w (.lls _) :: c, 0, _, h => h.elim
  | y :: c, i + 1, _, h => by
    rw [slW_s] at h
    simpa using slW_of h
end
/-- slot i has a value -/
def hasS : Ctx → Nat → Prop
  | .d _ :: _, 0 => True
  | .o _ _ :: _, 0 => True
  | .f _ :: _, 0 => True
  | _ :: c, i + 1 => hasS c i
  | _, _ => False
section
variable {x : PyData} {y : S} {w : Option Lt} {R : Res} {F : FrG} {c : Ctx} {i : Nat}
theorem hasS_d : hasS (.d x :: c) 0 = True := id rfl
theorem hasS_o : hasS (.o w R :: c) 0 = True := id rfl
theorem hasS_f : hasS (.f F :: c) 0 = True := id rfl
theorem hasS_s : hasS (y :: c) (i + 1) = hasS c i := by cases y <;> rfl
end
section
variable {K : PySem.W.Frag} {B : Base} {G H : Hp} {c : Ctx} {s : L2.St}
theorem Stt.val : ∀ {c : Ctx} {s : L2.St} {i : Nat}, Stt K B c s G H → hasS c i → ∃ v, s[i]? = some (some v)
  | [], _, 0, _, h => h.elim
  | [], _, _ + 1, _, h => h.elim
  | y :: c, s, 0, st, h => by
    obtain ⟨A, r, _⟩ := st.ex
    cases r with
    | no _ => exact h.elim
    | d _ _ => exact ⟨_, rfl⟩
    | f _ _ => exact ⟨_, rfl⟩
    | o _ _ _ => exact ⟨_, rfl⟩
  | y :: c, s, i + 1, st, h => by
    rw [hasS_s] at h
    obtain ⟨A, r, w⟩ := st.ex
    cases s with
    | nil => cases r
    | cons x s =>
      obtain ⟨v, e⟩ := Stt.val st.pop h
      exact ⟨v, by simpa using e⟩
theorem Stt.look (st : Stt K B c s G H) {i : Nat} {Q : PyData → Prop} (h : slW c i Q) : ∃ v x, s[i]? = some (some v) ∧ Vw K G H v x ∧ Q x := (by
  rcases slW_of h with ⟨x, e, q⟩ | ⟨w, ds, e, q⟩ | ⟨w, P, e, q⟩
  · obtain ⟨v, e1, d⟩ := st.get_d e
    exact ⟨v, x, e1, .inl d, q⟩
  · obtain ⟨p, vs, e1, h1, h2, _⟩ := st.own e
    exact ⟨_, _, e1, .inr ⟨p, vs, ds, rfl, rfl, SqL.of h1, h2⟩, q⟩
  · obtain ⟨ds, hP, st2⟩ := st.open_ e
    obtain ⟨p, vs, e1, h1, h2, _⟩ := st2.own (j := i) (wo := w) (ds := ds) (by rw [List.getElem?_set_self (List.getElem?_eq_some_iff.mp e).1])
    exact ⟨_, _, e1, .inr ⟨p, vs, ds, rfl, rfl, SqL.of h1, h2⟩, q ds hP⟩
  )
end

/-! ### expressions that are seen -/
def DVv (K : PySem.W.Frag) (te : TE) (t : TD) : Prop := ∀ (B : Base) (c : Ctx) (s : L2.St) (G H : Hp) (Q : PyData → Ctx → Prop) (R : VK), Stt K B c s G H → t c Q →
  (∀ v x c' G' H', Stt K B c' s G' H' → Same G G' → Vw K G' H' v x → Q x c' → R v H') → te s H R
structure DV (X : Cx) (e : Expr) (t : TD) : Prop where
  ex : ∃ te, PE X e te ∧ DVv X.K te t
/-- what stands on the left of an operator: a value that is looked at behind what stands on the right -/
def uV (i : Nat) : TD := fun c Q => slW c i fun x => Q x c
section
variable {X : Cx} {pos : Pos} {a b : Expr} {ta tb : TD}
theorem DE.dv (h : DE X a ta) : DV X a ta := let ⟨te, p, v⟩ := h.ex; ⟨te, p, fun B c s G H Q R st q k => v B c s G H Q R st q fun w x c' G' H' st' e d q => k w x c' G' H' st' e (.inl d) q⟩
theorem vv (i : Nat) {x : Str} (hN : X.N[i]? = some x := by rfl) (hv : Vis X.env.scope x := by first | exact Or.inl rfl | exact Or.inr (Or.inl rfl) | exact Or.inr (Or.inr rfl)) (hd : (x == ("__debug__" : Str)) = false := by decide)
    (hcd : (x == ("__classdict__" : Str)) = false := by decide) : DV X (.Name x pos) (uV i) := (by
  refine ⟨_, pe_var hN hv hd hcd, fun B c s G H Q R st h k => ?_⟩
  obtain ⟨v, x, e, d, q⟩ := st.look h
  exact ⟨v, e, k v x c G H st (Same.refl _) d q⟩
  )
/-- what a two-place rule asks of what is seen -/
def OpV (K : PySem.W.Frag) (r : R2) (f : PyData → PyData → (PyData → Prop) → Prop) : Prop := ∀ (B : Base) (c : Ctx) (s : L2.St) (G H : Hp) (x y : V) (a b : PyData) (Q : PyData → Prop) (R : VK), Stt K B c s G H → Vw K G H x a → Vw K G H y b → f a b Q →
  (∀ v d G' H', Stt K B c s G' H' → Same G G' → Dp K G' v d → Q d → R v H') → r x y H R
/-- .. the left one in slot j -/
def uN (j : Nat) (f : PyData → PyData → (PyData → Prop) → Prop) (tb : TD) : TD := fun c Q => hasS c j ∧ tb c fun y c1 => slW c1 j fun x => f x y fun z => Q z c1
theorem twoL {tea teb : TE} (ha : DEv X.K tea ta) (hb : DVv X.K teb tb) {r : R2} {f : PyData → PyData → (PyData → Prop) → Prop} (hr : OpV X.K r f) : DEv X.K (tOp r tea teb) (u2 f ta tb) := (by
  intro B c s G H Q R st q k
  refine ha B c s G H _ _ st q fun v x c1 G1 H1 st1 e1 d1 q1 => ?_
  refine hb B c1 s G1 H1 _ _ st1 q1 fun w y c2 G2 H2 st2 e2 d2 q2 => ?_
  exact hr B c2 s G2 H2 v w x y _ R st2 (.inl (dp_mono e2 _ _ d1)) d2 q2 fun z d G3 H3 st3 e3 d3 q3 => k z d c2 G3 H3 st3 ((e1.trans e2).trans e3) d3 q3
  )
theorem twoN (j : Nat) {teb : TE} (hb : DVv X.K teb tb) {r : R2} {f : PyData → PyData → (PyData → Prop) → Prop} (hr : OpV X.K r f) : DEv X.K (tOp r (fun σ H Q => ∃ v, σ[j]? = some (some v) ∧ Q v H) teb) (uN j f tb) := (by
  intro B c s G H Q R st q k
  obtain ⟨h, q⟩ := q
  obtain ⟨v, e⟩ := st.val h
  refine ⟨v, e, hb B c s G H _ _ st q fun w y c2 G2 H2 st2 e2 d2 q2 => ?_⟩
  obtain ⟨v', x, e', d', q3⟩ := st2.look q2
  rw [e] at e'
  cases e'
  exact hr B c2 s G2 H2 v w x y _ R st2 d' d2 q3 fun z d G3 H3 st3 e3 d3 q3 => k z d c2 G3 H3 st3 (e2.trans e3) d3 q3
  )
variable {op : CmpOp} {r : R2} {f : PyData → PyData → (PyData → Prop) → Prop}
theorem d_cmpN (j : Nat) {x : Str} {pn : Pos} (ho : OpR X (compareOp op) r) (hr : OpV X.K r f) (hb : DV X b tb) (hm : behindInMarks op b = false) (hN : X.N[j]? = some x := by rfl) (hv : Vis X.env.scope x := by first | exact Or.inl rfl | exact Or.inr (Or.inl rfl) | exact Or.inr (Or.inr rfl)) (hd : (x == ("__debug__" : Str)) = false := by decide)
    (hcd : (x == ("__classdict__" : Str)) = false := by decide) : DE X (.Compare (.Name x pn) [op] [b] pos) (uN j f tb) := (by
  obtain ⟨teb, pb, vb⟩ := hb.ex
  exact ⟨_, pe_cmpR ho (pe_var hN hv hd hcd) pb hm, twoN j vb hr⟩
  )
theorem t_cmpL (ho : OpR X (compareOp op) r) (hr : OpV X.K r f) (ha : DE X a ta) (hb : DV X b tb) (hm : behindInMarks op b = false) : DT X (.Compare a [op] [b] pos) (wB (u2 f ta tb)) := (by
  obtain ⟨tea, pa, va⟩ := ha.ex
  obtain ⟨teb, pb, vb⟩ := hb.ex
  refine ⟨_, pt_cmpR ho pa pb hm, fun B c s G H Q R st q k => twoL va vb hr B c s G H _ _ st q fun v x c1 G1 H1 st1 e1 d1 q1 => ?_⟩
  obtain ⟨b, rfl, q⟩ := asB_of q1
  exact ⟨b, dp_bl d1, k b c1 G1 H1 st1 e1 q⟩
  )
theorem t_cmpN (j : Nat) {x : Str} {pn : Pos} (ho : OpR X (compareOp op) r) (hr : OpV X.K r f) (hb : DV X b tb) (hm : behindInMarks op b = false) (hN : X.N[j]? = some x := by rfl) (hv : Vis X.env.scope x := by first | exact Or.inl rfl | exact Or.inr (Or.inl rfl) | exact Or.inr (Or.inr rfl)) (hd : (x == ("__debug__" : Str)) = false := by decide)
    (hcd : (x == ("__classdict__" : Str)) = false := by decide) : DT X (.Compare (.Name x pn) [op] [b] pos) (wB (uN j f tb)) := (by
  obtain ⟨teb, pb, vb⟩ := hb.ex
  refine ⟨_, pt_cmpR ho (pe_var hN hv hd hcd) pb hm, fun B c s G H Q R st q k => twoN j vb hr B c s G H _ _ st q fun v x c1 G1 H1 st1 e1 d1 q1 => ?_⟩
  obtain ⟨b, rfl, q⟩ := asB_of q1
  exact ⟨b, dp_bl d1, k b c1 G1 H1 st1 e1 q⟩
  )
/-- in, not in: a list of data; a text in a text -/
def fIn (neg : Bool) : PyData → PyData → (PyData → Prop) → Prop := fun x y Q => match y with
  | .list ds => SeqAt.shaped x = true ∧ SeqAt.shaped (.list ds) = true ∧ Q (.bool (if neg then !ds.any fun z => PyData.eqv z x else ds.any fun z => PyData.eqv z x))
  | .str j => asS x fun i => Q (.bool (if neg then !(!(Builtin.Str.occurrences j i 0 j.length 1).isEmpty) else !(Builtin.Str.occurrences j i 0 j.length 1).isEmpty))
  | _ => False
theorem fIn_l {neg : Bool} {x : PyData} {ds : List PyData} {Q : PyData → Prop} : fIn neg x (.list ds) Q = (SeqAt.shaped x = true ∧ SeqAt.shaped (.list ds) = true ∧ Q (.bool (if neg then !ds.any fun z => PyData.eqv z x else ds.any fun z => PyData.eqv z x))) := id rfl
theorem fIn_s {neg : Bool} {i j : Str} {Q : PyData → Prop} : fIn neg (.str i) (.str j) Q = Q (.bool (if neg then !(!(Builtin.Str.occurrences j i 0 j.length 1).isEmpty) else !(Builtin.Str.occurrences j i 0 j.length 1).isEmpty)) := id rfl
def rInA (K : PySem.W.Frag) : R2 := fun x y H Q => rInD K x y H Q ∨ ∃ i j, x = .str i ∧ y = .str j ∧ Q (.bl (!(Builtin.Str.occurrences j i 0 j.length 1).isEmpty)) H
def rNotInA (K : PySem.W.Frag) : R2 := fun x y H Q => rNotInD K x y H Q ∨ ∃ i j, x = .str i ∧ y = .str j ∧ Q (.bl (!(!(Builtin.Str.occurrences j i 0 j.length 1).isEmpty))) H
theorem op_inA (hu : X.A.units + 65 < cLine) : OpR X (compareOp .In) (rInA X.K) := OpR.or2 (op_inD hu) op_in_str
theorem op_notInA (hu : X.A.units + 65 < cLine) : OpR X (compareOp .NotIn) (rNotInA X.K) := OpR.or2 (op_notInD hu) op_notIn_str
theorem opv_in {K : PySem.W.Frag} : OpV K (rInA K) (fIn false) := (by
  intro B c s G H x y a b Q R st dx dy h k
  cases b with
  | list ds =>
    obtain ⟨s1, s2, q⟩ := h
    exact .inl ⟨a, ds, dx.dp st.sub, dy.dp st.sub, s1, s2, k _ _ G H st (Same.refl _) (.bl _) q⟩
  | str j =>
    obtain ⟨i, rfl, q⟩ := asS_of h
    exact .inr ⟨i, j, dp_str (dx.dp st.sub), dp_str (dy.dp st.sub), k _ _ G H st (Same.refl _) (.bl _) q⟩
  | none => exact h.elim
  | bool _ => exact h.elim
  | int _ => exact h.elim
  | tuple _ => exact h.elim
  | dict _ => exact h.elim
  )
theorem opv_nin {K : PySem.W.Frag} : OpV K (rNotInA K) (fIn true) := (by
  intro B c s G H x y a b Q R st dx dy h k
  cases b with
  | list ds =>
    obtain ⟨s1, s2, q⟩ := h
    exact .inl ⟨a, ds, dx.dp st.sub, dy.dp st.sub, s1, s2, k _ _ G H st (Same.refl _) (.bl _) q⟩
  | str j =>
    obtain ⟨i, rfl, q⟩ := asS_of h
    exact .inr ⟨i, j, dp_str (dx.dp st.sub), dp_str (dy.dp st.sub), k _ _ G H st (Same.refl _) (.bl _) q⟩
  | none => exact h.elim
  | bool _ => exact h.elim
  | int _ => exact h.elim
  | tuple _ => exact h.elim
  | dict _ => exact h.elim
  )
/-- list + list -/
def rCatL (K : PySem.W.Frag) : R2 := fun x y H Q => ∃ l b xs zs, x = .ref l ∧ y = .ref b ∧ SqL K H l xs ∧ SqL K H b zs ∧ xs.length + zs.length ≤ sizeLine ∧ ∀ p, H p = none → Q (.ref p) (upd H p (.lst (xs ++ zs)))
theorem op_catL : OpR X (binaryOp .Add) (rCatL X.K) := (by
  intro pins s σ H x y v u Q I rx ry h
  obtain ⟨l, b, xs, zs, rfl, rfl, hH, hB, hz, q⟩ := h
  cases rx
  cases ry
  obtain ⟨its, r, ⟨⟨cls, dd, data, sl⟩, n, ho, hc, hdd, hd⟩, z1⟩ := I.list hH
  obtain ⟨its2, r2, ⟨⟨cls2, dd2, data2, sl2⟩, n2, ho2, hc2, hdd2, hd2⟩, z2⟩ := I.list hB
  simp only at hc hdd hd hc2 hdd2 hd2
  subst hc hd hc2 hd2
  have l1 := r.length
  have l2 := r2.length
  refine concat_meets ⟨_, ho, rfl⟩ ⟨_, ho2, rfl⟩ noFill_list_add seq_list_add PySem.F.slot_list_add PySem.F.entry_list_add (PySem.F.args_list_add_2 _ _) (list_addW l b its.toArray its2.toArray n n2 dd dd2 sl sl2 (by rw [List.size_toArray, List.size_toArray]; omega)) ⟨ho, ho2, ?_⟩
  have ea : its.toArray ++ its2.toArray = (its ++ its2).toArray := by simp
  rw [ea]
  exact ⟨.ref _, _, I.lnew (t' := s.toks) (r.append r2) (by rw [List.length_append]; omega), rfl, q _ I.fresh⟩
  )
/-- what such a rule makes -/
def OpO (K : PySem.W.Frag) (r : R2) (f : PyData → PyData → (Res → Prop) → Prop) : Prop := ∀ (B : Base) (c : Ctx) (s : L2.St) (G H : Hp) (x y : V) (a b : PyData) (Q : Res → Prop) (R : VK), Stt K B c s G H → Vw K G H x a → Vw K G H y b → f a b Q →
  (∀ v d G' H', Stt K B (.o none d :: c) (some v :: s) G' H' → Same G G' → Q d → R v H') → r x y H R
def oN (j : Nat) (f : PyData → PyData → (Res → Prop) → Prop) (tb : TD) : TR := fun c Q => hasS c j ∧ tb c fun y c1 => slW c1 j fun x => f x y fun z => Q z c1
def o2 (f : PyData → PyData → (Res → Prop) → Prop) (ta tb : TD) : TR := fun c Q => ta c fun x c1 => tb c1 fun y c2 => f x y fun z => Q z c2
def fCat : PyData → PyData → (Res → Prop) → Prop := fun x y Q => asL x fun xs => asL y fun ys => xs.length + ys.length ≤ sizeLine ∧ Q (.lst (xs ++ ys))
theorem opo_cat {K : PySem.W.Frag} : OpO K (rCatL K) fCat := (by
  intro B c s G H x y a b Q R st dx dy h k
  obtain ⟨xs, rfl, h⟩ := asL_of h
  have h : asL b fun ys => xs.length + ys.length ≤ sizeLine ∧ Q (.lst (xs ++ ys)) := h
  obtain ⟨ys, rfl, hl, q⟩ := asL_of h
  obtain ⟨p, vs, rfl, h1, h2⟩ := dx.lst st.sub
  obtain ⟨p2, vs2, rfl, h3, h4⟩ := dy.lst st.sub
  refine ⟨p, p2, vs, vs2, rfl, rfl, h1, h3, by rw [dpa_len h2, dpa_len h4]; exact hl, fun l hn => ?_⟩
  exact k _ _ _ _ (st.laidL hn (dpa_app h2 h4)) (Same.refl _) q
  )
theorem o_catL (ha : DE X a ta) (hb : DV X b tb) : DO X (.BinOp a .Add b pos) (o2 fCat ta tb) := (by
  obtain ⟨tea, pa, va⟩ := ha.ex
  obtain ⟨teb, pb, vb⟩ := hb.ex
  refine ⟨_, pe_op op_catL pa pb, fun B c s G H Q R st q k => va B c s G H _ _ st q fun v x c1 G1 H1 st1 e1 d1 q1 => vb B c1 s G1 H1 _ _ st1 q1 fun w y c2 G2 H2 st2 e2 d2 q2 => ?_⟩
  exact opo_cat B c2 s G2 H2 v w x y _ R st2 (.inl (dp_mono e2 _ _ d1)) d2 q2 fun z d G3 H3 st3 e3 q3 => k z d c2 G3 H3 st3 ((e1.trans e2).trans e3) q3
  )
theorem o_catN (j : Nat) {x : Str} {pn : Pos} (hb : DV X b tb) (hN : X.N[j]? = some x := by rfl) (hv : Vis X.env.scope x := by first | exact Or.inl rfl | exact Or.inr (Or.inl rfl) | exact Or.inr (Or.inr rfl)) (hd : (x == ("__debug__" : Str)) = false := by decide)
    (hcd : (x == ("__classdict__" : Str)) = false := by decide) : DO X (.BinOp (.Name x pn) .Add b pos) (oN j fCat tb) := (by
  obtain ⟨teb, pb, vb⟩ := hb.ex
  refine ⟨_, pe_op op_catL (pe_var hN hv hd hcd) pb, fun B c s G H Q R st q k => ?_⟩
  obtain ⟨h, q⟩ := q
  obtain ⟨v, e⟩ := st.val h
  refine ⟨v, e, vb B c s G H _ _ st q fun w y c2 G2 H2 st2 e2 d2 q2 => ?_⟩
  obtain ⟨v', x, e', d', q3⟩ := st2.look q2
  rw [e] at e'
  cases e'
  exact opo_cat B c2 s G2 H2 v w x y _ R st2 d' d2 q3 fun z d G3 H3 st3 e3 q3 => k z d c2 G3 H3 st3 (e2.trans e3) q3
  )
/-- xs[i], xs a name -/
theorem d_ixN (j : Nat) {x : Str} {pn : Pos} (hs : PlainIx b) (hb : DE X b tb) (hN : X.N[j]? = some x := by rfl) (hv : Vis X.env.scope x := by first | exact Or.inl rfl | exact Or.inr (Or.inl rfl) | exact Or.inr (Or.inr rfl)) (hd : (x == ("__debug__" : Str)) = false := by decide)
    (hcd : (x == ("__classdict__" : Str)) = false := by decide) : DE X (.Subscript (.Name x pn) b pos) (uN j fIx tb) := (by
  obtain ⟨teb, pb, vb⟩ := hb.ex
  refine ⟨_, pe_ix ix_seq (pe_var hN hv hd hcd) pb hs, twoN j (fun B c s G H Q R st q k => vb B c s G H Q R st q fun w x c' G' H' st' e d q => k w x c' G' H' st' e (.inl d) q) fun B c s G H x y a b Q R st dx dy h k => ?_⟩
  unfold fIx at h
  obtain ⟨i, rfl, h⟩ := asI_of h
  have dy := dp_int (dy.dp st.sub)
  cases a with
  | list ds =>
    obtain ⟨d, e, q⟩ := h
    obtain ⟨p, vs, rfl, h1, h2⟩ := dx.lst st.sub
    obtain ⟨v, e2, d2⟩ := atI_dp h2 e
    exact .inl ⟨p, vs, i, v, rfl, dy, h1, e2, k v d G H st (Same.refl _) d2 q⟩
  | tuple ds =>
    obtain ⟨d, e, q⟩ := h
    obtain ⟨p, vs, rfl, h1, h2⟩ := dp_tup (dx.oth fun _ z => nomatch z)
    obtain ⟨v, e2, d2⟩ := atI_dp h2 e
    exact .inr (.inl ⟨p, vs, i, v, rfl, dy, same_t st.sub h1, e2, k v d G H st (Same.refl _) d2 q⟩)
  | str z =>
    obtain ⟨n, hl, e, q⟩ := h
    exact .inr (.inr ⟨z, i, n, dp_str (dx.dp st.sub), dy, hl, e, k _ _ G H st (Same.refl _) (.str _) q⟩)
  | none => exact h.elim
  | bool _ => exact h.elim
  | int _ => exact h.elim
  | dict _ => exact h.elim
  )
/-! ### built-ins of one thing that is seen -/
def CallV (K : PySem.W.Frag) (r : List V → Hp → VK → Prop) (f : PyData → (PyData → Prop) → Prop) : Prop := ∀ (B : Base) (c : Ctx) (s : L2.St) (G H : Hp) (v : V) (x : PyData) (Q : PyData → Prop) (R : VK), Stt K B c s G H → Vw K G H v x → f x Q →
  (∀ v d G' H', Stt K B c s G' H' → Same G G' → Dp K G' v d → Q d → R v H') → r [v] H R
def CallVO (K : PySem.W.Frag) (r : List V → Hp → VK → Prop) (f : PyData → (Res → Prop) → Prop) : Prop := ∀ (B : Base) (c : Ctx) (s : L2.St) (G H : Hp) (v : V) (x : PyData) (Q : Res → Prop) (R : VK), Stt K B c s G H → Vw K G H v x → f x Q →
  (∀ v d G' H', Stt K B (.o none d :: c) (some v :: s) G' H' → Same G G' → Q d → R v H') → r [v] H R
def u1 (f : PyData → (PyData → Prop) → Prop) (t : TD) : TD := fun c Q => t c fun x c1 => f x fun z => Q z c1
def o1 (f : PyData → (Res → Prop) → Prop) (t : TD) : TR := fun c Q => t c fun x c1 => f x fun z => Q z c1
variable {id T : String} {rc : List V → Hp → VK → Prop} {f1 : PyData → (PyData → Prop) → Prop} {fo : PyData → (Res → Prop) → Prop} {x : Str} {p : Pos}
theorem d_oneB (hc : CallR X (.builtin id) rc) (hr : CallV X.K rc f1) (hm : X.mg x = none) (hv : bootBuiltins x = some (.builtin id)) (ha : DV X a ta) (hg : Gl X x := by rfl) (hn : x ≠ "__name__" := by decide) (hdb : (x == ("__debug__" : Str)) = false := by decide)
    (he : starEach [a] X.env = (false, eval a X.env) :: starEach [] X.env := by rfl) (hpl : (backTo pos (starEach [] X.env)).any (·.1) = false := by rfl) : DE X (.Call (.Name x p) [a] [] pos) (u1 f1 ta) := (by
  obtain ⟨tea, pa, va⟩ := ha.ex
  refine ⟨_, pe_callB hc hg hm hv (pa_cons pa pa_nil he) hn hdb he hpl, fun B c s G H Q R st q k => va B c s G H _ _ st q fun v x c1 G1 H1 st1 e1 d1 q1 => ?_⟩
  exact hr B c1 s G1 H1 v x _ R st1 d1 q1 fun v d G2 H2 st2 e2 d2 q2 => k v d c1 G2 H2 st2 (e1.trans e2) d2 q2
  )
theorem d_oneT (hc : CallR X (.type T) rc) (hr : CallV X.K rc f1) (hm : X.mg x = none) (hv : bootBuiltins x = some (.type T)) (ha : DV X a ta) (hg : Gl X x := by rfl) (hn : x ≠ "__name__" := by decide) (hdb : (x == ("__debug__" : Str)) = false := by decide)
    (he : starEach [a] X.env = (false, eval a X.env) :: starEach [] X.env := by rfl) (hpl : (backTo pos (starEach [] X.env)).any (·.1) = false := by rfl) : DE X (.Call (.Name x p) [a] [] pos) (u1 f1 ta) := (by
  obtain ⟨tea, pa, va⟩ := ha.ex
  refine ⟨_, pe_callTy hc hg hm hv (pa_cons pa pa_nil he) hn hdb he hpl, fun B c s G H Q R st q k => va B c s G H _ _ st q fun v x c1 G1 H1 st1 e1 d1 q1 => ?_⟩
  exact hr B c1 s G1 H1 v x _ R st1 d1 q1 fun v d G2 H2 st2 e2 d2 q2 => k v d c1 G2 H2 st2 (e1.trans e2) d2 q2
  )
theorem o_oneB (hc : CallR X (.builtin id) rc) (hr : CallVO X.K rc fo) (hm : X.mg x = none) (hv : bootBuiltins x = some (.builtin id)) (ha : DV X a ta) (hg : Gl X x := by rfl) (hn : x ≠ "__name__" := by decide) (hdb : (x == ("__debug__" : Str)) = false := by decide)
    (he : starEach [a] X.env = (false, eval a X.env) :: starEach [] X.env := by rfl) (hpl : (backTo pos (starEach [] X.env)).any (·.1) = false := by rfl) : DO X (.Call (.Name x p) [a] [] pos) (o1 fo ta) := (by
  obtain ⟨tea, pa, va⟩ := ha.ex
  refine ⟨_, pe_callB hc hg hm hv (pa_cons pa pa_nil he) hn hdb he hpl, fun B c s G H Q R st q k => va B c s G H _ _ st q fun v x c1 G1 H1 st1 e1 d1 q1 => ?_⟩
  exact hr B c1 s G1 H1 v x _ R st1 d1 q1 fun v d G2 H2 st2 e2 q2 => k v d c1 G2 H2 st2 (e1.trans e2) q2
  )
theorem o_oneT (hc : CallR X (.type T) rc) (hr : CallVO X.K rc fo) (hm : X.mg x = none) (hv : bootBuiltins x = some (.type T)) (ha : DV X a ta) (hg : Gl X x := by rfl) (hn : x ≠ "__name__" := by decide) (hdb : (x == ("__debug__" : Str)) = false := by decide)
    (he : starEach [a] X.env = (false, eval a X.env) :: starEach [] X.env := by rfl) (hpl : (backTo pos (starEach [] X.env)).any (·.1) = false := by rfl) : DO X (.Call (.Name x p) [a] [] pos) (o1 fo ta) := (by
  obtain ⟨tea, pa, va⟩ := ha.ex
  refine ⟨_, pe_callTy hc hg hm hv (pa_cons pa pa_nil he) hn hdb he hpl, fun B c s G H Q R st q k => va B c s G H _ _ st q fun v x c1 G1 H1 st1 e1 d1 q1 => ?_⟩
  exact hr B c1 s G1 H1 v x _ R st1 d1 q1 fun v d G2 H2 st2 e2 q2 => k v d c1 G2 H2 st2 (e1.trans e2) q2
  )
/-- len -/
theorem cv_len {K : PySem.W.Frag} : CallV K (fun xs H Q => (∃ p ys, xs = [V.ref p] ∧ (SqL K H p ys ∨ SqT K H p ys) ∧ Q (.int ys.length) H) ∨ ∃ z, xs = [V.str z] ∧ z.length ≤ sizeLine ∧ Q (.int z.length) H) fLen1 := (by
  intro B c s G H v x Q R st d1 h k
  cases x with
  | list ds =>
    obtain ⟨p, vs, rfl, h1, h2⟩ := d1.lst st.sub
    refine .inl ⟨p, vs, rfl, .inl h1, ?_⟩
    rw [dpa_len h2]
    exact k _ _ G H st (Same.refl _) (.int _) h
  | tuple ds =>
    obtain ⟨p, vs, rfl, h1, h2⟩ := dp_tup (d1.oth fun _ z => nomatch z)
    refine .inl ⟨p, vs, rfl, .inr (same_t st.sub h1), ?_⟩
    rw [dpa_len h2]
    exact k _ _ G H st (Same.refl _) (.int _) h
  | str z =>
    have := dp_str (d1.dp st.sub)
    subst this
    exact .inr ⟨z, rfl, h.1, k _ _ G H st (Same.refl _) (.int _) h.2⟩
  | none => exact h.elim
  | bool _ => exact h.elim
  | int _ => exact h.elim
  | dict _ => exact h.elim
  )
theorem d_lenV (hm : X.mg "len" = none) (ha : DV X a ta) (hg : Gl X "len" := by rfl) (he : starEach [a] X.env = (false, eval a X.env) :: starEach [] X.env := by rfl) (hpl : (backTo pos (starEach [] X.env)).any (·.1) = false := by rfl) : DE X (.Call (.Name "len" p) [a] [] pos) (u1 fLen1 ta) :=
  d_oneB (CallR.or call_len_seq call_len_str) cv_len hm boot_len ha hg (by decide) (by decide) he hpl
/-- list(x) -/
def fList : PyData → (Res → Prop) → Prop := fun x Q => match x with
  | .list ds => Q (.lst ds)
  | .tuple ds => Q (.lst ds)
  | _ => False
theorem fList_l {ds : List PyData} {Q : Res → Prop} : fList (.list ds) Q = Q (.lst ds) := id rfl
theorem fList_t {ds : List PyData} {Q : Res → Prop} : fList (.tuple ds) Q = Q (.lst ds) := id rfl
theorem o_listV (hm : X.mg "list" = none) (ha : DV X a ta) (hg : Gl X "list" := by rfl) (he : starEach [a] X.env = (false, eval a X.env) :: starEach [] X.env := by rfl) (hpl : (backTo pos (starEach [] X.env)).any (·.1) = false := by rfl) : DO X (.Call (.Name "list" p) [a] [] pos) (o1 fList ta) := (by
  refine o_oneT call_list_of (fun B c s G H v x Q R st d1 h k => ?_) hm bb_list ha hg (by decide) (by decide) he hpl
  cases x with
  | list ds =>
    obtain ⟨p, vs, rfl, h1, h2⟩ := d1.lst st.sub
    exact ⟨p, vs, rfl, .inl h1, fun l hn => k _ _ _ _ (st.laidL hn h2) (Same.refl _) h⟩
  | tuple ds =>
    obtain ⟨p, vs, rfl, h1, h2⟩ := dp_tup (d1.oth fun _ z => nomatch z)
    exact ⟨p, vs, rfl, .inr (same_t st.sub h1), fun l hn => k _ _ _ _ (st.laidL hn h2) (Same.refl _) h⟩
  | str _ => exact h.elim
  | none => exact h.elim
  | bool _ => exact h.elim
  | int _ => exact h.elim
  | dict _ => exact h.elim
  )
/-- tuple(x) -/
def fTup : PyData → (PyData → Prop) → Prop := fun x Q => match x with
  | .list ds => Q (.tuple ds)
  | .tuple ds => Q (.tuple ds)
  | _ => False
theorem fTup_l {ds : List PyData} {Q : PyData → Prop} : fTup (.list ds) Q = Q (.tuple ds) := id rfl
theorem fTup_t {ds : List PyData} {Q : PyData → Prop} : fTup (.tuple ds) Q = Q (.tuple ds) := id rfl
theorem d_tupV (hm : X.mg "tuple" = none) (ha : DV X a ta) (hg : Gl X "tuple" := by rfl) (he : starEach [a] X.env = (false, eval a X.env) :: starEach [] X.env := by rfl) (hpl : (backTo pos (starEach [] X.env)).any (·.1) = false := by rfl) : DE X (.Call (.Name "tuple" p) [a] [] pos) (u1 fTup ta) := (by
  refine d_oneT call_tuple_of (fun B c s G H v x Q R st d1 h k => ?_) hm bb_tuple ha hg (by decide) (by decide) he hpl
  cases x with
  | list ds =>
    obtain ⟨p, vs, rfl, h1, h2⟩ := d1.lst st.sub
    refine ⟨p, vs, rfl, .inl ⟨h1, fun l hn => ?_⟩⟩
    obtain ⟨st2, e2⟩ := st.laid (o := .tup vs) hn
    exact k _ _ _ _ st2 e2 (.tup (.inl (.inl upd_same)) (dpa_mono e2 _ _ h2)) h
  | tuple ds =>
    have d2 := d1.oth fun _ z => nomatch z
    obtain ⟨p, vs, rfl, h1, h2⟩ := dp_tup d2
    exact ⟨p, vs, rfl, .inr ⟨same_t st.sub h1, k _ _ G H st (Same.refl _) d2 h⟩⟩
  | str _ => exact h.elim
  | none => exact h.elim
  | bool _ => exact h.elim
  | int _ => exact h.elim
  | dict _ => exact h.elim
  )
end

/-! ### methods of the list in a slot -/
section
variable {X : Cx}
end
end Dl

/-! Methods, slices, borrowed arguments, comprehensions. -/
namespace Dl
open PySem PySem.Spec PyProof.Rows L2

/-! ### methods -/
def lstR : Res → Prop
  | .gen _ => False
  | .dic _ => False
  | .tr _ => False
  | .lls _ => False
  | _ => True
section
variable {ds : List PyData} {P : List PyData → Prop}
theorem lstR_l : lstR (.lst ds) = True := id rfl
theorem lstR_P : lstR (.lstP P) = True := id rfl
end
section
variable {K : PySem.W.Frag} {B : Base} {G H : Hp} {c : Ctx} {s : L2.St}
theorem Stt.isl (st : Stt K B c s G H) {j : Nat} {w : Option Lt} {R : Res} (e : c[j]? = some (.o w R)) (h : lstR R) : ∃ p xs, s[j]? = some (some (.ref p)) ∧ SqL K H p xs := (by
  cases R with
  | lst ds =>
    obtain ⟨p, vs, g1, g2, _⟩ := st.own e
    exact ⟨p, vs, g1, SqL.of g2⟩
  | lstP P =>
    obtain ⟨ds, hP, st2⟩ := st.open_ e
    obtain ⟨p, vs, g1, g2, _⟩ := st2.own (j := j) (wo := w) (ds := ds) (by rw [List.getElem?_set_self (List.getElem?_eq_some_iff.mp e).1])
    exact ⟨p, vs, g1, SqL.of g2⟩
  | lls _ => exact h.elim
  | gen _ => exact h.elim
  | dic _ => exact h.elim
  | tr _ => exact h.elim
  )
end
def zM1 (j : Nat) (f : List PyData → PyData → (List PyData → Prop) → Prop) (ta : TD) : TSd := fun E c => slO c j fun _ R0 => lstR R0 ∧ ta c fun x c1 => slO c1 j fun w R => asR R fun ds => f ds x fun ds' => E.nx (c1.set j (.o w (.lst ds')))
section
variable {X : Cx} {a b e : Expr} {ta tb : TD} {pos cpos apos p : Pos} {id : String} {name : Str} {r : V → List V → Hp → VK → Prop}
/-- append, extend, reverse, clear -/
def fApp : List PyData → PyData → (List PyData → Prop) → Prop := fun ds x Q => ds.length < sizeLine ∧ Q (ds ++ [x])
/-- append: what is put in is data (an owned list is frozen first) -/
theorem s_app (j : Nat) {x : Str} (ha : DE X a ta)
    (hN : X.N[j]? = some x := by rfl) (hv : Vis X.env.scope x := by first | exact Or.inl rfl | exact Or.inr (Or.inl rfl) | exact Or.inr (Or.inr rfl)) (hd : (x == ("__debug__" : Str)) = false := by decide)
    (hcd : (x == ("__classdict__" : Str)) = false := by decide) (hbase : attributeBase (.Name x p) "append" X.env (eval (.Name x p) X.env) = eval (.Name x p) X.env := by rfl)
    (hfew : ((backTo cpos (starEach [a] X.env)).all (fun x => !x.1) && (backToKw cpos (keywordEach [] X.env)).all (fun x => x.1.isSome)
      && decide ([a].length + ([] : List Keyword).length + (if ([] : List Keyword).isEmpty then 0 else 1) < 30)) = true := by rfl)
    (hline : (apos.endLine == cpos.line) = true := by rfl) (hs : starEach [a] X.env = (false, eval a X.env) :: starEach [] X.env := by rfl) (hplain : (backTo cpos (starEach [] X.env)).any (·.1) = false := by rfl)
    (hsw : swapsWith (.Call (.Attribute (.Name x p) "append" apos) [a] [] cpos) none pos.line X.env = pure false := by rfl) : DS X (.Expr (.Call (.Attribute (.Name x p) "append" apos) [a] [] cpos) pos) (zM1 j fApp ta) := (by
  obtain ⟨tea, pa, va⟩ := ha.ex
  refine ⟨_, ps_expr (pe_bm F.plainAttrs_list F.slot_list_append F.type_list_append mt_append (pe_var hN hv hd hcd) (pa_cons pa pa_nil hs) hbase hfew hline hs hplain) hsw, fun B c s G H D E st k q => ?_⟩
  obtain ⟨w, R0, e0, hl, q⟩ := slO_of q
  obtain ⟨p, xs, hp, hq⟩ := st.isl e0 hl
  refine ⟨_, hp, .inl ⟨rfl, xs, hq⟩, va B c s G H _ _ st q fun v x c1 G1 H1 st1 e1 d1 q1 => ?_⟩
  obtain ⟨w1, R1, g1, q2⟩ := slO_of q1
  obtain ⟨ds, rfl, q3, q4⟩ := asR_of q2
  obtain ⟨p', vs, g2, g3, g4, g5⟩ := st1.own g1
  rw [hp] at g2
  cases g2
  exact ⟨p, vs, v, rfl, rfl, g3, by rw [dpa_len g4]; exact q3, k.nx _ _ _ _ (g5 _ _ (dpa_app g4 (.cons d1 .nil))) e1 q4⟩
  )
/-- xs.insert(i, e) -/
def insD (ds : List PyData) (n : Nat) (x : PyData) : List PyData := ds.take n ++ [x] ++ ds.drop n
def zIns (j : Nat) (ta tb : TD) : TSd := fun E c => slO c j fun _ R0 => lstR R0 ∧ ta c fun y c0 => tb c0 fun x c1 => asI y fun i => slO c1 j fun w R => asR R fun ds => ds.length < sizeLine ∧ 0 ≤ i ∧ i < 2 ^ 63 ∧ E.nx (c1.set j (.o w (.lst (insD ds i.toNat x))))
theorem s_ins (j : Nat) {x : Str} (ha : DE X a ta) (hb : DE X b tb)
    (hN : X.N[j]? = some x := by rfl) (hv : Vis X.env.scope x := by first | exact Or.inl rfl | exact Or.inr (Or.inl rfl) | exact Or.inr (Or.inr rfl)) (hd : (x == ("__debug__" : Str)) = false := by decide)
    (hcd : (x == ("__classdict__" : Str)) = false := by decide) (hbase : attributeBase (.Name x p) "insert" X.env (eval (.Name x p) X.env) = eval (.Name x p) X.env := by rfl)
    (hfew : ((backTo cpos (starEach [a, b] X.env)).all (fun x => !x.1) && (backToKw cpos (keywordEach [] X.env)).all (fun x => x.1.isSome)
      && decide ([a, b].length + ([] : List Keyword).length + (if ([] : List Keyword).isEmpty then 0 else 1) < 30)) = true := by rfl)
    (hline : (apos.endLine == cpos.line) = true := by rfl) (hs : starEach [a, b] X.env = (false, eval a X.env) :: starEach [b] X.env := by rfl) (hs2 : starEach [b] X.env = (false, eval b X.env) :: starEach [] X.env := by rfl) (hplain : (backTo cpos (starEach [b] X.env)).any (·.1) = false := by rfl)
    (hsw : swapsWith (.Call (.Attribute (.Name x p) "insert" apos) [a, b] [] cpos) none pos.line X.env = pure false := by rfl) : DS X (.Expr (.Call (.Attribute (.Name x p) "insert" apos) [a, b] [] cpos) pos) (zIns j ta tb) := (by
  obtain ⟨tea, pa, va⟩ := ha.ex
  obtain ⟨teb, pb, vb⟩ := hb.ex
  refine ⟨_, ps_expr (pe_bm F.plainAttrs_list F.slot_list_insert F.type_list_insert mt_insert (pe_var hN hv hd hcd) (pa_cons pa (pa_cons pb pa_nil hs2) hs) hbase hfew hline hs hplain) hsw, fun B c s G H D E st k q => ?_⟩
  obtain ⟨w, R0, e0, hl, q⟩ := slO_of q
  obtain ⟨p, xs, hp, hq⟩ := st.isl e0 hl
  refine ⟨_, hp, .inl ⟨rfl, xs, hq⟩, va B c s G H _ _ st q fun v y c0 G0 H0 st0 e0' d0 q0 => vb B c0 s G0 H0 _ _ st0 q0 fun u x c1 G1 H1 st1 e1 d1 q1 => ?_⟩
  obtain ⟨i, rfl, q1⟩ := asI_of q1
  obtain ⟨w1, R1, g1, q2⟩ := slO_of q1
  obtain ⟨ds, rfl, q3, q4, q5, q6⟩ := asR_of q2
  obtain ⟨p', vs, g2, g3, g4, g5⟩ := st1.own g1
  rw [hp] at g2
  cases g2
  have hv := dp_int d0
  subst hv
  exact ⟨p, vs, i, u, rfl, rfl, g3, by rw [dpa_len g4]; exact q3, q4, q5, k.nx _ _ _ _ (g5 _ _ (dpa_app (dpa_app (dpa_take _ g4) (.cons d1 .nil)) (dpa_drop _ g4))) (e0'.trans e1) q6⟩
  )
/-! ### an owned thing made here, frozen where it is read -/
def slF : Ctx → Nat → (PyData → Prop) → Prop
  | .d x :: _, 0, Q => Q x
  | .o none R :: _, 0, Q => R.fz Q
  | _ :: c, i + 1, Q => slF c i Q
  | _, _, _ => False
theorem slF_d {x : PyData} {c : Ctx} {Q : PyData → Prop} : slF (.d x :: c) 0 Q = Q x := id rfl
theorem slF_o {R : Res} {c : Ctx} {Q : PyData → Prop} : slF (.o none R :: c) 0 Q = R.fz Q := id rfl
theorem slF_s {y : S} {c : Ctx} {i : Nat} {Q : PyData → Prop} : slF (y :: c) (i + 1) Q = slF c i Q := (by
  cases y with
  | o w R => cases w <;> rfl
  | _ => rfl
  )
theorem slF_of : ∀ {c : Ctx} {i : Nat} {Q : PyData → Prop}, slF c i Q → (∃ x, c[i]? = some (.d x) ∧ Q x) ∨ ∃ R, c[i]? = some (.o none R) ∧ R.fz Q
  | [], 0, _, h => h.elim
  | [], _ + 1, _, h => h.elim
  | .d x :: c, 0, _, h => .inl ⟨x, rfl, h⟩
  | .no :: c, 0, _, h => h.elim
  | .f _ :: c, 0, _, h => h.elim
  | .o none R :: c, 0, _, h => .inr ⟨R, rfl, h⟩
  | .o (some _) R :: c, 0, _, h => h.elim
  | y :: c, i + 1, _, h => by
    rw [slF_s] at h
    simpa using slF_of h
def uVf (j : Nat) : TD := fun c Q => slF c j fun x => Q x (c.set j (.d x))
theorem set_same {α : Type} : ∀ {l : List α} {i : Nat} {x : α}, l[i]? = some x → l.set i x = l
  | [], _, _, h => by simp at h
  | y :: l, 0, x, h => by simp at h; simp [h]
  | y :: l, i + 1, x, h => by simpa using set_same (l := l) (i := i) (by simpa using h)
theorem dvf (j : Nat) {x : Str} (hN : X.N[j]? = some x := by rfl) (hv : Vis X.env.scope x := by first | exact Or.inl rfl | exact Or.inr (Or.inl rfl) | exact Or.inr (Or.inr rfl)) (hd : (x == ("__debug__" : Str)) = false := by decide)
    (hcd : (x == ("__classdict__" : Str)) = false := by decide) : DE X (.Name x pos) (uVf j) := (by
  refine ⟨_, pe_var hN hv hd hcd, fun B c s G H Q R st h k => ?_⟩
  rcases slF_of h with ⟨y, e, q⟩ | ⟨R0, e, q⟩
  · obtain ⟨v, e1, d⟩ := st.get_d e
    rw [set_same e] at q
    exact ⟨v, e1, k v y c G H st (Same.refl _) d q⟩
  · obtain ⟨v, e1, st2⟩ := st.take_o e
    obtain ⟨G', d, st3, e3, dd, q3⟩ := st2.frzR q
    have st4 := st3.set_d j dd
    rw [set_same e1, List.set_set] at st4
    exact ⟨v, e1, k v d _ G' H st4 e3 dd q3⟩
  )
/-! ### slices -/
abbrev TP := Ctx → (Option Int → Ctx → Prop) → Prop
def DPv (K : PySem.W.Frag) (to : TO) (t : TP) : Prop := ∀ (B : Base) (c : Ctx) (s : L2.St) (G H : Hp) (Q : Option Int → Ctx → Prop) (R : Option Int → Hp → Prop), Stt K B c s G H → t c Q →
  (∀ o c' G' H', Stt K B c' s G' H' → Same G G' → Q o c' → R o H') → to s H R
structure DP (X : Cx) (o : Option Expr) (t : TP) : Prop where
  ex : ∃ to, PO X o to ∧ DPv X.K to t
def pNo : TP := fun c Q => Q none c
def pSo (t : TD) : TP := fun c Q => t c fun x c1 => asI x fun i => Q (some i) c1
theorem p_no : DP X none pNo := ⟨_, po_none, fun B c s G H Q R st q k => k _ c G H st (Same.refl _) q⟩
theorem p_so (ha : DE X a ta) : DP X (some a) (pSo ta) := (by
  obtain ⟨tea, pa, va⟩ := ha.ex
  refine ⟨_, po_some pa, fun B c s G H Q R st q k => va B c s G H _ _ st q fun v x c1 G1 H1 st1 e1 d1 q1 => ?_⟩
  obtain ⟨i, rfl, q1⟩ := asI_of q1
  exact ⟨i, dp_int d1, k _ c1 G1 H1 st1 e1 q1⟩
  )
def cutL {α : Type} (xs : List α) (lo hi : Option Int) : List α := (xs.drop (HT.sIx xs.length 0 lo)).take (HT.sIx xs.length xs.length hi - HT.sIx xs.length 0 lo)
theorem dpa_cut {K : PySem.W.Frag} {G : Hp} {vs : List V} {ds : List PyData} (h : DpAll K G vs ds) (lo hi : Option Int) : DpAll K G (cutV vs lo hi) (cutL ds lo hi) := (by
  unfold cutV cutL
  rw [dpa_len h]
  exact dpa_take _ (dpa_drop _ h)
  )
/-- of texts and tuples -/
def fSl (x : PyData) (lo hi : Option Int) (Q : PyData → Prop) : Prop := match x with
  | .str z => z.length ≤ sizeLine ∧ Q (.str (cutS z lo hi))
  | .tuple ds => Q (.tuple (cutL ds lo hi))
  | _ => False
theorem fSl_s {z : Str} {lo hi : Option Int} {Q : PyData → Prop} : fSl (.str z) lo hi Q = (z.length ≤ sizeLine ∧ Q (.str (cutS z lo hi))) := id rfl
theorem fSl_t {ds : List PyData} {lo hi : Option Int} {Q : PyData → Prop} : fSl (.tuple ds) lo hi Q = Q (.tuple (cutL ds lo hi)) := id rfl
variable {lo hi : Option Expr} {tl th : TP} {p2 : Pos}
def uSl (ta : TD) (tl th : TP) : TD := fun c Q => ta c fun x c0 => tl c0 fun l c1 => th c1 fun u c2 => fSl x l u fun z => Q z c2
theorem d_sl (ha : DE X a ta) (hl : DP X lo tl) (hu : DP X hi th) : DE X (.Subscript a (.Slice lo hi none p2) pos) (uSl ta tl th) := (by
  obtain ⟨tea, pa, va⟩ := ha.ex
  obtain ⟨tel, pl, vl⟩ := hl.ex
  obtain ⟨teu, pu, vu⟩ := hu.ex
  refine ⟨_, pe_slice (SlR.or sl_str sl_tupA) pa pl pu, fun B c s G H Q R st q k => va B c s G H _ _ st q fun v x c0 G0 H0 st0 e0 d0 q0 => vl B c0 s G0 H0 _ _ st0 q0 fun l c1 G1 H1 st1 e1 q1 => vu B c1 s G1 H1 _ _ st1 q1 fun u c2 G2 H2 st2 e2 q2 => ?_⟩
  have d2 := dp_mono (e1.trans e2) _ _ d0
  have e02 := (e0.trans e1).trans e2
  cases x with
  | str z =>
    have := dp_str d2
    subst this
    exact .inl ⟨z, rfl, q2.1, k _ _ c2 G2 H2 st2 e02 (.str _) q2.2⟩
  | tuple ds =>
    obtain ⟨p, vs, rfl, h1, h2⟩ := dp_tup d2
    refine .inr ⟨p, vs, rfl, same_t st2.sub h1, fun ⟨w1, w2⟩ => ?_, fun _ l' hn => ?_⟩
    · have e : cutL ds l u = ds := by
        unfold cutL
        rw [← dpa_len h2, w1, w2, List.drop_zero, Nat.sub_zero, dpa_len h2, List.take_length]
      have q3 : Q (.tuple (cutL ds l u)) c2 := q2
      rw [e] at q3
      exact k _ _ c2 G2 H2 st2 e02 d2 q3
    · obtain ⟨st3, e3⟩ := st2.laid (o := .tup (cutV vs l u)) hn
      exact k _ _ c2 _ _ st3 (e02.trans e3) (.tup (.inl (.inl upd_same)) (dpa_mono e3 _ _ (dpa_cut h2 l u))) q2
  | list _ => exact q2.elim
  | none => exact q2.elim
  | bool _ => exact q2.elim
  | int _ => exact q2.elim
  | dict _ => exact q2.elim
  )
def oSlN (j : Nat) (tl th : TP) : TR := fun c Q => hasS c j ∧ tl c fun l c1 => th c1 fun u c2 => slW c2 j fun x => asL x fun ds => Q (.lst (cutL ds l u)) c2
theorem o_slN (j : Nat) {x : Str} {pn : Pos} (hl : DP X lo tl) (hu : DP X hi th) (hN : X.N[j]? = some x := by rfl) (hv : Vis X.env.scope x := by first | exact Or.inl rfl | exact Or.inr (Or.inl rfl) | exact Or.inr (Or.inr rfl)) (hd : (x == ("__debug__" : Str)) = false := by decide)
    (hcd : (x == ("__classdict__" : Str)) = false := by decide) : DO X (.Subscript (.Name x pn) (.Slice lo hi none p2) pos) (oSlN j tl th) := (by
  obtain ⟨tel, pl, vl⟩ := hl.ex
  obtain ⟨teu, pu, vu⟩ := hu.ex
  refine ⟨_, pe_slice sl_list (pe_var hN hv hd hcd) pl pu, fun B c s G H Q R st q k => ?_⟩
  obtain ⟨h, q⟩ := q
  obtain ⟨v, e⟩ := st.val h
  refine ⟨v, e, vl B c s G H _ _ st q fun l c1 G1 H1 st1 e1 q1 => vu B c1 s G1 H1 _ _ st1 q1 fun u c2 G2 H2 st2 e2 q2 => ?_⟩
  obtain ⟨v', x, e', d', q3⟩ := st2.look q2
  rw [e] at e'
  cases e'
  obtain ⟨ds, rfl, q3⟩ := asL_of q3
  obtain ⟨p, vs, rfl, h1, h2⟩ := d'.lst st2.sub
  exact ⟨p, vs, rfl, h1, fun l' hn => k _ _ c2 _ _ (st2.laidL hn (dpa_cut h2 l u)) (e1.trans e2) q3⟩
  )
/-! ### a call to which things are lent to be looked at; its answer a plain one -/
def scal : PyData → Bool
  | .none => true
  | .bool _ => true
  | .int _ => true
  | .str _ => true
  | _ => false
theorem scal_n : scal .none = true := id rfl
theorem scal_b {b : Bool} : scal (.bool b) = true := id rfl
theorem scal_i {i : Int} : scal (.int i) = true := id rfl
theorem scal_s {i : Str} : scal (.str i) = true := id rfl
def kS (Q : PyData → Prop) : S → Ctx → Prop := fun r _ => match r with
  | .d x => scal x = true ∧ Q x
  | _ => False
theorem kS_d {Q : PyData → Prop} {x : PyData} {c : Ctx} : kS Q (.d x) c = (scal x = true ∧ Q x) := id rfl
theorem ret_S {Q : PyData → Prop} {x : PyData} : ret (kS Q) (.d x) = (scal x = true ∧ Q x) := propext ⟨fun h => h [], fun h _ => h⟩
section
variable {c : Ctx} {as : List Arg} {x : PyData} {j : Nat} {Q : List PyData → Prop}
end
variable {es : List Expr} {t tr : TAr} {x : Str} {k : Nat} {ps : List Str} {T : TF}
end
end Dl

/-! List comprehensions over data. -/
namespace Dl
open PySem PySem.Spec PyProof.Rows L2

/-! ### a reading's one form -/
def rdE (K : PySem.W.Frag) (t : TD) : TE := fun σ H Q => ∃ (B : Base) (c : Ctx) (G : Hp) (Q' : PyData → Ctx → Prop), Stt K B c σ G H ∧ t c Q' ∧ ∀ v x c' G' H', Stt K B c' σ G' H' → Same G G' → Dp K G' v x → Q' x c' → Q v H'
def rdT (K : PySem.W.Frag) (t : TB) : TT := fun σ H Q => ∃ (B : Base) (c : Ctx) (G : Hp) (Q' : Bool → Ctx → Prop), Stt K B c σ G H ∧ t c Q' ∧ ∀ b c' G' H', Stt K B c' σ G' H' → Same G G' → Q' b c' → Q b H'
def rdG (K : PySem.W.Frag) (js : List Nat) (t : TGd) : TG := fun v σ H Q => ∃ (B : Base) (c : Ctx) (G : Hp) (x : PyData) (Q' : Ctx → Prop), Stt K B c σ G H ∧ Dp K G v x ∧ t x c Q' ∧ ∀ c' s', Stt K B c' s' G H → But js σ s' → Q' c' → Q s' H
section
variable {X : Cx} {e : Expr} {ifs : List Expr} {t : TD} {tb : TB} {js : List Nat} {tg : TGd}
theorem DE.pe (h : DE X e t) : PE X e (rdE X.K t) := (by
  obtain ⟨te, p, v⟩ := h.ex
  exact ⟨fun pins s σ H Q I ⟨B, c, G, Q', st, q, k⟩ => p.run pins s σ H Q I (v B c σ G H Q' Q st q k)⟩
  )
theorem DG.pg (h : DG X e js tg) : PG X e (rdG X.K js tg) := (by
  obtain ⟨te, p, v⟩ := h.ex
  exact ⟨fun pins s σ H x u Q I r ⟨B, c, G, y, Q', st, d, q, k⟩ => p.run pins s σ H x u Q I r (v B c σ G H x y Q' Q st d q k)⟩
  )
/-- a clause's tests -/
structure DTs (X : Cx) (ifs : List Expr) (t : TB) : Prop where
  pt : PTs X ifs (rdT X.K t)
def bYes : TB := fun c Q => Q true c
theorem b_yes : DTs X [] bYes := ⟨⟨fun pins s σ H Q I ⟨B, c, G, Q', st, q, k⟩ => pts_nil.run pins s σ H Q I (k true c G H st (Same.refl _) q)⟩⟩
theorem b_one (h : DT X e tb) : DTs X [e] tb := (by
  obtain ⟨te, p, v⟩ := h.ex
  exact ⟨⟨fun pins s σ H Q I ⟨B, c, G, Q', st, q, k⟩ => (pts_one p).run pins s σ H Q I (v B c σ G H Q' Q st q k)⟩⟩
  )
end

/-! ### the owned list on top set aside -/
section
variable {K : PySem.W.Frag} {B : Base} {G G' H H' : Hp} {c : Ctx} {s : L2.St} {acc : List PyData} {v : V}
theorem reps_base {B B' : Base} {G H : Hp} {c : Ctx} {s : L2.St} {A : List Addr} (h : Reps K B G H c s A) (hw : ∀ w v Aj, (∀ a ∈ Aj, a ∈ A) → WOk B w v Aj → WOk B' w v Aj) : Reps K B' G H c s A := (by
  induction h with
  | nil => exact .nil
  | no _ ih => exact .no (ih hw)
  | d hd _ ih => exact .d hd (ih hw)
  | f hd _ ih => exact .f hd (ih hw)
  | o ho hw1 _ ih => exact .o ho (hw _ _ _ (fun a ha => List.mem_append_left _ ha) hw1) (ih fun w v Aj hA => hw w v Aj fun a ha => List.mem_append_right _ (hA a ha))
  )
theorem Stt.under (st : Stt K B (.o none (.lst acc) :: c) (some v :: s) G H) : ∃ (D : Addr) (vs : List V) (B' : Base), v = .ref D ∧ H D = some (.lst vs) ∧ DpAll K G vs acc ∧ Stt K B' c s G H ∧
    ∀ c2 s2 G2 H2, Stt K B' c2 s2 G2 H2 → Same G G2 ∧ H2 D = some (.lst vs) ∧ Stt K B (.o none (.lst acc) :: c2) (some v :: s2) G2 H2 ∧ ∀ vs2 acc2, DpAll K G2 vs2 acc2 → Stt K B (.o none (.lst acc2) :: c2) (some v :: s2) G2 (upd H2 D (.lst vs2)) := (by
  classical
  obtain ⟨A0, r0, w⟩ := st.ex
  cases r0 with
  | @o _ _ _ _ _ AD A hD hWD r =>
    obtain ⟨D, vs, rfl, rfl, hp, hd⟩ := hD
    obtain ⟨n1, n2, n3⟩ := List.nodup_append.mp w.nd
    have DA : D ∉ A := fun z => n3 D (by simp) D z rfl
    have hWD : B.H0 D = none := hWD D (by simp)
    let B' : Base := ⟨fun a => if a ∈ A then B.H0 a else H a, G, B.io.filter fun a => decide (a ∈ A)⟩
    have bA : ∀ a ∈ A, B'.H0 a = B.H0 a := fun a ha => if_pos ha
    have bN : ∀ a, a ∉ A → B'.H0 a = H a := fun a ha => if_neg ha
    have bio : ∀ a, a ∈ B'.io ↔ a ∈ B.io ∧ a ∈ A := fun a => by simp [B']
    have nb : ∀ a, B'.H0 a = none → B.H0 a = none := fun a q => by
      by_cases ha : a ∈ A
      · rw [← bA a ha]; exact q
      · rw [bN a ha] at q; exact w.dom a q
    refine ⟨D, vs, B', rfl, hp, hd, ⟨A, reps_base r fun u x Aj hA hw => ?_, w.sub, n2, fun a ha => w.out a (List.mem_append_right _ ha), Same.refl _, fun a o q hn => ?_, fun a q => ?_, fun a _ q => .inl rfl, fun a ha => ?_⟩, ?_⟩
    · cases u with
      | none => exact fun a ha => (bA a (hA a ha)).trans (hw a ha)
      | some u => exact ⟨hw.1, fun a ha => (hw.2 a ha).imp id fun z => (bA a (hA a ha)).trans z⟩
    · by_cases ha : a ∈ A
      · rw [bA a ha] at q
        exact w.stay a o q fun z => hn ((bio a).mpr ⟨z, ha⟩)
      · rw [bN a ha] at q; exact q
    · by_cases ha : a ∈ A
      · rw [bA a ha]; exact w.dom a q
      · rw [bN a ha]; exact q
    · rcases w.lim a (List.mem_append_right _ ha) with z | z
      · exact .inl ((bio a).mpr ⟨z, ha⟩)
      · exact .inr ((bA a ha).trans z)
    intro c2 s2 G2 H2 st2
    obtain ⟨A2, r2, w2⟩ := st2.ex
    have hD2 : H2 D = some (.lst vs) := w2.stay D _ ((bN D DA).trans hp) fun z => DA ((bio D).mp z).2
    have DA2 : D ∉ A2 := fun z => by
      rcases w2.lim D z with y | y
      · exact DA ((bio D).mp y).2
      · rw [bN D DA, hp] at y; cases y
    have gD : G2 D = none := by
      rcases w2.newG D (fun y => DA ((bio D).mp y).2) (by rw [bN D DA, hp]; exact fun z => nomatch z) with e | ⟨o, e, t⟩
      · rw [e]; exact w.out D (by simp)
      · rw [bN D DA, hp] at e
        cases e
        cases t
    have e2 : Same G G2 := w2.old
    have key : ∀ (H3 : Hp) (vs2 : List V) (acc2 : List PyData), H3 D = some (.lst vs2) → (∀ a, a ≠ D → H3 a = H2 a) → DpAll K G2 vs2 acc2 → Stt K B (.o none (.lst acc2) :: c2) (some (.ref D) :: s2) G2 H3 := by
      intro H3 vs2 acc2 h3 h4 d2
      have nD : ∀ a ∈ A2, a ≠ D := fun a ha z => DA2 (z ▸ ha)
      refine ⟨[D] ++ A2, .o (R := .lst acc2) ⟨D, vs2, rfl, rfl, h3, d2⟩ (fun a ha => ?_) ((reps_base r2 fun u x Aj hA hw => ?_).mono (Same.refl _) fun a ha => h4 a (nD a ha)), fun a o q => ?_, List.nodup_append.mpr ⟨by simp, w2.nd, fun a ha b hb z => ?_⟩, fun a ha => ?_, w.old.trans e2, fun a o q hn => ?_, fun a q => ?_, fun a i q => ?_, fun a ha => ?_⟩
      · obtain rfl : a = D := by simpa using ha
        exact hWD
      · cases u with
        | none => exact fun a ha => nb a (hw a ha)
        | some u => exact ⟨hw.1, fun a ha => (hw.2 a ha).imp id fun z => nb a z⟩
      · by_cases ha : a = D
        · subst ha; rw [gD] at q; cases q
        · rw [h4 a ha]; exact w2.sub a o q
      · obtain rfl : a = D := by simpa using ha
        exact DA2 (z ▸ hb)
      · rcases List.mem_append.mp ha with z | z
        · obtain rfl : a = D := by simpa using z
          exact gD
        · exact w2.out a z
      · have ha : a ≠ D := fun z => by rw [z, hWD] at q; cases q
        rw [h4 a ha]
        by_cases hA : a ∈ A
        · exact w2.stay a o ((bA a hA).trans q) fun z => hn ((bio a).mp z).1
        · exact w2.stay a o ((bN a hA).trans (w.stay a o q hn)) fun z => hA ((bio a).mp z).2
      · by_cases ha : a = D
        · subst ha; exact hWD
        · rw [h4 a ha] at q; exact nb a (w2.dom a q)
      · have hA : a ∉ A := fun z => (w.lim a (List.mem_append_right _ z)).elim i q
        rcases w2.newG a (fun y => hA ((bio a).mp y).2) (fun z => q (nb a z)) with e | ⟨o, e, t⟩
        · rw [e]; exact w.newG a i q
        · rw [bN a hA] at e
          cases z : B.H0 a with
          | none => exact absurd z q
          | some o' =>
            have := w.stay a o' z i
            rw [e] at this
            cases this
            exact .inr ⟨o, z, t⟩
      · rcases List.mem_append.mp ha with z | z
        · obtain rfl : a = D := by simpa using z
          exact .inr hWD
        · rcases w2.lim a z with y | y
          · exact .inl ((bio a).mp y).1
          · exact .inr (nb a y)
    exact ⟨e2, hD2, key H2 vs acc hD2 (fun _ _ => rfl) (dpa_mono e2 _ _ hd), fun vs2 acc2 d2 => key _ vs2 acc2 upd_same (fun a ha => upd_ne ha) d2⟩
  )
/-! ### the block's own names -/
/-- slots forgotten -/
def clr : List Nat → Ctx → Ctx
  | [], c => c
  | j :: js, c => (clr js c).set j .no
/-- .. and back again -/
def keep1 : Ctx → Nat → S
  | .d x :: _, 0 => .d x
  | _ :: c, i + 1 => keep1 c i
  | _, _ => .no
def clr2 : List Nat → Ctx → Ctx
  | [], c => c
  | j :: js, c => clr2 js (c.set j .no)
def rest (c0 : Ctx) : List Nat → Ctx → Ctx
  | [], c => c
  | j :: js, c => rest c0 js (c.set j (keep1 c0 j))
theorem clr_n {c : Ctx} : clr [] c = c := id rfl
theorem clr_c {j : Nat} {js : List Nat} {c : Ctx} : clr (j :: js) c = (clr js c).set j .no := id rfl
theorem clr2_n {c : Ctx} : clr2 [] c = c := id rfl
theorem clr2_c {j : Nat} {js : List Nat} {c : Ctx} : clr2 (j :: js) c = clr2 js (c.set j .no) := id rfl
theorem rest_n {c0 c : Ctx} : rest c0 [] c = c := id rfl
theorem rest_c {j : Nat} {js : List Nat} {c0 c : Ctx} : rest c0 (j :: js) c = rest c0 js (c.set j (keep1 c0 j)) := id rfl
theorem keep1_d {x : PyData} {c : Ctx} : keep1 (.d x :: c) 0 = .d x := id rfl
theorem keep1_o {w : Option Lt} {R : Res} {c : Ctx} : keep1 (.o w R :: c) 0 = .no := id rfl
theorem keep1_f {F : FrG} {c : Ctx} : keep1 (.f F :: c) 0 = .no := id rfl
theorem keep1_no {c : Ctx} : keep1 (.no :: c) 0 = .no := id rfl
theorem keep1_s {y : S} {c : Ctx} {i : Nat} : keep1 (y :: c) (i + 1) = keep1 c i := by cases y <;> rfl
theorem keep1_of : ∀ {c : Ctx} {j : Nat}, keep1 c j = .no ∨ ∃ x, keep1 c j = .d x ∧ c[j]? = some (.d x)
  | [], 0 => .inl rfl
  | [], _ + 1 => .inl rfl
  | .no :: _, 0 => .inl rfl
  | .f _ :: _, 0 => .inl rfl
  | .o _ _ :: _, 0 => .inl rfl
  | .d x :: _, 0 => .inr ⟨x, rfl, rfl⟩
  | y :: c, i + 1 => by
    rw [keep1_s]
    simpa using keep1_of (c := c) (j := i)
theorem Stt.wipe (st : Stt K B c s G H) : ∀ vs : List Nat, Stt K B (clr vs c) (L2.wipe s vs) G H
  | [] => st
  | v :: vs => (Stt.wipe st vs).set_no v none
theorem Stt.unwipe : ∀ {vs : List Nat} {x : S} {u : Option V} {c : Ctx} {s : L2.St}, Stt K B (x :: c) (u :: L2.wipe s vs) G H → Stt K B (x :: clr2 vs c) (u :: s) G H
  | [], x, u, c, s, st => st
  | v :: vs, x, u, c, s, st => by
    have st' : Stt K B (x :: c) (u :: (L2.wipe s vs).set v none) G H := st
    have h := Stt.set_no st' (v + 1) (if h : v < (L2.wipe s vs).length then (L2.wipe s vs)[v] else none)
    rw [List.set_cons_succ, List.set_cons_succ, List.set_set] at h
    refine Stt.unwipe (vs := vs) ?_
    by_cases hv : v < (L2.wipe s vs).length
    · rw [dif_pos hv, List.set_getElem_self] at h
      exact h
    · rw [List.set_eq_of_length_le (Nat.le_of_not_lt hv)] at h
      exact h
theorem Stt.rest {c0 : Ctx} {G0 H0 : Hp} (st0 : Stt K B c0 s G0 H0) (e : Same G0 G) : ∀ {vs : List Nat} {x : S} {u : Option V} {c : Ctx}, Stt K B (x :: c) (u :: s) G H → Stt K B (x :: Dl.rest c0 vs c) (u :: s) G H
  | [], x, u, c, st => st
  | v :: vs, x, u, c, st => by
    rw [rest_c]
    refine Stt.rest st0 e (vs := vs) ?_
    rcases keep1_of (c := c0) (j := v) with h | ⟨y, h, hy⟩
    · rw [h]
      by_cases hv : v < s.length
      · have := Stt.set_no st (v + 1) s[v]
        rw [List.set_cons_succ, List.set_cons_succ, List.set_getElem_self] at this
        exact this
      · have := Stt.set_no st (v + 1) none
        rw [List.set_cons_succ, List.set_cons_succ, List.set_eq_of_length_le (Nat.le_of_not_lt hv)] at this
        exact this
    · rw [h]
      obtain ⟨w, e1, d⟩ := st0.get_d hy
      have := Stt.set_d st (v + 1) (dp_mono e _ _ d)
      rw [List.set_cons_succ, List.set_cons_succ, set_same e1] at this
      exact this
theorem wipe_get {σ : L2.St} {i : Nat} : ∀ {vs : List Nat}, i ∈ vs → (L2.wipe σ vs)[i]? = if i < σ.length then some none else none
  | [], h => by simp at h
  | v :: vs, h => by
    show ((L2.wipe σ vs).set v none)[i]? = _
    by_cases hv : v = i
    · subst hv
      by_cases hl : v < σ.length
      · rw [List.getElem?_set_self (by rw [wipe_length]; exact hl), if_pos hl]
      · rw [if_neg hl, List.getElem?_eq_none (by rw [List.length_set, wipe_length]; omega)]
    · rw [List.getElem?_set_ne hv]
      exact wipe_get ((List.mem_cons.mp h).resolve_left fun z => hv z.symm)
theorem wipe_but {σ σ2 : L2.St} {js vs : List Nat} (b : But js σ σ2) (h : ∀ j ∈ js, j ∈ vs) : L2.wipe σ2 vs = L2.wipe σ vs := (by
  refine List.ext_getElem? fun i => ?_
  by_cases hi : i ∈ vs
  · rw [wipe_get hi, wipe_get hi, b.1]
  · rw [wipe_out hi, wipe_out hi]
    exact b.2 i fun z => hi (h i z)
  )
theorem But.wipe {σ σ0 : L2.St} {js vs : List Nat} (b : But js (L2.wipe σ0 vs) σ) (h : ∀ j ∈ js, j ∈ vs) : L2.wipe σ vs = L2.wipe σ0 vs := (by
  rw [wipe_but b h]
  refine List.ext_getElem? fun i => ?_
  by_cases hi : i ∈ vs
  · rw [wipe_get hi, wipe_get hi, wipe_length]
  · rw [wipe_out hi]
  )
end

/-! ### [elt for tg in iter if ..] -/
/-- the items so far; the names -/
def zComp (vs : List Nat) (tg : TGd) (tt : TB) (te : TD) (ys : List PyData) (c1 : Ctx) (Q : List PyData → Ctx → Prop) : Prop := ∃ I : Nat → List PyData → Ctx → Prop, I 0 [] (clr vs c1) ∧
  (∀ i y acc c, ys[i]? = some y → I i acc c → tg y c fun c2 => tt c2 fun b c3 => if b = true then te c3 fun x c4 => acc.length < sizeLine ∧ I (i + 1) (acc ++ [x]) (clr vs c4) else I (i + 1) acc (clr vs c3)) ∧
  ∀ acc c, I ys.length acc c → Q acc (Dl.rest c1 vs (clr2 vs c))
def oLc (ti : TL) (vs : List Nat) (tg : TGd) (tt : TB) (te : TD) : TR := fun c Q => ti c fun ys c1 => zComp vs tg tt te ys c1 fun acc c2 => Q (.lst acc) c2
section
variable {X : Cx}
theorem lc_v {K : PySem.W.Frag} {wi : TI} {ti : TL} {tg : TGd} {tt : TB} {te : TD} {js vs : List Nat} (hi : DIv K wi ti) (hj : ∀ j ∈ js, j ∈ vs) : DOv K (tLc wi (rdG K js tg) (rdT K tt) (rdE K te) vs) (oLc ti vs tg tt te) := (by
  intro B c s G H Q R st q k
  refine hi B c s G H _ _ st q fun J ys c1 G1 H1 st1 e1 ok q1 => ?_
  obtain ⟨I, i0, turn, fin⟩ := q1
  intro D hD
  refine ⟨fun i m H => m = ys.length - i ∧ i ≤ ys.length ∧ ∃ acc c' G', Stt K B (.o none (.lst acc) :: c') (some (.ref D) :: L2.wipe s vs) G' H ∧ Same G1 G' ∧ I i acc c', ⟨ys.length, by simp, Nat.zero_le _, [], _, G1, (st1.wipe vs).laidL hD .nil, Same.refl _, i0⟩, ?_⟩
  rintro i m H2 ⟨rfl, hi, acc, c', G', st', e', hI⟩
  by_cases hlt : i < ys.length
  · refine .inr ⟨((ok B _ _ G' H2 st' e' i).2 hlt).1, fun H3 => ∃ acc c' G', Stt K B (.o none (.lst acc) :: c') (some (.ref D) :: L2.wipe s vs) G' H3 ∧ Same G1 G' ∧ I (i + 1) acc c', fun H3 ⟨a3, c3, G3, st3, e3, i3⟩ => ⟨ys.length - (i + 1), by omega, rfl, hlt, a3, c3, G3, st3, e3, i3⟩, fun x H3 hy => ?_⟩
    obtain ⟨G2, y, hy1, st2, e2, dy⟩ := ((ok B _ _ G' H2 st' e' i).2 hlt).2 x H3 hy
    obtain ⟨D', us, B', hv, hDl, hacc, stU, back⟩ := st2.under
    cases hv
    have e12 : Same G1 G2 := e'.trans e2
    refine ⟨B', c', G2, y, _, stU, dy, turn i y acc c' hy1 hI, fun c3 s3 st3 but q3 => ⟨But.wipe but hj, ?_⟩⟩
    have hw : L2.wipe s3 vs = L2.wipe s vs := But.wipe but hj
    refine ⟨B', c3, G2, _, st3, q3, fun b c4 G4 H4 st4 e4 q4 => ?_⟩
    cases b with
    | false =>
      rw [if_neg Bool.false_ne_true] at q4 ⊢
      obtain ⟨e5, _, st5, _⟩ := back _ _ _ _ (st4.wipe vs)
      rw [hw] at st5
      exact ⟨acc, _, G4, st5, e12.trans e5, q4⟩
    | true =>
      rw [if_pos rfl] at q4 ⊢
      refine ⟨B', c4, G4, _, st4, q4, fun z d c5 G5 H5 st5 e5 dz q5 => ?_⟩
      obtain ⟨e6, hD6, _, up6⟩ := back _ _ _ _ (st5.wipe vs)
      have hl := dpa_len hacc
      have st7 := up6 (us ++ [z]) (acc ++ [d]) (dpa_app (dpa_mono e6 _ _ hacc) (.cons dz .nil))
      rw [hw] at st7
      exact ⟨us, hD6, by rw [hl]; exact q5.1, acc ++ [d], _, G5, st7, e12.trans e6, q5.2⟩
  · have e : i = ys.length := by omega
    subst e
    refine .inl ⟨(ok B _ _ G' H2 st' e' _).1 (Nat.le_refl _), ?_⟩
    exact k (.ref D) (.lst acc) _ G' H2 (Stt.rest st1 e' (Stt.unwipe st')) (e1.trans e') (fin acc c' hI)
  )
variable {elt tg iter : Expr} {ifs : List Expr} {scope : Scope} {own : List (Str × Nat)} {pos : Pos} {ti : TL} {g : TGd} {tt : TB} {te : TD} {js : List Nat}
theorem o_lc (own : List (Str × Nat)) (hc : X.calm = true) (hN : X.N.Nodup) (hi : DI X tg iter ti) (ok : blkC X.N X.env.scope scope own = true)
    (hg : ∀ (s : Shared) (H : Hp) (C : Addr) (cl : List (Str × Addr)) (fp : List Addr), DG (X.blk s H scope (compEnvC scope cl C X.env) fp) tg js g) (ht : ∀ (s : Shared) (H : Hp) (C : Addr) (cl : List (Str × Addr)) (fp : List Addr), DTs (X.blk s H scope (compEnvC scope cl C X.env) fp) ifs tt)
    (he : ∀ (s : Shared) (H : Hp) (C : Addr) (cl : List (Str × Addr)) (fp : List Addr), DE (X.blk s H scope (compEnvC scope cl C X.env) fp) elt te) (hj : ∀ j ∈ js, j ∈ own.map (·.2)) (hs : ∀ x, foldedSetIterable iter X.env x = pure x := by intro _; rfl) :
    DO X (.ListComp elt [⟨tg, iter, ifs, 0⟩] scope pos) (oLc ti (own.map (·.2)) g tt te) := (by
  obtain ⟨wi, pi, vi⟩ := hi.ex
  exact ⟨_, pe_lc (g := rdG X.K js g) (tt := rdT X.K tt) (te := rdE X.K te) hc hN pi (blkOk_by ok) (fun s H C cl fp => (hg s H C cl fp).pg) (fun s H C cl fp => (ht s H C cl fp).pt) (fun s H C cl fp => (he s H C cl fp).pe) hs, lc_v vi hj⟩
  )
/-- name = [..] -/
theorem s_setLc (own : List (Str × Nat)) {i : Nat} {y : Str} {py spos : Pos} (hc : X.calm = true) (hN : X.N.Nodup) (hi : DI X tg iter ti) (ok : blkC X.N X.env.scope scope own = true)
    (hg : ∀ (s : Shared) (H : Hp) (C : Addr) (cl : List (Str × Addr)) (fp : List Addr), DG (X.blk s H scope (compEnvC scope cl C X.env) fp) tg js g) (ht : ∀ (s : Shared) (H : Hp) (C : Addr) (cl : List (Str × Addr)) (fp : List Addr), DTs (X.blk s H scope (compEnvC scope cl C X.env) fp) ifs tt)
    (he : ∀ (s : Shared) (H : Hp) (C : Addr) (cl : List (Str × Addr)) (fp : List Addr), DE (X.blk s H scope (compEnvC scope cl C X.env) fp) elt te) (hj : ∀ j ∈ js, j ∈ own.map (·.2)) (hsw : swapsWith (.ListComp elt [⟨tg, iter, ifs, 0⟩] scope pos) (some (.Name y py)) spos.line X.env = pure true)
    (hyl : X.env.scope.names.lookup y = some .local := by rfl) (hy : X.N[i]? = some y := by rfl) (hs : ∀ x, foldedSetIterable iter X.env x = pure x := by intro _; rfl) :
    DS X (.Assign [.Name y py] (.ListComp elt [⟨tg, iter, ifs, 0⟩] scope pos) spos) (zSetO i (oLc ti (own.map (·.2)) g tt te)) := (by
  obtain ⟨wi, pi, vi⟩ := hi.ex
  refine ⟨_, ps_setLc (g := rdG X.K js g) (tt := rdT X.K tt) (te := rdE X.K te) hc hN hy hyl hsw pi (blkOk_by ok) (fun s H C cl fp => (hg s H C cl fp).pg) (fun s H C cl fp => (ht s H C cl fp).pt) (fun s H C cl fp => (he s H C cl fp).pe) hs, fun B c s G H D E st k q => ?_⟩
  exact lc_v vi hj B c s G H _ _ st q fun v x c1 G1 H1 st1 e1 q1 => k.nx _ _ G1 H1 (st1.set_o i) e1 q1
  )
/-! ### comprehensions by what they compute -/
/-- by a word of one's own; the walk sees letters for what is to be reached -/
theorem comp_by {vs : List Nat} {tg : TGd} {tt : TB} {te : TD} {ys : List PyData} {c1 : Ctx} {Q : List PyData → Ctx → Prop} (I : Nat → List PyData → Ctx → Prop) (h0 : I 0 [] (clr vs c1))
    (turn : ∀ (i : Nat) (y : PyData) (acc : List PyData) (c : Ctx) (N : PyData → Ctx → Prop) (M : Ctx → Prop), ys[i]? = some y → I i acc c → (∀ x c, acc.length < sizeLine → I (i + 1) (acc ++ [x]) (clr vs c) → N x c) → (∀ c, I (i + 1) acc (clr vs c) → M c) → tg y c fun c2 => tt c2 fun b c3 => if b = true then te c3 N else M c3)
    (fin : ∀ acc c, I ys.length acc c → Q acc (Dl.rest c1 vs (clr2 vs c))) : zComp vs tg tt te ys c1 Q :=
  ⟨I, h0, fun i y acc c hy hI => turn i y acc c _ _ hy hI (fun _ _ h1 h2 => ⟨h1, h2⟩) (fun _ h => h), fin⟩
/-- items kept by p, told by f; no name is changed -/
theorem comp_fm {vs : List Nat} {tg : TGd} {tt : TB} {te : TD} {ys : List PyData} {c1 : Ctx} {Q : List PyData → Ctx → Prop} (p : PyData → Bool) (f : PyData → PyData) (hl : ys.length ≤ sizeLine)
    (h : ∀ y ∈ ys, ∀ (N : PyData → Ctx → Prop) (M : Ctx → Prop), (p y = true → ∀ c, clr vs c = clr vs c1 → N (f y) c) → (p y = false → ∀ c, clr vs c = clr vs c1 → M c) → tg y (clr vs c1) fun c2 => tt c2 fun b c3 => if b = true then te c3 N else M c3)
    (q : Q ((ys.filter p).map f) (Dl.rest c1 vs (clr2 vs (clr vs c1)))) : zComp vs tg tt te ys c1 Q := (by
  refine comp_by (fun i acc c => c = clr vs c1 ∧ acc = ((ys.take i).filter p).map f) ⟨rfl, by simp⟩ (fun i y acc c N M hy hI hN hM => ?_) fun acc c hI => ?_
  · obtain ⟨rfl, rfl⟩ := hI
    have hi : i < ys.length := (List.getElem?_eq_some_iff.mp hy).1
    have e : ys.take (i + 1) = ys.take i ++ [y] := by rw [List.take_add_one, hy]; rfl
    have hacc : (((ys.take i).filter p).map f).length < sizeLine := by
      have h1 := List.length_filter_le p (ys.take i)
      rw [List.length_take] at h1
      rw [List.length_map]
      omega
    refine h y (List.mem_of_getElem? hy) N M (fun hp c hc => hN _ c hacc ⟨hc, ?_⟩) fun hp c hc => hM c ⟨hc, ?_⟩
    · rw [e, List.filter_append, List.map_append, List.filter_cons_of_pos hp, List.filter_nil]; rfl
    · rw [e, List.filter_append, List.map_append, List.filter_cons_of_neg (by rw [hp]; exact Bool.false_ne_true), List.filter_nil]; simp
  · obtain ⟨rfl, rfl⟩ := hI
    rw [List.take_length]
    exact q
  )
/-- each item told by f -/
theorem comp_map {vs : List Nat} {tg : TGd} {te : TD} {ys : List PyData} {c1 : Ctx} {Q : List PyData → Ctx → Prop} (f : PyData → PyData) (hl : ys.length ≤ sizeLine)
    (h : ∀ y ∈ ys, ∀ (N : PyData → Ctx → Prop), (∀ c, clr vs c = clr vs c1 → N (f y) c) → tg y (clr vs c1) fun c2 => te c2 N)
    (q : Q (ys.map f) (Dl.rest c1 vs (clr2 vs (clr vs c1)))) : zComp vs tg bYes te ys c1 Q := (by
  refine comp_fm (fun _ => true) f hl (fun y hy N M hN _ => ?_) ?_
  · have := h y hy N (hN rfl)
    exact this
  · rw [List.filter_eq_self.mpr fun _ _ => rfl]
    exact q
  )
end
end Dl

/-! Lists of lists of one's own. -/
namespace Dl
open PySem PySem.Spec PyProof.Rows L2
section
variable {K : PySem.W.Frag} {B : Base} {G H : Hp} {c : Ctx} {s : L2.St}
/-- the owned thing in slot j, written -/
theorem Stt.foc (st : Stt K B c s G H) {j : Nat} {w : Option Lt} {R : Res} (e : c[j]? = some (.o w R)) : ∃ v A1, s[j]? = some (some v) ∧ R.P K G H v A1 ∧ A1.Nodup ∧
    ∀ (H' : Hp) (R' : Res) (A1' : List Addr), (∀ a, a ∉ A1' → H' a = H a) → (∀ a ∈ A1', a ∈ A1 ∨ H a = none) → (∀ a ∈ A1', H' a ≠ none) → A1'.Nodup → R'.P K G H' v A1' → Stt K B (c.set j (.o w R')) s G H' := (by
  obtain ⟨A, r, wd⟩ := st.ex
  obtain ⟨v, A1, h1, h2, h3, h4, h5, k⟩ := r.focus wd.nd e
  refine ⟨v, A1, h1, h2, h4, fun H' R' A1' k1 k2 k3 k4 k5 => ?_⟩
  have kw : WOk B w v A1' := by
    cases w with
    | none =>
      intro a ha
      rcases k2 a ha with z | z
      · exact h3 a z
      · exact wd.dom a z
    | some u =>
      refine ⟨h3.1, fun a ha => ?_⟩
      rcases k2 a ha with z | z
      · exact h3.2 a z
      · exact .inr (wd.dom a z)
  have kk : ∀ a ∈ A, a ∉ A1 → H' a = H a := fun a ha hn => k1 a fun z => by
    rcases k2 a z with y | y
    · exact hn y
    · exact r.here a ha y
  obtain ⟨A', r', n, q⟩ := k (G' := G) (H' := H') (R' := R') (w' := w) (A1' := A1') (Same.refl _) kk k5 kw k4 (fun a ha => (k2 a ha).imp id fun z y => r.here a y z)
  · have inA : ∀ a ∈ A', (a ∈ A1' ∧ (a ∈ A1 ∨ H a = none)) ∨ (a ∈ A ∧ a ∉ A1) := fun a ha => (q a ha).imp (fun z => ⟨z, k2 a z⟩) id
    refine ⟨A', r', fun a o z => ?_, n, fun a ha => ?_, wd.old, fun a o z hn => ?_, fun a z => ?_, wd.newG, fun a ha => ?_⟩
    · have ha : a ∉ A1' := fun y => by
        rcases k2 a y with x | x
        · rw [wd.out a (h5 a x)] at z; cases z
        · rw [wd.sub a o z] at x; cases x
      rw [k1 a ha]; exact wd.sub a o z
    · rcases inA a ha with ⟨_, z | z⟩ | ⟨z, _⟩
      · exact wd.out a (h5 a z)
      · exact wd.sub.free z
      · exact wd.out a z
    · have hs := wd.stay a o z hn
      have ha : a ∉ A1' := fun y => by
        rcases k2 a y with x | x
        · rcases wd.lim a (h5 a x) with u | u
          · exact hn u
          · rw [u] at z; cases z
        · rw [hs] at x; cases x
      rw [k1 a ha]; exact hs
    · have ha : a ∉ A1' := fun y => k3 a y z
      rw [k1 a ha] at z
      exact wd.dom a z
    · rcases inA a ha with ⟨_, z | z⟩ | ⟨z, _⟩
      · exact wd.lim a (h5 a z)
      · exact .inr (wd.dom a z)
      · exact wd.lim a z
  )
/-- a new owned thing laid at fresh addresses -/
theorem Stt.laidR (st : Stt K B c s G H) {H' : Hp} {R : Res} {v : V} {A1 : List Addr} (k1 : ∀ a, a ∉ A1 → H' a = H a) (k2 : ∀ a ∈ A1, H a = none) (k3 : ∀ a ∈ A1, H' a ≠ none) (k4 : A1.Nodup) (k5 : R.P K G H' v A1) : Stt K B (.o none R :: c) (some v :: s) G H' := (by
  obtain ⟨A, r, w⟩ := st.ex
  have np : ∀ a ∈ A, a ∉ A1 := fun a ha z => r.here a ha (k2 a z)
  have n0 : ∀ a ∈ A1, B.H0 a = none := fun a ha => w.dom a (k2 a ha)
  refine ⟨A1 ++ A, .o k5 n0 (r.mono (Same.refl _) fun a ha => k1 a (np a ha)), fun a o q => ?_, List.nodup_append.mpr ⟨k4, w.nd, fun a ha b hb e => np b hb (by rw [← e]; exact ha)⟩, fun a ha => ?_, w.old, fun a o q hi => ?_, fun a q => ?_, w.newG, fun a ha => ?_⟩
  · have ha : a ∉ A1 := fun z => by have := w.sub a o q; rw [k2 a z] at this; cases this
    rw [k1 a ha]; exact w.sub a o q
  · rcases List.mem_append.mp ha with z | z
    · exact w.sub.free (k2 a z)
    · exact w.out a z
  · have ha : a ∉ A1 := fun z => by rw [n0 a z] at q; cases q
    rw [k1 a ha]; exact w.stay a o q hi
  · have ha : a ∉ A1 := fun z => k3 a z q
    rw [k1 a ha] at q; exact w.dom a q
  · rcases List.mem_append.mp ha with z | z
    · exact .inr (n0 a z)
    · exact w.lim a z
  )
/-- an owned thing on top set aside: the rest is changed without it -/
theorem Stt.underR {R : Res} {v : V} (st : Stt K B (.o none R :: c) (some v :: s) G H) : ∃ (A1 : List Addr) (B' : Base), R.P K G H v A1 ∧ Stt K B' c s G H ∧
    ∀ c2 s2 G2 H2, Stt K B' c2 s2 G2 H2 → Same G G2 ∧ (∀ a ∈ A1, H2 a = H a) ∧ Stt K B (.o none R :: c2) (some v :: s2) G2 H2 := (by
  classical
  obtain ⟨A0, r0, w⟩ := st.ex
  cases r0 with
  | @o _ _ _ _ _ AD A hR hWD r =>
    obtain ⟨n1, n2, n3⟩ := List.nodup_append.mp w.nd
    have DA : ∀ a ∈ AD, a ∉ A := fun a ha z => n3 a ha a z rfl
    have hWD : ∀ a ∈ AD, B.H0 a = none := hWD
    have hp : ∀ a ∈ AD, H a ≠ none := Res.here hR
    let B' : Base := ⟨fun a => if a ∈ A then B.H0 a else H a, G, B.io.filter fun a => decide (a ∈ A)⟩
    have bA : ∀ a ∈ A, B'.H0 a = B.H0 a := fun a ha => if_pos ha
    have bN : ∀ a, a ∉ A → B'.H0 a = H a := fun a ha => if_neg ha
    have bio : ∀ a, a ∈ B'.io ↔ a ∈ B.io ∧ a ∈ A := fun a => by simp [B']
    have nb : ∀ a, B'.H0 a = none → B.H0 a = none := fun a q => by
      by_cases ha : a ∈ A
      · rw [← bA a ha]; exact q
      · rw [bN a ha] at q; exact w.dom a q
    refine ⟨AD, B', hR, ⟨A, reps_base r fun u x Aj hA hw => ?_, w.sub, n2, fun a ha => w.out a (List.mem_append_right _ ha), Same.refl _, fun a o q hn => ?_, fun a q => ?_, fun a _ q => .inl rfl, fun a ha => ?_⟩, ?_⟩
    · cases u with
      | none => exact fun a ha => (bA a (hA a ha)).trans (hw a ha)
      | some u => exact ⟨hw.1, fun a ha => (hw.2 a ha).imp id fun z => (bA a (hA a ha)).trans z⟩
    · by_cases ha : a ∈ A
      · rw [bA a ha] at q
        exact w.stay a o q fun z => hn ((bio a).mpr ⟨z, ha⟩)
      · rw [bN a ha] at q; exact q
    · by_cases ha : a ∈ A
      · rw [bA a ha]; exact w.dom a q
      · rw [bN a ha]; exact q
    · rcases w.lim a (List.mem_append_right _ ha) with z | z
      · exact .inl ((bio a).mpr ⟨z, ha⟩)
      · exact .inr ((bA a ha).trans z)
    intro c2 s2 G2 H2 st2
    obtain ⟨A2, r2, w2⟩ := st2.ex
    have hD2 : ∀ a ∈ AD, H2 a = H a := fun a ha => by
      cases q : H a with
      | none => exact absurd q (hp a ha)
      | some o => exact w2.stay a o ((bN a (DA a ha)).trans q) fun z => DA a ha ((bio a).mp z).2
    have DA2 : ∀ a ∈ AD, a ∉ A2 := fun a ha z => by
      rcases w2.lim a z with y | y
      · exact DA a ha ((bio a).mp y).2
      · rw [bN a (DA a ha)] at y; exact hp a ha y
    have e2 : Same G G2 := w2.old
    refine ⟨e2, hD2, AD ++ A2, .o (Res.mono hR e2 hD2) hWD (reps_base r2 fun u x Aj hA hw => ?_), w2.sub, List.nodup_append.mpr ⟨n1, w2.nd, fun a ha b hb z => ?_⟩, fun a ha => ?_, w.old.trans e2, fun a o q hn => ?_, fun a q => nb a (w2.dom a q), fun a i q => ?_, fun a ha => ?_⟩
    · cases u with
      | none => exact fun a ha => nb a (hw a ha)
      | some u => exact ⟨hw.1, fun a ha => (hw.2 a ha).imp id fun z => nb a z⟩
    · subst z
      exact DA2 a ha hb
    · rcases List.mem_append.mp ha with z | z
      · rcases w2.newG a (fun y => DA a z ((bio a).mp y).2) (by rw [bN a (DA a z)]; exact hp a z) with e | ⟨o, e, t⟩
        · rw [e]; exact w.out a (List.mem_append_left _ z)
        · rw [bN a (DA a z)] at e
          rw [Res.nt hR a z o e] at t; cases t
      · exact w2.out a z
    · by_cases hA : a ∈ A
      · exact w2.stay a o ((bA a hA).trans q) fun z => hn ((bio a).mp z).1
      · exact w2.stay a o ((bN a hA).trans (w.stay a o q hn)) fun z => hA ((bio a).mp z).2
    · have hA : a ∉ A := fun z => (w.lim a (List.mem_append_right _ z)).elim i q
      rcases w2.newG a (fun y => hA ((bio a).mp y).2) (fun z => q (nb a z)) with e | ⟨o, e, t⟩
      · rw [e]; exact w.newG a i q
      · rw [bN a hA] at e
        cases z : B.H0 a with
        | none => exact absurd z q
        | some o' =>
          have := w.stay a o' z i
          rw [e] at this
          cases this
          exact .inr ⟨o, z, t⟩
    · rcases List.mem_append.mp ha with z | z
      · exact .inr (hWD a z)
      · rcases w2.lim a z with y | y
        · exact .inl ((bio a).mp y).1
        · exact .inr (nb a y)
  )
theorem ownLs_get : ∀ {ps : List Addr} {dss : List (List PyData)} {i : Nat} {ds : List PyData}, OwnLs K G H ps dss → dss[i]? = some ds → ∃ p vs, ps[i]? = some p ∧ H p = some (.lst vs) ∧ DpAll K G vs ds
  | _, [], i, ds, h, e => by simp at e
  | _, d :: dss, 0, ds, h, e => by
    cases h with
    | cons h1 h2 h3 => simp at e; subst e; exact ⟨_, _, rfl, h1, h2⟩
  | _, d :: dss, i + 1, ds, h, e => by
    cases h with
    | cons h1 h2 h3 =>
      obtain ⟨p, vs, a1, a2⟩ := ownLs_get (i := i) h3 (by simpa using e)
      exact ⟨p, vs, by simpa using a1, a2⟩
theorem ownLs_len {ps : List Addr} {dss : List (List PyData)} (h : OwnLs K G H ps dss) : ps.length = dss.length := (by
  induction h with
  | nil => rfl
  | cons _ _ _ ih => simp [ih]
  )
theorem ownLs_app {ps ps' : List Addr} {dss dss' : List (List PyData)} (h : OwnLs K G H ps dss) (h' : OwnLs K G H ps' dss') : OwnLs K G H (ps ++ ps') (dss ++ dss') := (by
  induction h with
  | nil => exact h'
  | cons h1 h2 _ ih => exact .cons h1 h2 ih
  )
theorem ownLs_set {vs' : List V} {ds' : List PyData} (d' : DpAll K G vs' ds') : ∀ {ps : List Addr} {dss : List (List PyData)} {i : Nat} {p : Addr}, OwnLs K G H ps dss → ps.Nodup → ps[i]? = some p → OwnLs K G (upd H p (.lst vs')) ps (dss.set i ds')
  | [], _, i, p, h, _, e => by simp at e
  | q :: ps, _, 0, p, h, nd, e => by
    cases h with
    | cons h1 h2 h3 =>
      have e' : q = p := by simpa using e
      subst e'
      exact .cons upd_same d' (ownLs_mono h3 (Same.refl _) fun a ha => upd_ne fun z => (List.nodup_cons.mp nd).1 (z ▸ ha))
  | q :: ps, _, i + 1, p, h, nd, e => by
    cases h with
    | cons h1 h2 h3 =>
      have e' : ps[i]? = some p := by simpa using e
      have hq : q ≠ p := fun z => (List.nodup_cons.mp nd).1 (z ▸ List.mem_of_getElem? e')
      exact .cons (by rw [upd_ne hq]; exact h1) h2 (ownLs_set d' h3 (List.nodup_cons.mp nd).2 e')
end
def asLL (R : Res) (Q : List (List PyData) → Prop) : Prop := match R with
  | .lls dss => Q dss
  | _ => False
theorem asLL_l {dss : List (List PyData)} {Q : List (List PyData) → Prop} : asLL (.lls dss) Q = Q dss := id rfl
theorem asLL_of {R : Res} {Q : List (List PyData) → Prop} (h : asLL R Q) : ∃ dss, R = .lls dss ∧ Q dss := (by
  cases R <;> first | exact ⟨_, rfl, h⟩ | exact False.elim h
  )
section
variable {X : Cx} {a e : Expr} {ta : TD} {pos cpos apos p p1 p2 : Pos} {x : Str}
/-- [[]] -/
def oLL0 : TR := fun c Q => Q (.lls [[]]) c
theorem o_ll0 : DO X (.List [.List [] p1] pos) oLL0 := (by
  refine ⟨_, pe_lst (pa_cons (pe_lst pa_nil) pa_nil), fun B c s G H Q R st q k => ?_⟩
  refine ⟨Nat.zero_le _, fun q1 h1 => ⟨by show 1 ≤ sizeLine; decide, fun q2 h2 => ?_⟩⟩
  have ne : q2 ≠ q1 := fun z => by rw [z, upd_same] at h2; cases h2
  have h2' : H q2 = none := by rw [upd_ne ne] at h2; exact h2
  refine k _ (.lls [[]]) c G _ (st.laidR (A1 := [q2, q1]) (fun a ha => ?_) (fun a ha => ?_) (fun a ha => ?_) (by simp [ne]) ?_) (Same.refl _) q
  · simp at ha
    rw [upd_ne ha.1, upd_ne ha.2]
  · simp at ha
    rcases ha with rfl | rfl
    · exact h2'
    · exact h1
  · simp at ha
    rcases ha with rfl | rfl
    · rw [upd_same]; exact fun z => nomatch z
    · rw [upd_ne (Ne.symm ne), upd_same]; exact fun z => nomatch z
  · refine ⟨q2, [q1], rfl, rfl, upd_same, .cons (vs := []) ?_ .nil .nil⟩
    rw [upd_ne (Ne.symm ne), upd_same]
  )
/-- xss.append([]) -/
def zLLn (j : Nat) : TSd := fun E c => slO c j fun w R => asLL R fun dss => dss.length < sizeLine ∧ E.nx (c.set j (.o w (.lls (dss ++ [[]]))))
theorem s_lln (j : Nat)
    (hN : X.N[j]? = some x := by rfl) (hv : Vis X.env.scope x := by first | exact Or.inl rfl | exact Or.inr (Or.inl rfl) | exact Or.inr (Or.inr rfl)) (hd : (x == ("__debug__" : Str)) = false := by decide)
    (hcd : (x == ("__classdict__" : Str)) = false := by decide) (hbase : attributeBase (.Name x p) "append" X.env (eval (.Name x p) X.env) = eval (.Name x p) X.env := by rfl)
    (hfew : ((backTo cpos (starEach [.List [] p1] X.env)).all (fun x => !x.1) && (backToKw cpos (keywordEach [] X.env)).all (fun x => x.1.isSome)
      && decide ([Expr.List [] p1].length + ([] : List Keyword).length + (if ([] : List Keyword).isEmpty then 0 else 1) < 30)) = true := by rfl)
    (hline : (apos.endLine == cpos.line) = true := by rfl) (hs : starEach [.List [] p1] X.env = (false, eval (.List [] p1) X.env) :: starEach [] X.env := by rfl) (hplain : (backTo cpos (starEach [] X.env)).any (·.1) = false := by rfl)
    (hsw : swapsWith (.Call (.Attribute (.Name x p) "append" apos) [.List [] p1] [] cpos) none pos.line X.env = pure false := by rfl) : DS X (.Expr (.Call (.Attribute (.Name x p) "append" apos) [.List [] p1] [] cpos) pos) (zLLn j) := (by
  refine ⟨_, ps_expr (pe_bm F.plainAttrs_list F.slot_list_append F.type_list_append mt_append (pe_var hN hv hd hcd) (pa_cons (pe_lst pa_nil) pa_nil hs) hbase hfew hline hs hplain) hsw, fun B c s G H D E st k q => ?_⟩
  obtain ⟨w, R0, e0, q⟩ := slO_of q
  obtain ⟨dss, rfl, hl, q⟩ := asLL_of q
  obtain ⟨v, A1, g1, ⟨p, ps, rfl, rfl, h1, h2⟩, nd, wr⟩ := st.foc e0
  refine ⟨_, g1, .inl ⟨rfl, _, SqL.of h1⟩, by decide, fun q1 hq => ?_⟩
  have ne : q1 ≠ p := fun z => by rw [z, h1] at hq; cases hq
  have nps : q1 ∉ ps := fun z => ownLs_here h2 q1 z hq
  have lps := ownLs_len h2
  refine ⟨p, ps.map V.ref, .ref q1, rfl, rfl, by rw [upd_ne (Ne.symm ne)]; exact h1, by rw [List.length_map]; omega, ?_⟩
  refine k.nx _ _ G _ (wr _ (.lls (dss ++ [[]])) (p :: (ps ++ [q1])) (fun a ha => ?_) (fun a ha => ?_) (fun a ha => ?_) ?_ ?_) (Same.refl _) q
  · simp at ha
    rw [upd_ne ha.1, upd_ne ha.2.2]
  · simp at ha
    rcases ha with rfl | z | rfl
    · exact .inl List.mem_cons_self
    · exact .inl (List.mem_cons_of_mem _ z)
    · exact .inr hq
  · by_cases hp : a = p
    · rw [hp, upd_same]; exact fun z => nomatch z
    · rw [upd_ne hp]
      by_cases hq1 : a = q1
      · rw [hq1, upd_same]; exact fun z => nomatch z
      · rw [upd_ne hq1]
        simp [hp, hq1] at ha
        exact ownLs_here h2 a ha
  · obtain ⟨n1, n2⟩ := List.nodup_cons.mp nd
    refine List.nodup_cons.mpr ⟨fun z => ?_, List.nodup_append.mpr ⟨n2, by simp, fun a ha b hb z => ?_⟩⟩
    · rcases List.mem_append.mp z with y | y
      · exact n1 y
      · exact ne (by simpa using y : p = q1).symm
    · obtain rfl : b = q1 := by simpa using hb
      subst z
      exact nps ha
  · have np : ∀ a ∈ ps, a ≠ p := fun a ha z => (List.nodup_cons.mp nd).1 (z ▸ ha)
    refine ⟨p, ps ++ [q1], rfl, rfl, ?_, ownLs_app (ownLs_mono h2 (Same.refl _) fun a ha => ?_) (.cons (vs := []) ?_ .nil .nil)⟩
    · rw [upd_same, List.map_append]; rfl
    · rw [upd_ne (np a ha), upd_ne fun z => nps (by rw [← z]; exact ha)]
    · rw [upd_ne ne, upd_same]
  )
/-- the last one -/
def lastLL (dss : List (List PyData)) (Q : List PyData → List (List PyData) → Prop) : Prop := ∃ l ds, dss = l ++ [ds] ∧ Q ds l
theorem last_atI {α : Type} (l : List α) (x : α) : atI (l ++ [x]) (-1) = some x := atI_last l x
theorem snoc_of {α : Type} {ps : List α} {n : Nat} {p : α} (hl : ps.length = n + 1) (h : ps[n]? = some p) : ∃ qs, ps = qs ++ [p] := (by
  refine ⟨ps.take n, ?_⟩
  have e : ps.take (n + 1) = ps.take n ++ [p] := by rw [List.take_add_one, h]; rfl
  rw [← e, ← hl, List.take_length]
  )
/-- len(xss[-1]) -/
def uLLlen (j : Nat) : TD := fun c Q => slO c j fun _ R => asLL R fun dss => lastLL dss fun ds _ => Q (.int ds.length) c
theorem d_lllen (j : Nat) {pl pn ps pc pu : Pos} (hm : X.mg "len" = none) (hg : Gl X "len" := by rfl)
    (hN : X.N[j]? = some x := by rfl) (hv : Vis X.env.scope x := by first | exact Or.inl rfl | exact Or.inr (Or.inl rfl) | exact Or.inr (Or.inr rfl)) (hd : (x == ("__debug__" : Str)) = false := by decide)
    (hcd : (x == ("__classdict__" : Str)) = false := by decide) (hs : PlainIx (.UnaryOp .USub (.Constant (.int 1) 0 pc) pu) := by exact fun _ _ => rfl)
    (he : starEach [.Subscript (.Name x pn) (.UnaryOp .USub (.Constant (.int 1) 0 pc) pu) ps] X.env = (false, eval (.Subscript (.Name x pn) (.UnaryOp .USub (.Constant (.int 1) 0 pc) pu) ps) X.env) :: starEach [] X.env := by rfl) :
    DE X (.Call (.Name "len" pl) [.Subscript (.Name x pn) (.UnaryOp .USub (.Constant (.int 1) 0 pc) pu) ps] [] pos) (uLLlen j) := (by
  refine ⟨_, pe_callB call_len_seq hg hm boot_len (pa_cons (pe_ix ix_seq (pe_var hN hv hd hcd) (pe_un un_neg pe_int) hs) pa_nil he) (by decide) (by decide) he, fun B c s G H Q R st q k => ?_⟩
  obtain ⟨w, R0, e0, q⟩ := slO_of q
  obtain ⟨dss, rfl, q⟩ := asLL_of q
  obtain ⟨l, ds, el, q2⟩ := q
  subst el
  obtain ⟨v, A1, g1, ⟨p, ps, rfl, rfl, h1, h2⟩, nd, wr⟩ := st.foc e0
  obtain ⟨p2, vs, a1, a2, a3⟩ := ownLs_get (i := l.length) (ds := ds) h2 (by simp)
  have hl := ownLs_len h2
  refine ⟨_, g1, 1, rfl, .inl ⟨p, ps.map V.ref, -1, .ref p2, rfl, rfl, SqL.of h1, ?_, p2, vs, rfl, .inl (SqL.of a2), ?_⟩⟩
  · obtain ⟨qs, rfl⟩ := snoc_of (ps := ps) (by simpa using hl) a1
    rw [List.map_append]
    exact atI_last _ _
  · rw [dpa_len a3]
    exact k _ _ c G H st (Same.refl _) (.int _) q2
  )
/-- xss[-1].append(e); e without xss -/
def zLLa (j : Nat) (ta : TD) : TSd := fun E c => slO c j fun w R => w = none ∧ asLL R fun dss => lastLL dss fun ds l => ds.length < sizeLine ∧ ta (c.set j .no) fun y c1 => E.nx (c1.set j (.o none (.lls (l ++ [ds ++ [y]]))))
theorem s_lla (j : Nat) {pn ps pc pu : Pos} (ha : DE X a ta)
    (hN : X.N[j]? = some x := by rfl) (hv : Vis X.env.scope x := by first | exact Or.inl rfl | exact Or.inr (Or.inl rfl) | exact Or.inr (Or.inr rfl)) (hd : (x == ("__debug__" : Str)) = false := by decide)
    (hcd : (x == ("__classdict__" : Str)) = false := by decide) (hs : PlainIx (.UnaryOp .USub (.Constant (.int 1) 0 pc) pu) := by exact fun _ _ => rfl)
    (hbase : attributeBase (.Subscript (.Name x pn) (.UnaryOp .USub (.Constant (.int 1) 0 pc) pu) ps) "append" X.env (eval (.Subscript (.Name x pn) (.UnaryOp .USub (.Constant (.int 1) 0 pc) pu) ps) X.env) = eval (.Subscript (.Name x pn) (.UnaryOp .USub (.Constant (.int 1) 0 pc) pu) ps) X.env := by rfl)
    (hfew : ((backTo cpos (starEach [a] X.env)).all (fun x => !x.1) && (backToKw cpos (keywordEach [] X.env)).all (fun x => x.1.isSome)
      && decide ([a].length + ([] : List Keyword).length + (if ([] : List Keyword).isEmpty then 0 else 1) < 30)) = true := by rfl)
    (hline : (apos.endLine == cpos.line) = true := by rfl) (he : starEach [a] X.env = (false, eval a X.env) :: starEach [] X.env := by rfl) (hplain : (backTo cpos (starEach [] X.env)).any (·.1) = false := by rfl)
    (hsw : swapsWith (.Call (.Attribute (.Subscript (.Name x pn) (.UnaryOp .USub (.Constant (.int 1) 0 pc) pu) ps) "append" apos) [a] [] cpos) none pos.line X.env = pure false := by rfl) :
    DS X (.Expr (.Call (.Attribute (.Subscript (.Name x pn) (.UnaryOp .USub (.Constant (.int 1) 0 pc) pu) ps) "append" apos) [a] [] cpos) pos) (zLLa j ta) := (by
  obtain ⟨tea, pa, va⟩ := ha.ex
  refine ⟨_, ps_expr (pe_bm F.plainAttrs_list F.slot_list_append F.type_list_append mt_append (pe_ix ix_seq (pe_var hN hv hd hcd) (pe_un un_neg pe_int) hs) (pa_cons pa pa_nil he) hbase hfew hline he hplain) hsw, fun B c s G H D E st k q => ?_⟩
  obtain ⟨w, R0, e0, hw, q⟩ := slO_of q
  subst hw
  obtain ⟨dss, rfl, q⟩ := asLL_of q
  obtain ⟨l, ds, el, hl, q2⟩ := q
  subst el
  obtain ⟨v, g1, stT⟩ := st.take_o e0
  obtain ⟨A1, B', ⟨p, ps, rfl, rfl, h1, h2⟩, stU, back⟩ := stT.underR
  have hlen := ownLs_len h2
  obtain ⟨q0, vs0, a1, a2, a3⟩ := ownLs_get (i := l.length) (ds := ds) h2 (by simp)
  obtain ⟨ps0, rfl⟩ := snoc_of (ps := ps) (by simpa using hlen) a1
  have eix : atI ((ps0 ++ [q0]).map V.ref) (-1) = some (.ref q0) := by
    rw [List.map_append]
    exact atI_last _ _
  refine ⟨_, g1, 1, rfl, .inl ⟨p, _, -1, .ref q0, rfl, rfl, SqL.of h1, eix, .inl ⟨rfl, _, SqL.of a2⟩, va B' _ s G H _ _ stU q2 fun v y c1 G1 H1 st1 e1 d1 q1 => ?_⟩⟩
  obtain ⟨e3, hkeep, st3⟩ := back _ _ _ _ st1
  have hp1 : H1 p = some (.lst ((ps0 ++ [q0]).map V.ref)) := (hkeep p List.mem_cons_self).trans h1
  have hq1 : H1 q0 = some (.lst vs0) := (hkeep q0 (List.mem_cons_of_mem _ (by simp))).trans a2
  have a3' := dpa_mono e3 _ _ a3
  refine ⟨q0, vs0, v, rfl, rfl, hq1, by rw [dpa_len a3]; exact hl, ?_⟩
  obtain ⟨u, A2, f1, ⟨p', ps', ep, rfl, f2, f3⟩, nd, wr⟩ := st3.foc (j := 0) rfl
  have eu : u = .ref p := by simpa using f1.symm
  rw [eu] at ep
  cases ep
  rw [hp1] at f2
  have eps : ps' = ps0 ++ [q0] := by
    have e4 : (ps0 ++ [q0]).map V.ref = ps'.map V.ref := by
      have := Option.some.inj f2
      injection this
    exact (List.map_inj_right (fun x y z => by injection z)).mp e4.symm
  subst eps
  obtain ⟨n1, n2⟩ := List.nodup_cons.mp nd
  have st4 := wr (upd H1 q0 (.lst (vs0 ++ [v]))) (.lls ((l ++ [ds]).set l.length (ds ++ [y]))) (p :: (ps0 ++ [q0])) (fun a ha => upd_ne fun z => ha (by simp [z])) (fun a ha => .inl ha) (fun a ha => ?_) nd (by
    rw [eu]
    refine ⟨p, _, rfl, rfl, ?_, ownLs_set (dpa_app a3' (.cons d1 .nil)) f3 n2 ?_⟩
    · rw [upd_ne fun z => n1 (by simp [z])]; exact hp1
    · have : ps0.length = l.length := by simp at hlen; exact hlen
      rw [← this]; simp)
  · have st5 : Stt X.K B (.o none (.lls ((l ++ [ds]).set l.length (ds ++ [y]))) :: c1) (some (.ref p) :: s) G1 (upd H1 q0 (.lst (vs0 ++ [v]))) := st4
    have st6 := st5.set_o j
    rw [set_same g1] at st6
    have e5 : (l ++ [ds]).set l.length (ds ++ [y]) = l ++ [ds ++ [y]] := by simp
    rw [e5] at st6
    exact k.nx _ _ G1 _ st6 e1 q1
  · by_cases hq : a = q0
    · rw [hq, upd_same]; exact fun z => nomatch z
    · rw [upd_ne hq]
      rcases List.mem_cons.mp ha with rfl | ha
      · rw [hp1]; exact fun z => nomatch z
      · exact ownLs_here f3 a ha
  )
end
end Dl
namespace Dl
open PySem PySem.Spec PyProof.Rows L2
section
variable {c : Ctx} {as : List Arg} {x : PyData} {F : FrG} {j : Nat}
theorem lok_n : lentOk c [] = True := id rfl
theorem lok_s : lentOk c (.s j :: as) = ((slO c j fun _ _ => True) ∧ j ∉ lent as ∧ lentOk c as) := id rfl
theorem lok_d : lentOk c (.d x :: as) = lentOk c as := id rfl
theorem lok_f : lentOk c (.f F :: as) = lentOk c as := id rfl
theorem lent_n : lent [] = [] := id rfl
theorem lent_s : lent (.s j :: as) = j :: lent as := id rfl
theorem lent_d : lent (.d x :: as) = lent as := id rfl
theorem lent_f : lent (.f F :: as) = lent as := id rfl
end
theorem eqv_none : PyData.eqv .none .none = true := by simp [PyData.eqv]
end Dl
namespace Dl
open PySem PySem.Spec PyProof.Rows L2
theorem fz_ll {dss : List (List PyData)} {Q : PyData → Prop} : (Res.lls dss).fz Q = Q (.list (dss.map PyData.list)) := id rfl
end Dl
namespace Dl
open PySem PySem.Spec PyProof.Rows L2
section
variable {X : Cx} {a : Expr} {ta : TD} {pos pos' : Pos}
theorem t_isN (ha : DE X a ta) : DT X (.Compare a [.Is] [.Constant .none 0 pos'] pos) (wB fun c Q => ta c fun x c1 => Q (.bool (isNo x)) c1) := (by
  obtain ⟨tea, pa, va⟩ := ha.ex
  refine ⟨_, pt_cmpR op_isN pa pe_non (nomark _), fun B c s G H Q R st q k => va B c s G H _ _ st q fun v x c1 G1 H1 st1 e1 d1 q1 => ⟨rfl, _, rfl, ?_⟩⟩
  rw [isNo_dp d1]
  exact k _ c1 G1 H1 st1 e1 q1
  )
end
end Dl

/-! More constructs: isinstance of what is seen, sums, least and greatest, all, any, sorted, zip, enumerate, reversed, list(range), chains of comparisons, texts. -/
namespace Dl
open PySem PySem.Spec PyProof.Rows L2

/-! ### a walk by steps -/
theorem seq_gen {t u : TSd} {E : De} {c : Ctx} (h : ∀ N : Ctx → Prop, (∀ c', u E c' → N c') → t { E with nx := N } c) : zSeq t u E c := h (u E) fun _ h => h
/-- a call to which nothing was lent -/
theorem retA_kO {ls : List (Option (Lt × Res))} {Q : Res → Prop} {R : Res} : retA ls (kO Q) (.o none R) = Q R := propext ⟨fun h => h _ (pat_self ls), fun h _ _ => h⟩
theorem retA_kD {ls : List (Option (Lt × Res))} {Q : PyData → Prop} {x : PyData} : retA ls (kD Q) (.d x) = Q x := propext ⟨fun h => h _ (pat_self ls), fun h _ _ => h⟩
theorem retA_kDo {ls : List (Option (Lt × Res))} {Q : PyData → Prop} {R : Res} : retA ls (kD Q) (.o none R) = R.fz Q := propext ⟨fun h => h _ (pat_self ls), fun h _ _ => h⟩
theorem retA_kS {ls : List (Option (Lt × Res))} {Q : PyData → Prop} {x : PyData} : retA ls (kS Q) (.d x) = (scal x = true ∧ Q x) := propext ⟨fun h => h _ (pat_self ls), fun h _ _ => h⟩

/-! ### items of one kind -/
def asBs (ds : List PyData) (Q : List Bool → Prop) : Prop := ∃ ns, ds = ns.map PyData.bool ∧ Q ns
def asSs (ds : List PyData) (Q : List Str → Prop) : Prop := ∃ ns, ds = ns.map PyData.str ∧ Q ns
theorem asBs_m {ns : List Bool} {Q : List Bool → Prop} : asBs (ns.map PyData.bool) Q = Q ns := propext ⟨fun ⟨_, e, q⟩ => by
  rw [(List.map_inj_right (fun x y z => by injection z)).mp e]; exact q, fun q => ⟨_, rfl, q⟩⟩
theorem asSs_m {ns : List Str} {Q : List Str → Prop} : asSs (ns.map PyData.str) Q = Q ns := propext ⟨fun ⟨_, e, q⟩ => by
  rw [(List.map_inj_right (fun x y z => by injection z)).mp e]; exact q, fun q => ⟨_, rfl, q⟩⟩
theorem asBs_f {α : Type} {f : α → Bool} {xs : List α} {Q : List Bool → Prop} : asBs (xs.map fun x => PyData.bool (f x)) Q = Q (xs.map f) := (by
  have : xs.map (fun x => PyData.bool (f x)) = (xs.map f).map PyData.bool := by rw [List.map_map]; rfl
  rw [this, asBs_m]
  )
section
variable {X : Cx} {pos p : Pos} {a b e : Expr} {ta tb tc : TD} {tg : Expr}

/-! ### isinstance of what is seen -/
theorem d_isiV {p2 : Pos} {T : Str} {n : String} (hm : X.mg "isinstance" = none) (hT : X.mg T = none) (hv : bootBuiltins T = some (.type n)) (ha : DV X a ta) {fi : PyData → Bool} (hk : ∀ x : PyData, (∀ kv, x ≠ .dict kv) → PySem.W.kitOne X.K (tyD x) (.type n) = some (fi x)) (hg : Gl X "isinstance" := by rfl) (hg2 : Gl X T := by rfl)
    (h1 : T ≠ "__name__" := by decide) (h2 : (T == ("__debug__" : Str)) = false := by decide) (he : starEach (a :: [.Name T p2]) X.env = (false, eval a X.env) :: starEach [.Name T p2] X.env := by rfl) (hpl : (backTo pos (starEach [.Name T p2] X.env)).any (·.1) = false := by rfl) :
    DE X (.Call (.Name "isinstance" p) [a, .Name T p2] [] pos) (u1 (fun x Q => Q (.bool (fi x))) ta) := (by
  obtain ⟨tea, pa, va⟩ := ha.ex
  refine ⟨_, pe_callB call_isi hg hm (by decide +kernel) (pa_cons pa (pa_cons (pe_bltn (v := .ty n) hg2 hT hv rfl h1 h2) pa_nil) he) (by decide) (by decide) he hpl, fun B c s G H Q R st q k => va B c s G H _ _ st q fun v x c1 G1 H1 st1 e1 d1 q1 => ?_⟩
  have d2 := d1.dp st1.sub
  exact ⟨v, .ty n, tyD x, .type n, fi x, rfl, .ty n, tyX_of (Same.refl _) d2, hk x (fun kv z => by subst z; cases d2), k _ _ c1 G1 H1 st1 e1 (.bl _) q1⟩
  )
/-! ### of a list of numbers, of truths -/
def fAll : PyData → (PyData → Prop) → Prop := fun x Q => asL x fun ds => asBs ds fun ns => Q (.bool (ns.all id))
theorem Vw.bls {K : PySem.W.Frag} {G H : Hp} {v : V} {ns : List Bool} (h : Vw K G H v (.list (ns.map PyData.bool))) (e : Same G H) : ∃ p, v = .ref p ∧ SqL K H p (ns.map V.bl) := (by
  obtain ⟨p, vs, rfl, h1, h2⟩ := h.lst e
  rw [dpa_bls_inv h2] at h1
  exact ⟨p, rfl, h1⟩
  )
theorem Vw.strs {K : PySem.W.Frag} {G H : Hp} {v : V} {ns : List Str} (h : Vw K G H v (.list (ns.map PyData.str))) (e : Same G H) : ∃ p, v = .ref p ∧ SqL K H p (ns.map V.str) := (by
  obtain ⟨p, vs, rfl, h1, h2⟩ := h.lst e
  rw [dpa_strs_inv h2] at h1
  exact ⟨p, rfl, h1⟩
  )
theorem d_all (hc : X.calm = true) (hm : X.mg "all" = none) (ha : DV X a ta) (hg : Gl X "all" := by rfl) (he : starEach [a] X.env = (false, eval a X.env) :: starEach [] X.env := by rfl) (hpl : (backTo pos (starEach [] X.env)).any (·.1) = false := by rfl) : DE X (.Call (.Name "all" p) [a] [] pos) (u1 fAll ta) := (by
  refine d_oneB (cr_all hc) (fun B c s G H v x Q R st d h k => ?_) hm (by decide +kernel) ha hg (by decide) (by decide) he hpl
  obtain ⟨ds, rfl, ns, rfl, q⟩ := asL_of h
  obtain ⟨p, rfl, hs⟩ := d.bls st.sub
  exact ⟨p, ns, rfl, hs, k _ _ G H st (Same.refl _) (.bl _) q⟩
  )
/-! ### min, max of two; str(int), int(str) -/
variable {es : List Expr} {tl : TL}
def fStr : PyData → (PyData → Prop) → Prop := fun x Q => asI x fun i => i.natAbs.log2 < 1920 ∧ Q (.str (toString i))
theorem d_str_ (hm : X.mg "str" = none) (ha : DV X a ta) (hg : Gl X "str" := by rfl) (he : starEach [a] X.env = (false, eval a X.env) :: starEach [] X.env := by rfl) (hpl : (backTo pos (starEach [] X.env)).any (·.1) = false := by rfl) : DE X (.Call (.Name "str" p) [a] [] pos) (u1 fStr ta) := (by
  refine d_oneT call_str_int (fun B c s G H v x Q R st d h k => ?_) hm bb_str ha hg (by decide) (by decide) he hpl
  obtain ⟨i, rfl, hl, q⟩ := asI_of h
  exact ⟨i, by rw [dp_int (d.dp st.sub)], hl, k _ _ G H st (Same.refl _) (.str _) q⟩
  )
def fIntS : PyData → (PyData → Prop) → Prop := fun x Q => match x with
  | .int i => Q (.int i)
  | .bool b => Q (.int (if b then 1 else 0))
  | .str z => ∃ n, PySem.intText? z = some n ∧ z.length ≤ 640 ∧ Q (.int n)
  | _ => False
theorem fIntS_i {i : Int} {Q : PyData → Prop} : fIntS (.int i) Q = Q (.int i) := id rfl
theorem fIntS_b {b : Bool} {Q : PyData → Prop} : fIntS (.bool b) Q = Q (.int (if b then 1 else 0)) := id rfl
theorem fIntS_s {z : Str} {Q : PyData → Prop} : fIntS (.str z) Q = ∃ n, PySem.intText? z = some n ∧ z.length ≤ 640 ∧ Q (.int n) := id rfl
theorem d_intS (hm : X.mg "int" = none) (ha : DV X a ta) (hg : Gl X "int" := by rfl) (he : starEach [a] X.env = (false, eval a X.env) :: starEach [] X.env := by rfl) (hpl : (backTo pos (starEach [] X.env)).any (·.1) = false := by rfl) : DE X (.Call (.Name "int" p) [a] [] pos) (u1 fIntS ta) := (by
  refine d_oneT (CallR.or call_int1 call_int_str) (fun B c s G H v x Q R st d1 h k => ?_) hm bb_int ha hg (by decide) (by decide) he hpl
  cases x with
  | int i => exact .inl (.inl ⟨i, by rw [dp_int (d1.dp st.sub)], k _ _ G H st (Same.refl _) (.int _) h⟩)
  | bool b => exact .inl (.inr ⟨b, by rw [dp_bl (d1.dp st.sub)], k _ _ G H st (Same.refl _) (.int _) h⟩)
  | str z =>
    obtain ⟨n, h1, h2, q⟩ := h
    exact .inr ⟨z, n, by rw [dp_str (d1.dp st.sub)], h1, h2, k _ _ G H st (Same.refl _) (.int _) q⟩
  | list _ => exact h.elim
  | tuple _ => exact h.elim
  | none => exact h.elim
  | dict _ => exact h.elim
  )
/-! ### list(range(..)) -/
/-! ### a < b < c -/
def uChain (f g : PyData → PyData → (PyData → Prop) → Prop) (ta tb tc : TD) : TD := fun c Q => ta c fun x c1 => tb c1 fun y c2 => f x y fun z => asB z fun k => if k = true then tc c2 fun w c3 => g y w fun z => Q z c3 else Q (.bool false) c2
section
variable {ce : Expr} {op op' : CmpOp} {r r' : R2} {f f' : PyData → PyData → (PyData → Prop) → Prop}
theorem chain_v {tea teb tec : TE} (ha : DEv X.K tea ta) (hb : DEv X.K teb tb) (hc : DEv X.K tec tc) (hr : OpD X.K r f) (hr' : OpD X.K r' f') : DEv X.K (tChain r r' tea teb tec) (uChain f f' ta tb tc) := (by
  intro B c s G H Q R st q k
  refine ha B c s G H _ _ st q fun v x c1 G1 H1 st1 e1 d1 q1 => ?_
  refine hb B c1 s G1 H1 _ _ st1 q1 fun w y c2 G2 H2 st2 e2 d2 q2 => ?_
  refine hr B c2 s G2 H2 v w x y _ _ st2 (dp_mono e2 _ _ d1) d2 q2 fun z d G3 H3 st3 e3 d3 q3 => ?_
  obtain ⟨b, rfl, q3⟩ := asB_of q3
  refine ⟨b, dp_bl d3, ?_⟩
  cases b with
  | true =>
    have q3 : if (true = true) then tc c2 fun w c3 => f' y w fun z => Q z c3 else Q (.bool false) c2 := q3
    rw [if_pos rfl] at q3 ⊢
    refine hc B c2 s G3 H3 _ _ st3 q3 fun u t c4 G4 H4 st4 e4 d4 q4 => ?_
    exact hr' B c4 s G4 H4 w u y t _ R st4 (dp_mono (e3.trans e4) _ _ d2) d4 q4 fun z d G5 H5 st5 e5 d5 q5 => k z d c4 G5 H5 st5 ((((e1.trans e2).trans e3).trans e4).trans e5) d5 q5
  | false =>
    have q3 : if (false = true) then tc c2 fun w c3 => f' y w fun z => Q z c3 else Q (.bool false) c2 := q3
    rw [if_neg Bool.false_ne_true] at q3 ⊢
    exact k _ _ c2 G3 H3 st3 ((e1.trans e2).trans e3) (.bl _) q3
  )
theorem d_chain (ho : OpR X (compareOp op) r) (ho' : OpR X (compareOp op') r') (hr : OpD X.K r f) (hr' : OpD X.K r' f') (ha : DE X a ta) (hb : DE X b tb) (hc : DE X ce tc) (hm : lastMarks [op, op'] [b, ce] = false := by with_unfolding_all rfl) : DE X (.Compare a [op, op'] [b, ce] pos) (uChain f f' ta tb tc) := (by
  obtain ⟨tea, pa, va⟩ := ha.ex
  obtain ⟨teb, pb, vb⟩ := hb.ex
  obtain ⟨tec, pc, vc⟩ := hc.ex
  exact ⟨_, pe_chain ho ho' pa pb pc hm, chain_v va vb vc hr hr'⟩
  )
theorem t_chain (ho : OpR X (compareOp op) r) (ho' : OpR X (compareOp op') r') (hr : OpD X.K r f) (hr' : OpD X.K r' f') (ha : DE X a ta) (hb : DE X b tb) (hc : DE X ce tc) (hm : lastMarks [op, op'] [b, ce] = false := by with_unfolding_all rfl) : DT X (.Compare a [op, op'] [b, ce] pos) (wB (uChain f f' ta tb tc)) := (by
  obtain ⟨tea, pa, va⟩ := ha.ex
  obtain ⟨teb, pb, vb⟩ := hb.ex
  obtain ⟨tec, pc, vc⟩ := hc.ex
  refine ⟨_, pt_chain ho ho' pa pb pc hm, fun B c s G H Q R st q k => chain_v va vb vc hr hr' B c s G H _ _ st q fun v x c1 G1 H1 st1 e1 d1 q1 => ?_⟩
  obtain ⟨b, rfl, q⟩ := asB_of q1
  exact ⟨b, dp_bl d1, k b c1 G1 H1 st1 e1 q⟩
  )
end

/-! ### zip, enumerate, reversed -/
end
end Dl

/-! Lists of owned lists: read, written, grown; a list so many times; join; sorted of texts, of pairs. -/
namespace Dl
open PySem PySem.Spec PyProof.Rows L2
section
variable {K : PySem.W.Frag} {B : Base} {G H : Hp} {c : Ctx} {s : L2.St}
/-- the owned thing on top given to the owned thing in slot j -/
theorem Stt.foc2 {Rt : Res} {vt : V} (st : Stt K B (.o none Rt :: c) (some vt :: s) G H) {j : Nat} {w : Option Lt} {R : Res} (e : c[j]? = some (.o w R)) : ∃ v A1 At, s[j]? = some (some v) ∧ R.P K G H v A1 ∧ Rt.P K G H vt At ∧ (A1 ++ At).Nodup ∧
    ∀ (H' : Hp) (R' : Res) (A1' : List Addr), (∀ a, a ∉ A1' → H' a = H a) → (∀ a ∈ A1', a ∈ A1 ∨ a ∈ At ∨ H a = none) → (∀ a ∈ A1', H' a ≠ none) → A1'.Nodup → R'.P K G H' v A1' → Stt K B (c.set j (.o w R')) s G H' := (by
  obtain ⟨A0, r0, wd⟩ := st.ex
  cases r0 with
  | @o _ _ _ _ _ At A hRt hWt r =>
  obtain ⟨nd1, nd2, nd3⟩ := List.nodup_append.mp wd.nd
  have hWt : ∀ a ∈ At, B.H0 a = none := hWt
  obtain ⟨v, A1, h1, h2, h3, h4, h5, k⟩ := r.focus nd2 e
  refine ⟨v, A1, At, h1, h2, hRt, List.nodup_append.mpr ⟨h4, nd1, fun a ha b hb z => nd3 b hb a (h5 a ha) z.symm⟩, fun H' R' A1' k1 k2 k3 k4 k5 => ?_⟩
  have kw : WOk B w v A1' := by
    cases w with
    | none =>
      intro a ha
      rcases k2 a ha with z | z | z
      · exact h3 a z
      · exact hWt a z
      · exact wd.dom a z
    | some u =>
      refine ⟨h3.1, fun a ha => ?_⟩
      rcases k2 a ha with z | z | z
      · exact h3.2 a z
      · exact .inr (hWt a z)
      · exact .inr (wd.dom a z)
  have hAt : ∀ a ∈ At, a ∉ A := fun a ha z => nd3 a ha a z rfl
  have kk : ∀ a ∈ A, a ∉ A1 → H' a = H a := fun a ha hn => k1 a fun z => by
    rcases k2 a z with y | y | y
    · exact hn y
    · exact hAt a y ha
    · exact r.here a ha y
  obtain ⟨A', r', n, q⟩ := k (G' := G) (H' := H') (R' := R') (w' := w) (A1' := A1') (Same.refl _) kk k5 kw k4 (fun a ha => by
    rcases k2 a ha with z | z | z
    · exact .inl z
    · exact .inr (hAt a z)
    · exact .inr fun y => r.here a y z)
  have inA : ∀ a ∈ A', (a ∈ A1' ∧ (a ∈ A1 ∨ a ∈ At ∨ H a = none)) ∨ (a ∈ A ∧ a ∉ A1) := fun a ha => (q a ha).imp (fun z => ⟨z, k2 a z⟩) id
  refine ⟨A', r', fun a o z => ?_, n, fun a ha => ?_, wd.old, fun a o z hn => ?_, fun a z => ?_, wd.newG, fun a ha => ?_⟩
  · have ha : a ∉ A1' := fun y => by
      rcases k2 a y with x | x | x
      · rw [wd.out a (List.mem_append_right _ (h5 a x))] at z; cases z
      · rw [wd.out a (List.mem_append_left _ x)] at z; cases z
      · rw [wd.sub a o z] at x; cases x
    rw [k1 a ha]; exact wd.sub a o z
  · rcases inA a ha with ⟨_, z | z | z⟩ | ⟨z, _⟩
    · exact wd.out a (List.mem_append_right _ (h5 a z))
    · exact wd.out a (List.mem_append_left _ z)
    · exact wd.sub.free z
    · exact wd.out a (List.mem_append_right _ z)
  · have hs := wd.stay a o z hn
    have ha : a ∉ A1' := fun y => by
      rcases k2 a y with x | x | x
      · rcases wd.lim a (List.mem_append_right _ (h5 a x)) with u | u
        · exact hn u
        · rw [u] at z; cases z
      · rw [hWt a x] at z; cases z
      · rw [hs] at x; cases x
    rw [k1 a ha]; exact hs
  · have ha : a ∉ A1' := fun y => k3 a y z
    rw [k1 a ha] at z
    exact wd.dom a z
  · rcases inA a ha with ⟨_, z | z | z⟩ | ⟨z, _⟩
    · exact wd.lim a (List.mem_append_right _ (h5 a z))
    · exact wd.lim a (List.mem_append_left _ z)
    · exact .inr (wd.dom a z)
    · exact wd.lim a (List.mem_append_right _ z)
  )
end
section
variable {X : Cx} {a b e : Expr} {ta tb te : TD} {to : TR} {pos cpos apos p p1 p2 : Pos} {x : Str}
/-! ### a new list so many times -/
def repD (ds : List PyData) (k : Int) : List PyData := (List.replicate k.toNat ds).flatten
def oRep (to : TR) (tb : TD) : TR := fun c Q => to c fun R c1 => asR R fun ds => tb c1 fun y c2 => asI y fun k => -(2 ^ 63) ≤ k ∧ k < 2 ^ 63 ∧ ds.length * k.toNat ≤ sizeLine ∧ Q (.lst (repD ds k)) c2
theorem dpa_flat {K : PySem.W.Frag} {G : Hp} {vs : List V} {ds : List PyData} (h : DpAll K G vs ds) : ∀ n : Nat, DpAll K G (List.replicate n vs).flatten (List.replicate n ds).flatten
  | 0 => .nil
  | n + 1 => by
    rw [List.replicate_succ, List.replicate_succ, List.flatten_cons, List.flatten_cons]
    exact dpa_app h (dpa_flat h n)
theorem o_rep (ha : DO X a to) (hb : DE X b tb) : DO X (.BinOp a .Mult b pos) (oRep to tb) := (by
  obtain ⟨tea, pa, va⟩ := ha.ex
  obtain ⟨teb, pb, vb⟩ := hb.ex
  refine ⟨_, pe_op op_rep pa pb, fun B c s G H Q R st q k => va B c s G H _ _ st q fun v Rv c1 G1 H1 st1 e1 q1 => ?_⟩
  obtain ⟨ds, rfl, q1⟩ := asR_of q1
  obtain ⟨A1, B', ⟨p, vs, rfl, rfl, h1, h2⟩, stU, back⟩ := st1.underR
  refine vb B' c1 s G1 H1 _ _ stU q1 fun y0 y c2 G2 H2 st2 e2 d2 q2 => ?_
  obtain ⟨e3, hk, st3⟩ := back _ _ _ _ st2
  obtain ⟨n, rfl, b1, b2, b3, q3⟩ := asI_of q2
  refine ⟨p, n, vs, rfl, dp_int d2, (hk p (by simp)).trans h1, b1, b2, by rw [dpa_len h2]; exact b3, fun l hl => ?_⟩
  exact k _ _ _ _ _ (st3.pop.laidL hl (dpa_flat (dpa_mono e3 _ _ h2) n.toNat)) (e1.trans e3) q3
  )
/-! ### join, sorted of texts, of pairs of numbers -/
def fJoin : PyData → PyData → (PyData → Prop) → Prop := fun x y Q => asS x fun z => asL y fun ds => asSs ds fun ys => (ys.map (·.length)).sum + ys.length * z.length ≤ 16777216 ∧ Q (.str (Txt.join z ys))
def uV2 (f : PyData → PyData → (PyData → Prop) → Prop) (ta tb : TD) : TD := fun c Q => ta c fun x c1 => tb c1 fun y c2 => f x y fun z => Q z c2
theorem d_join (ha : DE X a ta) (hb : DV X b tb) (hstr : ∀ c Q, ta c Q → ta c fun x c1 => isStrD x = true ∧ Q x c1) (hbase : attributeBase a "join" X.env (eval a X.env) = eval a X.env := by rfl)
    (hfew : ((backTo cpos (starEach [b] X.env)).all (fun x => !x.1) && (backToKw cpos (keywordEach [] X.env)).all (fun x => x.1.isSome)
      && decide ([b].length + ([] : List Keyword).length + (if ([] : List Keyword).isEmpty then 0 else 1) < 30)) = true := by rfl)
    (hline : (apos.endLine == cpos.line) = true := by rfl) (hs : starEach [b] X.env = (false, eval b X.env) :: starEach [] X.env := by rfl) (hplain : (backTo cpos (starEach [] X.env)).any (·.1) = false := by rfl) :
    DE X (.Call (.Attribute a "join" apos) [b] [] cpos) (uV2 fJoin ta tb) := (by
  obtain ⟨tea, pa, va⟩ := ha.ex
  obtain ⟨teb, pb, vb⟩ := hb.ex
  refine ⟨_, pe_bm F.plainAttrs_str F.slot_str_join F.type_str_join mt_join pa (pa_cons pb pa_nil hs) hbase hfew hline hs hplain, fun B c s G H Q R st q k => ?_⟩
  refine va B c s G H _ _ st (hstr _ _ q) fun v x c1 G1 H1 st1 e1 d1 ⟨hx, q1⟩ => ?_
  cases x with
  | str z =>
    have hv := dp_str d1
    subst hv
    refine ⟨rfl, vb B c1 s G1 H1 _ _ st1 q1 fun w y c2 G2 H2 st2 e2 d2 q2 => ?_⟩
    obtain ⟨ds, rfl, ys, rfl, hl, q3⟩ := asL_of q2
    obtain ⟨p, rfl, hp⟩ := d2.strs st2.sub
    exact ⟨z, p, ys, rfl, rfl, .inl hp, hl, k _ _ c2 G2 H2 st2 (e1.trans e2) (.str _) q3⟩
  | _ => exact absurd hx (by simp [isStrD])
  )
def fSortS : PyData → (Res → Prop) → Prop := fun x Q => asL x fun ds => asSs ds fun ns => ns.length < 64 ∧ ∀ ns' : List Str, ns'.Perm ns → sortedS ns' = true → Q (.lst (ns'.map PyData.str))
theorem o_sortS (hm : X.mg "sorted" = none) (ha : DV X a ta) (hg : Gl X "sorted" := by rfl) (he : starEach [a] X.env = (false, eval a X.env) :: starEach [] X.env := by rfl) (hpl : (backTo pos (starEach [] X.env)).any (·.1) = false := by rfl) : DO X (.Call (.Name "sorted" p) [a] [] pos) (o1 fSortS ta) := (by
  refine o_oneB cr_sortedS (fun B c s G H v x Q R st d h k => ?_) hm (by decide +kernel) ha hg (by decide) (by decide) he hpl
  obtain ⟨ds, rfl, ns, rfl, hl, q⟩ := asL_of h
  obtain ⟨p, rfl, hs⟩ := d.strs st.sub
  exact ⟨p, ns, rfl, hs, hl, fun ns' l h1 h2 hn => k _ _ _ _ (st.laidL hn (dpa_strs ns')) (Same.refl _) (q ns' h1 h2)⟩
  )
end
end Dl

/-! Words, layers, bores: what the laws' drawn things are. -/
namespace Dl
open PySem PySem.Spec PyProof.Rows L2

/-! ### things lent and not changed -/
/-- a slot where a list is seen: data, or lent -/
def Lk (X : S) (ds : List PyData) : Prop := X = .d (.list ds) ∨ ∃ u, X = .o (some u) (.lst ds)
def pat1 : S → Option (Lt × Res)
  | .o (some u) R => some (u, R)
  | _ => none
theorem lk_o {u : Lt} {ds : List PyData} {ds' : List PyData} : Lk (.o (some u) (.lst ds)) ds' ↔ ds' = ds := ⟨fun h => by rcases h with h | ⟨u, h⟩ <;> cases h; rfl, fun h => by subst h; exact .inr ⟨u, rfl⟩⟩
theorem lk_facts {X : S} {ds : List PyData} (h : Lk X ds) : (∀ (c : Ctx) (P : PyData → Prop), slW (X :: c) 0 P = P (.list ds)) ∧ ∀ c : Ctx, hasS (X :: c) 0 = True := (by
  rcases h with rfl | ⟨u, rfl⟩ <;> exact ⟨fun _ _ => rfl, fun _ => rfl⟩
  )
theorem pat_nil {c' : Ctx} : Pat [] c' := ⟨Nat.zero_le _, by simp⟩
theorem pat_cons {X : S} {ls : List (Option (Lt × Res))} {c' : Ctx} (h : Pat ls c') : Pat (pat1 X :: ls) (X :: c') := ⟨by have := h.1; simpa using this, fun i u R e => by
  cases i with
  | zero =>
    have e' : pat1 X = some (u, R) := by simpa using e
    cases X with
    | o w R' =>
      cases w with
      | none => cases e'
      | some w => cases e'; rfl
    | _ => cases e'
  | succ i => simpa using h.2 i u R (by simpa using e)⟩
theorem pat_consN {X : S} {ls : List (Option (Lt × Res))} {c' : Ctx} (h : Pat ls c') : Pat (none :: ls) (X :: c') := ⟨by have := h.1; simpa using this, fun i u R e => by
  cases i with
  | zero => simp at e
  | succ i => simpa using h.2 i u R (by simpa using e)⟩
theorem pat_consO {u : Lt} {R : Res} {ls : List (Option (Lt × Res))} {c' : Ctx} (h : Pat ls c') : Pat (some (u, R) :: ls) (.o (some u) R :: c') := pat_cons (X := .o (some u) R) h

/-! ### words -/
def chOk (n : Nat) : Bool := decide (97 ≤ n) && decide (n ≤ 122)
def WordOk (w : Str) : Prop := 1 ≤ w.cps.size ∧ w.cps.size ≤ 8 ∧ w.cps.toList.all chOk = true
theorem word_len {w : Str} (h : WordOk w) : w.length ≤ 8 := h.2.1
theorem strOk_of {w : Str} (h : w.cps.toList.all chOk = true) : PyData.strOk w = true := (by
  rw [List.all_eq_true] at h
  unfold PyData.strOk
  rw [Array.all_eq_true_iff_forall_mem]
  intro n hn
  have := h n (Array.mem_toList_iff.mpr hn)
  unfold chOk at this
  rw [Bool.and_eq_true, decide_eq_true_eq, decide_eq_true_eq] at this
  exact decide_eq_true (by omega)
  )
theorem word_ok {w : Str} (h : WordOk w) : PyData.strOk w = true := strOk_of h.2.2
theorem sh_strs {ws : List Str} (h : ∀ w ∈ ws, PyData.strOk w = true) : Sh 64 (.list (ws.map PyData.str)) := sh_list.mpr fun d hd => by
  obtain ⟨w, hw, rfl⟩ := List.mem_map.mp hd
  exact sh_str.mpr (h w hw)
theorem any_str {ws : List Str} {w : Str} : ((ws.map PyData.str).any fun z => PyData.eqv z (.str w)) = decide (w ∈ ws) := (by
  induction ws with
  | nil => simp
  | cons a ws ih =>
    rw [List.map_cons, List.any_cons, ih, eqv_str]
    by_cases h : a = w
    · subst h; simp
    · have h' : w ≠ a := fun z => h z.symm
      rw [beq_eq_false_iff_ne.mpr h, Bool.false_or]
      simp [h']
  )
theorem str_inj {ws ws' : List Str} (h : ws.map PyData.str = ws'.map PyData.str) : ws = ws' := (List.map_inj_right (fun x y z => by injection z)).mp h
theorem insD_map {α : Type} (f : α → PyData) (ws : List α) (n : Nat) (w : α) : insD (ws.map f) n (f w) = (ws.take n ++ [w] ++ ws.drop n).map f := (by
  unfold insD
  rw [List.map_append, List.map_append, List.map_take, List.map_drop]; rfl
  )
theorem mem_ins {α : Type} {ws : List α} {n : Nat} {w x : α} : x ∈ ws.take n ++ [w] ++ ws.drop n ↔ x = w ∨ x ∈ ws := (by
  have : x ∈ ws ↔ x ∈ ws.take n ∨ x ∈ ws.drop n := by
    conv => lhs; rw [← List.take_append_drop n ws]
    exact List.mem_append
  rw [this, List.mem_append, List.mem_append, List.mem_singleton]
  constructor
  · rintro ((h | h) | h)
    · exact .inr (.inl h)
    · exact .inl h
    · exact .inr (.inr h)
  · rintro (h | h | h)
    · exact .inl (.inr h)
    · exact .inl (.inl h)
    · exact .inr h
  )
theorem len_ins {α : Type} {ws : List α} {n : Nat} {w : α} : (ws.take n ++ [w] ++ ws.drop n).length = ws.length + 1 := (by
  rw [List.length_append, List.length_append, List.length_take, List.length_drop, List.length_singleton]
  omega
  )
theorem perm_ins {α : Type} {ws : List α} {n : Nat} {w : α} : (ws.take n ++ [w] ++ ws.drop n).Perm (w :: ws) := (by
  have h1 : (ws.take n ++ [w] ++ ws.drop n).Perm (([w] ++ ws.take n) ++ ws.drop n) := (List.perm_append_comm).append_right _
  have e : ([w] ++ ws.take n) ++ ws.drop n = w :: ws := by
    rw [List.append_assoc, List.take_append_drop]; rfl
  rw [e] at h1
  exact h1
  )
theorem nodup_ins {α : Type} {ws : List α} {n : Nat} {w : α} (h : ws.Nodup) (hw : w ∉ ws) : (ws.take n ++ [w] ++ ws.drop n).Nodup := perm_ins.nodup_iff.mpr (List.nodup_cons.mpr ⟨hw, h⟩)
/-- a word longer by one letter; a word's begin -/
theorem cut_word {w : Str} (h : WordOk w) (k : Nat) (hk : 1 ≤ k) : WordOk (cutS w none (some (k : Int))) := (by
  obtain ⟨h1, h2, h3⟩ := h
  have e1 : HT.sIx w.length 0 none = 0 := rfl
  have e2 : HT.sIx w.length w.length (some (k : Int)) = min k w.length := by
    unfold HT.sIx
    simp
    omega
  have hs : 1 ≤ w.length := h1
  unfold cutS
  rw [e1, e2]
  refine ⟨?_, ?_, ?_⟩
  · simp [Str.length] at hs ⊢; omega
  · simp [Str.length] at h2 ⊢; omega
  · rw [List.all_eq_true] at h3 ⊢
    intro n hn
    simp at hn
    exact h3 n (List.mem_of_mem_take hn)
  )
theorem cut_few (w : Str) (k : Nat) : (cutS w none (some (k : Int))).cps.size ≤ k := (by
  have e1 : HT.sIx w.length 0 none = 0 := rfl
  have e2 : HT.sIx w.length w.length (some (k : Int)) = min k w.length := by
    unfold HT.sIx
    simp
    omega
  unfold cutS
  rw [e1, e2]
  simp; omega
  )
theorem atD_mem {ds : List PyData} {k : Int} {Q : PyData → Prop} (h0 : 0 ≤ k) (h1 : k < ds.length) (h : ∀ d ∈ ds, Q d) : atD ds k Q := (by
  have hk : k.toNat < ds.length := by omega
  exact ⟨ds[k.toNat], by rw [atI_of h0 h1, List.getElem?_eq_getElem hk], h _ (List.getElem_mem _)⟩
  )
theorem atD_get {ns : List Str} {i : Nat} {Q : PyData → Prop} (hi : i < ns.length) (h : ∀ z, ns[i]? = some z → Q (.str z)) : atD (ns.map PyData.str) (0 + (i : Int)) Q := (by
  rw [Int.zero_add]
  exact ⟨.str ns[i], atI_nat (by rw [List.getElem?_map, List.getElem?_eq_getElem hi]; rfl), h _ (List.getElem?_eq_getElem hi)⟩
  )
theorem nodup_len {α : Type} [DecidableEq α] : ∀ {l m : List α}, l.Nodup → (∀ x ∈ l, x ∈ m) → l.length ≤ m.length
  | [], m, _, _ => Nat.zero_le _
  | a :: l, m, nd, h => by
    obtain ⟨n1, n2⟩ := List.nodup_cons.mp nd
    have ha := h a List.mem_cons_self
    have h2 : l.length ≤ (m.erase a).length := nodup_len n2 fun x hx => (List.mem_erase_of_ne fun z => n1 (by rw [← z]; exact hx)).mpr (h x (List.mem_cons_of_mem _ hx))
    rw [List.length_erase_of_mem ha] at h2
    have := List.length_pos_of_mem ha
    rw [List.length_cons]
    omega

/-! ### numbers drawn -/
/-- 10 ** 59 -/
def big : Int := 10 ^ 59
theorem big_pos : 0 < big := by decide
/-! ### layers, bores -/
def lyD (l : Str × Int) : PyData := .tuple [.str l.1, .int l.2]
def blD (k : List (Str × Int)) : PyData := .tuple (k.map lyD)
structure Bo where
  nm : Str
  at_ : Int
  top : Int
  bl : List (List (Str × Int))
def boD (b : Bo) : PyData := .tuple [.str b.nm, .int b.at_, .int b.top, .tuple (b.bl.map blD)]
def Bo.lays (b : Bo) : List (Str × Int) := b.bl.flatten
/-- blocks of layers with marks of ms -/
structure BlOk (ms : List Str) (bl : List (List (Str × Int))) : Prop where
  ne : bl ≠ []
  each : ∀ k ∈ bl, k ≠ []
  few : bl.flatten.length ≤ 6
  some_ : 1 ≤ bl.flatten.length
  ly : ∀ l ∈ bl.flatten, l.1 ∈ ms ∧ 1 ≤ l.2 ∧ l.2 ≤ big
structure BoOk (ms : List Str) (b : Bo) : Prop where
  bl : BlOk ms b.bl
  at0 : 0 ≤ b.at_
  atB : b.at_ ≤ 100 * big
  top0 : 0 ≤ b.top
  topB : b.top ≤ big
/-- bores of these names -/
structure BosOk (ns ms : List Str) (bs : List Bo) : Prop where
  nm : (bs.map Bo.nm).Perm ns
  each : ∀ b ∈ bs, BoOk ms b
  far : (bs.map Bo.at_).Nodup
/-- pairs, both numbers rising, from i and j on -/
def PpOk (n m : Nat) : Nat → Nat → List (Nat × Nat) → Prop
  | _, _, [] => True
  | i, j, (a, b) :: ps => i ≤ a ∧ j ≤ b ∧ a < n ∧ b < m ∧ PpOk n m (a + 1) (b + 1) ps
/-- two bores, pairs of their layers, a place -/
structure TwoOk (l r : Bo) (ps : List (Nat × Nat)) (pl : Int) : Prop where
  okL : ∃ ms, BoOk ms l
  okR : ∃ ms, BoOk ms r
  lt : l.at_ < r.at_
  pp : PpOk l.lays.length r.lays.length 0 0 ps
  few : ps.length ≤ 6
  lo : l.at_ ≤ pl
  hi : pl ≤ r.at_
section
variable {b : Bo} {Q : PyData → Prop}
theorem ixbo_0 : ixD (boD b) 0 Q = Q (.str b.nm) := by unfold boD; rw [ixD_t, atD_0]
theorem ixbo_1 : ixD (boD b) 1 Q = Q (.int b.at_) := by unfold boD; rw [ixD_t, atD_1]
theorem ixbo_2 : ixD (boD b) 2 Q = Q (.int b.top) := by unfold boD; rw [ixD_t, atD_2]
theorem ixbo_3 : ixD (boD b) 3 Q = Q (.tuple (b.bl.map blD)) := by unfold boD; rw [ixD_t, atD_3]
end

/-! ### what is told by data is told by what it is of -/
/-! ### items of a list that is told by another one -/
theorem map_get {α β : Type} {f : α → β} {xs : List α} {i : Nat} {y : β} (h : (xs.map f)[i]? = some y) : ∃ x, xs[i]? = some x ∧ f x = y := (by
  rw [List.getElem?_map] at h
  cases e : xs[i]? with
  | none => rw [e] at h; cases h
  | some x => rw [e] at h; exact ⟨x, rfl, Option.some.inj h⟩
  )
theorem take_map {α β : Type} {f : α → β} {xs : List α} {i : Nat} {x : α} (h : xs[i]? = some x) : (xs.take (i + 1)).map f = (xs.take i).map f ++ [f x] := (by
  rw [List.take_add_one, h, List.map_append]; rfl
  )
theorem drop_get {α : Type} {xs : List α} {i : Nat} {x : α} (h : xs[i]? = some x) : xs.drop i = x :: xs.drop (i + 1) := (by
  obtain ⟨hi, e⟩ := List.getElem?_eq_some_iff.mp h
  rw [List.drop_eq_getElem_cons hi, e]
  )
theorem get_lt {α : Type} {xs : List α} {i : Nat} {x : α} (h : xs[i]? = some x) : i < xs.length := (List.getElem?_eq_some_iff.mp h).1
theorem get_mem {α : Type} {xs : List α} {i : Nat} {x : α} (h : xs[i]? = some x) : x ∈ xs := List.mem_of_getElem? h
/-- an item by its place -/
theorem atD_nat {ds : List PyData} {i : Nat} {d : PyData} {Q : PyData → Prop} (h : ds[i]? = some d) (q : Q d) : atD ds (i : Int) Q := ⟨d, atI_nat h, q⟩
theorem atD_map {α : Type} {f : α → PyData} {xs : List α} {i : Nat} {x : α} {Q : PyData → Prop} (h : xs[i]? = some x) (q : Q (f x)) : atD (xs.map f) (i : Int) Q := atD_nat (by rw [List.getElem?_map, h]; rfl) q
/-- slices by natural numbers -/
theorem sIx_nat (n d k : Nat) : HT.sIx n d (some (k : Int)) = min k n := (by
  unfold HT.sIx
  simp
  omega
  )
/-! ### comprehensions over a list that is told by another one -/
theorem comp_fmm {α : Type} {g : α → PyData} {xs : List α} {vs : List Nat} {tg : TGd} {tt : TB} {te : TD} {c1 : Ctx} {Q : List PyData → Ctx → Prop} (p : α → Bool) (f : α → PyData) (hl : xs.length ≤ sizeLine)
    (h : ∀ x ∈ xs, ∀ (N : PyData → Ctx → Prop) (M : Ctx → Prop), (p x = true → ∀ c, clr vs c = clr vs c1 → N (f x) c) → (p x = false → ∀ c, clr vs c = clr vs c1 → M c) → tg (g x) (clr vs c1) fun c2 => tt c2 fun b c3 => if b = true then te c3 N else M c3)
    (q : Q ((xs.filter p).map f) (Dl.rest c1 vs (clr2 vs (clr vs c1)))) : zComp vs tg tt te (xs.map g) c1 Q := (by
  refine comp_by (fun i acc c => c = clr vs c1 ∧ acc = ((xs.take i).filter p).map f) ⟨rfl, by simp⟩ (fun i y acc c N M hy hI hN hM => ?_) fun acc c hI => ?_
  · obtain ⟨rfl, rfl⟩ := hI
    obtain ⟨x, hx, rfl⟩ := map_get hy
    have hi : i < xs.length := get_lt hx
    have e : xs.take (i + 1) = xs.take i ++ [x] := by rw [List.take_add_one, hx]; rfl
    have hacc : (((xs.take i).filter p).map f).length < sizeLine := by
      have h1 := List.length_filter_le p (xs.take i)
      rw [List.length_take] at h1
      rw [List.length_map]
      omega
    refine h x (get_mem hx) N M (fun hp c hc => hN _ c hacc ⟨hc, ?_⟩) fun hp c hc => hM c ⟨hc, ?_⟩
    · rw [e, List.filter_append, List.map_append, List.filter_cons_of_pos hp, List.filter_nil]; rfl
    · rw [e, List.filter_append, List.map_append, List.filter_cons_of_neg (by rw [hp]; exact Bool.false_ne_true), List.filter_nil]; simp
  · obtain ⟨rfl, rfl⟩ := hI
    rw [List.length_map, List.take_length]
    exact q
  )
theorem comp_mm {α : Type} {g : α → PyData} {xs : List α} {vs : List Nat} {tg : TGd} {te : TD} {c1 : Ctx} {Q : List PyData → Ctx → Prop} (f : α → PyData) (hl : xs.length ≤ sizeLine)
    (h : ∀ x ∈ xs, ∀ (N : PyData → Ctx → Prop), (∀ c, clr vs c = clr vs c1 → N (f x) c) → tg (g x) (clr vs c1) fun c2 => te c2 N)
    (q : Q (xs.map f) (Dl.rest c1 vs (clr2 vs (clr vs c1)))) : zComp vs tg bYes te (xs.map g) c1 Q := (by
  refine comp_fmm (fun _ => true) f hl (fun y hy N M hN _ => ?_) ?_
  · have := h y hy N (hN rfl)
    exact this
  · rw [List.filter_eq_self.mpr fun _ _ => rfl]
    exact q
  )
/-! ### == of data without truths -/
mutual
def nb : PyData → Bool
  | .none => true
  | .int _ => true
  | .str _ => true
  | .list ds => nbAll ds
  | .tuple ds => nbAll ds
  | .bool _ => false
  | .dict _ => false
def nbAll : List PyData → Bool
  | [] => true
  | x :: xs => nb x && nbAll xs
end
theorem nbAll_iff : ∀ {ds : List PyData}, nbAll ds = true ↔ ∀ d ∈ ds, nb d = true
  | [] => by simp [nbAll]
  | x :: xs => by
    rw [nbAll, Bool.and_eq_true, nbAll_iff]
    simp
theorem nb_list {ds : List PyData} : nb (.list ds) = true ↔ ∀ d ∈ ds, nb d = true := by rw [nb, nbAll_iff]
theorem nb_tuple {ds : List PyData} : nb (.tuple ds) = true ↔ ∀ d ∈ ds, nb d = true := by rw [nb, nbAll_iff]
mutual
theorem eqv_iff : ∀ (x y : PyData), nb x = true → nb y = true → (PyData.eqv x y = true ↔ x = y)
  | .none, y, _, hy => by cases y <;> simp [PyData.eqv]
  | .int i, y, _, hy => by cases y <;> simp [PyData.eqv] <;> simp [nb] at hy
  | .str i, y, _, hy => by cases y <;> simp [PyData.eqv]
  | .list xs, y, hx, hy => by
    cases y with
    | list ys => rw [eqv_list, eqvAll_iff xs ys hx hy]; simp
    | _ => simp [PyData.eqv]
  | .tuple xs, y, hx, hy => by
    cases y with
    | tuple ys => rw [eqv_tuple, eqvAll_iff xs ys hx hy]; simp
    | _ => simp [PyData.eqv]
  | .bool _, _, hx, _ => by simp [nb] at hx
  | .dict _, _, hx, _ => by simp [nb] at hx
theorem eqvAll_iff : ∀ (xs ys : List PyData), nbAll xs = true → nbAll ys = true → (PyData.eqvAll xs ys = true ↔ xs = ys)
  | [], ys, _, hy => by cases ys <;> simp [PyData.eqvAll]
  | x :: xs, ys, hx, hy => by
    cases ys with
    | nil => simp [PyData.eqvAll]
    | cons y ys =>
      rw [nbAll, Bool.and_eq_true] at hx hy
      rw [eqvAll_cons, Bool.and_eq_true, eqv_iff x y hx.1 hy.1, eqvAll_iff xs ys hx.2 hy.2]
      simp
end
noncomputable instance decPD : DecidableEq PyData := fun a b => Classical.propDecidable (a = b)
theorem eqv_dec {x y : PyData} (hx : nb x = true) (hy : nb y = true) : PyData.eqv x y = decide (x = y) := (by
  rw [Bool.eq_iff_iff, eqv_iff x y hx hy, decide_eq_true_eq]
  )
theorem eqvAll_dec {x y : List PyData} (hx : nbAll x = true) (hy : nbAll y = true) : PyData.eqvAll x y = decide (x = y) := (by
  rw [Bool.eq_iff_iff, eqvAll_iff x y hx hy, decide_eq_true_eq]
  )
/-- data laid out, told apart, both at once: plain data, at most n deep -/
def Pl (n : Nat) (d : PyData) : Prop := Sh n d ∧ nb d = true
theorem pl_int {n : Nat} {i : Int} : Pl n (.int i) := ⟨sh_int.mpr trivial, rfl⟩
theorem pl_str {n : Nat} {w : Str} (h : PyData.strOk w = true) : Pl n (.str w) := ⟨sh_str.mpr h, rfl⟩
theorem pl_list {n : Nat} {ds : List PyData} (h : ∀ d ∈ ds, Pl n d) : Pl (n + 1) (.list ds) := ⟨sh_list.mpr fun d hd => (h d hd).1, nb_list.mpr fun d hd => (h d hd).2⟩
theorem pl_tuple {n : Nat} {ds : List PyData} (h : ∀ d ∈ ds, Pl n d) : Pl (n + 1) (.tuple ds) := ⟨sh_tuple.mpr fun d hd => (h d hd).1, nb_tuple.mpr fun d hd => (h d hd).2⟩
theorem pl_map {α : Type} {f : α → PyData} {n : Nat} {xs : List α} (h : ∀ x ∈ xs, Pl n (f x)) : Pl (n + 1) (.list (xs.map f)) := pl_list fun d hd => by
  obtain ⟨x, hx, rfl⟩ := List.mem_map.mp hd
  exact h x hx
theorem pl_mapT {α : Type} {f : α → PyData} {n : Nat} {xs : List α} (h : ∀ x ∈ xs, Pl n (f x)) : Pl (n + 1) (.tuple (xs.map f)) := pl_tuple fun d hd => by
  obtain ⟨x, hx, rfl⟩ := List.mem_map.mp hd
  exact h x hx
theorem pl_t2 {n : Nat} {x y : PyData} (h1 : Pl n x) (h2 : Pl n y) : Pl (n + 1) (.tuple [x, y]) := pl_tuple fun d hd => by
  simp at hd; rcases hd with rfl | rfl <;> assumption
theorem pl_t3 {n : Nat} {x y z : PyData} (h1 : Pl n x) (h2 : Pl n y) (h3 : Pl n z) : Pl (n + 1) (.tuple [x, y, z]) := pl_tuple fun d hd => by
  simp at hd; rcases hd with rfl | rfl | rfl <;> assumption
theorem pl_t4 {n : Nat} {x y z u : PyData} (h1 : Pl n x) (h2 : Pl n y) (h3 : Pl n z) (h4 : Pl n u) : Pl (n + 1) (.tuple [x, y, z, u]) := pl_tuple fun d hd => by
  simp at hd; rcases hd with rfl | rfl | rfl | rfl <;> assumption
theorem Pl.mono {n m : Nat} {d : PyData} (h : Pl n d) (hm : n ≤ m) : Pl m d := ⟨h.1.mono hm, h.2⟩
theorem Pl.sh {n : Nat} {d : PyData} (h : Pl n d) (hm : n ≤ 64 := by decide) : Sh 64 d := h.1.mono hm
theorem Pl.eqv {n m : Nat} {x y : PyData} (hx : Pl n x) (hy : Pl m y) : PyData.eqv x y = decide (x = y) := eqv_dec hx.2 hy.2
theorem Pl.self {n : Nat} {x : PyData} (hx : Pl n x) : PyData.eqv x x = true := by rw [hx.eqv hx]; simp
theorem Pl.eqvT {n m : Nat} {x y : List PyData} (hx : Pl n (.tuple x)) (hy : Pl m (.tuple y)) : PyData.eqvAll x y = decide (x = y) := eqvAll_dec hx.2 hy.2
theorem Pl.selfT {n : Nat} {x : List PyData} (hx : Pl n (.tuple x)) : PyData.eqvAll x x = true := by rw [hx.eqvT hx]; simp
end Dl

/-! Likenings: rows of n and m places, p the points of two places. -/
namespace Dl
/-- the greatest worth, a and b places left -/
def wR (p : Nat → Nat → Int) (n m : Nat) : Nat → Nat → Int
  | 0, _ => 0
  | _ + 1, 0 => 0
  | a + 1, b + 1 => if 0 < p (n - (a + 1)) (m - (b + 1)) then max (max (wR p n m a (b + 1)) (wR p n m (a + 1) b)) (p (n - (a + 1)) (m - (b + 1)) + wR p n m a b) else max (wR p n m a (b + 1)) (wR p n m (a + 1) b)
termination_by a b => a + b
/-- .. from the places i and j on -/
def wN (p : Nat → Nat → Int) (n m i j : Nat) : Int := wR p n m (n - i) (m - j)
section
variable {p : Nat → Nat → Int} {n m : Nat}
/-- a pair with which the worth is kept -/
def Keeps (p : Nat → Nat → Int) (n m i j a b : Nat) : Prop := i ≤ a ∧ a < n ∧ j ≤ b ∧ b < m ∧ 0 < p a b ∧ p a b + wN p n m (a + 1) (b + 1) = wN p n m i j
/-- the first one -/
structure IsFst (p : Nat → Nat → Int) (n m i j a b : Nat) : Prop where
  keeps : Keeps p n m i j a b
  first : ∀ a' b', Keeps p n m i j a' b' → a < a' ∨ (a = a' ∧ b ≤ b')
theorem IsFst.uniq {i j a b a' b' : Nat} (h : IsFst p n m i j a b) (h' : IsFst p n m i j a' b') : a = a' ∧ b = b' := (by
  have h1 := h.first a' b' h'.keeps
  have h2 := h'.first a b h.keeps
  omega
  )
/-- the first likening of the greatest worth -/
inductive IsLik (p : Nat → Nat → Int) (n m : Nat) : Nat → Nat → List (Nat × Nat) → Prop
  | nil {i j : Nat} : ¬ 0 < wN p n m i j → IsLik p n m i j []
  | cons {i j a b : Nat} {ps : List (Nat × Nat)} : 0 < wN p n m i j → IsFst p n m i j a b → IsLik p n m (a + 1) (b + 1) ps → IsLik p n m i j ((a, b) :: ps)
theorem IsLik.uniq : ∀ {ps qs : List (Nat × Nat)} {i j : Nat}, IsLik p n m i j ps → IsLik p n m i j qs → ps = qs
  | [], [], _, _, _, _ => rfl
  | [], q :: qs, _, _, h, h' => by
    cases h with
    | nil h1 => cases h' with
      | cons h2 => exact absurd h2 h1
  | q :: qs, [], _, _, h, h' => by
    cases h' with
    | nil h1 => cases h with
      | cons h2 => exact absurd h2 h1
  | (a, b) :: ps, (a', b') :: qs, _, _, h, h' => by
    cases h with
    | cons _ h1 h2 => cases h' with
      | cons _ h3 h4 =>
        obtain ⟨rfl, rfl⟩ := h1.uniq h3
        rw [IsLik.uniq h2 h4]
theorem IsLik.few : ∀ {ps : List (Nat × Nat)} {i j : Nat}, IsLik p n m i j ps → ps.length ≤ n - i ∧ ∀ q ∈ ps, i ≤ q.1 ∧ q.1 < n ∧ j ≤ q.2 ∧ q.2 < m
  | [], _, _, _ => ⟨Nat.zero_le _, fun q hq => absurd hq List.not_mem_nil⟩
  | (a, b) :: ps, i, j, h => by
    cases h with
    | cons _ h1 h2 =>
      obtain ⟨k1, k2, k3, k4, _⟩ := h1.keeps
      obtain ⟨g1, g2⟩ := IsLik.few h2
      refine ⟨by rw [List.length_cons]; omega, fun q hq => ?_⟩
      rcases List.mem_cons.mp hq with rfl | hq
      · exact ⟨k1, k2, k3, k4⟩
      · have := g2 q hq
        omega
end

/-! ### likes, points, tables -/
open PySem PySem.Spec PyProof.Rows L2
/-- a like; its data -/
abbrev Lk3 := Str × Str × Int
def lkD (l : Lk3) : PyData := .tuple [.str l.1, .str l.2.1, .int l.2.2]
def LksOk (ls : List Lk3) : Prop := ∀ l ∈ ls, PyData.strOk l.1 = true ∧ PyData.strOk l.2.1 = true ∧ 1 ≤ l.2.2 ∧ l.2.2 ≤ 9
theorem getD_at {r : List Str} {a : Int} (h0 : 0 ≤ a) (h1 : a < r.length) : (∃ w ∈ r, w = r.getD a.toNat "") ∧ ∀ {Q : PyData → Prop}, Q (.str (r.getD a.toNat "")) → atD (r.map PyData.str) a Q := (by
  have hk : a.toNat < r.length := by omega
  have e : r.getD a.toNat "" = r[a.toNat] := by rw [List.getD_eq_getElem?_getD, List.getElem?_eq_getElem hk]; rfl
  rw [e]
  refine ⟨⟨_, List.getElem_mem hk, rfl⟩, fun {Q} q => ?_⟩
  rw [show a = ((a.toNat : Nat) : Int) by omega]
  exact atD_map (List.getElem?_eq_getElem hk) q
  )
end Dl

/-! Less of data. -/
namespace Dl
open PySem PySem.Spec PyProof.Rows L2
/-! ### zip of lists, of tuples -/
/-! ### none is worth more -/
section
variable {p : Nat → Nat → Int} {n m : Nat}
end
end Dl

/-! Lists of lists: seen by a call; each list of one appended to in a loop. -/
namespace Dl
open PySem PySem.Spec PyProof.Rows L2
section
variable {K : PySem.W.Frag} {B : Base} {G H : Hp} {c : Ctx} {s : L2.St}
end
section
variable {x : PyData} {y : S} {w : Option Lt} {ds : List PyData} {dss : List (List PyData)} {c : Ctx} {i : Nat} {Q : PyData → Prop}
end
section
variable {K : PySem.W.Frag} {B : Base} {G H : Hp} {c : Ctx} {s : L2.St}
theorem ownLs_dp (e : Same G H) {ps : List Addr} {dss : List (List PyData)} (h : OwnLs K G H ps dss) : DpAll K H (ps.map V.ref) (dss.map PyData.list) := (by
  induction h with
  | nil => exact .nil
  | cons h1 h2 _ ih => exact .cons (.lst (SqL.of h1) (dpa_mono e _ _ h2)) ih
  )
end
section
variable {c : Ctx} {as : List Arg} {x : PyData} {j : Nat} {Q : List PyData → Prop}
end
section
variable {X : Cx} {e : Expr} {es : List Expr} {t tr : TAr} {x : Str} {k : Nat} {ps : List Str} {T : TF} {p pos : Pos}
end
section
variable {X : Cx}
theorem pi_listN {tg e : Expr} {tp : TE} (p : PE X e tp) : PI X tg e (fun σ H R => tp σ H fun x H1 => ∃ a, x = .ref a ∧ (∃ xs, SqL X.K H1 a xs) ∧ R (Itl X.K a) H1) := (by
  refine PI.mk fun pins st s H R I h => ?_
  refine thn (p.run pins st s H _ I h) fun u s1 ⟨x, H1, I1, r1, q1⟩ => ?_
  obtain ⟨a, rfl, ⟨xs, hq⟩, q⟩ := q1
  cases r1
  obtain ⟨its, rv, pl, hz⟩ := I1.list hq
  refine wpAny_pyIter_list pl.isList ?_
  refine ⟨s1.heap.objs.size, [s1.heap.objs.size], _, _, H1, rfl, I1.kept (t' := s1.toks) fun b o e => Heap.get?_push_of_some _ e, turn_list a _, ⟨_, Heap.get?_push_size _ rfl, rfl, rfl⟩, fun b hb => ?_, q⟩
  obtain rfl : b = s1.heap.objs.size := by simpa using hb
  exact I1.fpOk (Nat.le_refl _) (I1.hok.fresh (Nat.le_refl _))
  )
end
section
variable {K : PySem.W.Frag} {B : Base} {G H : Hp} {c : Ctx} {s : L2.St}
theorem Stt.lent (st : Stt K B c s G H) {j : Nat} {u : Lt} {R : Res} (e : c[j]? = some (.o (some u) R)) : s[j]? = some (some u.v) := (by
  obtain ⟨A, r, w⟩ := st.ex
  obtain ⟨v, A1, h1, h2, h3, _⟩ := r.focus w.nd e
  have : v = u.v := h3.1
  rw [← this]; exact h1
  )
end
section
variable {X : Cx} {pos : Pos}
end
end Dl

/-! sorted of a tuple of texts; sorted texts are one list. -/
namespace PyProof.Rows
open PySem PySem.Spec
section
variable {prog : Program} {w : World} {A : Around} {E : Value → Shared → Prop} {s : Shared}
theorem collect_tuple {l : Addr} {vs : List Value} {Q : List Value → Shared → Prop} (hl : s.heap.IsTuple l vs.toArray)
    (h : Q vs { s with heap := (s.heap.push (seqObj "list" #[] 0)).update s.heap.objs.size (Obj.mapSeq (· ++ vs.toArray)) }) (hsz : vs.length ≤ sizeLine) :
    wpAny (model prog w) A (collect (.ref l)) Q E s := (by
  obtain ⟨o, ho, hc, n, hd⟩ := id hl
  unfold collect
  refine wpAny_bind (wpAny_runValue (codeAny_builtin entry_proto_collect' ?_))
  show wpAny _ _ (do again (.builtin "list.__iadd__" ⟨[← newList [], .ref l], []⟩)) _ _ s
  refine wpAny_bind (wpAny_newList (wpAny_pure ⟨Code.quiet_builtin _ (by decide +kernel), codeAny_builtin entry_list_iadd' ?_⟩))
  show wpAny _ _ (Builtin.List.listExtendWith (.ref s.heap.objs.size) (.ref l) (.ref s.heap.objs.size)) _ _ { s with heap := s.heap.push (seqObj "list" #[] 0) }
  unfold Builtin.List.listExtendWith
  have ho' : (s.heap.push (seqObj "list" #[] 0)).get? l = some o := Heap.get?_push_of_some _ ho
  refine wpAny_bind (wpAny_typeOf (T := "tuple") ⟨o, ho', hc⟩ ?_)
  have ht : (Value.type "tuple" == Value.type "tuple") = true := by rfl
  rw [if_pos (by rw [ht]; simp)]
  refine wpAny_bind (listItems_at ho' hd ?_)
  refine wpAny_bind (listItems_at (xs := #[]) (n := 0) (Heap.get?_push_size _ rfl) rfl ?_)
  rw [if_neg (by simp)]
  refine wpAny_bind (listUpdate_at (xs := #[]) (n := 0) (Heap.get?_push_size _ rfl) rfl ?_ (Nat.zero_le _) (by show (#[] ++ vs.toArray).size ≤ sizeLine + 1; simp only [Array.size_append, List.size_toArray, List.length_nil]; omega))
  refine wpAny_pure ?_
  show wpAny (model prog w) A (do
      let o ← load s.heap.objs.size
      match o.data with
      | .seq xs _ => pure xs.toList
      | _ => unsupported "internal:collect") Q E { s with heap := (s.heap.push (seqObj "list" #[] 0)).update s.heap.objs.size (Obj.mapSeq (· ++ vs.toArray)) }
  refine wpAny_bind (wpAny_load (get?_update_seq (Heap.get?_push_size _ rfl) _) ?_)
  show wpAny _ _ (pure ((#[] : Array Value) ++ vs.toArray).toList) Q E _
  rw [show ((#[] : Array Value) ++ vs.toArray).toList = vs by simp]
  exact wpAny_pure h
  )
theorem sortedKT {κ : KeyKind} (hO : κ.OneLt) {l : Addr} {vs : List Value} {Q : Value → Shared → Prop} (hl : s.heap.IsTuple l vs.toArray) (h0 : KeysOf κ (pairsOf vs)) (hkk : ∀ v₁ v₂ rest, vs = v₁ :: v₂ :: rest → keyKind' (v₁ :: v₂ :: rest).toArray = pure oneType') (h64 : vs.length < 64)
    (h : ∀ st' : SortSt, (arrOf st').Perm (pairsOf vs) → SortedToK κ (arrOf st') (pairsOf vs).size → Q (.ref (s.heap.objs.size + 1)) { s with heap := sortedAll s.heap vs ((arrOf st').map (·.2)) }) :
    wpAny (model prog w) A (call (.builtin "sorted") [.ref l]) Q E s := (by
  have hL : vs.length ≤ sizeLine := by rw [sizeLine_eq]; omega
  refine Calls.call_function_entry kind_sorted plain_sorted entry_sorted (args_sorted1 _) ?_
  unfold Builtin.«sorted»
  refine wpAny_bind (m := checkCount "sorted" 1 1 _) (wpAny_pure ?_)
  refine wpAny_bind (collect_tuple hl ?_ hL)
  refine wpAny_bind (wpAny_newList ?_)
  have hsz : ((s.heap.push (seqObj "list" #[] 0)).update s.heap.objs.size (Obj.mapSeq (· ++ vs.toArray))).objs.size = s.heap.objs.size + 1 := by
    rw [Heap.size_update, size_push']
  have hoL : (((s.heap.push (seqObj "list" #[] 0)).update s.heap.objs.size (Obj.mapSeq (· ++ vs.toArray))).push (seqObj "list" vs.toArray 0)).get? (s.heap.objs.size + 1) = some (seqObj "list" vs.toArray 0) := by
    rw [← hsz]; exact Heap.get?_push_size _ rfl
  show wpAny _ _ _ _ _ { s with heap := ((s.heap.push (seqObj "list" #[] 0)).update s.heap.objs.size (Obj.mapSeq (· ++ vs.toArray))).push (seqObj "list" vs.toArray 0) }
  rw [hsz]
  refine wpAny_bind (wpAny_holding (wpAny_call_entry slot_list_sort ⟨_, hoL, rfl⟩ entry_list_sort (list_sort_treeK hO hoL h0 hkk h64 fun st' a1 a2 => ⟨_, rfl, ?_⟩) (args_list_sort _)))
  exact wpAny_pure ⟨_, rfl, h st' a1 a2⟩
  )
theorem sorted_strsT {l : Addr} {vs : List Value} {ss : List Str} {Q : Value → Shared → Prop} (hl : s.heap.IsTuple l vs.toArray) (hS : StrsAre vs ss) (h64 : vs.length < 64)
    (h : ∀ (out : Array Value) (ss' : List Str), StrsAre out.toList ss' → ss'.Perm ss → sortedS ss' = true → Q (.ref (s.heap.objs.size + 1)) { s with heap := sortedAll s.heap vs out }) :
    wpAny (model prog w) A (call (.builtin "sorted") [.ref l]) Q E s := (by
  refine sortedKT strKind_oneLt hl hS.keysOf (fun v₁ v₂ rest e => keyKind_strs (by rw [← e]; exact hS)) h64 fun st' hp hs => ?_
  obtain ⟨ss', h1, h2, h3⟩ := sorted_out_str hS hp hs
  exact h _ ss' h1 h2 h3
  )
end
end PyProof.Rows
namespace Dl
open PySem PySem.Spec PyProof.Rows L2
def rSortedST (K : PySem.W.Frag) : List V → Hp → VK → Prop := fun vs H Q => ∃ (a : Addr) (ns : List Str), vs = [V.ref a] ∧ SqT K H a (ns.map V.str) ∧ ns.length < 64 ∧
  ∀ (ns' : List Str) (l : Addr), ns'.Perm ns → sortedS ns' = true → H l = none → Q (.ref l) (upd H l (.lst (ns'.map V.str)))
theorem cr_sortedST {X : Cx} : CallR X (.builtin "sorted") (rSortedST X.K) := (by
  intro pins s σ H vs us Q I r h
  obtain ⟨a, xs, rfl, hs, h64, q⟩ := h
  obtain ⟨its, rv, hl, _⟩ := I.tuple hs
  rw [Vals.ref1 r]
  have hlen0 := rv.length
  rw [List.length_map] at hlen0
  refine PyProof.Rows.sorted_strsT hl rv.strs (by rw [← hlen0]; exact h64) fun out ys h1 h2 h3 => ?_
  obtain ⟨ep, he'⟩ := PyProof.Rows.sortedAll_at s.heap its out
  have hlen : (ys.map V.str).length ≤ sizeLine := by rw [List.length_map, h2.length_eq, sizeLine_eq]; omega
  exact ⟨.ref _, upd H (s.heap.objs.size + 1) (.lst (ys.map V.str)), I.laid (t' := s.toks) (fun _ _ => PyProof.Rows.sortedAll_old) (Nat.le_succ _) ⟨hlen, out.toList, ep, vals_of_strs h1, he'⟩, rfl, q ys _ h2 h3 (I.hok.fresh (Nat.le_succ _))⟩
  )
section
variable {X : Cx} {a : Expr} {ta : TD} {p pos : Pos}
def fSortST : PyData → (Res → Prop) → Prop := fun x Q => asT x fun ds => asSs ds fun ns => ns.length < 64 ∧ ∀ ns' : List Str, ns'.Perm ns → sortedS ns' = true → Q (.lst (ns'.map PyData.str))
theorem o_sortST (hm : X.mg "sorted" = none) (ha : DV X a ta) (hg : Gl X "sorted" := by rfl) (he : starEach [a] X.env = (false, eval a X.env) :: starEach [] X.env := by rfl) (hpl : (backTo pos (starEach [] X.env)).any (·.1) = false := by rfl) : DO X (.Call (.Name "sorted" p) [a] [] pos) (o1 fSortST ta) := (by
  refine o_oneB cr_sortedST (fun B c s G H v x Q R st d h k => ?_) hm (by decide +kernel) ha hg (by decide) (by decide) he hpl
  obtain ⟨ds, rfl, ns, rfl, hl, q⟩ := asT_of h
  obtain ⟨p, us, rfl, h1, h2⟩ := dp_tup (d.oth fun _ z => nomatch z)
  have := dpa_strs_inv h2
  subst this
  exact ⟨p, ns, rfl, same_t st.sub h1, hl, fun ns' l h1 h2 hn => k _ _ _ _ (st.laidL hn (dpa_strs ns')) (Same.refl _) (q ns' h1 h2)⟩
  )
end
/-! ### [elt for tg in xs if ..], xs a list of one's own -/
def zCompJ (j : Nat) (w : Option Lt) (vs : List Nat) (tg : TGd) (tt : TB) (te : TD) (ys : List PyData) (c1 : Ctx) (Q : List PyData → Ctx → Prop) : Prop := ∃ I : Nat → List PyData → Ctx → Prop, I 0 [] (clr vs c1) ∧ (∀ i acc c, I i acc c → c[j]? = some (.o w (.lst ys))) ∧
  (∀ i y acc c, ys[i]? = some y → I i acc c → tg y c fun c2 => tt c2 fun b c3 => if b = true then te c3 fun x c4 => acc.length < sizeLine ∧ I (i + 1) (acc ++ [x]) (clr vs c4) else I (i + 1) acc (clr vs c3)) ∧
  ∀ acc c, I ys.length acc c → Q acc (Dl.rest c1 vs (clr2 vs c))
def oLcN (j : Nat) (vs : List Nat) (tg : TGd) (tt : TB) (te : TD) : TR := fun c Q => slO c j fun w R => asR R fun ys => zCompJ j w vs tg tt te ys c fun acc c2 => Q (.lst acc) c2
section
variable {X : Cx}
theorem lc_vN {K : PySem.W.Frag} {j : Nat} {tp : TE} {tg : TGd} {tt : TB} {te : TD} {js vs : List Nat} (htp : ∀ (s : L2.St) (H : Hp) (R : VK) (v : V), s[j]? = some (some v) → R v H → tp s H R) (hj : ∀ j ∈ js, j ∈ vs) (hjv : j ∉ vs) :
    DOv K (tLc (fun σ H R => tp σ H fun x H1 => ∃ a, x = .ref a ∧ (∃ xs, SqL K H1 a xs) ∧ R (Itl K a) H1) (rdG K js tg) (rdT K tt) (rdE K te) vs) (oLcN j vs tg tt te) := (by
  intro B c s G H Q R st q k
  obtain ⟨w, R0, e0, q⟩ := slO_of q
  obtain ⟨ys, rfl, I, i0, hI0, turn, fin⟩ := asR_of q
  obtain ⟨p, xs, e1, h1, h2, _⟩ := st.own e0
  refine htp _ _ _ _ e1 ⟨p, rfl, ⟨_, SqL.of h1⟩, ?_⟩
  intro D hD
  have cur : ∀ {i acc c' G' H'}, I i acc c' → Stt K B (.o none (.lst acc) :: c') (some (.ref D) :: L2.wipe s vs) G' H' → ∃ xs', H' p = some (.lst xs') ∧ DpAll K G' xs' ys := fun {i acc c' G' H'} hI st' => by
    obtain ⟨p', xs', e3, h3, h4, _⟩ := st'.own (j := j + 1) (wo := w) (ds := ys) (by rw [List.getElem?_cons_succ]; exact hI0 i acc c' hI)
    rw [List.getElem?_cons_succ, wipe_out hjv, e1] at e3
    cases e3
    exact ⟨xs', h3, h4⟩
  refine ⟨fun i m H => m = ys.length - i ∧ i ≤ ys.length ∧ ∃ acc c' G', Stt K B (.o none (.lst acc) :: c') (some (.ref D) :: L2.wipe s vs) G' H ∧ Same G G' ∧ I i acc c', ⟨ys.length, by simp, Nat.zero_le _, [], _, G, (st.wipe vs).laidL hD .nil, Same.refl _, i0⟩, ?_⟩
  rintro i m H2 ⟨rfl, hi, acc, c', G', st', e', hI⟩
  obtain ⟨xs', h3, h4⟩ := cur hI st'
  have hl := dpa_len h4
  by_cases hlt : i < ys.length
  · obtain ⟨x0, hx0, dx⟩ := dpa_get h4 (List.getElem?_eq_getElem hlt)
    refine .inr ⟨⟨_, x0, SqL.of h3, hx0⟩, fun H3 => ∃ acc c' G', Stt K B (.o none (.lst acc) :: c') (some (.ref D) :: L2.wipe s vs) G' H3 ∧ Same G G' ∧ I (i + 1) acc c', fun H3 ⟨a3, c3, G3, st3, e3, i3⟩ => ⟨ys.length - (i + 1), by omega, rfl, hlt, a3, c3, G3, st3, e3, i3⟩, fun x H3 hy => ?_⟩
    obtain ⟨rfl, hz⟩ := hy
    have := hz _ (SqL.of h3)
    rw [hx0] at this
    cases this
    obtain ⟨D', us, B', hv, hDl, hacc, stU, back⟩ := st'.under
    cases hv
    refine ⟨B', c', G', ys[i], _, stU, dx, turn i ys[i] acc c' (List.getElem?_eq_getElem hlt) hI, fun c3 s3 st3 but q3 => ⟨But.wipe but hj, ?_⟩⟩
    have hw : L2.wipe s3 vs = L2.wipe s vs := But.wipe but hj
    refine ⟨B', c3, G', _, st3, q3, fun b c4 G4 H4 st4 e4 q4 => ?_⟩
    cases b with
    | false =>
      rw [if_neg Bool.false_ne_true] at q4 ⊢
      obtain ⟨e5, _, st5, _⟩ := back _ _ _ _ (st4.wipe vs)
      rw [hw] at st5
      exact ⟨acc, _, G4, st5, e'.trans e5, q4⟩
    | true =>
      rw [if_pos rfl] at q4 ⊢
      refine ⟨B', c4, G4, _, st4, q4, fun z d c5 G5 H5 st5 e5 dz q5 => ?_⟩
      obtain ⟨e6, hD6, _, up6⟩ := back _ _ _ _ (st5.wipe vs)
      have hl := dpa_len hacc
      have st7 := up6 (us ++ [z]) (acc ++ [d]) (dpa_app (dpa_mono e6 _ _ hacc) (.cons dz .nil))
      rw [hw] at st7
      exact ⟨us, hD6, by rw [hl]; exact q5.1, acc ++ [d], _, G5, st7, e'.trans e6, q5.2⟩
  · have e : i = ys.length := by omega
    subst e
    refine .inl ⟨⟨_, SqL.of h3, by omega⟩, ?_⟩
    exact k (.ref D) (.lst acc) _ G' H2 (Stt.rest st e' (Stt.unwipe st')) e' (fin acc c' hI)
  )
variable {elt tg : Expr} {ifs : List Expr} {scope : Scope} {pos px : Pos} {g : TGd} {tt : TB} {te : TD} {js : List Nat} {x : Str}
theorem o_lcN (j : Nat) (own : List (Str × Nat)) (hc : X.calm = true) (hN : X.N.Nodup) (ok : blkC X.N X.env.scope scope own = true)
    (hg : ∀ (s : Shared) (H : Hp) (C : Addr) (cl : List (Str × Addr)) (fp : List Addr), DG (X.blk s H scope (compEnvC scope cl C X.env) fp) tg js g) (ht : ∀ (s : Shared) (H : Hp) (C : Addr) (cl : List (Str × Addr)) (fp : List Addr), DTs (X.blk s H scope (compEnvC scope cl C X.env) fp) ifs tt)
    (he : ∀ (s : Shared) (H : Hp) (C : Addr) (cl : List (Str × Addr)) (fp : List Addr), DE (X.blk s H scope (compEnvC scope cl C X.env) fp) elt te) (hj : ∀ j ∈ js, j ∈ own.map (·.2)) (hjv : j ∉ own.map (·.2) := by decide)
    (hNj : X.N[j]? = some x := by rfl) (hv : Vis X.env.scope x := by first | exact Or.inl rfl | exact Or.inr (Or.inl rfl) | exact Or.inr (Or.inr rfl)) (hd : (x == ("__debug__" : Str)) = false := by decide)
    (hcd : (x == ("__classdict__" : Str)) = false := by decide) (hs : ∀ z, foldedSetIterable (.Name x px) X.env z = pure z := by intro _; rfl) :
    DO X (.ListComp elt [⟨tg, .Name x px, ifs, 0⟩] scope pos) (oLcN j (own.map (·.2)) g tt te) :=
  ⟨_, pe_lc (g := rdG X.K js g) (tt := rdT X.K tt) (te := rdE X.K te) hc hN (pi_listN (pe_var hNj hv hd hcd)) (blkOk_by ok) (fun s H C cl fp => (hg s H C cl fp).pg) (fun s H C cl fp => (ht s H C cl fp).pt) (fun s H C cl fp => (he s H C cl fp).pe) hs, lc_vN (fun _ _ _ v e r => ⟨v, e, r⟩) hj hjv⟩
theorem compJ_mm {α : Type} {f0 : α → PyData} {zs : List α} {j : Nat} {w : Option Lt} {vs : List Nat} {tg : TGd} {te : TD} {c1 : Ctx} {Q : List PyData → Ctx → Prop} (f : α → PyData) (hl : zs.length ≤ sizeLine) (hjc : (clr vs c1)[j]? = some (.o w (.lst (zs.map f0))))
    (h : ∀ z ∈ zs, ∀ (N : PyData → Ctx → Prop), (∀ c, clr vs c = clr vs c1 → N (f z) c) → tg (f0 z) (clr vs c1) fun c2 => te c2 N)
    (q : Q (zs.map f) (Dl.rest c1 vs (clr2 vs (clr vs c1)))) : zCompJ j w vs tg bYes te (zs.map f0) c1 Q := (by
  refine ⟨fun i acc c => c = clr vs c1 ∧ acc = (zs.take i).map f, ⟨rfl, by simp⟩, fun i acc c hI => by rw [hI.1]; exact hjc, fun i y acc c hy hI => ?_, fun acc c hI => ?_⟩
  · obtain ⟨rfl, rfl⟩ := hI
    obtain ⟨z, hz, rfl⟩ := map_get hy
    have hi := get_lt hz
    refine h z (get_mem hz) (fun x c4 => ((zs.take i).map f).length < sizeLine ∧ (clr vs c4 = clr vs c1 ∧ (zs.take i).map f ++ [x] = (zs.take (i + 1)).map f)) fun c hc => ⟨?_, hc, ?_⟩
    · rw [List.length_map, List.length_take]; omega
    · exact (take_map hz).symm
  · obtain ⟨rfl, rfl⟩ := hI
    rw [List.length_map, List.take_length]
    exact q
  )
end
end Dl

/-! sorted of tuples of numbers and texts that differ where their kinds do. -/
namespace SrtT
open PySem PySem.Spec PyProof.Rows SrtO PySem.W
section
variable {prog : Program} {w : World} {A : Around} {E : Value → Shared → Prop} {s : Shared}
/-- a tuple of the heap -/
def TupAt (h : Heap) (v : Value) (xs : List Value) : Prop := ∃ a o its n, v = .ref a ∧ h.get? a = some o ∧ o.cls = .type "tuple" ∧ o.data = .seq its n ∧ its.toList = xs
theorem TupAt.keeps {h h' : Heap} {v : Value} {xs : List Value} (p : TupAt h v xs) (k : ∀ b o, h.get? b = some o → o.cls = .type "tuple" → h'.get? b = some o) : TupAt h' v xs := (by
  obtain ⟨a, o, its, n, e, ho, hc, hd, hx⟩ := p
  exact ⟨a, o, its, n, e, k _ _ ho hc, hc, hd, hx⟩
  )
end
end SrtT
namespace Dl
open PySem PySem.Spec PyProof.Rows L2
/-- a number or a text -/
def isAt : PyData → Prop
  | .int _ => True
  | .str _ => True
  | _ => False
def vAt : PyData → V
  | .int n => .int n
  | .str x => .str x
  | _ => .non
section
variable {X : Cx} {a : Expr} {ta : TD} {p pos : Pos}
theorem dpa_at {K : PySem.W.Frag} {G : Hp} : ∀ {es : List PyData} {vs : List V}, (∀ e ∈ es, isAt e) → DpAll K G vs es → vs = es.map vAt
  | [], _, _, h => by cases h; rfl
  | e :: es, _, ha, h => by
    cases h with
    | cons h1 h2 =>
      have := ha e List.mem_cons_self
      rw [dpa_at (fun z hz => ha z (List.mem_cons_of_mem _ hz)) h2]
      cases e with
      | int n => rw [dp_int h1]; rfl
      | str n => rw [dp_str h1]; rfl
      | _ => exact this.elim
end
end Dl

/-! Tuples: one behind another, so many times; a text that the top names. -/
namespace L2
open PySem PySem.Spec PyProof.Rows
section
variable {X : Cx}
end
end L2
namespace Dl
open PySem PySem.Spec PyProof.Rows L2
section
variable {X : Cx} {a b : Expr} {ta tb : TD} {pos : Pos} {x : Str}
/-- + of numbers, of texts, of tuples -/
def fAddA : PyData → PyData → (PyData → Prop) → Prop := fun x y Q => match x with
  | .int i => asI y fun j => Q (.int (i + j))
  | .str i => asS y fun j => i.length + j.length ≤ sizeLine ∧ Q (.str (i ++ j))
  | .tuple ds => asT y fun es => ds.length + es.length ≤ sizeLine ∧ Q (.tuple (ds ++ es))
  | _ => False
theorem fAddA_i {i j : Int} {Q : PyData → Prop} : fAddA (.int i) (.int j) Q = Q (.int (i + j)) := id rfl
theorem fAddA_s {i j : Str} {Q : PyData → Prop} : fAddA (.str i) (.str j) Q = (i.length + j.length ≤ sizeLine ∧ Q (.str (i ++ j))) := id rfl
theorem fAddA_t {i j : List PyData} {Q : PyData → Prop} : fAddA (.tuple i) (.tuple j) Q = (i.length + j.length ≤ sizeLine ∧ Q (.tuple (i ++ j))) := id rfl
theorem d_addA (ha : DE X a ta) (hb : DE X b tb) : DE X (.BinOp a .Add b pos) (u2 fAddA ta tb) := (by
  refine d_op (OpR.or2 (OpR.or2 op_add op_add_str) op_catA) (fun B c s G H x y a b Q R st dx dy h k => ?_) ha hb
  cases a with
  | int i =>
    obtain ⟨j, rfl, q⟩ := asI_of h
    exact .inl (.inl ⟨i, j, dp_int dx, dp_int dy, k _ _ G H st (Same.refl _) (.int _) q⟩)
  | str i =>
    obtain ⟨j, rfl, hl, q⟩ := asS_of h
    exact .inl (.inr ⟨i, j, dp_str dx, dp_str dy, hl, k _ _ G H st (Same.refl _) (.str _) q⟩)
  | tuple ds =>
    obtain ⟨es, rfl, hl, q⟩ := asT_of h
    obtain ⟨t, vs, rfl, g1, g2⟩ := dp_tup dx
    obtain ⟨u, ws, rfl, g3, g4⟩ := dp_tup dy
    have l1 := dpa_len g2
    have l2 := dpa_len g4
    refine .inr ⟨t, u, vs, ws, rfl, rfl, same_t st.sub g1, same_t st.sub g3, by omega, fun z => ?_, fun _ z => ?_, fun _ _ p hp => ?_⟩
    · subst z
      have : ds = [] := List.eq_nil_of_length_eq_zero l1.symm
      subst this
      exact k _ _ G H st (Same.refl _) dy q
    · subst z
      have : es = [] := List.eq_nil_of_length_eq_zero l2.symm
      subst this
      rw [List.append_nil] at q
      exact k _ _ G H st (Same.refl _) dx q
    · obtain ⟨st2, e2⟩ := st.laid (o := .tup (vs ++ ws)) hp
      exact k _ _ _ _ st2 e2 (.tup (.inl (.inl upd_same)) (dpa_mono e2 _ _ (dpa_app g2 g4))) q
  | none => exact h.elim
  | bool _ => exact h.elim
  | list _ => exact h.elim
  | dict _ => exact h.elim
  )
/-- a text that the top names -/
theorem d_globS {z : Str} (hc : ∃ t, X.mg x = some (.str z t)) (hg : Gl X x := by rfl) (hd : (x == ("__debug__" : Str)) = false := by decide) : DE X (.Name x pos) (uC (.str z)) := (by
  obtain ⟨t, hc⟩ := hc
  exact ⟨_, pe_glob (v := .str z) hg hc ⟨t, rfl⟩ hd, fun _ c _ G H _ _ st h k => k _ _ c G H st (Same.refl _) (.str z) h⟩
  )
end
end Dl

/-! Defs that raise classes of the text; try around a call; the head's further facts. -/
namespace Dl
open PySem PySem.Spec PyProof.Rows L2
/-! ### further facts of the head -/
abbrev AlX : Type := He.AlD × List Bool
def obsX (fa : List He.Fa) (fn : List He.DefD) (xs : List (PySem.W.Frag → Bool)) (K : PySem.W.Frag) : AlX := (He.obsD fa fn K, xs.map fun t => t K)
def valX (fn : List He.DefD) (xs : List (PySem.W.Frag → Bool)) : AlX := (He.valD fn, xs.map fun _ => true)
def obsXG (n : Nat) (fa : List He.Fa) (fn : List He.DefD) (xs : List (PySem.W.Frag → Bool)) (g : Addr → Option Obj) : AlX := obsX fa fn xs (He.frG g (He.asD g n))
def SaysX (fa : List He.Fa) (fn : List He.DefD) (xs : List (PySem.W.Frag → Bool)) (K : PySem.W.Frag) : Prop := obsX fa fn xs K = valX fn xs
def hookX (n : Nat) (fa : List He.Fa) (fn : List He.DefD) (xs : List (PySem.W.Frag → Bool)) : PySem.W.Hook where
  α := AlX
  obs := fun s => obsXG n fa fn xs s.heap.get?
  val := fun _ => valX fn xs
  says := fun _ h => ∃ K : PySem.W.Frag, K.In h ∧ SaysX fa fn xs K
  of := fun _ _ e => ⟨_, He.frG_in, e⟩
  keeps := fun _ _ _ ⟨K, hK, c⟩ k => ⟨K, PySem.W.Frag.In.keeps hK k, c⟩
theorem obsXG_eq {n : Nat} {fa : List He.Fa} {fn : List He.DefD} {xs : List (PySem.W.Frag → Bool)} {g : Addr → Option Obj} {s : Shared} (h : ∀ a, g a = s.heap.get? a) : obsXG n fa fn xs g = (hookX n fa fn xs).obs s := (by
  have e : g = s.heap.get? := funext h
  rw [e] <;> rfl
  )
section
variable {fa : List He.Fa} {fn : List He.DefD} {xs : List (PySem.W.Frag → Bool)} {K : PySem.W.Frag}
theorem SaysX.d (c : SaysX fa fn xs K) : He.SaysD fa fn K := congrArg (fun z : AlX => z.1) c
theorem SaysX.x (c : SaysX fa fn xs K) (i : Nat) {t : PySem.W.Frag → Bool} (h : xs[i]? = some t := by rfl) : t K = true := (by
  have e : xs.map (fun t => t K) = xs.map fun _ => true := congrArg (fun z : AlX => z.2) c
  have e2 : (xs.map fun t => t K)[i]? = (xs.map fun _ => true)[i]? := by rw [e]
  rw [List.getElem?_map, List.getElem?_map, h] at e2
  exact Option.some.inj e2
  )
end
/-- the class x is one whose instances isinstance asks rightly -/
def excB (x : Str) (K : PySem.W.Frag) : Bool :=
  decide (PySem.W.findIn K (.ref (He.ga K x)) "__getattribute__" = some (some (.builtin "BaseException.__getattribute__"))) && (decide (PySem.W.findIn K (.ref (He.ga K x)) "__getattr__" = some none) && (decide (PySem.W.subIn K (.ref (He.ga K x)) (.type "BaseException") = some true) && (PySem.W.hasDictIn K (He.ga K x) &&
  (decide (PySem.W.findIn K (.ref (He.ga K x)) "__class__" = some (some (.builtin "object.__class__"))) && (decide (PySem.W.specialIn K (.builtin "object.__class__") "__get__" = some (some (.builtin "getset_descriptor.__get__"))) && (decide (PySem.W.takesIn K (.builtin "object.__class__") = some true) && decide (PySem.W.mroIn K (He.ga K x) (.type "object") = some true)))))))
theorem excB_ok {x : Str} {K : PySem.W.Frag} (h : excB x K = true) : ExcC K (He.ga K x) := (by
  unfold excB at h
  simp only [Bool.and_eq_true, decide_eq_true_eq] at h
  obtain ⟨h1, h2, h3, h4, h5, h6, h7, h8⟩ := h
  exact ⟨h1, h2, h3, h4, h5, h6, h7, h8⟩
  )
/-- an instance of x is one of y -/
def kitB (x y : Str) (b : Bool) (K : PySem.W.Frag) : Bool := decide (PySem.W.kitOne K (.ref (He.ga K x)) (.ref (He.ga K y)) = some b)
def kitT (x : Str) (y : String) (b : Bool) (K : PySem.W.Frag) : Bool := decide (PySem.W.kitOne K (.ref (He.ga K x)) (.type y) = some b)
/-- what the text's class x is to a raise -/
structure ExF (K : PySem.W.Frag) (mg : Str → Option Value) (x : Str) : Prop where
  q : PySem.W.excIn K (He.ga K x) He.veBase "ValueError.__new__" = true
  g : mg x = some (.ref (He.ga K x))
  k : PySem.W.keepIn K (.ref (He.ga K x)) = true
  s : PySem.W.subIn K (.ref (He.ga K x)) (.type "BaseException") = some true
  t : PySem.W.typeIn K (.ref (He.ga K x)) = some (.type "type")
theorem exF_of {K : PySem.W.Frag} {h : Heap} {mg : Str → Option Value} (X : K.In h) (G : h.Ns mainGlobals mg) {x : Str} (c1 : (He.Fa.glo x).ok K = true) (c2 : (He.Fa.exc x).ok K = true) : ExF K mg x := (by
  obtain ⟨h1, h2, h3, h4⟩ := He.exc_ok c2
  exact ⟨h1, He.glo_ok X G c1, h2, h3, h4⟩
  )
/-! ### defs that raise -/
abbrev TFX := Ctx → (S → Ctx → Prop) → (Str → Prop) → Prop
def SpX (K : PySem.W.Frag) (T : TFX) : Sp := fun vs H Q E => ∃ (G : Hp) (io : List Addr) (a : Ctx) (Q1 : S → Ctx → Prop) (E1 : Str → Prop), Stt K ⟨H, G, io⟩ a (vs.map some) G H ∧ T a Q1 E1 ∧
  (∀ r c v s G' H', Stt K ⟨H, G, io⟩ (r :: c) (some v :: s) G' H' → Q1 r c → Q v H') ∧ (∀ x c s G' H', Stt K ⟨H, G, io⟩ c s G' H' → E1 x → E (.ref (He.ga K x)) none H')
abbrev TSX := (Str → Prop) → TSd
def DSvX (K : PySem.W.Frag) (Ex : XK) (ts : TS) (t : TSX) : Prop := ∀ (B : Base) (c : Ctx) (s : L2.St) (G H : Hp) (D : Ends) (E : De) (E1 : Str → Prop), Stt K B c s G H → Conn K B G D E →
  (∀ x c s G' H', Stt K B c s G' H' → Same G G' → E1 x → Ex (.ref (He.ga K x)) none H') → t E1 E c → ts D s H
structure DSX (X : Cx) (Ex : XK) (st : Stmt) (t : TSX) : Prop where
  ex : ∃ ts, PS X st ts ∧ DSvX X.K Ex ts t
structure DSsX (X : Cx) (Ex : XK) (st : List Stmt) (t : TSX) : Prop where
  ex : ∃ ts, PSs X st ts ∧ DSvX X.K Ex ts t
section
variable {X : Cx} {Ex : XK} {st : Stmt} {rest : List Stmt} {t u : TSX} {td : TSd} {e : Expr} {tb : TB} {pos : Pos}
theorem x_of (h : DS X st td) : DSX X Ex st (fun _ => td) := (by
  obtain ⟨ts, p, v⟩ := h.ex
  exact ⟨ts, p, fun B c s G H D E E1 st k _ q => v B c s G H D E st k q⟩
  )
theorem xs_of {l : List Stmt} (h : DSs X l td) : DSsX X Ex l (fun _ => td) := (by
  obtain ⟨ts, p, v⟩ := h.ex
  exact ⟨ts, p, fun B c s G H D E E1 st k _ q => v B c s G H D E st k q⟩
  )
def zSeqX (t u : TSX) : TSX := fun E1 => zSeq (t E1) (u E1)
theorem qx_one (h : DSX X Ex st t) : DSsX X Ex [st] t := let ⟨ts, p, v⟩ := h.ex; ⟨ts, pss_one p, v⟩
theorem qx_cons (h : DSX X Ex st t) (h2 : DSsX X Ex rest u) : DSsX X Ex (st :: rest) (zSeqX t u) := (by
  obtain ⟨ts, p, v⟩ := h.ex
  obtain ⟨ts2, p2, v2⟩ := h2.ex
  exact ⟨_, pss_cons p p2, fun B c s G H D E E1 st k hx q => v B c s G H _ { E with nx := u E1 E } E1 st ⟨fun c' s' G' H' st' e' q' => v2 B c' s' G' H' D E E1 st' (k.mono e') (fun x c s G2 H2 st2 e2 => hx x c s G2 H2 st2 (e'.trans e2)) q', k.rt, k.bk, k.ct⟩ hx q⟩
  )
def zIfX (tb : TB) (t u : TSX) : TSX := fun E1 => zIf tb (t E1) (u E1)
theorem s_ifX {a b : List Stmt} (hc : DT X e tb) (ha : DSsX X Ex a t) (hb : DSsX X Ex b u) : DSX X Ex (.If e a b pos) (zIfX tb t u) := (by
  obtain ⟨tp, p, v⟩ := hc.ex
  obtain ⟨t1, p1, v1⟩ := ha.ex
  obtain ⟨t2, p2, v2⟩ := hb.ex
  refine ⟨_, ps_if p p1 p2, fun B c s G H D E E1 st k hx q => v B c s G H _ _ st q fun b c1 G1 H1 st1 e1 q1 => ?_⟩
  have hx1 : ∀ x c s G' H', Stt X.K B c s G' H' → Same G1 G' → E1 x → Ex (.ref (He.ga X.K x)) none H' := fun x c s G2 H2 st2 e2 => hx x c s G2 H2 st2 (e1.trans e2)
  cases b with
  | true =>
    rw [if_pos rfl] at q1 ⊢
    exact v1 B c1 s G1 H1 D E E1 st1 (k.mono e1) hx1 q1
  | false =>
    rw [if_neg Bool.false_ne_true] at q1 ⊢
    exact v2 B c1 s G1 H1 D E E1 st1 (k.mono e1) hx1 q1
  )
/-- raise x('m') -/
def zRaise (x : Str) : TSX := fun E1 _ _ => E1 x
theorem s_raise {x m : Str} {j : Nat} {p p2 pos' : Pos} (hc : X.calm = true) (tk : Takes X fun cls d _ H => Ex cls d H) (F : ExF X.K X.mg x) (hg : Gl X x := by rfl) (hdb : (x == ("__debug__" : Str)) = false := by decide) :
    DSX X Ex (.Raise (some (.Call (.Name x p) [.Constant (.str m) j p2] [] pos)) none pos') (zRaise x) :=
  ⟨_, ps_raise hc tk (pmk_own PySem.F.excBase_ValueError F.q F.g F.k (raises_own F.s F.t) hg hdb), fun B c s G H D E E1 st k hx q => hx x c s G H st (Same.refl _) q⟩
end

/-- THE RULE for a def that may raise -/
theorem fn_dX {P : Program} {w : World} {K : PySem.W.Frag} {mg : Str → Option Value} {base : Heap} {x qual : Str} {st : Stmt} {f : Addr} {fd : FuncData} {N ps : List Str} {k : Nat} {T : TFX} {t : TSX} (F : Fun K x qual st f fd) (sc : FnScope N ps (defScope st))
    (hT : ∀ a Q E1, T a Q E1 → a.length = ps.length ∧ t E1 { nx := fun c => Q (.d .none) c, rt := Q } (a ++ List.replicate (N.length - ps.length) .no))
    (body : ∀ (cdv : Value) (A : Around) (outer : List Env) (s : Shared) (H : Hp) (E : XK), Room k (A.deeper (envOfC qual (defScope st) s.heap.objs.size f cdv)) →
      Takes (cxOf (L2.CX P w) P w K mg base N qual (defScope st) f cdv A outer s H E) (fun cls d _ H => E cls d H) → DSsX (cxOf (L2.CX P w) P w K mg base N qual (defScope st) f cdv A outer s H E) E (defBody st) t) : FnOk P w K mg base (L2.CX P w) (k + 1) f fd ps (SpX K T) := (by
  have hl : ∀ vs H Q E, SpX K T vs H Q E → vs.length = ps.length := fun vs H Q E h => by
    obtain ⟨G, io, a, Q1, E1, ⟨A, r, _⟩, h2, _⟩ := h
    have := r.len
    rw [List.length_map] at this
    rw [this]
    exact (hT a Q1 E1 h2).1
  refine F.okX sc hl (fun cdv A outer s H vs Q E hr h => ?_)
  obtain ⟨ts, p, v⟩ := (body cdv A outer s H E hr (takes_of rfl rfl rfl rfl)).ex
  refine ⟨ts, p, ?_⟩
  have lv := hl _ _ _ _ h
  obtain ⟨G, io, a, Q1, E1, ⟨A1, r, wd⟩, h2, h3, h4⟩ := h
  have st0 : Stt K ⟨H, G, io⟩ (a ++ List.replicate (N.length - ps.length) .no) (L2.start N vs) G H := by
    refine ⟨A1, ?_, wd⟩
    unfold L2.start
    rw [lv]
    exact reps_more r _
  exact v ⟨H, G, io⟩ _ _ G H _ { nx := fun c => Q1 (.d .none) c, rt := Q1 } E1 st0 ⟨fun c s' G' H' st' _ q => h3 (.d .none) c .non s' G' H' (st'.push_d .non) q, fun r c v s' G' H' st' _ q => h3 r c v s' G' H' st' q, fun _ _ _ _ _ _ q => q.elim, fun _ _ _ _ _ _ q => q.elim⟩ (fun x c s G' H' st' _ q => h4 x c s G' H' st' q) (hT a Q1 E1 h2).2
  )
/-- a def of the text that keeps its promise, and may raise -/
structure CalX (P : Program) (w : World) (K : PySem.W.Frag) (mg : Str → Option Value) (base : Heap) (x : Str) (k : Nat) (ps : List Str) (T : TFX) : Prop where
  ex : ∃ f fd, FnOk P w K mg base (L2.CX P w) k f fd ps (SpX K T) ∧ mg x = some (.ref f) ∧ PySem.W.keepIn K (.ref f) = true ∧ Binds K fd ps []
theorem Reps.set_f {K : PySem.W.Frag} {B : Base} {G H : Hp} {c : Ctx} {s : L2.St} {A : List Addr} {v : V} {F : FrG} (hx : F.P K G v) (h : Reps K B G H c s A) : ∀ (j : Nat), ∃ A', Reps K B G H (c.set j (.f F)) (s.set j (some v)) A' ∧ A'.Sublist A := (by
  induction h with
  | nil => intro j; exact ⟨[], by simpa using .nil, List.Sublist.refl _⟩
  | no h ih =>
    intro j
    cases j with
    | zero => exact ⟨_, .f hx h, List.Sublist.refl _⟩
    | succ j =>
      obtain ⟨A', r, q⟩ := ih j
      exact ⟨A', .no r, q⟩
  | d hd h ih =>
    intro j
    cases j with
    | zero => exact ⟨_, .f hx h, List.Sublist.refl _⟩
    | succ j =>
      obtain ⟨A', r, q⟩ := ih j
      exact ⟨A', .d hd r, q⟩
  | f hd h ih =>
    intro j
    cases j with
    | zero => exact ⟨_, .f hx h, List.Sublist.refl _⟩
    | succ j =>
      obtain ⟨A', r, q⟩ := ih j
      exact ⟨A', .f hd r, q⟩
  | o ho w h ih =>
    intro j
    cases j with
    | zero => exact ⟨_, .f hx h, List.sublist_append_right _ _⟩
    | succ j =>
      obtain ⟨A', r, q⟩ := ih j
      exact ⟨_, .o ho w r, List.Sublist.append (List.Sublist.refl _) q⟩
  )
theorem Stt.set_f {K : PySem.W.Frag} {B : Base} {G H : Hp} {c : Ctx} {s : L2.St} (h : Stt K B c s G H) (j : Nat) {v : V} {F : FrG} (hx : F.P K G v) : Stt K B (c.set j (.f F)) (s.set j (some v)) G H := (by
  obtain ⟨A, r, w⟩ := h.ex
  obtain ⟨A', r', q⟩ := r.set_f hx j
  exact ⟨A', r', w.sub_of q⟩
  )
theorem Reps.get_f {K : PySem.W.Frag} {B : Base} {G H : Hp} {c : Ctx} {s : L2.St} {A : List Addr} (h : Reps K B G H c s A) : ∀ {i : Nat} {F : FrG}, c[i]? = some (.f F) → ∃ v, s[i]? = some (some v) ∧ F.P K G v := (by
  induction h with
  | nil => intro i x e; simp at e
  | no _ ih =>
    intro i x e
    cases i with
    | zero => simp at e
    | succ i => simpa using ih (by simpa using e)
  | d h _ ih =>
    intro i x e
    cases i with
    | zero => simp at e
    | succ i => simpa using ih (by simpa using e)
  | f h _ ih =>
    intro i x e
    cases i with
    | zero => simp at e; subst e; exact ⟨_, rfl, h⟩
    | succ i => simpa using ih (by simpa using e)
  | o h w _ ih =>
    intro i x e
    cases i with
    | zero => simp at e
    | succ i => simpa using ih (by simpa using e)
  )
section
variable {X : Cx} {T : TFX} {e : Expr} {es : List Expr} {tl : TL} {i k : Nat} {n x g : Str} {ps : List Str} {ys : List Str} {ts : Addr → TSd} {b₀ : Stmt} {suite : List Stmt} {gp cpos epos np pos pos' : Pos}
end
/-! ### split -/
def oSplit (ta tb : TD) : TR := fun c Q => ta c fun x c1 => asS x fun z => tb c1 fun y c2 => asS y fun w => w.length ≠ 0 ∧ z.length + 2 ≤ sizeLine ∧ Q (.lst ((Txt.split z w).map PyData.str)) c2
theorem o_split {X : Cx} {a b : Expr} {ta tb : TD} {apos pos : Pos} (ha : DE X a ta) (hb : DE X b tb) (hs : starEach [b] X.env = [(false, eval b X.env)] := by rfl) (hbase : attributeBase a "split" X.env (eval a X.env) = eval a X.env := by rfl) (hline : (apos.endLine == pos.line) = true := by rfl) :
    DO X (.Call (.Attribute a "split" apos) [b] [] pos) (oSplit ta tb) := (by
  obtain ⟨tea, pa, va⟩ := ha.ex
  obtain ⟨teb, pb, vb⟩ := hb.ex
  refine ⟨_, pe_split pa pb hs hbase hline, fun B c s G H Q R st q k => va B c s G H _ _ st q fun v x c1 G1 H1 st1 e1 d1 q1 => ?_⟩
  obtain ⟨z, rfl, q1⟩ := asS_of q1
  refine ⟨⟨z, dp_str d1⟩, vb B c1 s G1 H1 _ _ st1 q1 fun w y c2 G2 H2 st2 e2 d2 q2 => ?_⟩
  obtain ⟨u, rfl, h1, h2, q2⟩ := asS_of q2
  exact ⟨z, u, dp_str d1, by rw [dp_str d2], by rw [beq_eq_false_iff_ne]; exact h1, h2, fun p hp => k _ _ c2 _ _ (st2.laidL hp (dpa_strs _)) (e1.trans e2) q2⟩
  )
/-! ### a new owned thing lent as the first argument, and forgotten behind the call -/
end Dl

/-! What is read in lists of one's own, as data; names of inner lists; displays of lists of one's own. -/
namespace Dl
open PySem PySem.Spec PyProof.Rows L2
/-- what is seen of a slot -/
def bare : S → S
  | .d x => .d x
  | .o _ (.lst ds) => .d (.list ds)
  | .o _ (.lls dss) => .d (.list (dss.map PyData.list))
  | .o _ (.tr t) => if t.isD = true then .d t.toD else .no
  | .f F => .f F
  | _ => .no
section
variable {x : PyData} {w : Option Lt} {ds : List PyData} {dss : List (List PyData)} {F : FrG} {R : ResG} {P : List PyData → Prop} {kvs : List (PyData × PyData)}
theorem bare_d : bare (.d x) = .d x := id rfl
theorem bare_o : bare (.o w (.lst ds)) = .d (.list ds) := id rfl
theorem bare_l : bare (.o w (.lls dss)) = .d (.list (dss.map PyData.list)) := id rfl
theorem bare_no : bare .no = .no := id rfl
theorem bare_f : bare (.f F) = .f F := id rfl
theorem bare_tr {t : OT} : bare (.o w (.tr t)) = if t.isD = true then .d t.toD else .no := id rfl
theorem bare_g : bare (.o w (.gen R)) = .no := id rfl
theorem bare_P : bare (.o w (.lstP P)) = .no := id rfl
theorem bare_dic : bare (.o w (.dic kvs)) = .no := id rfl
end
section
variable {K : PySem.W.Frag} {B : Base} {G H : Hp} {c : Ctx} {s : L2.St} {A : List Addr}
theorem reps_bare (e : Same G H) (h : Reps K B G H c s A) : Reps K ⟨H, H, []⟩ H H (c.map bare) s [] := (by
  induction h with
  | nil => exact .nil
  | no _ ih => exact .no ih
  | d h _ ih => exact .d (dp_mono e _ _ h) ih
  | f h _ ih => exact .f (FrG.grow _ _ _ _ _ h e) ih
  | @o w v R c s A A' h _ _ ih =>
    cases R with
    | lst ds =>
      obtain ⟨p, vs, rfl, rfl, h1, h2⟩ := h
      exact .d (.lst (SqL.of h1) (dpa_mono e _ _ h2)) ih
    | lls dss =>
      obtain ⟨p, ps, rfl, rfl, h1, h2⟩ := h
      exact .d (.lst (SqL.of h1) (ownLs_dp e h2)) ih
    | lstP P => exact .no ih
    | gen R => exact .no ih
    | dic _ => exact .no ih
    | tr t =>
      show Reps K ⟨H, H, []⟩ H H ((if t.isD = true then S.d t.toD else S.no) :: _) _ _
      by_cases d : t.isD = true
      · rw [if_pos d]
        exact .d (ot_dp e t _ _ h d fun _ _ => rfl) ih
      · rw [if_neg d]
        exact .no ih
  )
theorem Stt.bare (st : Stt K B c s G H) : Stt K ⟨H, H, []⟩ (c.map bare) s H H := (by
  obtain ⟨A, r, w⟩ := st.ex
  exact ⟨[], reps_bare w.sub r, Same.refl _, List.nodup_nil, by simp, Same.refl _, fun a o h _ => h, fun a h => h, fun a _ _ => .inl rfl, by simp⟩
  )
end
def layS : Ctx → List (Nat × PyData) → Ctx
  | c, [] => c
  | c, (i, x) :: l => layS (c.set i (.d x)) l
theorem Stt.lay {K : PySem.W.Frag} {H : Hp} {s : L2.St} : ∀ {l : List (Nat × PyData)} {c : Ctx}, Stt K ⟨H, H, []⟩ c s H H → (∀ z ∈ l, ∃ v, s[z.1]? = some (some v) ∧ Dp K H v z.2) → Stt K ⟨H, H, []⟩ (layS c l) s H H
  | [], _, st, _ => st
  | (i, x) :: l, c, st, h => by
    obtain ⟨v, e, d⟩ := h (i, x) List.mem_cons_self
    have st2 := st.set_d i d
    rw [set_same e] at st2
    exact Stt.lay (l := l) (c := c.set i (.d x)) st2 fun z hz => h z (List.mem_cons_of_mem _ hz)
section
variable {X : Cx} {a : Expr} {ta : TD} {tb : TB}
end
/-! ### inner lists by their addresses -/
section
variable {K : PySem.W.Frag} {B : Base} {G H : Hp} {c : Ctx} {s : L2.St}
end
section
variable {X : Cx} {a e : Expr} {ta : TD} {pos cpos apos p pn : Pos} {x y : Str}
end
/-! ### displays of lists of one's own -/
def lsP (ps : List Addr) (dss : List (List PyData)) : ResG where
  nt _ _ _ _ _ h := by
    obtain ⟨rfl, h2⟩ := h
    exact ownLs_nt h2
  P K G H _ A := A = ps ∧ OwnLs K G H ps dss
  grow _ _ _ _ _ _ h e := ⟨h.1, ownLs_mono h.2 e fun _ _ => rfl⟩
  loc _ _ _ _ _ _ h k := by
    obtain ⟨rfl, h2⟩ := h
    exact ⟨rfl, ownLs_mono h2 (Same.refl _) k⟩
  here _ _ _ _ _ h := by
    obtain ⟨rfl, h2⟩ := h
    exact ownLs_here h2
theorem Stt.merge {K : PySem.W.Frag} {B : Base} {G H : Hp} {c : Ctx} {s : L2.St} {R1 R2 R : Res} {v1 v2 : V} (st : Stt K B (.o none R1 :: .o none R2 :: c) (some v1 :: some v2 :: s) G H) (v : V) (h : ∀ A1 A2, R1.P K G H v1 A1 → R2.P K G H v2 A2 → R.P K G H v (A1 ++ A2)) : Stt K B (.o none R :: c) (some v :: s) G H := (by
  obtain ⟨A, r, w⟩ := st.ex
  cases r with
  | @o _ _ _ _ _ A1 _ h1 w1 r =>
    cases r with
    | @o _ _ _ _ _ A2 A3 h2 w2 r =>
      have w1 : ∀ a ∈ A1, B.H0 a = none := w1
      have w2 : ∀ a ∈ A2, B.H0 a = none := w2
      refine ⟨(A1 ++ A2) ++ A3, .o (h _ _ h1 h2) (fun a ha => ?_) r, by rw [List.append_assoc]; exact w⟩
      rcases List.mem_append.mp ha with z | z
      · exact w1 a z
      · exact w2 a z
  )
abbrev TLL := Ctx → (List (List PyData) → Ctx → Prop) → Prop
def DOsv (K : PySem.W.Frag) (te : TA) (t : TLL) : Prop := ∀ (B : Base) (c : Ctx) (s : L2.St) (G H : Hp) (Q : List (List PyData) → Ctx → Prop) (R : List V → Hp → Prop), Stt K B c s G H → t c Q →
  (∀ ps dss c' G' H', Stt K B (.o none (.gen (lsP ps dss)) :: c') (some (.ref 0) :: s) G' H' → Same G G' → ps.length = dss.length → Q dss c' → R (ps.map V.ref) H') → te s H R
structure DOs (X : Cx) (es : List Expr) (t : TLL) : Prop where
  ex : ∃ te, PA X es te ∧ DOsv X.K te t
section
variable {X : Cx} {e : Expr} {es : List Expr} {to : TR} {t : TLL} {pos : Pos}
end
/-! ### inner lists changed, by their numbers -/
section
variable {X : Cx} {a : Expr} {ta : TD} {pos cpos apos pn ps pc : Pos} {x : Str} {jj : Nat}
end
end Dl

/-! sorted of a tuple by a def of ours whose answers are whole numbers. -/
namespace PySem.W
open PySem PySem.Calls PyProof.Rows
section
variable {prog : Program} {w : World} {A : Around} {E : Value → Shared → Prop} {s : Shared} {a kS : Addr} {vs : List Value} {keys : Array Value} {e e1 : Nat} {P : PySem.Fin → Shared → Prop}
end
end PySem.W
namespace L2
open PySem PySem.Spec PyProof.Rows
section
variable {X : Cx} {pins : List (Addr × Obj)} {σ : St} {H H' : Hp} {s : Shared} {h' : Heap} {a k : Addr} {o : HO}
end
end L2
namespace Dl
open PySem PySem.Spec PyProof.Rows L2
section
variable {X : Cx} {T : TF} {k : Nat} {f : Addr} {fd : FuncData} {ps : List Str}
end
section
variable {K : PySem.W.Frag} {B : Base} {G H H1 : Hp} {c : Ctx} {s : L2.St}
end
section
variable {X : Cx} {T : TF} {k : Nat} {ps : List Str} {a : Expr} {ta : TD} {y : Str} {p py kp pos : Pos}
end
end Dl

/-! Dicts of one's own whose keys are flat tuples. -/
namespace Dl
open PySem PySem.Spec PyProof.Rows L2
def kOf : PyData → L2.Key
  | .int i => .inl i
  | .str x => .inr x
  | _ => .inl 0
theorem kV_vAt {d : PyData} (h : isAt d) : kV (kOf d) = vAt d := (by
  cases d with
  | int _ => rfl
  | str _ => rfl
  | _ => exact h.elim
  )
theorem keyD_kOf {d : PyData} (h : isAt d) : keyD (kOf d) = d := (by
  cases d with
  | int _ => rfl
  | str _ => rfl
  | _ => exact h.elim
  )
theorem kVs_vAt : ∀ {ds : List PyData}, (∀ d ∈ ds, isAt d) → (ds.map kOf).map kV = ds.map vAt
  | [], _ => rfl
  | d :: ds, h => by
    rw [List.map_cons, List.map_cons, List.map_cons, kV_vAt (h d List.mem_cons_self), kVs_vAt fun e he => h e (List.mem_cons_of_mem _ he)]
theorem keyDs_kOf : ∀ {ds : List PyData}, (∀ d ∈ ds, isAt d) → (ds.map kOf).map keyD = ds
  | [], _ => rfl
  | d :: ds, h => by
    rw [List.map_cons, List.map_cons, keyD_kOf (h d List.mem_cons_self), keyDs_kOf fun e he => h e (List.mem_cons_of_mem _ he)]
theorem keyD_in {k l : L2.Key} (h : keyD k = keyD l) : k = l := (by
  cases k <;> cases l <;> first | (cases h; done) | (injection h with h; rw [h])
  )
theorem keyDs_in : ∀ {k l : List L2.Key}, k.map keyD = l.map keyD → k = l
  | [], [], _ => rfl
  | [], _ :: _, h => by cases h
  | _ :: _, [], h => by cases h
  | k :: ks, l :: ls, h => by
    rw [List.map_cons, List.map_cons] at h
    injection h with h1 h2
    rw [keyD_in h1, keyDs_in h2]
/-- a flat tuple, known by what it is -/
def tupR (ds : List PyData) : FrG := { P := fun _ G v => ∃ b, v = .ref b ∧ G b = some (.tup (ds.map vAt)), grow := fun _ _ _ _ ⟨b, e, h⟩ s => ⟨b, e, s _ _ h⟩ }
/-- what stands at a key -/
noncomputable def dicAt (kvs : List (PyData × PyData)) (x : PyData) : Option PyData := (kvs.find? fun kv => decide (kv.1 = x)).map (·.2)
noncomputable def dicPut (kvs : List (PyData × PyData)) (x y : PyData) : List (PyData × PyData) := if (kvs.any fun kv => decide (kv.1 = x)) = true then kvs.map (fun kv => if kv.1 = x then (kv.1, y) else kv) else kvs ++ [(x, y)]
theorem dicE_at {K : PySem.W.Frag} {G : Hp} {ks : List L2.Key} : ∀ {ws : List (List L2.Key × V)} {kvs : List (PyData × PyData)}, DicE K G ws kvs → (valV ws ks = none ∧ dicAt kvs (.tuple (ks.map keyD)) = none) ∨ ∃ v d, valV ws ks = some v ∧ dicAt kvs (.tuple (ks.map keyD)) = some d ∧ Dp K G v d
  | _, _, .nil => .inl ⟨rfl, rfl⟩
  | (k, v) :: ws, (_, d) :: kvs, .cons h1 hs h2 => by
    by_cases e : k = ks
    · subst e
      exact .inr ⟨v, d, valV_pos rfl, by simp [dicAt, List.find?_cons], h1⟩
    · have e2 : ¬ (PyData.tuple (k.map keyD) = .tuple (ks.map keyD)) := fun z => e (keyDs_in (PyData.tuple.inj z))
      have q : dicAt ((.tuple (k.map keyD), d) :: kvs) (.tuple (ks.map keyD)) = dicAt kvs (.tuple (ks.map keyD)) := by simp [dicAt, List.find?_cons, e2]
      rw [valV_neg (p := (k, v)) e, q]
      exact dicE_at h2
theorem dicE_any {K : PySem.W.Frag} {G : Hp} {ks : List L2.Key} : ∀ {ws : List (List L2.Key × V)} {kvs : List (PyData × PyData)}, DicE K G ws kvs → (ws.any fun kv => decide (kv.1 = ks)) = kvs.any fun kv => decide (kv.1 = .tuple (ks.map keyD))
  | _, _, .nil => rfl
  | (k, v) :: ws, (_, d) :: kvs, .cons h1 hs h2 => by
    rw [List.any_cons, List.any_cons, dicE_any h2]
    congr 1
    by_cases e : k = ks
    · subst e; simp
    · have e2 : ¬ (PyData.tuple (k.map keyD) = .tuple (ks.map keyD)) := fun z => e (keyDs_in (PyData.tuple.inj z))
      simp [e, e2]
theorem dicE_len {K : PySem.W.Frag} {G : Hp} {ws : List (List L2.Key × V)} {kvs : List (PyData × PyData)} (h : DicE K G ws kvs) : ws.length = kvs.length := (by
  induction h with
  | nil => rfl
  | cons _ _ _ ih => simp [ih]
  )
theorem dicE_snoc {K : PySem.W.Frag} {G : Hp} {ks : List L2.Key} {v : V} {d : PyData} (hd : Dp K G v d) (hv : TupV G v d) {ws : List (List L2.Key × V)} {kvs : List (PyData × PyData)} (h : DicE K G ws kvs) : DicE K G (ws ++ [(ks, v)]) (kvs ++ [(.tuple (ks.map keyD), d)]) := (by
  induction h with
  | nil => exact .cons hd hv .nil
  | cons h1 hs _ ih => exact .cons h1 hs ih
  )
theorem dicE_repl {K : PySem.W.Frag} {G : Hp} {ks : List L2.Key} {v : V} {d : PyData} (hd : Dp K G v d) (hv : TupV G v d) {ws : List (List L2.Key × V)} {kvs : List (PyData × PyData)} (h : DicE K G ws kvs) :
    DicE K G (ws.map fun kv => if kv.1 = ks then (kv.1, v) else kv) (kvs.map fun kv => if kv.1 = .tuple (ks.map keyD) then (kv.1, d) else kv) := (by
  induction h with
  | nil => exact .nil
  | @cons k v0 d0 ws kvs h1 hs _ ih =>
    rw [List.map_cons, List.map_cons]
    by_cases e : k = ks
    · subst e
      rw [if_pos rfl, if_pos rfl]
      exact .cons hd hv ih
    · have e2 : ¬ (PyData.tuple (k.map keyD) = .tuple (ks.map keyD)) := fun z => e (keyDs_in (PyData.tuple.inj z))
      rw [if_neg (show ¬ (k, v0).1 = ks from e), if_neg (show ¬ ((PyData.tuple (k.map keyD), d0).1 = .tuple (ks.map keyD)) from e2)]
      exact .cons h1 hs ih
  )
theorem dicE_put {K : PySem.W.Frag} {G : Hp} {ks : List L2.Key} {v : V} {d : PyData} (hd : Dp K G v d) (hv : TupV G v d) {ws : List (List L2.Key × V)} {kvs : List (PyData × PyData)} (h : DicE K G ws kvs) : DicE K G (putK ws ks v) (dicPut kvs (.tuple (ks.map keyD)) d) := (by
  unfold putK dicPut
  rw [dicE_any h]
  split
  · exact dicE_repl hd hv h
  · exact dicE_snoc hd hv h
  )
def asDic (R : Res) (Q : List (PyData × PyData) → Prop) : Prop := match R with
  | .dic kvs => Q kvs
  | _ => False
theorem asDic_d {kvs : List (PyData × PyData)} {Q : List (PyData × PyData) → Prop} : asDic (.dic kvs) Q = Q kvs := id rfl
theorem asDic_of {R : Res} {Q : List (PyData × PyData) → Prop} (h : asDic R Q) : ∃ kvs, R = .dic kvs ∧ Q kvs := (by
  cases R with
  | dic kvs => exact ⟨kvs, rfl, h⟩
  | _ => exact h.elim
  )
section
variable {X : Cx} {j i : Nat} {x y : Str} {pos p : Pos}
/-- {} -/
def oDic0 : TR := fun c Q => Q (.dic []) c
theorem o_dic0 : DO X (.Dict [] [] pos) oDic0 := (by
  refine ⟨_, pe_dnewT, fun B c s G H Q R st q k => fun q1 h1 => ?_⟩
  refine k _ (.dic []) c G _ (st.laidR (A1 := [q1]) (fun a ha => ?_) (fun a ha => ?_) (fun a ha => ?_) (by simp) ?_) (Same.refl _) q
  · simp at ha
    rw [upd_ne ha]
  · simp at ha
    subst ha
    exact h1
  · simp at ha
    subst ha
    rw [upd_same]; exact fun z => nomatch z
  · exact ⟨q1, [], rfl, rfl, upd_same, .nil⟩
  )
def zSetK (i : Nat) (t : TL) : TSd := fun E c => t c fun ds c1 => ds.length ≤ sizeLine ∧ (∀ d ∈ ds, isAt d) ∧ E.nx (c1.set i (.f (tupR ds)))
theorem s_setK {es : List Expr} {kk : Nat} {tpos px : Pos} {t : TL} (hN : X.N.Nodup) (h : DA X es t) (hi : X.N[i]? = some x := by rfl) (hx : Loc X.env.scope x := by first | exact Or.inl rfl | exact Or.inr rfl) (hs : swapsWith (.Tuple es kk tpos) (some (.Name x px)) pos.line X.env = pure false := by rfl) (hf : X.fn x = true ∨ X.env.scope.names.lookup x = some .local := by first | exact .inl rfl | exact .inr rfl | assumption) : DS X (.Assign [.Name x px] (.Tuple es kk tpos) pos) (zSetK i t) := (by
  obtain ⟨ta, pa, va⟩ := h.ex
  refine ⟨_, ps_set hN hi hx (pe_tup pa) hs hf, fun B c s G H D E st k q => va B c s G H _ _ st q fun vs ds c1 G1 H1 st1 e1 d1 q1 => ⟨by rw [dpa_len d1]; exact q1.1, fun p hp => ?_⟩⟩
  obtain ⟨st2, e2⟩ := st1.laid (o := .tup vs) hp
  exact k.nx _ _ _ _ (st2.set_f i (v := .ref p) (F := tupR ds) ⟨p, rfl, by rw [← dpa_at q1.2.1 d1]; exact upd_same⟩) (e1.trans e2) q1.2.2
  )
/-- x in d, x a key's slot -/
def uDin (i j : Nat) (neg : Bool) : TD := fun c Q => ∃ ds, c[i]? = some (.f (tupR ds)) ∧ (∀ d ∈ ds, isAt d) ∧ slO c j fun _ R => asDic R fun kvs => Q (.bool (if neg then !(dicAt kvs (.tuple ds)).isSome else (dicAt kvs (.tuple ds)).isSome)) c
theorem din_of {K : PySem.W.Frag} {B : Base} {c : Ctx} {s : L2.St} {G H : Hp} (st : Stt K B c s G H) {ds : List PyData} {kvs : List (PyData × PyData)} {w : Option Lt} (h1 : c[i]? = some (.f (tupR ds))) (ha : ∀ d ∈ ds, isAt d) (h2 : c[j]? = some (.o w (.dic kvs))) :
    ∃ b p ws, s[i]? = some (some (.ref b)) ∧ s[j]? = some (some (.ref p)) ∧ H p = some (.dT ws) ∧ DicE K G ws kvs ∧ H b = some (.tup ((ds.map kOf).map kV)) ∧ (valV ws (ds.map kOf)).isSome = (dicAt kvs (.tuple ds)).isSome ∧ (∀ v, valV ws (ds.map kOf) = some v → ∃ d, dicAt kvs (.tuple ds) = some d ∧ Dp K G v d) := (by
  obtain ⟨A, r, wd⟩ := st.ex
  obtain ⟨v, f1, b, rfl, f2⟩ := r.get_f h1
  obtain ⟨v, A1, g1, ⟨p, ws, rfl, rfl, g2, g3⟩, _, _⟩ := st.foc h2
  refine ⟨b, p, ws, f1, g1, g2, g3, by rw [kVs_vAt ha]; exact wd.sub _ _ f2, ?_, fun v hv => ?_⟩
  · rcases dicE_at (ks := ds.map kOf) g3 with ⟨a1, a2⟩ | ⟨v, d, a1, a2, _⟩
    · rw [keyDs_kOf ha] at a2
      rw [a1, a2]; rfl
    · rw [keyDs_kOf ha] at a2
      rw [a1, a2]; rfl
  · rcases dicE_at (ks := ds.map kOf) g3 with ⟨a1, a2⟩ | ⟨u, d, a1, a2, a3⟩
    · rw [a1] at hv; cases hv
    · rw [keyDs_kOf ha] at a2
      rw [a1] at hv
      cases hv
      exact ⟨d, a2, a3⟩
  )
variable {p1 p2 : Pos}
theorem t_din (i j : Nat) (hu : X.A.units + 1 < cLine) (hN : X.N[i]? = some x := by rfl) (hv : Vis X.env.scope x := by first | exact Or.inl rfl | exact Or.inr (Or.inl rfl) | exact Or.inr (Or.inr rfl)) (hd : (x == ("__debug__" : Str)) = false := by decide) (hcd : (x == ("__classdict__" : Str)) = false := by decide)
    (hN2 : X.N[j]? = some y := by rfl) (hv2 : Vis X.env.scope y := by first | exact Or.inl rfl | exact Or.inr (Or.inl rfl) | exact Or.inr (Or.inr rfl)) (hd2 : (y == ("__debug__" : Str)) = false := by decide) (hcd2 : (y == ("__classdict__" : Str)) = false := by decide) (hm : behindInMarks .In (.Name y p2) = false := by rfl) :
    DT X (.Compare (.Name x p1) [.In] [.Name y p2] pos) (wB (uDin i j false)) := (by
  refine ⟨_, pt_cmp (pc_din hu (pe_var hN hv hd hcd) (pe_var hN2 hv2 hd2 hcd2)) hm, fun B c s G H Q R st q k => ?_⟩
  obtain ⟨ds, h1, ha, q⟩ := q
  obtain ⟨w, R0, e0, q⟩ := slO_of q
  obtain ⟨kvs, rfl, q⟩ := asDic_of q
  obtain ⟨b, p, ws, f1, f2, f3, f4, f5, f6, _⟩ := din_of st h1 ha e0
  refine ⟨.ref b, f1, .ref p, f2, p, _, rfl, DGet.t f3 f5, ?_⟩
  rw [f6]
  exact ⟨_, rfl, k _ c G H st (Same.refl _) q⟩
  )
/-- d[x] = e, x a key's slot -/
def zDput (i j : Nat) (te : TD) : TSd := fun E c => te c fun e c1 => scal e = true ∧ ∃ ds, c1[i]? = some (.f (tupR ds)) ∧ (∀ d ∈ ds, isAt d) ∧ slO c1 j fun w R => asDic R fun kvs => kvs.length < sizeLine ∧ E.nx (c1.set j (.o w (.dic (dicPut kvs (.tuple ds) e))))
theorem s_dput (i j : Nat) {e : Expr} {te : TD} {p3 : Pos} (hu : X.A.units + 1 < cLine) (he : DE X e te) (hN : X.N[i]? = some x := by rfl) (hv : Vis X.env.scope x := by first | exact Or.inl rfl | exact Or.inr (Or.inl rfl) | exact Or.inr (Or.inr rfl)) (hd : (x == ("__debug__" : Str)) = false := by decide) (hcd : (x == ("__classdict__" : Str)) = false := by decide)
    (hN2 : X.N[j]? = some y := by rfl) (hv2 : Vis X.env.scope y := by first | exact Or.inl rfl | exact Or.inr (Or.inl rfl) | exact Or.inr (Or.inr rfl)) (hd2 : (y == ("__debug__" : Str)) = false := by decide) (hcd2 : (y == ("__classdict__" : Str)) = false := by decide)
    (hs : swapsWith e (some (.Subscript (.Name y p2) (.Name x p1) p3)) pos.line X.env = pure false := by rfl) :
    DS X (.Assign [.Subscript (.Name y p2) (.Name x p1) p3] e pos) (zDput i j te) := (by
  obtain ⟨tee, pe, ve⟩ := he.ex
  refine ⟨_, ps_dput hu (pe_var hN2 hv2 hd2 hcd2) (pe_var hN hv hd hcd) pe hs, fun B c s G H D E st k q => ve B c s G H _ _ st q fun v0 d0 c1 G1 H1 st1 e1 d1 q1 => ?_⟩
  obtain ⟨hsc, ds, h1, ha, q1⟩ := q1
  obtain ⟨w, R0, e0, q1⟩ := slO_of q1
  obtain ⟨kvs, rfl, hl, q1⟩ := asDic_of q1
  obtain ⟨b, p, ws, f1, f2, f3, f4, f5, _, _⟩ := din_of st1 h1 ha e0
  have hws := dicE_len f4
  refine ⟨.ref p, f2, .ref b, f1, p, _, rfl, DPut.t f3 f5 (by omega), ?_⟩
  obtain ⟨v, A1, g1, ⟨p', ws', rfl, rfl, g2, g3⟩, nd, wr⟩ := st1.foc e0
  rw [f2] at g1
  cases g1
  rw [f3] at g2
  cases g2
  have st2 := wr (upd H1 p (.dT (putK ws (ds.map kOf) v0))) (.dic (dicPut kvs (.tuple ds) d0)) [p] (fun a ha => by
    simp at ha
    rw [upd_ne ha]) (fun a ha => .inl ha) (fun a ha => by
    simp at ha
    subst ha
    rw [upd_same]; exact fun z => nomatch z) (by simp) ⟨p, _, rfl, rfl, upd_same, by have := dicE_put (ks := ds.map kOf) d1 (fun ks z => by rw [z] at hsc; cases hsc) g3; rw [keyDs_kOf ha] at this; exact this⟩
  exact k.nx _ _ _ _ st2 e1 q1
  )
end
end Dl

/-! How many unlike ones stand in a list of numbers and texts: len(set(xs)). -/
namespace L2
/-- keys, each once, in the order in which they are met -/
def metK {α : Type} [DecidableEq α] (ks : List α) : List α := ks.foldl (fun σ v => if v ∈ σ then σ else σ ++ [v]) []
section
variable {α : Type} [DecidableEq α]
theorem metK_snoc {ks : List α} {k : α} : metK (ks ++ [k]) = if k ∈ metK ks then metK ks else metK ks ++ [k] := (by
  unfold metK
  rw [List.foldl_append]; rfl
  )
theorem metK_ok : ∀ (n : Nat) {ks : List α}, ks.length = n → (∀ k, k ∈ metK ks ↔ k ∈ ks) ∧ (metK ks).length ≤ ks.length ∧ ((metK ks).length = ks.length ↔ ks.Nodup)
  | 0, ks, h => by
    obtain rfl := List.length_eq_zero_iff.mp h
    exact ⟨fun k => Iff.rfl, Nat.le_refl _, by simp [metK]⟩
  | n + 1, ks, h => by
    obtain ⟨l, k, rfl⟩ : ∃ l k, ks = l ++ [k] := ⟨ks.dropLast, ks.getLast (fun z => by rw [z] at h; cases h), (List.dropLast_concat_getLast _).symm⟩
    have hl : l.length = n := by rw [List.length_append] at h; simp at h; exact h
    obtain ⟨h1, h2, h3⟩ := metK_ok n hl
    rw [metK_snoc]
    have nd : (l ++ [k]).Nodup ↔ l.Nodup ∧ k ∉ l := by
      rw [List.nodup_append]
      constructor
      · exact fun ⟨a, b, c⟩ => ⟨a, fun z => c k z k (by simp) rfl⟩
      · exact fun ⟨a, b⟩ => ⟨a, by simp, fun x hx y hy z => b (by obtain rfl := List.mem_singleton.mp hy; rw [← z]; exact hx)⟩
    rw [nd]
    by_cases hk : k ∈ metK l
    · rw [if_pos hk]
      have hk2 := (h1 k).mp hk
      refine ⟨fun x => by rw [h1, List.mem_append]; exact ⟨.inl, fun z => z.elim id fun z => by obtain rfl := List.mem_singleton.mp z; exact hk2⟩, by rw [List.length_append]; omega, ⟨fun z => ?_, fun z => absurd hk2 z.2⟩⟩
      rw [List.length_append] at z
      simp at z
      omega
    · rw [if_neg hk]
      have hk2 : k ∉ l := fun z => hk ((h1 k).mpr z)
      refine ⟨fun x => by rw [List.mem_append, List.mem_append, h1], by rw [List.length_append, List.length_append]; simp; omega, ?_⟩
      rw [List.length_append, List.length_append]
      simp only [List.length_cons, List.length_nil]
      exact ⟨fun z => ⟨h3.mp (by omega), hk2⟩, fun z => by rw [h3.mpr z.1]⟩
/-- membership, decided -/
def memD (x : α) (l : List α) : Bool := decide (x ∈ l)
theorem memD_iff {x : α} {l : List α} : memD x l = true ↔ x ∈ l := by unfold memD; exact decide_eq_true_iff
theorem memD_snoc {x y : α} {l : List α} : memD x (l ++ [y]) = (memD x l || decide (x = y)) := (by
  unfold memD
  by_cases h1 : x ∈ l
  · simp [h1]
  · by_cases h2 : x = y
    · simp [h2]
    · simp [h1, h2]
  )
theorem memD_nil {x : α} : memD x [] = false := by simp [memD]
theorem metK_mem {ks : List α} {k : α} : k ∈ metK ks ↔ k ∈ ks := (metK_ok _ rfl).1 k
theorem metK_le {ks : List α} : (metK ks).length ≤ ks.length := (metK_ok _ rfl).2.1
theorem metK_nd {ks : List α} : (metK ks).length = ks.length ↔ ks.Nodup := (metK_ok _ rfl).2.2
end
end L2
namespace PyProof.Rows
open PySem PySem.Spec
theorem SetOf_congrK {prog : Program} {w : World} {K : Type} [DecidableEq K] {knd : PySem.KeyKind prog w K} {h : Heap} {a : Addr} {S S' : K → Bool} {n n' : Nat}
    (hS : h.SetOf knd a S n) (e : ∀ k, S k = S' k) (en : n = n') : h.SetOf knd a S' n' := (by
  have : S = S' := funext e
  subst this; subst en; exact hS
  )
section
variable {prog : Program} {w : World} {A : Around} {R : Result → Shared → Prop} {I : Addr} {fp wr : List Addr} {G : Array GenState → Array GenState → Prop} {n : Nat} {P : Nat → Value → Prop} {St : Nat → Shared → Prop}
theorem codeAny_set_loopK (W : WalksS prog w A.in1 I fp wr G n P St) (S : Addr) (hSf : S ∉ fp) (ks : List L2.Key) (hl : ks.length = n)
    (hval : ∀ i v, P i v → ∃ k, ks[i]? = some k ∧ (L2.mixKind prog w).is k v = true ∧ v.scannable = true) (hb : n + 1 < scanBound) :
    ∀ (k i : Nat) (s : Shared), n - i = k → i ≤ n → St i s →
      s.heap.SetOf (L2.mixKind prog w) S (fun k' => L2.memD k' (ks.take i)) (L2.metK (ks.take i)).length →
      (∀ s', Moved (S :: wr) G s s' → s'.heap.SetOf (L2.mixKind prog w) S (fun k' => L2.memD k' ks) (L2.metK ks).length → R (.ok (.ret .none)) s') →
      codeAny (model prog w) A (.builtin "set.update.loop" ⟨[.ref S, .ref I], []⟩) R s := (by
  have hSw : S ∉ wr := fun h => hSf (W.sub _ h)
  have hsub : ∀ b ∈ wr, b ∈ S :: wr := fun b hb => List.mem_cons_of_mem _ hb
  intro k
  induction k with
  | zero =>
    intro i s hk hi hst hS hR
    have hin : i = n := by omega
    subst hin
    rw [List.take_of_length_le (Nat.le_of_eq hl)] at hS
    refine codeAny_builtin F.entry_set_update_loop ?_
    rw [Around.under_plainId F.plain_set_update_loop _]
    show wpAny _ A.in1 (pyNext (.ref I) >>= _) _ _ s
    refine wpAny_bind (W.done s _ _ hst fun s' hm => ?_)
    show wpAny _ A.in1 (ret Value.none) _ _ s'
    exact wpAny_pure (hR s' (hm.mono hsub) (by
      obtain ⟨o, es, ep, t, ho, rest⟩ := hS
      exact ⟨o, es, ep, t, hm.heap S _ hSw ho, rest⟩))
  | succ k ih =>
    intro i s hk hi hst hS hR
    have hlt : i < n := by omega
    refine codeAny_builtin F.entry_set_update_loop ?_
    rw [Around.under_plainId F.plain_set_update_loop _]
    show wpAny _ A.in1 (pyNext (.ref I) >>= _) _ _ s
    refine wpAny_bind (W.item i s _ _ hlt hst fun v s' hP hst' hm => ?_)
    obtain ⟨key, hki, his, hsc⟩ := hval i v hP
    have hS' : s'.heap.SetOf (L2.mixKind prog w) S (fun k' => L2.memD k' (ks.take i)) (L2.metK (ks.take i)).length := by
      obtain ⟨o, es, ep, tb, ho, rest⟩ := hS
      exact ⟨o, es, ep, tb, hm.heap S _ hSw ho, rest⟩
    show wpAny _ A.in1 (holding [v] (setAdd S v) >>= _) _ _ s'
    refine wpAny_bind (wpAny_holding ?_)
    unfold setAdd
    refine wpAny_holding ?_
    refine wpAny_bind ((L2.mixKind prog w).pyHash (k := key) his ?_)
    have hroom : (L2.metK (ks.take i)).length + 1 < scanBound := by
      have h1 := L2.metK_le (ks := ks.take i)
      rw [List.length_take] at h1
      omega
    refine wpAny_setAddHashed_of (knd := L2.mixKind prog w) (s := { s' with toks := s'.toks + 1 }) his hsc hS' hroom fun h' hsb hS2 => ?_
    have et : ks.take (i + 1) = ks.take i ++ [key] := by rw [List.take_add_one, hki]; rfl
    have hSi : h'.SetOf (L2.mixKind prog w) S (fun k' => L2.memD k' (ks.take (i + 1))) (L2.metK (ks.take (i + 1))).length := by
      refine SetOf_congrK hS2 (fun k' => ?_) ?_
      · rw [et, L2.memD_snoc]
      · rw [et, L2.metK_snoc]
        by_cases h1 : key ∈ ks.take i
        · rw [if_pos (L2.memD_iff.mpr h1), if_pos (L2.metK_mem.mpr h1)]
        · rw [if_neg fun z => h1 (L2.memD_iff.mp z), if_neg fun z => h1 (L2.metK_mem.mp z), List.length_append]; rfl
    refine wpAny_pure ⟨plainId_quiet F.plain_set_update_loop _, ih (i + 1) _ (by omega) hlt (W.frame _ s' _ _ hst' (Nat.le_succ _) fun b hb o e => ?_) hSi fun s'' hm'' hS'' => ?_⟩
    · rw [hsb.2 b (fun h : b = S => hSf (by rw [← h]; exact hb))]; exact e
    · refine hR s'' (Moved.trans W.gtrans ((hm.mono hsub).then_heap (Nat.le_succ _) fun b o hb e => ?_) hm'') hS''
      rw [hsb.2 b (fun h : b = S => hb (by rw [h]; exact List.mem_cons_self))]; exact e
  )
end
end PyProof.Rows
namespace PySem
section
variable {prog : Program} {w : World} {A : Around} {E : Value → Shared → Prop} {s : Shared}
set_option maxHeartbeats 6400000 in
theorem call_set_listK {l : Addr} {items : Array Value} {ks : List L2.Key} {Q : Value → Shared → Prop}
    (hh : A.handled = none) (hl : s.heap.IsList l items) (hlen : ks.length = items.size) (hi : ∀ (i : Nat) (v : Value), items[i]? = some v → ∃ k, ks[i]? = some k ∧ (L2.mixKind prog w).is k v = true ∧ v.scannable = true) (hb : items.size + 1 < scanBound)
    (h : ∀ (h' : Heap) (tk : Nat), h'.SetOf (L2.mixKind prog w) s.heap.objs.size (fun k' => L2.memD k' ks) (L2.metK ks).length →
      (∀ b o, b < s.heap.objs.size → s.heap.get? b = some o → h'.get? b = some o) → Q (.ref s.heap.objs.size) { s with heap := h', toks := tk }) :
    wpAny (model prog w) A (call (.type "set") [.ref l]) Q E s := (by
  obtain ⟨c, tl, hmro⟩ := F.called_set.mro
  have hmade := F.called_set.made
  have hsub := F.called_set.sub
  refine wpAny_call (codeAny_of_tree ?_)
  show wpAny _ _ (callAny (.type "set") _) _ _ _
  refine wpAny_pure ⟨Code.quiet_builtin _ (by decide +kernel), codeAny_builtin F.entry_type_call ?_⟩
  rw [Around.under_plain (weight_type_call_type "set" [.ref l] []) rfl]
  have h1 := F.called_set.notType
  have h2 := F.called_set.canCreate
  have hct := F.typeCall_set_1 (.ref l)
  repeat (any_goals (first | assumption | wp_step))
  refine codeAny_mono (code_set_new_1 (.ref l) (E := E) (Q₁ := fun obj s₁ => ∃ led : Bool, obj = .ref s.heap.objs.size ∧ s₁ = { s with heap := s.heap.push { cls := .type "set", dict := none, data := .set #[] 0 (.fresh 0 0 led) } }) fun led => ⟨led, rfl, rfl⟩) fun r s₁ hr => ?_
  cases r with
  | error e => exact hr
  | ok fl =>
    cases fl with
    | ret obj =>
      obtain ⟨led, rfl, rfl⟩ := hr
      have hS : (s.heap.push { cls := .type "set", dict := none, data := .set #[] 0 (.fresh 0 0 led) }).get? s.heap.objs.size = some { cls := .type "set", dict := none, data := .set #[] 0 (.fresh 0 0 led) } := Heap.get?_push_size _ rfl
      have hT : Shared.TypeIs { s with heap := s.heap.push { cls := .type "set", dict := none, data := .set #[] 0 (.fresh 0 0 led) } } (.ref s.heap.objs.size) "set" := ⟨_, hS, rfl⟩
      have hli := F.called_set.init.lookup
      have hbi := F.called_set.init.bind (.ref s.heap.objs.size)
      repeat (any_goals (first | assumption | wp_step))
      refine codeAny_mono (codeAny_call_builtin (R := wants (fun r s₂ => r = .none ∧ ∃ h' tk, s₂ = { s with heap := h', toks := tk } ∧
          h'.SetOf (L2.mixKind prog w) s.heap.objs.size (fun k' => L2.memD k' ks) (L2.metK ks).length ∧
          (∀ b o, b < s.heap.objs.size → s.heap.get? b = some o → h'.get? b = some o)) E) F.called_set.init.plain F.entry_set_init (check_set_init_1 hT ?_)) fun r₂ s₂ hr₂ => ?_
      · obtain ⟨ol, hol, hcl, nl, hdl⟩ := hl
        obtain ⟨ocls, odict, odata, oslots⟩ := ol
        simp only at hcl hdl
        subst hcl; subst hdl
        have hol' : (s.heap.push { cls := .type "set", dict := none, data := .set #[] 0 (.fresh 0 0 led) }).get? l = some { cls := .type "list", dict := odict, data := .seq items nl, slots := oslots } := Heap.get?_push_of_some _ hol
        have hsls := F.sub_list_set
        have hslf := F.sub_list_frozenset
        have hne : (Value.type "list" == Value.type "dict") = false := by decide
        have hl1 : (s.heap.push { cls := .type "set", dict := none, data := .set #[] 0 (.fresh 0 0 led) }).IsList l items := ⟨_, hol', rfl, nl, rfl⟩
        unfold Builtin.«set.__init__» noKeywords Builtin.Frozenset.updateFrom
        generalize hPI : pyIter = PI
        wp_walk
        subst hPI
        refine wpAny_pyIter_list hl1 ?_
        refine wpAny_bind (wpAny_runValue ?_)
        have hlS : l < s.heap.objs.size := Heap.lt_size hol
        have hh3 : A.in1.in1.in1.handled = none := by simp [hh]
        have hneI : l ≠ (s.heap.push { cls := .type "set", dict := none, data := .set #[] 0 (.fresh 0 0 led) }).objs.size := by
          rw [Heap.size_push]; exact Nat.ne_of_lt (Nat.lt_succ_of_lt hlS)
        have hSf : s.heap.objs.size ∉ [(s.heap.push { cls := .type "set", dict := none, data := .set #[] 0 (.fresh 0 0 led) }).objs.size, l] := by
          rw [Heap.size_push]; simp only [List.mem_cons, List.mem_singleton, List.not_mem_nil, or_false, not_or]
          exact ⟨Nat.ne_of_lt (Nat.lt_succ_self _), Nat.ne_of_gt hlS⟩
        refine PyProof.Rows.codeAny_set_loopK ((Walks.list hh3 _ l hneI items).toS) s.heap.objs.size
          hSf ks hlen hi hb (items.size - 0) 0 _ (by omega) (Nat.zero_le _)
          ⟨⟨_, Heap.get?_push_size _ rfl, rfl, rfl⟩, (hl1.push _)⟩ ?hS0 ?hR
        case hS0 =>
          have hget : ((s.heap.push { cls := .type "set", dict := none, data := .set #[] 0 (.fresh 0 0 led) }).push { cls := .type "list_iterator", data := .fields #[.ref l, .int 0 0] }).get? s.heap.objs.size
              = some { cls := .type "set", dict := none, data := .set #[] 0 (.fresh 0 0 led) } := Heap.get?_push_of_some _ hS
          exact PyProof.Rows.SetOf_congrK (S := fun _ => false) (n := 0) ⟨_, #[], 0, _, hget, ⟨rfl, rfl, rfl⟩, rfl, fun e he => by simp at he, fun k => by simp, by unfold scanBound; decide, by rfl, rfl⟩ (fun _ => by rw [List.take_zero, L2.memD_nil]) (by rw [List.take_zero]; rfl)
        case hR =>
          intro s' hm hS'
          obtain ⟨h', g', d', tk', os'⟩ := s'
          have eg : g' = s.gens := hm.gens
          have ed : d' = s.drawn := hm.drawn
          have eo : os' = s.os := hm.os
          subst eg; subst ed; subst eo
          show wpAny _ _ _ _ _ _
          refine wpAny_pure ?_
          show wpAny _ _ (ret Value.none) _ _ _
          refine wpAny_pure ⟨rfl, h', tk', rfl, hS', fun b o hb e => ?_⟩
          have hb1 : b ≠ s.heap.objs.size := Nat.ne_of_lt hb
          have hb2 : b ≠ (s.heap.push { cls := .type "set", dict := none, data := .set #[] 0 (.fresh 0 0 led) }).objs.size := by
            rw [Heap.size_push]; exact Nat.ne_of_lt (Nat.lt_succ_of_lt hb)
          exact hm.heap b o (by simp only [List.mem_cons, List.mem_singleton, List.not_mem_nil, or_false, not_or]; exact ⟨hb1, hb2⟩) (Heap.get?_push_of_some _ (Heap.get?_push_of_some _ e))
      · cases r₂ with
        | error e => exact hr₂
        | ok fl₂ =>
          cases fl₂ with
          | ret r =>
            obtain ⟨rfl, h', tk, rfl, hS', hk'⟩ := hr₂
            repeat (any_goals (first | assumption | wp_step))
            exact h _ _ hS' hk'
          | _ => exact hr₂.elim
    | _ => exact hr.elim
  )
end
end PySem
namespace PySem
section
variable {prog : Program} {w : World} {A : Around} {E : Value → Shared → Prop} {s : Shared}
theorem CmpOf.strs_lt {P : Nat → Value → Prop} (val : Nat → Str) (hval : ∀ i v, P i v → ∃ t, v = .str (val i) t) :
    CmpOf prog w A .Lt P (fun i j => decide ((val i).cps.toList < (val j).cps.toList)) := fun i j vi vj s Q E hi hj h => by
  obtain ⟨t, rfl⟩ := hval i vi hi
  obtain ⟨u, rfl⟩ := hval j vj hj
  exact richCompare_gives (op := .Lt) (typeIs_str s _ t) (typeIs_str s _ u) F.slot_str_lt F.entry_str_lt (F.args_str_lt_2 _ _) (gives_str_lt _ _ t u) (fun x => nomatch x) h
theorem CmpOf.strs_gt {P : Nat → Value → Prop} (val : Nat → Str) (hval : ∀ i v, P i v → ∃ t, v = .str (val i) t) :
    CmpOf prog w A .Gt P (fun i j => decide ((val j).cps.toList < (val i).cps.toList)) := fun i j vi vj s Q E hi hj h => by
  obtain ⟨t, rfl⟩ := hval i vi hi
  obtain ⟨u, rfl⟩ := hval j vj hj
  exact richCompare_gives (op := .Gt) (typeIs_str s _ t) (typeIs_str s _ u) F.slot_str_gt F.entry_str_gt (F.args_str_gt_2 _ _) (gives_str_gt _ _ t u) (fun x => nomatch x) h
def txtAt (a b : Str) (i : Nat) : Str := if i = 0 then a else b
theorem two_txt {a b : Str} {t u : Tok} {i : Nat} {v : Value} (h : (#[Value.str a t, Value.str b u])[i]? = some v) : ∃ t, v = .str (txtAt a b i) t := (by
  match i, h with
  | 0, h => exact ⟨t, by simpa [txtAt] using h.symm⟩
  | 1, h => exact ⟨u, by simpa [txtAt] using h.symm⟩
  | i + 2, h => simp at h
  )
theorem min_two_strs {a b : Str} {t u : Tok} {Q : Value → Shared → Prop} (hh : A.handled = none)
    (h : ∀ h' tk, (∀ c o, s.heap.get? c = some o → h'.get? c = some o) → Q (if b.cps.toList < a.cps.toList then .str b u else .str a t) { s with heap := h', toks := tk }) :
    wpAny (model prog w) A (call (.builtin "min") [.str a t, .str b u]) Q E s := (by
  have hT : (s.heap.push { cls := .type "tuple", data := .seq #[.str a t, .str b u] }).IsTuple s.heap.objs.size #[.str a t, .str b u] := ⟨_, Heap.get?_push_size _ rfl, rfl, 0, rfl⟩
  refine call_min_two (wpAny_pyIter_tuple hT ?_)
  have hsz : (s.heap.push { cls := .type "tuple", data := .seq #[.str a t, .str b u] }).objs.size = s.heap.objs.size + 1 := Heap.size_push ..
  refine ⟨_, [_, s.heap.objs.size], [_], _, _, _, _, rfl, Walks.tuple (A := A.in1) hh _ s.heap.objs.size (by rw [hsz]; exact Nat.ne_of_lt (Nat.lt_succ_self _)) #[.str a t, .str b u],
    ⟨⟨_, Heap.get?_push_size _ rfl, rfl, rfl⟩, hT.push _⟩, fun c hc => ?_, by simp, CmpOf.strs_lt (txtAt a b) (fun _ _ => two_txt), fun v h' tk hP hk => ?_⟩
  · show c < ((s.heap.push _).push _).objs.size
    rw [Heap.size_push, hsz]
    rcases List.mem_cons.mp hc with rfl | hc
    · rw [hsz]; exact Nat.lt_succ_self _
    · rcases List.mem_cons.mp hc with rfl | hc
      · exact Nat.lt_succ_of_lt (Nat.lt_succ_self _)
      · cases hc
  · have hold : ∀ c o, s.heap.get? c = some o → h'.get? c = some o := fun c o e => by
      refine hk c o (fun hm => ?_) (Heap.get?_push_of_some _ (Heap.get?_push_of_some _ e))
      rcases List.mem_cons.mp hm with e1 | hm
      · have := Heap.lt_size e; rw [e1, hsz] at this; exact Nat.lt_irrefl _ (Nat.lt_of_succ_lt this)
      · cases hm
    have := h h' tk hold
    have hP' : (#[Value.str a t, Value.str b u])[argBest (fun i j => decide ((txtAt a b i).cps.toList < (txtAt a b j).cps.toList)) 1]? = some v := hP
    have hv : v = if b.cps.toList < a.cps.toList then Value.str b u else .str a t := by
      by_cases hba : b.cps.toList < a.cps.toList
      · have e : argBest (fun i j => decide ((txtAt a b i).cps.toList < (txtAt a b j).cps.toList)) 1 = 1 := by
          show (if decide ((txtAt a b 1).cps.toList < (txtAt a b 0).cps.toList) = true then 1 else 0) = 1
          exact if_pos (decide_eq_true hba)
        rw [e] at hP'
        rw [if_pos hba]
        exact (Option.some.inj hP').symm
      · have e : argBest (fun i j => decide ((txtAt a b i).cps.toList < (txtAt a b j).cps.toList)) 1 = 0 := by
          show (if decide ((txtAt a b 1).cps.toList < (txtAt a b 0).cps.toList) = true then 1 else 0) = 0
          exact if_neg fun z => hba (of_decide_eq_true z)
        rw [e] at hP'
        rw [if_neg hba]
        exact (Option.some.inj hP').symm
    rw [hv]
    exact this
  )
theorem max_two_strs {a b : Str} {t u : Tok} {Q : Value → Shared → Prop} (hh : A.handled = none)
    (h : ∀ h' tk, (∀ c o, s.heap.get? c = some o → h'.get? c = some o) → Q (if a.cps.toList < b.cps.toList then .str b u else .str a t) { s with heap := h', toks := tk }) :
    wpAny (model prog w) A (call (.builtin "max") [.str a t, .str b u]) Q E s := (by
  have hT : (s.heap.push { cls := .type "tuple", data := .seq #[.str a t, .str b u] }).IsTuple s.heap.objs.size #[.str a t, .str b u] := ⟨_, Heap.get?_push_size _ rfl, rfl, 0, rfl⟩
  refine call_max_two (wpAny_pyIter_tuple hT ?_)
  have hsz : (s.heap.push { cls := .type "tuple", data := .seq #[.str a t, .str b u] }).objs.size = s.heap.objs.size + 1 := Heap.size_push ..
  refine ⟨_, [_, s.heap.objs.size], [_], _, _, _, _, rfl, Walks.tuple (A := A.in1) hh _ s.heap.objs.size (by rw [hsz]; exact Nat.ne_of_lt (Nat.lt_succ_self _)) #[.str a t, .str b u],
    ⟨⟨_, Heap.get?_push_size _ rfl, rfl, rfl⟩, hT.push _⟩, fun c hc => ?_, by simp, CmpOf.strs_gt (txtAt a b) (fun _ _ => two_txt), fun v h' tk hP hk => ?_⟩
  · show c < ((s.heap.push _).push _).objs.size
    rw [Heap.size_push, hsz]
    rcases List.mem_cons.mp hc with rfl | hc
    · rw [hsz]; exact Nat.lt_succ_self _
    · rcases List.mem_cons.mp hc with rfl | hc
      · exact Nat.lt_succ_of_lt (Nat.lt_succ_self _)
      · cases hc
  · have hold : ∀ c o, s.heap.get? c = some o → h'.get? c = some o := fun c o e => by
      refine hk c o (fun hm => ?_) (Heap.get?_push_of_some _ (Heap.get?_push_of_some _ e))
      rcases List.mem_cons.mp hm with e1 | hm
      · have := Heap.lt_size e; rw [e1, hsz] at this; exact Nat.lt_irrefl _ (Nat.lt_of_succ_lt this)
      · cases hm
    have := h h' tk hold
    have hP' : (#[Value.str a t, Value.str b u])[argBest (fun i j => decide ((txtAt a b j).cps.toList < (txtAt a b i).cps.toList)) 1]? = some v := hP
    have hv : v = if a.cps.toList < b.cps.toList then Value.str b u else .str a t := by
      by_cases hba : a.cps.toList < b.cps.toList
      · have e : argBest (fun i j => decide ((txtAt a b j).cps.toList < (txtAt a b i).cps.toList)) 1 = 1 := by
          show (if decide ((txtAt a b 0).cps.toList < (txtAt a b 1).cps.toList) = true then 1 else 0) = 1
          exact if_pos (decide_eq_true hba)
        rw [e] at hP'
        rw [if_pos hba]
        exact (Option.some.inj hP').symm
      · have e : argBest (fun i j => decide ((txtAt a b j).cps.toList < (txtAt a b i).cps.toList)) 1 = 0 := by
          show (if decide ((txtAt a b 0).cps.toList < (txtAt a b 1).cps.toList) = true then 1 else 0) = 0
          exact if_neg fun z => hba (of_decide_eq_true z)
        rw [e] at hP'
        rw [if_neg hba]
        exact (Option.some.inj hP').symm
    rw [hv]
    exact this
  )
end
end PySem
namespace L2
open PySem PySem.Spec PyProof.Rows
section
variable {X : Cx}
theorem call_min2S (hc : X.calm = true) : CallR X (.builtin "min") (fun xs H Q => ∃ i j, xs = [.str i, .str j] ∧ Q (.str (if j.cps.toList < i.cps.toList then j else i)) H) := (by
  intro pins s σ H xs us Q I r h
  obtain ⟨i, j, rfl, q⟩ := h
  obtain ⟨u, w', rfl, ⟨t, rfl⟩, ⟨t', rfl⟩⟩ := vals2 r
  refine min_two_strs (I.ok.hd hc) fun h' tk k => ⟨_, H, I.kept k, ?_, q⟩
  by_cases hj : j.cps.toList < i.cps.toList
  · rw [if_pos hj, if_pos hj]; exact ⟨_, rfl⟩
  · rw [if_neg hj, if_neg hj]; exact ⟨_, rfl⟩
  )
theorem call_max2S (hc : X.calm = true) : CallR X (.builtin "max") (fun xs H Q => ∃ i j, xs = [.str i, .str j] ∧ Q (.str (if i.cps.toList < j.cps.toList then j else i)) H) := (by
  intro pins s σ H xs us Q I r h
  obtain ⟨i, j, rfl, q⟩ := h
  obtain ⟨u, w', rfl, ⟨t, rfl⟩, ⟨t', rfl⟩⟩ := vals2 r
  refine max_two_strs (I.ok.hd hc) fun h' tk k => ⟨_, H, I.kept k, ?_, q⟩
  by_cases hj : i.cps.toList < j.cps.toList
  · rw [if_pos hj, if_pos hj]; exact ⟨_, rfl⟩
  · rw [if_neg hj, if_neg hj]; exact ⟨_, rfl⟩
  )
/-- len(set(xs)), xs a list of numbers and texts -/
def tLenSetK (K : PySem.W.Frag) (ta : TE) : TE := fun σ H Q => ta σ H fun x H1 => ∃ (l : Addr) (ks : List Key), x = V.ref l ∧ SqL K H1 l (ks.map kV) ∧ ks.length ≤ 1000 ∧ Q (.int (metK ks).length) H1
theorem pe_lenSetK {a : Expr} {ta : TE} {p p2 q pos : Pos} (hc : X.calm = true) (hm : X.mg "len" = none) (hm2 : X.mg "set" = none) (ha : PE X a ta) (hg : Gl X "len" := by rfl) (hg2 : Gl X "set" := by rfl)
    (na : starEach [a] X.env = (false, eval a X.env) :: starEach [] X.env := by rfl) : PE X (.Call (.Name "len" p) [.Call (.Name "set" p2) [a] [] q] [] pos) (tLenSetK X.K ta) := (by
  refine ⟨fun pins s σ H Q I h => ?_⟩
  refine Call_ (ld_blt I hg hm boot_len ?_)
  refine PyProof.Rows.callWith_builtin1 (PyProof.Rows.args_cons ?_ rfl) rfl rfl
  refine Call_ (ld_blt I hg2 hm2 boot_set ?_)
  refine PyProof.Rows.callWith_type1 (PyProof.Rows.args_cons (thn (ha.run pins s σ H _ I h) fun v s1 ⟨x, H1, I1, r1, q1⟩ => PyProof.Rows.args_nil ?_) na) na rfl
  obtain ⟨l, ks, rfl, hq, h1, q1⟩ := q1
  cases r1
  obtain ⟨its, r, pl, hz⟩ := I1.list hq
  have hl : its.toArray.size = ks.length := by rw [List.size_toArray, ← r.length, List.length_map]
  refine PySem.call_set_listK (ks := ks) (I1.ok.hd hc) pl.isList hl.symm (fun i v hv => ?_) (by rw [hl]; unfold scanBound; omega) fun h' tk hS hk => ?_
  · have hi : i < ks.length := by rw [← hl]; exact (Array.getElem?_eq_some_iff.mp hv).1
    obtain ⟨u, hu, ru⟩ := r.get (i := i) (x := kV ks[i]) (by rw [List.getElem?_map, List.getElem?_eq_getElem hi]; rfl)
    have : v = u := by
      have : its[i]? = some v := by simpa using hv
      rw [this] at hu
      exact Option.some.inj hu
    subst this
    exact ⟨ks[i], List.getElem?_eq_getElem hi, kV_is ru, key_scan ru⟩
  · refine PyProof.Rows.args_nil ?_
    obtain ⟨o, es, ep, t, ho, hex, hd, _, _, _, hf, hn⟩ := hS
    have I2 : Inv X pins σ H1 { s1 with heap := h', toks := tk } := I1.kept fun b o e => hk b o (Heap.lt_size e) e
    have hle := metK_le (ks := ks)
    refine call_len_set ho hex hd hf (by rw [hn]; omega) ⟨.int (metK ks).length, H1, I2.tok _, ⟨_, by rw [hn]⟩, q1⟩
  )
def rIsET (K : PySem.W.Frag) (D a : Addr) : List V → Hp → VK → Prop := fun xs H Q => ∃ (tp : Addr) (cs : List V) (us : List Value) (b : Bool), xs = [.ref a, .ref tp] ∧ H tp = some (.tup cs) ∧ Paired ClsV cs us ∧ PySem.W.kitAny K (.ref D) us = some b ∧ Q (.bl b) H
end
end L2

namespace Dl
open PySem PySem.Spec PyProof.Rows L2
theorem hu1 {k : Nat} {A : Around} (r : Room k A) : A.units + 1 < cLine := by have := r.units; omega
section
variable {X : Cx} {a b : Expr} {es : List Expr} {ta tb : TD} {tl : TL} {p p2 pos q : Pos} {n : Str}
def fMin2S (xs : List PyData) (Q : PyData → Prop) : Prop := arg2 xs fun x y => asS x fun i => asS y fun j => Q (.str (if j.cps.toList < i.cps.toList then j else i))
def fMax2S (xs : List PyData) (Q : PyData → Prop) : Prop := arg2 xs fun x y => asS x fun i => asS y fun j => Q (.str (if i.cps.toList < j.cps.toList then j else i))
theorem d_min2S (hc : X.calm = true) (hm : X.mg "min" = none) (ha : DA X (a :: es) tl) (hg : Gl X "min" := by rfl) (he : starEach (a :: es) X.env = (false, eval a X.env) :: starEach es X.env := by rfl) (hpl : (backTo pos (starEach es X.env)).any (·.1) = false := by rfl) : DE X (.Call (.Name "min" p) (a :: es) [] pos) (uCB fMin2S tl) := (by
  refine d_callB (call_min2S hc) (fun B c s G H vs xs Q R st da h k => ?_) hm (by decide +kernel) ha hg (by decide) (by decide) he hpl
  obtain ⟨x, y, rfl, h⟩ := arg2_of h
  obtain ⟨i, rfl, h⟩ := asS_of h
  obtain ⟨j, rfl, q⟩ := asS_of h
  obtain ⟨v, w, rfl, d1, d2⟩ := dpa_2 da
  cases d1
  cases d2
  exact ⟨i, j, rfl, k _ _ G H st (Same.refl _) (.str _) q⟩
  )
theorem d_max2S (hc : X.calm = true) (hm : X.mg "max" = none) (ha : DA X (a :: es) tl) (hg : Gl X "max" := by rfl) (he : starEach (a :: es) X.env = (false, eval a X.env) :: starEach es X.env := by rfl) (hpl : (backTo pos (starEach es X.env)).any (·.1) = false := by rfl) : DE X (.Call (.Name "max" p) (a :: es) [] pos) (uCB fMax2S tl) := (by
  refine d_callB (call_max2S hc) (fun B c s G H vs xs Q R st da h k => ?_) hm (by decide +kernel) ha hg (by decide) (by decide) he hpl
  obtain ⟨x, y, rfl, h⟩ := arg2_of h
  obtain ⟨i, rfl, h⟩ := asS_of h
  obtain ⟨j, rfl, q⟩ := asS_of h
  obtain ⟨v, w, rfl, d1, d2⟩ := dpa_2 da
  cases d1
  cases d2
  exact ⟨i, j, rfl, k _ _ G H st (Same.refl _) (.str _) q⟩
  )
theorem nodup_keys {ds : List PyData} (h : ∀ d ∈ ds, isAt d) : (ds.map kOf).Nodup ↔ ds.Nodup := (by
  have inj : ∀ {x y : PyData}, isAt x → isAt y → kOf x = kOf y → x = y := fun hx hy e => by rw [← keyD_kOf hx, ← keyD_kOf hy, e]
  unfold List.Nodup
  rw [List.pairwise_map]
  constructor
  · exact fun q => q.imp fun z e => z (by rw [e])
  · intro q
    refine List.Pairwise.imp_of_mem (R := fun a b => a ≠ b) (fun ha hb z e => z (inj (h _ ha) (h _ hb) e)) q
  )
/-- len(set(xs)), xs a list of numbers and texts: as many as there are unlike ones -/
def uLenSet (ta : TD) : TD := fun c Q => ta c fun x c1 => asL x fun ds => ds.length ≤ 1000 ∧ (∀ d ∈ ds, isAt d) ∧ ∀ m : Nat, m ≤ ds.length → (m = ds.length ↔ ds.Nodup) → Q (.int m) c1
theorem d_lenSet (hc : X.calm = true) (hm : X.mg "len" = none) (hm2 : X.mg "set" = none) (ha : DE X a ta) (hg : Gl X "len" := by rfl) (hg2 : Gl X "set" := by rfl)
    (na : starEach [a] X.env = (false, eval a X.env) :: starEach [] X.env := by rfl) : DE X (.Call (.Name "len" p) [.Call (.Name "set" p2) [a] [] q] [] pos) (uLenSet ta) := (by
  obtain ⟨tea, pa, va⟩ := ha.ex
  refine ⟨_, pe_lenSetK hc hm hm2 pa hg hg2 na, fun B c s G H Q R st q k => va B c s G H _ _ st q fun v x c1 G1 H1 st1 e1 d1 q1 => ?_⟩
  obtain ⟨ds, rfl, hl, hat, q1⟩ := asL_of q1
  obtain ⟨l, vs, rfl, h1, h2⟩ := dp_lst d1
  refine ⟨l, ds.map kOf, rfl, by rw [kVs_vAt hat, ← dpa_at hat h2]; exact Same.seq st1.sub h1, by rw [List.length_map]; exact hl, ?_⟩
  refine k _ _ c1 G1 H1 st1 e1 (.int _) (q1 (metK (ds.map kOf)).length ?_ ?_)
  · have := metK_le (ks := ds.map kOf)
    rwa [List.length_map] at this
  · have := metK_nd (ks := ds.map kOf)
    rw [List.length_map, nodup_keys hat] at this
    exact this
  )
/-- isinstance(e, (classes)) -/
structure Clss (X : Cx) (es : List Expr) (as : List Addr) : Prop where
  ex : ∃ t, PA X es t ∧ ∀ σ H (Q : List V → Hp → Prop), Q (as.map V.ref) H → t σ H Q
theorem cl_nil : Clss X [] [] := ⟨_, pa_nil, fun _ _ _ q => q⟩
theorem cl_cons {y : Str} {py : Pos} {as : List Addr} (hy : X.mg y = some (.ref (He.ga X.K y))) (h : Clss X es as) (hg : Gl X y := by rfl) (hd : (y == ("__debug__" : Str)) = false := by decide) (hs : starEach (.Name y py :: es) X.env = (false, eval (.Name y py) X.env) :: starEach es X.env := by rfl) : Clss X (.Name y py :: es) (He.ga X.K y :: as) := (by
  obtain ⟨t, p, v⟩ := h.ex
  exact ⟨_, pa_cons (pe_glob (v := .ref (He.ga X.K y)) hg hy rfl hd) p hs, fun σ H Q q => v σ H _ q⟩
  )
theorem paired_own : ∀ as : List Addr, Paired ClsV (as.map V.ref) (as.map Value.ref)
  | [] => .nil
  | a :: as => .cons (.own a) (paired_own as)
end
end Dl

/-! Dicts whose keys are tuples: d.values(), keys that are data. -/
namespace L2
open PySem PySem.Spec PyProof.Rows
section
variable {X : Cx} {pins : List (Addr × Obj)} {σ : St} {H : Hp} {s : Shared} {d : Addr} {o : Obj}
end
section
variable {P : Program} {w : World} {K : PySem.W.Frag} {tg : Expr} {d : Addr} {o : Obj} {es : Array DictEntry} {ep : Nat}
end
section
variable {X : Cx} {tg e : Expr} {td : TE} {apos cpos : Pos}
end
/-! ### keys that are data: a tuple of the heap, however it is held -/
section
variable {X : Cx} {pins : List (Addr × Obj)} {σ : St} {H : Hp} {s : Shared} {a b : Addr} {v : V} {Q : Value → Shared → Prop} {A : Around} {E : Value → Shared → Prop}
end
end L2
namespace Dl
open PySem PySem.Spec PyProof.Rows L2
section
variable {K : PySem.W.Frag} {B : Base} {G H : Hp} {c : Ctx} {s : L2.St}
/-- the dict of slot j -/
theorem Stt.dic (st : Stt K B c s G H) {j : Nat} {w : Option Lt} {kvs : List (PyData × PyData)} (e : c[j]? = some (.o w (.dic kvs))) : ∃ p ws, s[j]? = some (some (.ref p)) ∧ H p = some (.dT ws) ∧ DicE K G ws kvs ∧
    ∀ ws' kvs', DicE K G ws' kvs' → Stt K B (c.set j (.o w (.dic kvs'))) s G (upd H p (.dT ws')) := (by
  obtain ⟨v, A1, g1, ⟨p, ws, rfl, rfl, h1, h2⟩, nd, wr⟩ := st.foc e
  refine ⟨p, ws, g1, h1, h2, fun ws' kvs' h' => wr _ (.dic kvs') [p] (fun a ha => ?_) (fun a ha => .inl ha) (fun a ha => ?_) (by simp) ⟨p, ws', rfl, rfl, upd_same, h'⟩⟩
  · simp at ha
    rw [upd_ne ha]
  · simp at ha
    subst ha
    rw [upd_same]; exact fun z => nomatch z
  )
end
section
variable {X : Cx} {a : Expr} {ta : TD} {x y : Str} {p pos apos cpos p1 p2 : Pos}
/-! ### for y in d.values() -/
def lkP (p : Addr) (od : Obj) (ws : List (List L2.Key × V)) (kvs : List (PyData × PyData)) : ResG where
  nt _ _ _ _ _ h := by
    obtain ⟨rfl, rfl, h1, h2⟩ := h
    intro a ha o e
    obtain rfl : a = p := by simpa using ha
    rw [h1] at e
    cases e; rfl
  P K G H v A := v = .ref p ∧ A = [p] ∧ H p = some (.frz od (.dT ws)) ∧ DicE K G ws kvs
  grow _ _ _ _ _ _ h e := ⟨h.1, h.2.1, h.2.2.1, dicE_mono h.2.2.2 e⟩
  loc _ _ _ _ _ _ h k := by
    obtain ⟨rfl, rfl, h1, h2⟩ := h
    exact ⟨rfl, rfl, (k p (by simp)).trans h1, h2⟩
  here _ _ _ _ _ h := by
    obtain ⟨rfl, rfl, h1, h2⟩ := h
    intro a ha
    obtain rfl : a = p := by simpa using ha
    rw [h1]; exact fun z => nomatch z
end
section
variable {K : PySem.W.Frag} {B : Base} {G H : Hp} {c : Ctx} {s : L2.St}
theorem Stt.locked (st : Stt K B c s G H) {j : Nat} {w : Option Lt} {p : Addr} {od : Obj} {ws : List (List L2.Key × V)} {kvs : List (PyData × PyData)} (e : c[j]? = some (.o w (.gen (lkP p od ws kvs)))) :
    H p = some (.frz od (.dT ws)) ∧ DicE K G ws kvs ∧ Stt K B (c.set j (.o w (.dic kvs))) s G (upd H p (.dT ws)) := (by
  obtain ⟨v, A1, g1, ⟨rfl, rfl, h1, h2⟩, nd, wr⟩ := st.foc e
  refine ⟨h1, h2, wr _ (.dic kvs) [p] (fun a ha => ?_) (fun a ha => .inl ha) (fun a ha => ?_) (by simp) ⟨p, ws, rfl, rfl, upd_same, h2⟩⟩
  · simp at ha
    rw [upd_ne ha]
  · simp at ha
    subst ha
    rw [upd_same]; exact fun z => nomatch z
  )
end
section
variable {X : Cx} {x y : Str} {p pos apos cpos yp : Pos}
end
end Dl
namespace L2
open PySem PySem.Spec PyProof.Rows
section
variable {X : Cx} {e : Expr} {td : TE} {p apos cpos pos : Pos}
end
end L2
namespace Dl
open PySem PySem.Spec PyProof.Rows L2
section
variable {X : Cx} {x : Str} {p p2 apos cpos pos pn ps : Pos}
end
end Dl

/-! Trees of one's own: places, reading, changing; calls that answer anything. -/
namespace Dl
open PySem PySem.Spec PyProof.Rows L2
/-! ### parts of trees -/
def OT.ch : OT → List OT
  | .dat _ => []
  | .lst ts => ts
  | .tup ts => ts
  | .dic _ _ _ ts => ts
  | .obj _ _ ts => ts
def OT.wch : OT → List OT → OT
  | .dat x, _ => .dat x
  | .lst _, ts => .lst ts
  | .tup _, ts => .tup ts
  | .dic P w ks _, ts => .dic P w ks ts
  | .obj C fs _, ts => .obj C fs ts
def OT.get : OT → List Nat → Option OT
  | T, [] => some T
  | T, n :: π => match T.ch[n]? with
    | some t => t.get π
    | none => none
def OT.upd : OT → OT → List Nat → OT
  | _, T', [] => T'
  | T, T', n :: π => T.wch (T.ch.set n (OT.upd ((T.ch[n]?).getD (.dat .none)) T' π))
/-- a part looked at and changed -/
structure FocT (K : PySem.W.Frag) (G H : Hp) (A : List Addr) (t : OT) (v : V) (A1 : List Addr) (up : Hp → Hp → OT → List Addr → Prop) : Prop where
  own : OwnT K G H t v A1
  nd : A1.Nodup
  sub : ∀ a ∈ A1, a ∈ A
  put : ∀ {G' H' : Hp} {t' : OT} {A1' : List Addr}, Same G G' → (∀ a ∈ A, a ∉ A1 → H' a = H a) → OwnT K G' H' t' v A1' → A1'.Nodup → (∀ a ∈ A1', a ∈ A1 ∨ a ∉ A) → ∃ A', up G' H' t' A' ∧ A'.Nodup ∧ (∀ a ∈ A', a ∈ A1' ∨ (a ∈ A ∧ a ∉ A1)) ∧ ∀ a ∈ A1', a ∈ A'
section
variable {K : PySem.W.Frag} {G H : Hp}
theorem ots_len : ∀ {ts : List OT} {vs : List V} {A : List Addr}, OwnTs K G H ts vs A → vs.length = ts.length
  | [], _, _, h => by cases h; rfl
  | t :: ts, _, _, h => by
    cases h with
    | cons h1 h2 => rw [List.length_cons, List.length_cons, ots_len h2]
theorem ots_focus : ∀ {ts : List OT} {vs : List V} {A : List Addr} {n : Nat} {t : OT}, OwnTs K G H ts vs A → A.Nodup → ts[n]? = some t → ∃ v A1, vs[n]? = some v ∧ FocT K G H A t v A1 (fun G' H' t' A' => OwnTs K G' H' (ts.set n t') vs A')
  | [], _, _, n, _, _, _, h => by simp at h
  | t :: ts, _, _, 0, t0, h, nd, e => by
    cases h with
    | @cons _ _ v vs Ah At h1 h2 =>
      obtain ⟨n1, n2, n3⟩ := List.nodup_append.mp nd
      simp at e
      subst e
      refine ⟨v, Ah, rfl, h1, n1, fun a ha => List.mem_append_left _ ha, fun {G' H' t' A1'} e1 e2 e3 e4 e5 => ?_⟩
      have nin : ∀ a ∈ At, a ∉ Ah := fun a ha z => n3 a z a ha rfl
      refine ⟨A1' ++ At, .cons e3 (ots_mono e1 ts _ _ h2 fun a ha => e2 a (List.mem_append_right _ ha) (nin a ha)), ?_, fun a ha => ?_, fun a ha => List.mem_append_left _ ha⟩
      · refine List.nodup_append.mpr ⟨e4, n2, fun a ha b hb e => ?_⟩
        subst e
        rcases e5 a ha with z | z
        · exact nin a hb z
        · exact z (List.mem_append_right _ hb)
      · rcases List.mem_append.mp ha with z | z
        · exact .inl z
        · exact .inr ⟨List.mem_append_right _ z, nin a z⟩
  | t :: ts, _, _, n + 1, t0, h, nd, e => by
    cases h with
    | @cons _ _ v vs Ah At h1 h2 =>
      obtain ⟨n1, n2, n3⟩ := List.nodup_append.mp nd
      obtain ⟨u, A1, g1, F⟩ := ots_focus (n := n) h2 n2 (by simpa using e)
      refine ⟨u, A1, by simpa using g1, F.own, F.nd, fun a ha => List.mem_append_right _ (F.sub a ha), fun {G' H' t' A1'} e1 e2 e3 e4 e5 => ?_⟩
      have nA1 : ∀ a ∈ Ah, a ∉ A1 := fun a ha z => n3 a ha a (F.sub a z) rfl
      obtain ⟨A', r, m1, m2, m3⟩ := F.put e1 (fun a ha hn => e2 a (List.mem_append_right _ ha) hn) e3 e4 fun a ha => by
        rcases e5 a ha with z | z
        · exact .inl z
        · exact .inr fun y => z (List.mem_append_right _ y)
      refine ⟨Ah ++ A', .cons (ot_mono e1 t _ _ h1 fun a ha => e2 a (List.mem_append_left _ ha) (nA1 a ha)) r, ?_, fun a ha => ?_, fun a ha => List.mem_append_right _ (m3 a ha)⟩
      · refine List.nodup_append.mpr ⟨n1, m1, fun a ha b hb e => ?_⟩
        subst e
        rcases m2 a hb with z | ⟨z, _⟩
        · rcases e5 a z with y | y
          · exact nA1 a ha y
          · exact y (List.mem_append_left _ ha)
        · exact n3 a ha a z rfl
      · rcases List.mem_append.mp ha with z | z
        · exact .inr ⟨List.mem_append_left _ z, nA1 a z⟩
        · rcases m2 a z with y | ⟨y1, y2⟩
          · exact .inl y
          · exact .inr ⟨List.mem_append_right _ y1, y2⟩
/-- a node: its own addresses, its children -/
inductive Node (K : PySem.W.Frag) (G H : Hp) : OT → V → List Addr → List V → List Addr → Prop
  | lst {p : Addr} {ts : List OT} {vs : List V} {A : List Addr} : H p = some (.lst vs) → OwnTs K G H ts vs A → Node K G H (.lst ts) (.ref p) [p] vs A
  | tup {p : Addr} {ts : List OT} {vs : List V} {A : List Addr} : G p = some (.tup vs) → OwnTs K G H ts vs A → Node K G H (.tup ts) (.ref p) [] vs A
  | dic {P : Program} {w : World} {p : Addr} {kb : List (NestedKey × Addr)} {ks : List PyData} {ts : List OT} {vs : List V} {A : List Addr} : H p = some (NkO P w p kb vs) → (kb.length = vs.length ∧ DpAll K G (kb.map fun x => .ref x.2) ks ∧ (∀ k ∈ ks, keyOk k) ∧ kb.map (·.1) = ks.map nkOf) → OwnTs K G H ts vs A → Node K G H (.dic P w ks ts) (.ref p) [p] vs A
  | obj {p dx : Addr} {C : Str} {fs : List Str} {ts : List OT} {vs : List V} {A : List Addr} : H p = some (.ins (He.ga K C) dx (fs.zip vs)) → H dx = some (.own p) → fs.length = vs.length → OwnTs K G H ts vs A → Node K G H (.obj C fs ts) (.ref p) [p, dx] vs A
theorem Node.kids {T : OT} {v : V} {A0 A : List Addr} {vs : List V} (h : Node K G H T v A0 vs A) : OwnTs K G H T.ch vs A := (by
  cases h <;> assumption
  )
theorem Node.mono {T : OT} {v : V} {A0 A : List Addr} {vs : List V} (h : Node K G H T v A0 vs A) {G' H' : Hp} (e : Same G G') (k : ∀ a ∈ A0, H' a = H a) (k2 : ∀ a ∈ A, H' a = H a) : Node K G' H' T v A0 vs A := (by
  cases h with
  | lst h1 h2 => exact .lst ((k _ List.mem_cons_self).trans h1) (ots_mono e _ _ _ h2 k2)
  | tup h1 h2 => exact .tup (e _ _ h1) (ots_mono e _ _ _ h2 k2)
  | dic h1 h3 h2 => exact .dic ((k _ List.mem_cons_self).trans h1) ⟨h3.1, dpa_mono e _ _ h3.2.1, h3.2.2⟩ (ots_mono e _ _ _ h2 k2)
  | obj h1 h3 h4 h2 => exact .obj ((k _ List.mem_cons_self).trans h1) ((k _ (List.mem_cons_of_mem _ List.mem_cons_self)).trans h3) h4 (ots_mono e _ _ _ h2 k2)
  )
theorem Node.mk {T : OT} {v : V} {A0 A : List Addr} {vs : List V} (h : Node K G H T v A0 vs A) {G' H' : Hp} {ts : List OT} {A' : List Addr} (e : Same G G') (k : ∀ a ∈ A0, H' a = H a) (h' : OwnTs K G' H' ts vs A') : OwnT K G' H' (T.wch ts) v (A0 ++ A') := (by
  cases h with
  | lst h1 _ => exact .lst ((k _ List.mem_cons_self).trans h1) h'
  | tup h1 _ => exact .tup (e _ _ h1) h'
  | dic h1 h2 _ => exact .dic ((k _ List.mem_cons_self).trans h1) ⟨h2.1, dpa_mono e _ _ h2.2.1, h2.2.2⟩ h'
  | obj h1 h2 h3 _ => exact .obj ((k _ List.mem_cons_self).trans h1) ((k _ (List.mem_cons_of_mem _ List.mem_cons_self)).trans h2) h3 h'
  )
theorem node_of {T : OT} {v : V} {A : List Addr} (h : OwnT K G H T v A) {n : Nat} {t : OT} (hn : T.ch[n]? = some t) : ∃ A0 vs A', A = A0 ++ A' ∧ Node K G H T v A0 vs A' := (by
  cases h with
  | dat _ => simp [OT.ch] at hn
  | @lst p _ vs A h1 h2 => exact ⟨[p], vs, A, rfl, .lst h1 h2⟩
  | @tup p _ vs A h1 h2 => exact ⟨[], vs, _, rfl, .tup h1 h2⟩
  | @dic _ _ p _ _ _ vs A h1 h3 h2 => exact ⟨[p], vs, A, rfl, .dic h1 h3 h2⟩
  | @obj p dx _ _ _ vs A h1 h3 h4 h2 => exact ⟨[p, dx], vs, A, rfl, .obj h1 h3 h4 h2⟩
  )
/-- a child of a part -/
theorem FocT.child {A : List Addr} {T : OT} {v : V} {A1 : List Addr} {up : Hp → Hp → OT → List Addr → Prop} (F : FocT K G H A T v A1 up) {n : Nat} {t : OT} (hn : T.ch[n]? = some t) :
    ∃ A0 vs As u A2, Node K G H T v A0 vs As ∧ (∀ a ∈ A0, a ∈ A) ∧ (∀ a ∈ As, a ∈ A) ∧ vs[n]? = some u ∧ FocT K G H A t u A2 (fun G' H' t' A' => up G' H' (T.wch (T.ch.set n t')) A') := (by
  obtain ⟨A0, vs, As, rfl, N⟩ := node_of F.own hn
  obtain ⟨n1, n2, n3⟩ := List.nodup_append.mp F.nd
  obtain ⟨u, A2, g1, F2⟩ := ots_focus N.kids n2 hn
  refine ⟨A0, vs, As, u, A2, N, fun a ha => F.sub a (List.mem_append_left _ ha), fun a ha => F.sub a (List.mem_append_right _ ha), g1, F2.own, F2.nd, fun a ha => F.sub a (List.mem_append_right _ (F2.sub a ha)), fun {G' H' t' A1'} e1 e2 e3 e4 e5 => ?_⟩
  have z0 : ∀ a ∈ A0, a ∉ A2 := fun a ha z => n3 a ha a (F2.sub a z) rfl
  obtain ⟨A', r, m1, m2, m3⟩ := F2.put e1 (fun a ha hn => e2 a (F.sub a (List.mem_append_right _ ha)) hn) e3 e4 fun a ha => by
    rcases e5 a ha with z | z
    · exact .inl z
    · exact .inr fun y => z (F.sub a (List.mem_append_right _ y))
  have own' := N.mk e1 (fun a ha => e2 a (F.sub a (List.mem_append_left _ ha)) (z0 a ha)) r
  have dj : ∀ a ∈ A0, a ∉ A' := fun a ha z => by
    rcases m2 a z with y | ⟨y, _⟩
    · rcases e5 a y with q | q
      · exact z0 a ha q
      · exact q (F.sub a (List.mem_append_left _ ha))
    · exact n3 a ha a y rfl
  obtain ⟨A'', r', k1, k2, k3⟩ := F.put e1 (fun a ha hn => e2 a ha fun z => hn (List.mem_append_right _ (F2.sub a z))) own' (List.nodup_append.mpr ⟨n1, m1, fun a ha b hb e => dj a ha (e ▸ hb)⟩) fun a ha => by
    rcases List.mem_append.mp ha with z | z
    · exact .inl (List.mem_append_left _ z)
    · rcases m2 a z with y | ⟨y, _⟩
      · rcases e5 a y with q | q
        · exact .inl (List.mem_append_right _ (F2.sub a q))
        · exact .inr q
      · exact .inl (List.mem_append_right _ y)
  refine ⟨A'', r', k1, fun a ha => ?_, fun a ha => k3 a (List.mem_append_right _ (m3 a ha))⟩
  rcases k2 a ha with z | ⟨z1, z2⟩
  · rcases List.mem_append.mp z with y | y
    · exact .inr ⟨F.sub a (List.mem_append_left _ y), z0 a y⟩
    · rcases m2 a y with q | ⟨q1, q2⟩
      · exact .inl q
      · exact .inr ⟨F.sub a (List.mem_append_right _ q1), q2⟩
  · exact .inr ⟨z1, fun y => z2 (List.mem_append_right _ (F2.sub a y))⟩
  )
theorem get_app : ∀ {π : List Nat} {T t t' : OT} {n : Nat}, T.get π = some t → t.ch[n]? = some t' → T.get (π ++ [n]) = some t' ∧ ∀ x, T.upd x (π ++ [n]) = T.upd (t.wch (t.ch.set n x)) π
  | [], T, t, t', n, h, e => by
    cases h
    refine ⟨?_, fun x => rfl⟩
    show (match T.ch[n]? with
      | some t => t.get []
      | none => none) = some t'
    rw [e]; rfl
  | m :: π, T, t, t', n, h, e => by
    have h : (match T.ch[m]? with
      | some t => t.get π
      | none => none) = some t := h
    cases hm : T.ch[m]? with
    | none => rw [hm] at h; cases h
    | some s =>
      rw [hm] at h
      obtain ⟨i1, i2⟩ := get_app (π := π) h e
      refine ⟨?_, fun x => ?_⟩
      · show (match T.ch[m]? with
          | some t => t.get (π ++ [n])
          | none => none) = some t'
        rw [hm]
        exact i1
      · show T.wch (T.ch.set m (OT.upd ((T.ch[m]?).getD (.dat .none)) x (π ++ [n]))) = T.wch (T.ch.set m (OT.upd ((T.ch[m]?).getD (.dat .none)) _ π))
        rw [hm, Option.getD_some, i2]
end
/-! ### pins: a thing of one's own held as it is -/
def pinR (v0 : V) (A0 : List Addr) (H0 : Hp) : ResG where
  P _ _ H v A := v = v0 ∧ A = A0 ∧ (∀ a ∈ A0, H a = H0 a) ∧ ∀ a ∈ A0, H a ≠ none ∧ ∀ o, H a = some o → isTup o = false
  grow _ _ _ _ _ _ h _ := h
  loc _ _ H H' v A h k := by
    obtain ⟨rfl, rfl, h1, h2⟩ := h
    exact ⟨rfl, rfl, fun a ha => (k a ha).trans (h1 a ha), fun a ha => by rw [k a ha]; exact h2 a ha⟩
  here _ _ _ _ _ h := by
    obtain ⟨rfl, rfl, h1, h2⟩ := h
    exact fun a ha => (h2 a ha).1
  nt _ _ _ _ _ h := by
    obtain ⟨rfl, rfl, h1, h2⟩ := h
    exact fun a ha => (h2 a ha).2
section
variable {K : PySem.W.Frag} {B : Base} {G H : Hp} {c : Ctx} {s : L2.St}
theorem Stt.pin (st : Stt K B c s G H) {j : Nat} {w : Option Lt} {R : Res} (e : c[j]? = some (.o w R)) : ∃ v A, s[j]? = some (some v) ∧ R.P K G H v A ∧ A.Nodup ∧ Stt K B (c.set j (.o w (.gen (pinR v A H)))) s G H := (by
  obtain ⟨v, A, g, h, nd, wr⟩ := st.foc e
  have here := Res.here h
  exact ⟨v, A, g, h, nd, wr H (.gen (pinR v A H)) A (fun _ _ => rfl) (fun a ha => .inl ha) here nd ⟨rfl, rfl, fun _ _ => rfl, fun a ha => ⟨here a ha, Res.nt h a ha⟩⟩⟩
  )
theorem Stt.unpin (st : Stt K B c s G H) {j : Nat} {w : Option Lt} {v : V} {A : List Addr} {H0 : Hp} (e : c[j]? = some (.o w (.gen (pinR v A H0)))) : s[j]? = some (some v) ∧ (∀ a ∈ A, H a = H0 a) ∧
    ∀ (H' : Hp) (R' : Res) (A' : List Addr), (∀ a, a ∉ A' → H' a = H a) → (∀ a ∈ A', a ∈ A ∨ H a = none) → (∀ a ∈ A', H' a ≠ none) → A'.Nodup → R'.P K G H' v A' → Stt K B (c.set j (.o w R')) s G H' := (by
  obtain ⟨v', A', g, ⟨rfl, rfl, h1, h2⟩, nd, wr⟩ := st.foc e
  exact ⟨g, h1, wr⟩
  )
theorem Stt.unpin2 {Rt : Res} {vt : V} (st : Stt K B (.o none Rt :: c) (some vt :: s) G H) {j : Nat} {w : Option Lt} {v : V} {A : List Addr} {H0 : Hp} (e : c[j]? = some (.o w (.gen (pinR v A H0)))) : ∃ At, s[j]? = some (some v) ∧ (∀ a ∈ A, H a = H0 a) ∧ Rt.P K G H vt At ∧ (A ++ At).Nodup ∧
    ∀ (H' : Hp) (R' : Res) (A' : List Addr), (∀ a, a ∉ A' → H' a = H a) → (∀ a ∈ A', a ∈ A ∨ a ∈ At ∨ H a = none) → (∀ a ∈ A', H' a ≠ none) → A'.Nodup → R'.P K G H' v A' → Stt K B (c.set j (.o w R')) s G H' := (by
  obtain ⟨v', A', At, g, ⟨rfl, rfl, h1, h2⟩, ht, nd, wr⟩ := st.foc2 e
  exact ⟨At, g, h1, ht, nd, wr⟩
  )
theorem set_back {c : Ctx} {j : Nat} {x y : S} (e : c[j]? = some x) : (c.set j y).set j x = c := (by
  rw [List.set_set]
  refine List.ext_getElem? fun i => ?_
  by_cases h : j = i
  · subst h
    rw [List.getElem?_set_self (List.getElem?_eq_some_iff.mp e).1, e]
  · rw [List.getElem?_set_ne h]
  )
end
/-! ### calm expressions: they lay frozen things at most -/
abbrev TC := Ctx → (PyData → Prop) → Prop
def DCv (K : PySem.W.Frag) (te : TE) (t : TC) : Prop := ∀ (B : Base) (c : Ctx) (s : L2.St) (G H : Hp) (Q : PyData → Prop) (R : VK), Stt K B c s G H → t c Q →
  (∀ v x G' H', (∀ (B2 : Base) c2 s2, Stt K B2 c2 s2 G H → Stt K B2 c2 s2 G' H') → Same G G' → Same H H' → Dp K G' v x → Q x → R v H') → te s H R
structure DC (X : Cx) (e : Expr) (t : TC) : Prop where
  ex : ∃ te, PE X e te ∧ DCv X.K te t
abbrev TCs := Ctx → (List PyData → Prop) → Prop
def DCsv (K : PySem.W.Frag) (te : TA) (t : TCs) : Prop := ∀ (B : Base) (c : Ctx) (s : L2.St) (G H : Hp) (Q : List PyData → Prop) (R : List V → Hp → Prop), Stt K B c s G H → t c Q →
  (∀ vs xs G' H', (∀ (B2 : Base) c2 s2, Stt K B2 c2 s2 G H → Stt K B2 c2 s2 G' H') → Same G G' → Same H H' → DpAll K G' vs xs → Q xs → R vs H') → te s H R
structure DCs (X : Cx) (es : List Expr) (t : TCs) : Prop where
  ex : ∃ te, PA X es te ∧ DCsv X.K te t
def kC (x : PyData) : TC := fun _ Q => Q x
section
variable {X : Cx} {pos : Pos} {e : Expr} {es : List Expr} {t : TC} {u : TCs}
theorem k_int {i j} : DC X (.Constant (.int i) j pos) (kC (.int i)) := ⟨_, pe_int, fun _ c _ G H _ _ st h k => k _ _ G H (fun _ _ _ z => z) (Same.refl _) (Same.refl _) (.int i) h⟩
theorem k_bl {b j} : DC X (.Constant (.bool b) j pos) (kC (.bool b)) := ⟨_, pe_bl, fun _ c _ G H _ _ st h k => k _ _ G H (fun _ _ _ z => z) (Same.refl _) (Same.refl _) (.bl b) h⟩
end
end Dl

/-! Trees of one's own: rules. -/
namespace Dl
open PySem PySem.Spec PyProof.Rows L2
def asTr (R : Res) (Q : OT → Prop) : Prop := match R with
  | .tr t => Q t
  | _ => False
theorem asTr_t {t : OT} {Q : OT → Prop} : asTr (.tr t) Q = Q t := id rfl
theorem asTr_of {R : Res} {Q : OT → Prop} (h : asTr R Q) : ∃ t, R = .tr t ∧ Q t := (by
  cases R <;> first | exact ⟨_, rfl, h⟩ | exact False.elim h
  )
def asDat (t : OT) (Q : PyData → Prop) : Prop := match t with
  | .dat x => Q x
  | _ => False
theorem asDat_d {x : PyData} {Q : PyData → Prop} : asDat (.dat x) Q = Q x := id rfl
theorem asDat_of {t : OT} {Q : PyData → Prop} (h : asDat t Q) : ∃ x, t = .dat x ∧ Q x := (by
  cases t <;> first | exact ⟨_, rfl, h⟩ | exact False.elim h
  )
/-- a list of data -/
def asDs (t : OT) (Q : List PyData → Prop) : Prop := ∃ xs : List PyData, t = .lst (xs.map .dat) ∧ Q xs
theorem dats_in : ∀ {xs ys : List PyData}, xs.map OT.dat = ys.map OT.dat → xs = ys
  | [], [], _ => rfl
  | [], _ :: _, h => by cases h
  | _ :: _, [], h => by cases h
  | x :: xs, y :: ys, h => by
    rw [List.map_cons, List.map_cons] at h
    injection h with h1 h2
    injection h1 with h1
    rw [h1, dats_in h2]
theorem asDs_l {xs : List PyData} {Q : List PyData → Prop} : asDs (.lst (xs.map .dat)) Q = Q xs := propext ⟨fun ⟨ys, e, q⟩ => by
  injection e with e
  rw [dats_in e]; exact q, fun q => ⟨xs, rfl, q⟩⟩
theorem asDs_n {Q : List PyData → Prop} : asDs (.lst []) Q = Q [] := asDs_l (xs := [])
section
variable {K : PySem.W.Frag} {G H : Hp}
theorem ots_dats : ∀ {xs : List PyData} {vs : List V} {A : List Addr}, OwnTs K G H (xs.map .dat) vs A → A = [] ∧ DpAll K G vs xs
  | [], _, _, h => by cases h; exact ⟨rfl, .nil⟩
  | x :: xs, _, _, h => by
    cases h with
    | cons h1 h2 =>
      cases h1 with
      | dat d =>
        obtain ⟨rfl, d2⟩ := ots_dats h2
        exact ⟨rfl, .cons d d2⟩
theorem dats_ots : ∀ {xs : List PyData} {vs : List V}, DpAll K G vs xs → OwnTs K G H (xs.map .dat) vs []
  | [], _, h => by cases h; exact .nil
  | x :: xs, _, h => by
    cases h with
    | cons h1 h2 => exact .cons (A := []) (.dat h1) (dats_ots h2)
theorem ots_app : ∀ {ts us : List OT} {vs ws : List V} {A A' : List Addr}, OwnTs K G H ts vs A → OwnTs K G H us ws A' → OwnTs K G H (ts ++ us) (vs ++ ws) (A ++ A')
  | [], _, _, _, _, _, h, h' => by cases h; exact h'
  | t :: ts, _, _, _, _, _, h, h' => by
    cases h with
    | cons h1 h2 =>
      rw [List.append_assoc]
      exact .cons h1 (ots_app h2 h')
end
/-! ### places -/
abbrev TPl := Ctx → (List Nat → OT → Ctx → Prop) → Prop
/-- what is known at a place: the whole is pinned -/
structure Plc (K : PySem.W.Frag) (B : Base) (s : L2.St) (j : Nat) (c' : Ctx) (G' H' : Hp) (w : Option Lt) (T : OT) (root : V) (u : V) (π : List Nat) (T' : OT) (A A1 : List Addr) (G0 H0 : Hp) : Prop where
  slot : c'[j]? = some (.o w (.tr T))
  val : s[j]? = some (some root)
  st : Stt K B (c'.set j (.o w (.gen (pinR root A H0)))) s G' H'
  ext : Same G0 G'
  nd : A.Nodup
  own : OwnT K G0 H0 T root A
  get : T.get π = some T'
  foc : FocT K G0 H0 A T' u A1 (fun G' H' t' A' => OwnT K G' H' (T.upd t' π) root A')
def DPlv (K : PySem.W.Frag) (te : TE) (j : Nat) (t : TPl) : Prop := ∀ (B : Base) (c : Ctx) (s : L2.St) (G H : Hp) (Q : List Nat → OT → Ctx → Prop) (R : VK), Stt K B c s G H → t c Q →
  (∀ c' G' H' w T root u π T' A A1 G0 H0, Plc K B s j c' G' H' w T root u π T' A A1 G0 H0 → Same G G' → Q π T' c' → R u H') → te s H R
structure DPl (X : Cx) (e : Expr) (j : Nat) (t : TPl) : Prop where
  ex : ∃ te, PE X e te ∧ DPlv X.K te j t
section
variable {K : PySem.W.Frag} {B : Base} {s : L2.St} {j : Nat} {c' : Ctx} {G' H' : Hp} {w : Option Lt} {T : OT} {root u : V} {π : List Nat} {T' : OT} {A A1 : List Addr} {G0 H0 : Hp}
theorem Plc.at_pin (p : Plc K B s j c' G' H' w T root u π T' A A1 G0 H0) : (c'.set j (.o w (.gen (pinR root A H0))))[j]? = some (.o w (.gen (pinR root A H0))) := List.getElem?_set_self (List.getElem?_eq_some_iff.mp p.slot).1
theorem Plc.same (p : Plc K B s j c' G' H' w T root u π T' A A1 G0 H0) : ∀ a ∈ A, H' a = H0 a := (p.st.unpin p.at_pin).2.1
theorem Plc.here (p : Plc K B s j c' G' H' w T root u π T' A A1 G0 H0) : ∀ a ∈ A, H' a ≠ none := fun a ha => by
  rw [p.same a ha]
  obtain ⟨o, h, _⟩ := ot_here _ _ _ p.own a ha
  rw [h]; exact fun z => nomatch z
/-- the state without the pin -/
theorem Plc.un (p : Plc K B s j c' G' H' w T root u π T' A A1 G0 H0) : Stt K B c' s G' H' := (by
  obtain ⟨_, h1, wr⟩ := p.st.unpin p.at_pin
  have := wr H' (.tr T) A (fun _ _ => rfl) (fun a ha => .inl ha) p.here p.nd (ot_mono p.ext T _ _ p.own fun a ha => h1 a ha)
  rwa [set_back p.slot] at this
  )
theorem Plc.here' (p : Plc K B s j c' G' H' w T root u π T' A A1 G0 H0) : OwnT K G' H' T' u A1 := ot_mono p.ext T' _ _ p.foc.own fun a ha => p.same a (p.foc.sub a ha)
/-- the place grown -/
theorem Plc.grow (p : Plc K B s j c' G' H' w T root u π T' A A1 G0 H0) {G2 H2 : Hp} (f : ∀ (B2 : Base) c2 s2, Stt K B2 c2 s2 G' H' → Stt K B2 c2 s2 G2 H2) (e : Same G' G2) : Plc K B s j c' G2 H2 w T root u π T' A A1 G0 H0 :=
  { p with st := f _ _ _ p.st, ext := p.ext.trans e }
/-- the part changed -/
theorem Plc.put (p : Plc K B s j c' G' H' w T root u π T' A A1 G0 H0) {c2 : Ctx} {G2 H2 : Hp} (st2 : Stt K B c2 s G2 H2) (e2 : c2[j]? = some (.o w (.gen (pinR root A H0)))) (e : Same G' G2) {H3 : Hp} {t' : OT} {A1' : List Addr}
    (k1 : ∀ a, a ∉ A1' → H3 a = H2 a) (k2 : ∀ a ∈ A1', a ∈ A1 ∨ H2 a = none) (k3 : ∀ a ∈ A1', H3 a ≠ none) (k4 : A1'.Nodup) (k5 : OwnT K G2 H3 t' u A1') : Stt K B (c2.set j (.o w (.tr (T.upd t' π)))) s G2 H3 := (by
  obtain ⟨_, h1, wr⟩ := st2.unpin e2
  have hn : ∀ a ∈ A, H2 a ≠ none := fun a ha => by
    rw [h1 a ha, ← p.same a ha]; exact p.here a ha
  have out : ∀ a ∈ A, a ∉ A1 → a ∉ A1' := fun a ha hn' z => by
    rcases k2 a z with y | y
    · exact hn' y
    · exact hn a ha y
  obtain ⟨A', r, m1, m2, m3⟩ := p.foc.put (G' := G2) (H' := H3) (p.ext.trans e) (fun a ha hn' => (k1 a (out a ha hn')).trans (h1 a ha)) k5 k4 fun a ha => by
    rcases k2 a ha with z | z
    · exact .inl z
    · exact .inr fun y => hn a y z
  refine wr H3 (.tr (T.upd t' π)) A' (fun a ha => k1 a fun z => ha (m3 a z)) (fun a ha => ?_) (fun a ha => ?_) m1 r
  · rcases m2 a ha with z | z
    · rcases k2 a z with y | y
      · exact .inl (p.foc.sub a y)
      · exact .inr y
    · exact .inl z.1
  · rcases m2 a ha with z | z
    · exact k3 a z
    · rw [k1 a (out a z.1 z.2)]; exact hn a z.1
  )
theorem Plc.put2 (p : Plc K B s j c' G' H' w T root u π T' A A1 G0 H0) {Rt : Res} {vt : V} {c2 : Ctx} {G2 H2 : Hp} (st2 : Stt K B (.o none Rt :: c2) (some vt :: s) G2 H2) (e2 : c2[j]? = some (.o w (.gen (pinR root A H0)))) (e : Same G' G2) : ∃ At, Rt.P K G2 H2 vt At ∧ (A ++ At).Nodup ∧ (∀ a ∈ A, H2 a = H0 a) ∧ ∀ {H3 : Hp} {t' : OT} {A1' : List Addr},
    (∀ a, a ∉ A1' → H3 a = H2 a) → (∀ a ∈ A1', a ∈ A1 ∨ a ∈ At ∨ H2 a = none) → (∀ a ∈ A1', H3 a ≠ none) → A1'.Nodup → OwnT K G2 H3 t' u A1' → Stt K B (c2.set j (.o w (.tr (T.upd t' π)))) s G2 H3 := (by
  obtain ⟨At, _, h1, ht, nd, wr⟩ := st2.unpin2 e2
  obtain ⟨n1, n2, n3⟩ := List.nodup_append.mp nd
  refine ⟨At, ht, nd, h1, fun {H3 t' A1'} k1 k2 k3 k4 k5 => ?_⟩
  have hn : ∀ a ∈ A, H2 a ≠ none := fun a ha => by
    rw [h1 a ha, ← p.same a ha]; exact p.here a ha
  have out : ∀ a ∈ A, a ∉ A1 → a ∉ A1' := fun a ha hn' z => by
    rcases k2 a z with y | y | y
    · exact hn' y
    · exact n3 a ha a y rfl
    · exact hn a ha y
  obtain ⟨A', r, m1, m2, m3⟩ := p.foc.put (G' := G2) (H' := H3) (p.ext.trans e) (fun a ha hn' => (k1 a (out a ha hn')).trans (h1 a ha)) k5 k4 fun a ha => by
    rcases k2 a ha with z | z | z
    · exact .inl z
    · exact .inr fun y => n3 a y a z rfl
    · exact .inr fun y => hn a y z
  refine wr H3 (.tr (T.upd t' π)) A' (fun a ha => k1 a fun z => ha (m3 a z)) (fun a ha => ?_) (fun a ha => ?_) m1 r
  · rcases m2 a ha with z | z
    · rcases k2 a z with y | y | y
      · exact .inl (p.foc.sub a y)
      · exact .inr (.inl y)
      · exact .inr (.inr y)
    · exact .inl z.1
  · rcases m2 a ha with z | z
    · exact k3 a z
    · rw [k1 a (out a z.1 z.2)]; exact hn a z.1
  )
end
def pVar (j : Nat) : TPl := fun c Q => slO c j fun _ R => asTr R fun T => Q [] T c
section
variable {X : Cx} {pos : Pos} {e b : Expr} {j : Nat} {tp : TPl} {tk : TC} {te : TD}
theorem plc_root {K : PySem.W.Frag} {B : Base} {c : Ctx} {s : L2.St} {G H : Hp} (st : Stt K B c s G H) {w : Option Lt} {T : OT} (e : c[j]? = some (.o w (.tr T))) : ∃ root A, s[j]? = some (some root) ∧ Plc K B s j c G H w T root root [] T A A G H := (by
  obtain ⟨v, A, g, h, nd, st2⟩ := st.pin e
  exact ⟨v, A, g, e, g, st2, Same.refl _, nd, h, rfl, h, nd, fun _ z => z, fun {G' H' t' A1'} e1 e2 e3 e4 e5 => ⟨A1', e3, e4, fun a ha => .inl ha, fun a ha => ha⟩⟩
  )
theorem pl_var (j : Nat) {x : Str} (hN : X.N[j]? = some x := by rfl) (hv : Vis X.env.scope x := by first | exact Or.inl rfl | exact Or.inr (Or.inl rfl) | exact Or.inr (Or.inr rfl)) (hd : (x == ("__debug__" : Str)) = false := by decide)
    (hcd : (x == ("__classdict__" : Str)) = false := by decide) : DPl X (.Name x pos) j (pVar j) := (by
  refine ⟨_, pe_var hN hv hd hcd, fun B c s G H Q R st h k => ?_⟩
  obtain ⟨w, R0, e0, h⟩ := slO_of h
  obtain ⟨T, rfl, q⟩ := asTr_of h
  obtain ⟨root, A, g, p⟩ := plc_root st e0
  exact ⟨root, g, k _ _ _ _ _ _ _ _ _ _ _ _ _ p (Same.refl _) q⟩
  )
/-- an item by its number -/
def ixT (t : OT) (y : PyData) (Q : Nat → OT → Prop) : Prop := match t with
  | .lst ts => asI y fun i => ∃ n t, ixN ts.length i = some n ∧ ts[n]? = some t ∧ Q n t
  | .tup ts => asI y fun i => ∃ n t, ixN ts.length i = some n ∧ ts[n]? = some t ∧ Q n t
  | _ => False
def pIx (tp : TPl) (tk : TC) : TPl := fun c Q => tp c fun π T c' => tk c' fun y => ixT T y fun n t => Q (π ++ [n]) t c'
theorem Plc.kid {K : PySem.W.Frag} {B : Base} {s : L2.St} {j : Nat} {c' : Ctx} {G' H' : Hp} {w : Option Lt} {T : OT} {root u : V} {π : List Nat} {T' : OT} {A A1 : List Addr} {G0 H0 : Hp} (p : Plc K B s j c' G' H' w T root u π T' A A1 G0 H0) {n : Nat} {t : OT} (hn : T'.ch[n]? = some t) :
    ∃ A0 vs As x A2, Node K G' H' T' u A0 vs As ∧ vs[n]? = some x ∧ Plc K B s j c' G' H' w T root x (π ++ [n]) t A A2 G0 H0 := (by
  obtain ⟨A0, vs, As, x, A2, N, z0, z1, g, F⟩ := p.foc.child hn
  obtain ⟨a1, a2⟩ := get_app p.get hn
  refine ⟨A0, vs, As, x, A2, N.mono p.ext (fun a ha => p.same a (z0 a ha)) fun a ha => p.same a (z1 a ha), g, { p with get := a1, foc := ⟨F.own, F.nd, F.sub, fun {G' H' t' A1'} e1 e2 e3 e4 e5 => ?_⟩ }⟩
  rw [a2]
  exact F.put e1 e2 e3 e4 e5
  )
theorem pl_ix (hs : PlainIx b) (ha : DPl X e j tp) (hb : DC X b tk) : DPl X (.Subscript e b pos) j (pIx tp tk) := (by
  obtain ⟨tea, pa, va⟩ := ha.ex
  obtain ⟨teb, pb, vb⟩ := hb.ex
  refine ⟨_, pe_ix ix_seq pa pb hs, fun B c s G H Q R st q k => va B c s G H _ _ st q fun c' G' H' w T root u π T' A A1 G0 H0 p e1 q1 => vb B c' s G' H' _ _ p.un q1 fun v y G2 H2 f2 e2 h2 d2 q2 => ?_⟩
  have p2 := p.grow f2 e2
  cases T' with
  | lst ts =>
    obtain ⟨i, rfl, q3⟩ := asI_of q2
    obtain ⟨n, t, hn, ht, q3⟩ := q3
    obtain ⟨A0, vs, As, x, A2, N, g, p3⟩ := p2.kid (T' := .lst ts) (n := n) ht
    cases N with
    | lst n1 n2 =>
      refine .inl ⟨_, vs, i, x, rfl, dp_int d2, SqL.of n1, ?_, k _ _ _ _ _ _ _ _ _ _ _ _ _ p3 (e1.trans e2) q3⟩
      unfold atI
      rw [ots_len n2, hn]
      exact g
  | tup ts =>
    obtain ⟨i, rfl, q3⟩ := asI_of q2
    obtain ⟨n, t, hn, ht, q3⟩ := q3
    obtain ⟨A0, vs, As, x, A2, N, g, p3⟩ := p2.kid (T' := .tup ts) (n := n) ht
    cases N with
    | tup n1 n2 =>
      refine .inr (.inl ⟨_, vs, i, x, rfl, dp_int d2, .inl (.inl (p3.un.sub _ _ n1)), ?_, k _ _ _ _ _ _ _ _ _ _ _ _ _ p3 (e1.trans e2) q3⟩)
      unfold atI
      rw [ots_len n2, hn]
      exact g
  | dat _ => exact q2.elim
  | dic _ _ _ _ => exact q2.elim
  | obj _ _ _ => exact q2.elim
  )
/-! ### what is read there -/
def uPl (tp : TPl) : TD := fun c Q => tp c fun _ T c' => asDat T fun x => Q x c'
theorem d_pl (ha : DPl X e j tp) : DE X e (uPl tp) := (by
  obtain ⟨tea, pa, va⟩ := ha.ex
  refine ⟨_, pa, fun B c s G H Q R st q k => va B c s G H _ _ st q fun c' G' H' w T root u π T' A A1 G0 H0 p e1 q1 => ?_⟩
  obtain ⟨x, rfl, q⟩ := asDat_of q1
  have own := p.here'
  cases own with
  | dat d => exact k _ x c' G' H' p.un e1 d q
  )
def uPlV (tp : TPl) : TD := fun c Q => tp c fun _ T c' => asDs T fun xs => Q (.list xs) c'
theorem v_pl (ha : DPl X e j tp) : DV X e (uPlV tp) := (by
  obtain ⟨tea, pa, va⟩ := ha.ex
  refine ⟨_, pa, fun B c s G H Q R st q k => va B c s G H _ _ st q fun c' G' H' w T root u π T' A A1 G0 H0 p e1 q1 => ?_⟩
  obtain ⟨xs, rfl, q⟩ := q1
  have own := p.here'
  cases own with
  | lst h1 h2 => exact k _ _ c' G' H' p.un e1 (.inr ⟨_, _, xs, rfl, rfl, SqL.of h1, (ots_dats h2).2⟩) q
  )
/-! ### append -/
def asLs (t : OT) (Q : List OT → Prop) : Prop := match t with
  | .lst ts => Q ts
  | _ => False
theorem asLs_l {ts : List OT} {Q : List OT → Prop} : asLs (.lst ts) Q = Q ts := id rfl
theorem asLs_of {t : OT} {Q : List OT → Prop} (h : asLs t Q) : ∃ ts, t = .lst ts ∧ Q ts := (by
  cases t <;> first | exact ⟨_, rfl, h⟩ | exact False.elim h
  )
variable {a : Expr} {ta : TD} {to : TR} {apos cpos : Pos}
def zPlApp (j : Nat) (tp : TPl) (te : TD) : TSd := fun E c => tp c fun π T' c' => asLs T' fun ts => slO c' j fun w R => asTr R fun T => ∀ root A H0, te (c'.set j (.o w (.gen (pinR root A H0)))) fun y c2 => c2[j]? = some (.o w (.gen (pinR root A H0))) ∧ ts.length < sizeLine ∧ E.nx (c2.set j (.o w (.tr (T.upd (.lst (ts ++ [.dat y])) π))))
theorem s_plapp (hp : DPl X e j tp) (ha : DE X a ta) (hbase : attributeBase e "append" X.env (eval e X.env) = eval e X.env := by rfl)
    (hfew : ((backTo cpos (starEach [a] X.env)).all (fun x => !x.1) && (backToKw cpos (keywordEach [] X.env)).all (fun x => x.1.isSome)
      && decide ([a].length + ([] : List Keyword).length + (if ([] : List Keyword).isEmpty then 0 else 1) < 30)) = true := by rfl)
    (hline : (apos.endLine == cpos.line) = true := by rfl) (hs : starEach [a] X.env = (false, eval a X.env) :: starEach [] X.env := by rfl) (hplain : (backTo cpos (starEach [] X.env)).any (·.1) = false := by rfl)
    (hsw : swapsWith (.Call (.Attribute e "append" apos) [a] [] cpos) none pos.line X.env = pure false := by rfl) : DS X (.Expr (.Call (.Attribute e "append" apos) [a] [] cpos) pos) (zPlApp j tp ta) := (by
  obtain ⟨tep, pp, vp⟩ := hp.ex
  obtain ⟨tea, pa, va⟩ := ha.ex
  refine ⟨_, ps_expr (pe_bm F.plainAttrs_list F.slot_list_append F.type_list_append mt_append pp (pa_cons pa pa_nil hs) hbase hfew hline hs hplain) hsw, fun B c s G H D E st k q => vp B c s G H _ _ st q fun c' G' H' w T root u π T' A A1 G0 H0 p e1 q1 => ?_⟩
  obtain ⟨ts, rfl, q1⟩ := asLs_of q1
  obtain ⟨w', R', e0, q1⟩ := slO_of q1
  have es := p.slot
  rw [e0] at es
  cases es
  have own := p.here'
  cases own with
  | @lst q0 _ vs As h1 h2 =>
    refine ⟨.inl ⟨rfl, _, SqL.of h1⟩, va B _ s G' H' _ _ p.st (q1 root A H0) fun v y c2 G2 H2 st2 e2 d2 q2 => ?_⟩
    obtain ⟨ep, hl, q2⟩ := q2
    have same2 := (st2.unpin ep).2.1
    have kp : ∀ a ∈ q0 :: As, H2 a = H' a := fun a ha => (same2 a (p.foc.sub a ha)).trans (p.same a (p.foc.sub a ha)).symm
    have g2 : H2 q0 = some (.lst vs) := (kp q0 List.mem_cons_self).trans h1
    have h2' := ots_mono e2 _ _ _ h2 fun a ha => kp a (List.mem_cons_of_mem _ ha)
    obtain ⟨m1, m2⟩ := List.nodup_cons.mp p.foc.nd
    refine ⟨q0, vs, v, rfl, rfl, g2, by rw [ots_len h2]; exact hl, ?_⟩
    refine k.nx _ _ _ _ (p.put (t' := .lst (ts ++ [.dat y])) (A1' := q0 :: As) st2 ep e2 (fun a ha => upd_ne fun z => ha (z ▸ List.mem_cons_self)) (fun a ha => .inl ha) (fun a ha => ?_) p.foc.nd ?_) (e1.trans e2) q2
    · by_cases hq : a = q0
      · rw [hq, upd_same]; exact fun z => nomatch z
      · rw [upd_ne hq, kp a ha]
        exact p.here a (p.foc.sub a ha)
    · have h3 := ots_app (ots_mono (H' := upd H2 q0 (.lst (vs ++ [v]))) (Same.refl _) _ _ _ h2' fun a ha => upd_ne fun z => m1 (z ▸ ha)) (OwnTs.cons (A := []) (.dat d2) .nil)
      rw [List.append_nil] at h3
      exact .lst upd_same (by simpa using h3)
  )
/-- a thing of one's own as a tree -/
def asOT (R : Res) (Q : OT → Prop) : Prop := match R with
  | .lst xs => Q (.lst (xs.map .dat))
  | .lls dss => Q (.lst (dss.map fun ds => .lst (ds.map .dat)))
  | .tr t => Q t
  | _ => False
theorem asOT_ll {dss : List (List PyData)} {Q : OT → Prop} : asOT (.lls dss) Q = Q (.lst (dss.map fun ds => .lst (ds.map .dat))) := id rfl
theorem ownLs_ots {K : PySem.W.Frag} {G H : Hp} {ps : List Addr} {dss : List (List PyData)} (h : OwnLs K G H ps dss) : OwnTs K G H (dss.map fun ds => .lst (ds.map .dat)) (ps.map V.ref) ps := (by
  induction h with
  | nil => exact .nil
  | @cons p vs ds ps dss h1 h2 _ ih =>
    have := OwnTs.cons (OwnT.lst h1 (dats_ots h2)) ih
    exact this
  )
theorem asOT_l {xs : List PyData} {Q : OT → Prop} : asOT (.lst xs) Q = Q (.lst (xs.map .dat)) := id rfl
theorem asOT_t {t : OT} {Q : OT → Prop} : asOT (.tr t) Q = Q t := id rfl
theorem asOT_of {R : Res} {Q : OT → Prop} (h : asOT R Q) : ∃ t, Q t ∧ ∀ {K G H v A}, R.P K G H v A → OwnT K G H t v A := (by
  cases R with
  | lst xs => exact ⟨_, h, fun ⟨p, vs, e1, e2, h1, h2⟩ => by subst e1 e2; exact .lst h1 (dats_ots h2)⟩
  | lls dss => exact ⟨_, h, fun ⟨p, ps, e1, e2, h1, h2⟩ => by subst e1 e2; exact .lst h1 (ownLs_ots h2)⟩
  | tr t => exact ⟨_, h, fun z => z⟩
  | _ => exact h.elim
  )
end
end Dl

/-! Trees of one's own: stores into dicts; answers of any kind; dicts locked for good. -/
namespace Dl
open PySem PySem.Spec PyProof.Rows L2
section
variable {X : Cx} {pos : Pos} {e b a : Expr} {j : Nat} {tp : TPl} {tk : TC} {te ta : TD} {to : TR} {apos cpos : Pos}
/-! ### a list calmly laid, frozen -/
/-! ### d[k] = v -/
variable {y : Str} {p2 : Pos}
end
end Dl

/-! Answers of any kind; dicts locked for good. -/
namespace Dl
open PySem PySem.Spec PyProof.Rows L2
/-! ### expressions that give anything -/
abbrev TX := Ctx → (S → Ctx → Prop) → Prop
def DXv (K : PySem.W.Frag) (te : TE) (t : TX) : Prop := ∀ (B : Base) (c : Ctx) (s : L2.St) (G H : Hp) (Q : S → Ctx → Prop) (R : VK), Stt K B c s G H → t c Q →
  (∀ v x c' G' H', Stt K B (x :: c') (some v :: s) G' H' → Same G G' → Q x c' → R v H') → te s H R
structure DX (X : Cx) (e : Expr) (t : TX) : Prop where
  ex : ∃ te, PE X e te ∧ DXv X.K te t
/-- an answer: data, a frozen thing, a new thing of one's own -/
def mvS (x : S) (P : S → Prop) (O : S → Prop) : Prop := match x with
  | .d y => P (.d y)
  | .f F => P (.f F)
  | .o none R => O (.o none R)
  | _ => False
theorem mvS_d {y : PyData} {P O : S → Prop} : mvS (.d y) P O = P (.d y) := id rfl
theorem mvS_f {F : FrG} {P O : S → Prop} : mvS (.f F) P O = P (.f F) := id rfl
theorem mvS_o {R : Res} {P O : S → Prop} : mvS (.o none R) P O = O (.o none R) := id rfl
section
variable {K : PySem.W.Frag} {B : Base} {c : Ctx} {s : L2.St} {G H : Hp}
theorem Stt.top_d {v : V} {y : PyData} (st : Stt K B (.d y :: c) (some v :: s) G H) : Stt K B c s G H ∧ Dp K G v y := (by
  obtain ⟨A, r, w⟩ := st.ex
  cases r with
  | d h r => exact ⟨⟨A, r, w⟩, h⟩
  )
theorem Stt.top_f {v : V} {F : FrG} (st : Stt K B (.f F :: c) (some v :: s) G H) : Stt K B c s G H ∧ F.P K G v := (by
  obtain ⟨A, r, w⟩ := st.ex
  cases r with
  | f h r => exact ⟨⟨A, r, w⟩, h⟩
  )
theorem Stt.push_f (st : Stt K B c s G H) {v : V} {F : FrG} (h : F.P K G v) : Stt K B (.f F :: c) (some v :: s) G H := (by
  obtain ⟨A, r, w⟩ := st.ex
  exact ⟨A, .f h r, w⟩
  )
theorem Stt.set_top {v : V} {x : S} (st : Stt K B (x :: c) (some v :: s) G H) (j : Nat) (hx : ∀ w R, x = .o (some w) R → False) : Stt K B (c.set j x) (s.set j (some v)) G H := (by
  cases x with
  | no => exact st.pop.set_no j _
  | d y => exact st.top_d.1.set_d j st.top_d.2
  | f F => exact st.top_f.1.set_f j st.top_f.2
  | o w R =>
    cases w with
    | none => exact st.set_o j
    | some w => exact (hx w R rfl).elim
  )
end
section
variable {X : Cx} {pos : Pos} {e a : Expr} {es : List Expr} {te : TD} {to : TR} {tx : TX}
theorem x_o (h : DO X e to) : DX X e (fun c Q => to c fun R c1 => Q (.o none R) c1) := let ⟨t, p, v⟩ := h.ex; ⟨t, p, fun B c s G H Q R st q k => v B c s G H _ R st q fun u x c1 G1 H1 st1 e1 q1 => k u _ c1 G1 H1 st1 e1 q1⟩
theorem mvS_some {x : S} {P O : S → Prop} (h : mvS x P O) : ∀ w R, x = .o (some w) R → False := fun w R e => by subst e; exact h
theorem mvS_same {x : S} {P : S → Prop} (h : mvS x P P) : P x := (by
  cases x with
  | no => exact h.elim
  | d _ => exact h
  | f _ => exact h
  | o w R =>
    cases w with
    | none => exact h
    | some _ => exact h.elim
  )
/-- return e -/
def zRetX (tx : TX) : TSd := fun E c => tx c fun x c1 => E.rt x c1
theorem s_retX (he : DX X e tx) : DS X (.Return (some e) pos) (zRetX tx) := (by
  obtain ⟨tp, p, v⟩ := he.ex
  refine ⟨_, ps_ret p, fun B c s G H D E st k q => v B c s G H _ _ st q fun w y c1 G1 H1 st1 e1 q1 => k.rt _ _ _ _ G1 H1 st1 e1 q1⟩
  )
/-! ### calls -/
/-- what is wanted of a call's answer -/
def kX (Q : S → Prop) : S → Ctx → Prop := fun r _ => mvS r Q Q
theorem ret_xd {Q : S → Prop} {x : PyData} : ret (kX Q) (.d x) = Q (.d x) := propext ⟨fun h => h [], fun h _ => h⟩
theorem ret_xf {Q : S → Prop} {x : FrG} : ret (kX Q) (.f x) = Q (.f x) := propext ⟨fun h => h [], fun h _ => h⟩
theorem ret_xo {Q : S → Prop} {R : Res} : ret (kX Q) (.o none R) = Q (.o none R) := propext ⟨fun h => h [], fun h _ => h⟩
variable {x : Str} {p : Pos} {k : Nat} {ps : List Str} {T : TF} {t : TAr}
/-- .. slots lent, too -/
def kAX (v : Nat → Lt) (as : List Arg) (c1 : Ctx) (Q : S → Ctx → Prop) : S → Ctx → Prop := fun r c' => back v as c' c1 fun c2 => kX (fun x => Q x c2) r c'
theorem retA_xd {v : Nat → Lt} {as : List Arg} {ls : List (Option (Lt × Res))} {c1 : Ctx} {Q : S → Ctx → Prop} {x : PyData} : retA ls (kAX v as c1 Q) (.d x) = backL v as ls c1 fun c2 => Q (.d x) c2 :=
  propext ⟨fun h => back_self (h _ (pat_self ls)), fun h c' p => back_pat p h⟩
theorem retA_xf {v : Nat → Lt} {as : List Arg} {ls : List (Option (Lt × Res))} {c1 : Ctx} {Q : S → Ctx → Prop} {x : FrG} : retA ls (kAX v as c1 Q) (.f x) = backL v as ls c1 fun c2 => Q (.f x) c2 :=
  propext ⟨fun h => back_self (h _ (pat_self ls)), fun h c' p => back_pat p h⟩
theorem retA_xo {v : Nat → Lt} {as : List Arg} {ls : List (Option (Lt × Res))} {c1 : Ctx} {Q : S → Ctx → Prop} {R : Res} : retA ls (kAX v as c1 Q) (.o none R) = backL v as ls c1 fun c2 => Q (.o none R) c2 :=
  propext ⟨fun h => back_self (h _ (pat_self ls)), fun h c' p => back_pat p h⟩
end
/-! ### dicts locked for good -/
section
variable {X : Cx} {pos : Pos} {e a b : Expr} {es : List Expr} {te : TD} {to : TR} {tx : TX} {x : Str} {p : Pos}
end
end Dl

/-! Calls to which things are lent to be looked at, which answer with data without lists, or a new list of such. -/
namespace Dl
open PySem PySem.Spec PyProof.Rows L2
section
variable {K : PySem.W.Frag} {G G2 : Hp}
end
section
variable {K : PySem.W.Frag} {B : Base} {G H : Hp} {c : Ctx} {s : L2.St}
end
/-! ### such calls -/
def okV (x : S) (Q : S → Prop) : Prop := match x with
  | .d y => kOk y = true ∧ Q (.d y)
  | .o none (.lst ds) => kOks ds = true ∧ Q (.o none (.lst ds))
  | _ => False
def kV (Q : S → Prop) : S → Ctx → Prop := fun r _ => okV r Q
theorem ret_vd {Q : S → Prop} {x : PyData} : ret (kV Q) (.d x) = (kOk x = true ∧ Q (.d x)) := propext ⟨fun h => h [], fun h _ => h⟩
theorem ret_vo {Q : S → Prop} {ds : List PyData} : ret (kV Q) (.o none (.lst ds)) = (kOks ds = true ∧ Q (.o none (.lst ds))) := propext ⟨fun h => h [], fun h _ => h⟩
section
variable {X : Cx} {pos : Pos} {e : Expr} {es : List Expr} {x : Str} {p : Pos} {k : Nat} {ps : List Str} {T : TF} {t : TAr}
end
/-! ### calm or -/
section
variable {X : Cx} {pos : Pos} {a b : Expr} {ta tb : TC}
end
/-! ### tests -/
section
variable {X : Cx} {pos : Pos} {e a b : Expr} {te : TD} {tx : TX}
variable {x : Str} {pn pos' : Pos}
end
/-! ### helpers -/
theorem toDs_eq : ∀ {ts : List OT}, OT.toDs ts = ts.map OT.toD
  | [] => rfl
  | t :: ts => by
    show t.toD :: OT.toDs ts = _
    rw [toDs_eq]; rfl
theorem areD_of : ∀ {ts : List OT}, (∀ t ∈ ts, t.isD = true) → OT.areD ts = true
  | [], _ => rfl
  | t :: ts, h => by
    show (t.isD && OT.areD ts) = true
    rw [h t List.mem_cons_self, areD_of fun u hu => h u (List.mem_cons_of_mem _ hu)]; rfl
theorem areD_dats {xs : List PyData} : OT.areD (xs.map .dat) = true := areD_of fun t ht => by
  obtain ⟨x, _, rfl⟩ := List.mem_map.mp ht
  rfl
theorem toDs_dats {xs : List PyData} : OT.toDs (xs.map .dat) = xs := (by
  rw [toDs_eq, List.map_map]
  exact (List.map_congr_left fun x _ => rfl).trans (List.map_id _)
  )
theorem set_at {α : Type} : ∀ {xs : List α} {n : Nat} {x : α}, xs[n]? = some x → xs.set n x = xs
  | [], _, _, _ => rfl
  | a :: xs, 0, x, h => by simp at h; subst h; rfl
  | a :: xs, n + 1, x, h => by rw [List.set_cons_succ, set_at (by simpa using h)]
end Dl

namespace L2
open PySem PySem.Spec PyProof.Rows Dl
section
variable {X : Cx} {e : Expr} {td : TE} {p pos : Pos}
end
end L2
namespace Dl
open PySem PySem.Spec PyProof.Rows L2
section
variable {X : Cx} {pos : Pos} {e : Expr} {st : Stmt} {t : TSd} {x : Str} {p : Pos}
end
end Dl

/-! Tuples with a thing of one's own in them. -/
namespace Dl
open PySem PySem.Spec PyProof.Rows L2
def asOw (x : S) (Q : Res → Prop) : Prop := match x with
  | .o none R => Q R
  | _ => False
theorem asOw_o {R : Res} {Q : Res → Prop} : asOw (.o none R) Q = Q R := id rfl
theorem asOw_of {x : S} {Q : Res → Prop} (h : asOw x Q) : ∃ R, x = .o none R ∧ Q R := (by
  match x, h with
  | .o none R, h => exact ⟨R, rfl, h⟩
  )
theorem Stt.top_re {K : PySem.W.Frag} {B : Base} {c : Ctx} {s : L2.St} {G H : Hp} {R R' : Res} {v v' : V} (st : Stt K B (.o none R :: c) (some v :: s) G H) (h : ∀ A, R.P K G H v A → R'.P K G H v' A) : Stt K B (.o none R' :: c) (some v' :: s) G H := (by
  obtain ⟨A, r, w⟩ := st.ex
  cases r with
  | @o _ _ _ _ _ Ah At h1 h2 r => exact ⟨Ah ++ At, .o (h _ h1) h2 r, w⟩
  )
section
variable {X : Cx} {pos : Pos} {e : Expr} {tx : TX}
end
end Dl

namespace Dl
open PySem PySem.Spec PyProof.Rows L2
section
variable {X : Cx} {pos p1 p2 p3 : Pos} {e : Expr} {te : TD}
end
end Dl

/-! Dicts of one's own whose keys are texts and whole numbers. -/
namespace Dl
open PySem PySem.Spec PyProof.Rows L2
inductive DkE (K : PySem.W.Frag) (G : Hp) : List (L2.Key × V) → List (PyData × PyData) → Prop
  | nil : DkE K G [] []
  | cons {k : L2.Key} {v : V} {d : PyData} {ws : List (L2.Key × V)} {kvs : List (PyData × PyData)} : Dp K G v d → DkE K G ws kvs → DkE K G ((k, v) :: ws) ((keyD k, d) :: kvs)
section
variable {K : PySem.W.Frag} {G G' : Hp} {ks : L2.Key} {v : V} {d : PyData} {ws : List (L2.Key × V)} {kvs : List (PyData × PyData)}
theorem dkE_mono (h : DkE K G ws kvs) (e : Same G G') : DkE K G' ws kvs := (by
  induction h with
  | nil => exact .nil
  | cons h1 _ ih => exact .cons (dp_mono e _ _ h1) ih
  )
theorem dkE_len (h : DkE K G ws kvs) : ws.length = kvs.length := (by
  induction h with
  | nil => rfl
  | cons _ _ ih => simp [ih]
  )
theorem dkE_at (h : DkE K G ws kvs) : (valV ws ks = none ∧ dicAt kvs (keyD ks) = none) ∨ ∃ v d, valV ws ks = some v ∧ dicAt kvs (keyD ks) = some d ∧ Dp K G v d := (by
  induction h with
  | nil => exact .inl ⟨rfl, rfl⟩
  | @cons k v d ws kvs h1 h2 ih =>
    by_cases e : k = ks
    · subst e
      exact .inr ⟨v, d, valV_pos rfl, by simp [dicAt, List.find?_cons], h1⟩
    · have e2 : ¬ (keyD k = keyD ks) := fun z => e (keyD_in z)
      have q : dicAt ((keyD k, d) :: kvs) (keyD ks) = dicAt kvs (keyD ks) := by simp [dicAt, List.find?_cons, e2]
      rw [valV_neg (p := (k, v)) e, q]
      exact ih
  )
theorem dkE_any (h : DkE K G ws kvs) : (ws.any fun kv => decide (kv.1 = ks)) = kvs.any fun kv => decide (kv.1 = keyD ks) := (by
  induction h with
  | nil => rfl
  | @cons k v d ws kvs h1 h2 ih =>
    rw [List.any_cons, List.any_cons, ih]
    congr 1
    by_cases e : k = ks
    · subst e; simp
    · have e2 : ¬ (keyD k = keyD ks) := fun z => e (keyD_in z)
      simp [e, e2]
  )
theorem dkE_snoc (hd : Dp K G v d) (h : DkE K G ws kvs) : DkE K G (ws ++ [(ks, v)]) (kvs ++ [(keyD ks, d)]) := (by
  induction h with
  | nil => exact .cons hd .nil
  | cons h1 _ ih => exact .cons h1 ih
  )
theorem dkE_repl (hd : Dp K G v d) (h : DkE K G ws kvs) : DkE K G (ws.map fun kv => if kv.1 = ks then (kv.1, v) else kv) (kvs.map fun kv => if kv.1 = keyD ks then (kv.1, d) else kv) := (by
  induction h with
  | nil => exact .nil
  | @cons k v0 d0 ws kvs h1 _ ih =>
    rw [List.map_cons, List.map_cons]
    by_cases e : k = ks
    · subst e
      rw [if_pos rfl, if_pos rfl]
      exact .cons hd ih
    · have e2 : ¬ (keyD k = keyD ks) := fun z => e (keyD_in z)
      rw [if_neg (show ¬ (k, v0).1 = ks from e), if_neg (show ¬ ((keyD k, d0).1 = keyD ks) from e2)]
      exact .cons h1 ih
  )
theorem dkE_put (hd : Dp K G v d) (h : DkE K G ws kvs) : DkE K G (putK ws ks v) (dicPut kvs (keyD ks) d) := (by
  unfold putK dicPut
  rw [dkE_any h]
  split
  · exact dkE_repl hd h
  · exact dkE_snoc hd h
  )
end
/-- a dict of one's own by texts and numbers -/
def dkR (kvs : List (PyData × PyData)) : ResG where
  P := fun K G H v A => ∃ p ws, v = .ref p ∧ A = [p] ∧ H p = some (.dK ws) ∧ DkE K G ws kvs
  grow := fun _ _ _ _ _ _ ⟨p, ws, a, b, c, d⟩ e => ⟨p, ws, a, b, c, dkE_mono d e⟩
  loc := fun _ _ _ _ _ _ ⟨p, ws, a, b, c, d⟩ k => ⟨p, ws, a, b, (k p (by rw [b]; simp)).trans c, d⟩
  here := fun _ _ _ _ _ ⟨p, ws, a, b, c, d⟩ q hq => by
    rw [b] at hq
    rw [List.mem_singleton.mp hq, c]; exact fun z => nomatch z
  nt := fun _ _ _ _ _ ⟨p, ws, a, b, c, d⟩ q hq o e => by
    rw [b] at hq
    rw [List.mem_singleton.mp hq, c] at e
    cases e; rfl
def asDk (R : Res) (Q : List (PyData × PyData) → Prop) : Prop := ∃ kvs, R = .gen (dkR kvs) ∧ Q kvs
section
variable {X : Cx} {j : Nat} {x y : Str} {pos p p1 p2 p3 : Pos} {e i : Expr} {te tk : TD}
theorem dp_key {K : PySem.W.Frag} {G : Hp} {v : V} {d : PyData} (h : isAt d) (hd : Dp K G v d) : v = L2.kV (kOf d) ∧ keyD (kOf d) = d := (by
  refine ⟨?_, keyD_kOf h⟩
  cases d with
  | int i => exact dp_int hd
  | str i => exact dp_str hd
  | _ => exact h.elim
  )
/-- d[k] -/
def uDkGet (j : Nat) (tk : TD) : TD := fun c Q => hasS c j ∧ tk c fun y c1 => isAt y ∧ slO c1 j fun _ R => asDk R fun kvs => ∃ d, dicAt kvs y = some d ∧ Q d c1
theorem d_dkget (j : Nat) (hu : X.A.units + 1 < cLine) (hk : DE X i tk) (hs : NoSl i) (hN : X.N[j]? = some y := by rfl) (hv : Vis X.env.scope y := by first | exact Or.inl rfl | exact Or.inr (Or.inl rfl) | exact Or.inr (Or.inr rfl)) (hd : (y == ("__debug__" : Str)) = false := by decide) (hcd : (y == ("__classdict__" : Str)) = false := by decide) :
    DE X (.Subscript (.Name y p) i pos) (uDkGet j tk) := (by
  obtain ⟨tek, pk, vk⟩ := hk.ex
  refine ⟨_, pe_dget hu (pe_var hN hv hd hcd) pk hs, fun B c s G H Q R st q k => ?_⟩
  obtain ⟨h0, q⟩ := q
  obtain ⟨v0, g0⟩ := st.val h0
  refine ⟨v0, g0, vk B c s G H _ _ st q fun v d c1 G1 H1 st1 e1 d1 q1 => ?_⟩
  obtain ⟨ha, q1⟩ := q1
  obtain ⟨w, R0, e0, q1⟩ := slO_of q1
  obtain ⟨kvs, rfl, dd, hdd, q1⟩ := q1
  obtain ⟨v1, A1, g1, ⟨p', ws', rfl, rfl, g2, g3⟩, nd, wr⟩ := st1.foc e0
  rw [g0] at g1
  cases g1
  obtain ⟨rfl, ek⟩ := dp_key ha d1
  rcases dkE_at (ks := kOf d) g3 with ⟨_, a2⟩ | ⟨u, d', a1, a2, a3⟩
  · rw [ek, hdd] at a2; cases a2
  · rw [ek, hdd] at a2
    cases a2
    exact ⟨p', u, rfl, by have := DGet.k (k := kOf d) g2; rw [a1] at this; exact this, k u dd c1 G1 H1 st1 e1 a3 q1⟩
  )
/-- d[k] = e -/
def zDkPut (j : Nat) (te tk : TD) : TSd := fun E c => te c fun x c1 => hasS c1 j ∧ tk c1 fun y c2 => isAt y ∧ slO c2 j fun w R => asDk R fun kvs => kvs.length < sizeLine ∧ E.nx (c2.set j (.o w (.gen (dkR (dicPut kvs y x)))))
theorem s_dkput (j : Nat) (hu : X.A.units + 1 < cLine) (he : DE X e te) (hk : DE X i tk) (hN : X.N[j]? = some y := by rfl) (hv : Vis X.env.scope y := by first | exact Or.inl rfl | exact Or.inr (Or.inl rfl) | exact Or.inr (Or.inr rfl)) (hd : (y == ("__debug__" : Str)) = false := by decide) (hcd : (y == ("__classdict__" : Str)) = false := by decide)
    (hs : swapsWith e (some (.Subscript (.Name y p2) i p3)) pos.line X.env = pure false := by rfl) :
    DS X (.Assign [.Subscript (.Name y p2) i p3] e pos) (zDkPut j te tk) := (by
  obtain ⟨tee, pe, ve⟩ := he.ex
  obtain ⟨tek, pk, vk⟩ := hk.ex
  refine ⟨_, ps_dput hu (pe_var hN hv hd hcd) pk pe hs, fun B c s G H D E st k q => ve B c s G H _ _ st q fun v0 d0 c1 G1 H1 st1 e1 d1 q1 => ?_⟩
  obtain ⟨h0, q1⟩ := q1
  obtain ⟨u0, g0⟩ := st1.val h0
  refine ⟨u0, g0, vk B c1 s G1 H1 _ _ st1 q1 fun v d c2 G2 H2 st2 e2 d2 q2 => ?_⟩
  obtain ⟨ha, q2⟩ := q2
  obtain ⟨w, R0, e0, q2⟩ := slO_of q2
  obtain ⟨kvs, rfl, hl, q2⟩ := q2
  obtain ⟨v1, A1, g1, ⟨p', ws', rfl, rfl, g2, g3⟩, nd, wr⟩ := st2.foc e0
  rw [g0] at g1
  cases g1
  obtain ⟨rfl, ek⟩ := dp_key ha d2
  have hws := dkE_len g3
  refine ⟨p', _, rfl, DPut.k (k := kOf d) g2 (by omega), ?_⟩
  have st3 := wr (upd H2 p' (.dK (putK ws' (kOf d) v0))) (.gen (dkR (dicPut kvs d d0))) [p'] (fun a ha => by
    simp at ha
    rw [upd_ne ha]) (fun a ha => .inl ha) (fun a ha => by
    simp at ha
    subst ha
    rw [upd_same]; exact fun z => nomatch z) (by simp) ⟨p', _, rfl, rfl, upd_same, by have := dkE_put (ks := kOf d) (dp_mono e2 _ _ d1) g3; rw [ek] at this; exact this⟩
  exact k.nx _ _ _ _ st3 (e1.trans e2) q2
  )
end
end Dl

/-! Defs that raise, things lent to them; what an exception brings along; try around statements. -/
namespace Dl
open PySem PySem.Spec PyProof.Rows L2
/-- what is wanted where an exception leaves: its class, its fields (data), the slots -/
abbrev EEt := Str → List (Str × PyData) → Ctx → Prop
/-- the exception's dict holds these fields -/
def XdOk (K : PySem.W.Frag) (G : Hp) (fd : List (Str × PyData)) (d : Option Addr) : Prop := (fd = [] ∧ d = none) ∨ ∃ dd fs, d = some dd ∧ G dd = some (.xd fs) ∧ fs.map (·.1) = fd.map (·.1) ∧ DpAll K G (fs.map (·.2)) (fd.map (·.2))
theorem XdOk.none {K : PySem.W.Frag} {G : Hp} : XdOk K G [] none := .inl ⟨rfl, rfl⟩
theorem XdOk.mono {K : PySem.W.Frag} {G G' : Hp} {fd : List (Str × PyData)} {d : Option Addr} (h : XdOk K G fd d) (e : Same G G') : XdOk K G' fd d := (by
  rcases h with h | ⟨dd, fs, h1, h2, h3, h4⟩
  · exact .inl h
  · exact .inr ⟨dd, fs, h1, e _ _ h2, h3, dpa_mono e _ _ h4⟩
  )
/-- what is taken, by what is wanted -/
def Lnk (K : PySem.W.Frag) (W : WX) (B : Base) (G : Hp) (EE : EEt) : Prop := ∀ x fd d c s G' H', Stt K B c s G' H' → Same G G' → XdOk K G' fd d → EE x fd c → W (.ref (He.ga K x)) d s H'
theorem Lnk.mono {K : PySem.W.Frag} {W : WX} {B : Base} {G G1 : Hp} {EE : EEt} (h : Lnk K W B G EE) (e : Same G G1) : Lnk K W B G1 EE := fun x fd d c s G' H' st e' hd q => h x fd d c s G' H' st (e.trans e') hd q
/-- fewer slots wanted otherwise -/
theorem Lnk.imp {K : PySem.W.Frag} {W : WX} {B : Base} {G : Hp} {EE EE' : EEt} (h : Lnk K W B G EE) (f : ∀ x fd c s G' H', Stt K B c s G' H' → Same G G' → EE' x fd c → ∃ c', Stt K B c' s G' H' ∧ EE x fd c') : Lnk K W B G EE' := fun x fd d c s G' H' st e' hd q => by
  obtain ⟨c', st', q'⟩ := f x fd c s G' H' st e' q
  exact h x fd d c' s G' H' st' e' hd q'
abbrev TXY := EEt → TX
abbrev TDY := EEt → TD
abbrev TLY := EEt → TL
abbrev TSY := EEt → TSd
def DXYv (K : PySem.W.Frag) (W : WX) (te : TE) (t : TXY) : Prop := ∀ (B : Base) (c : Ctx) (s : L2.St) (G H : Hp) (Q : S → Ctx → Prop) (R : VK) (EE : EEt), Stt K B c s G H → Lnk K W B G EE → t EE c Q →
  (∀ v x c' G' H', Stt K B (x :: c') (some v :: s) G' H' → Same G G' → Q x c' → R v H') → te s H R
structure DXY (X : Cx) (W : WX) (e : Expr) (t : TXY) : Prop where
  ex : ∃ te, PE X e te ∧ DXYv X.K W te t
def DEYv (K : PySem.W.Frag) (W : WX) (te : TE) (t : TDY) : Prop := ∀ (B : Base) (c : Ctx) (s : L2.St) (G H : Hp) (Q : PyData → Ctx → Prop) (R : VK) (EE : EEt), Stt K B c s G H → Lnk K W B G EE → t EE c Q →
  (∀ v x c' G' H', Stt K B c' s G' H' → Same G G' → Dp K G' v x → Q x c' → R v H') → te s H R
structure DEY (X : Cx) (W : WX) (e : Expr) (t : TDY) : Prop where
  ex : ∃ te, PE X e te ∧ DEYv X.K W te t
def DAYv (K : PySem.W.Frag) (W : WX) (te : TA) (t : TLY) : Prop := ∀ (B : Base) (c : Ctx) (s : L2.St) (G H : Hp) (Q : List PyData → Ctx → Prop) (R : List V → Hp → Prop) (EE : EEt), Stt K B c s G H → Lnk K W B G EE → t EE c Q →
  (∀ vs xs c' G' H', Stt K B c' s G' H' → Same G G' → DpAll K G' vs xs → Q xs c' → R vs H') → te s H R
structure DAY (X : Cx) (W : WX) (es : List Expr) (t : TLY) : Prop where
  ex : ∃ te, PA X es te ∧ DAYv X.K W te t
def DSYv (K : PySem.W.Frag) (W : WX) (ts : TS) (t : TSY) : Prop := ∀ (B : Base) (c : Ctx) (s : L2.St) (G H : Hp) (D : Ends) (E : De) (EE : EEt), Stt K B c s G H → Conn K B G D E → Lnk K W B G EE → t EE E c → ts D s H
structure DSY (X : Cx) (W : WX) (st : Stmt) (t : TSY) : Prop where
  ex : ∃ ts, PS X st ts ∧ DSYv X.K W ts t
structure DSsY (X : Cx) (W : WX) (st : List Stmt) (t : TSY) : Prop where
  ex : ∃ ts, PSs X st ts ∧ DSYv X.K W ts t

/-! ### expressions -/
section
variable {X : Cx} {W : WX} {pos p : Pos} {e a : Expr} {es : List Expr} {td : TD} {tx : TX} {tdy : TDY} {txy : TXY} {tly : TLY}
def yD (t : TDY) : TXY := fun EE c Q => t EE c fun x c1 => Q (.d x) c1
theorem ey_e (h : DE X e td) : DEY X W e (fun _ => td) := let ⟨te, p, v⟩ := h.ex; ⟨te, p, fun B c s G H Q R _ st _ q k => v B c s G H Q R st q k⟩
theorem xy_d (h : DEY X W e tdy) : DXY X W e (yD tdy) := let ⟨te, p, v⟩ := h.ex; ⟨te, p, fun B c s G H Q R EE st l q k => v B c s G H _ R EE st l q fun v x c' G' H' st' e' d q' => k v _ c' G' H' (st'.push_d d) e' q'⟩
/-- as data -/
def yX (t : TXY) : TDY := fun EE c Q => t EE c fun x c1 => kD (fun x => Q x c1) x c1
theorem ey_x (h : DXY X W e txy) : DEY X W e (yX txy) := (by
  obtain ⟨t, p, v⟩ := h.ex
  refine ⟨t, p, fun B c s G H Q R EE st l q k => v B c s G H _ R EE st l q fun u x c1 G1 H1 st1 e1 q1 => ?_⟩
  cases x with
  | no => exact q1.elim
  | d y => exact k u y c1 G1 H1 st1.top_d.1 e1 st1.top_d.2 q1
  | f F => exact q1.elim
  | o w R =>
    cases w with
    | none =>
      obtain ⟨G2, d, a1, a2, a3, a4⟩ := st1.frzR q1
      exact k u d c1 G2 H1 a1 (e1.trans a2) a3 a4
    | some _ => exact q1.elim
  )
def yNil : TLY := fun _ c Q => Q [] c
def yCons (t : TDY) (u : TLY) : TLY := fun EE c Q => t EE c fun x c1 => u EE c1 fun xs c2 => Q (x :: xs) c2
theorem ay_nil : DAY X W [] yNil := ⟨_, pa_nil, fun B c s G H Q R _ st _ q k => k [] [] c G H st (Same.refl _) .nil q⟩
theorem ay_cons (h : DEY X W a tdy) (hr : DAY X W es tly) (hs : starEach (a :: es) X.env = (false, eval a X.env) :: starEach es X.env := by rfl) : DAY X W (a :: es) (yCons tdy tly) := (by
  obtain ⟨te, p, v⟩ := h.ex
  obtain ⟨ta, pa, va⟩ := hr.ex
  refine ⟨_, pa_cons p pa hs, fun B c s G H Q R EE st l q k => v B c s G H _ _ EE st l q fun u x c1 G1 H1 st1 e1 d1 q1 => ?_⟩
  exact va B c1 s G1 H1 _ _ EE st1 (l.mono e1) q1 fun us xs c2 G2 H2 st2 e2 d2 q2 => k _ _ c2 G2 H2 st2 (e1.trans e2) (.cons (dp_mono e2 _ _ d1) d2) q2
  )
/-- (a, b, ..) -/
def yTup (t : TLY) : TDY := fun EE c Q => t EE c fun xs c1 => xs.length ≤ sizeLine ∧ Q (.tuple xs) c1
theorem ey_tup {k : Nat} (h : DAY X W es tly) : DEY X W (.Tuple es k pos) (yTup tly) := (by
  obtain ⟨ta, pa, va⟩ := h.ex
  refine ⟨_, pe_tup pa, fun B c s G H Q R EE st l q k => va B c s G H _ _ EE st l q fun vs xs c1 G1 H1 st1 e1 d1 q1 => ⟨by rw [dpa_len d1]; exact q1.1, fun p hp => ?_⟩⟩
  obtain ⟨st2, e2⟩ := st1.laid (o := .tup vs) hp
  exact k _ _ c1 _ _ st2 (e1.trans e2) (.tup (.inl (.inl upd_same)) (dpa_mono e2 _ _ d1)) q1.2
  )
end

/-! ### statements -/
section
variable {X : Cx} {W : WX} {pos p : Pos} {e : Expr} {st : Stmt} {rest : List Stmt} {td : TSd} {t u : TSY} {tb : TB} {txy : TXY} {tdy : TDY} {ti : TL}
theorem y_of (h : DS X st td) : DSY X W st (fun _ => td) := let ⟨ts, p, v⟩ := h.ex; ⟨ts, p, fun B c s G H D E _ st k _ q => v B c s G H D E st k q⟩
theorem ys_of {l : List Stmt} (h : DSs X l td) : DSsY X W l (fun _ => td) := let ⟨ts, p, v⟩ := h.ex; ⟨ts, p, fun B c s G H D E _ st k _ q => v B c s G H D E st k q⟩
def zSeqY (t u : TSY) : TSY := fun EE => zSeq (t EE) (u EE)
theorem qy_one (h : DSY X W st t) : DSsY X W [st] t := let ⟨ts, p, v⟩ := h.ex; ⟨ts, pss_one p, v⟩
theorem qy_cons (h : DSY X W st t) (h2 : DSsY X W rest u) : DSsY X W (st :: rest) (zSeqY t u) := (by
  obtain ⟨ts, p, v⟩ := h.ex
  obtain ⟨ts2, p2, v2⟩ := h2.ex
  exact ⟨_, pss_cons p p2, fun B c s G H D E EE st k l q => v B c s G H _ { E with nx := u EE E } EE st ⟨fun c' s' G' H' st' e' q' => v2 B c' s' G' H' D E EE st' (k.mono e') (l.mono e') q', k.rt, k.bk, k.ct⟩ l q⟩
  )
def zIfY (tb : TB) (t u : TSY) : TSY := fun EE => zIf tb (t EE) (u EE)
theorem s_ifY {a b : List Stmt} (hc : DT X e tb) (ha : DSsY X W a t) (hb : DSsY X W b u) : DSY X W (.If e a b pos) (zIfY tb t u) := (by
  obtain ⟨tp, p, v⟩ := hc.ex
  obtain ⟨t1, p1, v1⟩ := ha.ex
  obtain ⟨t2, p2, v2⟩ := hb.ex
  refine ⟨_, ps_if p p1 p2, fun B c s G H D E EE st k l q => v B c s G H _ _ st q fun b c1 G1 H1 st1 e1 q1 => ?_⟩
  cases b with
  | true =>
    rw [if_pos rfl] at q1 ⊢
    exact v1 B c1 s G1 H1 D E EE st1 (k.mono e1) (l.mono e1) q1
  | false =>
    rw [if_neg Bool.false_ne_true] at q1 ⊢
    exact v2 B c1 s G1 H1 D E EE st1 (k.mono e1) (l.mono e1) q1
  )
/-- raise x('m') -/
def zRaiseY (x : Str) : TSY := fun EE _ c => EE x [] c
theorem s_raiseY {x m : Str} {j : Nat} {p2 pos' : Pos} (hc : X.calm = true) (tk : Takes X W) (F : ExF X.K X.mg x) (hg : Gl X x := by rfl) (hdb : (x == ("__debug__" : Str)) = false := by decide) :
    DSY X W (.Raise (some (.Call (.Name x p) [.Constant (.str m) j p2] [] pos)) none pos') (zRaiseY x) :=
  ⟨_, ps_raise hc tk (pmk_own PySem.F.excBase_ValueError F.q F.g F.k (raises_own F.s F.t) hg hdb), fun B c s G H D E EE st k l q => l x [] none c s G H st (Same.refl _) .none q⟩
def zExY (t : TXY) : TSY := fun EE E c => t EE c fun _ c1 => E.nx c1
theorem sy_expr (he : DXY X W e txy) (hs : swapsWith e none pos.line X.env = pure false := by rfl) : DSY X W (.Expr e pos) (zExY txy) := (by
  obtain ⟨tp, p, v⟩ := he.ex
  exact ⟨_, ps_expr p hs, fun B c s G H D E EE st k l q => v B c s G H _ _ EE st l q fun w y c1 G1 H1 st1 e1 q1 => k.nx _ _ G1 H1 st1.pop e1 q1⟩
  )
def zSetXY (j : Nat) (t : TXY) : TSY := fun EE E c => t EE c fun x c1 => mvS x (fun x => E.nx (c1.set j x)) fun x => E.nx (c1.set j x)
theorem sy_set {j : Nat} {x : Str} {pos' : Pos} (hN : X.N.Nodup) (he : DXY X W e txy) (hi : X.N[j]? = some x := by rfl) (hx : Loc X.env.scope x := by first | exact Or.inl rfl | exact Or.inr rfl) (hs : swapsWith e (some (.Name x pos')) pos.line X.env = pure false := by rfl) (hf : X.fn x = true ∨ X.env.scope.names.lookup x = some .local := by first | exact .inl rfl | exact .inr rfl | assumption) : DSY X W (.Assign [.Name x pos'] e pos) (zSetXY j txy) := (by
  obtain ⟨tp, p, v⟩ := he.ex
  refine ⟨_, ps_set hN hi hx p hs hf, fun B c s G H D E EE st k l q => v B c s G H _ _ EE st l q fun w y c1 G1 H1 st1 e1 q1 => ?_⟩
  exact k.nx _ _ G1 H1 (st1.set_top j (mvS_some q1)) e1 (mvS_same (P := fun x => E.nx (c1.set j x)) q1)
  )
def zRetXY (t : TXY) : TSY := fun EE E c => t EE c fun x c1 => E.rt x c1
theorem sy_ret (he : DXY X W e txy) : DSY X W (.Return (some e) pos) (zRetXY txy) := (by
  obtain ⟨tp, p, v⟩ := he.ex
  exact ⟨_, ps_ret p, fun B c s G H D E EE st k l q => v B c s G H _ _ EE st l q fun w y c1 G1 H1 st1 e1 q1 => k.rt _ _ _ _ G1 H1 st1 e1 q1⟩
  )
theorem Plc.free {K : PySem.W.Frag} {B : Base} {s : L2.St} {j : Nat} {c' : Ctx} {G' H' : Hp} {w : Option Lt} {T : OT} {root u : V} {π : List Nat} {T' : OT} {A A1 : List Addr} {G0 H0 : Hp} (p : Plc K B s j c' G' H' w T root u π T' A A1 G0 H0) {c2 : Ctx} {s2 : L2.St} {G2 H2 : Hp} (st2 : Stt K B c2 s2 G2 H2) (e2 : c2[j]? = some (.o w (.gen (pinR root A H0)))) (e : Same G' G2) : Stt K B (c2.set j (.o w (.tr T))) s2 G2 H2 ∧ ∀ a ∈ A, H2 a = H0 a := (by
  obtain ⟨_, h1, wr⟩ := st2.unpin e2
  refine ⟨wr H2 (.tr T) A (fun _ _ => rfl) (fun a ha => .inl ha) (fun a ha => ?_) p.nd (ot_mono (p.ext.trans e) T _ _ p.own fun a ha => h1 a ha), h1⟩
  rw [h1 a ha, ← p.same a ha]; exact p.here a ha
  )
end

/-! ### defs that raise -/
abbrev TFY := Ctx → (S → Ctx → Prop) → EEt → Prop
def SpY (K : PySem.W.Frag) (T : TFY) : Sp := fun vs H Q E => ∃ (G : Hp) (io : List Addr) (a : Ctx) (Q1 : S → Ctx → Prop) (E1 : EEt), Stt K ⟨H, G, io⟩ a (vs.map some) G H ∧ T a Q1 E1 ∧
  (∀ r c v s G' H', Stt K ⟨H, G, io⟩ (r :: c) (some v :: s) G' H' → Q1 r c → Q v H') ∧ ∀ x fd d c s G' H', Stt K ⟨H, G, io⟩ c s G' H' → XdOk K G' fd d → E1 x fd c → E (.ref (He.ga K x)) d H'
/-- THE RULE for a def that may raise -/
theorem fn_dY {P : Program} {w : World} {K : PySem.W.Frag} {mg : Str → Option Value} {base : Heap} {x qual : Str} {st : Stmt} {f : Addr} {fd : FuncData} {N ps : List Str} {k : Nat} {T : TFY} {t : TSY} (F : Fun K x qual st f fd) (sc : FnScope N ps (defScope st))
    (hT : ∀ a Q E1, T a Q E1 → a.length = ps.length ∧ t E1 { nx := fun c => Q (.d .none) c, rt := Q } (a ++ List.replicate (N.length - ps.length) .no))
    (body : ∀ (cdv : Value) (A : Around) (outer : List Env) (s : Shared) (H : Hp) (E : XK), Room k (A.deeper (envOfC qual (defScope st) s.heap.objs.size f cdv)) →
      Takes (cxOf (L2.CX P w) P w K mg base N qual (defScope st) f cdv A outer s H E) (fun cls d _ H => E cls d H) → DSsY (cxOf (L2.CX P w) P w K mg base N qual (defScope st) f cdv A outer s H E) (fun cls d _ H => E cls d H) (defBody st) t) : FnOk P w K mg base (L2.CX P w) (k + 1) f fd ps (SpY K T) := (by
  have hl : ∀ vs H Q E, SpY K T vs H Q E → vs.length = ps.length := fun vs H Q E h => by
    obtain ⟨G, io, a, Q1, E1, ⟨A, r, _⟩, h2, _⟩ := h
    have := r.len
    rw [List.length_map] at this
    rw [this]
    exact (hT a Q1 E1 h2).1
  refine F.okX sc hl (fun cdv A outer s H vs Q E hr h => ?_)
  obtain ⟨ts, p, v⟩ := (body cdv A outer s H E hr (takes_of rfl rfl rfl rfl)).ex
  refine ⟨ts, p, ?_⟩
  have lv := hl _ _ _ _ h
  obtain ⟨G, io, a, Q1, E1, ⟨A1, r, wd⟩, h2, h3, h4⟩ := h
  have st0 : Stt K ⟨H, G, io⟩ (a ++ List.replicate (N.length - ps.length) .no) (L2.start N vs) G H := by
    refine ⟨A1, ?_, wd⟩
    unfold L2.start
    rw [lv]
    exact reps_more r _
  exact v ⟨H, G, io⟩ _ _ G H _ { nx := fun c => Q1 (.d .none) c, rt := Q1 } E1 st0 ⟨fun c s' G' H' st' _ q => h3 (.d .none) c .non s' G' H' (st'.push_d .non) q, fun r c v s' G' H' st' _ q => h3 r c v s' G' H' st' q, fun _ _ _ _ _ _ q => q.elim, fun _ _ _ _ _ _ q => q.elim⟩ (fun x fd d c s' G' H' st' _ hd q => h4 x fd d c s' G' H' st' hd q) (hT a Q1 E1 h2).2
  )
/-- a def of the text that keeps its promise, and may raise -/
structure CalY (P : Program) (w : World) (K : PySem.W.Frag) (mg : Str → Option Value) (base : Heap) (x : Str) (k : Nat) (ps : List Str) (T : TFY) : Prop where
  ex : ∃ f fd, FnOk P w K mg base (L2.CX P w) k f fd ps (SpY K T) ∧ mg x = some (.ref f) ∧ PySem.W.keepIn K (.ref f) = true ∧ Binds K fd ps []
/-- a method -/
structure MtY (P : Program) (w : World) (K : PySem.W.Frag) (mg : Str → Option Value) (base : Heap) (C m : Str) (k : Nat) (ps : List Str) (T : TFY) : Prop where
  ex : ∃ f fd, FnOk P w K mg base (L2.CX P w) k f fd ps (SpY K T) ∧ Meth K (He.ga K C) m f ∧ Cls K (He.ga K C) ∧ Binds K fd ps []
/-- one that raises nothing, as one that may -/
theorem Cal.y {P : Program} {w : World} {K : PySem.W.Frag} {mg : Str → Option Value} {base : Heap} {x : Str} {k : Nat} {ps : List Str} {T : TFX} (C : CalX P w K mg base x k ps T) : CalY P w K mg base x k ps (fun a Q E1 => T a Q fun x => ∀ c, E1 x [] c) := (by
  obtain ⟨f, fd, F, h2, h3, h4⟩ := C.ex
  have up : ∀ vs H Q E, SpY K (fun a Q E1 => T a Q fun x => ∀ c, E1 x [] c) vs H Q E → SpX K T vs H Q E := fun vs H Q E h => by
    obtain ⟨G, io, a, Q1, E1, st, hT, q, q2⟩ := h
    exact ⟨G, io, a, Q1, _, st, hT, q, fun x c s G' H' st' hx => q2 x [] none c s G' H' st' .none (hx c)⟩
  exact ⟨f, fd, ⟨fun vs H Q E h => F.len _ _ _ _ (up vs H Q E h), fun A outer s H args us vs Q E hr e0 hb hv h => F.run A outer s H args us vs Q E hr e0 hb hv (up vs H Q E h)⟩, h2, h3, h4⟩
  )
/-! ### calls -/
/-- where an exception leaves a call: the slots that were lent hold what the callee's parameters hold -/
def kE (v : Nat → Lt) (as : List Arg) (c1 : Ctx) (EE : EEt) : EEt := fun x fd c' => back v as c' c1 fun c2 => EE x fd c2
def retE (ls : List (Option (Lt × Res))) (E1 : EEt) (x : Str) (fd : List (Str × PyData)) : Prop := ∀ c', Pat ls c' → E1 x fd c'
theorem retE_k {v : Nat → Lt} {as : List Arg} {ls : List (Option (Lt × Res))} {c1 : Ctx} {EE : EEt} {x : Str} {fd : List (Str × PyData)} : retE ls (kE v as c1 EE) x fd = backL v as ls c1 fun c2 => EE x fd c2 :=
  propext ⟨fun h => back_self (h _ (pat_self ls)), fun h c' p => back_pat p h⟩
section
variable {X : Cx} {W : WX} {e : Expr} {es : List Expr} {t : TAr} {x : Str} {p pos : Pos} {k : Nat} {ps : List Str} {T : TFY} {tly : TLY}
def yCallA (T : TFY) (t : TAr) : TXY := fun EE c Q => t c fun as c1 => lentOk c1 as ∧ ∀ v : Nat → Lt, T (as.map (toS c1 v)) (kAX v as c1 Q) (kE v as c1 EE)
/-- behind a call to which slots were lent -/
theorem aft_call {K : PySem.W.Frag} {B : Base} {c1 : Ctx} {s : L2.St} {G1 H1 : Hp} {as : List Arg} {vs : List V} {T : TFY} {R : VK} {EE : EEt} {Q : S → Ctx → Prop} (st1 : Stt K B c1 s G1 H1) (d1 : ArgVs K G1 s as vs) (l : Lnk K W B G1 EE) (q1 : lentOk c1 as ∧ ∀ v : Nat → Lt, T (as.map (toS c1 v)) (kAX v as c1 Q) (kE v as c1 EE))
    (k : ∀ v x c' G' H', Stt K B (x :: c') (some v :: s) G' H' → Same G1 G' → Q x c' → R v H') : SpY K T vs H1 R (fun cls d H => W cls d s H) := (by
  obtain ⟨hl, q1⟩ := q1
  obtain ⟨l1, l2⟩ := lentOk_of hl
  obtain ⟨io, tg, st2, aft⟩ := lendA st1 l1 l2 d1
  refine ⟨G1, io, _, _, _, st2, q1 tg, fun r c' vr s' G' H' st' q2 => ?_, fun x fd d c' s' G' H' st' hd q2 => ?_⟩
  · obtain ⟨e2, c2, q3, g1, g2, g3⟩ := aft st' q2
    cases r with
    | d y =>
      obtain ⟨hd, st3⟩ := g1 y rfl
      exact k vr _ _ G' H' (st3.push_d hd) e2 q3
    | o w R2 =>
      cases w with
      | none => exact k vr _ _ G' H' (g2 R2 rfl) e2 q3
      | some _ => exact q3.elim
    | no => exact q3.elim
    | f F =>
      obtain ⟨hF, st3⟩ := g3 F rfl
      exact k vr _ _ G' H' (st3.push_f hF) e2 q3
  · obtain ⟨e2, c2, q3, g1, _⟩ := aft (st'.push_d (v := .non) (x := .none) .non) q2
    exact l x fd d c2 s G' H' (g1 _ rfl).2 e2 hd q3
  )
theorem y_callA (tk : Takes X W) (C : CalY X.prog X.w X.K X.mg X.base x k ps T) (hr : Room k X.A) (ha : DAr X (e :: es) t) (hg : Gl X x := by rfl)
    (hdb : (x == ("__debug__" : Str)) = false := by decide) (he : starEach (e :: es) X.env = (false, eval e X.env) :: starEach es X.env := by rfl) (hpl : (backTo pos (starEach es X.env)).any (·.1) = false := by rfl) : DXY X W (.Call (.Name x p) (e :: es) [] pos) (yCallA T t) := (by
  obtain ⟨f, fd, F, h2, h3, h4⟩ := C.ex
  obtain ⟨ta, pa, va⟩ := ha.ex
  refine ⟨_, pe_callS F hr hg h2 h3 h4 (passAt tk) pa hdb he hpl, fun B c s G H Q R EE st l q kk => va B c s G H _ _ st q fun vs as c1 G1 H1 st1 e1 d1 q1 => ?_⟩
  exact aft_call st1 d1 (l.mono e1) q1 fun v x c' G' H' st' e' q' => kk v x c' G' H' st' (e1.trans e') q'
  )
/-- arguments that may raise, all data -/
def yCall (T : TFY) (t : TLY) : TXY := fun EE c Q => t EE c fun xs c1 => T (xs.map S.d) (kX fun x => Q x c1) fun x fd _ => EE x fd c1
theorem aft_data {K : PySem.W.Frag} {B : Base} {c1 : Ctx} {s : L2.St} {G1 H1 : Hp} {xs : List PyData} {vs : List V} {T : TFY} {R : VK} {EE : EEt} {Q : S → Ctx → Prop} (st1 : Stt K B c1 s G1 H1) (d1 : DpAll K G1 vs xs) (l : Lnk K W B G1 EE) (q1 : T (xs.map S.d) (kX fun x => Q x c1) fun x fd _ => EE x fd c1)
    (k : ∀ v x c' G' H', Stt K B (x :: c') (some v :: s) G' H' → Same G1 G' → Q x c' → R v H') : SpY K T vs H1 R (fun cls d H => W cls d s H) := (by
  refine ⟨G1, [], _, _, _, stt_data st1.sub d1, q1, fun r c' v s' G' H' st' q2 => ?_, fun x fd d c' s' G' H' st' hd q2 => ?_⟩
  · cases r with
    | d y =>
      obtain ⟨st2, e2⟩ := after0 st1 st'
      exact k v _ c1 G' H' (st2.push_d st'.top_d.2) e2 q2
    | f F =>
      obtain ⟨st2, e2⟩ := after0 st1 st'
      exact k v _ c1 G' H' (st2.push_f st'.top_f.2) e2 q2
    | o w R2 =>
      cases w with
      | none =>
        obtain ⟨st2, e2⟩ := after0o st1 st'
        exact k v _ c1 G' H' st2 e2 q2
      | some _ => exact q2.elim
    | no => exact q2.elim
  · obtain ⟨st2, e2⟩ := after0 st1 st'
    exact l x fd d c1 s G' H' st2 e2 hd q2
  )
end
end Dl

/-! Instances of the text's classes: made, their fields, methods called with a part of a tree lent. -/
namespace L2
open PySem PySem.Spec PyProof.Rows
section
variable {X : Cx} {CX : CXT} {k : Nat} {f C : Addr} {fd : FuncData} {ps : List Str} {sp : Sp} {E : St → XK} {m : Str} {pos apos : Pos} {e o : Expr} {es : List Expr} {ta : TE} {t : TA}
end
end L2
namespace Dl
open PySem PySem.Spec PyProof.Rows L2
section
variable {X : Cx} {W : WX} {pos p : Pos} {e a : Expr} {es : List Expr} {j : Nat} {tp : TPl}
end

/-! ### a part of a tree taken out, and put back -/
section
variable {K : PySem.W.Frag} {B : Base} {G0 H0 G2 H2 : Hp} {A A1 : List Addr} {T T' : OT} {root u : V} {π : List Nat} {c2 : Ctx} {s : L2.St} {j : Nat} {w : Option Lt}
open Classical in
/-- what of A is not of A1 -/
noncomputable def less (A A1 : List Addr) : List Addr := A.filter fun a => decide (a ∉ A1)
/-- two on top, the other way about -/
theorem Stt.swap {x y : S} {a b : Option V} {c : Ctx} (st : Stt K B (x :: y :: c) (a :: b :: s) G2 H2) : Stt K B (y :: x :: c) (b :: a :: s) G2 H2 := (by
  obtain ⟨A, r, w⟩ := st.ex
  have key : ∀ {x : S} {a : Option V} {c : Ctx} {s : L2.St} {A : List Addr}, Reps K B G2 H2 (x :: c) (a :: s) A → ∃ Ax Ac, A = Ax ++ Ac ∧ Reps K B G2 H2 c s Ac ∧ ∀ {c' : Ctx} {s' : L2.St} {A' : List Addr}, Reps K B G2 H2 c' s' A' → Reps K B G2 H2 (x :: c') (a :: s') (Ax ++ A') := by
    intro x a c s A r
    cases r with
    | no r => exact ⟨[], _, rfl, r, fun r' => .no r'⟩
    | d h r => exact ⟨[], _, rfl, r, fun r' => .d h r'⟩
    | f h r => exact ⟨[], _, rfl, r, fun r' => .f h r'⟩
    | o h hw r => exact ⟨_, _, rfl, r, fun r' => .o h hw r'⟩
  obtain ⟨Ax, Ac, rfl, r1, k1⟩ := key r
  obtain ⟨Ay, Ad, rfl, r2, k2⟩ := key r1
  have pm : (Ay ++ (Ax ++ Ad)).Perm (Ax ++ (Ay ++ Ad)) := by
    rw [← List.append_assoc, ← List.append_assoc]
    exact List.Perm.append_right _ List.perm_append_comm
  exact ⟨Ay ++ (Ax ++ Ad), k2 (k1 r2), w.sub, pm.nodup_iff.mpr w.nd, fun a ha => w.out a (pm.mem_iff.mp ha), w.old, w.stay, w.dom, w.newG, fun a ha => w.lim a (pm.mem_iff.mp ha)⟩
  )
end
/-! ### methods -/
section
variable {X : Cx} {W : WX} {pos apos : Pos} {o e : Expr} {es : List Expr} {j k : Nat} {tp : TPl} {tly : TLY} {T : TFY} {C m : Str} {ps : List Str}
/-! ### .. that raise nothing, in a def that raises nothing -/
/-- a method that raises nothing -/
structure MtN (P : Program) (w : World) (K : PySem.W.Frag) (mg : Str → Option Value) (base : Heap) (C m : Str) (k : Nat) (ps : List Str) (T : TF) : Prop where
  ex : ∃ f fd, FnOk P w K mg base CX0 k f fd ps (SpD K T) ∧ Meth K (He.ga K C) m f ∧ Cls K (He.ga K C) ∧ Binds K fd ps []
theorem MtY.n {P : Program} {w : World} {K : PySem.W.Frag} {mg : Str → Option Value} {base : Heap} {C m : Str} {k : Nat} {ps : List Str} {T : TFY} (M : MtY P w K mg base C m k ps T) : MtN P w K mg base C m k ps (fun a Q => T a Q fun _ _ _ => False) := (by
  obtain ⟨f, fd, F, h2, h3, h4⟩ := M.ex
  have up : ∀ vs H Q E, SpD K (fun a Q => T a Q fun _ _ _ => False) vs H Q E → SpY K T vs H Q fun _ _ _ => False := fun vs H Q E h => by
    obtain ⟨G, io, a, Q1, st, hT, q⟩ := h
    exact ⟨G, io, a, Q1, _, st, hT, q, fun _ _ _ _ _ _ _ _ _ z => z⟩
  refine ⟨f, fd, ⟨fun vs H Q E h => F.len _ _ _ _ (up vs H Q E h), fun A outer s H args us vs Q E hr e0 hb hv h => ?_⟩, h2, h3, h4⟩
  refine codeAny_mono (F.run A outer s H args us vs Q _ hr e0 hb hv (up vs H Q E h)) fun r s' hq => ?_
  cases r with
  | error e =>
    obtain ⟨_, _, _, _, _, _, _, _, _, _, _, _, z⟩ := hq
    exact z.elim
  | ok fl => cases fl <;> exact hq
  )
variable {TN : TF} {tl : TL}
/-! ### C() -/
end
end Dl

/-! Exceptions with fields: made by the class's __init__, asked, their fields read; try around statements; a field put. -/
namespace L2
open PySem PySem.Spec PyProof.Rows
section
variable {X : Cx} {e : Expr} {es : List Expr} {ta : TA} {B : Str} {CB : Addr} {p1 p2 pos : Pos}
/-- what the base class must have for B.__init__(self, ..) -/
structure BinC (K : PySem.W.Frag) (C : Addr) : Prop where
  sp : PySem.W.specialIn K (.ref C) "__getattribute__" = some (some (.builtin "type.__getattribute__"))
  rd : PySem.W.readsIn K C (.type "type") = true
  at_ : PySem.W.findCls K (.ref C) (.type "type") "__init__" = some (.val (.builtin "ValueError.__init__"))
end
/-- what a class with two fields must have -/
structure Ex2 (K : PySem.W.Frag) (C : Addr) (f1 f2 : Str) : Prop where
  o : OexC K C
  n1 : PySem.W.findIn K (.ref C) f1 = some none
  n2 : PySem.W.findIn K (.ref C) f2 = some none
/-- the promise of an __init__ that keeps two fields -/
def spEx2 (K : PySem.W.Frag) (C : Addr) (f1 f2 : Str) : Sp := fun vs H Q _ => ∃ e a b, vs = [.ref e, a, b] ∧ H e = some (exo e C none) ∧ ∀ d, H d = none → d ≠ e → Q .non (upd (upd (upd H d (exd d [(f1, a)])) e (exo e C (some d))) d (exd d [(f2, b), (f1, a)]))
end L2
namespace Dl
open PySem PySem.Spec PyProof.Rows L2
/-- an exception at a, its dict d, its fields -/
def excR (a : Addr) (d : Option Addr) (fd : List (Str × PyData)) : FrG := { P := fun K G v => v = .ref a ∧ XdOk K G fd d, grow := fun _ _ _ _ h e => ⟨h.1, h.2.mono e⟩ }
section
variable {X : Cx} {W : WX} {e : Expr} {n x : Str} {pos p p1 p2 : Pos}
/-! ### the exception in hand -/
/-- isinstance(e, c), e the exception in hand, its dict whatever it is -/
theorem call_isY {a D : Addr} {d : Option Addr} {oe : Obj} {pn : List (Addr × Obj)} (C : ExcC X.K D) (hz : Zc (.ref D) d oe) (hf : ∃ vs, oe.data = .fields vs) :
    CallR (X.suite a ((a, oe) :: pn)) (.builtin "isinstance") (fun xs H Q => (d = none ∨ ∃ dd fs, d = some dd ∧ H dd = some (.xd fs)) ∧ rIsE X.K D a xs H Q) := (by
  intro pins s σ H xs us Q I r h
  obtain ⟨hdd, c, cv, b, rfl, hcv, e, q⟩ := h
  cases r with
  | cons rx rr =>
    cases rr with
    | cons rt rr =>
      cases rr
      cases rx
      have ec := hcv _ rt
      subst ec
      obtain ⟨hget, _⟩ := I.pin (a, oe) (List.mem_append.mpr (.inl List.mem_cons_self))
      obtain ⟨vs, hv⟩ := hf
      obtain ⟨od, J⟩ : ∃ od, PySem.W.InstAt s.heap a oe D od := by
        have hno : PySem.W.notCls oe = true := by unfold PySem.W.notCls; rw [hv]
        rcases hdd with hd | ⟨dd, fs, hd, hx⟩
        · exact ⟨none, hget, hz.1, hno, by rw [hz.2, hd]; trivial⟩
        · have hx : ObjOk X.prog X.w H s.heap dd (.xd fs) := I.hok dd _ hx
          obtain ⟨mA, hns, hr⟩ := hx
          obtain ⟨od, ho, _⟩ := lookIn_ns hns
          exact ⟨some od, hget, hz.1, hno, by rw [hz.2, hd]; exact ho⟩
      have hcl : (PySem.W.clsIn X.K D).isSome = true := by
        have h0 := C.hd
        unfold PySem.W.hasDictIn at h0
        cases q0 : PySem.W.clsIn X.K D with
        | some _ => rfl
        | none => rw [q0] at h0; cases h0
      exact PySem.W.kia_one (PySem.W.kitx_exc hcl C.hg C.hk C.hs C.ha C.hn C.ht C.hm) I.kIn J e (fun z => nomatch z) fun tk => ⟨.bl b, H, I.kept (t' := tk) fun _ _ z => z, rfl, q⟩
  )
theorem xd_here {K : PySem.W.Frag} {G H : Hp} {fd : List (Str × PyData)} {d : Option Addr} (h : XdOk K G fd d) (e : Same G H) : d = none ∨ ∃ dd fs, d = some dd ∧ H dd = some (.xd fs) := (by
  rcases h with h | ⟨dd, fs, h1, h2, _⟩
  · exact .inl h.2
  · exact .inr ⟨dd, fs, h1, e _ _ h2⟩
  )
def uIsY (j : Nat) (a : Addr) (d : Option Addr) (b : Bool) : TD := fun c Q => (∃ fd, c[j]? = some (.f (excR a d fd))) ∧ Q (.bool b) c
theorem d_isY {a : Addr} {d : Option Addr} {oe : Obj} {pn : List (Addr × Obj)} {D : Addr} {b : Bool} {y2 : Str} (j : Nat) (C : ExcC X.K D) (hz : Zc (.ref D) d oe) (hfl : ∃ vs, oe.data = .fields vs) (hm : X.mg "isinstance" = none) (hy : X.mg y2 = some (.ref (He.ga X.K y2))) (hb : PySem.W.kitOne X.K (.ref D) (.ref (He.ga X.K y2)) = some b)
    (hN : X.N[j]? = some n := by rfl) (hv : Vis X.env.scope n := by first | exact Or.inl rfl | exact Or.inr (Or.inl rfl) | exact Or.inr (Or.inr rfl)) (hd : (n == ("__debug__" : Str)) = false := by decide) (hcd : (n == ("__classdict__" : Str)) = false := by decide)
    (hg : Gl X "isinstance" := by rfl) (hg2 : Gl X y2 := by rfl) (h2 : (y2 == ("__debug__" : Str)) = false := by decide) (he : starEach ((.Name n p1) :: [.Name y2 p2]) X.env = (false, eval (.Name n p1) X.env) :: starEach [.Name y2 p2] X.env := by rfl) (hpl : (backTo pos (starEach [.Name y2 p2] X.env)).any (·.1) = false := by rfl) :
    DE (X.suite a ((a, oe) :: pn)) (.Call (.Name "isinstance" p) [.Name n p1, .Name y2 p2] [] pos) (uIsY j a d b) := (by
  refine ⟨_, pe_callB (X := X.suite a ((a, oe) :: pn)) (call_isY C hz hfl) hg hm (by decide +kernel) (pa_cons (pe_var (i := j) hN hv hd hcd) (pa_cons (pe_glob (v := .ref (He.ga X.K y2)) hg2 hy rfl h2) pa_nil) he) (by decide) (by decide) he hpl, fun B c s G H Q R st q k => ?_⟩
  obtain ⟨⟨fd, hj⟩, q⟩ := q
  obtain ⟨A, r, _⟩ := st.ex
  obtain ⟨v, h1, rfl, hx⟩ := r.get_f hj
  exact ⟨.ref a, h1, xd_here hx st.sub, .ref (He.ga X.K y2), _, b, rfl, fun u h => h, hb, k _ _ c G H st (Same.refl _) (.bl b) q⟩
  )
theorem d_isYB {a : Addr} {d : Option Addr} {oe : Obj} {pn : List (Addr × Obj)} {D : Addr} {b : Bool} {y2 : Str} {ty : String} (j : Nat) (C : ExcC X.K D) (hz : Zc (.ref D) d oe) (hfl : ∃ vs, oe.data = .fields vs) (hm : X.mg "isinstance" = none) (hy : X.mg y2 = none) (hvb : bootBuiltins y2 = some (.type ty)) (hb : PySem.W.kitOne X.K (.ref D) (.type ty) = some b)
    (hN : X.N[j]? = some n := by rfl) (hv : Vis X.env.scope n := by first | exact Or.inl rfl | exact Or.inr (Or.inl rfl) | exact Or.inr (Or.inr rfl)) (hd : (n == ("__debug__" : Str)) = false := by decide) (hcd : (n == ("__classdict__" : Str)) = false := by decide)
    (hg : Gl X "isinstance" := by rfl) (hg2 : Gl X y2 := by rfl) (h1 : y2 ≠ "__name__" := by decide) (h2 : (y2 == ("__debug__" : Str)) = false := by decide) (he : starEach ((.Name n p1) :: [.Name y2 p2]) X.env = (false, eval (.Name n p1) X.env) :: starEach [.Name y2 p2] X.env := by rfl) (hpl : (backTo pos (starEach [.Name y2 p2] X.env)).any (·.1) = false := by rfl) :
    DE (X.suite a ((a, oe) :: pn)) (.Call (.Name "isinstance" p) [.Name n p1, .Name y2 p2] [] pos) (uIsY j a d b) := (by
  refine ⟨_, pe_callB (X := X.suite a ((a, oe) :: pn)) (call_isY C hz hfl) hg hm (by decide +kernel) (pa_cons (pe_var (i := j) hN hv hd hcd) (pa_cons (pe_bltn (v := .ty ty) hg2 hy hvb rfl h1 h2) pa_nil) he) (by decide) (by decide) he hpl, fun B c s G H Q R st q k => ?_⟩
  obtain ⟨⟨fd, hj⟩, q⟩ := q
  obtain ⟨A, r, _⟩ := st.ex
  obtain ⟨v, h3, rfl, hx⟩ := r.get_f hj
  exact ⟨.ref a, h3, xd_here hx st.sub, .ty ty, _, b, rfl, fun u h => h, hb, k _ _ c G H st (Same.refl _) (.bl b) q⟩
  )
/-! ### try -/
end
/-! ### a field put -/
section
variable {X : Cx} {pos pos' p : Pos} {e : Expr} {to : TR} {y : Str}
theorem ots_set {K : PySem.W.Frag} {G H : Hp} {t' : OT} {v : V} {At : List Addr} : ∀ {ts : List OT} {vs : List V} {A : List Addr} (n : Nat), OwnTs K G H ts vs A → OwnT K G H t' v At → A.Nodup → At.Nodup → (∀ a ∈ At, a ∉ A) → ∃ A', OwnTs K G H (ts.set n t') (vs.set n v) A' ∧ A'.Nodup ∧ ∀ a ∈ A', a ∈ A ∨ a ∈ At
  | [], _, _, n, h, _, _, _, _ => by cases h; exact ⟨[], .nil, List.nodup_nil, fun a ha => by cases ha⟩
  | t :: ts, _, _, 0, h, h', nd, nd', dj => by
    cases h with
    | @cons _ _ _ _ Ah Ar h1 h2 =>
      obtain ⟨n1, n2, n3⟩ := List.nodup_append.mp nd
      exact ⟨At ++ Ar, .cons h' h2, List.nodup_append.mpr ⟨nd', n2, fun a ha b hb z => dj a ha (List.mem_append_right _ (z ▸ hb))⟩, fun a ha => (List.mem_append.mp ha).elim .inr fun z => .inl (List.mem_append_right _ z)⟩
  | t :: ts, _, _, n + 1, h, h', nd, nd', dj => by
    cases h with
    | @cons _ _ _ _ Ah Ar h1 h2 =>
      obtain ⟨n1, n2, n3⟩ := List.nodup_append.mp nd
      obtain ⟨A', r, m1, m2⟩ := ots_set n h2 h' n2 nd' fun a ha z => dj a ha (List.mem_append_right _ z)
      refine ⟨Ah ++ A', .cons h1 r, List.nodup_append.mpr ⟨n1, m1, fun a ha b hb z => ?_⟩, fun a ha => ?_⟩
      · subst z
        rcases m2 a hb with z | z
        · exact n3 a ha a z rfl
        · exact dj a z (List.mem_append_left _ ha)
      · rcases List.mem_append.mp ha with z | z
        · exact .inl (List.mem_append_left _ z)
        · exact (m2 a z).imp (List.mem_append_right _) id
end
end Dl

/-! The head's facts for classes; calls to which a part of a tree is lent to be looked at. -/
namespace Dl
open PySem PySem.Spec PyProof.Rows L2
/-! ### defs by another name, methods -/
structure DfA (K : PySem.W.Frag) (mg : Str → Option Value) (g x : Str) (st : Stmt) (ps : List Str) : Prop where
  ex : ∃ f fd, Fun K x x st f fd ∧ mg g = some (.ref f) ∧ Binds K fd ps []
structure DfM (K : PySem.W.Frag) (C m q : Str) (st : Stmt) (ps : List Str) : Prop where
  ex : ∃ fd, Fun K m q st (He.ma K (He.ga K C) m) fd ∧ Binds K fd ps []
/-! ### trees whose data has no lists -/
mutual
def OT.pln : OT → Bool
  | .dat x => kOk x
  | .lst ts => OT.plns ts
  | .tup ts => OT.plns ts
  | .dic _ _ ks ts => kOks ks && OT.plns ts
  | .obj _ _ ts => OT.plns ts
def OT.plns : List OT → Bool
  | [] => true
  | t :: ts => OT.pln t && OT.plns ts
end
section
variable {K : PySem.W.Frag} {G G2 H : Hp}
end
def okW (x : S) (Q : S → Prop) : Prop := match x with
  | .d y => kOk y = true ∧ Q (.d y)
  | .o none (.lst ds) => kOks ds = true ∧ Q (.o none (.lst ds))
  | .o none (.tr t) => t.pln = true ∧ Q (.o none (.tr t))
  | _ => False
def kW (Q : S → Prop) : S → Ctx → Prop := fun r _ => okW r Q
theorem ret_wd {Q : S → Prop} {x : PyData} : ret (kW Q) (.d x) = (kOk x = true ∧ Q (.d x)) := propext ⟨fun h => h [], fun h _ => h⟩
theorem ret_wo {Q : S → Prop} {ds : List PyData} : ret (kW Q) (.o none (.lst ds)) = (kOks ds = true ∧ Q (.o none (.lst ds))) := propext ⟨fun h => h [], fun h _ => h⟩
theorem ret_wt {Q : S → Prop} {t : OT} : ret (kW Q) (.o none (.tr t)) = (t.pln = true ∧ Q (.o none (.tr t))) := propext ⟨fun h => h [], fun h _ => h⟩
section
variable {X : Cx} {pos : Pos} {e : Expr} {es : List Expr} {x : Str} {p : Pos} {k : Nat} {ps : List Str} {T : TF} {j : Nat} {tp : TPl} {tks : TCs} {tx : TX}
end
end Dl

/-! What an __init__ promises, kept in a row; try whose suites come in a list. -/
namespace Dl
open PySem PySem.Spec PyProof.Rows L2
/-- a class's __init__ keeps its promise -/
structure InN (P : Program) (w : World) (K : PySem.W.Frag) (mg : Str → Option Value) (base : Heap) (C : Str) (k : Nat) (ps : List Str) (T : TF) : Prop where
  ex : ∃ fd, FnOk P w K mg base CX0 k (He.ma K (He.ga K C) "__init__") fd ps (SpD K T) ∧ Binds K fd ps []
/-- the __init__ of an exception of two fields -/
structure InEx (P : Program) (w : World) (K : PySem.W.Frag) (mg : Str → Option Value) (base : Heap) (C f1 f2 : Str) (k : Nat) : Prop where
  ex : ∃ fd ps, FnOk P w K mg base CX0 k (He.ma K (He.ga K C) "__init__") fd ps (spEx2 K (He.ga K C) f1 f2) ∧ Binds K fd ps []
/-! ### try, the suites in a list -/
/-- what stands in a row under a class's name -/
def atY {β : Type} : List (Str × β) → Str → (β → Prop) → Prop
  | [], _, _ => False
  | (z, b) :: l, y, Q => if y = z then Q b else atY l y Q
theorem atY_cons {β : Type} {y z : Str} {b : β} {l : List (Str × β)} {Q : β → Prop} : atY ((z, b) :: l) y Q = if y = z then Q b else atY l y Q := rfl
theorem atY_of {β : Type} {y : Str} {Q : β → Prop} : ∀ {l : List (Str × β)}, atY l y Q → ∃ b, (y, b) ∈ l ∧ Q b
  | [], h => h.elim
  | (z, b) :: l, h => by
    unfold atY at h
    split at h
    · rename_i e
      subst e
      exact ⟨b, List.mem_cons_self, h⟩
    · obtain ⟨b', h1, h2⟩ := atY_of h
      exact ⟨b', List.mem_cons_of_mem _ h1, h2⟩
/-- the suites of the classes that come -/
inductive SuAll (X : Cx) (x : Str) (b₀ : Stmt) (suite : List Stmt) : List (Str × (Addr → Option Addr → TSd)) → Prop
  | nil : SuAll X x b₀ suite []
  | cons {y : Str} {ts : Addr → Option Addr → TSd} {l : List (Str × (Addr → Option Addr → TSd))} (hk : PySem.W.exmOne X.K (.ref (He.ga X.K y)) (.ref (He.ga X.K x)) = some true)
      (h : ∀ (a : Addr) (d : Option Addr) (oe : Obj) (pn : List (Addr × Obj)), Zc (.ref (He.ga X.K y)) d oe → (∃ vs, oe.data = .fields vs) → DSs (X.suite a ((a, oe) :: pn)) (b₀ :: suite) (ts a d)) (r : SuAll X x b₀ suite l) : SuAll X x b₀ suite ((y, ts) :: l)
theorem SuAll.get {X : Cx} {x : Str} {b₀ : Stmt} {suite : List Stmt} {y : Str} {ts : Addr → Option Addr → TSd} : ∀ {l : List (Str × (Addr → Option Addr → TSd))}, SuAll X x b₀ suite l → (y, ts) ∈ l →
    PySem.W.exmOne X.K (.ref (He.ga X.K y)) (.ref (He.ga X.K x)) = some true ∧ ∀ (a : Addr) (d : Option Addr) (oe : Obj) (pn : List (Addr × Obj)), Zc (.ref (He.ga X.K y)) d oe → (∃ vs, oe.data = .fields vs) → DSs (X.suite a ((a, oe) :: pn)) (b₀ :: suite) (ts a d)
  | _, .cons hk h r, hm => by
    rcases List.mem_cons.mp hm with e | e
    · cases e
      exact ⟨hk, h⟩
    · exact r.get e
section
variable {X : Cx} {W : WX} {n x : Str} {pos : Pos}
def zTryL (t : TSY) (i : Nat) (yts : List (Str × (Addr → Option Addr → TSd))) : TSd := fun E c => t (fun y fd c1 => atY yts y fun ts => ∀ a d, ts a d { nx := fun c' => E.nx (c'.set i .no), rt := E.rt, bk := fun c' => E.bk (c'.set i .no), ct := fun c' => E.ct (c'.set i .no) } (c1.set i (.f (excR a d fd)))) E c
theorem s_tryL {t : TSY} {i : Nat} {yts : List (Str × (Addr → Option Addr → TSd))} {body suite : List Stmt} {b₀ : Stmt} {np pos' : Pos} (hs : X.stack = X.env :: X.outer) (hf : X.env.frame = some X.env.locals) (hN : X.N.Nodup) (hx : X.mg x = some (.ref (He.ga X.K x)))
    (hb : ∀ (W : WX) pn xe, Takes (X.tr pn xe) W → PassesOwn (model X.prog X.w) X.A X.env xe → DSsY (X.tr pn xe) W body t) (hsu : SuAll X x b₀ suite yts)
    (hi : X.N[i]? = some n := by rfl) (hln : X.env.kindOf n = some .local := by rfl) (hgx : Gl X x := by rfl) (hdx : (x == ("__debug__" : Str)) = false := by decide) :
    DS X (.Try body [.ExceptHandler (some (.Name x np)) (some n) (b₀ :: suite) pos'] [] [] pos) (zTryL t i yts) := (by
  let tb : WX → TS := fun W D σ H => ∀ ts0 : TS, DSYv X.K W ts0 t → ts0 D σ H
  let tsA : Addr → Value → Option Addr → TS := fun a cls d D σ H => ∃ y ts, (y, ts) ∈ yts ∧ cls = .ref (He.ga X.K y) ∧ ∀ ts0 : TS, DSv X.K ts0 (ts a d) → ts0 D σ H
  refine ⟨_, ps_try_as (tb := tb) (ts := tsA) (Wout := fun _ _ _ _ => False) hs hf hN hi hln ⟨hgx, hdx, .inl hx⟩ (fun u s' ⟨_, _, _, _, _, _, _, _, _, _, _, _, _, _, _, _, w⟩ => w.elim) (fun W pn xe tk po => ?_) (fun a oe cls d pn hz hfl => ?_), fun B c s G H D E st kk q => ?_⟩
  · obtain ⟨ts0, p, v⟩ := (hb W pn xe tk po).ex
    exact ⟨fun pins s σ H D I h => p.run pins s σ H D I (h ts0 v)⟩
  · refine ⟨fun pins s σ H D I h => ?_⟩
    obtain ⟨y, ts, hy, rfl, h⟩ := h
    obtain ⟨ts0, p, v⟩ := ((hsu.get hy).2 a d oe pn hz hfl).ex
    exact p.run pins s σ H D I (h ts0 v)
  · intro ts0 v0
    refine v0 B c s G H D E _ st kk (fun y fd d c1 s1 G1 H1 st1 e1 hd hy => ?_) q
    obtain ⟨ts, hm, hy⟩ := atY_of hy
    refine ⟨true, (hsu.get hm).1, fun _ a _ => ⟨y, ts, hm, rfl, fun ts1 v1 => ?_⟩, fun z => nomatch z⟩
    exact v1 B (c1.set i (.f (excR a d fd))) _ G1 H1 _ { nx := fun c' => E.nx (c'.set i .no), rt := E.rt, bk := fun c' => E.bk (c'.set i .no), ct := fun c' => E.ct (c'.set i .no) } (st1.set_f i (v := .ref a) ⟨rfl, hd⟩) ⟨fun c s G2 H2 st3 e3 q3 => kk.nx _ _ G2 H2 (st3.set_no i none) (e1.trans e3) q3, fun r c v s G2 H2 st3 e3 q3 => kk.rt r c v s G2 H2 st3 (e1.trans e3) q3,
      fun c s G2 H2 st3 e3 q3 => kk.bk _ _ G2 H2 (st3.set_no i none) (e1.trans e3) q3, fun c s G2 H2 st3 e3 q3 => kk.ct _ _ G2 H2 (st3.set_no i none) (e1.trans e3) q3⟩ (hy a d)
  )
end
end Dl

/-! sorted(set(numbers)). -/
namespace PySem
open PySem PySem.Spec PyProof.Rows
section
variable {prog : Program} {w : World} {A : Around} {E : Value → Shared → Prop} {s : Shared}
end
end PySem
namespace Dl
open PySem PySem.Spec PyProof.Rows L2
section
variable {X : Cx} {a : Expr} {ta : TD} {p p2 q pos : Pos}
end
end Dl

/-! isinstance(e, (C, ..)), e an exception that may have fields. -/
namespace Dl
open PySem PySem.Spec PyProof.Rows L2
section
variable {X : Cx} {n : Str} {es : List Expr} {pos p p1 : Pos}
theorem call_isYT {a D : Addr} {d : Option Addr} {oe : Obj} {pn : List (Addr × Obj)} (C : ExcC X.K D) (hz : Zc (.ref D) d oe) (hf : ∃ vs, oe.data = .fields vs) :
    CallR (X.suite a ((a, oe) :: pn)) (.builtin "isinstance") (fun xs H Q => (d = none ∨ ∃ dd fs, d = some dd ∧ H dd = some (.xd fs)) ∧ rIsET X.K D a xs H Q) := (by
  intro pins s σ H xs us Q I r h
  obtain ⟨hdd, tp, cs, ws, b, rfl, hT, k, e, q⟩ := h
  obtain ⟨u1, u2, rfl, r1, r2⟩ := vals2 r
  cases (show u1 = Value.ref a from r1)
  cases (show u2 = Value.ref tp from r2)
  obtain ⟨hget, _⟩ := I.pin (a, oe) (List.mem_append.mpr (.inl List.mem_cons_self))
  obtain ⟨vs, hv⟩ := hf
  obtain ⟨od, J⟩ : ∃ od, PySem.W.InstAt s.heap a oe D od := by
    have hno : PySem.W.notCls oe = true := by unfold PySem.W.notCls; rw [hv]
    rcases hdd with hd | ⟨dd, fs, hd, hx⟩
    · exact ⟨none, hget, hz.1, hno, by rw [hz.2, hd]; trivial⟩
    · have hx : ObjOk X.prog X.w H s.heap dd (.xd fs) := I.hok dd _ hx
      obtain ⟨mA, hns, hr⟩ := hx
      obtain ⟨od, ho, _⟩ := lookIn_ns hns
      exact ⟨some od, hget, hz.1, hno, by rw [hz.2, hd]; exact ho⟩
  have hcl : (PySem.W.clsIn X.K D).isSome = true := by
    have h0 := C.hd
    unfold PySem.W.hasDictIn at h0
    cases q0 : PySem.W.clsIn X.K D with
    | some _ => rfl
    | none => rw [q0] at h0; cases h0
  obtain ⟨_, its, rv, o, h1, h2, n, h3⟩ := (show ObjOk X.prog X.w H s.heap tp (.tup cs) from I.hok tp _ hT)
  have e3 := ClsV.all k rv
  subst e3
  obtain ⟨oc, od2, dt, sl⟩ := o
  simp only at h2 h3
  subst h2 h3
  exact PySem.W.kia_tup (PySem.W.kitx_exc hcl C.hg C.hk C.hs C.ha C.hn C.ht C.hm) I.kIn J h1 e (fun z => nomatch z) fun tk => ⟨.bl b, H, I.kept (t' := tk) fun _ _ z => z, rfl, q⟩
  )
theorem d_isYT {a : Addr} {d : Option Addr} {oe : Obj} {pn : List (Addr × Obj)} {D : Addr} {r : Bool} {kk : Nat} {tp : Pos} {as : List Addr} (j : Nat) (C : ExcC X.K D) (hz : Zc (.ref D) d oe) (hfl : ∃ vs, oe.data = .fields vs) (hm : X.mg "isinstance" = none) (hcl : Clss (X.suite a ((a, oe) :: pn)) es as) (hb : PySem.W.kitAny X.K (.ref D) (as.map Value.ref) = some r) (hlen : as.length ≤ sizeLine)
    (hN : X.N[j]? = some n := by rfl) (hv : Vis X.env.scope n := by first | exact Or.inl rfl | exact Or.inr (Or.inl rfl) | exact Or.inr (Or.inr rfl)) (hd : (n == ("__debug__" : Str)) = false := by decide) (hcd : (n == ("__classdict__" : Str)) = false := by decide)
    (hg : Gl X "isinstance" := by rfl) (he : starEach ((.Name n p1) :: [.Tuple es kk tp]) X.env = (false, eval (.Name n p1) X.env) :: starEach [.Tuple es kk tp] X.env := by rfl) (hs2 : starEach [.Tuple es kk tp] X.env = (false, eval (.Tuple es kk tp) X.env) :: starEach [] X.env := by rfl) (hpl : (backTo pos (starEach [.Tuple es kk tp] X.env)).any (·.1) = false := by rfl) :
    DE (X.suite a ((a, oe) :: pn)) (.Call (.Name "isinstance" p) [.Name n p1, .Tuple es kk tp] [] pos) (uIsY j a d r) := (by
  obtain ⟨tc, pc, vc⟩ := hcl.ex
  refine ⟨_, pe_callB (X := X.suite a ((a, oe) :: pn)) (call_isYT C hz hfl) hg hm (by decide +kernel) (pa_cons (pe_var (i := j) hN hv hd hcd) (pa_cons (pe_tup pc) pa_nil hs2) he) (by decide) (by decide) he hpl, fun B c s G H Q R st q k => ?_⟩
  obtain ⟨⟨fd, hj⟩, q⟩ := q
  obtain ⟨A, rr, _⟩ := st.ex
  obtain ⟨v, h1, rfl, hx⟩ := rr.get_f hj
  refine ⟨.ref a, h1, vc _ _ _ ⟨by rw [List.length_map]; exact hlen, fun tp hp => ?_⟩⟩
  obtain ⟨st2, e2⟩ := st.laid (o := .tup (as.map V.ref)) hp
  exact ⟨xd_here hx (e2.trans st2.sub), tp, _, _, r, rfl, upd_same, paired_own as, hb, k _ _ c _ _ st2 e2 (.bl r) q⟩
  )
end
end Dl

/-! isinstance(x, (T1, T2)) of data. -/
namespace Dl
open PySem PySem.Spec PyProof.Rows L2
section
variable {X : Cx} {pos p : Pos} {a : Expr} {ta : TD}
end
end Dl

/-! What is never come to: expressions and statements of which nothing is asked but that no way leads there. -/
namespace Dl
open PySem PySem.Spec PyProof.Rows L2
section
variable {X : Cx} {e : Expr} {st : Stmt} {ss : List Stmt}
end
end Dl

/-! [list(..) for ..]: a list of new lists. -/
namespace Dl
open PySem PySem.Spec PyProof.Rows L2
def rdO (K : PySem.W.Frag) (t : TR) : TE := fun σ H Q => ∃ (B : Base) (c : Ctx) (G : Hp) (Q' : Res → Ctx → Prop), Stt K B c σ G H ∧ t c Q' ∧ ∀ v R c' G' H', Stt K B (.o none R :: c') (some v :: σ) G' H' → Same G G' → Q' R c' → Q v H'
section
variable {K : PySem.W.Frag} {B : Base} {G H : Hp} {c : Ctx} {s : L2.St}
end
section
variable {X : Cx}
theorem DO.pe {e : Expr} {t : TR} (h : DO X e t) : PE X e (rdO X.K t) := (by
  obtain ⟨te, p, v⟩ := h.ex
  exact ⟨fun pins s σ H Q I ⟨B, c, G, Q', st, q, k⟩ => p.run pins s σ H Q I (v B c σ G H Q' Q st q k)⟩
  )
variable {elt tg iter : Expr} {scope : Scope} {own : List (Str × Nat)} {pos : Pos} {ti : TL} {g : TGd} {te : TR} {js : List Nat}
end
/-- x in (texts) -/
def fInTS : PyData → PyData → (PyData → Prop) → Prop := fun x y Q => asS x fun i => asT y fun ds => asSs ds fun ns => Q (.bool (ns.any fun j => j == i))
theorem all_flatS : ∀ ns : List Str, (ns.map V.str).all flatV = true
  | [] => rfl
  | n :: ns => by
    show (flatV (.str n) && (ns.map V.str).all flatV) = true
    rw [all_flatS ns]; rfl
theorem opd_inTS {K : PySem.W.Frag} : OpD K (rIn K false) fInTS := fun B c s G H x y v w Q R st dx dy h k => by
  obtain ⟨i, rfl, h⟩ := asS_of h
  obtain ⟨ds, rfl, ns, rfl, q⟩ := asT_of h
  cases dx
  obtain ⟨p, us, rfl, h1, h2⟩ := dp_tup dy
  have := dpa_strs_inv h2
  subst this
  refine ⟨p, _, rfl, .inr (same_t st.sub h1), rfl, all_flatS ns, ?_⟩
  have e : inV (.str i) (ns.map V.str) = ns.any fun j => j == i := by
    unfold inV
    rw [List.any_map]; rfl
  show R (.bl (inV (.str i) (ns.map V.str))) H
  rw [e]
  exact k _ _ G H st (Same.refl _) (.bl _) q
end Dl

/-! A tuple once or more. -/
namespace L2
open PySem PySem.Spec PyProof.Rows
section
variable {X : Cx}
end
end L2
namespace Dl
open PySem PySem.Spec PyProof.Rows L2
section
variable {X : Cx} {a b : Expr} {ta tb : TD} {pos : Pos}
end
end Dl

/-! != of two locked dicts of the same keys and texts. -/
namespace PySem.W
open Lean Elab Tactic Meta PySem PySem.Calls PyProof.Rows PyProof.V PySem.Spec
section
variable {prog : Program} {w : World} {K : Type} [DecidableEq K] {knd : HeapKind prog w K} {A : Around} {E : Value → Shared → Prop} {s : Shared}
end
end PySem.W
namespace L2
open PySem PySem.Spec PyProof.Rows
section
variable {X : Cx}
end
end L2
namespace Dl
open PySem PySem.Spec PyProof.Rows L2
section
variable {X : Cx} {a b : Expr} {ta tb : TX} {pos : Pos}
end
end Dl

/-! Dicts with any plain keys, locked: d.values() walked. -/
namespace L2
open PySem PySem.Spec PyProof.Rows
section
variable {X : Cx} {pins : List (Addr × Obj)} {σ : St} {H : Hp} {s : Shared} {a : Addr} {kb : List (NestedKey × Addr)} {vs : List V}
end
section
variable {X : Cx} {tg e : Expr} {td : TE} {apos cpos : Pos}
end
end L2
namespace Dl
open PySem PySem.Spec PyProof.Rows L2
section
variable {X : Cx} {e : Expr} {tx : TX} {apos cpos : Pos}
end
end Dl

/-! Trees that grow by things of one's own; tuples that end with one; len of a tree. -/
namespace Dl
open PySem PySem.Spec PyProof.Rows L2
/-- an answer as a tree: data, or a thing of one's own -/
def asOTx (x : S) (Q : OT → Prop) : Prop := match x with
  | .d y => Q (.dat y)
  | .o none R => asOT R Q
  | _ => False
theorem asOTx_d {y : PyData} {Q : OT → Prop} : asOTx (.d y) Q = Q (.dat y) := id rfl
theorem asOTx_o {R : Res} {Q : OT → Prop} : asOTx (.o none R) Q = asOT R Q := id rfl
section
variable {X : Cx} {pos : Pos} {e a : Expr} {es : List Expr}
/-! ### (a, b, .., own thing) -/
abbrev TAO := Ctx → (List PyData → S → Ctx → Prop) → Prop
def DAOv (K : PySem.W.Frag) (te : TA) (t : TAO) : Prop := ∀ (B : Base) (c : Ctx) (s : L2.St) (G H : Hp) (Q : List PyData → S → Ctx → Prop) (R : List V → Hp → Prop), Stt K B c s G H → t c Q →
  (∀ vs v xs x c' G' H', Stt K B (x :: c') (some v :: s) G' H' → Same G G' → DpAll K G' vs xs → Q xs x c' → R (vs ++ [v]) H') → te s H R
structure DAO (X : Cx) (es : List Expr) (t : TAO) : Prop where
  ex : ∃ te, PA X es te ∧ DAOv X.K te t
def aoLast (tx : TX) : TAO := fun c Q => tx c fun x c1 => Q [] x c1
def aoCons (te : TD) (t : TAO) : TAO := fun c Q => te c fun x c1 => t c1 fun xs y c2 => Q (x :: xs) y c2
theorem ao_last {tx : TX} (h : DX X e tx) (hs : starEach [e] X.env = (false, eval e X.env) :: starEach [] X.env := by rfl) : DAO X [e] (aoLast tx) := (by
  obtain ⟨te, p, v⟩ := h.ex
  exact ⟨_, pa_cons p pa_nil hs, fun B c s G H Q R st q k => v B c s G H _ _ st q fun u x c1 G1 H1 st1 e1 q1 => k [] u [] x c1 G1 H1 st1 e1 .nil q1⟩
  )
theorem ao_cons {te : TD} {t : TAO} (ha : DE X a te) (hr : DAO X es t) (hs : starEach (a :: es) X.env = (false, eval a X.env) :: starEach es X.env := by rfl) : DAO X (a :: es) (aoCons te t) := (by
  obtain ⟨tea, pa, va⟩ := ha.ex
  obtain ⟨ter, pr, vr⟩ := hr.ex
  refine ⟨_, pa_cons pa pr hs, fun B c s G H Q R st q k => va B c s G H _ _ st q fun v x c1 G1 H1 st1 e1 d1 q1 => ?_⟩
  exact vr B c1 s G1 H1 _ _ st1 q1 fun vs u xs y c2 G2 H2 st2 e2 d2 q2 => k (v :: vs) u (x :: xs) y c2 G2 H2 st2 (e1.trans e2) (.cons (dp_mono e2 _ _ d1) d2) q2
  )
def xTupL (t : TAO) : TX := fun c Q => t c fun xs x c1 => xs.length < sizeLine ∧ asOw x fun R => asOT R fun u => Q (.o none (.tr (.tup (xs.map .dat ++ [u])))) c1
theorem x_tupL {t : TAO} {k0 : Nat} (h : DAO X es t) : DX X (.Tuple es k0 pos) (xTupL t) := (by
  obtain ⟨te, p, v⟩ := h.ex
  refine ⟨_, pe_tup p, fun B c s G H Q R st q k => v B c s G H _ _ st q fun vs u xs x c1 G1 H1 st1 e1 d1 q1 => ?_⟩
  obtain ⟨hl, q1⟩ := q1
  obtain ⟨R0, rfl, q2⟩ := asOw_of q1
  obtain ⟨t0, q3, hot⟩ := asOT_of q2
  refine ⟨by rw [List.length_append, dpa_len d1]; exact hl, fun a ha => ?_⟩
  obtain ⟨st2, e2⟩ := st1.laid (o := .tup (vs ++ [u])) ha
  refine k _ _ _ _ _ (st2.top_re (R' := .tr (.tup (xs.map .dat ++ [t0]))) (v' := .ref a) fun A hR => .tup upd_same ?_) (e1.trans e2) q3
  have := ots_app (dats_ots (H := upd H1 a (.tup (vs ++ [u]))) (dpa_mono e2 _ _ d1)) (OwnTs.cons (hot hR) .nil)
  simpa using this
  )
/-- [] as a tree -/
def oTl0 : TR := fun c Q => Q (.tr (.lst [])) c
theorem o_tl0 : DO X (.List [] pos) oTl0 := (by
  obtain ⟨t, p, v⟩ := (o_lst (X := X) (pos := pos) a_nil).ex
  refine ⟨t, p, fun B c s G H Q R st q k => v B c s G H (fun r c1 => r = .lst [] ∧ c1 = c) R st ?_ fun u r c1 G1 H1 st1 e1 q1 => ?_⟩
  · simp [oLst, aNil]
  · obtain ⟨rfl, rfl⟩ := q1
    refine k u _ _ _ _ (st1.top_re (R' := .tr (.lst [])) (v' := u) fun A hR => ?_) e1 q
    obtain ⟨p0, vs, rfl, rfl, h1, h2⟩ := hR
    cases h2
    exact .lst h1 .nil
  )
/-- -1 -/
theorem k_neg {i : Int} {j0 p1} : DC X (.UnaryOp .USub (.Constant (.int i) j0 p1) pos) (kC (.int (-i))) := ⟨_, pe_un un_neg pe_int, fun _ c _ G H _ _ st h k => ⟨i, rfl, k _ _ G H (fun _ _ _ z => z) (Same.refl _) (Same.refl _) (.int _) h⟩⟩
/-! ### len(place) -/
variable {j : Nat} {tp : TPl} {p : Pos}
def uLenPl (tp : TPl) : TD := fun c Q => tp c fun _ T c' => asLs T fun ts => Q (.int ts.length) c'
theorem d_lenPl (hm : X.mg "len" = none) (ha : DPl X a j tp) (hg : Gl X "len" := by rfl) (he : starEach [a] X.env = (false, eval a X.env) :: starEach [] X.env := by rfl) (hpl : (backTo pos (starEach [] X.env)).any (·.1) = false := by rfl) : DE X (.Call (.Name "len" p) [a] [] pos) (uLenPl tp) := (by
  obtain ⟨tea, pa, va⟩ := ha.ex
  refine ⟨_, pe_callB call_len_seq hg hm boot_len (pa_cons pa pa_nil he) (by decide) (by decide) he hpl, fun B c s G H Q R st q k => va B c s G H _ _ st q fun c' G' H' w T root u π T' A A1 G0 H0 p e1 q1 => ?_⟩
  obtain ⟨ts, rfl, q2⟩ := asLs_of q1
  have own := p.here'
  cases own with
  | @lst a _ vs _ h1 h2 =>
    refine ⟨a, vs, rfl, .inl (SqL.of h1), ?_⟩
    have := ots_len h2
    rw [this]
    exact k _ _ c' G' H' p.un e1 (.int _) q2
  )
/-! ### place.append(anything) -/
variable {W : WX} {apos cpos : Pos}
def zPlAppY (j : Nat) (tp : TPl) (t : TXY) : TSY := fun EE E c => tp c fun π T' c' => asLs T' fun ts => slO c' j fun w R => asTr R fun T => ∀ root A H0, t (fun x fd c4 => c4[j]? = some (.o w (.gen (pinR root A H0))) ∧ EE x fd (c4.set j (.o w R))) (c'.set j (.o w (.gen (pinR root A H0)))) fun y c2 => c2[j]? = some (.o w (.gen (pinR root A H0))) ∧ ts.length < sizeLine ∧ asOTx y fun u => E.nx (c2.set j (.o w (.tr (T.upd (.lst (ts ++ [u])) π))))

theorem plapp_end {K : PySem.W.Frag} {B : Base} {s : L2.St} {c' c2 : Ctx} {G' H' G2 H2 : Hp} {w : Option Lt} {T : OT} {root v : V} {q0 : Addr} {π : List Nat} {ts : List OT} {vs : List V} {A As : List Addr} {G0 H0 : Hp} {x : S}
    (p : Plc K B s j c' G' H' w T root (.ref q0) π (.lst ts) A (q0 :: As) G0 H0) (h1 : H' q0 = some (.lst vs)) (h2 : OwnTs K G' H' ts vs As) (st2 : Stt K B (x :: c2) (some v :: s) G2 H2) (e2 : Same G' G2) (ep : c2[j]? = some (.o w (.gen (pinR root A H0))))
    {N : Ctx → Prop} (hN : asOTx x fun u => N (c2.set j (.o w (.tr (T.upd (.lst (ts ++ [u])) π))))) : H2 q0 = some (.lst vs) ∧ ∃ c3, Stt K B c3 s G2 (upd H2 q0 (.lst (vs ++ [v]))) ∧ N c3 := (by
  have ep' : (x :: c2)[j + 1]? = some (.o w (.gen (pinR root A H0))) := ep
  have same2 := (st2.unpin ep').2.1
  have kp : ∀ a ∈ q0 :: As, H2 a = H' a := fun a ha => (same2 a (p.foc.sub a ha)).trans (p.same a (p.foc.sub a ha)).symm
  have g2 : H2 q0 = some (.lst vs) := (kp q0 List.mem_cons_self).trans h1
  have h2' := ots_mono e2 _ _ _ h2 fun a ha => kp a (List.mem_cons_of_mem _ ha)
  obtain ⟨m1, m2⟩ := List.nodup_cons.mp p.foc.nd
  have h3 := ots_mono (H' := upd H2 q0 (.lst (vs ++ [v]))) (Same.refl _) _ _ _ h2' fun a ha => upd_ne fun z => m1 (z ▸ ha)
  have here : ∀ a ∈ q0 :: As, upd H2 q0 (.lst (vs ++ [v])) a ≠ none := fun a ha => by
    by_cases hq : a = q0
    · rw [hq, upd_same]; exact fun z => nomatch z
    · rw [upd_ne hq, kp a ha]
      exact p.here a (p.foc.sub a ha)
  refine ⟨g2, ?_⟩
  cases x with
  | no => exact hN.elim
  | f F => exact hN.elim
  | d y =>
    obtain ⟨st3, d2⟩ := st2.top_d
    rw [asOTx_d] at hN
    refine ⟨_, p.put (t' := .lst (ts ++ [.dat y])) (A1' := q0 :: As) st3 ep e2 (fun a ha => upd_ne fun z => ha (z ▸ List.mem_cons_self)) (fun a ha => .inl ha) here p.foc.nd ?_, hN⟩
    have h4 := ots_app h3 (OwnTs.cons (A := []) (.dat d2) .nil)
    rw [List.append_nil] at h4
    exact .lst upd_same (by simpa using h4)
  | o wo R =>
    cases wo with
    | some _ => exact hN.elim
    | none =>
      rw [asOTx_o] at hN
      obtain ⟨u, hN, hot⟩ := asOT_of hN
      obtain ⟨At, ht, nd, sm, wr⟩ := p.put2 st2 ep e2
      obtain ⟨n1, n2, n3⟩ := List.nodup_append.mp nd
      have hu := hot ht
      have nq : ∀ a ∈ At, a ≠ q0 := fun a ha z => n3 q0 (p.foc.sub q0 List.mem_cons_self) a ha z.symm
      have hu' := ot_mono (H' := upd H2 q0 (.lst (vs ++ [v]))) (Same.refl _) _ _ _ hu fun a ha => upd_ne (nq a ha)
      refine ⟨_, wr (H3 := upd H2 q0 (.lst (vs ++ [v]))) (t' := .lst (ts ++ [u])) (A1' := (q0 :: As) ++ At) (fun a ha => upd_ne fun z => ha (z ▸ List.mem_cons_self)) (fun a ha => ?_) (fun a ha => ?_) ?_ ?_, hN⟩
      · rcases List.mem_append.mp ha with z | z
        · exact .inl z
        · exact .inr (.inl z)
      · rcases List.mem_append.mp ha with z | z
        · exact here a z
        · obtain ⟨o, h, _⟩ := ot_here _ _ _ hu' a z
          rw [h]; exact fun z => nomatch z
      · refine List.nodup_append.mpr ⟨p.foc.nd, n2, fun a ha b hb e => n3 a (p.foc.sub a ha) b hb e⟩
      · have h4 := ots_app h3 (OwnTs.cons hu' .nil)
        refine .lst upd_same ?_
        simpa using h4
  )
theorem sy_plapp {txy : TXY} (hp : DPl X e j tp) (ha : DXY X W a txy) (hbase : attributeBase e "append" X.env (eval e X.env) = eval e X.env := by rfl)
    (hfew : ((backTo cpos (starEach [a] X.env)).all (fun x => !x.1) && (backToKw cpos (keywordEach [] X.env)).all (fun x => x.1.isSome)
      && decide ([a].length + ([] : List Keyword).length + (if ([] : List Keyword).isEmpty then 0 else 1) < 30)) = true := by rfl)
    (hline : (apos.endLine == cpos.line) = true := by rfl) (hs : starEach [a] X.env = (false, eval a X.env) :: starEach [] X.env := by rfl) (hplain : (backTo cpos (starEach [] X.env)).any (·.1) = false := by rfl)
    (hsw : swapsWith (.Call (.Attribute e "append" apos) [a] [] cpos) none pos.line X.env = pure false := by rfl) : DSY X W (.Expr (.Call (.Attribute e "append" apos) [a] [] cpos) pos) (zPlAppY j tp txy) := (by
  obtain ⟨tep, pp, vp⟩ := hp.ex
  obtain ⟨tea, pa, va⟩ := ha.ex
  refine ⟨_, ps_expr (pe_bm F.plainAttrs_list F.slot_list_append F.type_list_append mt_append pp (pa_cons pa pa_nil hs) hbase hfew hline hs hplain) hsw, fun B c s G H D E EE st k l q => vp B c s G H _ _ st q fun c' G' H' w T root u π T' A A1 G0 H0 p e1 q1 => ?_⟩
  obtain ⟨ts, rfl, q1⟩ := asLs_of q1
  obtain ⟨w', R', e0, q1⟩ := slO_of q1
  have es := p.slot
  rw [e0] at es
  cases es
  have own := p.here'
  cases own with
  | @lst q0 _ vs As h1 h2 =>
    refine ⟨.inl ⟨rfl, _, SqL.of h1⟩, va B _ s G' H' _ _ _ p.st (Lnk.imp (l.mono e1) fun x fd c4 s4 G4 H4 st4 e4 q4 => ?_) (q1 root A H0) fun v x c2 G2 H2 st2 e2 q2 => ?_⟩
    · obtain ⟨st5, _⟩ := p.free st4 q4.1 e4
      exact ⟨_, st5, q4.2⟩
    · obtain ⟨ep, hl, q2⟩ := q2
      obtain ⟨g2, c3, st3, n3⟩ := plapp_end p h1 h2 st2 e2 ep q2
      exact ⟨q0, vs, v, rfl, rfl, g2, by rw [ots_len h2]; exact hl, k.nx _ _ _ _ st3 (e1.trans e2) n3⟩
  )
/-- .. where nothing is raised -/
def zPlAppX (j : Nat) (tp : TPl) (t : TX) : TSd := fun E c => tp c fun π T' c' => asLs T' fun ts => slO c' j fun w R => asTr R fun T => ∀ root A H0, t (c'.set j (.o w (.gen (pinR root A H0)))) fun y c2 => c2[j]? = some (.o w (.gen (pinR root A H0))) ∧ ts.length < sizeLine ∧ asOTx y fun u => E.nx (c2.set j (.o w (.tr (T.upd (.lst (ts ++ [u])) π))))
theorem s_plappX {tx : TX} (hp : DPl X e j tp) (ha : DX X a tx) (hbase : attributeBase e "append" X.env (eval e X.env) = eval e X.env := by rfl)
    (hfew : ((backTo cpos (starEach [a] X.env)).all (fun x => !x.1) && (backToKw cpos (keywordEach [] X.env)).all (fun x => x.1.isSome)
      && decide ([a].length + ([] : List Keyword).length + (if ([] : List Keyword).isEmpty then 0 else 1) < 30)) = true := by rfl)
    (hline : (apos.endLine == cpos.line) = true := by rfl) (hs : starEach [a] X.env = (false, eval a X.env) :: starEach [] X.env := by rfl) (hplain : (backTo cpos (starEach [] X.env)).any (·.1) = false := by rfl)
    (hsw : swapsWith (.Call (.Attribute e "append" apos) [a] [] cpos) none pos.line X.env = pure false := by rfl) : DS X (.Expr (.Call (.Attribute e "append" apos) [a] [] cpos) pos) (zPlAppX j tp tx) := (by
  obtain ⟨tep, pp, vp⟩ := hp.ex
  obtain ⟨tea, pa, va⟩ := ha.ex
  refine ⟨_, ps_expr (pe_bm F.plainAttrs_list F.slot_list_append F.type_list_append mt_append pp (pa_cons pa pa_nil hs) hbase hfew hline hs hplain) hsw, fun B c s G H D E st k q => vp B c s G H _ _ st q fun c' G' H' w T root u π T' A A1 G0 H0 p e1 q1 => ?_⟩
  obtain ⟨ts, rfl, q1⟩ := asLs_of q1
  obtain ⟨w', R', e0, q1⟩ := slO_of q1
  have es := p.slot
  rw [e0] at es
  cases es
  have own := p.here'
  cases own with
  | @lst q0 _ vs As h1 h2 =>
    refine ⟨.inl ⟨rfl, _, SqL.of h1⟩, va B _ s G' H' _ _ p.st (q1 root A H0) fun v x c2 G2 H2 st2 e2 q2 => ?_⟩
    obtain ⟨ep, hl, q2⟩ := q2
    obtain ⟨g2, c3, st3, n3⟩ := plapp_end p h1 h2 st2 e2 ep q2
    exact ⟨q0, vs, v, rfl, rfl, g2, by rw [ots_len h2]; exact hl, k.nx _ _ _ _ st3 (e1.trans e2) n3⟩
  )
end
end Dl

/-! The exception in hand given to a def of the text. -/
namespace L2
open PySem PySem.Spec PyProof.Rows L2H
/-- what a def promises that is given the exception in hand: its address, class and dict -/
structure FnE (P : Program) (w : World) (K : PySem.W.Frag) (mg : Str → Option Value) (base : Heap) (k : Nat) (f : Addr) (fd : FuncData) (ps : List Str) (sp : Addr → Value → Option Addr → Sp) : Prop where
  len : ∀ a cls d vs H Q E, sp a cls d vs H Q E → vs.length = ps.length
  run : ∀ (A : Around) (outer : List Env) (s : Shared) (H : Hp) (args : Args) (us : List Value) (vs : List V) (Q : VK) (E : XK) (p : Addr × Obj) (cls : Value) (d : Option Addr), RoomH k A → PinOk outer H s p → Zc cls d p.2 → (∃ zs, p.2.data = .fields zs) → Env0 P w K mg base A outer s H → BindsTo s fd args (ps.zip us) → Vals vs us → sp p.1 cls d vs H Q E →
    codeAny (model P w) A (.call (.ref f) args) (CR CX0 outer P w H s Q E) s
section
variable {X : Cx} {k : Nat} {f a : Addr} {fd : FuncData} {ps : List Str} {sp : Addr → Value → Option Addr → Sp} {oe : Obj} {pn pins : List (Addr × Obj)} {σ : St} {H : Hp} {s : Shared} {Q : VK} {us : List Value} {vs : List V} {x : Str} {e : Expr} {ta : TA} {pos p : Pos} {cls : Value} {d : Option Addr}
/-! ### isinstance(e, C), e the exception that was given -/
end
end L2
namespace Dl
open PySem PySem.Spec PyProof.Rows L2 L2H
/-- a table: for each class what isinstance tells -/
structure IsTab (K : PySem.W.Frag) (cv : Value) (tab : List (Str × Bool)) : Prop where
  each : ∀ q ∈ tab, ExcC K (He.ga K q.1) ∧ PySem.W.kitOne K (.ref (He.ga K q.1)) cv = some q.2
abbrev TFE := Str → Addr → Option Addr → TF
def SpE (K : PySem.W.Frag) (T : TFE) : Addr → Value → Option Addr → Sp := fun a cls d vs H Q E => ∃ y, cls = .ref (He.ga K y) ∧ SpD K (T y a d) vs H Q E
/-- a def of the text that is given the exception in hand -/
structure CalE (P : Program) (w : World) (K : PySem.W.Frag) (mg : Str → Option Value) (base : Heap) (x : Str) (k : Nat) (ps : List Str) (T : TFE) : Prop where
  ex : ∃ f fd, FnE P w K mg base k f fd ps (SpE K T) ∧ mg x = some (.ref f) ∧ PySem.W.keepIn K (.ref f) = true ∧ Binds K fd ps []
section
variable {X : Cx} {pos p p1 : Pos} {n x y : Str} {k : Nat} {ps : List Str} {T : TFE} {a : Addr} {d : Option Addr} {oe : Obj} {pn : List (Addr × Obj)}
end
end Dl

/-! list(range(a, b)). -/
namespace Dl
open PySem PySem.Spec PyProof.Rows L2
section
variable {X : Cx} {pos : Pos} {a b : Expr} {p : Pos} {ta tb : TD}
end
end Dl

/-! List comprehensions whose element may raise. -/
namespace L2
open PySem PySem.Spec PyProof.Rows
/-- what a call in a comprehension's block let out -/
def OutB (Y : Cx) (W : XK) (u : Value) (s' : Shared) : Prop := ∃ (ps : List (Addr × Obj)) (σ : St) (H : Hp) (s : Shared), Inv Y ps σ H s ∧ CX Y.prog Y.w Y.stack H s W u s'
section
variable {X : Cx} {pins : List (Addr × Obj)} {σ0 : St} {H3 : Hp} {s3 : Shared} {scope : Scope} {ce : Env} {fp : List Addr} {W : XK} {W' : WX}
/-- held by the def's own frame, the block's names let go: it is in the def's air -/
theorem held_air {C : Addr} (I3 : Inv X pins σ0 H3 s3) (hC : C = s3.heap.objs.size) (hs : X.stack = X.env :: X.outer) {pb : List (Addr × Obj)} {σb : St} {H H' : Hp} {s s' : Shared} {B : Heap} {a : Addr} {cls : Value} {d : Option Addr}
    (hfp : ∀ b ∈ fp, FpOk X pins H3 b) (hce : ce.locals = C) (I : Inv (X.blk s3 H3 scope ce fp) pb σb H s) (hok : HOk X.prog X.w H' B) (ub : UB (frs X.stack) H H' s.heap B s'.heap) (hCn : H' C = none)
    (na : H' a = none) (os : s'.os = s.os) (ag : AllBare s'.gens) (hW : W' cls d σ0 H') {h3 : Heap} (held : HandSPX.HeldZ (PySem.W.hideAll B [C]) X.stack a (Zc cls d) X.env.locals h3) (up : s'.heap.UpToSlots h3) :
    XE X W' (.ref a) { s' with heap := h3 } := (by
  have inB : ∀ {b o}, b ≠ C → B.get? b = some o → (PySem.W.hideAll B [C]).get? b = some o := fun {b o} hb e => PySem.W.hideAll_get _ e (by simpa using hb)
  have old : ∀ {b o}, s3.heap.get? b = some o → b ≠ C := fun {b o} e z => by
    have := Heap.lt_size e
    rw [z, hC] at this
    exact Nat.lt_irrefl _ this
  obtain ⟨G, g1, g2⟩ := restrict h3 fun b => ((PySem.W.hideAll B [C]).get? b).isSome || decide (b ∈ frs X.stack)
  have stay := held.1
  have gB : ∀ b o, (PySem.W.hideAll B [C]).get? b = some o → G.get? b = some o := fun b o e => by
    rw [g1 b (by simp [e])]
    exact stay b o e
  have gF : ∀ b, b ∈ frs X.stack → G.get? b = h3.get? b := fun b hb => g1 b (by simp [hb])
  have og : ∀ b o, G.get? b = some o → h3.get? b = some o ∧ (((PySem.W.hideAll B [C]).get? b).isSome = true ∨ b ∈ frs X.stack) := fun b o e => by
    cases q : (((PySem.W.hideAll B [C]).get? b).isSome || decide (b ∈ frs X.stack)) with
    | false => rw [g2 b q] at e; cases e
    | true =>
      rw [g1 b q] at e
      exact ⟨e, by simpa [Bool.or_eq_true] using q⟩
  have hokB : HOk X.prog X.w H' (PySem.W.hideAll B [C]) := fun b o q => (hok b o q).stay (fun c u hc r => inB (fun z => by
    rcases hc with hc | hc
    · rw [hc] at z; rw [z, hCn] at q; cases q
    · rw [z, hCn] at hc; cases hc) r) (fun _ r => r) fun _ _ r => r
  have bk := I.base
  have frame : ∀ {b o}, s3.heap.get? b = some o → H3 b = none → b ∈ frs X.stack → b ∉ fp → ∃ sl, G.get? b = some { o with slots := sl } := fun {b o} e n hb hf => by
    obtain ⟨sl, q⟩ := bk.slot b o e n hb hf
    obtain ⟨sl2, q2⟩ := ub.slot b _ q hb
    obtain ⟨_, o', e', hd⟩ := I3.stack.mem hb
    rw [e] at e'
    cases e'
    obtain ⟨sl3, q3⟩ := up b _ q2 hd
    exact ⟨sl3, by rw [gF b hb]; exact q3⟩
  have un : Un (frs X.stack) fp H3 H' s3.heap G := by
    refine ⟨fun b o e n hb hf => gB b o (inB (old e) (ub.keep b o (bk.keep b o e n hb hf) (bk.free b o e n hf) hb)), fun b o e n hb hf => frame e n hb hf, fun b o e n hf => ?_, fun b o e hf => ?_, fun b xs e => ub.tups b xs (bk.tups b xs e), fun b o u e => ub.frzs b o u (bk.frzs b o u e), fun b ps e => ?_⟩
    · obtain ⟨o', e'⟩ := bk.there b o e hf
      exact ub.free b o' e' (bk.free b o e n hf)
    · by_cases hb : b ∈ frs X.stack
      · obtain ⟨o', e'⟩ := bk.there b o e hf
        obtain ⟨sl, q⟩ := ub.slot b o' e' hb
        have nC : b ≠ C := old e
        obtain ⟨_, o2, e2, hd⟩ := I3.stack.mem hb
        rw [e] at e2
        cases e2
        have hn : H3 b = none := I3.stkFree b hb
        obtain ⟨sl2, q2⟩ := frame e hn hb hf
        exact ⟨_, q2⟩
      · obtain ⟨o', e'⟩ := bk.there b o e hf
        obtain ⟨o2, e2⟩ := ub.there b o' e' hb
        exact ⟨o2, gB b o2 (inB (old e) e2)⟩
    · obtain ⟨m1, q1⟩ := bk.tbls b ps e
      obtain ⟨m2, q2⟩ := ub.tbls b _ q1
      exact ⟨m1 ++ m2, by rw [q2, Array.append_assoc]⟩
  refine ⟨a, PySem.W.hideAll B [C], { s' with heap := G }, pins, σ0, H', cls, d, rfl, ?_, fun b o e hb => ?_, Heap.UpToSlots.of_keeps fun b o e => (og b o e).1, .inr (.inr held), na, rfl, ag, hW⟩
  · exact I3.call' (ch := fp) (os.trans I.os) un (hokB.kept gB) ag fun b hb => let z := hfp b hb; ⟨z.2.2.2.1, z.2.1, z.2.2.2.2.1, z.2.2.2.2.2⟩
  · obtain ⟨e', h⟩ := og b o e
    rcases h with h | h
    · obtain ⟨o', q⟩ := Option.isSome_iff_exists.mp h
      have z := stay b o' q
      rw [e'] at z
      cases z
      exact q
    · exact absurd h hb
  )
/-- an exception out of a call in the element goes on from the def's own frame -/
theorem out_goes (I3 : Inv X pins σ0 H3 s3) (hs : X.stack = X.env :: X.outer) (hf : X.env.frame = some X.env.locals) (hce : ce.locals = s3.heap.objs.size) (hfr : ce.frame = X.env.frame)
    (hfp : ∀ b ∈ fp, FpOk X pins H3 b) (tk : Takes X W') (hW : ∀ cls d σ H, W cls d H → W' cls d σ H) {u : Value} {s' : Shared} (h : OutB (X.blk s3 H3 scope ce fp) W u s') :
    notedBy (model X.prog X.w) X.A ce (CompFails (model X.prog X.w) X.A X.xe ce) u s' := (by
  obtain ⟨pb, σb, H, s, I, a, B, H', cls, d, rfl, fl, hok, ub, na, os, ag, hE⟩ := h
  obtain ⟨C, hC⟩ : ∃ C, C = s3.heap.objs.size := ⟨_, rfl⟩
  have hceC : ce.locals = C := hce.trans hC.symm
  have hfrA : X.A.frames = some (X.env :: X.outer) := by rw [I3.ok.frames, hs]
  have fB : ∀ {b o}, (PySem.W.hideAll B [C]).get? b = some o → B.get? b = some o := fun {b o} e => PySem.W.of_hideAll _ e
  have noB : ∀ {b}, B.get? b = none → (PySem.W.hideAll B [C]).get? b = none := fun {b} e => by
    cases q : (PySem.W.hideAll B [C]).get? b with
    | none => rfl
    | some o => rw [fB q] at e; cases e
  have noC : (PySem.W.hideAll B [C]).get? C = none := PySem.W.hideAll_none _ (by simp)
  -- the block's names
  obtain ⟨m, hn, _⟩ := I.loc
  have hn : s.heap.Ns ce.locals m := hn
  rw [hceC] at hn
  obtain ⟨oC, es, ep, hoC, hdC, rC⟩ := hn
  have hHC : H C = none := by
    have z : H ce.locals = none := I.free
    rw [hceC] at z
    exact z
  have nfr : C ∉ frs X.stack := fun hm => by
    obtain ⟨_, o, e, _⟩ := I3.stack.mem hm
    have := Heap.lt_size e
    rw [hC] at this
    exact Nat.lt_irrefl _ this
  have hCn : H' C = none := ub.free C oC hoC hHC
  have s'C : s'.heap.get? C = some oC := fl.1 C oC (ub.keep C oC hoC hHC nfr)
  have fl' : HandSPX.FlyingZ (PySem.W.hideAll B [C]) (X.env :: X.outer) a (Zc cls d) s'.heap := by
    obtain ⟨f1, f2, f3, oe, vs, T, oT, ts, he, hz, hd, h1, hnT, r⟩ := fl
    have f3 : s'.heap.FunFrames B X.stack := f3
    refine ⟨fun b o e => f1 b o (fB e), noB f2, ?_, oe, vs, T, oT, ts, he, hz, hd, h1, noB hnT, r⟩
    rw [← hs]
    exact funFrames_none f3 fun L hL => noB (f3.mem hL).1
  show wpAny _ _ (noteFrame (.ref a) ce) _ _ s'
  rw [noteFrame_env _ hfr]
  refine HandSPX.looks_onZ Zc.steady hfrA hf fl' fun h1 held up1 => ?_
  have ns' : s'.heap.Ns C m := ⟨oC, es, ep, s'C, hdC, rC⟩
  have ns1 : h1.Ns ce.locals m := by
    rw [hceC]
    exact up1.ns ns'
  refine ⟨m, ns1, fun h2 m2 hn2 sb => ?_⟩
  rw [hceC] at hn2 sb ns1
  have held2 : HandSPX.HeldZ (PySem.W.hideAll B [C]) (X.env :: X.outer) a (Zc cls d) X.env.locals h2 := by
    obtain ⟨f1, f2, f3, oe, vs, T, oT, ts, he, hz, hd, h1', hnT, hTe, hT, hdT, r⟩ := held
    obtain ⟨oC1, es1, ep1, q1, q2, _⟩ := ns1
    have aC : a ≠ C := fun z => by rw [z, q1] at he; cases he; rw [q2] at hd; cases hd
    have TC : T ≠ C := fun z => by rw [z, q1] at hT; cases hT; rw [q2] at hdT; cases hdT
    exact ⟨fun b o e => (sb.2 b fun z => by rw [z, noC] at e; cases e).trans (f1 b o e), f2, Heap.FunFrames.sameBut sb hn2 f3, oe, vs, T, oT, ts, (sb.2 a aC).trans he, hz, hd, h1', hnT, hTe, (sb.2 T TC).trans hT, hdT, r⟩
  have z2 := held2
  obtain ⟨_, _, _, oe, vs, T, oT, ts, he, hz, hd, hv1, r⟩ := z2
  unfold PySem.passOn
  refine wpAny_bind (wpAny_field he hd hv1 ?_)
  rw [if_neg (show ¬ ((Value.ref T == Value.none) = true) from by simp), hfr, hf]
  refine wpAny_bind (HandSPX.setFlight_onZ (l := X.env :: X.outer) (s := { s' with heap := h2 }) held2 fun h3 held3 up3 => wpAny_throw (tk _ _ ?_))
  refine held_air (h3 := h3) (s' := { s' with heap := h2 }) (C := C) I3 hC hs hfp hceC I hok ⟨ub.keep, fun b o e hb => ?_, ub.free, ub.there, ub.tups, ub.frzs, ub.tbls⟩ hCn na os ag (hW _ _ _ _ hE) (by rw [hs]; exact held3) up3
  obtain ⟨sl, q⟩ := ub.slot b o e hb
  have bC : b ≠ C := fun z => nfr (z ▸ hb)
  obtain ⟨_, o2, e2, hd2⟩ := I.stack.mem hb
  rw [e] at e2
  cases e2
  obtain ⟨sl2, q2⟩ := up1 b _ q hd2
  exact ⟨sl2, (sb.2 b bC).trans q2⟩
  )
end
/-- a block whose calls may raise -/
abbrev Cx.blkE (X : Cx) (s : Shared) (H : Hp) (scope : Scope) (cenv : Env) (fp : List Addr) (W : XK) : Cx := (X.blk s H scope cenv fp).wish (OutB (X.blk s H scope cenv fp) W)
section
variable {X : Cx} {W : XK} {W' : WX} {elt tg iter : Expr} {scope : Scope} {own : List (Str × Nat)} {pos : Pos} {wi : TI} {g : TG} {te : TE}
/-- [elt for target in iter], the element a call that may raise -/
theorem pe_lcE (hs : X.stack = X.env :: X.outer) (hf : X.env.frame = some X.env.locals) (tk : Takes X W') (hW : ∀ cls d σ H, W cls d H → W' cls d σ H) (hc : X.calm = true) (hN : X.N.Nodup) (hi : PI X tg iter wi) (ok : BlkOk X.N X.env.scope scope own)
    (hg : ∀ (s : Shared) (H : Hp) (C : Addr) (cl : List (Str × Addr)) (fp : List Addr), PG (X.blk s H scope (compEnvC scope cl C X.env) fp) tg g)
    (he : ∀ (s : Shared) (H : Hp) (C : Addr) (cl : List (Str × Addr)) (fp : List Addr), PE (X.blkE s H scope (compEnvC scope cl C X.env) fp W) elt te) (hfold : ∀ x, foldedSetIterable iter X.env x = pure x := by intro _; rfl) :
    PE X (.ListComp elt [⟨tg, iter, [], 0⟩] scope pos) (tLc wi g tYes te (own.map (·.2))) := (by
  refine ⟨fun pins s σ H Q I h => ?_⟩
  rw [eval_ListComp]
  refine comprehension_at (use := none) rfl hfold (closure_ok fun y hy e => (ok.free y hy e).elim (fun k => I.ok.has _ (.inl k)) fun k => I.ok.has _ (.inr k)) ok.kind (fun y hy e => (ok.uniq y hy).trans (congrArg some e)) ?_
  refine thn (hi.run pins s σ H _ I h) fun xv sx hx => thn hx fun itv si hit => ?_
  obtain ⟨it, fp, tn, J, Hi, rfl, Ii, T, sti, ffi, q⟩ := hit
  refine wpAny_newObj_type (newEnv_comp ?_) (by show 0 ≤ sizeLine; decide)
  obtain ⟨D, hD⟩ : ∃ D, D = si.heap.objs.size := ⟨_, rfl⟩
  rw [← hD]
  obtain ⟨Wn, ⟨m0, w0⟩, turn⟩ := q D (Ii.hok.fresh (Nat.le_of_eq hD.symm))
  obtain ⟨sl, hsl⟩ : ∃ sl : Shared, sl = { si with heap := si.heap.push { cls := .type "list", data := .seq ([] : List Value).toArray } } := ⟨_, rfl⟩
  have hslh : sl.heap = si.heap.push { cls := .type "list", data := .seq ([] : List Value).toArray } := by rw [hsl]
  have Il : Inv X pins σ (upd Hi D (.lst [])) sl := by
    rw [hsl]
    refine Ii.laid (t' := si.toks) (fun b o e => Heap.get?_push_of_some _ e) (Nat.le_of_eq hD.symm) ⟨Nat.zero_le _, [], 0, .nil, ?_⟩
    rw [hD]
    exact Heap.get?_push_size _ rfl
  have before : ∀ b ∈ fp, b < si.heap.objs.size := fun b hb => let ⟨_, e, _⟩ := T.obj _ _ sti b hb; Heap.lt_size e
  have ffl : ∀ b ∈ fp, FpOk X pins (upd Hi D (.lst [])) b ∧ b < sl.heap.objs.size := fun b hb => by
    have lt := before b hb
    refine ⟨⟨?_, (ffi b hb).2⟩, by rw [hslh, Heap.size_push]; exact Nat.lt_succ_of_lt lt⟩
    rw [upd_ne (by rw [hD]; exact Nat.ne_of_lt lt)]
    exact (ffi b hb).1
  have stl : tn 0 sl.heap := T.keep _ _ _ sti fun b _ o e => by rw [hslh]; exact Heap.get?_push_of_some _ e
  have Ib := block_start Il ok hN ffl
  rw [← hsl]
  obtain ⟨ce, hce⟩ : ∃ ce, ce = compEnvC scope (cellsFrom (sl.heap.objs.size + 1) scope.names (cloFrom X.env.cells scope.names [])) sl.heap.objs.size X.env := ⟨_, rfl⟩
  have pgB := hg sl (upd Hi D (.lst [])) sl.heap.objs.size (cellsFrom (sl.heap.objs.size + 1) scope.names (cloFrom X.env.cells scope.names [])) fp
  have peB := he sl (upd Hi D (.lst [])) sl.heap.objs.size (cellsFrom (sl.heap.objs.size + 1) scope.names (cloFrom X.env.cells scope.names [])) fp
  show codeAny _ _ (.compStart _ 0 (.ref it) (.ref D) (compEnvC scope (cellsFrom (sl.heap.objs.size + 1) scope.names (cloFrom X.env.cells scope.names [])) sl.heap.objs.size X.env)) (compEnds (model X.prog X.w) X.A X.xe none (EP X pins σ Q) (.ref D) (compEnvC scope (cellsFrom (sl.heap.objs.size + 1) scope.names (cloFrom X.env.cells scope.names [])) sl.heap.objs.size X.env)) { sl with heap := pushCells (sl.heap.push { cls := .type "dict", data := .dict #[] }) scope.names }
  rw [← hce] at Ib pgB peB ⊢
  have ceL : ce.locals = sl.heap.objs.size := by rw [hce]; rfl
  have ceF : ce.frame = X.env.frame := by rw [hce]; rfl
  obtain ⟨HB, hHB⟩ : ∃ HB, HB = upd Hi D (.lst []) := ⟨_, rfl⟩
  rw [← hHB] at Il Ib pgB peB w0 ffl
  obtain ⟨sb, hsb⟩ : ∃ sb : Shared, sb = { sl with heap := pushCells (sl.heap.push { cls := .type "dict", data := .dict #[] }) scope.names } := ⟨_, rfl⟩
  rw [← hsb] at Ib ⊢
  have stb : tn 0 sb.heap := T.keep _ _ _ stl fun b _ o e => by rw [hsb]; exact pushCells_keeps _ _ _ _ (Heap.get?_push_of_some _ e)
  have quiet : ∀ {σ' : St} {H' : Hp} {s' : Shared}, Inv (X.blk sl HB scope ce fp) [] σ' H' s' → (∀ b ∈ fp, H' b = none) → ∀ b ∈ fp, FpOk (X.blk sl HB scope ce fp) [] H' b := fun {σ' H' s'} I' hn b hb =>
    ⟨hn b hb, (I'.ok.exf b hb).1, I'.ok.exfs b hb, .inl hb, fun x c e => (I'.ok.exf b hb).2 x c e, fun p hp => absurd (show p ∈ ([] : List (Addr × Obj)) ++ [] from hp) (by simp)⟩
  have raised : ∀ {u s'}, OutB (X.blk sl HB scope ce fp) W u s' → notedBy (model X.prog X.w) X.A ce (fun e s' => compEnds (model X.prog X.w) X.A X.xe none (EP X pins σ Q) (.ref D) ce (.error e) s') u s' := fun {u s'} o => out_goes Il hs hf ceL ceF (fun b hb => (ffl b hb).1) tk hW o
  have loop : codeAny (model X.prog X.w) X.A (.compLoop (.ListComp elt [⟨tg, iter, [], 0⟩] scope pos) 0 (.ref it) (.ref D) ce) (compEnds (model X.prog X.w) X.A X.xe none (EP X pins σ Q) (.ref D) ce) sb := by
    refine compLoop_any (fun n st => ∃ i Hn, Inv (X.blk sl HB scope ce fp) [] (wipe σ (own.map (·.2))) Hn st ∧ tn i st.heap ∧ (∀ b ∈ fp, Hn b = none) ∧ Wn i n Hn) ?_ m0 ⟨0, HB, Ib, stb, fun b hb => (ffl b hb).1.1, w0⟩
    rintro n st1 ⟨i, H1, I1, tn1, nf1, w1⟩
    rcases turn i n H1 w1 with ⟨stop, qq⟩ | ⟨go, Nx, hNx, step⟩
    · refine thnF (T.done (X.blk sl HB scope ce fp) rfl rfl rfl hc i [] st1 _ H1 (fun _ _ => False) I1 (quiet I1 nf1) tn1 stop) fun r st2 ⟨hr, I2⟩ => ?_
      subst hr
      have Id : Inv X pins σ H1 st2 := Il.call' (ch := fp) I2.os I2.base I2.hok I2.bare fun b hb => let z := (ffl b hb).1; ⟨z.2.2.2.1, z.2.1, z.2.2.2.2.1, z.2.2.2.2.2⟩
      have free : H1 sl.heap.objs.size = none := by
        have z : H1 ce.locals = none := I2.free
        rw [ceL] at z
        exact z
      obtain ⟨m, hm, _⟩ := I2.loc
      have hm : st2.heap.Ns ce.locals m := hm
      obtain ⟨f0, f1, f2, f3, f4, f5⟩ := Il.fpOk (Nat.le_refl _) free
      refine ⟨m, hm, fun h'' but => ⟨.ref D, H1, ?_, rfl, qq⟩⟩
      rw [ceL] at but
      exact Id.turned (t' := st2.toks) (fun b o hb e => (but.2 b hb).trans e) f0 f1 f3 f4 f5
    · refine thnF (T.item (X.blk sl HB scope ce fp) rfl rfl rfl hc i [] st1 _ H1 (fun _ _ => False) I1 (quiet I1 nf1) tn1 go) fun r st2 ⟨u, hr, h2⟩ => ?_
      subst hr
      refine thnF h2 fun _ st3 ⟨x, H2, I2, rx, yx, tn2, nf2⟩ => ?_
      have Ip := I2.pinned (quiet I2 nf2) (T.obj _ _ tn2)
      refine thnF (pgB.run _ st3 _ H2 x u _ Ip rx (step x H2 yx)) fun _ st4 ⟨σ4, H4, I4, wp4, q4⟩ => ?_
      refine wpAny_tests_nil ?_
      show wpAny _ _ _ _ _ _
      have fin : ∀ {s' : Shared} {H' : Hp}, Inv (X.blk sl HB scope ce fp) ([] ++ pinsAt fp st3.heap) σ4 H' s' → Nx H' → ∃ m, m < n ∧ ∃ i H', Inv (X.blk sl HB scope ce fp) [] (wipe σ (own.map (·.2))) H' s' ∧ tn i s'.heap ∧ (∀ b ∈ fp, H' b = none) ∧ Wn i m H' := fun {s' H'} I' nx => by
        obtain ⟨m', hm, w'⟩ := hNx H' nx
        have still : ∀ b ∈ fp, ∀ o, st3.heap.get? b = some o → s'.heap.get? b = some o ∧ H' b = none := fun b hb o e =>
          let z := I'.pin (b, o) (List.mem_append_right _ (List.mem_append_right _ (mem_pinsAt hb e)))
          ⟨z.1, z.2.1⟩
        refine ⟨m', hm, i + 1, H', (I'.unpinned (pins := [])).weak (by rw [← wp4, wipe_length]) (fun j v e => ?_), T.keep _ _ _ tn2 fun b hb o e => (still b hb o e).1, fun b hb => ?_, w'⟩
        · rw [← wp4] at e
          exact (wipe_some e).1
        · obtain ⟨o, e, _⟩ := T.obj _ _ tn2 b hb
          exact (still b hb o e).2
      refine wpAny_mono (peB.run _ st4 σ4 H4 _ (I4.wish _) q4) (fun z st5 ⟨yv, H5, I5, ry, acc, hDa, hz, nx⟩ => ?_) fun e s' o => raised o
      exact app_ok (X := X.blk sl HB scope ce fp) I5.unwish hDa hz ry fun st6 I6 => fin I6 nx
  exact codeAny_compStart_list loop (T.self X.A 0 _ _ _ stb loop)
  )
end
end L2
namespace Dl
open PySem PySem.Spec PyProof.Rows L2
/-- an expression that may raise, as a reading -/
def rdY (K : PySem.W.Frag) (E : XK) (t : TDY) : TE := fun σ H Q => ∃ (B : Base) (c : Ctx) (G : Hp) (Q' : PyData → Ctx → Prop) (EE : EEt), Stt K B c σ G H ∧ Lnk K (fun cls d _ H => E cls d H) B G EE ∧ t EE c Q' ∧ ∀ v x c' G' H', Stt K B c' σ G' H' → Same G G' → Dp K G' v x → Q' x c' → Q v H'
theorem DEY.pe {X : Cx} {E : XK} {e : Expr} {t : TDY} (h : DEY X (fun cls d _ H => E cls d H) e t) : PE X e (rdY X.K E t) := (by
  obtain ⟨te, p, v⟩ := h.ex
  exact ⟨fun pins s σ H Q I ⟨B, c, G, Q', EE, st, l, q, k⟩ => p.run pins s σ H Q I (v B c σ G H Q' Q EE st l q k)⟩
  )
/-- [elt for tg in iter], the element may raise -/
def zCompY (vs : List Nat) (tg : TGd) (ty : TDY) (ys : List PyData) (c1 : Ctx) (EE : EEt) (Q : List PyData → Ctx → Prop) : Prop := ∃ I : Nat → List PyData → Ctx → Prop, I 0 [] (clr vs c1) ∧
  (∀ i y acc c, ys[i]? = some y → I i acc c → tg y c fun c2 => ty (fun x fd c4 => EE x fd (clr vs c4)) c2 fun x c4 => acc.length < sizeLine ∧ I (i + 1) (acc ++ [x]) (clr vs c4)) ∧
  ∀ acc c, I ys.length acc c → Q acc (Dl.rest c1 vs (clr2 vs c))
def xLcY (ti : TL) (vs : List Nat) (tg : TGd) (ty : TDY) : TXY := fun EE c Q => ti c fun ys c1 => zCompY vs tg ty ys c1 EE fun acc c2 => Q (.o none (.lst acc)) c2
theorem lcY_v {K : PySem.W.Frag} {E : XK} {wi : TI} {ti : TL} {tg : TGd} {ty : TDY} {js vs : List Nat} (hi : DIv K wi ti) (hj : ∀ j ∈ js, j ∈ vs) : DXYv K (fun cls d _ H => E cls d H) (tLc wi (rdG K js tg) tYes (rdY K E ty) vs) (xLcY ti vs tg ty) := (by
  intro B c s G H Q R EE st l q k
  refine hi B c s G H _ _ st q fun J ys c1 G1 H1 st1 e1 ok q1 => ?_
  obtain ⟨I, i0, turn, fin⟩ := q1
  intro D hD
  refine ⟨fun i m H => m = ys.length - i ∧ i ≤ ys.length ∧ ∃ acc c' G', Stt K B (.o none (.lst acc) :: c') (some (.ref D) :: L2.wipe s vs) G' H ∧ Same G1 G' ∧ I i acc c', ⟨ys.length, by simp, Nat.zero_le _, [], _, G1, (st1.wipe vs).laidL hD .nil, Same.refl _, i0⟩, ?_⟩
  rintro i m H2 ⟨rfl, hi, acc, c', G', st', e', hI⟩
  by_cases hlt : i < ys.length
  · refine .inr ⟨((ok B _ _ G' H2 st' e' i).2 hlt).1, fun H3 => ∃ acc c' G', Stt K B (.o none (.lst acc) :: c') (some (.ref D) :: L2.wipe s vs) G' H3 ∧ Same G1 G' ∧ I (i + 1) acc c', fun H3 ⟨a3, c3, G3, st3, e3, i3⟩ => ⟨ys.length - (i + 1), by omega, rfl, hlt, a3, c3, G3, st3, e3, i3⟩, fun x H3 hy => ?_⟩
    obtain ⟨G2, y, hy1, st2, e2, dy⟩ := ((ok B _ _ G' H2 st' e' i).2 hlt).2 x H3 hy
    obtain ⟨D', us, B', hv, hDl, hacc, stU, back⟩ := st2.under
    cases hv
    have e12 : Same G1 G2 := e'.trans e2
    refine ⟨B', c', G2, y, _, stU, dy, turn i y acc c' hy1 hI, fun c3 s3 st3 but q3 => ⟨But.wipe but hj, ?_⟩⟩
    have hw : L2.wipe s3 vs = L2.wipe s vs := But.wipe but hj
    unfold tYes
    dsimp only
    rw [if_pos rfl]
    refine ⟨B', c3, G2, _, _, st3, fun x fd d c4 s4 G4 H4 st4 e4 hd4 q4 => ?_, q3, fun z d c5 G5 H5 st5 e5 dz q5 => ?_⟩
    · obtain ⟨_, _, st6, _⟩ := back _ _ _ _ (st4.wipe vs)
      exact l x fd d _ _ G4 H4 st6.pop ((e1.trans e12).trans e4) hd4 q4
    · obtain ⟨e6, hD6, _, up6⟩ := back _ _ _ _ (st5.wipe vs)
      have hl := dpa_len hacc
      have st7 := up6 (us ++ [z]) (acc ++ [d]) (dpa_app (dpa_mono e6 _ _ hacc) (.cons dz .nil))
      rw [hw] at st7
      exact ⟨us, hD6, by rw [hl]; exact q5.1, acc ++ [d], _, G5, st7, e12.trans e6, q5.2⟩
  · have e : i = ys.length := by omega
    subst e
    refine .inl ⟨(ok B _ _ G' H2 st' e' _).1 (Nat.le_refl _), ?_⟩
    exact k (.ref D) (.o none (.lst acc)) _ G' H2 (Stt.rest st1 e' (Stt.unwipe st')) (e1.trans e') (fin acc c' hI)
  )
section
variable {X : Cx} {E : XK} {W : WX} {elt tg iter e : Expr} {scope : Scope} {pos p : Pos} {ti : TL} {g : TGd} {ty : TDY} {js : List Nat} {es : List Expr} {tly : TLY} {x : Str} {k : Nat} {ps : List Str} {T : TFY}
theorem x_lcY (own : List (Str × Nat)) (hs : X.stack = X.env :: X.outer) (hf : X.env.frame = some X.env.locals) (tk : Takes X (fun cls d _ H => E cls d H)) (hc : X.calm = true) (hN : X.N.Nodup) (hi : DI X tg iter ti) (ok : blkC X.N X.env.scope scope own = true)
    (hg : ∀ (s : Shared) (H : Hp) (C : Addr) (cl : List (Str × Addr)) (fp : List Addr), DG (X.blk s H scope (compEnvC scope cl C X.env) fp) tg js g)
    (he : ∀ (s : Shared) (H : Hp) (C : Addr) (cl : List (Str × Addr)) (fp : List Addr), DEY (X.blkE s H scope (compEnvC scope cl C X.env) fp E) (fun cls d _ H => E cls d H) elt ty) (hj : ∀ j ∈ js, j ∈ own.map (·.2)) (hfo : ∀ x, foldedSetIterable iter X.env x = pure x := by intro _; rfl) :
    DXY X (fun cls d _ H => E cls d H) (.ListComp elt [⟨tg, iter, [], 0⟩] scope pos) (xLcY ti (own.map (·.2)) g ty) := (by
  obtain ⟨wi, pi, vi⟩ := hi.ex
  exact ⟨_, pe_lcE (W := E) (g := rdG X.K js g) (te := rdY X.K E ty) hs hf tk (fun _ _ _ _ h => h) hc hN pi (blkOk_by ok) (fun s H C cl fp => (hg s H C cl fp).pg) (fun s H C cl fp => (he s H C cl fp).pe) hfo, lcY_v vi hj⟩
  )
/-- a def that may raise, called in such a block -/
theorem y_callB {s0 : Shared} {H0 : Hp} {sc : Scope} {ce : Env} {fp : List Addr} (C : CalY X.prog X.w X.K X.mg X.base x k ps T) (hr : Room k X.A) (ha : DAY (X.blkE s0 H0 sc ce fp E) (fun cls d _ H => E cls d H) (e :: es) tly) (hg : Gl (X.blkE s0 H0 sc ce fp E) x := by rfl)
    (hdb : (x == ("__debug__" : Str)) = false := by decide) (he : starEach (e :: es) ce = (false, eval e ce) :: starEach es ce := by rfl) (hpl : (backTo pos (starEach es ce)).any (·.1) = false := by rfl) : DXY (X.blkE s0 H0 sc ce fp E) (fun cls d _ H => E cls d H) (.Call (.Name x p) (e :: es) [] pos) (yCall T tly) := (by
  obtain ⟨f, fd, F, h2, h3, h4⟩ := C.ex
  obtain ⟨ta, pa, va⟩ := ha.ex
  refine ⟨_, pe_callS (X := X.blkE s0 H0 sc ce fp E) F hr hg h2 h3 h4 (E := fun _ => E) (fun σ pins H s e s' I c => ⟨pins, σ, H, s, I.unwish, c⟩) pa hdb he hpl, fun B c s G H Q R EE st l q kk => va B c s G H _ _ EE st l q fun vs xs c1 G1 H1 st1 e1 d1 q1 => ?_⟩
  exact aft_data st1 d1 (l.mono e1) q1 fun v x c' G' H' st' e' q' => kk v x c' G' H' st' (e1.trans e') q'
  )
/-- for target in a list that an expression gives, which may raise -/
def zForE (ty : TDY) (g : TGd) (tb : TSY) : TSY := fun EE E c => ty EE c fun x c1 => asL x fun ys => zLoop g (tb EE) E ys c1
theorem s_forE {body : List Stmt} {tb : TSY} (hp : PassesOwn (model X.prog X.w) X.A X.env X.xe) (hc : X.calm = true) (hi : DEY X W iter ty) (hg : DG X tg js g) (hb : DSsY X W body tb)
    (hs : ∀ z, foldedSetIterable iter X.env z = pure z := by intro _; rfl) : DSY X W (.For tg iter body [] pos) (zForE ty g tb) := (by
  obtain ⟨te, pi, vi⟩ := hi.ex
  obtain ⟨g0, pg, vg⟩ := hg.ex
  obtain ⟨ts, pb, vb⟩ := hb.ex
  refine ⟨_, ps_for hp hc (pi_list pi) pg pb hs, fun B c s G H D E EE st k l q => vi B c s G H _ _ EE st l q fun v x c1 G1 H1 st1 e1 d1 q1 => ?_⟩
  obtain ⟨ys, rfl, I, i0, turn, fin⟩ := asL_of q1
  obtain ⟨a, us, rfl, h1, h2⟩ := dp_lst d1
  have len := dpa_len h2
  refine ⟨a, rfl, ⟨us, Same.seq st1.sub h1⟩, ?_⟩
  refine ⟨fun i m s' H' => m = ys.length - i ∧ i ≤ ys.length ∧ ∃ c' G', Stt X.K B c' s' G' H' ∧ Same G1 G' ∧ I i c', ⟨ys.length, rfl, Nat.zero_le _, c1, G1, st1, Same.refl _, i0⟩, ?_⟩
  rintro i m s' H' ⟨rfl, hi, c', G', st', e', hI⟩
  have hq : SqL X.K H' a us := Same.seq st'.sub (Same.seq e' h1)
  by_cases hlt : i < ys.length
  · obtain ⟨z, hz, dz⟩ := dpa_get h2 (List.getElem?_eq_getElem hlt)
    refine .inr ⟨⟨us, z, hq, hz⟩, fun s2 H2 => ∃ c2 G2, Stt X.K B c2 s2 G2 H2 ∧ Same G1 G2 ∧ I (i + 1) c2, fun s2 H2 ⟨c2, G2, st2, e2, hI2⟩ => ⟨ys.length - (i + 1), by omega, rfl, hlt, c2, G2, st2, e2, hI2⟩, fun y H2 hy => ?_⟩
    obtain ⟨rfl, hy2⟩ := hy
    have := hy2 us hq
    rw [hz] at this
    cases this
    refine vg B c' s' G' H2 _ _ _ _ st' (dp_mono e' _ _ dz) (turn i _ c' (List.getElem?_eq_getElem hlt) hI) fun c3 s3 st3 _ q3 => ?_
    exact vb B c3 s3 G' H2 _ { E with nx := I (i + 1), ct := I (i + 1), bk := E.nx } EE st3 ⟨fun c4 s4 G4 H4 st4 e4 q4 => ⟨c4, G4, st4, e'.trans e4, q4⟩, fun r c4 v s4 G4 H4 st4 e4 q4 => k.rt r c4 v s4 G4 H4 st4 ((e1.trans e').trans e4) q4, fun c4 s4 G4 H4 st4 e4 q4 => k.nx c4 s4 G4 H4 st4 ((e1.trans e').trans e4) q4, fun c4 s4 G4 H4 st4 e4 q4 => ⟨c4, G4, st4, e'.trans e4, q4⟩⟩ (l.mono (e1.trans e')) q3
  · have e : i = ys.length := by omega
    subst e
    exact .inl ⟨⟨us, hq, by rw [len]; exact Nat.le_refl _⟩, k.nx c' s' G' H' st' (e1.trans e') (fin c' hI)⟩
  )
end
/-- up to the first element that is raised at -/
theorem compY_upto {α : Type} {g0 : α → PyData} {zs : List α} {vs : List Nat} {tg : TGd} {ty : TDY} {c1 : Ctx} {EE : EEt} {Q : List PyData → Ctx → Prop} (f : α → PyData) (bad : α → Prop) (hl : zs.length ≤ sizeLine)
    (h : ∀ z ∈ zs, ¬ bad z → ∀ (N : PyData → Ctx → Prop), (∀ c, clr vs c = clr vs c1 → N (f z) c) → tg (g0 z) (clr vs c1) fun c2 => ty (fun x fd c4 => EE x fd (clr vs c4)) c2 N)
    (hb : ∀ z ∈ zs, bad z → ∀ (N : PyData → Ctx → Prop), tg (g0 z) (clr vs c1) fun c2 => ty (fun x fd c4 => EE x fd (clr vs c4)) c2 N)
    (q : (∀ z ∈ zs, ¬ bad z) → Q (zs.map f) (Dl.rest c1 vs (clr2 vs (clr vs c1)))) : zCompY vs tg ty (zs.map g0) c1 EE Q := (by
  refine ⟨fun i acc c => c = clr vs c1 ∧ acc = (zs.take i).map f ∧ ∀ z ∈ zs.take i, ¬ bad z, ⟨rfl, by simp, by simp⟩, fun i y acc c hy hI => ?_, fun acc c hI => ?_⟩
  · obtain ⟨rfl, rfl, ok⟩ := hI
    obtain ⟨z, hz, rfl⟩ := map_get hy
    have hi := get_lt hz
    rcases Classical.em (bad z) with b | b
    · exact hb z (get_mem hz) b _
    · refine h z (get_mem hz) b (fun x c4 => ((zs.take i).map f).length < sizeLine ∧ (clr vs c4 = clr vs c1 ∧ (zs.take i).map f ++ [x] = (zs.take (i + 1)).map f ∧ ∀ z ∈ zs.take (i + 1), ¬ bad z)) fun c hc => ⟨?_, hc, ?_, fun u hu => ?_⟩
      · rw [List.length_map, List.length_take]; omega
      · exact (take_map hz).symm
      · rw [List.take_add_one, hz] at hu
        rcases List.mem_append.mp hu with hu | hu
        · exact ok u hu
        · rw [show u = z by simpa using hu]; exact b
  · obtain ⟨rfl, rfl, ok⟩ := hI
    rw [List.length_map, List.take_length] at *
    exact q ok
  )
end Dl

/-! A dict display with several texts or numbers as keys, its values data. -/
namespace Dl
open PySem PySem.Spec PyProof.Rows L2
inductive DpPr (K : PySem.W.Frag) (G : Hp) : List (V × V) → List (PyData × PyData) → Prop
  | nil : DpPr K G [] []
  | cons {u v : V} {x y : PyData} {us : List (V × V)} {xs : List (PyData × PyData)} : Dp K G u x → Dp K G v y → DpPr K G us xs → DpPr K G ((u, v) :: us) ((x, y) :: xs)
abbrev TPr := Ctx → (List (PyData × PyData) → Ctx → Prop) → Prop
def DPrv (K : PySem.W.Frag) (trs : List (TE × TE)) (t : TPr) : Prop := ∀ (B : Base) (c : Ctx) (s : L2.St) (G H : Hp) (Q : List (PyData × PyData) → Ctx → Prop) (R : List (V × V) → Hp → Prop), Stt K B c s G H → t c Q →
  (∀ us xs c' G' H', Stt K B c' s G' H' → Same G G' → DpPr K G' us xs → Q xs c' → R us H') → tPairs trs s H R
structure DPr (X : Cx) (pos : Pos) (keys : List (Option Expr)) (values : List Expr) (t : TPr) : Prop where
  ex : ∃ trs, PPs X pos keys values trs ∧ DPrv X.K trs t
/-- what the pairs make -/
noncomputable def mkD (kvs : List (PyData × PyData)) : List (PyData × PyData) → List (PyData × PyData)
  | [] => kvs
  | p :: r => mkD (dicPut kvs p.1 p.2) r
theorem dkE_merge {K : PySem.W.Frag} {G : Hp} : ∀ {us : List (V × V)} {xs : List (PyData × PyData)}, DpPr K G us xs → (∀ p ∈ xs, isAt p.1) → ∀ {ws : List (L2.Key × V)} {kvs : List (PyData × PyData)}, DkE K G ws kvs → ∃ more : List (L2.Key × V), us = more.map (fun kv => (L2.kV kv.1, kv.2)) ∧ more.length = xs.length ∧ DkE K G (mergeK ws more) (mkD kvs xs) := (by
  intro us xs h
  induction h with
  | nil => intro _ ws kvs e; exact ⟨[], rfl, rfl, e⟩
  | @cons u v x y us xs a b _ ih =>
    intro hk ws kvs e
    obtain ⟨eu, ek⟩ := dp_key (hk (x, y) List.mem_cons_self) a
    have put := dkE_put (ks := kOf x) b e
    rw [ek] at put
    obtain ⟨more, h1, h2, h3⟩ := ih (fun p hp => hk p (List.mem_cons_of_mem _ hp)) put
    exact ⟨(kOf x, v) :: more, by rw [h1, eu]; rfl, by rw [List.length_cons, List.length_cons, h2], h3⟩
  )
section
variable {X : Cx} {pos : Pos} {k v : Expr} {ks : List (Option Expr)} {vs : List Expr} {tk tv : TD} {t : TPr}
def prNil : TPr := fun c Q => Q [] c
def prCons (tk tv : TD) (t : TPr) : TPr := fun c Q => tk c fun x c1 => tv c1 fun y c2 => t c2 fun xs c3 => Q ((x, y) :: xs) c3
theorem pr_nil : DPr X pos [] [] prNil := ⟨_, pps_nil, fun B c s G H Q R st q k => k [] [] c G H st (Same.refl _) .nil q⟩
theorem pr_cons (hk : DE X k tk) (hv : DE X v tv) (hr : DPr X pos ks vs t) : DPr X pos (some k :: ks) (v :: vs) (prCons tk tv t) := (by
  obtain ⟨tek, pk, vk⟩ := hk.ex
  obtain ⟨tev, pv, vv⟩ := hv.ex
  obtain ⟨trs, pr, vr⟩ := hr.ex
  refine ⟨_, pps_cons pk pv pr, fun B c s G H Q R st q kk => vk B c s G H _ _ st q fun u x c1 G1 H1 st1 e1 d1 q1 => vv B c1 s G1 H1 _ _ st1 q1 fun w y c2 G2 H2 st2 e2 d2 q2 => ?_⟩
  exact vr B c2 s G2 H2 _ _ st2 q2 fun us xs c3 G3 H3 st3 e3 d3 q3 => kk _ _ c3 G3 H3 st3 ((e1.trans e2).trans e3) (.cons (dp_mono (e2.trans e3) _ _ d1) (dp_mono e3 _ _ d2) d3) q3
  )
def oDkL (t : TPr) : TR := fun c Q => t c fun xs c1 => (∀ p ∈ xs, isAt p.1) ∧ xs.length ≤ 15 ∧ Q (.gen (dkR (mkD [] xs))) c1
theorem o_dkL (h : DPr X pos ks vs t) (hall : ks.all (·.isSome) = true := by rfl) (hl : ks.length = vs.length := by rfl) (h0 : ks ≠ [] := by simp) (h15 : ks.length ≤ 15 := by decide) : DO X (.Dict ks vs pos) (oDkL t) := (by
  obtain ⟨trs, pr, vr⟩ := h.ex
  refine ⟨_, pe_disp pr hall hl h0 h15, fun B c s G H Q R st q k => fun p hp => ?_⟩
  have st0 : Stt X.K B (.o none (.gen (dkR [])) :: c) (some (.ref p) :: s) G (upd H p (.dK [])) := by
    refine st.laidR (R := .gen (dkR [])) (A1 := [p]) (fun a ha => ?_) (fun a ha => ?_) (fun a ha => ?_) (by simp) ?_
    · simp at ha
      rw [upd_ne ha]
    · simp at ha
      subst ha
      exact hp
    · simp at ha
      subst ha
      rw [upd_same]; exact fun z => nomatch z
    · exact ⟨p, [], rfl, rfl, upd_same, .nil⟩
  obtain ⟨A1, B', ⟨p0, ws0, z1, z2, z3, z4⟩, stU, back⟩ := st0.underR
  cases z1
  subst z2
  refine vr B' c s G _ _ _ stU q fun us xs c1 G1 H1 st1 e1 d1 q1 => ?_
  obtain ⟨hk, hx, q1⟩ := q1
  obtain ⟨e2, same, st2⟩ := back _ _ _ _ st1
  have hD : H1 p = some (.dK []) := (same p (by simp)).trans upd_same
  obtain ⟨more, m1, m2, m3⟩ := dkE_merge d1 hk (ws := []) (kvs := []) .nil
  refine ⟨hD, more, m1, by omega, ?_⟩
  obtain ⟨v1, A1, g1, ⟨p', ws', rfl, rfl, g2, g3⟩, nd, wr⟩ := st2.foc (j := 0) (w := none) (R := .gen (dkR [])) rfl
  cases g1
  have st3 := wr (upd H1 p (.dK (mergeK [] more))) (.gen (dkR (mkD [] xs))) [p] (fun a ha => by
    simp at ha
    rw [upd_ne ha]) (fun a ha => .inl ha) (fun a ha => by
    simp at ha
    subst ha
    rw [upd_same]; exact fun z => nomatch z) (by simp) ⟨p, _, rfl, rfl, upd_same, m3⟩
  exact k _ _ c1 G1 _ st3 e2 q1
  )
/-- k in d, k not in d -/
def uDkIn (neg : Bool) (j : Nat) (tk : TD) : TD := fun c Q => tk c fun y c1 => isAt y ∧ slO c1 j fun _ R => asDk R fun kvs => Q (.bool (if neg then !(dicAt kvs y).isSome else (dicAt kvs y).isSome)) c1
theorem dkE_is {K : PySem.W.Frag} {G : Hp} {ws : List (L2.Key × V)} {kvs : List (PyData × PyData)} {ks : L2.Key} (h : DkE K G ws kvs) : (valV ws ks).isSome = (dicAt kvs (keyD ks)).isSome := (by
  rcases dkE_at (ks := ks) h with ⟨a1, a2⟩ | ⟨u, d, a1, a2, _⟩
  · rw [a1, a2]; rfl
  · rw [a1, a2]; rfl
  )
theorem t_dknotin (j : Nat) {y : Str} {p : Pos} (hu : X.A.units + 1 < cLine) (hk : DE X k tk) (hN : X.N[j]? = some y := by rfl) (hv : Vis X.env.scope y := by first | exact Or.inl rfl | exact Or.inr (Or.inl rfl) | exact Or.inr (Or.inr rfl)) (hd : (y == ("__debug__" : Str)) = false := by decide) (hcd : (y == ("__classdict__" : Str)) = false := by decide) (hm : behindInMarks .NotIn (.Name y p) = false := by rfl) : DT X (.Compare k [.NotIn] [.Name y p] pos) (wB (uDkIn true j tk)) := (by
  obtain ⟨tek, pk, vk⟩ := hk.ex
  refine ⟨_, pt_cmp (pc_dnotin hu pk (pe_var hN hv hd hcd)) hm, fun B c s G H Q R st q k => vk B c s G H _ _ st q fun v d c1 G1 H1 st1 e1 d1 q1 => ?_⟩
  obtain ⟨ha, q1⟩ := q1
  obtain ⟨w, R0, e0, q1⟩ := slO_of q1
  obtain ⟨kvs, rfl, q1⟩ := q1
  obtain ⟨v1, A1, g1, ⟨p', ws', rfl, rfl, g2, g3⟩, nd, wr⟩ := st1.foc e0
  obtain ⟨rfl, ek⟩ := dp_key ha d1
  refine ⟨.ref p', g1, p', _, rfl, DGet.k (k := kOf d) g2, ?_⟩
  rw [dkE_is g3, ek]
  exact ⟨_, rfl, k _ c1 G1 H1 st1 e1 q1⟩
  )
end
/-- pairs of unlike keys stand as they were written -/
theorem mkD_app : ∀ {xs kvs : List (PyData × PyData)}, ((kvs ++ xs).map Prod.fst).Nodup → mkD kvs xs = kvs ++ xs
  | [], kvs, _ => (List.append_nil kvs).symm
  | p :: r, kvs, nd => by
    have no : ∀ kv ∈ kvs, ¬ kv.1 = p.1 := fun kv hkv z => by
      rw [List.map_append, List.map_cons] at nd
      exact (List.nodup_append.mp nd).2.2 kv.1 (List.mem_map_of_mem hkv) p.1 List.mem_cons_self z
    have put : dicPut kvs p.1 p.2 = kvs ++ [p] := by
      unfold dicPut
      rw [if_neg]
      intro z
      obtain ⟨kv, h1, h2⟩ := List.any_eq_true.mp z
      exact no kv h1 (of_decide_eq_true h2)
    show mkD (dicPut kvs p.1 p.2) r = _
    rw [put, mkD_app (by rw [List.append_assoc]; exact nd), List.append_assoc]; rfl
theorem mkD_of {xs : List (PyData × PyData)} (nd : (xs.map Prod.fst).Nodup) : mkD [] xs = xs := mkD_app nd
/-- x in (texts), as a value -/
theorem d_inTS {X : Cx} {a b : Expr} {ta tb : TD} {pos : Pos} (ha : DE X a ta) (hb : DE X b tb) (hm : behindInMarks .In b = false := by rfl) : DE X (.Compare a [.In] [b] pos) (u2 fInTS ta tb) := d_cmp op_in_seq opd_inTS ha hb hm
/-! ### a text so many times -/
section
variable {X : Cx} {a b : Expr} {ta tb : TD} {pos : Pos}
def rMulS : R2 := fun x y H Q => ∃ z n, x = V.str z ∧ y = V.int n ∧ MulOk z n ∧ Q (.str (Txt.mul z n)) H
theorem op_mulS : OpR X (binaryOp .Mult) rMulS := (by
  intro pins s σ H x y v u Q I rx ry h
  obtain ⟨z, n, rfl, rfl, ok, q⟩ := h
  obtain ⟨t, rfl⟩ := rx
  obtain ⟨t', rfl⟩ := ry
  exact PySem.SB.mul ok fun t2 k => ⟨.str _, H, I.kept (t' := k) fun _ _ e => e, ⟨t2, rfl⟩, q⟩
  )
def fMulS : PyData → PyData → (PyData → Prop) → Prop := fun x y Q => asS x fun z => asI y fun n => MulOk z n ∧ Q (.str (Txt.mul z n))
theorem d_mulS (ha : DE X a ta) (hb : DE X b tb) : DE X (.BinOp a .Mult b pos) (u2 fMulS ta tb) := (by
  refine d_op op_mulS (fun B c s G H x y a b Q R st dx dy h k => ?_) ha hb
  obtain ⟨z, rfl, h⟩ := asS_of h
  obtain ⟨n, rfl, ok, q⟩ := asI_of h
  exact ⟨z, n, dp_str dx, dp_int dy, ok, k _ _ G H st (Same.refl _) (.str _) q⟩
  )
end
end Dl

/-! A list display that ends in an own thing, as a tree; an item of a list at a place put anew. -/
namespace Dl
open PySem PySem.Spec PyProof.Rows L2
/-- a list's own cell, what it holds told by its values -/
def hdV (p : Addr) (vs : List V) : ResG where
  P _ _ H v A := v = .ref p ∧ A = [p] ∧ H p = some (.lst vs)
  grow _ _ _ _ _ _ h _ := h
  loc _ _ _ _ _ _ h k := ⟨h.1, h.2.1, (k p (by rw [h.2.1]; exact List.mem_cons_self)).trans h.2.2⟩
  here _ _ _ _ _ h a ha z := by
    rw [h.2.1] at ha
    rw [List.mem_singleton.mp ha, h.2.2] at z
    cases z
  nt _ _ _ _ _ h a ha o e := by
    rw [h.2.1] at ha
    rw [List.mem_singleton.mp ha, h.2.2] at e
    cases e; rfl
section
variable {X : Cx} {pos pos2 : Pos} {e o i : Expr} {es : List Expr} {j : Nat} {te : TD} {tp : TPl} {tk : TC}
def oLstL (t : TAO) : TR := fun c Q => t c fun xs x c1 => xs.length < sizeLine ∧ asOw x fun R => asOT R fun u => Q (.tr (.lst (xs.map .dat ++ [u]))) c1
theorem o_lstL {t : TAO} (h : DAO X es t) : DO X (.List es pos) (oLstL t) := (by
  obtain ⟨ta, pa, va⟩ := h.ex
  refine ⟨_, pe_lst pa, fun B c s G H Q R st q k => va B c s G H _ _ st q fun vs u xs x c1 G1 H1 st1 e1 d1 q1 => ?_⟩
  obtain ⟨hl, q1⟩ := q1
  obtain ⟨R0, rfl, q2⟩ := asOw_of q1
  obtain ⟨t0, q3, hot⟩ := asOT_of q2
  refine ⟨by rw [List.length_append, dpa_len d1]; exact hl, fun a ha => ?_⟩
  have one : ∀ b ∈ [a], b = a := fun b hb => List.mem_singleton.mp hb
  have st2 := st1.laidR (H' := upd H1 a (.lst (vs ++ [u]))) (R := .gen (hdV a (vs ++ [u]))) (v := .ref a) (A1 := [a]) (fun b hb => upd_ne fun z => hb (z ▸ List.mem_cons_self)) (fun b hb => one b hb ▸ ha) (fun b hb => by rw [one b hb, upd_same]; exact fun z => nomatch z) (by simp) ⟨rfl, rfl, upd_same⟩
  refine k _ _ c1 G1 _ (st2.merge (R := .tr (.lst (xs.map .dat ++ [t0]))) (.ref a) fun A1 A2 hA hB => ?_) e1 q3
  obtain ⟨_, rfl, g1⟩ := hA
  have own := ots_app (dats_ots (H := upd H1 a (.lst (vs ++ [u]))) d1) (OwnTs.cons (hot hB) .nil)
  rw [List.nil_append, List.append_nil] at own
  exact .lst g1 own
  )
/-- PLACE[k] = data -/
def zPlPut (j : Nat) (te : TD) (tp : TPl) (tk : TC) : TSd := fun E c => te c fun x c1 => tp c1 fun π T' c' => asLs T' fun ts => tk c' fun y => asI y fun i => ixP ts.length i fun n => slO c' j fun w R => asTr R fun T => E.nx (c'.set j (.o w (.tr (T.upd (.lst (ts.set n (.dat x))) π))))
theorem s_plput (he : DE X e te) (hp : DPl X o j tp) (hk : DC X i tk)
    (ha : ∀ v, assign (.Subscript o i pos2) X.env v = (do
      let ov ← holding [v] (eval o X.env)
      let iv ← holding [v, ov] (eval i X.env)
      standAt pos2
      holding [v, ov, iv] (setItem ov iv v)
      release [v, ov, iv] []) := by intro _; rfl)
    (hs : swapsWithSole [.Subscript o i pos2] e pos.line X.env = pure false := by rfl) (hw : swappedStores [.Subscript o i pos2] e X.env = pure none := by rfl)
    (h1 : (assignEach [.Subscript o i pos2] X.env).map (·.2) = [assign (.Subscript o i pos2) X.env] := by rfl) : DS X (.Assign [.Subscript o i pos2] e pos) (zPlPut j te tp tk) := (by
  obtain ⟨tee, pe, ve⟩ := he.ex
  obtain ⟨tep, pp, vp⟩ := hp.ex
  obtain ⟨tek, pk, vk⟩ := hk.ex
  refine ⟨_, ps_asg pe (pg_sub pp pk set_list ha) hs hw h1, fun B c s G H D E st k q => ve B c s G H _ _ st q fun v x c1 G1 H1 st1 e1 d1 q1 => vp B c1 s G1 H1 _ _ st1 q1 fun c' G' H' w T root u π T' A A1 G0 H0 p e2 q2 => ?_⟩
  obtain ⟨ts, rfl, q2⟩ := asLs_of q2
  refine vk B c' s G' H' _ _ p.un q2 fun iv y G2 H2 f2 e3 h2 d2 q3 => ?_
  obtain ⟨i, rfl, q3⟩ := asI_of q3
  obtain ⟨n, hn, q3⟩ := q3
  obtain ⟨w', R', e0, q3⟩ := slO_of q3
  have es := p.slot
  rw [e0] at es
  cases es
  have p2 := p.grow f2 e3
  have own := p2.here'
  cases own with
  | @lst q0 _ vs As h3 h4 =>
    refine ⟨q0, vs, i, n, rfl, dp_int d2, h3, by rw [ots_len h4]; exact hn, ?_⟩
    obtain ⟨m1, m2⟩ := List.nodup_cons.mp p2.foc.nd
    obtain ⟨A', r, m3, m4⟩ := ots_set n h4 (OwnT.dat (dp_mono (e2.trans e3) _ _ d1)) m2 List.nodup_nil (fun a ha => by cases ha)
    have m5 : ∀ a ∈ A', a ∈ As := fun a ha => (m4 a ha).elim id fun z => by cases z
    have kp : ∀ a ∈ q0 :: As, H2 a ≠ none := fun a ha => p2.here a (p2.foc.sub a ha)
    refine k.nx _ _ _ _ (p2.put (t' := .lst (ts.set n (.dat x))) (A1' := q0 :: A') p2.st p2.at_pin (Same.refl _) (fun a ha => upd_ne fun z => ha (z ▸ List.mem_cons_self)) (fun a ha => .inl ?_) (fun a ha => ?_) (List.nodup_cons.mpr ⟨fun z => m1 (m5 _ z), m3⟩) (.lst upd_same (ots_mono (Same.refl _) _ _ _ r fun a ha => upd_ne fun z => m1 (z ▸ m5 a ha)))) (e1.trans (e2.trans e3)) ?_
    · exact (List.mem_cons.mp ha).elim (fun z => z ▸ List.mem_cons_self) fun z => List.mem_cons_of_mem _ (m5 a z)
    · by_cases hq : a = q0
      · rw [hq, upd_same]; exact fun z => nomatch z
      · rw [upd_ne hq]
        exact kp a ((List.mem_cons.mp ha).elim (fun z => absurd z hq) fun z => List.mem_cons_of_mem _ (m5 a z))
    · rw [List.set_set]
      exact q3
  )
end
end Dl

/-! How many unlike ones stand in a list of tuples of texts: len(set(xs)). -/
namespace L2
open PySem PySem.Spec PyProof.Rows
/-- a tuple of texts, at an address -/
def TxT (h : Heap) (k : List Str) (b : Addr) : Prop := NestedIs h (.tup (k.map NestedKey.text)) (.ref b)
def txh (w : World) (k : List Str) : Int := (NestedKey.tup (k.map NestedKey.text)).hash w
theorem txt_inj {k k' : List Str} (h : (NestedKey.tup (k.map NestedKey.text)) = .tup (k'.map NestedKey.text)) : k = k' := (by
  injection h with h
  exact (List.map_inj_right (fun x y e => by injection e)).mp h
  )
theorem txt_depth (k : List Str) : (NestedKey.tup (k.map NestedKey.text)).depth ≤ 8 := (by
  have key : ∀ k : List Str, NestedKey.depthAll (k.map NestedKey.text) = 0 := fun k => by
    induction k with
    | nil => rfl
    | cons x k ih =>
      show max (NestedKey.text x).depth (NestedKey.depthAll (k.map NestedKey.text)) = 0
      rw [ih]; rfl
  show NestedKey.depthAll (k.map NestedKey.text) + 1 ≤ 8
  rw [key]; decide
  )
theorem all_text {h : Heap} : ∀ {k : List Str} {vs : List Value}, NestedAll h (k.map NestedKey.text) vs → ∀ v ∈ vs, ∃ x t, v = Value.str x t
  | [], _, r, v, hv => by cases r; cases hv
  | x :: k, _, r, v, hv => by
    cases r with
    | cons r1 r2 =>
      rcases List.mem_cons.mp hv with rfl | z
      · cases r1; exact ⟨_, _, rfl⟩
      · exact all_text r2 v z
theorem TxT.tup {h : Heap} {k : List Str} {b : Addr} (x : TxT h k b) : ∃ o vs n, h.get? b = some o ∧ o.cls = .type "tuple" ∧ o.data = .seq vs n ∧ ∀ v ∈ vs.toList, ∃ y t, v = Value.str y t := (by
  unfold TxT at x
  cases x with
  | tup h1 h2 h3 h4 => exact ⟨_, _, _, h1, h2, h3, all_text h4⟩
  )
/-- it stays one where the lists and tuples stay -/
theorem TxT.stay {h h' : Heap} {k : List Str} {b : Addr} (x : TxT h k b) (q : ∀ c o vs n, h.get? c = some o → o.data = .seq vs n → h'.get? c = some o) : TxT h' k b := NestedIs.at q _ _ x
theorem TxT.beside {h h' : Heap} {k : List Str} {a b : Addr} {o : Obj} {es : Array (Int × Value)} {ep : Nat} {t : SetTable} (x : TxT h k b) (ho : h.get? a = some o) (hd : o.data = .set es ep t) (hs : Heap.SameBut a h h') : TxT h' k b := x.stay fun c oc vs n e e2 => by
  refine (hs.2 c fun z => ?_).trans e
  rw [z, ho] at e
  cases e
  rw [hd] at e2
  cases e2
section
variable {P : Program} {w : World} {A : Around} {E : Value → Shared → Prop} {s : Shared}
theorem txt_cls {k : List Str} {b : Addr} {Q : Bool → Shared → Prop} (x : TxT s.heap k b) (q : Q false s) : wpAny (model P w) A (ofAClassStatement 8 (.ref b)) Q E s := (by
  obtain ⟨o, vs, n, h1, h2, h3, h4⟩ := x.tup
  have hT : s.TypeIs (.ref b) "tuple" := ⟨o, h1, h2⟩
  unfold ofAClassStatement
  refine wpAny_bind (wpAny_typeOf hT ?_)
  dsimp only
  simp only [show (("tuple" : String) == "tuple") = true by decide, if_true, Bool.not_true, Bool.false_eq_true, if_false]
  try refine wpAny_bind (wpAny_pure ?_)
  try simp only [Bool.not_true, Bool.false_eq_true, if_false]
  refine wpAny_bind (wpAny_seqItems h1 h3 ?_)
  dsimp only
  refine wpAny_bind ?_
  show wpAny _ _ (forIn vs _ _) _ _ s
  rw [← Array.forIn_toList]
  refine wpAny_forIn_list _ (fun rest r s' => r.1 = none ∧ s' = s ∧ ∀ v ∈ rest, ∃ y t, v = Value.str y t) _ ?_ ?_ _ _ ⟨rfl, rfl, h4⟩
  · rintro v rest r s' ⟨e1, rfl, e2⟩
    obtain ⟨y, t, rfl⟩ := e2 v List.mem_cons_self
    show wpAny _ _ (ofAClassStatement 7 (.str y t) >>= _) _ _ _
    rw [show ofAClassStatement 7 (.str y t) = pure false from rfl]
    refine wpAny_bind (wpAny_pure ?_)
    simp only [Bool.false_eq_true, if_false]
    exact wpAny_pure ⟨rfl, rfl, fun u hu => e2 u (List.mem_cons_of_mem _ hu)⟩
  · rintro ⟨r1, r2⟩ s' ⟨e1, rfl, _⟩
    simp only at e1
    subst e1
    exact wpAny_pure q
  )
theorem txt_byv {k : List Str} {b : Addr} {Q : Bool → Shared → Prop} (x : TxT s.heap k b) (q : ∀ v, Q v s) : wpAny (model P w) A (hashByValue 8 (.ref b)) Q E s := (by
  obtain ⟨o, vs, n, h1, h2, h3, h4⟩ := x.tup
  have hT : s.TypeIs (.ref b) "tuple" := ⟨o, h1, h2⟩
  unfold hashByValue
  refine wpAny_bind (wpAny_specialOf hT F.slot_tuple_hash.lookup ?_)
  show wpAny _ _ (seqItems? (.ref b) >>= _) _ _ s
  refine wpAny_bind (wpAny_seqItems h1 h3 ?_)
  refine wpAny_bind ?_
  show wpAny _ _ (forIn vs _ _) _ _ s
  rw [← Array.forIn_toList]
  refine wpAny_forIn_list _ (fun rest r s' => r.1 = none ∧ s' = s ∧ ∀ v ∈ rest, ∃ y t, v = Value.str y t) _ ?_ ?_ _ _ ⟨rfl, rfl, h4⟩
  · rintro v rest r s' ⟨e1, rfl, e2⟩
    obtain ⟨y, t, rfl⟩ := e2 v List.mem_cons_self
    show wpAny _ _ (hashByValue 7 (.str y t) >>= _) _ _ _
    rw [show hashByValue 7 (.str y t) = pure false from rfl]
    refine wpAny_bind (wpAny_pure ?_)
    simp only [Bool.not_false, if_true]
    exact wpAny_pure (wpAny_pure (q _))
  · rintro ⟨r1, r2⟩ s' ⟨e1, rfl, _⟩
    simp only at e1
    subst e1
    exact wpAny_pure (q _)
  )
theorem txt_quiet {k : List Str} {b : Addr} {Q : Bool → Shared → Prop} (x : TxT s.heap k b) (q : Q true s) : wpAny (model P w) A (eqIsQuiet 8 (.ref b)) Q E s := (nestedKind P w).quiet ⟨x, txt_depth k⟩ q
theorem txt_eq {k k' : List Str} {b c : Addr} {Q : Bool → Shared → Prop} (hu : A.units + 8 < cLine) (x : TxT s.heap k b) (y : TxT s.heap k' c) (q : Q (decide (k = k')) s) : wpAny (model P w) A (eqBool (.ref b) (.ref c)) Q E s := (by
  refine (nestedKind P w).eqBool hu ⟨x, txt_depth k⟩ ⟨y, txt_depth k'⟩ ?_
  rw [show decide ((NestedKey.tup (k.map NestedKey.text)) = .tup (k'.map NestedKey.text)) = decide (k = k') by
    by_cases e : k = k'
    · rw [decide_eq_true e, decide_eq_true (by rw [e])]
    · rw [decide_eq_false e, decide_eq_false fun z => e (txt_inj z)]]
  exact q
  )
theorem txt_seen {k : List Str} {b : Addr} {Q : Bool → Shared → Prop} (x : TxT s.heap k b) {ys : List Value} (hy : ∀ y ∈ ys, ∃ k' c, y = Value.ref c ∧ TxT s.heap k' c) (q : Q false s) :
    wpAny (model P w) A (searchCouldBeSeen (.ref b) ys) Q E s := (by
  unfold searchCouldBeSeen
  refine wpAny_bind ?_
  refine wpAny_forIn_list _ (fun rest r s' => r.1 = none ∧ s' = s ∧ ∀ y ∈ rest, ∃ k' c, y = Value.ref c ∧ TxT s.heap k' c) _ ?_ ?_ _ _ ⟨rfl, rfl, hy⟩
  · rintro v rest r s' ⟨e1, rfl, e2⟩
    obtain ⟨k', c, rfl, y⟩ := e2 v List.mem_cons_self
    have more : ∀ y ∈ rest, ∃ k' c, y = Value.ref c ∧ TxT s'.heap k' c := fun u hu => e2 u (List.mem_cons_of_mem _ hu)
    dsimp only
    by_cases same : (b == c || (carriedByValue (.ref b) && carriedByValue (.ref c))) = true
    · exact wp_if_pos same (wpAny_pure ⟨rfl, rfl, more⟩)
    · refine wp_if_neg same (wpAny_bind (txt_quiet x ?_))
      simp only [Bool.not_true, Bool.false_eq_true, if_false]
      refine wpAny_bind (txt_quiet y ?_)
      simp only [Bool.not_true, Bool.false_eq_true, if_false]
      refine wpAny_bind (txt_cls x ?_)
      simp only [Bool.false_eq_true, if_false]
      refine wpAny_bind (txt_cls y ?_)
      simp only [Bool.false_eq_true, if_false]
      exact wpAny_pure ⟨rfl, rfl, more⟩
  · rintro ⟨r1, r2⟩ s' ⟨e1, rfl, _⟩
    simp only at e1
    subst e1
    exact wpAny_pure q
  )
/-! ### the set -/
def txRow (w : World) (p : Addr × List Str) : Int × Value := (txh w p.2, .ref p.1)
/-- the set at a holds these tuples -/
structure SetX (w : World) (h : Heap) (a : Addr) (L : List (Addr × List Str)) (es : Array (Int × Value)) (ep : Nat) (t : SetTable) : Prop where
  ob : ∃ o, h.get? a = some o ∧ o.ExactSet ∧ o.data = .set es ep t
  rows : es = (L.map (txRow w)).toArray
  tab : TabOk t (L.map fun p => txh w p.2)
  nd : (L.map (·.2)).Nodup
  tup : ∀ p ∈ L, TxT h p.2 p.1
  room : L.length * 5 < t.mask * 3
  few : L.length < 64
variable {a : Addr} {L : List (Addr × List Str)} {es : Array (Int × Value)} {ep : Nat} {t : SetTable}
theorem rows_size (h : es = (L.map (txRow w)).toArray) : es.size = L.length := by rw [h, List.size_toArray, List.length_map]
theorem rows_at (h : es = (L.map (txRow w)).toArray) (i : Nat) : es[i]? = (L[i]?).map (txRow w) := by rw [h, List.getElem?_toArray, List.getElem?_map]
theorem tab_fits {hs : List Int} (T : TabOk t hs) {n : Nat} (hn : n = hs.length) (hm : hs.length ≤ t.mask) : t.fits n = true := (by
  unfold SetTable.fits SetTable.fill
  have := T.sz
  rw [T.dm, Bool.and_eq_true, beq_iff_eq, decide_eq_true_eq]
  show t.place.size = n ∧ t.place.size + 0 ≤ t.mask
  omega
  )
theorem SetX.fits (R : SetX w s.heap a L es ep t) : t.fits es.size = true := (by
  have h1 := R.room
  exact tab_fits R.tab (by rw [rows_size R.rows, List.length_map]) (by rw [List.length_map]; omega)
  )
theorem SetX.gw (R : SetX w s.heap a L es ep t) : ¬ t.gaveWay = true := (by
  unfold SetTable.gaveWay
  rw [mask_odd R.tab.mok]; decide
  )
/-- where the c-th look is -/
abbrev txP (w : World) (t : SetTable) (k : List Str) (c : Nat) : SetTable.Probe := nth t.mask (runAt t.mask (SetTable.bits (txh w k) % (t.mask + 1)) (SetTable.bits (txh w k))) c
theorem txP_dummy (c : Nat) (k : List Str) : (txP w t k c).dummy = none := (by
  have key : ∀ (n : Nat) (p : SetTable.Probe), p.dummy = none → (nth t.mask p n).dummy = none := fun n => by
    induction n with
    | zero => exact fun p h => h
    | succ n ih =>
      intro p h
      refine ih (adv t.mask p) ?_
      unfold adv
      split <;> exact h
  exact key c _ rfl
  )
/-- THE SEARCH, from the c-th look on -/
theorem seekX (R : SetX w s.heap a L es ep t) {x : Addr} {k : List Str} (hx : TxT s.heap k x) (hu : A.units + 8 < cLine) {K : Nat} (hKf : K < 10 * SetTable.turns t.mask)
    (hK : way t.mask (txh w k) K ∉ t.place.toList) (hKb : ∀ c, c < K → way t.mask (txh w k) c ∈ t.place.toList) {Q : SetFound → Shared → Prop}
    (hin : k ∈ L.map (·.2) → Q (.there none) s) (hout : k ∉ L.map (·.2) → Q (.free (way t.mask (txh w k) K) false) s) :
    ∀ (f c : Nat) (stand : Option SetTable.Probe), stand.getD (t.probeStart (txh w k)) = txP w t k c → c ≤ K → K < f + c →
      (∀ (i : Nat) p, L[i]? = some p → p.2 = k → ∃ c', c ≤ c' ∧ c' < K ∧ t.place.toList[i]? = some (way t.mask (txh w k) c')) →
      wpAny (model P w) A (setSearchFrom a (.ref x) (txh w k) true f stand) Q E s
  | 0, c, stand, _, hc, hf, _ => absurd hf (by omega)
  | f + 1, c, stand, hst, hc, hf, hre => by
    obtain ⟨o, ho, hex, hd⟩ := R.ob
    rw [setSearchFrom_succ]
    refine wpAny_bind (wpAny_setState_of ho hd R.fits ?_)
    dsimp only
    refine wp_if_neg R.gw ?_
    try refine wpAny_bind (wpAny_pure ?_)
    have shift : ∀ q, nth t.mask (txP w t k c) q = txP w t k (c + q) := fun q => (nth_add t.mask c _ q).symm
    have jj : ∀ q, (nth t.mask (txP w t k c) q).j = way t.mask (txh w k) (c + q) := fun q => congrArg SetTable.Probe.j (shift q)
    have hashAt : ∀ (i : Nat) p, L[i]? = some p → (es[i]?.map (·.1)).getD 0 = txh w p.2 := fun i p hp => by rw [rows_at R.rows, hp]; rfl
    have sp := go_spec t R.tab.ris R.tab.dm (fun i => (es[i]?.map (·.1)).getD 0) (txh w k) (10 * SetTable.turns t.mask) (K - c) _ (txP_dummy c k) (by omega)
      (fun q hq => by rw [jj]; exact hKb (c + q) (by omega)) (by rw [jj, show c + (K - c) = K by omega]; exact hK)
    rcases sp with ⟨q, i, hq, hi, hh, hno, hpr⟩ | ⟨hno, hpr⟩
    · rw [show t.probe (fun i => (es[i]?.map (·.1)).getD 0) (txh w k) (stand.getD (t.probeStart (txh w k))) = some (.candidate (way t.mask (txh w k) (c + q)) i (txP w t k (c + (q + 1)))) by
        rw [hst, ← jj, ← shift]; exact hpr]
      dsimp only
      rw [jj] at hi
      have il : i < L.length := by
        have h1 := (List.getElem?_eq_some_iff.mp hi).1
        have h2 := R.tab.sz
        rw [List.length_map] at h2
        rw [Array.length_toList] at h1
        omega
      obtain ⟨p, hp⟩ : ∃ p, L[i]? = some p := ⟨_, List.getElem?_eq_getElem il⟩
      have mem : p ∈ L := List.mem_of_getElem? hp
      have ent : es[i]? = some (txh w p.2, Value.ref p.1) := by rw [rows_at R.rows, hp]; rfl
      have tail : wpAny (model P w) A (searchRest a (.ref x) (txh w k) true f es t (way t.mask (txh w k) (c + q)) i (txP w t k (c + (q + 1)))) Q E s := by
        unfold searchRest
        rw [ent]
        dsimp only
        refine wpAny_bind (wpAny_holding (txt_eq hu (R.tup p mem) hx ?_))
        refine wpAny_bind (wpAny_setState_of ho hd R.fits ?_)
        dsimp only
        by_cases kk : p.2 = k
        · exact wp_if_pos (by simp [kk]) (wpAny_pure (hin (List.mem_map.mpr ⟨p, mem, kk⟩)))
        · refine wp_if_neg (by simp [kk]) ?_
          try refine wpAny_bind (wpAny_pure ?_)
          rw [sameMem]
          dsimp only
          have sl : t.slot (way t.mask (txh w k) (c + q)) = .live i := slot_live R.tab.ris hi
          simp only [if_true, sl, ent]
          refine wpAny_bind (wpAny_isSame_ref_self (wpAny_bind (wpAny_pure ?_)))
          simp only [if_true]
          refine wp_if_neg (by simp [kk]) ?_
          refine seekX R hx hu hKf hK hKb hin hout f (c + (q + 1)) _ rfl (by omega) (by omega) fun i0 p0 h0 e0 => ?_
          obtain ⟨c', b1, b2, b3⟩ := hre i0 p0 h0 e0
          refine ⟨c', ?_, b2, b3⟩
          rcases Nat.lt_trichotomy c' (c + q) with z | z | z
          · exact absurd ((hashAt i0 p0 h0).trans (congrArg (txh w) e0)) (hno (c' - c) i0 (by omega) (by rw [jj, show c + (c' - c) = c' by omega]; exact b3))
          · rw [z] at b3
            have s0 := slot_live R.tab.ris b3
            rw [sl] at s0
            injection s0 with s0
            rw [← s0, hp] at h0
            exact absurd ((congrArg Prod.snd (Option.some.inj h0)).trans e0) kk
          · omega
      by_cases hl : t.led = true
      · refine wp_if_neg (by simp [hl]) ?_
        try refine wpAny_bind (wpAny_pure ?_)
        exact tail
      · refine wp_if_pos (by simp [hl]) ?_
        refine wpAny_bind (txt_seen hx (fun y hy => ?_) ?_)
        · obtain ⟨e, he, rfl⟩ := List.mem_map.mp hy
          have he1 : e ∈ es := by
            have : e ∈ es ∧ e.1 = txh w k := by simpa using he
            exact this.1
          rw [R.rows] at he1
          obtain ⟨p2, hp2, rfl⟩ := List.mem_map.mp (by simpa using he1 : e ∈ L.map (txRow w))
          exact ⟨p2.2, p2.1, rfl, R.tup p2 hp2⟩
        · refine wp_if_neg (by decide) ?_
          try refine wpAny_bind (wpAny_pure ?_)
          exact tail
    · rw [show t.probe (fun i => (es[i]?.map (·.1)).getD 0) (txh w k) (stand.getD (t.probeStart (txh w k))) = some (.empty (way t.mask (txh w k) K) none) by
        rw [hst, show way t.mask (txh w k) K = (nth t.mask (txP w t k c) (K - c)).j by rw [jj, show c + (K - c) = K by omega]]
        exact hpr]
      dsimp only
      refine wpAny_pure (hout fun hm => ?_)
      obtain ⟨p0, h0, e0⟩ := List.mem_map.mp hm
      obtain ⟨i0, hi0, e1⟩ := List.getElem_of_mem h0
      have h00 : L[i0]? = some p0 := by rw [List.getElem?_eq_getElem hi0, e1]
      obtain ⟨c', b1, b2, b3⟩ := hre i0 p0 h00 e0
      exact hno (c' - c) i0 (by omega) (by rw [jj, show c + (c' - c) = c' by omega]; exact b3) ((hashAt i0 p0 h00).trans (congrArg (txh w) e0))
theorem findX (R : SetX w s.heap a L es ep t) {x : Addr} {k : List Str} (hx : TxT s.heap k x) (hu : A.units + 8 < cLine) {Q : SetFound → Shared → Prop} (hin : k ∈ L.map (·.2) → Q (.there none) s)
    (hout : ∀ K, k ∉ L.map (·.2) → way t.mask (txh w k) K ∉ t.place.toList → (∀ c, c < K → way t.mask (txh w k) c ∈ t.place.toList) → Q (.free (way t.mask (txh w k) K) false) s) :
    wpAny (model P w) A (setSearch a (.ref x) (txh w k) true) Q E s := (by
  have h1 := R.room
  obtain ⟨K, hKf, hK, hKb⟩ := R.tab.first (by rw [List.length_map]; omega) (txh w k)
  have big : K < 100000 := by
    have : 10 * SetTable.turns t.mask ≤ 1420 := by
      unfold SetTable.turns
      rcases R.tab.mok with e | e | e <;> omega
    omega
  unfold setSearch
  refine seekX R hx hu hKf hK hKb hin (fun hn => hout K hn hK hKb) 100000 0 none rfl (Nat.zero_le _) (by omega) fun i p hp hk => ?_
  have il : i < t.place.toList.length := by
    have h1 := (List.getElem?_eq_some_iff.mp hp).1
    have h2 := R.tab.sz
    rw [List.length_map] at h2
    rw [Array.length_toList]
    omega
  have hj := List.getElem?_eq_getElem il
  obtain ⟨c, hc, e⟩ := R.tab.before hK (i := i) (by rw [List.getElem?_map, hp, ← hk]; rfl) hj
  exact ⟨c, Nat.zero_le _, hc, by rw [hj, e]⟩
  )
theorem range_get {α : Type} (L : List α) : (List.range L.length).filterMap (fun i => L[i]?) = L := (by
  have key : ∀ n, n ≤ L.length → (List.range n).filterMap (fun i => L[i]?) = L.take n := fun n => by
    induction n with
    | zero => intro _; rfl
    | succ n ih =>
      intro hn
      rw [List.range_succ, List.filterMap_append, ih (by omega), List.take_add_one, List.getElem?_eq_getElem (show n < L.length from hn)]
      congr 1
      rw [List.filterMap_cons_some (List.getElem?_eq_getElem (show n < L.length from hn))]; rfl
  rw [key L.length (Nat.le_refl _), List.take_length]
  )
/-- the rows in another order -/
theorem rows_order (hr : es = (L.map (txRow w)).toArray) {od : Array Nat} (hp : od.toList.Perm (List.range L.length)) :
    ∃ L2 : List (Addr × List Str), od.filterMap (es[·]?) = (L2.map (txRow w)).toArray ∧ L2.Perm L ∧ (L2.map fun p => txh w p.2) = od.toList.map fun i => (es.map (·.1)).getD i 0 := (by
  refine ⟨od.toList.filterMap fun i => L[i]?, ?_, ?_, ?_⟩
  · refine Array.toList_inj.mp ?_
    rw [Array.toList_filterMap, List.toList_toArray, List.map_filterMap]
    congr 1
    funext i
    exact rows_at hr i
  · have h1 := hp.filterMap fun i => L[i]?
    rwa [range_get] at h1
  · have key : ∀ l : List Nat, (∀ i ∈ l, i < L.length) → ((l.filterMap fun i => L[i]?).map fun p => txh w p.2) = l.map fun i => (es.map (·.1)).getD i 0 := fun l => by
      induction l with
      | nil => intro _; rfl
      | cons i l ih =>
        intro hl
        have hi := hl i List.mem_cons_self
        rw [List.filterMap_cons_some (List.getElem?_eq_getElem hi), List.map_cons, List.map_cons, ih fun j hj => hl j (List.mem_cons_of_mem _ hj)]
        congr 1
        have e : (es.map (·.1))[i]? = some (txh w (L[i]).2) := by rw [Array.getElem?_map, rows_at hr, List.getElem?_eq_getElem hi]; rfl
        rw [Array.getD_eq_getD_getElem?, e]; rfl
    exact key _ fun i hi => List.mem_range.mp (hp.mem_iff.mp hi)
  )
/-- the table laid anew -/
theorem relayX {o : Obj} (ho : s.heap.get? a = some o) (hex : o.ExactSet) (hd : o.data = .set es ep t) (hr : es = (L.map (txRow w)).toArray) (T : TabOk t (L.map fun p => txh w p.2)) (hm : L.length ≤ t.mask) (nd : (L.map (·.2)).Nodup) (tup : ∀ p ∈ L, TxT s.heap p.2 p.1) (few : L.length < 64) {wanted M : Nat}
    (hw : SetTable.sizeAbove wanted - 1 = M) (hM : MaskOk M) (hw2 : SetTable.sizeAbove wanted ≤ 128) (hn : L.length * 5 < M * 3) {Q : Unit → Shared → Prop}
    (hQ : ∀ h' L' es' ep' t', Heap.SameBut a s.heap h' → SetX w h' a L' es' ep' t' → L'.Perm L → Q () { s with heap := h' }) : wpAny (model P w) A (setRelay a wanted) Q E s := (by
  have sz := rows_size hr
  obtain ⟨t', od, e, hp, T2, em, _, _, _⟩ := relaid_ok t (hs := es.map (·.1)) (wanted := wanted) hw hM (by rw [Array.size_map, sz]; omega)
  rw [Array.size_map, sz] at hp
  obtain ⟨L2, r1, r2, r3⟩ := rows_order hr hp
  rw [← r3] at T2
  have s2 : (od.filterMap (es[·]?)).size = es.size := by rw [rows_size r1, r2.length_eq, sz]
  rw [setRelay_eq]
  refine wpAny_bind (wpAny_setState_of ho hd (tab_fits T (by rw [sz, List.length_map]) (by rw [List.length_map]; exact hm)) ?_)
  dsimp only
  refine wp_if_neg (by rw [sizeLine_eq]; omega) ?_
  try refine wpAny_bind (wpAny_pure ?_)
  rw [e]
  dsimp only
  refine wpAny_bind ?_
  refine wp_if_neg (by rw [s2]; simp) ?_
  try refine wpAny_bind (wpAny_pure ?_)
  refine wpAny_pure ?_
  dsimp only
  refine wpAny_storeSet_of ho hd ?_ (by rw [s2, sz, sizeLine_eq]; omega)
  have sb : Heap.SameBut a s.heap (s.heap.update a (Obj.putSet (od.filterMap (es[·]?)) t')) := Heap.SameBut.update ..
  exact hQ _ L2 _ (ep + 1) t' sb ⟨⟨_, store_at ho hd, ⟨hex.1, hex.2.1, hex.2.2⟩, rfl⟩, r1, T2, (r2.map (·.2)).nodup_iff.mpr nd, fun p hpm => (tup p (r2.mem_iff.mp hpm)).beside ho hd sb, by rw [r2.length_eq, em]; exact hn, by rw [r2.length_eq]; exact few⟩ r2
  )
theorem ins_perm {α : Type} (L : List α) (p : Nat) (x : α) : (L.take p ++ x :: L.drop p).Perm (x :: L) := (by
  have h : (L.take p ++ x :: L.drop p).Perm (x :: (L.take p ++ L.drop p)) := List.perm_middle
  rwa [List.take_append_drop] at h
  )
/-- one more -/
theorem addX (R : SetX w s.heap a L es ep t) {x : Addr} {k : List Str} (hx : TxT s.heap k x) (hu : A.units + 8 < cLine) (hfew : L.length + 1 < 64) {Q : Bool → Shared → Prop}
    (hQ : ∀ b h' L' es' ep' t', Heap.SameBut a s.heap h' → SetX w h' a L' es' ep' t' → (k ∈ L.map (·.2) → L' = L) → (k ∉ L.map (·.2) → L'.Perm ((x, k) :: L)) → Q b { s with heap := h' }) :
    wpAny (model P w) A (setAddHashed a (.ref x) (txh w k)) Q E s := (by
  obtain ⟨o, ho, hex, hd⟩ := R.ob
  have sz := rows_size R.rows
  have room := R.room
  unfold setAddHashed
  refine wpAny_holding ?_
  rw [show (100000 : Nat) = 99999 + 1 from rfl, setAddHashedIn_succ]
  refine wpAny_bind (wpAny_setState_of ho hd R.fits ?_)
  dsimp only
  refine wp_if_neg (by simp [byScan, Value.scannable]) ?_
  try refine wpAny_bind (wpAny_pure ?_)
  refine wpAny_bind (findX R hx hu (fun hm => ?_) fun K hm hK hb => ?_)
  · dsimp only
    exact wpAny_pure (hQ false s.heap L es ep t (Heap.SameBut.refl a s.heap) R (fun _ => rfl) fun z => absurd hm z)
  dsimp only
  refine wpAny_bind (wpAny_setState_of ho hd R.fits ?_)
  dsimp only
  obtain ⟨q1, q2, q3, q4, _, _, _, _, q9⟩ := R.tab.put hK hb
  generalize t.put (way t.mask (txh w k) K) = pt at q1 q3 q4 q9 ⊢
  obtain ⟨t1, p⟩ := pt
  dsimp only at q1 q3 q4 q9 ⊢
  rw [← q1] at q2 q3
  have hin : SetTable.insertAt es p (txh w k, Value.ref x) = ((L.take p ++ (x, k) :: L.drop p).map (txRow w)).toArray := by
    refine Array.toList_inj.mp ?_
    rw [SetTable.toList_insertAt, R.rows, List.toList_toArray, List.toList_toArray, List.map_append, List.map_cons, List.map_take, List.map_drop]; rfl
  have pm := ins_perm L p (x, k)
  have hlen : (L.take p ++ (x, k) :: L.drop p).length = L.length + 1 := pm.length_eq
  rw [show (L.map fun p => txh w p.2).take p ++ txh w k :: (L.map fun p => txh w p.2).drop p = (L.take p ++ (x, k) :: L.drop p).map fun p => txh w p.2 by rw [List.map_append, List.map_cons, List.map_take, List.map_drop]] at q3
  have nd1 : ((L.take p ++ (x, k) :: L.drop p).map (·.2)).Nodup := by
    refine (pm.map (·.2)).nodup_iff.mpr ?_
    rw [List.map_cons]
    exact List.nodup_cons.mpr ⟨hm, R.nd⟩
  generalize SetTable.insertAt es p (txh w k, Value.ref x) = es1 at hin ⊢
  generalize L.take p ++ (x, k) :: L.drop p = L1 at pm hlen q3 nd1 hin
  have sz1 := rows_size hin
  -- whether its hash goes by value alone, or not
  have go : ∀ bv : Bool, wpAny (model P w) A (do
      let t := if bv then t1 else { t1 with plain := false }
      storeSet a es1 t
      if !false && t.tooFull then setRelay a (SetTable.grown (es.size + 1))
      return true) Q E s := fun bv => by
    have tab2 : TabOk (if bv = true then t1 else { t1 with plain := false }) (L1.map fun p => txh w p.2) := by
      cases bv
      · exact ⟨q3.ris, q3.dm, q3.sz, q3.mok, q3.bd, q3.reach⟩
      · exact q3
    have mask2 : (if bv = true then t1 else { t1 with plain := false }).mask = t.mask := by cases bv <;> exact q4
    have fill2 : (if bv = true then t1 else { t1 with plain := false }).fill = L.length + 1 := by
      rw [List.length_map] at q9
      cases bv <;> exact q9
    generalize (if bv = true then t1 else { t1 with plain := false }) = t2 at tab2 mask2 fill2
    dsimp only
    refine wpAny_bind (wpAny_storeSet_of ho hd ?_ (by rw [sz1, hlen, sizeLine_eq]; omega))
    have sb : Heap.SameBut a s.heap (s.heap.update a (Obj.putSet es1 t2)) := Heap.SameBut.update ..
    have ho1 := store_at (es' := es1) (t' := t2) ho hd
    generalize s.heap.update a (Obj.putSet es1 t2) = h1 at sb ho1 ⊢
    have tup1 : ∀ p ∈ L1, TxT h1 p.2 p.1 := fun p hp => by
      rcases List.mem_cons.mp (pm.mem_iff.mp hp) with e | hp
      · rw [e]; exact hx.beside ho hd sb
      · exact (R.tup p hp).beside ho hd sb
    by_cases hf : t2.tooFull = true
    · have full : (L.length + 1) * 5 ≥ t.mask * 3 := by
        have h := hf
        unfold SetTable.tooFull at h
        rw [decide_eq_true_eq, fill2, mask2] at h
        exact h
      have two : (t.mask = 7 ∧ L.length = 4) ∨ (t.mask = 31 ∧ L.length = 18) := by
        rcases R.tab.mok with e | e | e
        · left; omega
        · right; omega
        · exfalso; omega
      rw [sz]
      have up : ∀ M, SetTable.sizeAbove (SetTable.grown (L.length + 1)) - 1 = M → MaskOk M → SetTable.sizeAbove (SetTable.grown (L.length + 1)) ≤ 128 → (L.length + 1) * 5 < M * 3 →
          wpAny (model P w) A (setRelay a (SetTable.grown (L.length + 1))) (fun _ s' => wpAny (model P w) A (pure true) Q E s') E { s with heap := h1 } := fun M g1 g2 g3 g4 => by
        refine relayX (s := { s with heap := h1 }) ho1 ⟨hex.1, hex.2.1, hex.2.2⟩ rfl hin tab2 (by rw [hlen, mask2]; rcases two with ⟨e, e2⟩ | ⟨e, e2⟩ <;> omega) nd1 tup1 (by rw [hlen]; exact hfew) g1 g2 g3 (by rw [hlen]; exact g4) ?_
        intro h2 L2 es2 ep2 t3 sb2 R2 pm2
        exact wpAny_pure (hQ true h2 L2 es2 ep2 t3 (sb.trans sb2) R2 (fun z => absurd z hm) fun _ => pm2.trans pm)
      first
        | (refine wpAny_bind ?_; refine wp_if_pos (by simp [hf]) ?_)
        | (refine wp_if_pos (by simp [hf]) ?_; refine wpAny_bind ?_)
      rcases two with ⟨_, e2⟩ | ⟨_, e2⟩
      · exact up 31 (by rw [e2, size_20]) (.inr (.inl rfl)) (by rw [e2, size_20]; decide) (by omega)
      · exact up 127 (by rw [e2, size_76]) (.inr (.inr rfl)) (by rw [e2, size_76]; decide) (by omega)
    · first
        | refine wp_if_neg (by simp [hf]) ?_
        | (refine wpAny_bind ?_; refine wp_if_neg (by simp [hf]) ?_; refine wpAny_pure ?_)
      refine wpAny_pure (hQ true h1 L1 es1 (ep + 1) t2 sb ⟨⟨_, ho1, ⟨hex.1, hex.2.1, hex.2.2⟩, rfl⟩, hin, tab2, nd1, tup1, ?_, by rw [hlen]; exact hfew⟩ (fun z => absurd z hm) fun _ => pm)
      have h := hf
      unfold SetTable.tooFull at h
      rw [decide_eq_true_eq, fill2, mask2] at h
      rw [hlen, mask2]
      omega
  by_cases pl : t1.plain = true
  · first
      | (refine wpAny_bind ?_; refine wp_if_pos pl ?_; refine txt_byv hx fun v => ?_)
      | refine wp_if_pos pl (wpAny_bind (txt_byv hx fun v => ?_))
    exact go v
  · first
      | (refine wpAny_bind ?_; refine wp_if_neg pl ?_; refine wpAny_pure ?_)
      | refine wp_if_neg pl (wpAny_bind (wpAny_pure ?_))
    exact go true
  )
/-- what the set has of the first i -/
structure GotX (ks : List (Addr × List Str)) (i : Nat) (L : List (Addr × List Str)) : Prop where
  sub : ∀ p ∈ L, p ∈ ks.take i
  all : ∀ p ∈ ks.take i, p.2 ∈ L.map (·.2)
  len : L.length ≤ i
theorem GotX.next {ks L L' : List (Addr × List Str)} {i : Nat} {x : Addr × List Str} (g : GotX ks i L) (h : ks[i]? = some x) (c1 : x.2 ∈ L.map (·.2) → L' = L) (c2 : x.2 ∉ L.map (·.2) → L'.Perm (x :: L)) : GotX ks (i + 1) L' := (by
  have tk : ks.take (i + 1) = ks.take i ++ [x] := by rw [List.take_add_one, h]; rfl
  by_cases c : x.2 ∈ L.map (·.2)
  · rw [c1 c]
    refine ⟨fun p hp => by rw [tk]; exact List.mem_append_left _ (g.sub p hp), fun p hp => ?_, Nat.le_succ_of_le g.len⟩
    rw [tk] at hp
    rcases List.mem_append.mp hp with z | z
    · exact g.all p z
    · rw [List.mem_singleton.mp z]; exact c
  · have pm := c2 c
    refine ⟨fun p hp => ?_, fun p hp => ?_, by rw [pm.length_eq, List.length_cons]; exact Nat.succ_le_succ g.len⟩
    · rw [tk]
      rcases List.mem_cons.mp (pm.mem_iff.mp hp) with e | z
      · rw [e]; exact List.mem_append_right _ (by simp)
      · exact List.mem_append_left _ (g.sub p z)
    · rw [tk] at hp
      rw [(pm.map (·.2)).mem_iff, List.map_cons]
      rcases List.mem_append.mp hp with z | z
      · exact List.mem_cons_of_mem _ (g.all p z)
      · rw [List.mem_singleton.mp z]; exact List.mem_cons_self
  )
theorem SetX.moved {h h' : Heap} (R : SetX w h a L es ep t) (ha : ∀ o, h.get? a = some o → h'.get? a = some o) (ht : ∀ p ∈ L, TxT h' p.2 p.1) : SetX w h' a L es ep t := (by
  obtain ⟨o, ho, r⟩ := R.ob
  exact ⟨⟨o, ha o ho, r⟩, R.rows, R.tab, R.nd, ht, R.room, R.few⟩
  )
theorem setX_new {h : Heap} {led : Bool} (ho : h.get? a = some { cls := .type "set", dict := none, data := .set #[] 0 (.fresh 0 0 led) }) : SetX w h a [] #[] 0 (.fresh 0 0 led) where
  ob := ⟨_, ho, ⟨rfl, rfl, rfl⟩, rfl⟩
  rows := rfl
  tab := ⟨List.Pairwise.nil, rfl, rfl, .inl rfl, fun x hx => (by cases hx), fun i h j hi => (by simp at hi)⟩
  nd := List.nodup_nil
  tup := fun p hp => (by cases hp)
  room := by show 0 * 5 < 7 * 3; decide
  few := by show 0 < 64; decide
/-- the loop of set.update -/
theorem loopX {I : Addr} {fp wr : List Addr} {G : Array GenState → Array GenState → Prop} {n : Nat} {Pv : Nat → Value → Prop} {St : Nat → Shared → Prop} {R : Result → Shared → Prop}
    (W : WalksS P w A.in1 I fp wr G n Pv St) (S : Addr) (hSf : S ∉ fp) (ks : List (Addr × List Str)) (hn : n = ks.length) (few : ks.length < 64) (hval : ∀ i v, Pv i v → ∃ p, ks[i]? = some p ∧ v = .ref p.1)
    (h0 : Heap) (hk : ∀ p ∈ ks, TxT h0 p.2 p.1) (hS0 : h0.get? S = none) (hw0 : ∀ b ∈ wr, h0.get? b = none) (hu : A.in1.units + 8 < cLine) :
    ∀ (k i : Nat) (s : Shared), n - i = k → i ≤ n → St i s → (∀ b o, h0.get? b = some o → s.heap.get? b = some o) → (∃ L es ep t, SetX w s.heap S L es ep t ∧ GotX ks i L) →
      (∀ s' L es ep t, Moved (S :: wr) G s s' → SetX w s'.heap S L es ep t → GotX ks n L → R (.ok (.ret .none)) s') →
      codeAny (model P w) A (.builtin "set.update.loop" ⟨[.ref S, .ref I], []⟩) R s := (by
  have up : ∀ b ∈ wr, b ∈ S :: wr := fun b hb => List.mem_cons_of_mem _ hb
  have old : ∀ {s s' : Shared}, Moved wr G s s' → (∀ b o, h0.get? b = some o → s.heap.get? b = some o) → ∀ b o, h0.get? b = some o → s'.heap.get? b = some o := fun hm q b o e =>
    hm.heap b o (fun hb => by rw [hw0 b hb] at e; cases e) (q b o e)
  have tx : ∀ {h' : Heap}, (∀ b o, h0.get? b = some o → h'.get? b = some o) → ∀ p ∈ ks, TxT h' p.2 p.1 := fun q p hp => (hk p hp).stay fun c o _ _ e _ => q c o e
  have moved : ∀ {s s' : Shared} {i : Nat} {L es ep t}, Moved wr G s s' → (∀ b o, h0.get? b = some o → s'.heap.get? b = some o) → GotX ks i L → SetX w s.heap S L es ep t → SetX w s'.heap S L es ep t := fun hm q g r => r.moved (fun o e => hm.heap S o (fun z => hSf (W.sub _ z)) e) fun p hp => tx q p (List.mem_of_mem_take (g.sub p hp))
  intro k
  induction k with
  | zero =>
    intro i s hk' hi hst q ⟨L, es, ep, t, r, g⟩ hR
    obtain rfl : i = n := by omega
    refine codeAny_builtin F.entry_set_update_loop ?_
    rw [Around.under_plainId F.plain_set_update_loop _]
    show wpAny _ A.in1 (pyNext (.ref I) >>= _) _ _ s
    refine wpAny_bind (W.done s _ _ hst fun s' hm => ?_)
    show wpAny _ A.in1 (ret Value.none) _ _ s'
    exact wpAny_pure (hR s' L es ep t (hm.mono up) (moved hm (old hm q) g r) g)
  | succ k ih =>
    intro i s hk' hi hst q ⟨L, es, ep, t, r, g⟩ hR
    have hlt : i < n := by omega
    refine codeAny_builtin F.entry_set_update_loop ?_
    rw [Around.under_plainId F.plain_set_update_loop _]
    show wpAny _ A.in1 (pyNext (.ref I) >>= _) _ _ s
    refine wpAny_bind (W.item i s _ _ hlt hst fun v s' hP hst' hm => ?_)
    obtain ⟨p, hp, rfl⟩ := hval i v hP
    have q1 := old hm q
    have hx := tx q1 p (List.mem_of_getElem? hp)
    show wpAny _ A.in1 (holding [Value.ref p.1] (setAdd S (.ref p.1)) >>= _) _ _ s'
    refine wpAny_bind (wpAny_holding ?_)
    unfold setAdd
    refine wpAny_holding ?_
    refine wpAny_bind ((nestedKind P w).pyHash hu ⟨hx, txt_depth _⟩ ?_)
    refine addX (s := { s' with toks := s'.toks + (nestedKind P w).draws (.tup (p.2.map NestedKey.text)) }) (show SetX w s'.heap S L es ep t from moved hm q1 g r) hx hu (by have := g.len; omega) fun b h' L' es' ep' t' hsb r2 c1 c2 => ?_
    have q2 : ∀ b o, h0.get? b = some o → h'.get? b = some o := fun b o e => (hsb.2 b (fun z => by rw [z, hS0] at e; cases e)).trans (q1 b o e)
    refine wpAny_pure ⟨plainId_quiet F.plain_set_update_loop _, ih (i + 1) _ (by omega) hlt (W.frame _ s' _ _ hst' (Nat.le_add_right _ _) fun b hb o e => ?_) q2 ⟨L', es', ep', t', r2, g.next hp c1 c2⟩ fun s'' L2 es2 ep2 t2 hm'' r3 g3 => ?_⟩
    · rw [hsb.2 b (fun h : b = S => hSf (by rw [← h]; exact hb))]; exact e
    · refine hR s'' L2 es2 ep2 t2 (Moved.trans W.gtrans ((hm.mono up).then_heap (Nat.le_add_right _ _) fun b o hb e => ?_) hm'') r3 g3
      rw [hsb.2 b (fun h : b = S => hb (by rw [h]; exact List.mem_cons_self))]; exact e
  )
end
end L2
namespace PySem
section
variable {prog : Program} {w : World} {A : Around} {E : Value → Shared → Prop} {s : Shared}
set_option maxHeartbeats 6400000 in
theorem call_set_tx {l : Addr} {items : Array Value} {ks : List (Addr × List Str)} {Q : Value → Shared → Prop}
    (hh : A.handled = none) (hl : s.heap.IsList l items) (hlen : items.size = ks.length) (hval : ∀ (i : Nat) (v : Value), items[i]? = some v → ∃ p, ks[i]? = some p ∧ v = .ref p.1) (hk : ∀ p ∈ ks, L2.TxT s.heap p.2 p.1) (few : ks.length < 64) (hu : A.units + 11 < cLine)
    (h : ∀ (h' : Heap) (tk : Nat) L es ep t, L2.SetX w h' s.heap.objs.size L es ep t → L2.GotX ks ks.length L →
      (∀ b o, b < s.heap.objs.size → s.heap.get? b = some o → h'.get? b = some o) → Q (.ref s.heap.objs.size) { s with heap := h', toks := tk }) :
    wpAny (model prog w) A (call (.type "set") [.ref l]) Q E s := (by
  obtain ⟨c, tl, hmro⟩ := F.called_set.mro
  have hmade := F.called_set.made
  have hsub := F.called_set.sub
  refine wpAny_call (codeAny_of_tree ?_)
  show wpAny _ _ (callAny (.type "set") _) _ _ _
  refine wpAny_pure ⟨Code.quiet_builtin _ (by decide +kernel), codeAny_builtin F.entry_type_call ?_⟩
  rw [Around.under_plain (weight_type_call_type "set" [.ref l] []) rfl]
  have h1 := F.called_set.notType
  have h2 := F.called_set.canCreate
  have hct := F.typeCall_set_1 (.ref l)
  repeat (any_goals (first | assumption | wp_step))
  refine codeAny_mono (code_set_new_1 (.ref l) (E := E) (Q₁ := fun obj s₁ => ∃ led : Bool, obj = .ref s.heap.objs.size ∧ s₁ = { s with heap := s.heap.push { cls := .type "set", dict := none, data := .set #[] 0 (.fresh 0 0 led) } }) fun led => ⟨led, rfl, rfl⟩) fun r s₁ hr => ?_
  cases r with
  | error e => exact hr
  | ok fl =>
    cases fl with
    | ret obj =>
      obtain ⟨led, rfl, rfl⟩ := hr
      have hS : (s.heap.push { cls := .type "set", dict := none, data := .set #[] 0 (.fresh 0 0 led) }).get? s.heap.objs.size = some { cls := .type "set", dict := none, data := .set #[] 0 (.fresh 0 0 led) } := Heap.get?_push_size _ rfl
      have hT : Shared.TypeIs { s with heap := s.heap.push { cls := .type "set", dict := none, data := .set #[] 0 (.fresh 0 0 led) } } (.ref s.heap.objs.size) "set" := ⟨_, hS, rfl⟩
      have hli := F.called_set.init.lookup
      have hbi := F.called_set.init.bind (.ref s.heap.objs.size)
      repeat (any_goals (first | assumption | wp_step))
      refine codeAny_mono (codeAny_call_builtin (R := wants (fun r s₂ => r = .none ∧ ∃ h' tk L es ep t, s₂ = { s with heap := h', toks := tk } ∧
          L2.SetX w h' s.heap.objs.size L es ep t ∧ L2.GotX ks ks.length L ∧
          (∀ b o, b < s.heap.objs.size → s.heap.get? b = some o → h'.get? b = some o)) E) F.called_set.init.plain F.entry_set_init (check_set_init_1 hT ?_)) fun r₂ s₂ hr₂ => ?_
      · obtain ⟨ol, hol, hcl, nl, hdl⟩ := hl
        obtain ⟨ocls, odict, odata, oslots⟩ := ol
        simp only at hcl hdl
        subst hcl; subst hdl
        have hol' : (s.heap.push { cls := .type "set", dict := none, data := .set #[] 0 (.fresh 0 0 led) }).get? l = some { cls := .type "list", dict := odict, data := .seq items nl, slots := oslots } := Heap.get?_push_of_some _ hol
        have hsls := F.sub_list_set
        have hslf := F.sub_list_frozenset
        have hne : (Value.type "list" == Value.type "dict") = false := by decide
        have hl1 : (s.heap.push { cls := .type "set", dict := none, data := .set #[] 0 (.fresh 0 0 led) }).IsList l items := ⟨_, hol', rfl, nl, rfl⟩
        unfold Builtin.«set.__init__» noKeywords Builtin.Frozenset.updateFrom
        generalize hPI : pyIter = PI
        wp_walk
        subst hPI
        refine wpAny_pyIter_list hl1 ?_
        refine wpAny_bind (wpAny_runValue ?_)
        have hlS : l < s.heap.objs.size := Heap.lt_size hol
        have hh3 : A.in1.in1.in1.handled = none := by simp [hh]
        have hneI : l ≠ (s.heap.push { cls := .type "set", dict := none, data := .set #[] 0 (.fresh 0 0 led) }).objs.size := by
          rw [Heap.size_push]; exact Nat.ne_of_lt (Nat.lt_succ_of_lt hlS)
        have hSf : s.heap.objs.size ∉ [(s.heap.push { cls := .type "set", dict := none, data := .set #[] 0 (.fresh 0 0 led) }).objs.size, l] := by
          rw [Heap.size_push]; simp only [List.mem_cons, List.mem_singleton, List.not_mem_nil, or_false, not_or]
          exact ⟨Nat.ne_of_lt (Nat.lt_succ_self _), Nat.ne_of_gt hlS⟩
        have none_of : ∀ b, s.heap.objs.size ≤ b → s.heap.get? b = none := fun b hb => by
          cases q : s.heap.get? b with
          | none => rfl
          | some o => exact absurd (Nat.lt_of_lt_of_le (Heap.lt_size q) hb) (Nat.lt_irrefl _)
        refine L2.loopX ((Walks.list hh3 _ l hneI items).toS) s.heap.objs.size
          hSf ks hlen few hval s.heap hk (none_of _ (Nat.le_refl _)) (fun b hb => none_of b (by
            rw [List.mem_singleton.mp hb, Heap.size_push]
            exact Nat.le_succ _)) (by show A.units + 3 + 8 < cLine; omega) (items.size - 0) 0 _ (by omega) (Nat.zero_le _)
          ⟨⟨_, Heap.get?_push_size _ rfl, rfl, rfl⟩, (hl1.push _)⟩ (fun b o e => Heap.get?_push_of_some _ (Heap.get?_push_of_some _ e)) ?hS0 ?hR
        case hS0 =>
          have hget : ((s.heap.push { cls := .type "set", dict := none, data := .set #[] 0 (.fresh 0 0 led) }).push { cls := .type "list_iterator", data := .fields #[.ref l, .int 0 0] }).get? s.heap.objs.size
              = some { cls := .type "set", dict := none, data := .set #[] 0 (.fresh 0 0 led) } := Heap.get?_push_of_some _ hS
          exact ⟨[], #[], 0, _, L2.setX_new hget, ⟨fun p hp => (by cases hp), fun p hp => (by simp at hp), Nat.le_refl _⟩⟩
        case hR =>
          intro s' L es ep t hm hS' g3
          rw [hlen] at g3
          obtain ⟨h', g', d', tk', os'⟩ := s'
          have eg : g' = s.gens := hm.gens
          have ed : d' = s.drawn := hm.drawn
          have eo : os' = s.os := hm.os
          subst eg; subst ed; subst eo
          show wpAny _ _ _ _ _ _
          refine wpAny_pure ?_
          show wpAny _ _ (ret Value.none) _ _ _
          refine wpAny_pure ⟨rfl, h', tk', L, es, ep, t, rfl, hS', g3, fun b o hb e => ?_⟩
          have hb1 : b ≠ s.heap.objs.size := Nat.ne_of_lt hb
          have hb2 : b ≠ (s.heap.push { cls := .type "set", dict := none, data := .set #[] 0 (.fresh 0 0 led) }).objs.size := by
            rw [Heap.size_push]; exact Nat.ne_of_lt (Nat.lt_succ_of_lt hb)
          exact hm.heap b o (by simp only [List.mem_cons, List.mem_singleton, List.not_mem_nil, or_false, not_or]; exact ⟨hb1, hb2⟩) (Heap.get?_push_of_some _ (Heap.get?_push_of_some _ e))
      · cases r₂ with
        | error e => exact hr₂
        | ok fl₂ =>
          cases fl₂ with
          | ret r =>
            obtain ⟨rfl, h', tk, L, es, ep, t, rfl, hS', g3, hk'⟩ := hr₂
            repeat (any_goals (first | assumption | wp_step))
            exact h _ _ _ _ _ _ hS' g3 hk'
          | _ => exact hr₂.elim
    | _ => exact hr.elim
  )
end
end PySem
namespace L2
open PySem PySem.Spec PyProof.Rows
section
variable {X : Cx}
theorem nks_text : ∀ k : List Str, nkOfs (k.map PyData.str) = k.map NestedKey.text
  | [] => rfl
  | x :: k => by
    show NestedKey.text x :: nkOfs (k.map PyData.str) = _
    rw [nks_text k]; rfl
theorem kOks_text : ∀ k : List Str, kOks (k.map PyData.str) = true
  | [] => rfl
  | x :: k => by
    show (true && kOks (k.map PyData.str)) = true
    rw [kOks_text k]; rfl
theorem nd_le {α : Type} [DecidableEq α] : ∀ {l l' : List α}, l.Nodup → (∀ x ∈ l, x ∈ l') → l.length ≤ l'.length
  | [], _, _, _ => Nat.zero_le _
  | x :: l, l', nd, h => by
    obtain ⟨n1, n2⟩ := List.nodup_cons.mp nd
    have hx := h x List.mem_cons_self
    have := nd_le (l := l) (l' := l'.erase x) n2 fun y hy => (List.mem_erase_of_ne (show y ≠ x from fun z => n1 (z ▸ hy))).mpr (h y (List.mem_cons_of_mem _ hy))
    have e := List.length_erase_of_mem hx
    have p := List.length_pos_of_mem hx
    rw [List.length_cons]
    omega
theorem nd_eq {α : Type} [DecidableEq α] : ∀ {l l' : List α}, l.Nodup → (∀ x ∈ l, x ∈ l') → l'.length ≤ l.length → l'.Nodup
  | [], l', _, _, hl => by
    have : l' = [] := List.length_eq_zero_iff.mp (Nat.le_zero.mp hl)
    rw [this]; exact List.nodup_nil
  | x :: l, l', nd, h, hl => by
    obtain ⟨n1, n2⟩ := List.nodup_cons.mp nd
    have hx := h x List.mem_cons_self
    have e := List.length_erase_of_mem hx
    have p := List.length_pos_of_mem hx
    rw [List.length_cons] at hl
    have sub : ∀ y ∈ l, y ∈ l'.erase x := fun y hy => (List.mem_erase_of_ne (show y ≠ x from fun z => n1 (z ▸ hy))).mpr (h y (List.mem_cons_of_mem _ hy))
    refine (List.perm_cons_erase hx).nodup_iff.mpr (List.nodup_cons.mpr ⟨fun z => ?_, nd_eq n2 sub (by omega)⟩)
    have := nd_le (l := x :: l) (l' := l'.erase x) nd fun y hy => (List.mem_cons.mp hy).elim (fun q => q ▸ z) (sub y)
    rw [List.length_cons] at this
    omega
/-- how many are met, of pairs whose seconds are unlike -/
theorem gotX_len {ks L : List (Addr × List Str)} (g : GotX ks ks.length L) (nd : (L.map (·.2)).Nodup) : L.length ≤ ks.length ∧ (L.length = ks.length ↔ (ks.map (·.2)).Nodup) := (by
  have sub : ∀ k ∈ L.map (·.2), k ∈ ks.map (·.2) := fun k hk => by
    obtain ⟨p, hp, rfl⟩ := List.mem_map.mp hk
    have := g.sub p hp
    rw [List.take_length] at this
    exact List.mem_map_of_mem this
  have all : ∀ k ∈ ks.map (·.2), k ∈ L.map (·.2) := fun k hk => by
    obtain ⟨p, hp, rfl⟩ := List.mem_map.mp hk
    exact g.all p (by rw [List.take_length]; exact hp)
  refine ⟨g.len, fun e => ?_, fun e => ?_⟩
  · exact nd_eq nd sub (by rw [List.length_map, List.length_map]; omega)
  · have h2 := nd_le e all
    rw [List.length_map, List.length_map] at h2
    have := g.len
    omega
  )
/-- len(set(xs)), xs a list of numbers and texts, or one of tuples of texts -/
def tLenSetA (K : PySem.W.Frag) (ta : TE) : TE := fun σ H Q => ta σ H fun x H1 => ∃ (l : Addr), x = V.ref l ∧ ((∃ ks : List Key, SqL K H1 l (ks.map kV) ∧ ks.length ≤ 1000 ∧ Q (.int (metK ks).length) H1) ∨
  ∃ ps : List (Addr × List Str), SqL K H1 l (ps.map fun p => V.ref p.1) ∧ (∀ p ∈ ps, Dp K H1 (.ref p.1) (.tuple (p.2.map PyData.str))) ∧ ps.length < 64 ∧ ∀ m : Nat, m ≤ ps.length → (m = ps.length ↔ (ps.map (·.2)).Nodup) → Q (.int m) H1)
theorem pe_lenSetA {a : Expr} {ta : TE} {p p2 q pos : Pos} (hc : X.calm = true) (hu : X.A.units + 65 < cLine) (hm : X.mg "len" = none) (hm2 : X.mg "set" = none) (ha : PE X a ta) (hg : Gl X "len" := by rfl) (hg2 : Gl X "set" := by rfl)
    (na : starEach [a] X.env = (false, eval a X.env) :: starEach [] X.env := by rfl) : PE X (.Call (.Name "len" p) [.Call (.Name "set" p2) [a] [] q] [] pos) (tLenSetA X.K ta) := (by
  refine ⟨fun pins s σ H Q I h => ?_⟩
  refine Call_ (ld_blt I hg hm boot_len ?_)
  refine PyProof.Rows.callWith_builtin1 (PyProof.Rows.args_cons ?_ rfl) rfl rfl
  refine Call_ (ld_blt I hg2 hm2 boot_set ?_)
  refine PyProof.Rows.callWith_type1 (PyProof.Rows.args_cons (thn (ha.run pins s σ H _ I h) fun v s1 ⟨x, H1, I1, r1, q1⟩ => PyProof.Rows.args_nil ?_) na) na rfl
  obtain ⟨l, rfl, q1⟩ := q1
  cases r1
  rcases q1 with ⟨ks, hq, h1, q1⟩ | ⟨ps, hq, hd, h1, q1⟩
  · obtain ⟨its, r, pl, hz⟩ := I1.list hq
    have hl : its.toArray.size = ks.length := by rw [List.size_toArray, ← r.length, List.length_map]
    refine PySem.call_set_listK (ks := ks) (I1.ok.hd hc) pl.isList hl.symm (fun i v hv => ?_) (by rw [hl]; unfold scanBound; omega) fun h' tk hS hk => ?_
    · have hi : i < ks.length := by rw [← hl]; exact (Array.getElem?_eq_some_iff.mp hv).1
      obtain ⟨u, hu, ru⟩ := r.get (i := i) (x := kV ks[i]) (by rw [List.getElem?_map, List.getElem?_eq_getElem hi]; rfl)
      have : v = u := by
        have : its[i]? = some v := by simpa using hv
        rw [this] at hu
        exact Option.some.inj hu
      subst this
      exact ⟨ks[i], List.getElem?_eq_getElem hi, kV_is ru, key_scan ru⟩
    · refine PyProof.Rows.args_nil ?_
      obtain ⟨o, es, ep, t, ho, hex, hd, _, _, _, hf, hn⟩ := hS
      have I2 : Inv X pins σ H1 { s1 with heap := h', toks := tk } := I1.kept fun b o e => hk b o (Heap.lt_size e) e
      have hle := metK_le (ks := ks)
      exact call_len_set ho hex hd hf (by rw [hn]; omega) ⟨.int (metK ks).length, H1, I2.tok _, ⟨_, by rw [hn]⟩, q1⟩
  · obtain ⟨its, r, pl, hz⟩ := I1.list hq
    have hl : its.toArray.size = ps.length := by rw [List.size_toArray, ← r.length, List.length_map]
    refine PySem.call_set_tx (ks := ps) (I1.ok.hd hc) pl.isList hl (fun i v hv => ?_) (fun p hp => ?_) h1 (by omega) fun h' tk L es ep t hS g hk => ?_
    · have hi : i < ps.length := by rw [← hl]; exact (Array.getElem?_eq_some_iff.mp hv).1
      obtain ⟨u, hu, ru⟩ := r.get (i := i) (x := V.ref ps[i].1) (by rw [List.getElem?_map, List.getElem?_eq_getElem hi]; rfl)
      have : v = u := by
        have : its[i]? = some v := by simpa using hv
        rw [this] at hu
        exact Option.some.inj hu
      subst this
      exact ⟨ps[i], List.getElem?_eq_getElem hi, ru⟩
    · have := nk_is I1 _ _ (.ref p.1) (hd p hp) (kOks_text p.2) rfl
      unfold TxT
      rwa [show nkOf (.tuple (p.2.map PyData.str)) = .tup (p.2.map NestedKey.text) by
        show NestedKey.tup (nkOfs _) = _
        rw [nks_text]] at this
    · refine PyProof.Rows.args_nil ?_
      obtain ⟨o, ho, hex, hd2⟩ := hS.ob
      have I2 : Inv X pins σ H1 { s1 with heap := h', toks := tk } := I1.kept fun b o e => hk b o (Heap.lt_size e) e
      have n := rows_size hS.rows
      obtain ⟨g1, g2⟩ := gotX_len g hS.nd
      have room := hS.room
      exact call_len_set ho hex hd2 (tab_fits hS.tab (by rw [n, List.length_map]) (by rw [List.length_map]; omega)) (by rw [n]; omega) ⟨.int L.length, H1, I2.tok _, ⟨_, by rw [n]⟩, q1 L.length g1 g2⟩
  )
end
end L2
namespace Dl
open PySem PySem.Spec PyProof.Rows L2
/-- tuples of texts -/
def isTx (d : PyData) : Prop := ∃ k : List Str, d = .tuple (k.map PyData.str)
section
variable {X : Cx} {a : Expr} {ta : TD} {p p2 pos q : Pos}
def uLenSetA (ta : TD) : TD := fun c Q => ta c fun x c1 => asL x fun ds => ((ds.length ≤ 1000 ∧ ∀ d ∈ ds, isAt d) ∨ (ds.length < 64 ∧ ∀ d ∈ ds, isTx d)) ∧ ∀ m : Nat, m ≤ ds.length → (m = ds.length ↔ ds.Nodup) → Q (.int m) c1
theorem dpa_txt {K : PySem.W.Frag} {G : Hp} : ∀ {ds : List PyData} {vs : List V}, DpAll K G vs ds → (∀ d ∈ ds, isTx d) → ∃ ps : List (Addr × List Str), vs = ps.map (fun p => V.ref p.1) ∧ ds = ps.map (fun p => .tuple (p.2.map PyData.str)) ∧ ∀ p ∈ ps, Dp K G (.ref p.1) (.tuple (p.2.map PyData.str))
  | [], _, h, _ => by cases h; exact ⟨[], rfl, rfl, fun p hp => by cases hp⟩
  | d :: ds, _, h, t => by
    cases h with
    | cons h1 h2 =>
      obtain ⟨k, rfl⟩ := t d List.mem_cons_self
      obtain ⟨ps, rfl, rfl, e3⟩ := dpa_txt h2 fun x hx => t x (List.mem_cons_of_mem _ hx)
      obtain ⟨b, us, rfl, _, _⟩ := dp_tup h1
      refine ⟨(b, k) :: ps, rfl, rfl, fun p hp => ?_⟩
      rcases List.mem_cons.mp hp with rfl | z
      · exact h1
      · exact e3 p z
theorem d_lenSetA (hc : X.calm = true) (hu : X.A.units + 65 < cLine) (hm : X.mg "len" = none) (hm2 : X.mg "set" = none) (ha : DE X a ta) (hg : Gl X "len" := by rfl) (hg2 : Gl X "set" := by rfl)
    (na : starEach [a] X.env = (false, eval a X.env) :: starEach [] X.env := by rfl) : DE X (.Call (.Name "len" p) [.Call (.Name "set" p2) [a] [] q] [] pos) (uLenSetA ta) := (by
  obtain ⟨tea, pa, va⟩ := ha.ex
  refine ⟨_, pe_lenSetA hc hu hm hm2 pa hg hg2 na, fun B c s G H Q R st q k => va B c s G H _ _ st q fun v x c1 G1 H1 st1 e1 d1 q1 => ?_⟩
  obtain ⟨ds, rfl, hat, q1⟩ := asL_of q1
  obtain ⟨l, vs, rfl, h1, h2⟩ := dp_lst d1
  refine ⟨l, rfl, ?_⟩
  rcases hat with ⟨hl, hat⟩ | ⟨hl, hat⟩
  · refine .inl ⟨ds.map kOf, by rw [kVs_vAt hat, ← dpa_at hat h2]; exact Same.seq st1.sub h1, by rw [List.length_map]; exact hl, ?_⟩
    refine k _ _ c1 G1 H1 st1 e1 (.int _) (q1 (metK (ds.map kOf)).length ?_ ?_)
    · have := metK_le (ks := ds.map kOf)
      rwa [List.length_map] at this
    · have := metK_nd (ks := ds.map kOf)
      rw [List.length_map, nodup_keys hat] at this
      exact this
  · obtain ⟨ps, rfl, rfl, e3⟩ := dpa_txt h2 hat
    rw [List.length_map] at hl q1
    refine .inr ⟨ps, Same.seq st1.sub h1, fun p hp => dp_mono st1.sub _ _ (e3 p hp), hl, fun m h3 h4 => k _ _ c1 G1 H1 st1 e1 (.int _) (q1 m h3 (h4.trans ?_))⟩
    unfold List.Nodup
    rw [List.pairwise_map, List.pairwise_map]
    have inj : ∀ {k k' : List Str}, PyData.tuple (k.map PyData.str) = .tuple (k'.map PyData.str) → k = k' := fun e => by
      injection e with e
      exact (List.map_inj_right (fun x y e => by injection e)).mp e
    exact ⟨fun z => z.imp fun y e => y (inj e), fun z => z.imp fun y e => y (by rw [e])⟩
  )
end
end Dl

namespace Bores
open PySem PySem.Spec PyProof.Rows L2 Dl
def topS (i : Nat) : Stmt := PySem.Challenge.pw_bores_k07_texts_refused.main.body.getD i (.Pass ⟨0, 0, 0, 0⟩)
local macro_rules | `(tactic| walk_at "wp") => `(tactic| simp (maxSteps := 1000000) only [↓reduceIte, uLenSetA, oLstL, zPlPut, zPlAppY, zPlAppX, xTupL, aoLast, aoCons, uLenPl, oTl0, ↓asOTx_d, ↓asOTx_o, yD, yX, yNil, yCons, yTup, zSeqY, zIfY, zRaiseY, zExY, zSetXY, zRetXY, yCallA, yCall, ↓retE_k, uIsY, zTryL, ↓atY_cons, ↓ret_wd, ↓ret_wo, ↓ret_wt, kC, ↓asTr_t, ↓asDat_d, ↓asDs_l, ↓asDs_n, ↓asLs_l, ↓asOT_l, ↓asOT_t, ↓asOT_ll, pVar, pIx, uPl, uPlV, zPlApp, uDkGet, zDkPut, ↓asOw_o, ↓mvS_d, ↓mvS_f, ↓mvS_o, zRetX, ↓ret_xd, ↓ret_xf, ↓ret_xo, ↓retA_xd, ↓retA_xf, ↓retA_xo, ↓ret_vd, ↓ret_vo, OT.areD, OT.isD, OT.toDs, OT.toD, OT.upd, OT.wch, OT.ch, isNo, ↓retA_kO, ↓retA_kD, ↓retA_kDo, ↓retA_kS, ↓asBs_m, ↓asSs_m, fAll, fStr, ↓fIntS_i, ↓fIntS_b, ↓fIntS_s, oLcN, fSortST, zSeqX, zIfX, zRaise, ↓bare_d, ↓bare_o, ↓bare_l, ↓bare_no, ↓bare_f, ↓bare_tr, ↓bare_g, ↓bare_P, ↓bare_dic, oDic0, zSetK, uDin, ↓asDic_d, zDput, fMin2S, fMax2S, uLenSet, fInTS, oSplit, S.f.injEq, eq_self, ↓fAddA_i, ↓fAddA_s, ↓fAddA_t, xLcY, zForE, prNil, prCons, oDkL, uDkIn, fMulS, uChain, oRep, fJoin, uV2, fSortS, ↓slW_d, ↓slW_o, ↓slW_P, ↓slW_s, ↓hasS_d, ↓hasS_o, ↓hasS_f, ↓hasS_s, uV, uN, u1, o1, o2, oN, ↓fIn_l, ↓fIn_s, fCat, ↓fList_l, ↓fList_t, ↓fTup_l, ↓fTup_t, ↓lstR_l, ↓lstR_P, zM1, fApp, zIns, ↓slF_d, ↓slF_o, ↓slF_s, uVf, pNo, pSo, ↓fSl_s, ↓fSl_t, uSl, oSlN, ↓scal_n, ↓scal_b, ↓scal_i, ↓scal_s, ↓kS_d, ↓ret_S, rNil, rD, rS, uCallA, ↓toS_d, ↓toS_f, ↓toS_s, ↓slS_0, ↓slS_s, ↓retA_d, ↓retA_o, ↓retA_O, ↓backL_n, ↓backL_s, ↓backL_d, ↓backL_f, ↓lok_n, ↓lok_s, ↓lok_d, ↓lok_f, ↓lent_n, ↓lent_s, ↓lent_d, ↓lent_f, bYes, oLc, ↓clr_n, ↓clr_c, ↓clr2_n, ↓clr2_c, ↓rest_n, ↓rest_c, ↓keep1_d, ↓keep1_o, ↓keep1_f, ↓keep1_no, ↓keep1_s, ↓asLL_l, oLL0, zLLn, zLLa, uLLlen, List.mem_cons, List.not_mem_nil, Nat.reduceEqDiff, eqv_list, eqv_tuple, eqv_none, ↓asI_i, ↓asB_b, ↓asS_s, ↓asL_l, ↓asT_t, ↓slD_0, ↓slD_s, ↓slO_0, ↓slO_s, ↓asR_l, ↓fAdd_i, ↓fAdd_s, ↓ixbo_0, ↓ixbo_1, ↓ixbo_2, ↓ixbo_3, ↓ixD_l, ↓ixD_t, ↓ixD_s, ↓arg2_2, ↓fLen1_l, ↓fLen1_t, ↓fLen1_s, ↓asC_c, ↓asQ_l, ↓asQ_t, ↓asQ_s, ↓kD_d, ↓kD_o, ↓kO_o, ↓fz_l, ↓fz_P, ↓fz_ll, ↓ret_d, ↓ret_o, ↓ret_O, ↓retL_d, ↓retL_o, ↓retL_O, ↓atD_0, ↓atD_1, ↓atD_2, ↓atD_3, ↓atD_b1, ↓atD_b2, ↓atD_b3, ↓ixP_30, ↓ixP_31, ↓ixP_32, ↓if_true, ↓if_false, zNext, zSeq, zSet, zSetO, zRet, zRetO, zRetP, zIf, zAsg, zPut, gN, gsNil, gsCons, gT, uVar, uC, uFz, u2, fI, fI0, fEq, uCB, wB, wNot, wAnd, wOr, uAnd, uOr, aNil, aCons, uTup, oLst, fIx, oVar, iSeq, iR1, uCall, oCall, uLend, oLend, shaped_iff, sh_non, sh_int, sh_bool, sh_str, eqv_int, eqv_str, eqv_bool, ixN_30, ixN_31, ixN_32, ixN_20, ixN_21, atI_0, atI_1, atI_2, atI_3, atI_b1, atI_b2, atI_b3, List.length_map, Int.reduceEq, forall_const, implies_true, and_assoc, sz_0, sz_1, sz_2, sz_3, sz_4, sz_5, sz_6, sz_7, sz_8, Bool.not_eq_true', beq_eq_false_iff_ne, beq_iff_eq, ne_eq, Bool.and_eq_true, Bool.or_eq_true, decide_eq_false_iff_not, not_false_eq_true, not_true_eq_false, Bool.not_true, Bool.not_false, isS_n, isS_b, isS_i, isS_s, isS_l, isS_t, isT_n, isT_b, isT_i, isT_s, isT_l, isT_t, isN_n, isN_b, isN_i, isN_s, isN_l, isN_t, ca_0, ca_1, ca_2, ca_3, ca_4, ca_5, ca_6, Int.reduceToNat, Int.toNat_natCast, Int.reducePow, Int.reduceMul, Int.reduceLT, Int.reduceLE, Int.reduceNeg, zFor, List.replicate, List.length_cons, List.length_nil, List.nil_append, List.cons_append, List.append_nil, List.map_cons, List.map_nil, List.set_cons_zero, List.set_cons_succ, List.getElem?_cons_zero, List.getElem?_cons_succ, Option.some.injEq, S.d.injEq, S.o.injEq, Res.lst.injEq, Res.lstP.injEq, PyData.int.injEq, PyData.str.injEq, PyData.bool.injEq, PyData.list.injEq, PyData.tuple.injEq, List.cons.injEq, reduceCtorEq, exists_eq_left', exists_eq_left, exists_eq_right, exists_eq_right', true_and, and_true, false_and, and_false, exists_false, false_or, or_false, exists_and_left, exists_and_right, exists_eq', exists_eq, exists_const, Bool.false_eq_true, ite_true, ite_false, decide_eq_true_eq, Nat.sub_self, Nat.zero_add, Nat.add_sub_cancel, Nat.reduceSub, Nat.reduceAdd])
def fnsL : List He.DefD := [⟨("is_name", none), "is_name", "is_name", defArgs (topS 10), defBody (topS 10), defScope (topS 10), [], []⟩, ⟨("is_number", none), "is_number", "is_number", defArgs (topS 11), defBody (topS 11), defScope (topS 11), [], []⟩, ⟨("words_of", none), "words_of", "words_of", defArgs (topS 12), defBody (topS 12), defScope (topS 12), [], []⟩, ⟨("rows_of", none), "rows_of", "rows_of", defArgs (topS 13), defBody (topS 13), defScope (topS 13), [], []⟩, ⟨("block_fits", none), "block_fits", "block_fits", defArgs (topS 15), defBody (topS 15), defScope (topS 15), [], []⟩, ⟨("bore_fits", none), "bore_fits", "bore_fits", defArgs (topS 16), defBody (topS 16), defScope (topS 16), [], []⟩, ⟨("likes_fit", none), "likes_fit", "likes_fit", defArgs (topS 17), defBody (topS 17), defScope (topS 17), [], []⟩, ⟨("fits", none), "fits", "fits", defArgs (topS 18), defBody (topS 18), defScope (topS 18), [], []⟩, ⟨("fitted", none), "fitted", "fitted", defArgs (topS 19), defBody (topS 19), defScope (topS 19), [], []⟩, ⟨("need", none), "need", "need", defArgs (topS 21), defBody (topS 21), defScope (topS 21), [], []⟩, ⟨("head_of", none), "head_of", "head_of", defArgs (topS 22), defBody (topS 22), defScope (topS 22), [], []⟩, ⟨("layer_of", none), "layer_of", "layer_of", defArgs (topS 23), defBody (topS 23), defScope (topS 23), [], []⟩, ⟨("like_of", none), "like_of", "like_of", defArgs (topS 24), defBody (topS 24), defScope (topS 24), [], []⟩, ⟨("lay_row", none), "lay_row", "lay_row", defArgs (topS 25), defBody (topS 25), defScope (topS 25), [], []⟩, ⟨("read", none), "read", "read", defArgs (topS 26), defBody (topS 26), defScope (topS 26), [], []⟩, ⟨("_law_draw", none), "_law_draw", "_law_draw", defArgs (topS 28), defBody (topS 28), defScope (topS 28), [], []⟩, ⟨("_law_feed", none), "_law_feed", "_law_feed", defArgs (topS 29), defBody (topS 29), defScope (topS 29), [], []⟩, ⟨("_law_next", none), "_law_next", "_law_next", defArgs (topS 30), defBody (topS 30), defScope (topS 30), [], []⟩, ⟨("_law_great", none), "_law_great", "_law_great", defArgs (topS 31), defBody (topS 31), defScope (topS 31), [], []⟩, ⟨("_law_long", none), "_law_long", "_law_long", defArgs (topS 32), defBody (topS 32), defScope (topS 32), [], []⟩, ⟨("_law_name", none), "_law_name", "_law_name", defArgs (topS 33), defBody (topS 33), defScope (topS 33), [], []⟩, ⟨("_law_names", none), "_law_names", "_law_names", defArgs (topS 34), defBody (topS 34), defScope (topS 34), [], []⟩, ⟨("_law_blocks", none), "_law_blocks", "_law_blocks", defArgs (topS 35), defBody (topS 35), defScope (topS 35), [], []⟩, ⟨("_law_bores", none), "_law_bores", "_law_bores", defArgs (topS 36), defBody (topS 36), defScope (topS 36), [], []⟩, ⟨("_law_likes", none), "_law_likes", "_law_likes", defArgs (topS 37), defBody (topS 37), defScope (topS 37), [], []⟩, ⟨("_law_marks", none), "_law_marks", "_law_marks", defArgs (topS 38), defBody (topS 38), defScope (topS 38), [], []⟩, ⟨("_law_field", none), "_law_field", "_law_field", defArgs (topS 39), defBody (topS 39), defScope (topS 39), [], []⟩, ⟨("_law_rows", none), "_law_rows", "_law_rows", defArgs (topS 40), defBody (topS 40), defScope (topS 40), [], []⟩, ⟨("_law_bent_row", none), "_law_bent_row", "_law_bent_row", defArgs (topS 41), defBody (topS 41), defScope (topS 41), [], []⟩, ⟨("_law_bent", none), "_law_bent", "_law_bent", defArgs (topS 42), defBody (topS 42), defScope (topS 42), [], []⟩, ⟨("_law_is_name", none), "_law_is_name", "_law_is_name", defArgs (topS 43), defBody (topS 43), defScope (topS 43), [], []⟩, ⟨("_law_is_number", none), "_law_is_number", "_law_is_number", defArgs (topS 44), defBody (topS 44), defScope (topS 44), [], []⟩, ⟨("_law_sort", none), "_law_sort", "_law_sort", defArgs (topS 45), defBody (topS 45), defScope (topS 45), [], []⟩, ⟨("_law_in_order", none), "_law_in_order", "_law_in_order", defArgs (topS 46), defBody (topS 46), defScope (topS 46), [], []⟩, ⟨("_law_field_of", none), "_law_field_of", "_law_field_of", defArgs (topS 47), defBody (topS 47), defScope (topS 47), [], []⟩, ⟨("_law_fits", none), "_law_fits", "_law_fits", defArgs (topS 48), defBody (topS 48), defScope (topS 48), [], []⟩, ⟨("_law_read", none), "_law_read", "_law_read", defArgs (topS 49), defBody (topS 49), defScope (topS 49), [], []⟩, ⟨("_law_right", none), "_law_right", "_law_right", defArgs (topS 50), defBody (topS 50), defScope (topS 50), [], []⟩, ⟨("law", none), "law", "law", defArgs (topS 51), defBody (topS 51), defScope (topS 51), [], []⟩]
def facL : List He.Fa := [.glo "is_name", .glo "is_number", .glo "words_of", .glo "rows_of", .glo "block_fits", .glo "bore_fits", .glo "likes_fit", .glo "fits", .glo "fitted", .glo "need", .glo "head_of", .glo "layer_of", .glo "like_of", .glo "lay_row", .glo "read", .glo "_law_draw", .glo "_law_feed", .glo "_law_next", .glo "_law_great", .glo "_law_long", .glo "_law_name", .glo "_law_names", .glo "_law_blocks", .glo "_law_bores", .glo "_law_likes", .glo "_law_marks", .glo "_law_field", .glo "_law_rows", .glo "_law_bent_row", .glo "_law_bent", .glo "_law_is_name", .glo "_law_is_number", .glo "_law_sort", .glo "_law_in_order", .glo "_law_field_of", .glo "_law_fits", .glo "_law_read", .glo "_law_right", .glo "law", .free "ValueError", .free "all", .free "int", .free "isinstance", .free "len", .free "list", .free "max", .free "min", .free "range", .free "set", .free "sorted", .free "str", .free "tuple", .str "LETTERS" "abcdefghijklmnopqrstuvwxyz", .str "FIGURES" "0123456789", .glo "BoreError", .glo "NoText", .glo "Unfit", .glo "Unknown", .glo "Twice", .glo "Clash", .exc "NoText", .exm "NoText" "BoreError" true, .exc "Unfit", .exm "Unfit" "BoreError" true]
abbrev rowL : PySem.W.OpenRow := PySem.W.OpenLaw.row PySem.Challenge.rw_bores_k07_texts_refused
def xsL : List (PySem.W.Frag → Bool) := [excB "NoText", kitB "NoText" "Clash" false, kitB "NoText" "NoText" true, kitB "NoText" "Twice" false, kitB "NoText" "Unfit" false, kitB "NoText" "Unknown" false, kitT "NoText" "ValueError" true, excB "Unfit", kitB "Unfit" "Clash" false, kitB "Unfit" "NoText" false, kitB "Unfit" "Twice" false, kitB "Unfit" "Unfit" true, kitB "Unfit" "Unknown" false, kitT "Unfit" "ValueError" true]
abbrev hookL : PySem.W.Hook := hookX 4 facL fnsL xsL
def obL (s : PySem.W.SharedT) : AlX := obsXG 4 facL fnsL xsL (HandSHeadRun.getT s)
theorem obL_eq (s : PySem.W.SharedT) : obL s = hookL.obs s.abs := obsXG_eq (HandSHeadRun.getT_eq s)
theorem runL (w : World) : HandSHeadRun.RunEq rowL (PySem.W.view rowL.prog [51]) hookL obL 12000 (("BoreError" : PySem.Str) :: ("NoText" : PySem.Str) :: ("Unfit" : PySem.Str) :: ("Unknown" : PySem.Str) :: ("Twice" : PySem.Str) :: ("Clash" : PySem.Str) :: ("LETTERS" : PySem.Str) :: ("FIGURES" : PySem.Str) :: ("is_name" : PySem.Str) :: ("is_number" : PySem.Str) :: ("words_of" : PySem.Str) :: ("rows_of" : PySem.Str) :: ("block_fits" : PySem.Str) :: ("bore_fits" : PySem.Str) :: ("likes_fit" : PySem.Str) :: ("fits" : PySem.Str) :: ("fitted" : PySem.Str) :: ("need" : PySem.Str) :: ("head_of" : PySem.Str) :: ("layer_of" : PySem.Str) :: ("like_of" : PySem.Str) :: ("lay_row" : PySem.Str) :: ("read" : PySem.Str) :: ("_law_draw" : PySem.Str) :: ("_law_feed" : PySem.Str) :: ("_law_next" : PySem.Str) :: ("_law_great" : PySem.Str) :: ("_law_long" : PySem.Str) :: ("_law_name" : PySem.Str) :: ("_law_names" : PySem.Str) :: ("_law_blocks" : PySem.Str) :: ("_law_bores" : PySem.Str) :: ("_law_likes" : PySem.Str) :: ("_law_marks" : PySem.Str) :: ("_law_field" : PySem.Str) :: ("_law_rows" : PySem.Str) :: ("_law_bent_row" : PySem.Str) :: ("_law_bent" : PySem.Str) :: ("_law_is_name" : PySem.Str) :: ("_law_is_number" : PySem.Str) :: ("_law_sort" : PySem.Str) :: ("_law_in_order" : PySem.Str) :: ("_law_field_of" : PySem.Str) :: ("_law_fits" : PySem.Str) :: ("_law_read" : PySem.Str) :: ("_law_right" : PySem.Str) :: []) w := (by
  intro os
  kernel_rfl
  )
structure Bi (K : PySem.W.Frag) (mg : Str → Option Value) : Prop where
  ValueError : mg "ValueError" = none
  all : mg "all" = none
  int : mg "int" = none
  isinstance : mg "isinstance" = none
  len : mg "len" = none
  list : mg "list" = none
  max : mg "max" = none
  min : mg "min" = none
  range : mg "range" = none
  set : mg "set" = none
  sorted : mg "sorted" = none
  str : mg "str" = none
  tuple : mg "tuple" = none
  LETTERS : ∃ t, mg "LETTERS" = some (.str "abcdefghijklmnopqrstuvwxyz" t)
  FIGURES : ∃ t, mg "FIGURES" = some (.str "0123456789" t)
  cls_BoreError : mg "BoreError" = some (.ref (He.ga K "BoreError"))
  cls_NoText : mg "NoText" = some (.ref (He.ga K "NoText"))
  cls_Unfit : mg "Unfit" = some (.ref (He.ga K "Unfit"))
  cls_Unknown : mg "Unknown" = some (.ref (He.ga K "Unknown"))
  cls_Twice : mg "Twice" = some (.ref (He.ga K "Twice"))
  cls_Clash : mg "Clash" = some (.ref (He.ga K "Clash"))
  exf_NoText : ExF K mg "NoText"
  exc_NoText : ExcC K (He.ga K "NoText")
  exm_NoText_BoreError : PySem.W.exmOne K (.ref (He.ga K "NoText")) (.ref (He.ga K "BoreError")) = some true
  kit_NoText_Clash : PySem.W.kitOne K (.ref (He.ga K "NoText")) (.ref (He.ga K "Clash")) = some false
  kit_NoText_NoText : PySem.W.kitOne K (.ref (He.ga K "NoText")) (.ref (He.ga K "NoText")) = some true
  kit_NoText_Twice : PySem.W.kitOne K (.ref (He.ga K "NoText")) (.ref (He.ga K "Twice")) = some false
  kit_NoText_Unfit : PySem.W.kitOne K (.ref (He.ga K "NoText")) (.ref (He.ga K "Unfit")) = some false
  kit_NoText_Unknown : PySem.W.kitOne K (.ref (He.ga K "NoText")) (.ref (He.ga K "Unknown")) = some false
  kit_NoText_ValueError : PySem.W.kitOne K (.ref (He.ga K "NoText")) (.type "ValueError") = some true
  exf_Unfit : ExF K mg "Unfit"
  exc_Unfit : ExcC K (He.ga K "Unfit")
  exm_Unfit_BoreError : PySem.W.exmOne K (.ref (He.ga K "Unfit")) (.ref (He.ga K "BoreError")) = some true
  kit_Unfit_Clash : PySem.W.kitOne K (.ref (He.ga K "Unfit")) (.ref (He.ga K "Clash")) = some false
  kit_Unfit_NoText : PySem.W.kitOne K (.ref (He.ga K "Unfit")) (.ref (He.ga K "NoText")) = some false
  kit_Unfit_Twice : PySem.W.kitOne K (.ref (He.ga K "Unfit")) (.ref (He.ga K "Twice")) = some false
  kit_Unfit_Unfit : PySem.W.kitOne K (.ref (He.ga K "Unfit")) (.ref (He.ga K "Unfit")) = some true
  kit_Unfit_Unknown : PySem.W.kitOne K (.ref (He.ga K "Unfit")) (.ref (He.ga K "Unknown")) = some false
  kit_Unfit_ValueError : PySem.W.kitOne K (.ref (He.ga K "Unfit")) (.type "ValueError") = some true
/-- a sign that is a small letter, as the text is searched -/
def isLetN (n : Nat) : Bool := !(Builtin.Str.occurrences (Str.ofString "abcdefghijklmnopqrstuvwxyz") ⟨#[n]⟩ 0 (Str.ofString "abcdefghijklmnopqrstuvwxyz").length 1).isEmpty
def isNm (w : Str) : Bool := decide (1 ≤ (w.length : Int)) && (decide ((w.length : Int) ≤ 8) && w.cps.toList.all isLetN)
def lyFit (l : Str × Int) : Bool := isNm l.1 && decide (1 ≤ l.2)
def blFit (k : List (Str × Int)) : Bool := decide (0 < (k.length : Int)) && k.all lyFit
def boFit (b : Bo) : Bool := isNm b.nm && (decide (0 ≤ b.at_) && (decide (0 ≤ b.top) && (decide (0 < (b.bl.length : Int)) && b.bl.all blFit)))
/-- short words, few layers -/
def BlSz (n : Nat) (k : List (Str × Int)) : Prop := k.length ≤ n ∧ ∀ l ∈ k, l.1.length ≤ 100
structure BoSz (n m : Nat) (b : Bo) : Prop where
  nm : b.nm.length ≤ 100
  few : b.bl.length ≤ m
  bl : ∀ k ∈ b.bl, BlSz n k
def T_is_name : TF := fun a Q => ∃ (w : Str), a = [.d (.str w)] ∧ w.length ≤ 100000 ∧ ret Q (.d (.bool (isNm w)))
theorem TE_is_name {w : Str} {Q : S → Dl.Ctx → Prop} : T_is_name [.d (.str w)] Q = (w.length ≤ 100000 ∧ ret Q (.d (.bool (isNm w)))) := propext ⟨fun ⟨_, e, q⟩ => by cases e; exact q, fun q => ⟨_, rfl, q⟩⟩
/-- a sign of z, as the text is searched -/
def inSt (z : Str) (n : Nat) : Bool := !(Builtin.Str.occurrences z ⟨#[n]⟩ 0 z.length 1).isEmpty
/-- one to m signs of z -/
def ofN (w z : Str) (m : Int) : Bool := decide (1 ≤ (w.length : Int)) && (decide ((w.length : Int) ≤ m) && w.cps.toList.all (inSt z))
/-- 0, or no 0 ahead -/
def no0 (w : Str) : Bool := w == Str.ofString "0" || !((⟨#[w.cps.toList.headD 0]⟩ : Str) == Str.ofString "0")
def isNum (w : Str) : Bool := ofN w (Str.ofString "0123456789") 60 && no0 w
theorem head_at {w : Str} (h : 1 ≤ w.length) : atI w.cps.toList 0 = some (w.cps.toList.headD 0) := (by
  have h : 0 < w.cps.toList.length := by rw [Array.length_toList]; exact h
  rw [atI_of (by decide) (by omega)]
  cases e : w.cps.toList with
  | nil => rw [e] at h; cases h
  | cons a l => rfl
  )
/-- texts one behind the other, n between -/
def jn (n : Nat) : List (List Nat) → List Nat
  | [] => []
  | [p] => p
  | p :: q :: r => p ++ n :: jn n (q :: r)
theorem jn_cons {n : Nat} {p : List Nat} {ps : List (List Nat)} (h : ps ≠ []) : jn n (p :: ps) = p ++ n :: jn n ps := (by
  cases ps with
  | nil => exact absurd rfl h
  | cons q r => rfl
  )
theorem free_app {n : Nat} : ∀ {p q A B : List Nat}, n ∉ p → n ∉ q → p ++ n :: A = q ++ n :: B → p = q ∧ A = B
  | [], [], A, B, _, _, h => ⟨rfl, (List.cons.inj h).2⟩
  | [], b :: q, A, B, _, hq, h => absurd (List.cons.inj h).1 (fun z => hq (z ▸ List.mem_cons_self))
  | a :: p, [], A, B, hp, _, h => absurd (List.cons.inj h).1 (fun z => hp (z ▸ List.mem_cons_self))
  | a :: p, b :: q, A, B, hp, hq, h => by
    obtain ⟨h1, h2⟩ := List.cons.inj h
    obtain ⟨h3, h4⟩ := free_app (fun z => hp (List.mem_cons_of_mem _ z)) (fun z => hq (List.mem_cons_of_mem _ z)) h2
    exact ⟨by rw [h1, h3], h4⟩
theorem jn_uniq {n : Nat} : ∀ {ps qs : List (List Nat)}, ps ≠ [] → qs ≠ [] → (∀ p ∈ ps, n ∉ p) → (∀ q ∈ qs, n ∉ q) → jn n ps = jn n qs → ps = qs
  | [], _, h, _, _, _, _ => absurd rfl h
  | _, [], _, h, _, _, _ => absurd rfl h
  | [p], [q], _, _, _, _, e => by rw [show p = q from e]
  | [p], q :: q2 :: r, _, _, hp, _, e => by
    have e : p = q ++ n :: jn n (q2 :: r) := e
    exact absurd (show n ∈ p by rw [e]; simp) (hp p List.mem_cons_self)
  | p :: p2 :: r, [q], _, _, _, hq, e => by
    have e : p ++ n :: jn n (p2 :: r) = q := e
    exact absurd (show n ∈ q by rw [← e]; simp) (hq q List.mem_cons_self)
  | p :: p2 :: r, q :: q2 :: r', _, _, hp, hq, e => by
    have e : p ++ n :: jn n (p2 :: r) = q ++ n :: jn n (q2 :: r') := e
    obtain ⟨h1, h2⟩ := free_app (hp p List.mem_cons_self) (hq q List.mem_cons_self) e
    rw [h1, jn_uniq (by simp) (by simp) (fun x hx => hp x (List.mem_cons_of_mem _ hx)) (fun x hx => hq x (List.mem_cons_of_mem _ hx)) h2]
theorem jn_mem {n a : Nat} {p : List Nat} : ∀ {ps : List (List Nat)}, p ∈ ps → a ∈ p → a ∈ jn n ps
  | [q], hp, ha => by obtain rfl := List.mem_singleton.mp hp; exact ha
  | q :: q2 :: r, hp, ha => by
    show a ∈ q ++ n :: jn n (q2 :: r)
    rcases List.mem_cons.mp hp with rfl | hp
    · exact List.mem_append_left _ ha
    · exact List.mem_append_right _ (List.mem_cons_of_mem _ (jn_mem hp ha))
theorem jn_len {n : Nat} : ∀ {ps : List (List Nat)}, ps.length ≤ (jn n ps).length + 1
  | [] => Nat.zero_le _
  | [q] => by simp
  | q :: q2 :: r => by
    have := jn_len (n := n) (ps := q2 :: r)
    show (q :: q2 :: r).length ≤ (q ++ n :: jn n (q2 :: r)).length + 1
    simp at this ⊢
    omega
theorem jn_each {n : Nat} {p : List Nat} : ∀ {ps : List (List Nat)}, p ∈ ps → p.length ≤ (jn n ps).length
  | [q], hp => by obtain rfl := List.mem_singleton.mp hp; exact Nat.le_refl _
  | q :: q2 :: r, hp => by
    show p.length ≤ (q ++ n :: jn n (q2 :: r)).length
    rw [List.length_append, List.length_cons]
    rcases List.mem_cons.mp hp with rfl | hp
    · omega
    · have := jn_each (n := n) hp
      omega
theorem join_jn (n : Nat) : ∀ ps : List Str, (Str.join ⟨#[n]⟩ ps).cps.toList = jn n (ps.map fun p => p.cps.toList)
  | [] => rfl
  | [p] => rfl
  | p :: q :: r => by
    show ((p ++ ⟨#[n]⟩ ++ Str.join ⟨#[n]⟩ (q :: r)).cps).toList = p.cps.toList ++ n :: jn n ((q :: r).map fun p => p.cps.toList)
    rw [← join_jn n (q :: r)]
    show ((p.cps ++ #[n]) ++ (Str.join ⟨#[n]⟩ (q :: r)).cps).toList = _
    simp
theorem split_jn (w : Str) (n : Nat) : jn n ((Txt.split w ⟨#[n]⟩).map fun p => p.cps.toList) = w.cps.toList := (by
  rw [← join_jn, PySem.StrLaws.join_split]
  )
theorem split_ne (w : Str) (n : Nat) : Txt.split w ⟨#[n]⟩ ≠ [] := (by
  unfold Txt.split
  split
  · simp
  · split
    · simp
    · rw [PySem.StrLaws.partsBetween_eq]
      obtain ⟨p, q, e⟩ := PySem.StrLaws.partsFrom_ne w (Str.length ⟨#[n]⟩) 0 (Builtin.Str.occurrences w ⟨#[n]⟩ 0 w.length (w.length + 1))
      rw [e]; simp
  )
theorem strOk_iff {w : Str} : PyData.strOk w = true ↔ ∀ n ∈ w.cps.toList, n < 0x110000 := (by
  unfold PyData.strOk
  rw [Array.all_eq_true_iff_forall_mem]
  constructor
  · intro h n hn
    exact of_decide_eq_true (h n (Array.mem_toList_iff.mp hn))
  · intro h n hn
    exact decide_eq_true (h n (Array.mem_toList_iff.mpr hn))
  )
theorem strOk_one {n : Nat} (h : n < 0x110000) : PyData.strOk ⟨#[n]⟩ = true := strOk_iff.mpr fun m hm => by
  have : m = n := by simpa using hm
  rw [this]; exact h
theorem strOk_at {w : Str} (h : PyData.strOk w = true) {n : Nat} (hn : n ∈ w.cps.toList) : PyData.strOk ⟨#[n]⟩ = true := strOk_one (strOk_iff.mp h n hn)
theorem strOk_app {x y : Str} (hx : PyData.strOk x = true) (hy : PyData.strOk y = true) : PyData.strOk (x ++ y) = true := strOk_iff.mpr fun m hm => by
  have hm : m ∈ (x.cps ++ y.cps).toList := hm
  rw [Array.toList_append] at hm
  rcases List.mem_append.mp hm with hm | hm
  · exact strOk_iff.mp hx m hm
  · exact strOk_iff.mp hy m hm
theorem split_ok {w : Str} {n : Nat} (h : PyData.strOk w = true) : ∀ p ∈ Txt.split w ⟨#[n]⟩, PyData.strOk p = true := fun p hp => strOk_iff.mpr fun m hm => by
  refine strOk_iff.mp h m ?_
  rw [← split_jn w n]
  exact jn_mem (List.mem_map.mpr ⟨p, hp, rfl⟩) hm
theorem split_few (w : Str) (n : Nat) : (Txt.split w ⟨#[n]⟩).length ≤ w.length + 1 := (by
  have h := jn_len (n := n) (ps := (Txt.split w ⟨#[n]⟩).map fun p => p.cps.toList)
  rw [split_jn, List.length_map] at h
  exact h
  )
theorem split_len {w p : Str} {n : Nat} (h : p ∈ Txt.split w ⟨#[n]⟩) : p.length ≤ w.length := (by
  have h := jn_each (n := n) (List.mem_map.mpr ⟨p, h, rfl⟩ : p.cps.toList ∈ (Txt.split w ⟨#[n]⟩).map fun p => p.cps.toList)
  rw [split_jn] at h
  exact h
  )
def T_is_number : TF := fun a Q => ∃ (w : Str), a = [.d (.str w)] ∧ PyData.strOk w = true ∧ w.length ≤ 100000 ∧ ret Q (.d (.bool (isNum w)))
theorem TE_is_number {w : Str} {Q : S → Dl.Ctx → Prop} : T_is_number [.d (.str w)] Q = (PyData.strOk w = true ∧ w.length ≤ 100000 ∧ ret Q (.d (.bool (isNum w)))) := propext ⟨fun ⟨_, e, q⟩ => by cases e; exact q, fun q => ⟨_, rfl, q⟩⟩
def T_words_of : TFX := fun a Q E1 => ∃ (w : Str), a = [.d (.str w)] ∧ PyData.strOk w = true ∧ w.length ≤ 100000 ∧ (∀ p ∈ Txt.split w (Str.ofString " "), PyData.strOk p = true) ∧ if Str.ofString "" ∈ Txt.split w (Str.ofString " ") then E1 "NoText" else ret Q (.o none (.lst ((Txt.split w (Str.ofString " ")).map PyData.str)))
def T_words_of__y : TFY := fun a Q E1 => ∃ (w : Str), a = [.d (.str w)] ∧ PyData.strOk w = true ∧ w.length ≤ 100000 ∧ (∀ p ∈ Txt.split w (Str.ofString " "), PyData.strOk p = true) ∧ if Str.ofString "" ∈ Txt.split w (Str.ofString " ") then retE [none] E1 "NoText" [] else retA [none] Q (.o none (.lst ((Txt.split w (Str.ofString " ")).map PyData.str)))
def T_rows_of : TF := fun a Q => ∃ (w : Str), a = [.d (.str w)] ∧ PyData.strOk w = true ∧ w.length ≤ 100000 ∧ ret Q (.o none (.lst (if w = Str.ofString "" then [] else (Txt.split w (Str.ofString "\n")).map PyData.str)))
def T_block_fits : TF := fun a Q => ∃ (k : List (Str × Int)), a = [.d (blD k)] ∧ BlSz 1000 k ∧ ret Q (.d (.bool (blFit k)))
def T_bore_fits : TF := fun a Q => ∃ (b : Bo), a = [.d (boD b)] ∧ BoSz 1000 1000 b ∧ ret Q (.d (.bool (boFit b)))
def minS (a b : Str) : Str := if b.cps.toList < a.cps.toList then b else a
def maxS (a b : Str) : Str := if a.cps.toList < b.cps.toList then b else a
/-- of the same two marks -/
def sameLk (l s : Lk3) : Bool := decide (minS s.1 s.2.1 = minS l.1 l.2.1 ∧ maxS s.1 s.2.1 = maxS l.1 l.2.1)
def lkOk (seen : List Lk3) (l : Lk3) : Bool := !(seen.any (sameLk l)) && (isNm l.1 && (isNm l.2.1 && (decide (1 ≤ l.2.2) && decide (l.2.2 ≤ 9))))
def lkFrom : List Lk3 → List Lk3 → Bool
  | _, [] => true
  | seen, l :: r => lkOk seen l && lkFrom (seen ++ [l]) r
theorem lkFrom_cons {seen r : List Lk3} {l : Lk3} : lkFrom seen (l :: r) = (lkOk seen l && lkFrom (seen ++ [l]) r) := rfl
def lkKey (l : Lk3) : PyData := .tuple [.str (minS l.1 l.2.1), .str (maxS l.1 l.2.1)]
noncomputable def lkDic (ls : List Lk3) : List (PyData × PyData) := ls.map fun l => (lkKey l, .bool true)
theorem lkKey_iff {l s : Lk3} : lkKey s = lkKey l ↔ sameLk l s = true := (by
  unfold lkKey sameLk
  rw [decide_eq_true_iff]
  constructor
  · intro h
    injection h with h
    injection h with h1 h2
    injection h2 with h2 _
    injection h1 with h1
    injection h2 with h2
    exact ⟨h1, h2⟩
  · rintro ⟨h1, h2⟩
    rw [h1, h2]
  )
theorem lkDic_at {l : Lk3} : ∀ {ls : List Lk3}, (dicAt (lkDic ls) (lkKey l)).isSome = ls.any (sameLk l)
  | [] => rfl
  | s :: ls => by
    have ih := lkDic_at (l := l) (ls := ls)
    unfold dicAt lkDic at ih ⊢
    rw [List.map_cons, List.find?_cons, List.any_cons]
    by_cases h : lkKey s = lkKey l
    · rw [lkKey_iff.mp h]
      simp [h]
    · have h2 : sameLk l s = false := by
        cases e : sameLk l s with
        | false => rfl
        | true => exact absurd (lkKey_iff.mpr e) h
      rw [h2, Bool.false_or, ← ih]
      simp [h]
theorem lkDic_put {l : Lk3} {ls : List Lk3} (h : ls.any (sameLk l) = false) : dicPut (lkDic ls) (lkKey l) (.bool true) = lkDic (ls ++ [l]) := (by
  have e : ((lkDic ls).any fun kv => decide (kv.1 = lkKey l)) = false := by
    unfold lkDic
    rw [List.any_map, ← h]
    congr 1
    funext s
    show decide (lkKey s = lkKey l) = sameLk l s
    by_cases z : lkKey s = lkKey l
    · rw [lkKey_iff.mp z, decide_eq_true z]
    · rw [decide_eq_false z]
      cases e : sameLk l s with
      | false => rfl
      | true => exact absurd (lkKey_iff.mpr e) z
  unfold dicPut
  rw [e, if_neg Bool.false_ne_true]
  unfold lkDic
  rw [List.map_append]; rfl
  )
def T_likes_fit : TF := fun a Q => ∃ (ls : List Lk3), a = [.d (.tuple (ls.map lkD))] ∧ ls.length ≤ 1000 ∧ (∀ l ∈ ls, l.1.length ≤ 1000 ∧ l.2.1.length ≤ 1000) ∧ ret Q (.d (.bool (lkFrom [] ls)))
def fitF (bs : List Bo) (ls : List Lk3) : Bool := bs.all boFit && (lkFrom [] ls && (decide (bs.map Bo.nm).Nodup && decide (bs.map Bo.at_).Nodup))
/-- short words, few bores, layers and likes -/
structure FlSz (bs : List Bo) (ls : List Lk3) : Prop where
  bl : bs.length ≤ 1000
  bo : ∀ b ∈ bs, BoSz 1000 1000 b
  ll : ls.length ≤ 1000
  lw : ∀ l ∈ ls, l.1.length ≤ 1000 ∧ l.2.1.length ≤ 1000
def T_fits : TF := fun a Q => ∃ (bs : List Bo) (ls : List Lk3), a = [.d (.tuple [.tuple (bs.map boD), .tuple (ls.map lkD)])] ∧ FlSz bs ls ∧ ret Q (.d (.bool (fitF bs ls)))
theorem nodup_str {ws : List Str} : (ws.map PyData.str).Nodup ↔ ws.Nodup := (by
  unfold List.Nodup
  rw [List.pairwise_map]
  exact ⟨fun h => h.imp fun z e => z (by rw [e]), fun h => h.imp fun z e => z (by injection e)⟩
  )
theorem nodup_int {ws : List Int} : (ws.map PyData.int).Nodup ↔ ws.Nodup := (by
  unfold List.Nodup
  rw [List.pairwise_map]
  exact ⟨fun h => h.imp fun z e => z (by rw [e]), fun h => h.imp fun z e => z (by injection e)⟩
  )
def T_fitted : TFY := fun a Q E => ∃ (bs : List Bo) (ls : List Lk3), a = [.d (.tuple [.tuple (bs.map boD), .tuple (ls.map lkD)])] ∧ FlSz bs ls ∧ (fitF bs ls = false → retE [none] E "Unfit" []) ∧ (fitF bs ls = true → retA [none] Q (.d (.tuple [.tuple (bs.map boD), .tuple (ls.map lkD)])))
def T_need : TFY := fun a Q E => ∃ b : Bool, a = [.d (.bool b)] ∧ if b = true then retA [none] Q (.d .none) else retE [none] E "NoText" []
theorem TE_need {b : Bool} {Q : S → Dl.Ctx → Prop} {E : EEt} : T_need [.d (.bool b)] Q E = if b = true then retA [none] Q (.d .none) else retE [none] E "NoText" [] := propext ⟨fun ⟨_, e, q⟩ => by cases e; exact q, fun q => ⟨_, rfl, q⟩⟩
/-! rows of texts read -/
theorem sign_dig {n : Nat} (h : inSt (Str.ofString "0123456789") n = true) : 48 ≤ n ∧ n ≤ 57 := (by
  unfold inSt at h
  rw [PySem.StrLaws.found_one, decide_eq_true_eq] at h
  have key : ∀ k ∈ (Str.ofString "0123456789").cps.toList, 48 ≤ k ∧ k ≤ 57 := by decide +kernel
  exact key n h
  )
/-- the number that a text writes -/
def numF (w : Str) : Int := (PySem.intText? w).getD 0
theorem num_int {w : Str} (h : isNum w = true) : PySem.intText? w = some (numF w) ∧ w.length ≤ 60 ∧ 0 ≤ numF w := (by
  unfold isNum at h
  obtain ⟨h1, _⟩ := Bool.and_eq_true_iff.mp h
  unfold ofN at h1
  obtain ⟨a1, h1⟩ := Bool.and_eq_true_iff.mp h1
  obtain ⟨a2, a3⟩ := Bool.and_eq_true_iff.mp h1
  have a1 := of_decide_eq_true a1
  have a2 := of_decide_eq_true a2
  have wl : w.cps.toList.length = w.length := Array.length_toList
  have ad : PySem.NumText.AllDigits w.cps.toList := fun c hc => sign_dig (List.all_eq_true.mp a3 c hc)
  have e := PySem.intText_digits (x := w) ad (fun z => by rw [z] at wl; simp at wl; omega) (by omega)
  unfold numF
  rw [e]
  exact ⟨rfl, by omega, Int.natCast_nonneg _⟩
  )
def headF : List Str → Option Bo
  | [_, n, p, t] => if isNm n = true ∧ isNum p = true ∧ isNum t = true then some ⟨n, numF p, numF t, [[]]⟩ else none
  | _ => none
def layF : List Str → Option (Str × Int)
  | [_, m, t] => if isNm m = true ∧ isNum t = true then some (m, numF t) else none
  | _ => none
def likF : List Str → Option Lk3
  | [_, a, b, p] => if isNm a = true ∧ isNm b = true ∧ isNum p = true then some (a, b, numF p) else none
  | _ => none
/-- whether the last block has layers -/
def shutR (bs : List Bo) : Bool := match bs.getLast? with
  | none => true
  | some b => match b.bl.getLast? with
    | none => false
    | some k => !k.isEmpty
def onLast (f : Bo → Bo) (bs : List Bo) : List Bo := match bs.getLast? with
  | none => bs
  | some b => bs.dropLast ++ [f b]
def addLy (l : Str × Int) (b : Bo) : Bo := match b.bl.getLast? with
  | none => b
  | some k => { b with bl := b.bl.dropLast ++ [k ++ [l]] }
def addBl (b : Bo) : Bo := { b with bl := b.bl ++ [[]] }
abbrev RdS := List Bo × List Lk3
/-- a row laid to what was found -/
def layR (s : RdS) (ws : List Str) : Option RdS :=
  if ws.headD "" = ("like" : Str) then (if shutR s.1 = true then (likF ws).map fun l => (s.1, s.2 ++ [l]) else none)
  else if ws.headD "" = ("bore" : Str) then (if shutR s.1 = true ∧ s.2 = [] then (headF ws).map fun b => (s.1 ++ [b], s.2) else none)
  else if ws.headD "" = ("layer" : Str) then (if s.1 ≠ [] ∧ s.2 = [] then (layF ws).map fun l => (onLast (addLy l) s.1, s.2) else none)
  else if ws = ([("fault" : Str)] : List Str) ∧ shutR s.1 = true ∧ s.1 ≠ [] ∧ s.2 = [] then some (onLast addBl s.1, s.2) else none
def layRs : RdS → List (List Str) → Option RdS
  | s, [] => some s
  | s, ws :: r => (layR s ws).bind fun s' => layRs s' r
/-! what was found, as a tree -/
def boT (b : Bo) : OT := .tup [.dat (.str b.nm), .dat (.int b.at_), .dat (.int b.top), .lst (b.bl.map fun k => .lst ((k.map lyD).map .dat))]
def fndT (bs : List Bo) : OT := .lst (bs.map boT)
def lksT (ls : List Lk3) : OT := .lst ((ls.map lkD).map .dat)
/-- words of a row, short ones -/
def WsOk (ws : List Str) : Prop := ws.length ≤ 100000 ∧ ws ≠ [] ∧ ∀ w ∈ ws, PyData.strOk w = true ∧ w.length ≤ 100000
theorem WsOk.at {ws : List Str} (h : WsOk ws) {w : Str} (hw : w ∈ ws) : PyData.strOk w = true ∧ w.length ≤ 100000 := h.2.2 w hw
/-- what was found is short enough -/
structure RdOk (s : RdS) (n : Nat) : Prop where
  bs : s.1.length ≤ n
  bl : ∀ b ∈ s.1, b.bl ≠ [] ∧ b.bl.length ≤ n ∧ isNm b.nm = true ∧ ∀ k ∈ b.bl, k.length ≤ n ∧ ∀ l ∈ k, isNm l.1 = true
  ls : s.2.length ≤ n ∧ ∀ l ∈ s.2, isNm l.1 = true ∧ isNm l.2.1 = true
theorem last_ex {α : Type} {l : List α} (h : l ≠ []) : ∃ k x, l = k ++ [x] := (by
  rcases List.eq_nil_or_concat l with z | ⟨k, x, rfl⟩
  · exact absurd z h
  · exact ⟨k, x, by rw [List.concat_eq_append]⟩
  )
theorem onLast_at {f : Bo → Bo} {bs : List Bo} {b : Bo} : onLast f (bs ++ [b]) = bs ++ [f b] := (by
  unfold onLast
  simp
  )
theorem addLy_at {l : Str × Int} {nm : Str} {p t : Int} {bl : List (List (Str × Int))} {k : List (Str × Int)} : addLy l ⟨nm, p, t, bl ++ [k]⟩ = ⟨nm, p, t, bl ++ [k ++ [l]]⟩ := (by
  unfold addLy
  simp
  )
theorem shutR_at {bs : List Bo} {nm : Str} {p t : Int} {bl : List (List (Str × Int))} {k : List (Str × Int)} : shutR (bs ++ [⟨nm, p, t, bl ++ [k]⟩]) = decide (0 < (k.length : Int)) := (by
  unfold shutR
  simp
  cases k <;> simp <;> omega
  )
theorem isNm_len {w : Str} (h : isNm w = true) : w.length ≤ 8 := (by
  unfold isNm at h
  obtain ⟨_, h⟩ := Bool.and_eq_true_iff.mp h
  obtain ⟨h, _⟩ := Bool.and_eq_true_iff.mp h
  have := of_decide_eq_true h
  omega
  )
theorem headF_some {ws : List Str} {b : Bo} (h : headF ws = some b) : isNm b.nm = true ∧ b.bl = [[]] := (by
  unfold headF at h
  split at h
  · split at h
    · cases h
      rename_i z
      exact ⟨z.1, rfl⟩
    · cases h
  · cases h
  )
theorem layF_some {ws : List Str} {l : Str × Int} (h : layF ws = some l) : isNm l.1 = true := (by
  unfold layF at h
  split at h
  · split at h
    · cases h
      rename_i z
      exact z.1
    · cases h
  · cases h
  )
theorem likF_some {ws : List Str} {l : Lk3} (h : likF ws = some l) : isNm l.1 = true ∧ isNm l.2.1 = true := (by
  unfold likF at h
  split at h
  · split at h
    · cases h
      rename_i z
      exact ⟨z.1, z.2.1⟩
    · cases h
  · cases h
  )
theorem layR_ok {s s' : RdS} {ws : List Str} {n : Nat} (ok : RdOk s n) (h : layR s ws = some s') : RdOk s' (n + 1) := (by
  obtain ⟨bs, ls⟩ := s
  obtain ⟨h1, h2, h3⟩ := ok
  have up : ∀ b ∈ bs, b.bl ≠ [] ∧ b.bl.length ≤ n + 1 ∧ isNm b.nm = true ∧ ∀ k ∈ b.bl, k.length ≤ n + 1 ∧ ∀ l ∈ k, isNm l.1 = true := fun b hb => by
    obtain ⟨a1, a2, a3, a4⟩ := h2 b hb
    exact ⟨a1, by omega, a3, fun k hk => ⟨by have := (a4 k hk).1; omega, (a4 k hk).2⟩⟩
  unfold layR at h
  simp only at h
  split at h
  · split at h
    · obtain ⟨l, hl, e⟩ := Option.map_eq_some_iff.mp h
      cases e
      refine ⟨Nat.le_succ_of_le h1, up, by rw [List.length_append]; exact Nat.succ_le_succ h3.1, fun x hx => ?_⟩
      rcases List.mem_append.mp hx with z | z
      · exact h3.2 x z
      · rw [List.mem_singleton.mp z]; exact likF_some hl
    · cases h
  · split at h
    · split at h
      · obtain ⟨b, hb, e⟩ := Option.map_eq_some_iff.mp h
        cases e
        refine ⟨by rw [List.length_append]; exact Nat.succ_le_succ h1, fun x hx => ?_, Nat.le_succ_of_le h3.1, h3.2⟩
        rcases List.mem_append.mp hx with z | z
        · exact up x z
        · obtain ⟨n1, n2⟩ := headF_some hb
          rw [List.mem_singleton.mp z, n2]
          exact ⟨by simp, by simp, n1, fun k hk => by rw [List.mem_singleton.mp hk]; exact ⟨Nat.zero_le _, fun l hl => by cases hl⟩⟩
      · cases h
    · split at h
      · split at h
        · obtain ⟨l, hl, e⟩ := Option.map_eq_some_iff.mp h
          cases e
          rename_i hne
          obtain ⟨bs, b, rfl⟩ := last_ex hne.1
          rw [onLast_at]
          obtain ⟨b1, b2, b3, b4⟩ := h2 b (List.mem_append_right _ (by simp))
          obtain ⟨nm, p, t, bl⟩ := b
          obtain ⟨bl, k, rfl⟩ := last_ex b1
          rw [addLy_at]
          refine ⟨by rw [List.length_append] at h1 ⊢; exact Nat.le_succ_of_le h1, fun x hx => ?_, Nat.le_succ_of_le h3.1, h3.2⟩
          rcases List.mem_append.mp hx with z | z
          · exact up x (List.mem_append_left _ z)
          · rw [List.mem_singleton.mp z]
            rw [List.length_append] at b2
            refine ⟨by simp, by rw [List.length_append]; exact Nat.le_succ_of_le b2, b3, fun k' hk => ?_⟩
            rcases List.mem_append.mp hk with z | z
            · have := b4 k' (List.mem_append_left _ z)
              exact ⟨by omega, this.2⟩
            · rw [List.mem_singleton.mp z]
              have := b4 k (List.mem_append_right _ (by simp))
              refine ⟨by rw [List.length_append]; exact Nat.succ_le_succ this.1, fun y hy => ?_⟩
              rcases List.mem_append.mp hy with z | z
              · exact this.2 y z
              · rw [List.mem_singleton.mp z]; exact layF_some hl
        · cases h
      · split at h
        · cases h
          rename_i hne
          obtain ⟨bs, b, rfl⟩ := last_ex hne.2.2.1
          rw [onLast_at]
          obtain ⟨b1, b2, b3, b4⟩ := up b (List.mem_append_right _ (by simp))
          have b2' := (h2 b (List.mem_append_right _ (by simp))).2.1
          refine ⟨by rw [List.length_append] at h1 ⊢; exact Nat.le_succ_of_le h1, fun x hx => ?_, Nat.le_succ_of_le h3.1, h3.2⟩
          rcases List.mem_append.mp hx with z | z
          · exact up x (List.mem_append_left _ z)
          · rw [List.mem_singleton.mp z]
            refine ⟨by unfold addBl; simp, by unfold addBl; rw [List.length_append]; exact Nat.succ_le_succ b2', b3, fun k hk => ?_⟩
            unfold addBl at hk
            rcases List.mem_append.mp hk with z | z
            · exact b4 k z
            · rw [List.mem_singleton.mp z]; exact ⟨Nat.zero_le _, fun l hl => by cases hl⟩
        · cases h
  )
theorem ixN_last {n : Nat} : ixN (n + 1) (-1) = some n := (by
  unfold ixN
  simp
  try omega
  )
theorem ixT_last {ts : List OT} {t : OT} {Q : Nat → OT → Prop} (h : Q ts.length t) : ixT (.lst (ts ++ [t])) (.int (-1)) Q := ⟨ts.length, t, by rw [List.length_append]; exact ixN_last, by simp, h⟩
theorem ixT_43 {a b c d : OT} {Q : Nat → OT → Prop} (h : Q 3 d) : ixT (.tup [a, b, c, d]) (.int 3) Q := ⟨3, d, by show ixN 4 3 = some 3; decide, rfl, h⟩
theorem getE_at {α : Type} {l : List α} {a d : α} : (l ++ [a])[l.length]?.getD d = a := by simp
theorem set_at {α : Type} {l : List α} {a b : α} : (l ++ [a]).set l.length b = l ++ [b] := by simp
theorem boT_at {nm : Str} {p t : Int} {bl : List (List (Str × Int))} {k : List (Str × Int)} : boT ⟨nm, p, t, bl ++ [k]⟩ = .tup [.dat (.str nm), .dat (.int p), .dat (.int t), .lst (bl.map (fun k => OT.lst ((k.map lyD).map .dat)) ++ [OT.lst ((k.map lyD).map .dat)])] := by unfold boT; rw [List.map_append]; rfl
theorem tup3_get {α : Type} {a b c d e : α} : [a, b, c, d][3]?.getD e = d := rfl
theorem tup3_set {α : Type} {a b c d e : α} : [a, b, c, d].set 3 e = [a, b, c, e] := rfl
theorem pl_strs {ws : List Str} (h : ∀ w ∈ ws, PyData.strOk w = true) : Pl 1 (.list (ws.map PyData.str)) := pl_map fun w hw => pl_str (h w hw)
theorem eqv_strs {ws vs : List Str} (h : ∀ w ∈ ws, PyData.strOk w = true) (h' : ∀ w ∈ vs, PyData.strOk w = true) : PyData.eqvAll (ws.map PyData.str) (vs.map PyData.str) = decide (ws = vs) := (by
  rw [← eqv_list, (pl_strs h).eqv (pl_strs h'), Bool.eq_iff_iff, decide_eq_true_eq, decide_eq_true_eq]
  constructor
  · intro z
    injection z with z
    exact str_inj z
  · intro z
    rw [z]
  )
def T_head_of : TFY := fun a Q E => ∃ (ws : List Str), a = [.d (.list (ws.map PyData.str))] ∧ WsOk ws ∧ (headF ws = none → retE [none] E "NoText" []) ∧ ∀ b, headF ws = some b → retA [none] Q (.o none (.tr (boT b)))
def T_layer_of : TFY := fun a Q E => ∃ (ws : List Str), a = [.d (.list (ws.map PyData.str))] ∧ WsOk ws ∧ (layF ws = none → retE [none] E "NoText" []) ∧ ∀ b, layF ws = some b → retA [none] Q (.d (lyD b))
def T_like_of : TFY := fun a Q E => ∃ (ws : List Str), a = [.d (.list (ws.map PyData.str))] ∧ WsOk ws ∧ (likF ws = none → retE [none] E "NoText" []) ∧ ∀ b, likF ws = some b → retA [none] Q (.d (lkD b))
def T_lay_row : TFY := fun a Q E => ∃ (v u : Lt) (s : RdS) (n : Nat) (ws : List Str), a = [.o (some v) (.tr (fndT s.1)), .o (some u) (.tr (lksT s.2)), .d (.list (ws.map PyData.str))] ∧ RdOk s n ∧ n ≤ 100000 ∧ WsOk ws ∧ (layR s ws = none → retE [some (v, .tr (fndT s.1)), some (u, .tr (lksT s.2)), none] E "NoText" []) ∧ ∀ s', layR s ws = some s' → retA [some (v, .tr (fndT s'.1)), some (u, .tr (lksT s'.2)), none] Q (.d .none)
def rowsF (w : Str) : List Str := if w = Str.ofString "" then [] else Txt.split w (Str.ofString "\n")
def wordsF (r : Str) : List Str := Txt.split r (Str.ofString " ")
def readF (w : Str) : Option RdS := (layRs ([], []) ((rowsF w).map wordsF)).bind fun s => if shutR s.1 = true then some s else none
def notS : PyData → Bool
  | .str _ => false
  | _ => true
def T_read : TFY := fun a Q E => (∃ (w : Str), a = [.d (.str w)] ∧ PyData.strOk w = true ∧ w.length ≤ 90000 ∧ (rowsF w).length ≤ 900 ∧ (readF w = none → retE [none] E "NoText" []) ∧ ∀ s, readF w = some s → (fitF s.1 s.2 = false → retE [none] E "Unfit" []) ∧ (fitF s.1 s.2 = true → retA [none] Q (.d (.tuple [.tuple (s.1.map boD), .tuple (s.2.map lkD)])))) ∨ ∃ x, a = [.d x] ∧ notS x = true ∧ retE [none] E "NoText" []
theorem isNm_e : isNm (Str.ofString "") = false := by decide +kernel
theorem isNum_e : isNum (Str.ofString "") = false := by decide +kernel
theorem likF_bad {ws : List Str} (h : Str.ofString "" ∈ ws) (hh : ws.headD "" = ("like" : Str)) : likF ws = none := (by
  unfold likF
  split
  · rename_i x a b p
    refine if_neg fun ⟨h1, h2, h3⟩ => ?_
    simp only [List.mem_cons, List.not_mem_nil, or_false] at h
    rcases h with e | e | e | e
    · rw [← e] at hh; exact absurd (show Str.ofString "" = _ from hh) (by decide)
    · rw [← e, isNm_e] at h1; cases h1
    · rw [← e, isNm_e] at h2; cases h2
    · rw [← e, isNum_e] at h3; cases h3
  · rfl
  )
theorem headF_bad {ws : List Str} (h : Str.ofString "" ∈ ws) (hh : ws.headD "" = ("bore" : Str)) : headF ws = none := (by
  unfold headF
  split
  · rename_i x a b p
    refine if_neg fun ⟨h1, h2, h3⟩ => ?_
    simp only [List.mem_cons, List.not_mem_nil, or_false] at h
    rcases h with e | e | e | e
    · rw [← e] at hh; exact absurd (show Str.ofString "" = _ from hh) (by decide)
    · rw [← e, isNm_e] at h1; cases h1
    · rw [← e, isNum_e] at h2; cases h2
    · rw [← e, isNum_e] at h3; cases h3
  · rfl
  )
theorem layF_bad {ws : List Str} (h : Str.ofString "" ∈ ws) (hh : ws.headD "" = ("layer" : Str)) : layF ws = none := (by
  unfold layF
  split
  · rename_i x a b
    refine if_neg fun ⟨h1, h2⟩ => ?_
    simp only [List.mem_cons, List.not_mem_nil, or_false] at h
    rcases h with e | e | e
    · rw [← e] at hh; exact absurd (show Str.ofString "" = _ from hh) (by decide)
    · rw [← e, isNm_e] at h1; cases h1
    · rw [← e, isNum_e] at h2; cases h2
  · rfl
  )
theorem layR_bad {s : RdS} {ws : List Str} (h : Str.ofString "" ∈ ws) : layR s ws = none := (by
  unfold layR
  split
  · rename_i hh
    rw [likF_bad h hh]
    split <;> rfl
  · split
    · rename_i hh
      rw [headF_bad h hh]
      split <;> rfl
    · split
      · rename_i hh
        rw [layF_bad h hh]
        split <;> rfl
      · refine if_neg fun ⟨e, _⟩ => ?_
        rw [e] at h
        exact absurd h (by decide)
  )
theorem layRs_bad : ∀ {L : List (List Str)} {s : RdS}, (∃ ws ∈ L, Str.ofString "" ∈ ws) → layRs s L = none
  | [], _, ⟨_, h, _⟩ => by cases h
  | x :: L, s, ⟨ws, h1, h2⟩ => by
    show (layR s x).bind (fun s' => layRs s' L) = none
    rcases List.mem_cons.mp h1 with rfl | h
    · rw [layR_bad h2]; rfl
    · cases layR s x with
      | none => rfl
      | some s' => exact layRs_bad ⟨ws, h, h2⟩
theorem readF_bad {w : Str} (h : ∃ r ∈ rowsF w, Str.ofString "" ∈ wordsF r) : readF w = none := (by
  obtain ⟨r, h1, h2⟩ := h
  unfold readF
  rw [layRs_bad ⟨wordsF r, List.mem_map_of_mem h1, h2⟩]; rfl
  )
theorem layRs_app {a b : List (List Str)} : ∀ {s : RdS}, layRs s (a ++ b) = (layRs s a).bind fun s' => layRs s' b := (by
  induction a with
  | nil => intro s; rfl
  | cons x a ih =>
    intro s
    show (layR s x).bind (fun s' => layRs s' (a ++ b)) = ((layR s x).bind fun s' => layRs s' a).bind fun s' => layRs s' b
    cases layR s x with
    | none => rfl
    | some s' => exact ih
  )
theorem layRs_next {L : List (List Str)} {i : Nat} {ws : List Str} {s : RdS} (h : layRs ([], []) (L.take i) = some s) (hi : L[i]? = some ws) : layRs ([], []) (L.take (i + 1)) = layR s ws := (by
  rw [List.take_add_one, hi, show (some ws).toList = [ws] from rfl, layRs_app, h]
  show (layR s ws).bind (fun s' => layRs s' []) = layR s ws
  cases layR s ws <;> rfl
  )
theorem layRs_no {L : List (List Str)} {i : Nat} (h : layRs ([], []) (L.take i) = none) : layRs ([], []) L = none := (by
  rw [← List.take_append_drop i L, layRs_app, h]; rfl
  )
theorem rdOk_0 : RdOk ([], []) 0 := ⟨Nat.le_refl _, fun b hb => (by cases hb), ⟨Nat.le_refl _, fun l hl => (by cases hl)⟩⟩
theorem rd_sz {s : RdS} {n : Nat} (h : RdOk s n) (hn : n ≤ 1000) : FlSz s.1 s.2 := (by
  obtain ⟨h1, h2, h3⟩ := h
  refine ⟨by omega, fun b hb => ?_, by omega, fun l hl => ?_⟩
  · obtain ⟨a1, a2, a3, a4⟩ := h2 b hb
    refine ⟨by have := isNm_len a3; omega, by omega, fun k hk => ⟨by have := (a4 k hk).1; omega, fun l hl => by have := isNm_len ((a4 k hk).2 l hl); omega⟩⟩
  · obtain ⟨a1, a2⟩ := h3.2 l hl
    exact ⟨by have := isNm_len a1; omega, by have := isNm_len a2; omega⟩
  )
/-- a bore on the way, its blocks lists -/
def boE (b : Bo) : PyData := .tuple [.str b.nm, .int b.at_, .int b.top, .list (b.bl.map fun k => .list (k.map lyD))]
theorem boT_D (b : Bo) : (boT b).isD = true ∧ (boT b).toD = boE b := (by
  have e1 : OT.areD (b.bl.map fun k => OT.lst ((k.map lyD).map .dat)) = true := areD_of fun t ht => by
    obtain ⟨k, _, rfl⟩ := List.mem_map.mp ht
    exact areD_dats
  constructor
  · show (true && (true && (true && (OT.areD (b.bl.map fun k => OT.lst ((k.map lyD).map .dat)) && true)))) = true
    rw [e1]; rfl
  · show PyData.tuple [.str b.nm, .int b.at_, .int b.top, .list (OT.toDs (b.bl.map fun k => OT.lst ((k.map lyD).map .dat)))] = _
    rw [toDs_eq, List.map_map, show (OT.toD ∘ fun k => OT.lst ((k.map lyD).map .dat)) = fun k : List (Str × Int) => PyData.list (k.map lyD) from funext fun k => by
      show PyData.list (OT.toDs ((k.map lyD).map .dat)) = _
      rw [toDs_dats]]
    rfl
  )
theorem fndT_D (bs : List Bo) : (fndT bs).isD = true ∧ (fndT bs).toD = .list (bs.map boE) := (by
  constructor
  · exact areD_of fun t ht => by
      obtain ⟨b, _, rfl⟩ := List.mem_map.mp ht
      exact (boT_D b).1
  · show PyData.list (OT.toDs (bs.map boT)) = _
    rw [toDs_eq, List.map_map, show OT.toD ∘ boT = boE from funext fun b => (boT_D b).2]
  )
def T_law_draw : TF := fun a Q => ∃ (ns : List Int) (k many : Int), a = [.d (.list (ns.map PyData.int)), .d (.int k), .d (.int many)] ∧ 0 < many ∧ ∀ r, 0 ≤ r → r < many → ret Q (.d (.int r))
theorem TE_law_draw {ns : List Int} {k many : Int} {Q : S → Dl.Ctx → Prop} : T_law_draw [.d (.list (ns.map PyData.int)), .d (.int k), .d (.int many)] Q = (0 < many ∧ ∀ r, 0 ≤ r → r < many → ret Q (.d (.int r))) :=
  propext ⟨fun ⟨_, _, _, e, q⟩ => by
    simp only [List.cons.injEq, S.d.injEq, PyData.int.injEq, and_true] at e
    obtain ⟨_, rfl, rfl⟩ := e
    exact q, fun q => ⟨_, _, _, rfl, q⟩⟩
def T_law_feed : TF := fun a Q => ∃ (ns : List Int) (k : Int), a = [.d (.list (ns.map PyData.int)), .d (.int k)] ∧ 0 ≤ k ∧ ret Q (.o none (.lstP FeedP))
theorem TE_law_feed {ns : List Int} {k : Int} {Q : S → Dl.Ctx → Prop} : T_law_feed [.d (.list (ns.map PyData.int)), .d (.int k)] Q = (0 ≤ k ∧ ret Q (.o none (.lstP FeedP))) :=
  propext ⟨fun ⟨_, _, e, q⟩ => by
    simp only [List.cons.injEq, S.d.injEq, PyData.int.injEq, and_true] at e
    obtain ⟨_, rfl⟩ := e
    exact q, fun q => ⟨_, _, rfl, q⟩⟩
def T_law_next : TF := fun a Q => ∃ (v : Lt) (many : Int), a = [.o (some v) (.lstP FeedP), .d (.int many)] ∧ 0 < many ∧ Bd 250 many ∧ ∀ r, 0 ≤ r → r < many → retL v (.lstP FeedP) Q (.d (.int r))
theorem TE_law_next {v : Lt} {many : Int} {Q : S → Dl.Ctx → Prop} : T_law_next [.o (some v) (.lstP FeedP), .d (.int many)] Q = (0 < many ∧ Bd 250 many ∧ ∀ r, 0 ≤ r → r < many → retL v (.lstP FeedP) Q (.d (.int r))) := propext ⟨fun ⟨_, _, e, q⟩ => by cases e; exact q, fun q => ⟨_, _, rfl, q⟩⟩
def T_law_great : TF := fun a Q => ∃ (v : Lt), a = [.o (some v) (.lstP FeedP)] ∧ ∀ r, 0 ≤ r → r < big → retL v (.lstP FeedP) Q (.d (.int r))
theorem TE_law_great {v : Lt} {Q : S → Dl.Ctx → Prop} : T_law_great [.o (some v) (.lstP FeedP)] Q = ∀ r, 0 ≤ r → r < big → retL v (.lstP FeedP) Q (.d (.int r)) := propext ⟨fun ⟨_, e, q⟩ => by cases e; exact q, fun q => ⟨_, rfl, q⟩⟩
def T_law_long : TF := fun a Q => ∃ (v : Lt), a = [.o (some v) (.lstP FeedP)] ∧ ∀ r, 1 ≤ r → r ≤ big → retL v (.lstP FeedP) Q (.d (.int r))
theorem TE_law_long {v : Lt} {Q : S → Dl.Ctx → Prop} : T_law_long [.o (some v) (.lstP FeedP)] Q = ∀ r, 1 ≤ r → r ≤ big → retL v (.lstP FeedP) Q (.d (.int r)) := propext ⟨fun ⟨_, e, q⟩ => by cases e; exact q, fun q => ⟨_, rfl, q⟩⟩
def T_law_name : TF := fun a Q => ∃ (v : Lt) (X : S) (ws : List Str), a = [.o (some v) (.lstP FeedP), X] ∧ Lk X (ws.map PyData.str) ∧ (∀ w ∈ ws, WordOk w) ∧ ws.length < 26 ∧ ∀ w, WordOk w → w ∉ ws → retA [some (v, .lstP FeedP), pat1 X] Q (.d (.str w))
theorem TE_law_name {v u : Lt} {ws : List Str} {Q : S → Dl.Ctx → Prop} : T_law_name [.o (some v) (.lstP FeedP), .o (some u) (.lst (ws.map PyData.str))] Q = ((∀ w ∈ ws, WordOk w) ∧ ws.length < 26 ∧ ∀ w, WordOk w → w ∉ ws → retA [some (v, .lstP FeedP), some (u, .lst (ws.map PyData.str))] Q (.d (.str w))) := propext ⟨fun ⟨v', X, ws', e, h, q⟩ => by
  cases e
  rw [lk_o] at h
  have := str_inj h
  subst this
  exact q, fun q => ⟨_, _, _, rfl, lk_o.mpr rfl, q⟩⟩
def abc : Str := "abcdefghijklmnopqrstuvwxyz"
theorem abc_l : abc.cps.toList.length = 26 ∧ abc.cps.toList.all chOk = true ∧ abc.cps.toList.Nodup := by decide +kernel
/-- one letter more -/
theorem word_more {w : Str} {n : Nat} (h1 : w.cps.size < 8) (h2 : w.cps.toList.all chOk = true) (h3 : chOk n = true) : WordOk (w ++ (⟨#[n]⟩ : Str)) := (by
  refine ⟨?_, ?_, ?_⟩
  · show 1 ≤ (w.cps ++ #[n]).size
    simp
  · show (w.cps ++ #[n]).size ≤ 8
    simp; omega
  · show ((w.cps ++ #[n]).toList).all chOk = true
    simp only [Array.toList_append, List.all_append, h2, Bool.true_and]
    simp [h3]
  )
/-- n words, no two alike -/
structure NamesOk (n : Nat) (ws : List Str) : Prop where
  len : ws.length = n
  ok : ∀ w ∈ ws, WordOk w
  nd : ws.Nodup
def T_law_names : TF := fun a Q => ∃ (v : Lt) (many : Int), a = [.o (some v) (.lstP FeedP), .d (.int many)] ∧ 0 ≤ many ∧ many ≤ 20 ∧ ∀ ws, NamesOk many.toNat ws → retL v (.lstP FeedP) Q (.o none (.lst (ws.map PyData.str)))
theorem TE_law_names {v : Lt} {many : Int} {Q : S → Dl.Ctx → Prop} : T_law_names [.o (some v) (.lstP FeedP), .d (.int many)] Q = (0 ≤ many ∧ many ≤ 20 ∧ ∀ ws, NamesOk many.toNat ws → retL v (.lstP FeedP) Q (.o none (.lst (ws.map PyData.str)))) := propext ⟨fun ⟨_, _, e, q⟩ => by cases e; exact q, fun q => ⟨_, _, rfl, q⟩⟩
def T_law_blocks : TF := fun a Q => ∃ (v : Lt) (ms : List Str), a = [.o (some v) (.lstP FeedP), .d (.list (ms.map PyData.str))] ∧ ms ≠ [] ∧ ms.length ≤ 1000 ∧ ∀ bl, BlOk ms bl → retL v (.lstP FeedP) Q (.d (.tuple (bl.map blD)))
theorem TE_law_blocks {v : Lt} {ms : List Str} {Q : S → Dl.Ctx → Prop} : T_law_blocks [.o (some v) (.lstP FeedP), .d (.list (ms.map PyData.str))] Q = (ms ≠ [] ∧ ms.length ≤ 1000 ∧ ∀ bl, BlOk ms bl → retL v (.lstP FeedP) Q (.d (.tuple (bl.map blD)))) := propext ⟨fun ⟨_, ms', e, q⟩ => by
  simp only [List.cons.injEq, S.o.injEq, Option.some.injEq, S.d.injEq, PyData.list.injEq, and_true, true_and] at e
  obtain ⟨rfl, e⟩ := e
  have := str_inj e
  subst this
  exact q, fun q => ⟨_, _, rfl, q⟩⟩
/-- the blocks on the way: the last one may be empty at the begin -/
def BlAt (ms : List Str) (i : Nat) (l : List (List (Str × Int))) (k : List (Str × Int)) : Prop := (∀ x ∈ l, x ≠ []) ∧ (l.flatten.length + k.length = i) ∧ (0 < i → k ≠ []) ∧ ∀ y ∈ l.flatten ++ k, y.1 ∈ ms ∧ 1 ≤ y.2 ∧ y.2 ≤ big
theorem blAt_more {ms : List Str} {i : Nat} {l : List (List (Str × Int))} {k : List (Str × Int)} (h : BlAt ms i l k) {y : Str × Int} (hy : y.1 ∈ ms ∧ 1 ≤ y.2 ∧ y.2 ≤ big) : BlAt ms (i + 1) l (k ++ [y]) := (by
  obtain ⟨h1, h2, h3, h4⟩ := h
  refine ⟨h1, by rw [List.length_append, List.length_singleton]; omega, fun _ => by simp, fun z hz => ?_⟩
  rw [← List.append_assoc, List.mem_append] at hz
  rcases hz with hz | hz
  · exact h4 z hz
  · obtain rfl : z = y := by simpa using hz
    exact hy
  )
theorem blAt_new {ms : List Str} {i : Nat} {l : List (List (Str × Int))} {k : List (Str × Int)} (h : BlAt ms i l k) (hk : k ≠ []) {y : Str × Int} (hy : y.1 ∈ ms ∧ 1 ≤ y.2 ∧ y.2 ≤ big) : BlAt ms (i + 1) (l ++ [k]) [y] := (by
  obtain ⟨h1, h2, h3, h4⟩ := h
  refine ⟨fun x hx => ?_, by rw [List.flatten_append, List.length_append]; simp only [List.flatten_cons, List.flatten_nil, List.append_nil, List.length_singleton]; omega, fun _ => by simp, fun z hz => ?_⟩
  · rcases List.mem_append.mp hx with hx | hx
    · exact h1 x hx
    · obtain rfl : x = k := by simpa using hx
      exact hk
  · rw [List.flatten_append, List.mem_append] at hz
    rcases hz with hz | hz
    · exact h4 z (by simpa using hz)
    · obtain rfl : z = y := by simpa using hz
      exact hy
  )
theorem blAt_end {ms : List Str} {i : Nat} {l : List (List (Str × Int))} {k : List (Str × Int)} (h : BlAt ms i l k) (h0 : 0 < i) (h6 : i ≤ 6) : BlOk ms (l ++ [k]) := (by
  obtain ⟨h1, h2, h3, h4⟩ := h
  have e : (l ++ [k]).flatten = l.flatten ++ k := by simp
  refine ⟨by simp, fun x hx => ?_, by rw [e, List.length_append]; omega, by rw [e, List.length_append]; omega, by rw [e]; exact h4⟩
  rcases List.mem_append.mp hx with hx | hx
  · exact h1 x hx
  · obtain rfl : x = k := by simpa using hx
    exact h3 h0
  )
theorem flat_few {α : Type} : ∀ {l : List (List α)}, (∀ x ∈ l, x ≠ []) → l.length ≤ l.flatten.length
  | [], _ => Nat.le_refl _
  | x :: l, h => by
    have h1 := flat_few (l := l) fun y hy => h y (List.mem_cons_of_mem _ hy)
    have h2 := List.length_pos_iff.mpr (h x List.mem_cons_self)
    rw [List.flatten_cons, List.length_append, List.length_cons]
    omega
theorem blAt_few {ms : List Str} {i : Nat} {l : List (List (Str × Int))} {k : List (Str × Int)} (h : BlAt ms i l k) : l.length ≤ i := (by
  have := flat_few h.1
  have := h.2.1
  omega
  )
theorem last_D {l : List (List (Str × Int))} {k : List (Str × Int)} {Q : List PyData → List (List PyData) → Prop} (h : Q (k.map lyD) (l.map (·.map lyD))) : lastLL ((l ++ [k]).map (·.map lyD)) Q := ⟨_, _, by rw [List.map_append]; rfl, h⟩
def T_law_bores : TF := fun a Q => ∃ (xs : List Int) (ns ms : List Str), a = [.d (.list (xs.map PyData.int)), .d (.list (ns.map PyData.str)), .d (.list (ms.map PyData.str))] ∧ ns.length ≤ 20 ∧ ms ≠ [] ∧ ms.length ≤ 1000 ∧ ∀ bs, BosOk ns ms bs → (∀ b ∈ bs, b.at_ ≤ (ns.length : Int) * big) → ret Q (.o none (.lst (bs.map boD)))
theorem TE_law_bores {xs : List Int} {ns ms : List Str} {Q : S → Dl.Ctx → Prop} : T_law_bores [.d (.list (xs.map PyData.int)), .d (.list (ns.map PyData.str)), .d (.list (ms.map PyData.str))] Q = (ns.length ≤ 20 ∧ ms ≠ [] ∧ ms.length ≤ 1000 ∧ ∀ bs, BosOk ns ms bs → (∀ b ∈ bs, b.at_ ≤ (ns.length : Int) * big) → ret Q (.o none (.lst (bs.map boD)))) := propext ⟨fun ⟨_, _, _, e, q⟩ => by
  simp only [List.cons.injEq, S.d.injEq, PyData.list.injEq, and_true] at e
  obtain ⟨_, e1, e2⟩ := e
  have := str_inj e1
  have := str_inj e2
  subst_vars
  exact q, fun q => ⟨_, _, _, rfl, q⟩⟩
/-- the bores on the way -/
structure BosAt (ns ms : List Str) (i : Nat) (bs : List Bo) (sp : Int) : Prop where
  ok : BosOk (ns.take i) ms bs
  len : bs.length = i
  lo : -1 ≤ sp
  hi : sp ≤ i * big
  far : ∀ b ∈ bs, b.at_ ≤ sp
theorem bosAt_0 (ns ms : List Str) : BosAt ns ms 0 [] (-1) := (by
  refine ⟨⟨List.Perm.refl [], fun b hb => absurd hb List.not_mem_nil, List.nodup_nil⟩, rfl, Int.le_refl _, ?_, fun b hb => absurd hb List.not_mem_nil⟩
  rw [Int.natCast_zero, Int.zero_mul]
  decide
  )
theorem bosAt_more {ns ms : List Str} {i : Nat} {bs : List Bo} {sp : Int} (h : BosAt ns ms i bs sp) {z : Str} (hz : ns[i]? = some z) (hi : i < 20) {r t : Int} {bl : List (List (Str × Int))} (r1 : 1 ≤ r) (rb : r ≤ big) (t1 : 1 ≤ t) (tb : t ≤ big) (hb : BlOk ms bl) (k : Nat) :
    BosAt ns ms (i + 1) (bs.take k ++ [⟨z, sp + r, t - 1, bl⟩] ++ bs.drop k) (sp + r) := (by
  obtain ⟨⟨b1, b2, b3⟩, hl, h0, h1, hf⟩ := h
  have B0 : 0 < big := big_pos
  obtain ⟨B, hB⟩ : ∃ B, B = big := ⟨_, rfl⟩
  rw [← hB] at rb tb h1 B0
  have e : ns.take (i + 1) = ns.take i ++ [z] := by rw [List.take_add_one, hz]; rfl
  have ib : (i : Int) * B ≤ 19 * B := Int.mul_le_mul_of_nonneg_right (by omega) (Int.le_of_lt B0)
  refine ⟨⟨?_, fun b hb' => ?_, ?_⟩, by rw [Dl.len_ins, hl], by omega, ?_, fun b hb' => ?_⟩
  · have h2 := (perm_ins (ws := bs) (n := k) (w := (⟨z, sp + r, t - 1, bl⟩ : Bo))).map Bo.nm
    rw [e]
    exact h2.trans ((b1.cons z).trans (List.perm_append_singleton z _).symm)
  · rcases mem_ins.mp hb' with rfl | hb'
    · exact ⟨hb, show 0 ≤ sp + r by omega, by rw [← hB]; show sp + r ≤ 100 * B; omega, show 0 ≤ t - 1 by omega, by rw [← hB]; show t - 1 ≤ B; omega⟩
    · exact b2 b hb'
  · have h2 := (perm_ins (ws := bs) (n := k) (w := (⟨z, sp + r, t - 1, bl⟩ : Bo))).map Bo.at_
    refine h2.nodup_iff.mpr (List.nodup_cons.mpr ⟨fun hm => ?_, b3⟩)
    obtain ⟨b, hb1, hb2⟩ := List.mem_map.mp hm
    have h3 := hf b hb1
    have h4 : b.at_ = sp + r := hb2
    omega
  · rw [← hB, Int.natCast_add, Int.add_mul]
    have : ((1 : Nat) : Int) * B = B := Int.one_mul B
    omega
  · rcases mem_ins.mp hb' with rfl | hb'
    · exact Int.le_refl _
    · have := hf b hb'
      omega
  )
/-- two texts, sorted -/
def sortP (a b : Str) : List Str := if ltCps b.cps.toList a.cps.toList = true then [b, a] else [a, b]
theorem ltc_anti {a b : Str} (h1 : ltCps a.cps.toList b.cps.toList = false) (h2 : ltCps b.cps.toList a.cps.toList = false) : a = b := (by
  rw [ltCps_eq, decide_eq_false_iff_not] at h1 h2
  have : a.cps.toList = b.cps.toList := List.le_antisymm (List.not_lt.mp h2) (List.not_lt.mp h1)
  obtain ⟨a⟩ := a
  obtain ⟨b⟩ := b
  have e : a = b := Array.toList_inj.mp this
  rw [e]
  )
theorem sortP_of {a b : Str} {ss : List Str} (h : ss.Perm [a, b]) (hs : sortedS ss = true) : ss = sortP a b := (by
  have hl := h.length_eq
  match ss, hl with
  | [x, y], _ =>
    have hs2 : ltCps y.cps.toList x.cps.toList = false := by simpa [sortedS, risingS] using hs
    unfold sortP
    have hx : x ∈ [a, b] := h.mem_iff.mp (by simp)
    simp at hx
    rcases hx with rfl | rfl
    · have : [y].Perm [b] := (List.perm_cons x).mp h
      obtain rfl : y = b := by simpa using this
      rw [hs2]; simp
    · have : [y].Perm [a] := (List.perm_cons x).mp (h.trans (List.Perm.swap _ _ _))
      obtain rfl : y = a := by simpa using this
      by_cases hc : ltCps x.cps.toList y.cps.toList = true
      · rw [if_pos hc]
      · rw [ltc_anti (by simpa using hc) hs2]; simp
  )
theorem sortP_perm (a b : Str) : (sortP a b).Perm [a, b] := (by
  unfold sortP
  split
  · exact List.Perm.swap _ _ _
  · exact List.Perm.refl _
  )
/-- likes of marks, no two of one pair -/
structure LkTo (ms : List Str) (ls : List Lk3) : Prop where
  ok : LksOk ls
  inm : ∀ l ∈ ls, l.1 ∈ ms ∧ l.2.1 ∈ ms
  far : ls.Pairwise fun x y => sortP x.1 x.2.1 ≠ sortP y.1 y.2.1
def T_law_likes : TF := fun a Q => ∃ (v : Lt) (ms : List Str), a = [.o (some v) (.lstP FeedP), .d (.list (ms.map PyData.str))] ∧ 0 < ms.length ∧ ms.length ≤ 1000 ∧ (∀ w ∈ ms, PyData.strOk w = true) ∧ ∀ ls, LkTo ms ls → ls.length ≤ 5 → retL v (.lstP FeedP) Q (.o none (.lst (ls.map lkD)))
theorem TE_law_likes {v : Lt} {ms : List Str} {Q : S → Dl.Ctx → Prop} : T_law_likes [.o (some v) (.lstP FeedP), .d (.list (ms.map PyData.str))] Q = (0 < ms.length ∧ ms.length ≤ 1000 ∧ (∀ w ∈ ms, PyData.strOk w = true) ∧ ∀ ls, LkTo ms ls → ls.length ≤ 5 → retL v (.lstP FeedP) Q (.o none (.lst (ls.map lkD)))) := propext ⟨fun ⟨_, ms', e, q⟩ => by
  simp only [List.cons.injEq, S.o.injEq, Option.some.injEq, S.d.injEq, PyData.list.injEq, and_true, true_and] at e
  obtain ⟨rfl, e⟩ := e
  have := str_inj e
  subst this
  exact q, fun q => ⟨_, _, rfl, q⟩⟩
def T_law_marks : TF := fun a Q => ∃ (v : Lt) (ns : List Str), a = [.o (some v) (.lstP FeedP), .d (.list (ns.map PyData.str))] ∧ ns.length ≤ 6 ∧ (∀ w ∈ ns, WordOk w) ∧ ∀ ms : List Str, 0 < ms.length → ms.length ≤ 6 → (∀ w ∈ ms, WordOk w) → retL v (.lstP FeedP) Q (.o none (.lst (ms.map PyData.str)))
theorem TE_law_marks {v : Lt} {ns : List Str} {Q : S → Dl.Ctx → Prop} : T_law_marks [.o (some v) (.lstP FeedP), .d (.list (ns.map PyData.str))] Q = (ns.length ≤ 6 ∧ (∀ w ∈ ns, WordOk w) ∧ ∀ ms : List Str, 0 < ms.length → ms.length ≤ 6 → (∀ w ∈ ms, WordOk w) → retL v (.lstP FeedP) Q (.o none (.lst (ms.map PyData.str)))) := propext ⟨fun ⟨_, ms', e, q⟩ => by
  simp only [List.cons.injEq, S.o.injEq, Option.some.injEq, S.d.injEq, PyData.list.injEq, and_true, true_and] at e
  obtain ⟨rfl, e⟩ := e
  have := str_inj e
  subst this
  exact q, fun q => ⟨_, _, rfl, q⟩⟩
/-- a field's parts: its bores' names, its marks, its bores, its likes -/
structure FieldTo (ns ms : List Str) (bs : List Bo) (ls : List Lk3) : Prop where
  wm : ∀ w ∈ ms, WordOk w
  m0 : 0 < ms.length
  ml : ms.length ≤ 6
  lk : LkTo ms ls
  ll : ls.length ≤ 5
  bo : BosOk ns ms bs
  wn : ∀ w ∈ ns, WordOk w
  nl : ns.length ≤ 6
  nn : ns.Nodup
  close : ∀ b ∈ bs, b.at_ ≤ 6 * big
theorem FieldTo.few {ns ms : List Str} {bs : List Bo} {ls : List Lk3} (h : FieldTo ns ms bs ls) : bs.length ≤ 6 := (by
  have := h.bo.nm.length_eq
  rw [List.length_map] at this
  have := h.nl
  omega
  )
theorem FieldTo.nm {ns ms : List Str} {bs : List Bo} {ls : List Lk3} (h : FieldTo ns ms bs ls) : ∀ b ∈ bs, WordOk b.nm := fun b hb => h.wn b.nm (h.bo.nm.mem_iff.mp (List.mem_map.mpr ⟨b, hb, rfl⟩))
def T_law_field : TF := fun a Q => ∃ (xs : List Int), a = [.d (.list (xs.map PyData.int))] ∧ ∀ (ns ms : List Str) (bs : List Bo) (ls : List Lk3), FieldTo ns ms bs ls → ret Q (.d (.tuple [.tuple (bs.map boD), .tuple (ls.map lkD)]))
theorem TE_law_field {xs : List Int} {Q : S → Dl.Ctx → Prop} : T_law_field [.d (.list (xs.map PyData.int))] Q = (∀ (ns ms : List Str) (bs : List Bo) (ls : List Lk3), FieldTo ns ms bs ls → ret Q (.d (.tuple [.tuple (bs.map boD), .tuple (ls.map lkD)]))) := propext ⟨fun ⟨_, _, q⟩ => q, fun q => ⟨_, rfl, q⟩⟩
/-! a number's text -/
theorem dig_len : ∀ (k m : Nat), m < 10 ^ (k + 1) → (Nat.toDigits 10 m).length ≤ k + 1
  | 0, m, h => by
    rw [Nat.toDigits_of_lt_base (by simpa using h)]
    simp
  | k + 1, m, h => by
    by_cases hm : m < 10
    · rw [Nat.toDigits_of_lt_base hm]
      simp
    · have h1 : m % 10 < 10 := Nat.mod_lt m (by decide)
      have t : Nat.toDigits 10 (m / 10) ++ Nat.toDigits 10 (m % 10) = Nat.toDigits 10 (10 * (m / 10) + m % 10) := Nat.toDigits_append_toDigits (by decide) (by omega) h1
      rw [Nat.div_add_mod] at t
      have := dig_len k (m / 10) (by rw [Nat.pow_succ] at h; omega)
      rw [← t, List.length_append, Nat.toDigits_of_lt_base h1]
      simp
      omega
theorem dig_head (m : Nat) : 0 < m → ∃ c r, Nat.toDigits 10 m = c :: r ∧ c ≠ '0' := (by
  induction m using Nat.strongRecOn with
  | _ m ih =>
    intro h0
    by_cases hm : m < 10
    · rw [Nat.toDigits_of_lt_base hm]
      refine ⟨_, [], rfl, ?_⟩
      have key : ∀ k ∈ List.range 10, 0 < k → Nat.digitChar k ≠ '0' := by decide
      exact key m (List.mem_range.mpr hm) h0
    · have h1 : m % 10 < 10 := Nat.mod_lt m (by decide)
      have t : Nat.toDigits 10 (m / 10) ++ Nat.toDigits 10 (m % 10) = Nat.toDigits 10 (10 * (m / 10) + m % 10) := Nat.toDigits_append_toDigits (by decide) (by omega) h1
      rw [Nat.div_add_mod] at t
      obtain ⟨c, r, e, hc⟩ := ih (m / 10) (by omega) (by omega)
      rw [← t, e]
      exact ⟨c, _, rfl, hc⟩
  )
def NumB (n : Int) : Prop := 0 ≤ n ∧ n < 10 ^ 60
def numT (n : Int) : Str := Str.ofString (toString n)
theorem cps_num (m : Nat) : (numT (m : Int)).cps.toList = (Nat.toDigits 10 m).map Char.toNat := PySem.W.KIN.signs_num m
theorem num_dig {n : Int} (h : 0 ≤ n) : ∀ c ∈ (numT n).cps.toList, 48 ≤ c ∧ c ≤ 57 := (by
  obtain ⟨m, rfl⟩ := Int.eq_ofNat_of_zero_le h
  intro c hc
  rw [cps_num] at hc
  obtain ⟨ch, hch, e⟩ := List.mem_map.mp hc
  have r := digit_range (Nat.isDigit_of_mem_toDigits (by decide) (by decide) hch)
  rw [← e]
  exact r
  )
theorem num_len {n : Int} (h : NumB n) : (numT n).length ≤ 60 ∧ 1 ≤ (numT n).length := (by
  obtain ⟨h0, h1⟩ := h
  obtain ⟨m, rfl⟩ := Int.eq_ofNat_of_zero_le h0
  have e : (numT (m : Int)).length = (Nat.toDigits 10 m).length := by
    show (numT (m : Int)).cps.size = _
    rw [← Array.length_toList, cps_num, List.length_map]
  have := dig_len 59 m (by omega)
  have h2 : 0 < (Nat.toDigits 10 m).length := by
    by_cases hm : 0 < m
    · obtain ⟨c, r, e, _⟩ := dig_head m hm
      rw [e]; simp
    · obtain rfl : m = 0 := by omega
      decide
  omega
  )
theorem num_log {n : Int} (h : NumB n) : n.natAbs.log2 < 1920 := (by
  obtain ⟨h0, h1⟩ := h
  by_cases hz : n.natAbs = 0
  · rw [hz]; decide
  · exact Nat.lt_trans ((Nat.log2_lt hz).mpr (Nat.lt_of_lt_of_le (show n.natAbs < 10 ^ 60 by omega) (show 10 ^ 60 ≤ 2 ^ 200 by decide))) (by decide)
  )
/-! a field's text -/
/-- a row, its words with blanks between -/
def rowT (ws : List Str) : Str := Str.join " " ws
def headW (b : Bo) : List Str := ["bore", b.nm, numT b.at_, numT b.top]
def layW (l : Str × Int) : List Str := ["layer", l.1, numT l.2]
def likW (l : Lk3) : List Str := ["like", l.1, l.2.1, numT l.2.2]
def fltW : List Str := ["fault"]
/-- blocks, a row fault between two -/
def blksW : List (List (Str × Int)) → List (List Str)
  | [] => []
  | [k] => k.map layW
  | k :: k' :: r => k.map layW ++ fltW :: blksW (k' :: r)
def boW (b : Bo) : List (List Str) := headW b :: blksW b.bl
def fldW (bs : List Bo) (ls : List Lk3) : List (List Str) := (bs.map boW).flatten ++ ls.map likW
theorem str_ext {x y : Str} (h : x.cps.toList = y.cps.toList) : x = y := (by
  cases x; cases y
  exact congrArg Str.mk (Array.toList_inj.mp h)
  )
theorem cps_app (x y : Str) : (x ++ y).cps.toList = x.cps.toList ++ y.cps.toList := (by
  show (x.cps ++ y.cps).toList = _
  rw [Array.toList_append]
  )
theorem cps_rowT (ws : List Str) : (rowT ws).cps.toList = jn 32 (ws.map fun w => w.cps.toList) := join_jn 32 ws
theorem blksW_app : ∀ (l : List (List (Str × Int))) (k : List (Str × Int)), l ≠ [] → blksW (l ++ [k]) = blksW l ++ fltW :: k.map layW
  | [], _, h => absurd rfl h
  | [a], k, _ => rfl
  | a :: b :: r, k, _ => by
    show a.map layW ++ fltW :: blksW (b :: r ++ [k]) = a.map layW ++ fltW :: blksW (b :: r) ++ fltW :: k.map layW
    rw [blksW_app (b :: r) k (by simp)]
    simp

structure BoTx (b : Bo) : Prop where
  nm : b.nm.length ≤ 1000
  at_ : NumB b.at_
  top : NumB b.top
  few : b.bl.length ≤ 1000
  bl : ∀ k ∈ b.bl, k ≠ [] ∧ k.length ≤ 1000 ∧ ∀ l ∈ k, l.1.length ≤ 1000 ∧ NumB l.2
theorem cut_bl : (Str.ofString "bore ").cps.toList = (Str.ofString "bore").cps.toList ++ [32] := by decide +kernel
theorem cut_ll : (Str.ofString "layer ").cps.toList = (Str.ofString "layer").cps.toList ++ [32] := by decide +kernel
theorem cut_kl : (Str.ofString "like ").cps.toList = (Str.ofString "like").cps.toList ++ [32] := by decide +kernel
theorem cut_b : (Str.ofString " ").cps.toList = [32] := by decide +kernel
theorem row_bore (b : Bo) : Str.ofString "bore " ++ b.nm ++ Str.ofString " " ++ numT b.at_ ++ Str.ofString " " ++ numT b.top = rowT (headW b) := str_ext (by
  rw [cps_rowT]
  simp only [cps_app, cut_bl, cut_b, headW, List.map_cons, List.map_nil, jn, List.append_assoc, List.cons_append, List.nil_append])
theorem row_layer (l : Str × Int) : Str.ofString "layer " ++ l.1 ++ Str.ofString " " ++ numT l.2 = rowT (layW l) := str_ext (by
  rw [cps_rowT]
  simp only [cps_app, cut_ll, cut_b, layW, List.map_cons, List.map_nil, jn, List.append_assoc, List.cons_append, List.nil_append])
theorem row_like (l : Lk3) : Str.ofString "like " ++ l.1 ++ Str.ofString " " ++ l.2.1 ++ Str.ofString " " ++ numT l.2.2 = rowT (likW l) := str_ext (by
  rw [cps_rowT]
  simp only [cps_app, cut_kl, cut_b, likW, List.map_cons, List.map_nil, jn, List.append_assoc, List.cons_append, List.nil_append])
theorem blksW_len : ∀ {l : List (List (Str × Int))} {m : Nat}, (∀ k ∈ l, k.length ≤ m) → (blksW l).length ≤ l.length * (m + 1)
  | [], m, _ => Nat.zero_le _
  | [a], m, h => by
    have := h a (by simp)
    show (a.map layW).length ≤ _
    rw [List.length_map]
    simp
    omega
  | a :: b :: r, m, h => by
    have h1 := h a (by simp)
    have h2 := blksW_len (l := b :: r) (m := m) fun k hk => h k (List.mem_cons_of_mem _ hk)
    show (a.map layW ++ fltW :: blksW (b :: r)).length ≤ _
    rw [List.length_append, List.length_cons, List.length_map]
    rw [show (a :: b :: r).length * (m + 1) = (b :: r).length * (m + 1) + (m + 1) by rw [List.length_cons, Nat.succ_mul]]
    omega
structure FldTx (bs : List Bo) (ls : List Lk3) : Prop where
  bo : ∀ b ∈ bs, BoTx b
  few : bs.length ≤ 1000 ∧ ls.length ≤ 1000
  lk : ∀ l ∈ ls, l.1.length ≤ 1000 ∧ l.2.1.length ≤ 1000 ∧ NumB l.2.2
  rows : (fldW bs ls).length ≤ 1000000
  size : (List.map (fun x => x.length) (List.map rowT (fldW bs ls))).sum + (fldW bs ls).length ≤ 16777216
theorem fld_take {bs : List Bo} {ls : List Lk3} (h : FldTx bs ls) (i j : Nat) : (((bs.take i).map boW).flatten ++ (ls.take j).map likW).length ≤ 1000000 := (by
  have h1 := h.rows
  unfold fldW at h1
  refine Nat.le_trans ?_ h1
  rw [List.length_append, List.length_append, List.length_map, List.length_map, List.length_take]
  have : ((bs.take i).map boW).flatten.length ≤ (bs.map boW).flatten.length := by
    rw [show (bs.map boW).flatten = ((bs.take i).map boW).flatten ++ ((bs.drop i).map boW).flatten by rw [← List.flatten_append, ← List.map_append, List.take_append_drop], List.length_append]
    omega
  omega
  )
def T_law_rows : TF := fun a Q => ∃ (bs : List Bo) (ls : List Lk3), a = [.d (.tuple [.tuple (bs.map boD), .tuple (ls.map lkD)])] ∧ FldTx bs ls ∧ ret Q (.o none (.lst ((fldW bs ls).map fun ws => .str (rowT ws))))
theorem cutL_to {α : Type} (xs : List α) (p : Nat) : cutL xs none (some (p : Int)) = xs.take p := (by
  unfold cutL
  rw [show HT.sIx xs.length 0 none = 0 from rfl, sIx_nat, Nat.sub_zero, List.drop_zero]
  rcases Nat.le_total p xs.length with h | h
  · rw [Nat.min_eq_left h]
  · rw [Nat.min_eq_right h, List.take_length, List.take_of_length_le h]
  )
theorem cutL_from {α : Type} (xs : List α) (p : Nat) : cutL xs (some (p : Int)) none = xs.drop p := (by
  unfold cutL
  rw [show HT.sIx xs.length xs.length none = xs.length from rfl, sIx_nat]
  rcases Nat.le_total p xs.length with h | h
  · rw [Nat.min_eq_left h, List.take_of_length_le (by rw [List.length_drop]; omega)]
  · rw [Nat.min_eq_right h, List.drop_length, List.drop_eq_nil_of_le h]; simp
  )
theorem cutS_len (w : Str) (lo hi : Option Int) : (cutS w lo hi).length ≤ w.length := (by
  unfold cutS
  show (List.toArray _).size ≤ w.cps.size
  rw [List.size_toArray, List.length_take, List.length_drop, Array.length_toList]
  omega
  )
theorem cutS_mem {w : Str} {lo hi : Option Int} {n : Nat} (h : n ∈ (cutS w lo hi).cps.toList) : n ∈ w.cps.toList := (by
  unfold cutS at h
  have h : n ∈ (List.toArray ((w.cps.toList.drop (HT.sIx w.length 0 lo)).take (HT.sIx w.length w.length hi - HT.sIx w.length 0 lo))).toList := h
  exact List.mem_of_mem_drop (List.mem_of_mem_take h)
  )
/-! how long a joined text is, its line feeds -/
/-- line feeds of a text -/
def nlF (w : Str) : Nat := w.cps.toList.countP fun n => n == 10
def szL (ps : List Str) : Nat := (ps.map fun p => p.length).sum
def nlL (ps : List Str) : Nat := (ps.map nlF).sum
theorem jn_cps (ps : List Str) : (Txt.join (Str.ofString " ") ps).cps.toList = jn 32 (ps.map fun p => p.cps.toList) := (by
  rw [show Txt.join (Str.ofString " ") ps = Str.join (Str.ofString " ") ps from eq_of_beq (join_plain_closes _ ps)]
  exact join_jn 32 ps
  )
theorem jn_full {n : Nat} : ∀ {ps : List (List Nat)}, ps ≠ [] → (jn n ps).length + 1 = (ps.map List.length).sum + ps.length
  | [], h => absurd rfl h
  | [p], _ => by simp [jn]
  | p :: q :: r, _ => by
    have ih := jn_full (n := n) (ps := q :: r) (by simp)
    show (p ++ n :: jn n (q :: r)).length + 1 = _
    rw [List.length_append, List.length_cons, List.map_cons, List.sum_cons, List.length_cons]
    omega
theorem jn_feeds : ∀ ps : List (List Nat), (jn 32 ps).countP (fun n => n == 10) = (ps.map fun p => p.countP fun n => n == 10).sum
  | [] => rfl
  | [p] => by simp [jn]
  | p :: q :: r => by
    have ih := jn_feeds (q :: r)
    show (p ++ 32 :: jn 32 (q :: r)).countP _ = _
    rw [List.countP_append, List.countP_cons_of_neg (by decide), ih]
    simp only [List.map_cons, List.sum_cons]
theorem szL_map (ps : List Str) : ((ps.map fun p => p.cps.toList).map List.length).sum = szL ps := (by
  unfold szL
  rw [List.map_map]
  congr 1
  )
theorem join_sz {ps : List Str} (h : ps ≠ []) : (Txt.join (Str.ofString " ") ps).length + 1 = szL ps + ps.length := (by
  have c : (Txt.join (Str.ofString " ") ps).length = (Txt.join (Str.ofString " ") ps).cps.toList.length := Array.length_toList.symm
  rw [c, jn_cps, jn_full (by simpa using h), szL_map, List.length_map]
  )
theorem join_le (ps : List Str) : (Txt.join (Str.ofString " ") ps).length ≤ szL ps + ps.length := (by
  by_cases h : ps = []
  · subst h; decide
  · have := join_sz h; omega
  )
theorem join_nl (ps : List Str) : nlF (Txt.join (Str.ofString " ") ps) = nlL ps := (by
  unfold nlF nlL
  rw [jn_cps, jn_feeds, List.map_map]
  rfl
  )
theorem join_ok {ps : List Str} (h : ∀ p ∈ ps, PyData.strOk p = true) : PyData.strOk (Txt.join (Str.ofString " ") ps) = true := (by
  refine strOk_iff.mpr fun c hc => ?_
  rw [jn_cps] at hc
  have key : ∀ (qs : List (List Nat)), (∀ p ∈ qs, ∀ c ∈ p, c < 0x110000) → c ∈ jn 32 qs → c < 0x110000 := fun qs => by
    induction qs with
    | nil => intro _ h; cases h
    | cons p qs ih =>
      intro h1 h2
      cases qs with
      | nil => exact h1 p List.mem_cons_self c h2
      | cons q r =>
        have h2 : c ∈ p ++ 32 :: jn 32 (q :: r) := h2
        rcases List.mem_append.mp h2 with z | z
        · exact h1 p List.mem_cons_self c z
        · rcases List.mem_cons.mp z with z | z
          · omega
          · exact ih (fun x hx => h1 x (List.mem_cons_of_mem _ hx)) z
  refine key _ (fun p hp c hc => ?_) hc
  obtain ⟨r, hr, rfl⟩ := List.mem_map.mp hp
  exact strOk_iff.mp (h r hr) c hc
  )
theorem split_sz (w : Str) : szL (Txt.split w (Str.ofString " ")) + (Txt.split w (Str.ofString " ")).length = w.length + 1 := (by
  have h := join_sz (ps := Txt.split w (Str.ofString " ")) (split_ne w 32)
  have e : (Txt.join (Str.ofString " ") (Txt.split w (Str.ofString " "))).cps.toList = w.cps.toList := by rw [jn_cps]; exact split_jn w 32
  have l : (Txt.join (Str.ofString " ") (Txt.split w (Str.ofString " "))).length = w.length := by
    have c1 : (Txt.join (Str.ofString " ") (Txt.split w (Str.ofString " "))).length = (Txt.join (Str.ofString " ") (Txt.split w (Str.ofString " "))).cps.toList.length := Array.length_toList.symm
    have c2 : w.length = w.cps.toList.length := Array.length_toList.symm
    rw [c1, c2, e]
  omega
  )
theorem split_nl (w : Str) : nlL (Txt.split w (Str.ofString " ")) = nlF w := (by
  rw [← join_nl]
  unfold nlF
  rw [jn_cps]
  exact congrArg _ (split_jn w 32)
  )
theorem szL_app (a b : List Str) : szL (a ++ b) = szL a + szL b := by unfold szL; rw [List.map_append, List.sum_append]
theorem nlL_app (a b : List Str) : nlL (a ++ b) = nlL a + nlL b := by unfold nlL; rw [List.map_append, List.sum_append]
theorem szL_cut (a : List Str) (i : Nat) : szL (a.take i) + szL (a.drop i) = szL a := by rw [← szL_app, List.take_append_drop]
theorem nlL_cut (a : List Str) (i : Nat) : nlL (a.take i) + nlL (a.drop i) = nlL a := by rw [← nlL_app, List.take_append_drop]
theorem cutS_list (w : Str) (lo hi : Option Int) : (cutS w lo hi).cps.toList = cutL w.cps.toList lo hi := (by
  unfold cutS cutL
  rw [Array.length_toList]; rfl
  )
/-- part of a text: not longer, no more line feeds -/
theorem cutS_nl (w : Str) (lo hi : Option Int) : nlF (cutS w lo hi) ≤ nlF w := (by
  unfold nlF
  rw [cutS_list]
  exact List.Sublist.countP_le ((List.take_sublist _ _).trans (List.drop_sublist _ _))
  )
theorem cutS_ok {w : Str} (h : PyData.strOk w = true) (lo hi : Option Int) : PyData.strOk (cutS w lo hi) = true := strOk_iff.mpr fun n hn => strOk_iff.mp h n (cutS_mem hn)
theorem nlF_app (x y : Str) : nlF (x ++ y) = nlF x + nlF y := (by
  unfold nlF
  rw [show (x ++ y).cps.toList = x.cps.toList ++ y.cps.toList from Array.toList_append, List.countP_append]
  )
theorem str_app_len (x y : Str) : (x ++ y).length = x.length + y.length := (by
  show (x.cps ++ y.cps).size = _
  rw [Array.size_append]; rfl
  )
def T_law_bent_row : TF := fun a Q => ∃ (v : Lt) (w : Str), a = [.o (some v) (.lstP FeedP), .d (.str w)] ∧ PyData.strOk w = true ∧ w.length ≤ 5000 ∧ ∀ w' : Str, PyData.strOk w' = true → w'.length ≤ 2 * w.length + 120 → nlF w' ≤ 2 * nlF w + 1 → retL v (.lstP FeedP) Q (.d (.str w'))
/-! fields that are drawn fit -/
theorem cps_eq {a b : Str} (h : a.cps.toList = b.cps.toList) : a = b := (by
  cases a; cases b
  congr 1
  exact Array.toList_inj.mp h
  )
theorem mmS (a b : Str) : sortP a b = [minS a b, maxS a b] := (by
  unfold sortP minS maxS
  rw [PyProof.Rows.ltCps_eq]
  by_cases h1 : b.cps.toList < a.cps.toList
  · rw [if_pos (decide_eq_true h1), if_pos h1, if_neg fun z => absurd (List.lt_trans h1 z) (List.lt_irrefl _)]
  · rw [if_neg fun z => h1 (of_decide_eq_true z), if_neg h1]
    by_cases h2 : a.cps.toList < b.cps.toList
    · rw [if_pos h2]
    · rw [if_neg h2]
      have e : a = b := cps_eq (List.le_antisymm (List.not_lt.mp h1) (List.not_lt.mp h2))
      rw [e]
  )
theorem sameLk_iff {l s : Lk3} : sortP s.1 s.2.1 = sortP l.1 l.2.1 ↔ sameLk l s = true := (by
  rw [mmS, mmS]
  unfold sameLk
  rw [decide_eq_true_iff]
  constructor
  · intro h
    injection h with h1 h2
    injection h2 with h2 _
    exact ⟨h1, h2⟩
  · rintro ⟨h1, h2⟩
    rw [h1, h2]
  )
theorem lkFrom_ok : ∀ {ls seen : List Lk3}, (∀ l ∈ ls, isNm l.1 = true ∧ isNm l.2.1 = true ∧ 1 ≤ l.2.2 ∧ l.2.2 ≤ 9) → (ls.Pairwise fun x y => sortP x.1 x.2.1 ≠ sortP y.1 y.2.1) → (∀ l ∈ ls, ∀ s ∈ seen, sortP s.1 s.2.1 ≠ sortP l.1 l.2.1) → lkFrom seen ls = true
  | [], _, _, _, _ => rfl
  | l :: ls, seen, h1, h2, h3 => by
    obtain ⟨a1, a2, a3, a4⟩ := h1 l List.mem_cons_self
    obtain ⟨b1, b2⟩ := List.pairwise_cons.mp h2
    have hd : seen.any (sameLk l) = false := by
      rw [List.any_eq_false]
      intro s hs z
      exact h3 l List.mem_cons_self s hs (sameLk_iff.mpr z)
    rw [lkFrom_cons, show lkOk seen l = true by unfold lkOk; rw [hd, a1, a2, decide_eq_true a3, decide_eq_true a4]; rfl, Bool.true_and]
    refine lkFrom_ok (fun x hx => h1 x (List.mem_cons_of_mem _ hx)) b2 fun x hx s hs => ?_
    rcases List.mem_append.mp hs with z | z
    · exact h3 x (List.mem_cons_of_mem _ hx) s z
    · obtain rfl := List.mem_singleton.mp z
      exact b1 x hx
/-! a field's text is read to the field -/
theorem join_eq (sep : Str) (l : List Str) : Txt.join sep l = Str.join sep l := eq_of_beq (join_plain_closes sep l)
theorem cps_inj : ∀ {xs ys : List Str}, xs.map (fun p => p.cps.toList) = ys.map (fun p => p.cps.toList) → xs = ys
  | [], [], _ => rfl
  | [], _ :: _, h => by cases h
  | _ :: _, [], h => by cases h
  | x :: xs, y :: ys, h => by
    rw [List.map_cons, List.map_cons] at h
    injection h with h1 h2
    rw [str_ext h1, cps_inj h2]
theorem split_join {n : Nat} {ps : List Str} (h0 : ps ≠ []) (hf : ∀ p ∈ ps, n ∉ p.cps.toList) : Txt.split (Str.join ⟨#[n]⟩ ps) ⟨#[n]⟩ = ps := (by
  refine cps_inj (jn_uniq (n := n) ?_ ?_ ?_ ?_ ?_)
  · rw [ne_eq, List.map_eq_nil_iff]; exact split_ne _ n
  · rw [ne_eq, List.map_eq_nil_iff]; exact h0
  · intro q hq
    obtain ⟨p, hp, rfl⟩ := List.mem_map.mp hq
    exact PySem.StrLaws.split_free _ n p hp
  · intro q hq
    obtain ⟨p, hp, rfl⟩ := List.mem_map.mp hq
    exact hf p hp
  · rw [split_jn, join_jn]
  )
theorem jn_size {n : Nat} : ∀ ps : List (List Nat), (jn n ps).length ≤ (ps.map List.length).sum + ps.length
  | [] => Nat.zero_le _
  | [p] => by simp [jn]
  | p :: q :: r => by
    have := jn_size (n := n) (q :: r)
    rw [jn_cons (by simp), List.length_append, List.length_cons, List.map_cons, List.sum_cons, List.length_cons]
    omega
/-- a row's word: signs that are no blanks, one at least -/
def WdOk (w : Str) : Prop := 1 ≤ w.length ∧ w.length ≤ 60 ∧ ∀ c ∈ w.cps.toList, 48 ≤ c ∧ c ≤ 122
def RwOk (ws : List Str) : Prop := ws ≠ [] ∧ ws.length ≤ 4 ∧ ∀ w ∈ ws, WdOk w
theorem wd_word {w : Str} (h : WordOk w) : WdOk w := (by
  obtain ⟨h1, h2, h3⟩ := h
  have e : w.length = w.cps.size := rfl
  refine ⟨by omega, by omega, fun c hc => ?_⟩
  have h4 := List.all_eq_true.mp h3 c hc
  unfold chOk at h4
  have h5 := of_decide_eq_true (Bool.and_eq_true_iff.mp h4).1
  have h6 := of_decide_eq_true (Bool.and_eq_true_iff.mp h4).2
  omega
  )
theorem wd_num {n : Int} (h : NumB n) : WdOk (numT n) := (by
  have := num_len h
  exact ⟨by omega, by omega, fun c hc => by have := num_dig h.1 c hc; omega⟩
  )
theorem RwOk.free {ws : List Str} (h : RwOk ws) : ∀ w ∈ ws, 32 ∉ w.cps.toList := fun w hw z => by
  have := (h.2.2 w hw).2.2 32 z
  omega
theorem RwOk.split {ws : List Str} (h : RwOk ws) : Txt.split (rowT ws) (Str.ofString " ") = ws := split_join (n := 32) h.1 h.free
theorem RwOk.sign {ws : List Str} (h : RwOk ws) {c : Nat} (hc : c ∈ (rowT ws).cps.toList) : c = 32 ∨ (48 ≤ c ∧ c ≤ 122) := (by
  rw [cps_rowT] at hc
  have key : ∀ (ps : List (List Nat)), (∀ p ∈ ps, ∀ c ∈ p, 48 ≤ c ∧ c ≤ 122) → c ∈ jn 32 ps → c = 32 ∨ (48 ≤ c ∧ c ≤ 122) := fun ps => by
    induction ps with
    | nil => intro _ h; cases h
    | cons p ps ih =>
      intro h1 h2
      cases ps with
      | nil => exact .inr (h1 p List.mem_cons_self c h2)
      | cons q r =>
        rw [jn_cons (by simp)] at h2
        rcases List.mem_append.mp h2 with z | z
        · exact .inr (h1 p List.mem_cons_self c z)
        · rcases List.mem_cons.mp z with z | z
          · exact .inl z
          · exact ih (fun x hx => h1 x (List.mem_cons_of_mem _ hx)) z
  refine key _ (fun p hp => ?_) hc
  obtain ⟨w, hw, rfl⟩ := List.mem_map.mp hp
  exact (h.2.2 w hw).2.2
  )
theorem RwOk.len {ws : List Str} (h : RwOk ws) : (rowT ws).length ≤ 244 ∧ 1 ≤ (rowT ws).length := (by
  have e : (rowT ws).length = (rowT ws).cps.toList.length := Array.length_toList.symm
  rw [e, cps_rowT]
  obtain ⟨h1, h2, h3⟩ := h
  have s1 := jn_size (n := 32) (ws.map fun w => w.cps.toList)
  have s2 : ∀ l : List Str, (∀ w ∈ l, WdOk w) → ((l.map fun w => w.cps.toList).map List.length).sum ≤ l.length * 60 := fun l => by
    induction l with
    | nil => intro _; exact Nat.zero_le _
    | cons w l ih =>
      intro h
      have a := ih fun x hx => h x (List.mem_cons_of_mem _ hx)
      have b := (h w List.mem_cons_self).2.1
      have c : w.cps.toList.length = w.length := Array.length_toList
      rw [List.map_cons, List.map_cons, List.sum_cons, List.length_cons, c]
      omega
  have s3 := s2 ws h3
  rw [List.length_map] at s1
  refine ⟨by omega, ?_⟩
  cases ws with
  | nil => exact absurd rfl h1
  | cons w r =>
    have c : w.cps.toList.length = w.length := Array.length_toList
    have d := (h3 w List.mem_cons_self).1
    cases r with
    | nil => show 1 ≤ w.cps.toList.length; omega
    | cons x r =>
      rw [List.map_cons, jn_cons (by simp), List.length_append, List.length_cons]
      omega
  )
/-! the rows laid -/
/-- a bore that is told by rows -/
structure BoRd (b : Bo) : Prop where
  nm : WordOk b.nm
  at_ : NumB b.at_
  top : NumB b.top
  ne : b.bl ≠ []
  bl : ∀ k ∈ b.bl, k ≠ [] ∧ ∀ l ∈ k, WordOk l.1 ∧ NumB l.2
def LkRd (l : Lk3) : Prop := WordOk l.1 ∧ WordOk l.2.1 ∧ NumB l.2.2
theorem wd_key {s : Str} (h : s = "bore" ∨ s = "layer" ∨ s = "like" ∨ s = "fault") : WdOk s := (by
  have key : ∀ s : Str, s.cps.toList.all (fun c => decide (48 ≤ c) && decide (c ≤ 122)) = true → 1 ≤ s.length → s.length ≤ 60 → WdOk s := fun s h1 h2 h3 => ⟨h2, h3, fun c hc => by
    have := List.all_eq_true.mp h1 c hc
    rw [Bool.and_eq_true, decide_eq_true_eq, decide_eq_true_eq] at this
    exact this⟩
  rcases h with rfl | rfl | rfl | rfl
  all_goals exact key _ (by decide +kernel) (by decide +kernel) (by decide +kernel)
  )
theorem rows_ok {bs : List Bo} {ls : List Lk3} (hb : ∀ b ∈ bs, BoRd b) (hl : ∀ l ∈ ls, LkRd l) : ∀ ws ∈ fldW bs ls, RwOk ws := (by
  have four : ∀ {w x y z : Str}, WdOk w → WdOk x → WdOk y → WdOk z → RwOk [w, x, y, z] := fun h1 h2 h3 h4 => ⟨by simp, by simp, fun v hv => by
    simp only [List.mem_cons, List.not_mem_nil, or_false] at hv
    rcases hv with rfl | rfl | rfl | rfl <;> assumption⟩
  have three : ∀ {w x y : Str}, WdOk w → WdOk x → WdOk y → RwOk [w, x, y] := fun h1 h2 h3 => ⟨by simp, by simp, fun v hv => by
    simp only [List.mem_cons, List.not_mem_nil, or_false] at hv
    rcases hv with rfl | rfl | rfl <;> assumption⟩
  have blk : ∀ bl : List (List (Str × Int)), (∀ k ∈ bl, k ≠ [] ∧ ∀ l ∈ k, WordOk l.1 ∧ NumB l.2) → ∀ ws ∈ blksW bl, RwOk ws := fun bl => by
    have lay : ∀ k : List (Str × Int), (∀ l ∈ k, WordOk l.1 ∧ NumB l.2) → ∀ ws ∈ k.map layW, RwOk ws := fun k h ws hw => by
      obtain ⟨l, hl, rfl⟩ := List.mem_map.mp hw
      exact three (wd_key (.inr (.inl rfl))) (wd_word (h l hl).1) (wd_num (h l hl).2)
    induction bl with
    | nil => intro _ ws hw; cases hw
    | cons k bl ih =>
      intro h ws hw
      cases bl with
      | nil => exact lay k (h k List.mem_cons_self).2 ws hw
      | cons k' r =>
        have hw : ws ∈ k.map layW ++ fltW :: blksW (k' :: r) := hw
        rcases List.mem_append.mp hw with z | z
        · exact lay k (h k List.mem_cons_self).2 ws z
        · rcases List.mem_cons.mp z with rfl | z
          · exact ⟨by unfold fltW; simp, by unfold fltW; simp, fun v hv => by
              rw [show v = "fault" from List.mem_singleton.mp hv]
              exact wd_key (.inr (.inr (.inr rfl)))⟩
          · exact ih (fun x hx => h x (List.mem_cons_of_mem _ hx)) ws z
  intro ws hw
  rcases List.mem_append.mp hw with z | z
  · obtain ⟨R, hR, hw⟩ := List.mem_flatten.mp z
    obtain ⟨b, hbm, rfl⟩ := List.mem_map.mp hR
    have h := hb b hbm
    rcases List.mem_cons.mp hw with rfl | hw
    · exact four (wd_key (.inl rfl)) (wd_word h.nm) (wd_num h.at_) (wd_num h.top)
    · exact blk b.bl h.bl ws hw
  · obtain ⟨l, hlm, rfl⟩ := List.mem_map.mp z
    obtain ⟨h1, h2, h3⟩ := hl l hlm
    exact four (wd_key (.inr (.inr (.inl rfl)))) (wd_word h1) (wd_word h2) (wd_num h3)
  )
/-! drawn fields -/
theorem fld_rd {nm ms : List Str} {bs : List Bo} {ls : List Lk3} (hF : FieldTo nm ms bs ls) : (∀ b ∈ bs, BoRd b) ∧ (∀ l ∈ ls, LkRd l) := (by
  have B : (6 : Int) * big < 10 ^ 60 := by decide
  have B1 : (1 : Int) * big < 10 ^ 60 := by decide
  constructor
  · intro b hb
    have h := hF.bo.each b hb
    have h1 := h.at0
    have h2 := hF.close b hb
    have h3 := h.top0
    have h4 := h.topB
    refine ⟨hF.nm b hb, ⟨h1, by omega⟩, ⟨h3, by omega⟩, h.bl.ne, fun k hk => ⟨h.bl.each k hk, fun l hl => ?_⟩⟩
    have h5 := h.bl.ly l (List.mem_flatten.mpr ⟨k, hk, hl⟩)
    exact ⟨hF.wm _ h5.1, by omega, by omega⟩
  · intro l hl
    obtain ⟨m1, m2⟩ := hF.lk.inm l hl
    obtain ⟨_, _, p1, p2⟩ := hF.lk.ok l hl
    exact ⟨hF.wm _ m1, hF.wm _ m2, by omega, by omega⟩
  )
theorem fld_sz {nm ms : List Str} {bs : List Bo} {ls : List Lk3} (hF : FieldTo nm ms bs ls) : (fldW bs ls).length ≤ 263 := (by
  unfold fldW
  have h1 : ∀ l : List Bo, (∀ b ∈ l, (boW b).length ≤ 43) → (l.map boW).flatten.length ≤ l.length * 43 := fun l => by
    induction l with
    | nil => intro _; exact Nat.zero_le _
    | cons b l ih =>
      intro h
      have a := ih fun x hx => h x (List.mem_cons_of_mem _ hx)
      have c := h b List.mem_cons_self
      rw [List.map_cons, List.flatten_cons, List.length_append, List.length_cons]
      omega
  have h2 := h1 bs fun b hb => by
    have h := (hF.bo.each b hb).bl
    have hf := flat_few h.each
    have h3 := h.few
    have h4 := blksW_len (l := b.bl) (m := 6) fun k hk => Nat.le_trans (List.Sublist.length_le (List.sublist_flatten_of_mem hk)) h3
    unfold boW
    rw [List.length_cons]
    omega
  have h3 := hF.few
  have h4 := hF.ll
  rw [List.length_append, List.length_map]
  omega
  )
theorem fld_tx {nm ms : List Str} {bs : List Bo} {ls : List Lk3} (hF : FieldTo nm ms bs ls) : FldTx bs ls := (by
  obtain ⟨hb, hl⟩ := fld_rd hF
  have sz := fld_sz hF
  have ok := rows_ok hb hl
  refine ⟨fun b hbm => ?_, ⟨by have := hF.few; omega, by have := hF.ll; omega⟩, fun l hlm => ?_, by omega, ?_⟩
  · have h := hb b hbm
    have h2 := (hF.bo.each b hbm).bl
    have hf := flat_few h2.each
    have h3 := h2.few
    refine ⟨by have := word_len h.nm; omega, h.at_, h.top, by omega, fun k hk => ⟨(h.bl k hk).1, ?_, fun l hl => ⟨by have := word_len ((h.bl k hk).2 l hl).1; omega, ((h.bl k hk).2 l hl).2⟩⟩⟩
    have := List.Sublist.length_le (List.sublist_flatten_of_mem hk)
    omega
  · obtain ⟨h1, h2, h3⟩ := hl l hlm
    exact ⟨by have := word_len h1; omega, by have := word_len h2; omega, h3⟩
  · have s2 : ∀ l : List (List Str), (∀ ws ∈ l, RwOk ws) → (List.map (fun x : Str => x.length) (l.map rowT)).sum ≤ l.length * 244 := fun l => by
      induction l with
      | nil => intro _; exact Nat.zero_le _
      | cons w l ih =>
        intro h
        have a := ih fun x hx => h x (List.mem_cons_of_mem _ hx)
        have b := (h w List.mem_cons_self).len.1
        rw [List.map_cons, List.map_cons, List.sum_cons, List.length_cons]
        omega
    have := s2 _ ok
    omega
  )
/-! rows of a text and what a bend makes of them -/
/-- a row that is no bore's, no layer's, no fault's -/
def othR (ws : List Str) : Bool := decide (ws.headD "" ≠ Str.ofString "bore" ∧ ws.headD "" ≠ Str.ofString "layer" ∧ ws.headD "" ≠ Str.ofString "fault")
def othS (r : Str) : Nat := ((Txt.split r (Str.ofString "\n")).map wordsF).countP othR
def othT (rs : List Str) : Nat := (rs.map othS).sum
theorem jn_feeds10 : ∀ ps : List (List Nat), ps ≠ [] → (jn 10 ps).countP (fun n => n == 10) + 1 = (ps.map fun p => p.countP fun n => n == 10).sum + ps.length
  | [], h => absurd rfl h
  | [p], _ => by simp [jn]
  | p :: q :: r, _ => by
    have ih := jn_feeds10 (q :: r) (by simp)
    show (p ++ 10 :: jn 10 (q :: r)).countP _ + 1 = _
    rw [List.countP_append, List.countP_cons_of_pos (by decide), List.map_cons, List.sum_cons, List.length_cons]
    omega
theorem split_feeds (w : Str) : (Txt.split w (Str.ofString "\n")).length = nlF w + 1 := (by
  have h := jn_feeds10 ((Txt.split w ⟨#[10]⟩).map fun p => p.cps.toList) (by rw [ne_eq, List.map_eq_nil_iff]; exact split_ne w 10)
  rw [split_jn, List.length_map, List.map_map] at h
  have z : ∀ l : List Str, (∀ p ∈ l, 10 ∉ p.cps.toList) → (l.map ((fun p => p.countP fun n => n == 10) ∘ fun p : Str => p.cps.toList)).sum = 0 := fun l => by
    induction l with
    | nil => intro _; rfl
    | cons p l ih =>
      intro h
      rw [List.map_cons, List.sum_cons, ih fun x hx => h x (List.mem_cons_of_mem _ hx)]
      show p.cps.toList.countP _ + 0 = 0
      rw [Nat.add_zero, List.countP_eq_zero]
      intro a ha e
      exact h p List.mem_cons_self ((show a = 10 from beq_iff_eq.mp e) ▸ ha)
  rw [z _ fun p hp => PySem.StrLaws.split_free w 10 p hp] at h
  show (Txt.split w ⟨#[10]⟩).length = _
  unfold nlF
  omega
  )
theorem othS_le (r : Str) : othS r ≤ nlF r + 1 := (by
  unfold othS
  refine Nat.le_trans List.countP_le_length ?_
  rw [List.length_map, split_feeds]
  exact Nat.le_refl _
  )
theorem othT_app (a b : List Str) : othT (a ++ b) = othT a + othT b := by unfold othT; rw [List.map_append, List.sum_append]
theorem othT_cut (a : List Str) (i : Nat) : othT (a.take i) + othT (a.drop i) = othT a := by rw [← othT_app, List.take_append_drop]
theorem othT_one (x : Str) : othT [x] = othS x := by unfold othT; simp
/-- the rows of a joined text -/
theorem jn_app {n : Nat} {a b : List (List Nat)} (ha : a ≠ []) (hb : b ≠ []) : jn n (a ++ b) = jn n a ++ n :: jn n b := (by
  induction a with
  | nil => exact absurd rfl ha
  | cons p a ih =>
    cases a with
    | nil => rw [List.singleton_append, jn_cons hb]; rfl
    | cons q r =>
      show p ++ n :: jn n (q :: r ++ b) = (p ++ n :: jn n (q :: r)) ++ n :: jn n b
      rw [ih (by simp), List.append_assoc, List.cons_append]
  )
theorem jn_flat {n : Nat} : ∀ (Ls : List (List (List Nat))), (∀ l ∈ Ls, l ≠ []) → jn n Ls.flatten = jn n (Ls.map (jn n))
  | [], _ => rfl
  | [l], _ => by simp [jn]
  | l :: m :: r, h => by
    have ih := jn_flat (n := n) (m :: r) fun x hx => h x (List.mem_cons_of_mem _ hx)
    have hm : (m :: r).flatten ≠ [] := by
      rw [List.flatten_cons]
      have := h m (by simp)
      simp [this]
    rw [List.flatten_cons, jn_app (h l List.mem_cons_self) hm, ih]; rfl
theorem text_split {rs : List Str} (h0 : rs ≠ []) : Txt.split (Txt.join (Str.ofString "\n") rs) (Str.ofString "\n") = (rs.map fun r => Txt.split r (Str.ofString "\n")).flatten := (by
  have ne : (rs.map fun r => Txt.split r ⟨#[10]⟩).flatten ≠ [] := by
    cases rs with
    | nil => exact absurd rfl h0
    | cons r rs =>
      rw [List.map_cons, List.flatten_cons]
      have := split_ne r 10
      simp [this]
  refine cps_inj (jn_uniq (n := 10) ?_ ?_ ?_ ?_ ?_)
  · rw [ne_eq, List.map_eq_nil_iff]; exact split_ne _ 10
  · rw [ne_eq, List.map_eq_nil_iff]; exact ne
  · intro q hq
    obtain ⟨p, hp, rfl⟩ := List.mem_map.mp hq
    exact PySem.StrLaws.split_free _ 10 p hp
  · intro q hq
    obtain ⟨p, hp, rfl⟩ := List.mem_map.mp hq
    obtain ⟨l, hl, hp⟩ := List.mem_flatten.mp hp
    obtain ⟨r, _, rfl⟩ := List.mem_map.mp hl
    exact PySem.StrLaws.split_free r 10 p hp
  · have e1 : jn 10 ((Txt.split (Txt.join (Str.ofString "\n") rs) ⟨#[10]⟩).map fun p => p.cps.toList) = (Txt.join (Str.ofString "\n") rs).cps.toList := split_jn _ 10
    have e2 : (Txt.join (Str.ofString "\n") rs).cps.toList = jn 10 (rs.map fun p => p.cps.toList) := by rw [join_eq]; exact join_jn 10 rs
    show jn 10 ((Txt.split (Txt.join (Str.ofString "\n") rs) ⟨#[10]⟩).map fun p => p.cps.toList) = jn 10 (((rs.map fun r => Txt.split r ⟨#[10]⟩).flatten).map fun p => p.cps.toList)
    rw [e1, e2, List.map_flatten, jn_flat, List.map_map, List.map_map]
    · congr 1
      refine List.map_congr_left fun r _ => ?_
      exact (split_jn r 10).symm
    · intro l hl
      obtain ⟨l2, hl2, rfl⟩ := List.mem_map.mp hl
      obtain ⟨r, _, rfl⟩ := List.mem_map.mp hl2
      rw [ne_eq, List.map_eq_nil_iff]
      exact split_ne r 10
  )
/-- rows of a text, not too long -/
structure RwsB (M k Z L C n : Nat) (rs : List Str) : Prop where
  len : rs.length ≤ n
  each : ∀ r ∈ rs, PyData.strOk r = true ∧ r.length ≤ M ∧ nlF r ≤ k
  sz : szL rs ≤ Z
  nl : nlL rs ≤ L
  oth : othT rs ≤ C
theorem rws_of {M k Z L C n : Nat} {rs rs' : List Str} (h : RwsB M k Z L C n rs) (h1 : rs'.length ≤ rs.length + 1) (h2 : ∀ r ∈ rs', r ∈ rs ∨ (PyData.strOk r = true ∧ r.length ≤ 2 * M + 120 ∧ nlF r ≤ 2 * k + 1)) (h3 : szL rs' ≤ szL rs + (2 * M + 120)) (h4 : nlL rs' ≤ nlL rs + (2 * k + 1)) (h5 : othT rs' ≤ othT rs + (2 * k + 2)) : RwsB (2 * M + 120) (2 * k + 1) (Z + (2 * M + 120)) (L + (2 * k + 1)) (C + (2 * k + 2)) (n + 1) rs' := (by
  have a1 := h.len
  have a2 := h.sz
  have a3 := h.nl
  have a4 := h.oth
  refine ⟨by omega, fun r hr => ?_, by omega, by omega, by omega⟩
  rcases h2 r hr with z | z
  · obtain ⟨b1, b2, b3⟩ := h.each r z
    exact ⟨b1, by omega, by omega⟩
  · exact z
  )
theorem szL_one (x : Str) : szL [x] = x.length := by unfold szL; simp
theorem nlL_one (x : Str) : nlL [x] = nlF x := by unfold nlL; simp
/-- a row put in -/
theorem rws_put (rs : List Str) (i : Nat) (x : Str) : (rs.take i ++ [x] ++ rs.drop i).length = rs.length + 1 ∧ (∀ r ∈ rs.take i ++ [x] ++ rs.drop i, r ∈ rs ∨ r = x) ∧ szL (rs.take i ++ [x] ++ rs.drop i) = szL rs + x.length ∧ nlL (rs.take i ++ [x] ++ rs.drop i) = nlL rs + nlF x ∧ othT (rs.take i ++ [x] ++ rs.drop i) = othT rs + othS x := (by
  have s1 := szL_cut rs i
  have s2 := nlL_cut rs i
  have s3 := othT_cut rs i
  have pm : (rs.take i ++ [x] ++ rs.drop i).length = (rs.take i ++ rs.drop i).length + 1 := by rw [List.length_append, List.length_append, List.length_append, List.length_singleton]; omega
  rw [List.take_append_drop] at pm
  refine ⟨pm, fun r hr => ?_, ?_, ?_, ?_⟩
  · rcases List.mem_append.mp hr with z | z
    · rcases List.mem_append.mp z with z | z
      · exact .inl (List.mem_of_mem_take z)
      · exact .inr (List.mem_singleton.mp z)
    · exact .inl (List.mem_of_mem_drop z)
  · rw [szL_app, szL_app, szL_one]; omega
  · rw [nlL_app, nlL_app, nlL_one]; omega
  · rw [othT_app, othT_app, othT_one]; omega
  )
/-- a row left out -/
theorem rws_out (rs : List Str) {i : Nat} (hi : i < rs.length) : (rs.take i ++ rs.drop (i + 1)).length + 1 = rs.length ∧ (∀ r ∈ rs.take i ++ rs.drop (i + 1), r ∈ rs) ∧ szL (rs.take i ++ rs.drop (i + 1)) + rs[i].length = szL rs ∧ nlL (rs.take i ++ rs.drop (i + 1)) + nlF rs[i] = nlL rs ∧ othT (rs.take i ++ rs.drop (i + 1)) + othS rs[i] = othT rs := (by
  have s1 := szL_cut rs (i + 1)
  have s2 := nlL_cut rs (i + 1)
  have s3 := othT_cut rs (i + 1)
  have tk : rs.take (i + 1) = rs.take i ++ [rs[i]] := by rw [List.take_add_one, List.getElem?_eq_getElem hi]; rfl
  rw [tk, szL_app, szL_one] at s1
  rw [tk, nlL_app, nlL_one] at s2
  rw [tk, othT_app, othT_one] at s3
  refine ⟨by rw [List.length_append, List.length_take, List.length_drop]; omega, fun r hr => ?_, by rw [szL_app]; omega, by rw [nlL_app]; omega, by rw [othT_app]; omega⟩
  rcases List.mem_append.mp hr with z | z
  · exact List.mem_of_mem_take z
  · exact List.mem_of_mem_drop z
  )
/-- the text of such rows -/
theorem rws_text {M k Z L C n : Nat} {rs : List Str} (h : RwsB M k Z L C n rs) : PyData.strOk (Txt.join (Str.ofString "\n") rs) = true ∧ (Txt.join (Str.ofString "\n") rs).length ≤ Z + n ∧ (rowsF (Txt.join (Str.ofString "\n") rs)).length ≤ L + n ∧ ((rowsF (Txt.join (Str.ofString "\n") rs)).map wordsF).countP othR ≤ C := (by
  have a1 := h.len
  have a2 := h.sz
  have a3 := h.nl
  have a4 := h.oth
  have e2 : (Txt.join (Str.ofString "\n") rs).cps.toList = jn 10 (rs.map fun p => p.cps.toList) := by rw [join_eq]; exact join_jn 10 rs
  refine ⟨strOk_iff.mpr fun c hc => ?_, ?_, ?_⟩
  · rw [e2] at hc
    have key : ∀ (qs : List (List Nat)), (∀ p ∈ qs, ∀ c ∈ p, c < 0x110000) → c ∈ jn 10 qs → c < 0x110000 := fun qs => by
      induction qs with
      | nil => intro _ h; cases h
      | cons p qs ih =>
        intro h1 h2
        cases qs with
        | nil => exact h1 p List.mem_cons_self c h2
        | cons q r =>
          have h2 : c ∈ p ++ 10 :: jn 10 (q :: r) := h2
          rcases List.mem_append.mp h2 with z | z
          · exact h1 p List.mem_cons_self c z
          · rcases List.mem_cons.mp z with z | z
            · omega
            · exact ih (fun x hx => h1 x (List.mem_cons_of_mem _ hx)) z
    refine key _ (fun p hp c hc => ?_) hc
    obtain ⟨r, hr, rfl⟩ := List.mem_map.mp hp
    exact strOk_iff.mp (h.each r hr).1 c hc
  · have c : (Txt.join (Str.ofString "\n") rs).length = (Txt.join (Str.ofString "\n") rs).cps.toList.length := Array.length_toList.symm
    have s1 := jn_size (n := 10) (rs.map fun p => p.cps.toList)
    rw [szL_map, List.length_map] at s1
    rw [c, e2]
    omega
  · by_cases h0 : rs = []
    · subst h0
      refine ⟨by show (rowsF (Str.ofString "")).length ≤ _; unfold rowsF; rw [if_pos rfl]; exact Nat.zero_le _, by show ((rowsF (Str.ofString "")).map wordsF).countP othR ≤ _; unfold rowsF; rw [if_pos rfl]; exact Nat.zero_le _⟩
    · have e3 := text_split h0
      have l1 : ((rs.map fun r => Txt.split r (Str.ofString "\n")).flatten).length = nlL rs + rs.length := by
        clear h0 e3 e2 a1 a2 a3 a4 h
        induction rs with
        | nil => rfl
        | cons r rs ih =>
          rw [List.map_cons, List.flatten_cons, List.length_append, ih, split_feeds, List.length_cons]
          have := nlL_app [r] rs
          rw [nlL_one, List.singleton_append] at this
          omega
      have l2 : (((rs.map fun r => Txt.split r (Str.ofString "\n")).flatten).map wordsF).countP othR = othT rs := by
        clear h0 e3 e2 a1 a2 a3 a4 h l1
        induction rs with
        | nil => rfl
        | cons r rs ih =>
          rw [List.map_cons, List.flatten_cons, List.map_append, List.countP_append, ih]
          have := othT_app [r] rs
          rw [othT_one, List.singleton_append] at this
          rw [this]; rfl
      unfold rowsF
      split
      · exact ⟨Nat.zero_le _, Nat.zero_le _⟩
      · rw [e3, l1, l2]
        omega
  )
def T_law_bent : TF := fun a Q => ∃ (v : Lt) (M k Z L C n : Nat) (rs : List Str), a = [.o (some v) (.lstP FeedP), .d (.list (rs.map PyData.str))] ∧ RwsB M k Z L C n rs ∧ M ≤ 5000 ∧ n ≤ 10000 ∧ ∀ rs', RwsB (2 * M + 120) (2 * k + 1) (Z + (2 * M + 120)) (L + (2 * k + 1)) (C + (2 * k + 2)) (n + 1) rs' → retL v (.lstP FeedP) Q (.d (.list (rs'.map PyData.str)))
def T_law_is_name : TF := fun a Q => ∃ (w : Str), a = [.d (.str w)] ∧ w.length ≤ 100000 ∧ ret Q (.d (.bool (isNm w)))
theorem TE_law_is_name {w : Str} {Q : S → Dl.Ctx → Prop} : T_law_is_name [.d (.str w)] Q = (w.length ≤ 100000 ∧ ret Q (.d (.bool (isNm w)))) := propext ⟨fun ⟨_, e, q⟩ => by cases e; exact q, fun q => ⟨_, rfl, q⟩⟩
def T_law_is_number : TF := fun a Q => ∃ (w : Str), a = [.d (.str w)] ∧ PyData.strOk w = true ∧ w.length ≤ 100000 ∧ ret Q (.d (.bool (isNum w)))
theorem TE_law_is_number {w : Str} {Q : S → Dl.Ctx → Prop} : T_law_is_number [.d (.str w)] Q = (PyData.strOk w = true ∧ w.length ≤ 100000 ∧ ret Q (.d (.bool (isNum w)))) := propext ⟨fun ⟨_, e, q⟩ => by cases e; exact q, fun q => ⟨_, rfl, q⟩⟩
/-- what the words behind a row's first one are to be: a name, or a number -/
def formF (h : Str) : Option (List Bool) := if h = Str.ofString "bore" then some [true, false, false] else if h = Str.ofString "layer" then some [true, false] else if h = Str.ofString "fault" then some [] else if h = Str.ofString "like" then some [true, true, false] else none
def chkF (b : Bool) (w : Str) : Bool := if b then isNm w else isNum w
def formS (f : List Bool) : Str := ⟨(f.map fun b => if b then 110 else 105).toArray⟩
/-- a row's kind, where it is one by itself -/
def sortF (ws : List Str) : Str := match formF (ws.headD "") with
  | none => Str.ofString ""
  | some f => if ws.length = f.length + 1 ∧ ((List.range f.length).all fun k => chkF (f.getD k false) (ws.getD (k + 1) "")) = true then ws.headD "" else Str.ofString ""
def T_law_sort : TF := fun a Q => ∃ (w : Str), a = [.d (.str w)] ∧ PyData.strOk w = true ∧ w.length ≤ 90000 ∧ ret Q (.d (.str (sortF (wordsF w))))
/-- what may stand ahead of a kind of row -/
def aheadF (s : Str) : List Str := if s = Str.ofString "bore" then [Str.ofString "", Str.ofString "layer"] else if s = Str.ofString "layer" then [Str.ofString "bore", Str.ofString "layer", Str.ofString "fault"] else if s = Str.ofString "fault" then [Str.ofString "layer"] else [Str.ofString "", Str.ofString "layer", Str.ofString "like"]
def KindOk (s : Str) : Prop := s = Str.ofString "" ∨ s = Str.ofString "bore" ∨ s = Str.ofString "layer" ∨ s = Str.ofString "fault" ∨ s = Str.ofString "like"
/-- whether kinds may stand one behind the other -/
def orderG : Str → List Str → Bool
  | last, [] => decide (last = Str.ofString "" ∨ last = Str.ofString "layer" ∨ last = Str.ofString "like")
  | last, s :: r => if s = Str.ofString "" ∨ last ∉ aheadF s then false else orderG s r
def T_law_in_order : TF := fun a Q => ∃ (ss : List Str), a = [.d (.list (ss.map PyData.str))] ∧ (∀ s ∈ ss, KindOk s) ∧ ret Q (.d (.bool (orderG (Str.ofString "") ss)))
/-! a field by its rows' kinds -/
/-- a row laid, its form known -/
def layG (s : RdS) (ws : List Str) : RdS :=
  if ws.headD "" = Str.ofString "bore" then (s.1 ++ [⟨ws.getD 1 "", numF (ws.getD 2 ""), numF (ws.getD 3 ""), [[]]⟩], s.2)
  else if ws.headD "" = Str.ofString "layer" then (onLast (addLy (ws.getD 1 "", numF (ws.getD 2 ""))) s.1, s.2)
  else if ws.headD "" = Str.ofString "fault" then (onLast addBl s.1, s.2)
  else (s.1, s.2 ++ [(ws.getD 1 "", ws.getD 2 "", numF (ws.getD 3 ""))])
theorem k_bl : Str.ofString "bore" ≠ Str.ofString "layer" := by decide +kernel
theorem k_bf : Str.ofString "bore" ≠ Str.ofString "fault" := by decide +kernel
theorem k_bk : Str.ofString "bore" ≠ Str.ofString "like" := by decide +kernel
theorem k_lf : Str.ofString "layer" ≠ Str.ofString "fault" := by decide +kernel
theorem k_lk : Str.ofString "layer" ≠ Str.ofString "like" := by decide +kernel
theorem k_fk : Str.ofString "fault" ≠ Str.ofString "like" := by decide +kernel
theorem k_be : Str.ofString "bore" ≠ Str.ofString "" := by decide +kernel
theorem k_le : Str.ofString "layer" ≠ Str.ofString "" := by decide +kernel
theorem k_fe : Str.ofString "fault" ≠ Str.ofString "" := by decide +kernel
theorem k_ke : Str.ofString "like" ≠ Str.ofString "" := by decide +kernel
theorem form_b : formF (Str.ofString "bore") = some [true, false, false] := if_pos rfl
theorem form_l : formF (Str.ofString "layer") = some [true, false] := by unfold formF; rw [if_neg k_bl.symm, if_pos rfl]
theorem form_f : formF (Str.ofString "fault") = some [] := by unfold formF; rw [if_neg k_bf.symm, if_neg k_lf.symm, if_pos rfl]
theorem form_k : formF (Str.ofString "like") = some [true, true, false] := by unfold formF; rw [if_neg k_bk.symm, if_neg k_lk.symm, if_neg k_fk.symm, if_pos rfl]
theorem sort_b {ws : List Str} (h : ws.headD "" = Str.ofString "bore") : sortF ws = if (headF ws).isSome = true then Str.ofString "bore" else Str.ofString "" := (by
  unfold sortF
  rw [h, form_b]
  dsimp only
  match ws, h with
  | [], h => exact absurd h.symm k_be
  | [a], _ => rfl
  | [a, b], _ => rfl
  | [a, b, c], _ => rfl
  | a :: b :: c :: d :: e :: r, _ =>
    rw [if_neg fun z => by have := z.1; simp at this]
    rfl
  | [a, b, c, d], h =>
    have hF : headF [a, b, c, d] = if isNm b = true ∧ isNum c = true ∧ isNum d = true then some ⟨b, numF c, numF d, [[]]⟩ else none := rfl
    by_cases g : isNm b = true ∧ isNum c = true ∧ isNum d = true
    · rw [if_pos g] at hF
      rw [hF, if_pos ⟨rfl, by
        obtain ⟨g1, g2, g3⟩ := g
        simp [List.range_succ, chkF, g1, g2, g3]⟩]
      rfl
    · rw [if_neg g] at hF
      rw [hF, if_neg fun z => g ?_]
      · rfl
      · have z2 := z.2
        simp [List.range_succ, chkF] at z2
        exact z2
  )
theorem sort_l {ws : List Str} (h : ws.headD "" = Str.ofString "layer") : sortF ws = if (layF ws).isSome = true then Str.ofString "layer" else Str.ofString "" := (by
  unfold sortF
  rw [h, form_l]
  dsimp only
  match ws, h with
  | [], h => exact absurd h.symm k_le
  | [a], _ => rfl
  | [a, b], _ => rfl
  | a :: b :: c :: d :: r, _ =>
    rw [if_neg fun z => by have := z.1; simp at this]
    rfl
  | [a, b, c], h =>
    have hF : layF [a, b, c] = if isNm b = true ∧ isNum c = true then some (b, numF c) else none := rfl
    by_cases g : isNm b = true ∧ isNum c = true
    · rw [if_pos g] at hF
      rw [hF, if_pos ⟨rfl, by
        obtain ⟨g1, g2⟩ := g
        simp [List.range_succ, chkF, g1, g2]⟩]
      rfl
    · rw [if_neg g] at hF
      rw [hF, if_neg fun z => g ?_]
      · rfl
      · have z2 := z.2
        simp [List.range_succ, chkF] at z2
        exact z2
  )
theorem sort_k {ws : List Str} (h : ws.headD "" = Str.ofString "like") : sortF ws = if (likF ws).isSome = true then Str.ofString "like" else Str.ofString "" := (by
  unfold sortF
  rw [h, form_k]
  dsimp only
  match ws, h with
  | [], h => exact absurd h.symm k_ke
  | [a], _ => rfl
  | [a, b], _ => rfl
  | [a, b, c], _ => rfl
  | a :: b :: c :: d :: e :: r, _ =>
    rw [if_neg fun z => by have := z.1; simp at this]
    rfl
  | [a, b, c, d], h =>
    have hF : likF [a, b, c, d] = if isNm b = true ∧ isNm c = true ∧ isNum d = true then some (b, c, numF d) else none := rfl
    by_cases g : isNm b = true ∧ isNm c = true ∧ isNum d = true
    · rw [if_pos g] at hF
      rw [hF, if_pos ⟨rfl, by
        obtain ⟨g1, g2, g3⟩ := g
        simp [List.range_succ, chkF, g1, g2, g3]⟩]
      rfl
    · rw [if_neg g] at hF
      rw [hF, if_neg fun z => g ?_]
      · rfl
      · have z2 := z.2
        simp [List.range_succ, chkF] at z2
        exact z2
  )
theorem sort_f {ws : List Str} (h : ws.headD "" = Str.ofString "fault") : sortF ws = if ws = [Str.ofString "fault"] then Str.ofString "fault" else Str.ofString "" := (by
  unfold sortF
  rw [h, form_f]
  dsimp only
  match ws, h with
  | [], h => exact absurd h.symm k_fe
  | [a], h =>
    have h : a = Str.ofString "fault" := h
    subst h
    rw [if_pos ⟨rfl, rfl⟩, if_pos rfl]
  | a :: b :: r, _ =>
    rw [if_neg fun z => by have := z.1; simp at this, if_neg fun z => by cases z]
  )
theorem sort_o {ws : List Str} (h1 : ws.headD "" ≠ Str.ofString "bore") (h2 : ws.headD "" ≠ Str.ofString "layer") (h3 : ws.headD "" ≠ Str.ofString "fault") (h4 : ws.headD "" ≠ Str.ofString "like") : sortF ws = Str.ofString "" := (by
  unfold sortF formF
  rw [if_neg h1, if_neg h2, if_neg h3, if_neg h4]
  )
theorem kind_ok (ws : List Str) : KindOk (sortF ws) := (by
  by_cases h1 : ws.headD "" = Str.ofString "bore"
  · rw [sort_b h1]; split
    · exact .inr (.inl rfl)
    · exact .inl rfl
  by_cases h2 : ws.headD "" = Str.ofString "layer"
  · rw [sort_l h2]; split
    · exact .inr (.inr (.inl rfl))
    · exact .inl rfl
  by_cases h3 : ws.headD "" = Str.ofString "fault"
  · rw [sort_f h3]; split
    · exact .inr (.inr (.inr (.inl rfl)))
    · exact .inl rfl
  by_cases h4 : ws.headD "" = Str.ofString "like"
  · rw [sort_k h4]; split
    · exact .inr (.inr (.inr (.inr rfl)))
    · exact .inl rfl
  rw [sort_o h1 h2 h3 h4]
  exact .inl rfl
  )
/-- what has been found, by the last row's kind -/
def Ste (last : Str) (s : RdS) : Prop := (∀ b ∈ s.1, b.bl ≠ []) ∧ ((last = Str.ofString "" ∧ s.1 = [] ∧ s.2 = []) ∨ ((last = Str.ofString "bore" ∨ last = Str.ofString "fault") ∧ s.1 ≠ [] ∧ shutR s.1 = false ∧ s.2 = []) ∨ (last = Str.ofString "layer" ∧ s.1 ≠ [] ∧ shutR s.1 = true ∧ s.2 = []) ∨ (last = Str.ofString "like" ∧ shutR s.1 = true ∧ s.2 ≠ []))
theorem ahead_b : aheadF (Str.ofString "bore") = [Str.ofString "", Str.ofString "layer"] := if_pos rfl
theorem ahead_l : aheadF (Str.ofString "layer") = [Str.ofString "bore", Str.ofString "layer", Str.ofString "fault"] := by unfold aheadF; rw [if_neg k_bl.symm, if_pos rfl]
theorem ahead_f : aheadF (Str.ofString "fault") = [Str.ofString "layer"] := by unfold aheadF; rw [if_neg k_bf.symm, if_neg k_lf.symm, if_pos rfl]
theorem ahead_k : aheadF (Str.ofString "like") = [Str.ofString "", Str.ofString "layer", Str.ofString "like"] := by unfold aheadF; rw [if_neg k_bk.symm, if_neg k_lk.symm, if_neg k_fk.symm]
/-- what each kind asks of what was found -/
theorem Ste.b {last : Str} {s : RdS} (h : Ste last s) : last ∈ aheadF (Str.ofString "bore") ↔ (shutR s.1 = true ∧ s.2 = []) := (by
  rw [ahead_b]
  rcases h.2 with ⟨rfl, h1, h2⟩ | ⟨h0, h1, h2, h3⟩ | ⟨rfl, h1, h2, h3⟩ | ⟨rfl, h1, h2⟩
  · simp [h1, h2, shutR]
  · rw [h2]
    rcases h0 with rfl | rfl
    · simp [k_be, k_bl]
    · simp [k_fe, k_lf.symm]
  · simp [h2, h3]
  · simp [h1, h2, k_ke, k_lk.symm]
  )
theorem Ste.l {last : Str} {s : RdS} (h : Ste last s) : last ∈ aheadF (Str.ofString "layer") ↔ (s.1 ≠ [] ∧ s.2 = []) := (by
  rw [ahead_l]
  rcases h.2 with ⟨rfl, h1, h2⟩ | ⟨h0, h1, h2, h3⟩ | ⟨rfl, h1, h2, h3⟩ | ⟨rfl, h1, h2⟩
  · simp [h1, h2, k_be.symm, k_le.symm, k_fe.symm]
  · rcases h0 with rfl | rfl
    · simp [h1, h3]
    · simp [h1, h3]
  · simp [h1, h3]
  · simp [h2, k_bk.symm, k_lk.symm, k_fk.symm]
  )
theorem Ste.f {last : Str} {s : RdS} (h : Ste last s) : last ∈ aheadF (Str.ofString "fault") ↔ (shutR s.1 = true ∧ s.1 ≠ [] ∧ s.2 = []) := (by
  rw [ahead_f]
  rcases h.2 with ⟨rfl, h1, h2⟩ | ⟨h0, h1, h2, h3⟩ | ⟨rfl, h1, h2, h3⟩ | ⟨rfl, h1, h2⟩
  · simp [h1, h2, k_le.symm]
  · rw [h2]
    rcases h0 with rfl | rfl
    · simp [k_bl]
    · simp [k_lf.symm]
  · simp [h1, h2, h3]
  · simp [h1, h2, k_lk.symm]
  )
theorem Ste.k {last : Str} {s : RdS} (h : Ste last s) : last ∈ aheadF (Str.ofString "like") ↔ shutR s.1 = true := (by
  rw [ahead_k]
  rcases h.2 with ⟨rfl, h1, h2⟩ | ⟨h0, h1, h2, h3⟩ | ⟨rfl, h1, h2, h3⟩ | ⟨rfl, h1, h2⟩
  · simp [h1, shutR]
  · rw [h2]
    rcases h0 with rfl | rfl
    · simp [k_be, k_bl, k_bk]
    · simp [k_fe, k_lf.symm, k_fk]
  · simp [h2]
  · simp [h1]
  )
theorem Ste.end_ {last : Str} {s : RdS} (h : Ste last s) : (last = Str.ofString "" ∨ last = Str.ofString "layer" ∨ last = Str.ofString "like") ↔ shutR s.1 = true := (by
  rw [← h.k, ahead_k]; simp
  )
/-- one row more -/
theorem Ste.step {last : Str} {s : RdS} (h : Ste last s) (ws : List Str) : if sortF ws = Str.ofString "" ∨ last ∉ aheadF (sortF ws) then layR s ws = none else layR s ws = some (layG s ws) ∧ Ste (sortF ws) (layG s ws) := (by
  obtain ⟨bs, ls⟩ := s
  have hb := h.b
  have hl := h.l
  have hf := h.f
  have hk := h.k
  obtain ⟨hne, _⟩ := h
  dsimp only at hb hl hf hk hne
  by_cases h1 : ws.headD "" = Str.ofString "like"
  · rw [sort_k h1]
    have e : layR (bs, ls) ws = if shutR bs = true then (likF ws).map fun l => (bs, ls ++ [l]) else none := by unfold layR; rw [if_pos h1]
    cases hq : likF ws with
    | none =>
      rw [hq] at e
      rw [if_neg (show ¬ (Option.isSome none = true) by decide), if_pos (.inl rfl), e]
      split <;> rfl
    | some l =>
      rw [hq] at e
      rw [if_pos (show Option.isSome (some l) = true from rfl)]
      by_cases hs : shutR bs = true
      · rw [if_neg (fun z => z.elim k_ke fun z => z (hk.mpr hs))]
        have eg : layG (bs, ls) ws = (bs, ls ++ [l]) := by
          unfold layG
          rw [h1, if_neg k_bk.symm, if_neg k_lk.symm, if_neg k_fk.symm]
          unfold likF at hq
          split at hq
          · split at hq
            · cases hq; rfl
            · cases hq
          · cases hq
        rw [eg]
        exact ⟨by rw [e, if_pos hs]; rfl, hne, .inr (.inr (.inr ⟨rfl, hs, by simp⟩))⟩
      · rw [if_pos (.inr fun z => hs (hk.mp z)), e, if_neg hs]
  by_cases h2 : ws.headD "" = Str.ofString "bore"
  · rw [sort_b h2]
    have e : layR (bs, ls) ws = if shutR bs = true ∧ ls = [] then (headF ws).map fun b => (bs ++ [b], ls) else none := by unfold layR; rw [if_neg h1, if_pos h2]
    cases hq : headF ws with
    | none =>
      rw [hq] at e
      rw [if_neg (show ¬ (Option.isSome none = true) by decide), if_pos (.inl rfl), e]
      split <;> rfl
    | some b =>
      rw [hq] at e
      rw [if_pos (show Option.isSome (some b) = true from rfl)]
      by_cases hs : shutR bs = true ∧ ls = []
      · rw [if_neg (fun z => z.elim k_be fun z => z (hb.mpr hs))]
        have ebl : b.bl = [[]] := (headF_some hq).2
        have eg : layG (bs, ls) ws = (bs ++ [b], ls) := by
          unfold layG
          rw [h2, if_pos rfl]
          unfold headF at hq
          split at hq
          · split at hq
            · cases hq; rfl
            · cases hq
          · cases hq
        rw [eg]
        refine ⟨by rw [e, if_pos hs]; rfl, fun x hx => ?_, .inr (.inl ⟨.inl rfl, by simp, ?_, hs.2⟩)⟩
        · rcases List.mem_append.mp hx with z | z
          · exact hne x z
          · rw [List.mem_singleton.mp z, ebl]; simp
        · unfold shutR
          simp [ebl]
      · rw [if_pos (.inr fun z => hs (hb.mp z)), e, if_neg hs]
  by_cases h3 : ws.headD "" = Str.ofString "layer"
  · rw [sort_l h3]
    have e : layR (bs, ls) ws = if bs ≠ [] ∧ ls = [] then (layF ws).map fun l => (onLast (addLy l) bs, ls) else none := by unfold layR; rw [if_neg h1, if_neg h2, if_pos h3]
    cases hq : layF ws with
    | none =>
      rw [hq] at e
      rw [if_neg (show ¬ (Option.isSome none = true) by decide), if_pos (.inl rfl), e]
      split <;> rfl
    | some l =>
      rw [hq] at e
      rw [if_pos (show Option.isSome (some l) = true from rfl)]
      by_cases hs : bs ≠ [] ∧ ls = []
      · rw [if_neg (fun z => z.elim k_le fun z => z (hl.mpr hs))]
        have eg : layG (bs, ls) ws = (onLast (addLy l) bs, ls) := by
          unfold layG
          rw [h3, if_neg k_bl.symm, if_pos rfl]
          unfold layF at hq
          split at hq
          · split at hq
            · cases hq; rfl
            · cases hq
          · cases hq
        rw [eg]
        obtain ⟨bs, b, rfl⟩ := last_ex hs.1
        have b1 := hne b (List.mem_append_right _ (by simp))
        obtain ⟨nm, p, t, bl⟩ := b
        obtain ⟨bl, k, rfl⟩ := last_ex b1
        refine ⟨by rw [e, if_pos hs]; rfl, fun x hx => ?_, .inr (.inr (.inl ⟨rfl, ?_, ?_, hs.2⟩))⟩
        · dsimp only at hx
          rw [onLast_at, addLy_at] at hx
          rcases List.mem_append.mp hx with z | z
          · exact hne x (List.mem_append_left _ z)
          · rw [List.mem_singleton.mp z]; simp
        · show onLast _ _ ≠ []
          rw [onLast_at]; simp
        · show shutR (onLast _ _) = true
          rw [onLast_at, addLy_at, shutR_at]
          simp
      · rw [if_pos (.inr fun z => hs (hl.mp z)), e, if_neg hs]
  have e : layR (bs, ls) ws = if ws = [Str.ofString "fault"] ∧ shutR bs = true ∧ bs ≠ [] ∧ ls = [] then some (onLast addBl bs, ls) else none := by unfold layR; rw [if_neg h1, if_neg h2, if_neg h3]
  by_cases h4 : ws.headD "" = Str.ofString "fault"
  · rw [sort_f h4]
    by_cases hq : ws = [Str.ofString "fault"]
    · rw [if_pos hq]
      by_cases hs : shutR bs = true ∧ bs ≠ [] ∧ ls = []
      · rw [if_neg (fun z => z.elim k_fe fun z => z (hf.mpr hs))]
        have eg : layG (bs, ls) ws = (onLast addBl bs, ls) := by
          unfold layG
          rw [h4, if_neg k_bf.symm, if_neg k_lf.symm, if_pos rfl]
        rw [eg]
        obtain ⟨bs, b, rfl⟩ := last_ex hs.2.1
        refine ⟨by rw [e, if_pos ⟨hq, hs⟩], fun x hx => ?_, .inr (.inl ⟨.inr rfl, ?_, ?_, hs.2.2⟩)⟩
        · dsimp only at hx
          rw [onLast_at] at hx
          rcases List.mem_append.mp hx with z | z
          · exact hne x (List.mem_append_left _ z)
          · rw [List.mem_singleton.mp z]; unfold addBl; simp
        · show onLast _ _ ≠ []
          rw [onLast_at]; simp
        · show shutR (onLast _ _) = false
          rw [onLast_at]
          unfold addBl shutR
          simp
      · rw [if_pos (.inr fun z => hs (hf.mp z)), e, if_neg fun z => hs z.2]
    · rw [if_neg hq, if_pos (.inl rfl), e, if_neg fun z => hq z.1]
  · rw [sort_o h2 h3 h4 h1, if_pos (.inl rfl), e, if_neg]
    rintro ⟨rfl, _⟩
    exact h4 rfl
  )
theorem ste_0 : Ste (Str.ofString "") ([], []) := ⟨fun b hb => (by cases hb), .inl ⟨rfl, rfl, rfl⟩⟩
/-- what the rows tell is what their kinds' order lets be laid -/
theorem read_order : ∀ (W : List (List Str)) {last : Str} {s : RdS}, Ste last s → ((layRs s W).bind fun s' => if shutR s'.1 = true then some s' else none) = if orderG last (W.map sortF) = true then some (W.foldl layG s) else none
  | [], last, s, h => by
    show (if shutR s.1 = true then some s else none) = if orderG last [] = true then some s else none
    have e := h.end_
    by_cases hs : shutR s.1 = true
    · rw [if_pos hs, if_pos (show orderG last [] = true from decide_eq_true (e.mpr hs))]
    · rw [if_neg hs, if_neg (show ¬ (orderG last [] = true) from fun z => hs (e.mp (of_decide_eq_true z)))]
  | ws :: W, last, s, h => by
    have st := h.step ws
    show ((layR s ws).bind fun s' => layRs s' W).bind _ = if (if sortF ws = Str.ofString "" ∨ last ∉ aheadF (sortF ws) then false else orderG (sortF ws) (W.map sortF)) = true then some (W.foldl layG (layG s ws)) else none
    by_cases c : sortF ws = Str.ofString "" ∨ last ∉ aheadF (sortF ws)
    · rw [if_pos c] at st
      rw [if_pos c, st, if_neg Bool.false_ne_true]; rfl
    · rw [if_neg c] at st
      rw [if_neg c, st.1]
      exact read_order W st.2
/-- the rows laid one by one -/
theorem order_at {W : List (List Str)} : ∀ {i : Nat} {last : Str} {s : RdS} {n : Nat}, Ste last s → RdOk s n → orderG last (W.map sortF) = true → i ≤ W.length → ∃ l, Ste l ((W.take i).foldl layG s) ∧ RdOk ((W.take i).foldl layG s) (n + i) ∧ ∀ ws, W[i]? = some ws → sortF ws ≠ Str.ofString "" ∧ l ∈ aheadF (sortF ws) := (by
  induction W with
  | nil =>
    intro i last s n h ok _ hi
    obtain rfl : i = 0 := Nat.le_zero.mp hi
    exact ⟨last, h, ok, fun ws hw => by cases hw⟩
  | cons w W ih =>
    intro i last s n h ok ho hi
    have ho : (if sortF w = Str.ofString "" ∨ last ∉ aheadF (sortF w) then false else orderG (sortF w) (W.map sortF)) = true := ho
    by_cases c : sortF w = Str.ofString "" ∨ last ∉ aheadF (sortF w)
    · rw [if_pos c] at ho; cases ho
    · rw [if_neg c] at ho
      have st := h.step w
      rw [if_neg c] at st
      cases i with
      | zero =>
        refine ⟨last, h, ok, fun ws hw => ?_⟩
        cases hw
        exact ⟨fun z => c (.inl z), Classical.byContradiction fun z => c (.inr z)⟩
      | succ i =>
        obtain ⟨l, a1, a2, a3⟩ := ih (i := i) st.2 (layR_ok ok st.1) ho (by simpa using hi)
        exact ⟨l, a1, by rw [show n + (i + 1) = n + 1 + i by omega]; exact a2, fun ws hw => a3 ws (by simpa using hw)⟩
  )
/-- the field that rows tell, by their words -/
def fldOf (W : List (List Str)) : PyData := if orderG (Str.ofString "") (W.map sortF) = true then .tuple [.tuple ((W.foldl layG ([], [])).1.map boD), .tuple ((W.foldl layG ([], [])).2.map lkD)] else .none
/-- bores on the way, as lists -/
def boG (b : Bo) : OT := .lst [.dat (.str b.nm), .dat (.int b.at_), .dat (.int b.top), .lst ((b.bl.map fun k => PyData.tuple (k.map lyD)).map .dat)]
def fndG (bs : List Bo) : OT := .lst (bs.map boG)
def boH (b : Bo) : PyData := .list [.str b.nm, .int b.at_, .int b.top, .list (b.bl.map fun k => .tuple (k.map lyD))]
theorem boG_D (b : Bo) : (boG b).isD = true ∧ (boG b).toD = boH b := (by
  constructor
  · show (true && (true && (true && (OT.areD ((b.bl.map fun k => PyData.tuple (k.map lyD)).map .dat) && true)))) = true
    rw [areD_dats]; rfl
  · show PyData.list [.str b.nm, .int b.at_, .int b.top, .list (OT.toDs ((b.bl.map fun k => PyData.tuple (k.map lyD)).map .dat))] = _
    rw [toDs_dats]; rfl
  )
theorem fndG_D (bs : List Bo) : (fndG bs).isD = true ∧ (fndG bs).toD = .list (bs.map boH) := (by
  constructor
  · exact areD_of fun t ht => by
      obtain ⟨b, _, rfl⟩ := List.mem_map.mp ht
      exact (boG_D b).1
  · show PyData.list (OT.toDs (bs.map boG)) = _
    rw [toDs_eq, List.map_map, show OT.toD ∘ boG = boH from funext fun b => (boG_D b).2]
  )
theorem ixT_4L {a b c d : OT} {Q : Nat → OT → Prop} (h : Q 3 d) : ixT (.lst [a, b, c, d]) (.int 3) Q := ⟨3, d, by show ixN 4 3 = some 3; decide, rfl, h⟩
theorem boG_at {nm : Str} {p t : Int} {bl : List (List (Str × Int))} {k : List (Str × Int)} : boG ⟨nm, p, t, bl ++ [k]⟩ = .lst [.dat (.str nm), .dat (.int p), .dat (.int t), .lst ((bl.map fun k => OT.dat (.tuple (k.map lyD))) ++ [.dat (.tuple (k.map lyD))])] := by unfold boG; rw [List.map_map, List.map_append]; rfl
theorem fndG_at {bs : List Bo} {b : Bo} : fndG (bs ++ [b]) = .lst (bs.map boG ++ [boG b]) := by unfold fndG; rw [List.map_append]; rfl
theorem getE_m {α β : Type} {l : List β} {f : β → α} {a d : α} : (l.map f ++ [a])[l.length]?.getD d = a := by simp
theorem set_m {α β : Type} {l : List β} {f : β → α} {a b : α} : (l.map f ++ [a]).set l.length b = l.map f ++ [b] := by simp
theorem head_b {ws : List Str} (h : ws.headD "" = Str.ofString "bore") (h2 : sortF ws ≠ Str.ofString "") : ∃ n p t, ws = [Str.ofString "bore", n, p, t] ∧ isNm n = true ∧ isNum p = true ∧ isNum t = true := (by
  rw [sort_b h] at h2
  match ws, h, h2 with
  | [], _, h2 => exact absurd rfl h2
  | [a], _, h2 => exact absurd rfl h2
  | [a, b], _, h2 => exact absurd rfl h2
  | [a, b, c], _, h2 => exact absurd rfl h2
  | a :: b :: c :: d :: e :: r, _, h2 => exact absurd rfl h2
  | [a, b, c, d], h, h2 =>
    have hF : headF [a, b, c, d] = if isNm b = true ∧ isNum c = true ∧ isNum d = true then some ⟨b, numF c, numF d, [[]]⟩ else none := rfl
    by_cases g : isNm b = true ∧ isNum c = true ∧ isNum d = true
    · exact ⟨b, c, d, by rw [show a = Str.ofString "bore" from h], g⟩
    · rw [if_neg g] at hF
      rw [hF] at h2
      exact absurd rfl h2
  )
theorem head_l {ws : List Str} (h : ws.headD "" = Str.ofString "layer") (h2 : sortF ws ≠ Str.ofString "") : ∃ n p, ws = [Str.ofString "layer", n, p] ∧ isNm n = true ∧ isNum p = true := (by
  rw [sort_l h] at h2
  match ws, h, h2 with
  | [], _, h2 => exact absurd rfl h2
  | [a], _, h2 => exact absurd rfl h2
  | [a, b], _, h2 => exact absurd rfl h2
  | a :: b :: c :: d :: r, _, h2 => exact absurd rfl h2
  | [a, b, c], h, h2 =>
    have hF : layF [a, b, c] = if isNm b = true ∧ isNum c = true then some (b, numF c) else none := rfl
    by_cases g : isNm b = true ∧ isNum c = true
    · exact ⟨b, c, by rw [show a = Str.ofString "layer" from h], g⟩
    · rw [if_neg g] at hF
      rw [hF] at h2
      exact absurd rfl h2
  )
theorem head_k {ws : List Str} (h : ws.headD "" = Str.ofString "like") (h2 : sortF ws ≠ Str.ofString "") : ∃ a b p, ws = [Str.ofString "like", a, b, p] ∧ isNm a = true ∧ isNm b = true ∧ isNum p = true := (by
  rw [sort_k h] at h2
  match ws, h, h2 with
  | [], _, h2 => exact absurd rfl h2
  | [a], _, h2 => exact absurd rfl h2
  | [a, b], _, h2 => exact absurd rfl h2
  | [a, b, c], _, h2 => exact absurd rfl h2
  | a :: b :: c :: d :: e :: r, _, h2 => exact absurd rfl h2
  | [a, b, c, d], h, h2 =>
    have hF : likF [a, b, c, d] = if isNm b = true ∧ isNm c = true ∧ isNum d = true then some (b, c, numF d) else none := rfl
    by_cases g : isNm b = true ∧ isNm c = true ∧ isNum d = true
    · exact ⟨b, c, d, by rw [show a = Str.ofString "like" from h], g⟩
    · rw [if_neg g] at hF
      rw [hF] at h2
      exact absurd rfl h2
  )
theorem head_f {ws : List Str} (h : ws.headD "" = Str.ofString "fault") (h2 : sortF ws ≠ Str.ofString "") : ws = [Str.ofString "fault"] := (by
  rw [sort_f h] at h2
  exact Classical.byContradiction fun z => h2 (if_neg z)
  )
def T_law_field_of : TF := fun a Q => ∃ (rs : List Str), a = [.d (.list (rs.map PyData.str))] ∧ rs.length ≤ 900 ∧ (∀ r ∈ rs, PyData.strOk r = true ∧ r.length ≤ 90000) ∧ ret Q (.d (fldOf (rs.map wordsF)))
/-- a field of the form, whether it fits or not -/
structure FldG (bs : List Bo) (ls : List Lk3) : Prop where
  bo : ∀ b ∈ bs, isNm b.nm = true ∧ 0 ≤ b.at_ ∧ 0 ≤ b.top ∧ b.bl ≠ [] ∧ b.bl.length ≤ 1000 ∧ ∀ k ∈ b.bl, k ≠ [] ∧ k.length ≤ 1000 ∧ ∀ l ∈ k, isNm l.1 = true ∧ 0 ≤ l.2
  lk : ∀ l ∈ ls, isNm l.1 = true ∧ isNm l.2.1 = true
  few : bs.length ≤ 1000 ∧ ls.length < 64
theorem lkFrom_no : ∀ {ls seen : List Lk3}, lkFrom seen ls = true → (∀ l ∈ ls, isNm l.1 = true ∧ isNm l.2.1 = true ∧ 1 ≤ l.2.2 ∧ l.2.2 ≤ 9) ∧ (ls.Pairwise fun x y => sortP x.1 x.2.1 ≠ sortP y.1 y.2.1) ∧ ∀ l ∈ ls, ∀ s ∈ seen, sortP s.1 s.2.1 ≠ sortP l.1 l.2.1
  | [], _, _ => ⟨fun l hl => (by cases hl), List.Pairwise.nil, fun l hl => (by cases hl)⟩
  | l :: ls, seen, h => by
    rw [lkFrom_cons, Bool.and_eq_true] at h
    obtain ⟨h1, h2⟩ := h
    obtain ⟨i1, i2, i3⟩ := lkFrom_no h2
    unfold lkOk at h1
    rw [Bool.and_eq_true, Bool.and_eq_true, Bool.and_eq_true, Bool.and_eq_true] at h1
    obtain ⟨a1, a2, a3, a4, a5⟩ := h1
    have far : ∀ s ∈ seen, sortP s.1 s.2.1 ≠ sortP l.1 l.2.1 := fun s hs z => by
      have : seen.any (sameLk l) = true := List.any_eq_true.mpr ⟨s, hs, sameLk_iff.mp z⟩
      rw [this] at a1
      cases a1
    refine ⟨fun x hx => ?_, List.pairwise_cons.mpr ⟨fun x hx => i3 x hx l (List.mem_append_right _ (by simp)), i2⟩, fun x hx s hs => ?_⟩
    · rcases List.mem_cons.mp hx with rfl | z
      · exact ⟨a2, a3, of_decide_eq_true a4, of_decide_eq_true a5⟩
      · exact i1 x z
    · rcases List.mem_cons.mp hx with rfl | z
      · exact far s hs
      · exact i3 x z s (List.mem_append_left _ hs)
/-- what is left to be asked of a field of the form -/
theorem fit_g {bs : List Bo} {ls : List Lk3} (fg : FldG bs ls) : fitF bs ls = true ↔ ((bs.map Bo.nm).Nodup ∧ (bs.map Bo.at_).Nodup ∧ (ls.map fun l => sortP l.1 l.2.1).Nodup) ∧ (∀ b ∈ bs, ∀ k ∈ b.bl, ∀ l ∈ k, l.2 ≠ 0) ∧ ∀ l ∈ ls, 1 ≤ l.2.2 ∧ l.2.2 ≤ 9 := (by
  have pw : (ls.map fun l => sortP l.1 l.2.1).Nodup ↔ ls.Pairwise fun x y => sortP x.1 x.2.1 ≠ sortP y.1 y.2.1 := by
    unfold List.Nodup
    rw [List.pairwise_map]
  rw [pw]
  unfold fitF
  rw [Bool.and_eq_true, Bool.and_eq_true, Bool.and_eq_true, decide_eq_true_iff, decide_eq_true_iff]
  have hb : bs.all boFit = true ↔ ∀ b ∈ bs, ∀ k ∈ b.bl, ∀ l ∈ k, l.2 ≠ 0 := by
    rw [List.all_eq_true]
    constructor
    · intro h b hbm k hk l hl z
      have h1 := h b hbm
      unfold boFit at h1
      rw [Bool.and_eq_true, Bool.and_eq_true, Bool.and_eq_true, Bool.and_eq_true] at h1
      have h2 := List.all_eq_true.mp h1.2.2.2.2 k hk
      unfold blFit at h2
      have h3 := List.all_eq_true.mp (Bool.and_eq_true_iff.mp h2).2 l hl
      unfold lyFit at h3
      have h4 := of_decide_eq_true (Bool.and_eq_true_iff.mp h3).2
      omega
    · intro h b hbm
      obtain ⟨b1, b2, b3, b4, b5, b6⟩ := fg.bo b hbm
      unfold boFit
      rw [b1, decide_eq_true b2, decide_eq_true b3, decide_eq_true (by have := List.length_pos_iff.mpr b4; omega), show b.bl.all blFit = true from List.all_eq_true.mpr fun k hk => by
        obtain ⟨k1, k2, k3⟩ := b6 k hk
        unfold blFit
        rw [decide_eq_true (by have := List.length_pos_iff.mpr k1; omega), Bool.true_and]
        refine List.all_eq_true.mpr fun l hl => ?_
        obtain ⟨l1, l2⟩ := k3 l hl
        have := h b hbm k hk l hl
        unfold lyFit
        rw [l1, decide_eq_true (by omega)]; rfl]
      rfl
  rw [hb]
  constructor
  · rintro ⟨h1, h2, h3, h4⟩
    obtain ⟨i1, i2, -⟩ := lkFrom_no h2
    exact ⟨⟨h3, h4, i2⟩, h1, fun l hl => ⟨(i1 l hl).2.2.1, (i1 l hl).2.2.2⟩⟩
  · rintro ⟨⟨h1, h2, h3⟩, h4, h5⟩
    exact ⟨h4, lkFrom_ok (fun l hl => ⟨(fg.lk l hl).1, (fg.lk l hl).2, h5 l hl⟩) h3 (by simp), h1, h2⟩
  )
def T_law_fits : TF := fun a Q => ∃ (bs : List Bo) (ls : List Lk3), a = [.d (.tuple [.tuple (bs.map boD), .tuple (ls.map lkD)])] ∧ FldG bs ls ∧ ret Q (.d (.bool (fitF bs ls)))
/-- how a text is read: what it tells, or how it is refused -/
def toldF (w : Str) : PyData := match readF w with
  | none => .tuple [.str "", .list [.bool true, .bool false, .bool true, .bool false]]
  | some s => if fitF s.1 s.2 = true then .tuple [.str "field", .tuple [.tuple (s.1.map boD), .tuple (s.2.map lkD)]] else .tuple [.str "", .list [.bool false, .bool true, .bool true, .bool false]]
def T_law_read : TF := fun a Q => (∃ (w : Str), a = [.d (.str w)] ∧ PyData.strOk w = true ∧ w.length ≤ 90000 ∧ (rowsF w).length ≤ 900 ∧ ret Q (.d (toldF w))) ∨ ∃ x, a = [.d x] ∧ notS x = true ∧ ret Q (.d (.tuple [.str "", .list [.bool true, .bool false, .bool true, .bool false]]))
/-! what a read field is like -/
def Nn (s : RdS) : Prop := ∀ b ∈ s.1, 0 ≤ b.at_ ∧ 0 ≤ b.top ∧ ∀ k ∈ b.bl, ∀ l ∈ k, 0 ≤ l.2
/-- no block without layers but the last of the last bore -/
def Ful (bs : List Bo) : Prop := ∀ bs' nm p t bl k, bs = bs' ++ [⟨nm, p, t, bl ++ [k]⟩] → (∀ x ∈ bs', ∀ y ∈ x.bl, y ≠ []) ∧ ∀ y ∈ bl, y ≠ []
theorem ful_all {bs : List Bo} (h : Ful bs) (hb : ∀ b ∈ bs, b.bl ≠ []) (hs : shutR bs = true) : ∀ b ∈ bs, ∀ k ∈ b.bl, k ≠ [] := (by
  intro b hbm k hk
  by_cases e : bs = []
  · rw [e] at hbm; cases hbm
  obtain ⟨bs, x, rfl⟩ := last_ex e
  have x1 := hb x (List.mem_append_right _ (by simp))
  obtain ⟨nm, p, t, bl⟩ := x
  obtain ⟨bl, y, rfl⟩ := last_ex x1
  obtain ⟨h1, h2⟩ := h bs nm p t bl y rfl
  rw [shutR_at] at hs
  have hs := of_decide_eq_true hs
  rcases List.mem_append.mp hbm with z | z
  · exact h1 b z k hk
  · rw [List.mem_singleton.mp z] at hk
    rcases List.mem_append.mp hk with z | z
    · exact h2 k z
    · rw [List.mem_singleton.mp z]
      intro e
      rw [e] at hs
      simp at hs
  )
theorem app_one {α : Type} {a b : List α} {x y : α} (h : a ++ [x] = b ++ [y]) : a = b ∧ x = y := (by
  have := List.append_inj' h rfl
  exact ⟨this.1, List.singleton_inj.mp this.2⟩
  )
theorem layR_ful {s s' : RdS} {ws : List Str} {n : Nat} (ok : RdOk s n) (hf : Ful s.1) (hn : Nn s) (h : layR s ws = some s') : Ful s'.1 ∧ Nn s' ∧ s'.2.length ≤ s.2.length + (if othR ws = true then 1 else 0) := (by
  obtain ⟨bs, ls⟩ := s
  have hb : ∀ b ∈ bs, b.bl ≠ [] := fun b hb => (ok.bl b hb).1
  unfold layR at h
  simp only at h
  split at h
  · rename_i hk
    split at h
    · obtain ⟨l, hl, e⟩ := Option.map_eq_some_iff.mp h
      cases e
      refine ⟨hf, hn, ?_⟩
      rw [if_pos (by unfold othR; rw [hk]; decide +kernel)]
      simp
    · cases h
  · split at h
    · split at h
      · rename_i hs
        obtain ⟨b, hbe, e⟩ := Option.map_eq_some_iff.mp h
        cases e
        refine ⟨fun bs' nm p t bl k e => ?_, fun x hx => ?_, Nat.le_add_right _ _⟩
        · obtain ⟨e1, e2⟩ := app_one e
          subst e1
          have := (headF_some hbe).2
          rw [e2] at this
          refine ⟨ful_all hf hb hs.1, fun y hy => ?_⟩
          cases bl with
          | nil => cases hy
          | cons a r => exact absurd (congrArg List.length this) (by simp)
        · rcases List.mem_append.mp hx with z | z
          · exact hn x z
          · rw [List.mem_singleton.mp z]
            have := (headF_some hbe).2
            unfold headF at hbe
            split at hbe
            · split at hbe
              · rename_i g
                cases hbe
                exact ⟨(num_int g.2.1).2.2, (num_int g.2.2).2.2, fun k hk l hl => by
                  rw [List.mem_singleton.mp hk] at hl
                  cases hl⟩
              · cases hbe
            · cases hbe
      · cases h
    · split at h
      · split at h
        · rename_i hne
          obtain ⟨l, hl, e⟩ := Option.map_eq_some_iff.mp h
          cases e
          obtain ⟨bs, b, rfl⟩ := last_ex hne.1
          have b1 := hb b (List.mem_append_right _ (by simp))
          obtain ⟨nm, p, t, bl⟩ := b
          obtain ⟨bl, k, rfl⟩ := last_ex b1
          obtain ⟨h1, h2⟩ := hf bs nm p t bl k rfl
          have hn0 := hn _ (List.mem_append_right _ (by simp : (⟨nm, p, t, bl ++ [k]⟩ : Bo) ∈ [(⟨nm, p, t, bl ++ [k]⟩ : Bo)]))
          have l0 : 0 ≤ l.2 := by
            unfold layF at hl
            split at hl
            · split at hl
              · rename_i g
                cases hl
                exact (num_int g.2).2.2
              · cases hl
            · cases hl
          refine ⟨fun bs' nm' p' t' bl' k' e => ?_, fun x hx => ?_, Nat.le_add_right _ _⟩
          · dsimp only at e
            rw [onLast_at, addLy_at] at e
            obtain ⟨e1, e2⟩ := app_one e
            subst e1
            injection e2 with e3 e4 e5 e6
            obtain ⟨e7, e8⟩ := app_one e6
            subst e7
            exact ⟨h1, h2⟩
          · dsimp only at hx
            rw [onLast_at, addLy_at] at hx
            rcases List.mem_append.mp hx with z | z
            · exact hn x (List.mem_append_left _ z)
            · rw [List.mem_singleton.mp z]
              refine ⟨hn0.1, hn0.2.1, fun k' hk' l' hl' => ?_⟩
              rcases List.mem_append.mp hk' with z | z
              · exact hn0.2.2 k' (List.mem_append_left _ z) l' hl'
              · rw [List.mem_singleton.mp z] at hl'
                rcases List.mem_append.mp hl' with z | z
                · exact hn0.2.2 k (List.mem_append_right _ (by simp)) l' z
                · rw [List.mem_singleton.mp z]; exact l0
        · cases h
      · split at h
        · cases h
          rename_i hne
          obtain ⟨bs, b, rfl⟩ := last_ex hne.2.2.1
          have hn0 := hn b (List.mem_append_right _ (by simp))
          have all := ful_all hf hb hne.2.1
          obtain ⟨nm, p, t, bl⟩ := b
          refine ⟨fun bs' nm' p' t' bl' k' e => ?_, fun x hx => ?_, Nat.le_add_right _ _⟩
          · dsimp only at e
            rw [onLast_at] at e
            have e : bs ++ [(⟨nm, p, t, bl ++ [[]]⟩ : Bo)] = bs' ++ [⟨nm', p', t', bl' ++ [k']⟩] := e
            obtain ⟨e1, e2⟩ := app_one e
            subst e1
            injection e2 with e3 e4 e5 e6
            obtain ⟨e7, e8⟩ := app_one e6
            subst e7
            exact ⟨fun x hx => all x (List.mem_append_left _ hx), fun y hy => all _ (List.mem_append_right _ (List.mem_singleton.mpr rfl)) y hy⟩
          · dsimp only at hx
            rw [onLast_at] at hx
            rcases List.mem_append.mp hx with z | z
            · exact hn x (List.mem_append_left _ z)
            · rw [List.mem_singleton.mp z]
              refine ⟨hn0.1, hn0.2.1, fun k' hk' l' hl' => ?_⟩
              have hk' : k' ∈ bl ++ [[]] := hk'
              rcases List.mem_append.mp hk' with z | z
              · exact hn0.2.2 k' z l' hl'
              · rw [List.mem_singleton.mp z] at hl'
                cases hl'
        · cases h
  )
theorem layRs_ful : ∀ {W : List (List Str)} {s s' : RdS} {n : Nat}, RdOk s n → Ful s.1 → Nn s → layRs s W = some s' → RdOk s' (n + W.length) ∧ Ful s'.1 ∧ Nn s' ∧ s'.2.length ≤ s.2.length + W.countP othR
  | [], s, s', n, ok, hf, hn, h => by cases h; exact ⟨ok, hf, hn, Nat.le_refl _⟩
  | ws :: W, s, s', n, ok, hf, hn, h => by
    obtain ⟨s1, h1, h2⟩ := Option.bind_eq_some_iff.mp (show (layR s ws).bind (fun s' => layRs s' W) = some s' from h)
    obtain ⟨a1, a2, a3⟩ := layR_ful ok hf hn h1
    obtain ⟨b1, b2, b3, b4⟩ := layRs_ful (layR_ok ok h1) a1 a2 h2
    refine ⟨by rw [List.length_cons, show n + (W.length + 1) = n + 1 + W.length by omega]; exact b1, b2, b3, ?_⟩
    rw [List.countP_cons]
    omega
theorem read_g {w : Str} {s : RdS} (h : readF w = some s) (hr : (rowsF w).length ≤ 900) (hk : ((rowsF w).map wordsF).countP othR < 64) : FldG s.1 s.2 := (by
  unfold readF at h
  obtain ⟨s1, h1, h2⟩ := Option.bind_eq_some_iff.mp h
  split at h2
  · rename_i hs
    cases h2
    obtain ⟨ok, hf, hn, hl⟩ := layRs_ful rdOk_0 (fun bs' nm p t bl k e => absurd e (by simp)) (fun b hb => by cases hb) h1
    have all := ful_all hf (fun b hb => (ok.bl b hb).1) hs
    rw [List.length_map] at ok
    have l1 : s.1.length ≤ 0 + (rowsF w).length := ok.bs
    refine ⟨fun b hb => ?_, fun l hl => ok.ls.2 l hl, by omega, ?_⟩
    · obtain ⟨b1, b2, b3, b4⟩ := ok.bl b hb
      obtain ⟨n1, n2, n3⟩ := hn b hb
      exact ⟨b3, n1, n2, b1, by omega, fun k hk => ⟨all b hb k hk, by have := (b4 k hk).1; omega, fun l hl => ⟨(b4 k hk).2 l hl, n3 k hk l hl⟩⟩⟩
    · have hl : s.2.length ≤ 0 + ((rowsF w).map wordsF).countP othR := hl
      omega
  · cases h2
  )
theorem nm_ok {w : Str} (h : isNm w = true) : PyData.strOk w = true := (by
  unfold isNm at h
  simp only [Bool.and_eq_true, List.all_eq_true] at h
  refine strOk_iff.mpr fun n hn => ?_
  have := h.2.2 n hn
  unfold isLetN at this
  rw [PySem.StrLaws.found_one] at this
  have key : ∀ n ∈ (Str.ofString "abcdefghijklmnopqrstuvwxyz").cps.toList, n < 0x110000 := by decide +kernel
  exact key n (of_decide_eq_true this)
  )
theorem pl_fldG {bs : List Bo} {ls : List Lk3} (fg : FldG bs ls) : Pl 6 (.tuple [.tuple (bs.map boD), .tuple (ls.map lkD)]) := (by
  refine pl_t2 (n := 5) (pl_mapT fun b hb => ?_) (Pl.mono (n := 2) (pl_mapT fun l hl => pl_t3 (pl_str (nm_ok (fg.lk l hl).1)) (pl_str (nm_ok (fg.lk l hl).2)) pl_int) (by decide))
  obtain ⟨b1, _, _, _, _, b6⟩ := fg.bo b hb
  exact pl_t4 (pl_str (nm_ok b1)) pl_int pl_int (pl_mapT fun k hk => pl_mapT fun l hl => pl_t2 (pl_str (nm_ok ((b6 k hk).2.2 l hl).1)) pl_int)
  )
theorem fldOf_read (w : Str) : fldOf ((rowsF w).map wordsF) = match readF w with
  | none => .none
  | some s => .tuple [.tuple (s.1.map boD), .tuple (s.2.map lkD)] := by
  have h := read_order ((rowsF w).map wordsF) ste_0
  have e : readF w = (layRs ([], []) ((rowsF w).map wordsF)).bind fun s => if shutR s.1 = true then some s else none := rfl
  rw [e, h]
  unfold fldOf
  split
  · rfl
  · rfl
theorem sh_w4 (a b c d : Bool) : Sh 64 (.tuple [.str (Str.ofString ""), .list [.bool a, .bool b, .bool c, .bool d]]) := sh_tuple.mpr fun x hx => by
  simp only [List.mem_cons, List.not_mem_nil, or_false] at hx
  rcases hx with rfl | rfl
  · exact sh_str.mpr (by decide +kernel)
  · refine sh_list.mpr fun x hx => ?_
    simp only [List.mem_cons, List.not_mem_nil, or_false] at hx
    rcases hx with rfl | rfl | rfl | rfl <;> exact sh_bool.mpr trivial
theorem eqv_w4 (a b c d : Bool) : PyData.eqvAll [.str (Str.ofString ""), .list [.bool a, .bool b, .bool c, .bool d]] [.str (Str.ofString ""), .list [.bool a, .bool b, .bool c, .bool d]] = true := (by
  cases a <;> cases b <;> cases c <;> cases d <;> decide +kernel
  )
def T_law_right : TF := fun a Q => ∃ (w : Str), a = [.d (.str w)] ∧ PyData.strOk w = true ∧ w.length ≤ 89000 ∧ (rowsF w).length ≤ 900 ∧ ((rowsF w).map wordsF).countP othR < 64 ∧ ret Q (.d (.bool true))
def T_law : TF := fun a Q => ∃ ns : List Int, a = [.d (.list (ns.map PyData.int))] ∧ ret Q (.d (.bool true))
theorem law_ok : TLaw T_law := fun ns Q _ q => ⟨ns, rfl, q⟩
theorem rowt_free {ws : List Str} (h : RwOk ws) : 10 ∉ (rowT ws).cps.toList := fun z => by
  have := h.sign z
  omega
theorem nlF_0 {w : Str} (h : 10 ∉ w.cps.toList) : nlF w = 0 := (by
  unfold nlF
  rw [List.countP_eq_zero]
  intro a ha e
  exact h ((show a = 10 from beq_iff_eq.mp e) ▸ ha)
  )
theorem split_one {w : Str} (h : 10 ∉ w.cps.toList) : Txt.split w (Str.ofString "\n") = [w] := (by
  have := split_join (n := 10) (ps := [w]) (by simp) fun p hp => by rw [List.mem_singleton.mp hp]; exact h
  exact this
  )
theorem othS_row {ws : List Str} (h : RwOk ws) : othS (rowT ws) = if othR ws = true then 1 else 0 := (by
  unfold othS
  rw [split_one (rowt_free h)]
  have e : wordsF (rowT ws) = ws := h.split
  rw [List.map_cons, List.map_nil, e, List.countP_cons, List.countP_nil, Nat.zero_add]
  )
theorem othT_rows : ∀ {R : List (List Str)}, (∀ ws ∈ R, RwOk ws) → othT (R.map rowT) = R.countP othR
  | [], _ => rfl
  | ws :: R, h => by
    have e := othT_app [rowT ws] (R.map rowT)
    rw [List.singleton_append, othT_one, othS_row (h ws List.mem_cons_self), othT_rows fun x hx => h x (List.mem_cons_of_mem _ hx)] at e
    rw [List.map_cons, e, List.countP_cons, Nat.add_comm]
theorem oth_lay (k : List (Str × Int)) : (k.map layW).countP othR = 0 := (by
  rw [List.countP_eq_zero]
  intro ws hw
  obtain ⟨l, _, rfl⟩ := List.mem_map.mp hw
  exact fun z => (of_decide_eq_true z).2.1 rfl
  )
theorem oth_blks : ∀ bl : List (List (Str × Int)), (blksW bl).countP othR = 0
  | [] => rfl
  | [k] => oth_lay k
  | k :: k' :: r => by
    show (k.map layW ++ fltW :: blksW (k' :: r)).countP othR = 0
    rw [List.countP_append, List.countP_cons_of_neg (by decide +kernel), oth_lay, oth_blks (k' :: r)]
theorem oth_fld (bs : List Bo) (ls : List Lk3) : (fldW bs ls).countP othR ≤ ls.length := (by
  unfold fldW
  rw [List.countP_append]
  have h1 : ∀ bs : List Bo, ((bs.map boW).flatten).countP othR = 0 := fun bs => by
    induction bs with
    | nil => rfl
    | cons b bs ih =>
      rw [List.map_cons, List.flatten_cons, List.countP_append, ih]
      show (headW b :: blksW b.bl).countP othR + 0 = 0
      rw [List.countP_cons_of_neg (fun z => (of_decide_eq_true z).1 rfl), oth_blks]
  rw [h1, Nat.zero_add]
  refine Nat.le_trans List.countP_le_length ?_
  rw [List.length_map]
  exact Nat.le_refl _
  )
theorem rows_b {bs : List Bo} {ls : List Lk3} (ok : ∀ ws ∈ fldW bs ls, RwOk ws) (sz : (fldW bs ls).length ≤ 263) (hl : ls.length ≤ 5) : RwsB 244 0 64172 0 5 263 ((fldW bs ls).map rowT) := (by
  have key : ∀ R : List (List Str), (∀ ws ∈ R, RwOk ws) → szL (R.map rowT) ≤ R.length * 244 ∧ nlL (R.map rowT) = 0 := fun R => by
    induction R with
    | nil => intro _; exact ⟨Nat.le_refl _, rfl⟩
    | cons ws R ih =>
      intro h
      obtain ⟨i1, i2⟩ := ih fun x hx => h x (List.mem_cons_of_mem _ hx)
      have w := h ws List.mem_cons_self
      have a1 := szL_app [rowT ws] (R.map rowT)
      have a2 := nlL_app [rowT ws] (R.map rowT)
      rw [List.singleton_append, szL_one] at a1
      rw [List.singleton_append, nlL_one, nlF_0 (rowt_free w)] at a2
      have := w.len.1
      rw [List.map_cons, a1, a2, List.length_cons]
      omega
  obtain ⟨k1, k2⟩ := key _ ok
  refine ⟨by rw [List.length_map]; exact sz, fun r hr => ?_, by omega, by omega, by rw [othT_rows ok]; exact Nat.le_trans (oth_fld bs ls) hl⟩
  obtain ⟨ws, hws, rfl⟩ := List.mem_map.mp hr
  have w := ok ws hws
  refine ⟨strOk_iff.mpr fun c hc => ?_, w.len.1, by rw [nlF_0 (rowt_free w)]; exact Nat.le_refl _⟩
  have := w.sign hc
  omega
  )
def bM : Nat → Nat
  | 0 => 244
  | n + 1 => 2 * bM n + 120
def bK : Nat → Nat
  | 0 => 0
  | n + 1 => 2 * bK n + 1
def bZ : Nat → Nat
  | 0 => 64172
  | n + 1 => bZ n + (2 * bM n + 120)
def bL : Nat → Nat
  | 0 => 0
  | n + 1 => bL n + (2 * bK n + 1)
def bC : Nat → Nat
  | 0 => 5
  | n + 1 => bC n + (2 * bK n + 2)
theorem b_le {i : Nat} (h : i ≤ 3) : bM i ≤ 5000 ∧ bZ i ≤ 80000 ∧ bL i ≤ 100 ∧ bC i ≤ 30 := (by
  have key : ∀ i ∈ List.range 4, bM i ≤ 5000 ∧ bZ i ≤ 80000 ∧ bL i ≤ 100 ∧ bC i ≤ 30 := by decide
  exact key i (List.mem_range.mpr (by omega))
  )
local macro_rules | `(tactic| walk_at "wpt") => `(tactic| simp (maxSteps := 1000000) only [↓TE_is_name, ↓TE_is_number, ↓TE_need, ↓TE_law_draw, ↓TE_law_feed, ↓TE_law_next, ↓TE_law_great, ↓TE_law_long, ↓TE_law_name, ↓TE_law_names, ↓TE_law_blocks, ↓TE_law_bores, ↓TE_law_likes, ↓TE_law_marks, ↓TE_law_field, ↓TE_law_is_name, ↓TE_law_is_number, true_and, ↓reduceIte, uLenSetA, oLstL, zPlPut, zPlAppY, zPlAppX, xTupL, aoLast, aoCons, uLenPl, oTl0, ↓asOTx_d, ↓asOTx_o, yD, yX, yNil, yCons, yTup, zSeqY, zIfY, zRaiseY, zExY, zSetXY, zRetXY, yCallA, yCall, ↓retE_k, uIsY, zTryL, ↓atY_cons, ↓ret_wd, ↓ret_wo, ↓ret_wt, kC, ↓asTr_t, ↓asDat_d, ↓asDs_l, ↓asDs_n, ↓asLs_l, ↓asOT_l, ↓asOT_t, ↓asOT_ll, pVar, pIx, uPl, uPlV, zPlApp, uDkGet, zDkPut, ↓asOw_o, ↓mvS_d, ↓mvS_f, ↓mvS_o, zRetX, ↓ret_xd, ↓ret_xf, ↓ret_xo, ↓retA_xd, ↓retA_xf, ↓retA_xo, ↓ret_vd, ↓ret_vo, OT.areD, OT.isD, OT.toDs, OT.toD, OT.upd, OT.wch, OT.ch, isNo, ↓retA_kO, ↓retA_kD, ↓retA_kDo, ↓retA_kS, ↓asBs_m, ↓asSs_m, fAll, fStr, ↓fIntS_i, ↓fIntS_b, ↓fIntS_s, oLcN, fSortST, zSeqX, zIfX, zRaise, ↓bare_d, ↓bare_o, ↓bare_l, ↓bare_no, ↓bare_f, ↓bare_tr, ↓bare_g, ↓bare_P, ↓bare_dic, oDic0, zSetK, uDin, ↓asDic_d, zDput, fMin2S, fMax2S, uLenSet, fInTS, oSplit, S.f.injEq, eq_self, ↓fAddA_i, ↓fAddA_s, ↓fAddA_t, xLcY, zForE, prNil, prCons, oDkL, uDkIn, fMulS, uChain, oRep, fJoin, uV2, fSortS, ↓slW_d, ↓slW_o, ↓slW_P, ↓slW_s, ↓hasS_d, ↓hasS_o, ↓hasS_f, ↓hasS_s, uV, uN, u1, o1, o2, oN, ↓fIn_l, ↓fIn_s, fCat, ↓fList_l, ↓fList_t, ↓fTup_l, ↓fTup_t, ↓lstR_l, ↓lstR_P, zM1, fApp, zIns, ↓slF_d, ↓slF_o, ↓slF_s, uVf, pNo, pSo, ↓fSl_s, ↓fSl_t, uSl, oSlN, ↓scal_n, ↓scal_b, ↓scal_i, ↓scal_s, ↓kS_d, ↓ret_S, rNil, rD, rS, uCallA, ↓toS_d, ↓toS_f, ↓toS_s, ↓slS_0, ↓slS_s, ↓retA_d, ↓retA_o, ↓retA_O, ↓backL_n, ↓backL_s, ↓backL_d, ↓backL_f, ↓lok_n, ↓lok_s, ↓lok_d, ↓lok_f, ↓lent_n, ↓lent_s, ↓lent_d, ↓lent_f, bYes, oLc, ↓clr_n, ↓clr_c, ↓clr2_n, ↓clr2_c, ↓rest_n, ↓rest_c, ↓keep1_d, ↓keep1_o, ↓keep1_f, ↓keep1_no, ↓keep1_s, ↓asLL_l, oLL0, zLLn, zLLa, uLLlen, List.mem_cons, List.not_mem_nil, Nat.reduceEqDiff, eqv_list, eqv_tuple, eqv_none, ↓asI_i, ↓asB_b, ↓asS_s, ↓asL_l, ↓asT_t, ↓slD_0, ↓slD_s, ↓slO_0, ↓slO_s, ↓asR_l, ↓fAdd_i, ↓fAdd_s, ↓ixbo_0, ↓ixbo_1, ↓ixbo_2, ↓ixbo_3, ↓ixD_l, ↓ixD_t, ↓ixD_s, ↓arg2_2, ↓fLen1_l, ↓fLen1_t, ↓fLen1_s, ↓asC_c, ↓asQ_l, ↓asQ_t, ↓asQ_s, ↓kD_d, ↓kD_o, ↓kO_o, ↓fz_l, ↓fz_P, ↓fz_ll, ↓ret_d, ↓ret_o, ↓ret_O, ↓retL_d, ↓retL_o, ↓retL_O, ↓atD_0, ↓atD_1, ↓atD_2, ↓atD_3, ↓atD_b1, ↓atD_b2, ↓atD_b3, ↓ixP_30, ↓ixP_31, ↓ixP_32, ↓if_true, ↓if_false, zNext, zSeq, zSet, zSetO, zRet, zRetO, zRetP, zIf, zAsg, zPut, gN, gsNil, gsCons, gT, uVar, uC, uFz, u2, fI, fI0, fEq, uCB, wB, wNot, wAnd, wOr, uAnd, uOr, aNil, aCons, uTup, oLst, fIx, oVar, iSeq, iR1, uCall, oCall, uLend, oLend, shaped_iff, sh_non, sh_int, sh_bool, sh_str, eqv_int, eqv_str, eqv_bool, ixN_30, ixN_31, ixN_32, ixN_20, ixN_21, atI_0, atI_1, atI_2, atI_3, atI_b1, atI_b2, atI_b3, List.length_map, Int.reduceEq, forall_const, implies_true, and_assoc, sz_0, sz_1, sz_2, sz_3, sz_4, sz_5, sz_6, sz_7, sz_8, Bool.not_eq_true', beq_eq_false_iff_ne, beq_iff_eq, ne_eq, Bool.and_eq_true, Bool.or_eq_true, decide_eq_false_iff_not, not_false_eq_true, not_true_eq_false, Bool.not_true, Bool.not_false, isS_n, isS_b, isS_i, isS_s, isS_l, isS_t, isT_n, isT_b, isT_i, isT_s, isT_l, isT_t, isN_n, isN_b, isN_i, isN_s, isN_l, isN_t, ca_0, ca_1, ca_2, ca_3, ca_4, ca_5, ca_6, Int.reduceToNat, Int.toNat_natCast, Int.reducePow, Int.reduceMul, Int.reduceLT, Int.reduceLE, Int.reduceNeg, zFor, List.replicate, List.length_cons, List.length_nil, List.nil_append, List.cons_append, List.append_nil, List.map_cons, List.map_nil, List.set_cons_zero, List.set_cons_succ, List.getElem?_cons_zero, List.getElem?_cons_succ, Option.some.injEq, S.d.injEq, S.o.injEq, Res.lst.injEq, Res.lstP.injEq, PyData.int.injEq, PyData.str.injEq, PyData.bool.injEq, PyData.list.injEq, PyData.tuple.injEq, List.cons.injEq, reduceCtorEq, exists_eq_left', exists_eq_left, exists_eq_right, exists_eq_right', true_and, and_true, false_and, and_false, exists_false, false_or, or_false, exists_and_left, exists_and_right, exists_eq', exists_eq, exists_const, Bool.false_eq_true, ite_true, ite_false, decide_eq_true_eq, Nat.sub_self, Nat.zero_add, Nat.add_sub_cancel, Nat.reduceSub, Nat.reduceAdd])
local macro_rules | `(tactic| walk_at "st") => `(tactic| simp (maxSteps := 1000000) only [↓TE_is_name, ↓TE_is_number, ↓TE_need, ↓TE_law_draw, ↓TE_law_feed, ↓TE_law_next, ↓TE_law_great, ↓TE_law_long, ↓TE_law_name, ↓TE_law_names, ↓TE_law_blocks, ↓TE_law_bores, ↓TE_law_likes, ↓TE_law_marks, ↓TE_law_field, ↓TE_law_is_name, ↓TE_law_is_number, true_and, ↓reduceIte, uLenSetA, oLstL, zPlPut, zPlAppY, zPlAppX, xTupL, aoLast, aoCons, uLenPl, oTl0, ↓asOTx_d, ↓asOTx_o, yD, yX, yNil, yCons, yTup, zSeqY, zIfY, zRaiseY, zExY, zSetXY, zRetXY, yCallA, yCall, ↓retE_k, uIsY, zTryL, ↓atY_cons, ↓ret_wd, ↓ret_wo, ↓ret_wt, kC, ↓asTr_t, ↓asDat_d, ↓asDs_l, ↓asDs_n, ↓asLs_l, ↓asOT_l, ↓asOT_t, ↓asOT_ll, pVar, pIx, uPl, uPlV, zPlApp, uDkGet, zDkPut, ↓asOw_o, ↓mvS_d, ↓mvS_f, ↓mvS_o, zRetX, ↓ret_xd, ↓ret_xf, ↓ret_xo, ↓retA_xd, ↓retA_xf, ↓retA_xo, ↓ret_vd, ↓ret_vo, OT.areD, OT.isD, OT.toDs, OT.toD, OT.upd, OT.wch, OT.ch, isNo, ↓retA_kO, ↓retA_kD, ↓retA_kDo, ↓retA_kS, ↓asBs_m, ↓asSs_m, fAll, fStr, ↓fIntS_i, ↓fIntS_b, ↓fIntS_s, oLcN, fSortST, zSeqX, zIfX, zRaise, ↓bare_d, ↓bare_o, ↓bare_l, ↓bare_no, ↓bare_f, ↓bare_tr, ↓bare_g, ↓bare_P, ↓bare_dic, oDic0, zSetK, uDin, ↓asDic_d, zDput, fMin2S, fMax2S, uLenSet, fInTS, oSplit, S.f.injEq, eq_self, ↓fAddA_i, ↓fAddA_s, ↓fAddA_t, xLcY, zForE, prNil, prCons, oDkL, uDkIn, fMulS, uChain, oRep, fJoin, uV2, fSortS, ↓slW_d, ↓slW_o, ↓slW_P, ↓slW_s, ↓hasS_d, ↓hasS_o, ↓hasS_f, ↓hasS_s, uV, uN, u1, o1, o2, oN, ↓fIn_l, ↓fIn_s, fCat, ↓fList_l, ↓fList_t, ↓fTup_l, ↓fTup_t, ↓lstR_l, ↓lstR_P, zM1, fApp, zIns, ↓slF_d, ↓slF_o, ↓slF_s, uVf, pNo, pSo, ↓fSl_s, ↓fSl_t, uSl, oSlN, ↓scal_n, ↓scal_b, ↓scal_i, ↓scal_s, ↓kS_d, ↓ret_S, rNil, rD, rS, uCallA, ↓toS_d, ↓toS_f, ↓toS_s, ↓slS_0, ↓slS_s, ↓retA_d, ↓retA_o, ↓retA_O, ↓backL_n, ↓backL_s, ↓backL_d, ↓backL_f, ↓lok_n, ↓lok_s, ↓lok_d, ↓lok_f, ↓lent_n, ↓lent_s, ↓lent_d, ↓lent_f, bYes, oLc, ↓clr_n, ↓clr_c, ↓clr2_n, ↓clr2_c, ↓rest_n, ↓rest_c, ↓keep1_d, ↓keep1_o, ↓keep1_f, ↓keep1_no, ↓keep1_s, ↓asLL_l, oLL0, zLLn, zLLa, uLLlen, List.mem_cons, List.not_mem_nil, Nat.reduceEqDiff, eqv_list, eqv_tuple, eqv_none, ↓asI_i, ↓asB_b, ↓asS_s, ↓asL_l, ↓asT_t, ↓slD_0, ↓slD_s, ↓slO_0, ↓slO_s, ↓asR_l, ↓fAdd_i, ↓fAdd_s, ↓ixbo_0, ↓ixbo_1, ↓ixbo_2, ↓ixbo_3, ↓ixD_l, ↓ixD_t, ↓ixD_s, ↓arg2_2, ↓fLen1_l, ↓fLen1_t, ↓fLen1_s, ↓asC_c, ↓asQ_l, ↓asQ_t, ↓asQ_s, ↓kD_d, ↓kD_o, ↓kO_o, ↓fz_l, ↓fz_P, ↓fz_ll, ↓ret_d, ↓ret_o, ↓ret_O, ↓retL_d, ↓retL_o, ↓retL_O, ↓atD_0, ↓atD_1, ↓atD_2, ↓atD_3, ↓atD_b1, ↓atD_b2, ↓atD_b3, ↓ixP_30, ↓ixP_31, ↓ixP_32, ↓if_true, ↓if_false, zNext, zSet, zSetO, zRet, zRetO, zRetP, zIf, zAsg, zPut, gN, gsNil, gsCons, gT, uVar, uC, uFz, u2, fI, fI0, fEq, uCB, wB, wNot, wAnd, wOr, uAnd, uOr, aNil, aCons, uTup, oLst, fIx, oVar, iSeq, iR1, uCall, oCall, uLend, oLend, shaped_iff, sh_non, sh_int, sh_bool, sh_str, eqv_int, eqv_str, eqv_bool, ixN_30, ixN_31, ixN_32, ixN_20, ixN_21, atI_0, atI_1, atI_2, atI_3, atI_b1, atI_b2, atI_b3, List.length_map, Int.reduceEq, forall_const, implies_true, and_assoc, sz_0, sz_1, sz_2, sz_3, sz_4, sz_5, sz_6, sz_7, sz_8, Bool.not_eq_true', beq_eq_false_iff_ne, beq_iff_eq, ne_eq, Bool.and_eq_true, Bool.or_eq_true, decide_eq_false_iff_not, not_false_eq_true, not_true_eq_false, Bool.not_true, Bool.not_false, isS_n, isS_b, isS_i, isS_s, isS_l, isS_t, isT_n, isT_b, isT_i, isT_s, isT_l, isT_t, isN_n, isN_b, isN_i, isN_s, isN_l, isN_t, ca_0, ca_1, ca_2, ca_3, ca_4, ca_5, ca_6, Int.reduceToNat, Int.toNat_natCast, Int.reducePow, Int.reduceMul, Int.reduceLT, Int.reduceLE, Int.reduceNeg, zFor, List.replicate, List.length_cons, List.length_nil, List.nil_append, List.cons_append, List.append_nil, List.map_cons, List.map_nil, List.set_cons_zero, List.set_cons_succ, List.getElem?_cons_zero, List.getElem?_cons_succ, Option.some.injEq, S.d.injEq, S.o.injEq, Res.lst.injEq, Res.lstP.injEq, PyData.int.injEq, PyData.str.injEq, PyData.bool.injEq, PyData.list.injEq, PyData.tuple.injEq, List.cons.injEq, reduceCtorEq, exists_eq_left', exists_eq_left, exists_eq_right, exists_eq_right', true_and, and_true, false_and, and_false, exists_false, false_or, or_false, exists_and_left, exists_and_right, exists_eq', exists_eq, exists_const, Bool.false_eq_true, ite_true, ite_false, decide_eq_true_eq, Nat.sub_self, Nat.zero_add, Nat.add_sub_cancel, Nat.reduceSub, Nat.reduceAdd])
local macro_rules | `(tactic| walk_at "wpx") => do
  let h := Lean.mkIdent `hX
  `(tactic| simp (maxSteps := 1000000) only [↓$h:ident, ↓TE_is_name, ↓TE_is_number, ↓TE_need, ↓TE_law_draw, ↓TE_law_feed, ↓TE_law_next, ↓TE_law_great, ↓TE_law_long, ↓TE_law_name, ↓TE_law_names, ↓TE_law_blocks, ↓TE_law_bores, ↓TE_law_likes, ↓TE_law_marks, ↓TE_law_field, ↓TE_law_is_name, ↓TE_law_is_number, true_and, ↓reduceIte, uLenSetA, oLstL, zPlPut, zPlAppY, zPlAppX, xTupL, aoLast, aoCons, uLenPl, oTl0, ↓asOTx_d, ↓asOTx_o, yD, yX, yNil, yCons, yTup, zSeqY, zIfY, zRaiseY, zExY, zSetXY, zRetXY, yCallA, yCall, ↓retE_k, uIsY, zTryL, ↓atY_cons, ↓ret_wd, ↓ret_wo, ↓ret_wt, kC, ↓asTr_t, ↓asDat_d, ↓asDs_l, ↓asDs_n, ↓asLs_l, ↓asOT_l, ↓asOT_t, ↓asOT_ll, pVar, pIx, uPl, uPlV, zPlApp, uDkGet, zDkPut, ↓asOw_o, ↓mvS_d, ↓mvS_f, ↓mvS_o, zRetX, ↓ret_xd, ↓ret_xf, ↓ret_xo, ↓retA_xd, ↓retA_xf, ↓retA_xo, ↓ret_vd, ↓ret_vo, OT.areD, OT.isD, OT.toDs, OT.toD, OT.upd, OT.wch, OT.ch, isNo, ↓retA_kO, ↓retA_kD, ↓retA_kDo, ↓retA_kS, ↓asBs_m, ↓asSs_m, fAll, fStr, ↓fIntS_i, ↓fIntS_b, ↓fIntS_s, oLcN, fSortST, zSeqX, zIfX, zRaise, ↓bare_d, ↓bare_o, ↓bare_l, ↓bare_no, ↓bare_f, ↓bare_tr, ↓bare_g, ↓bare_P, ↓bare_dic, oDic0, zSetK, uDin, ↓asDic_d, zDput, fMin2S, fMax2S, uLenSet, fInTS, oSplit, S.f.injEq, eq_self, ↓fAddA_i, ↓fAddA_s, ↓fAddA_t, xLcY, zForE, prNil, prCons, oDkL, uDkIn, fMulS, uChain, oRep, fJoin, uV2, fSortS, ↓slW_d, ↓slW_o, ↓slW_P, ↓slW_s, ↓hasS_d, ↓hasS_o, ↓hasS_f, ↓hasS_s, uV, uN, u1, o1, o2, oN, ↓fIn_l, ↓fIn_s, fCat, ↓fList_l, ↓fList_t, ↓fTup_l, ↓fTup_t, ↓lstR_l, ↓lstR_P, zM1, fApp, zIns, ↓slF_d, ↓slF_o, ↓slF_s, uVf, pNo, pSo, ↓fSl_s, ↓fSl_t, uSl, oSlN, ↓scal_n, ↓scal_b, ↓scal_i, ↓scal_s, ↓kS_d, ↓ret_S, rNil, rD, rS, uCallA, ↓toS_d, ↓toS_f, ↓toS_s, ↓slS_0, ↓slS_s, ↓retA_d, ↓retA_o, ↓retA_O, ↓backL_n, ↓backL_s, ↓backL_d, ↓backL_f, ↓lok_n, ↓lok_s, ↓lok_d, ↓lok_f, ↓lent_n, ↓lent_s, ↓lent_d, ↓lent_f, bYes, oLc, ↓clr_n, ↓clr_c, ↓clr2_n, ↓clr2_c, ↓rest_n, ↓rest_c, ↓keep1_d, ↓keep1_o, ↓keep1_f, ↓keep1_no, ↓keep1_s, ↓asLL_l, oLL0, zLLn, zLLa, uLLlen, List.mem_cons, List.not_mem_nil, Nat.reduceEqDiff, eqv_list, eqv_tuple, eqv_none, ↓asI_i, ↓asB_b, ↓asS_s, ↓asL_l, ↓asT_t, ↓slD_0, ↓slD_s, ↓slO_0, ↓slO_s, ↓asR_l, ↓fAdd_i, ↓fAdd_s, ↓ixbo_0, ↓ixbo_1, ↓ixbo_2, ↓ixbo_3, ↓ixD_l, ↓ixD_t, ↓ixD_s, ↓arg2_2, ↓fLen1_l, ↓fLen1_t, ↓fLen1_s, ↓asC_c, ↓asQ_l, ↓asQ_t, ↓asQ_s, ↓kD_d, ↓kD_o, ↓kO_o, ↓fz_l, ↓fz_P, ↓fz_ll, ↓ret_d, ↓ret_o, ↓ret_O, ↓retL_d, ↓retL_o, ↓retL_O, ↓atD_0, ↓atD_1, ↓atD_2, ↓atD_3, ↓atD_b1, ↓atD_b2, ↓atD_b3, ↓ixP_30, ↓ixP_31, ↓ixP_32, ↓if_true, ↓if_false, zNext, zSeq, zSet, zSetO, zRet, zRetO, zRetP, zIf, zAsg, zPut, gN, gsNil, gsCons, gT, uVar, uC, uFz, u2, fI, fI0, fEq, uCB, wB, wNot, wAnd, wOr, uAnd, uOr, aNil, aCons, uTup, oLst, fIx, oVar, iSeq, iR1, uCall, oCall, uLend, oLend, shaped_iff, sh_non, sh_int, sh_bool, sh_str, eqv_int, eqv_str, eqv_bool, ixN_30, ixN_31, ixN_32, ixN_20, ixN_21, atI_0, atI_1, atI_2, atI_3, atI_b1, atI_b2, atI_b3, List.length_map, Int.reduceEq, forall_const, implies_true, and_assoc, sz_0, sz_1, sz_2, sz_3, sz_4, sz_5, sz_6, sz_7, sz_8, Bool.not_eq_true', beq_eq_false_iff_ne, beq_iff_eq, ne_eq, Bool.and_eq_true, Bool.or_eq_true, decide_eq_false_iff_not, not_false_eq_true, not_true_eq_false, Bool.not_true, Bool.not_false, isS_n, isS_b, isS_i, isS_s, isS_l, isS_t, isT_n, isT_b, isT_i, isT_s, isT_l, isT_t, isN_n, isN_b, isN_i, isN_s, isN_l, isN_t, ca_0, ca_1, ca_2, ca_3, ca_4, ca_5, ca_6, Int.reduceToNat, Int.toNat_natCast, Int.reducePow, Int.reduceMul, Int.reduceLT, Int.reduceLE, Int.reduceNeg, zFor, List.replicate, List.length_cons, List.length_nil, List.nil_append, List.cons_append, List.append_nil, List.map_cons, List.map_nil, List.set_cons_zero, List.set_cons_succ, List.getElem?_cons_zero, List.getElem?_cons_succ, Option.some.injEq, S.d.injEq, S.o.injEq, Res.lst.injEq, Res.lstP.injEq, PyData.int.injEq, PyData.str.injEq, PyData.bool.injEq, PyData.list.injEq, PyData.tuple.injEq, List.cons.injEq, reduceCtorEq, exists_eq_left', exists_eq_left, exists_eq_right, exists_eq_right', true_and, and_true, false_and, and_false, exists_false, false_or, or_false, exists_and_left, exists_and_right, exists_eq', exists_eq, exists_const, Bool.false_eq_true, ite_true, ite_false, decide_eq_true_eq, Nat.sub_self, Nat.zero_add, Nat.add_sub_cancel, Nat.reduceSub, Nat.reduceAdd])
theorem sc_is_name : FnScope ["word", "sign"] ["word"] (defScope (topS 10)) := ⟨rfl, rfl, rfl, by decide +kernel, rfl, by decide +kernel, by decide +kernel⟩
theorem c_is_name {P : Program} {w : World} {K : PySem.W.Frag} {mg : Str → Option Value} {base : Heap} (hb : Bi K mg) (D : Df K mg "is_name" (topS 10) ["word"])  : Cal P w K mg base "is_name" 1 ["word"] T_is_name := (by
  obtain ⟨f, fd, F, hm, hB⟩ := D
  refine ⟨f, fd, fn_d (k := 0) F sc_is_name ?hT (fun cdv A outer s H E hr => (q_one (s_ret (d_and (d_chain op_le op_le op_b0 op_b0 d_int (d_lenV hb.len (vv 0)) d_int) (d_one (d_all rfl hb.all (DE.dv (d_fz (o_lc [("sign", 1)] rfl sc_is_name.nd (i_seq (dv 0)) (by show blkC ["word", "sign"] (defScope (topS 10)) _ _ = true; decide +kernel) (fun _ _ _ _ _ => (g_name 1 sc_is_name.nd)) (fun _ _ _ _ _ => b_yes) (fun _ _ _ _ _ => (d_cmpN 1 (op_inA (hu65 hr)) opv_in (DE.dv (d_globS hb.LETTERS)) (by rfl))) (by decide)))))))))), hm, F.kp, hB⟩
  case hT =>
    intro a Q h
    obtain ⟨w, rfl, hl, q⟩ := h
    refine ⟨rfl, ?_⟩
    have hsz := sizeLine_eq
    (try walk_at "wpt")
    refine ⟨by omega, ?_⟩
    unfold isNm at q
    by_cases h1 : 1 ≤ (w.length : Int)
    · rw [if_pos h1]
      rw [decide_eq_true h1, Bool.true_and] at q
      by_cases h8 : (w.length : Int) ≤ 8
      · rw [if_pos h8]
        rw [decide_eq_true h8, Bool.true_and] at q
        refine comp_mm (g := fun (n : Nat) => .str ⟨#[n]⟩) (xs := w.cps.toList) (fun n => .bool (isLetN n)) (by show w.cps.toList.length ≤ _; rw [Array.length_toList]; have : w.cps.size = w.length := rfl; omega) (fun n hn N hN => ?_) ?_
        · (try walk_at "wpt")
          exact hN _ rfl
        (try walk_at "wpt")
        rw [asBs_f, List.all_map]
        exact q _
      · rw [if_neg h8]
        rw [decide_eq_false h8] at q
        exact q _
    · rw [if_neg h1]
      rw [decide_eq_false h1] at q
      exact q _
  )
theorem sc_is_number : FnScope ["word", "sign"] ["word"] (defScope (topS 11)) := ⟨rfl, rfl, rfl, by decide +kernel, rfl, by decide +kernel, by decide +kernel⟩
theorem c_is_number {P : Program} {w : World} {K : PySem.W.Frag} {mg : Str → Option Value} {base : Heap} (hb : Bi K mg) (D : Df K mg "is_number" (topS 11) ["word"])  : Cal P w K mg base "is_number" 1 ["word"] T_is_number := (by
  obtain ⟨f, fd, F, hm, hB⟩ := D
  refine ⟨f, fd, fn_d (k := 0) F sc_is_number ?hT (fun cdv A outer s H E hr => (q_cons (s_if (DW.dt (w_or (t_not (t_chain op_le op_le op_b0 op_b0 d_int (d_lenV hb.len (vv 0)) d_int)) (w_or1 (t_not (tv (d_all rfl hb.all (DE.dv (d_fz (o_lc [("sign", 1)] rfl sc_is_number.nd (i_seq (dv 0)) (by show blkC ["word", "sign"] (defScope (topS 11)) _ _ = true; decide +kernel) (fun _ _ _ _ _ => (g_name 1 sc_is_number.nd)) (fun _ _ _ _ _ => b_yes) (fun _ _ _ _ _ => (d_cmpN 1 (op_inA (hu65 hr)) opv_in (DE.dv (d_globS hb.FIGURES)) (by rfl))) (by decide))))))))))
 (q_one (s_ret d_bl)) q_nil)
 (q_one (s_ret (d_or (d_eq hr.units (dv 0) d_str) (d_one (d_ne hr.units (d_ixN 0 (fun _ _ => rfl) d_int) d_str))))))), hm, F.kp, hB⟩
  case hT =>
    intro a Q h
    obtain ⟨w, rfl, hw, hl, q⟩ := h
    refine ⟨rfl, ?_⟩
    have hsz := sizeLine_eq
    (try walk_at "wpt")
    refine ⟨by omega, ?_⟩
    unfold isNum at q
    by_cases h1 : 1 ≤ (w.length : Int)
    · rw [if_pos h1]
      by_cases h2 : (w.length : Int) ≤ 60
      · rw [if_neg (fun z => z h2)]
        refine comp_mm (g := fun (n : Nat) => .str ⟨#[n]⟩) (xs := w.cps.toList) (fun n => .bool (inSt (Str.ofString "0123456789") n)) (by show w.cps.toList.length ≤ _; rw [Array.length_toList]; have : w.cps.size = w.length := rfl; omega) (fun n hn N hN => ?_) ?_
        · (try walk_at "wpt")
          exact hN _ rfl
        (try walk_at "wpt")
        rw [asBs_f, List.all_map]
        have eA : ofN w (Str.ofString "0123456789") 60 = w.cps.toList.all (id ∘ inSt (Str.ofString "0123456789")) := by unfold ofN; rw [decide_eq_true h1, decide_eq_true h2]; rfl
        rw [eA] at q
        split
        · rename_i hA
          rw [hA] at q
          exact q _
        · rename_i hA
          rw [show w.cps.toList.all (id ∘ inSt (Str.ofString "0123456789")) = true by simpa using hA, Bool.true_and] at q
          refine ⟨hw, by decide +kernel, ?_⟩
          unfold no0 at q
          by_cases h0 : w = Str.ofString "0"
          · rw [if_pos h0]
            rw [show (w == Str.ofString "0") = true by rw [h0]; rfl, Bool.true_or] at q
            exact q _
          · rw [if_neg h0]
            rw [beq_eq_false_iff_ne.mpr h0, Bool.false_or] at q
            have hd := head_at (w := w) (by omega)
            have hm : w.cps.toList.headD 0 ∈ w.cps.toList := by
              cases e : w.cps.toList with
              | nil => have : w.cps.toList.length = w.length := Array.length_toList; rw [e] at this; simp at this; omega
              | cons a l => simp
            exact ⟨by omega, _, hd, strOk_at hw hm, by decide +kernel, q _⟩
      · rw [if_pos h2]
        rw [show ofN w (Str.ofString "0123456789") 60 = false by unfold ofN; rw [decide_eq_false h2]; simp] at q
        exact q _
    · rw [if_neg h1]
      rw [show ofN w (Str.ofString "0123456789") 60 = false by unfold ofN; rw [decide_eq_false h1]; rfl] at q
      exact q _
  )
theorem sc_words_of : FnScope ["row", "words"] ["row"] (defScope (topS 12)) := ⟨rfl, rfl, rfl, by decide +kernel, rfl, by decide +kernel, by decide +kernel⟩
theorem c_words_of {P : Program} {w : World} {K : PySem.W.Frag} {mg : Str → Option Value} {base : Heap} (hb : Bi K mg) (D : Df K mg "words_of" (topS 12) ["row"])  : CalX P w K mg base "words_of" 1 ["row"] T_words_of := (by
  obtain ⟨f, fd, F, hm, hB⟩ := D
  refine ⟨f, fd, fn_dX (k := 0) F sc_words_of ?hT (fun cdv A outer s H E hr tk => (qx_cons (x_of (s_setO (j := 1) sc_words_of.nd (o_split (dv 0) d_str)))
 (qx_cons (s_ifX (t_cmpL (op_inA (hu65 hr)) opv_in d_str (vv 1) (by rfl))
 (qx_one (s_raise rfl tk hb.exf_NoText)) (xs_of q_nil))
 (xs_of (q_one (s_retO (o_var 1))))))), hm, F.kp, hB⟩
  case hT =>
    intro a Q E1 h
    obtain ⟨w, rfl, hw, hl, hp, q⟩ := h
    refine ⟨rfl, ?_⟩
    have hsz := sizeLine_eq
    (try walk_at "wpt")
    refine ⟨by decide +kernel, by omega, by decide +kernel, sh_strs hp, ?_⟩
    rw [any_str]
    by_cases hm : Str.ofString "" ∈ Txt.split w (Str.ofString " ")
    · rw [if_pos hm] at q
      rw [if_pos (decide_eq_true hm)]
      exact q
    · rw [if_neg hm] at q
      rw [if_neg (by rw [decide_eq_true_eq]; exact hm)]
      exact q _
  )
theorem sc_words_of__y : FnScope ["row", "words"] ["row"] (defScope (topS 12)) := ⟨rfl, rfl, rfl, by decide +kernel, rfl, by decide +kernel, by decide +kernel⟩
theorem c_words_of__y {P : Program} {w : World} {K : PySem.W.Frag} {mg : Str → Option Value} {base : Heap} (hb : Bi K mg) (D : Df K mg "words_of" (topS 12) ["row"])  : CalY P w K mg base "words_of" 1 ["row"] T_words_of__y := (by
  obtain ⟨f, fd, F, hm, hB⟩ := D
  refine ⟨f, fd, fn_dY (k := 0) F sc_words_of__y ?hT (fun cdv A outer s H E hr tk => (qy_cons (y_of (s_setO (j := 1) sc_words_of__y.nd (o_split (dv 0) d_str)))
 (qy_cons (s_ifY (t_cmpL (op_inA (hu65 hr)) opv_in d_str (vv 1) (by rfl))
 (qy_one (s_raiseY rfl tk hb.exf_NoText)) (ys_of q_nil))
 (ys_of (q_one (s_retO (o_var 1))))))), hm, F.kp, hB⟩
  case hT =>
    intro a Q E1 h
    obtain ⟨w, rfl, hw, hl, hp, q⟩ := h
    refine ⟨rfl, ?_⟩
    have hsz := sizeLine_eq
    (try walk_at "wpt")
    refine ⟨by decide +kernel, by omega, by decide +kernel, sh_strs hp, ?_⟩
    rw [any_str]
    by_cases hm : Str.ofString "" ∈ Txt.split w (Str.ofString " ")
    · rw [if_pos hm] at q
      rw [if_pos (decide_eq_true hm)]
      exact q _ (pat_consN pat_nil)
    · rw [if_neg hm] at q
      rw [if_neg (by rw [decide_eq_true_eq]; exact hm)]
      exact q _ (pat_consN pat_nil)
  )
theorem sc_rows_of : FnScope ["text"] ["text"] (defScope (topS 13)) := ⟨rfl, rfl, rfl, by decide +kernel, rfl, by decide +kernel, by decide +kernel⟩
theorem c_rows_of {P : Program} {w : World} {K : PySem.W.Frag} {mg : Str → Option Value} {base : Heap} (hb : Bi K mg) (D : Df K mg "rows_of" (topS 13) ["text"])  : Cal P w K mg base "rows_of" 1 ["text"] T_rows_of := (by
  obtain ⟨f, fd, F, hm, hB⟩ := D
  refine ⟨f, fd, fn_d (k := 0) F sc_rows_of ?hT (fun cdv A outer s H E hr => (q_cons (s_if (t_eq hr.units (dv 0) d_str)
 (q_one (s_retO (o_lst a_nil))) q_nil)
 (q_one (s_retO (o_split (dv 0) d_str))))), hm, F.kp, hB⟩
  case hT =>
    intro a Q h
    obtain ⟨w, rfl, hw, hl, q⟩ := h
    refine ⟨rfl, ?_⟩
    have hsz := sizeLine_eq
    (try walk_at "wpt")
    refine ⟨hw, by decide +kernel, ?_⟩
    split
    · rename_i h
      rw [if_pos h] at q
      exact q _
    · rename_i h
      rw [if_neg h] at q
      exact ⟨by decide +kernel, by omega, q _⟩
  )
theorem sc_block_fits : FnScope ["block", "mark", "thick"] ["block"] (defScope (topS 15)) := ⟨rfl, rfl, rfl, by decide +kernel, rfl, by decide +kernel, by decide +kernel⟩
theorem c_block_fits {P : Program} {w : World} {K : PySem.W.Frag} {mg : Str → Option Value} {base : Heap} (hb : Bi K mg) (D : Df K mg "block_fits" (topS 15) ["block"]) (C_is_name : Cal P w K mg base "is_name" 1 ["word"] T_is_name) : Cal P w K mg base "block_fits" 2 ["block"] T_block_fits := (by
  obtain ⟨f, fd, F, hm, hB⟩ := D
  refine ⟨f, fd, fn_d (k := 1) F sc_block_fits ?hT (fun cdv A outer s H E hr => (q_one (s_ret (d_and (d_gt (d_lenV hb.len (vv 0)) d_int) (d_one (d_all rfl hb.all (DE.dv (d_fz (o_lc [("mark", 1), ("thick", 2)] rfl sc_block_fits.nd (i_seq (dv 0)) (by show blkC ["block", "mark", "thick"] (defScope (topS 15)) _ _ = true; decide +kernel) (fun _ _ _ _ _ => (g_tup (n := 2) rfl (gs_cons (g_name 1 sc_block_fits.nd) (gs_cons (g_name 2 sc_block_fits.nd) gs_nil)))) (fun _ _ _ _ _ => b_yes) (fun _ _ _ _ _ => (d_and (d_callC C_is_name (hr.mono (by decide)) (a_cons (dv 1) a_nil)) (d_one (d_ge (dv 2) d_int)))) (by decide)))))))))), hm, F.kp, hB⟩
  case hT =>
    intro a Q h
    obtain ⟨k, rfl, hk, q⟩ := h
    refine ⟨rfl, ?_⟩
    have hsz := sizeLine_eq
    obtain ⟨k1, k2⟩ := hk
    rw [show blD k = .tuple (k.map lyD) from rfl]
    (try walk_at "wpt")
    unfold blFit at q
    by_cases h1 : 0 < (k.length : Int)
    · rw [if_pos h1]
      rw [decide_eq_true h1, Bool.true_and] at q
      refine comp_mm (g := lyD) (fun l => .bool (lyFit l)) (by omega) (fun l hl N hN => ?_) ?_
      · rw [show lyD l = .tuple [.str l.1, .int l.2] from rfl]
        have := k2 l hl
        (try walk_at "wpt")
        refine ⟨by omega, ?_⟩
        unfold lyFit at hN
        cases e : isNm l.1 with
        | true =>
          rw [e, Bool.true_and] at hN
          (try walk_at "wpt")
          exact hN _ rfl
        | false =>
          rw [e] at hN
          (try walk_at "wpt")
          exact hN _ rfl
      (try walk_at "wpt")
      rw [asBs_f, List.all_map]
      exact q _
    · rw [if_neg h1]
      rw [decide_eq_false h1] at q
      exact q _
  )
theorem sc_bore_fits : FnScope ["bore", "name", "place", "top", "blocks", "block"] ["bore"] (defScope (topS 16)) := ⟨rfl, rfl, rfl, by decide +kernel, rfl, by decide +kernel, by decide +kernel⟩
theorem c_bore_fits {P : Program} {w : World} {K : PySem.W.Frag} {mg : Str → Option Value} {base : Heap} (hb : Bi K mg) (D : Df K mg "bore_fits" (topS 16) ["bore"]) (C_block_fits : Cal P w K mg base "block_fits" 2 ["block"] T_block_fits) (C_is_name : Cal P w K mg base "is_name" 1 ["word"] T_is_name) : Cal P w K mg base "bore_fits" 3 ["bore"] T_bore_fits := (by
  obtain ⟨f, fd, F, hm, hB⟩ := D
  refine ⟨f, fd, fn_d (k := 2) F sc_bore_fits ?hT (fun cdv A outer s H E hr => (q_cons (s_asg (dv 0) (g_tup (n := 4) rfl (gs_cons (g_name 1 sc_bore_fits.nd) (gs_cons (g_name 2 sc_bore_fits.nd) (gs_cons (g_name 3 sc_bore_fits.nd) (gs_cons (g_name 4 sc_bore_fits.nd) gs_nil))))))
 (q_cons (s_if (DW.dt (w_or (t_not (tv (d_callC C_is_name (hr.mono (by decide)) (a_cons (dv 1) a_nil)))) (w_or (t_lt (dv 2) d_int) (w_or (t_lt (dv 3) d_int) (w_or1 (t_eq hr.units (d_lenV hb.len (vv 4)) d_int))))))
 (q_one (s_ret d_bl)) q_nil)
 (q_one (s_ret (d_all rfl hb.all (DE.dv (d_fz (o_lc [("block", 5)] rfl sc_bore_fits.nd (i_seq (dv 4)) (by show blkC ["bore", "name", "place", "top", "blocks", "block"] (defScope (topS 16)) _ _ = true; decide +kernel) (fun _ _ _ _ _ => (g_name 5 sc_bore_fits.nd)) (fun _ _ _ _ _ => b_yes) (fun _ _ _ _ _ => (d_callC C_block_fits (hr.mono (by decide)) (a_cons (dv 5) a_nil))) (by decide)))))))))), hm, F.kp, hB⟩
  case hT =>
    intro a Q h
    obtain ⟨b, rfl, hb, q⟩ := h
    refine ⟨rfl, ?_⟩
    have hsz := sizeLine_eq
    obtain ⟨b1, b2, b3⟩ := hb
    unfold boD
    (try walk_at "wpt")
    refine ⟨by omega, ?_⟩
    unfold boFit at q
    by_cases h1 : isNm b.nm = false
    · rw [if_pos h1]
      rw [h1] at q
      exact q _
    rw [if_neg h1]
    rw [show isNm b.nm = true by simpa using h1, Bool.true_and] at q
    by_cases h2 : b.at_ < 0
    · rw [if_pos h2]
      rw [decide_eq_false (by omega)] at q
      exact q _
    rw [if_neg h2]
    rw [decide_eq_true (show 0 ≤ b.at_ by omega), Bool.true_and] at q
    by_cases h3 : b.top < 0
    · rw [if_pos h3]
      rw [decide_eq_false (show ¬ 0 ≤ b.top by omega)] at q
      exact q _
    rw [if_neg h3]
    rw [decide_eq_true (show 0 ≤ b.top by omega), Bool.true_and] at q
    by_cases h4 : (b.bl.length : Int) = 0
    · rw [if_pos h4]
      rw [decide_eq_false (show ¬ 0 < (b.bl.length : Int) by omega)] at q
      exact q _
    rw [if_neg h4]
    rw [decide_eq_true (show 0 < (b.bl.length : Int) by omega), Bool.true_and] at q
    refine comp_mm (g := blD) (fun k => .bool (blFit k)) (by omega) (fun k hk N hN => ?_) ?_
    · (try walk_at "wpt")
      refine ⟨k, rfl, b3 k hk, ?_⟩
      (try walk_at "wpt")
      exact hN _ rfl
    (try walk_at "wpt")
    rw [asBs_f, List.all_map]
    exact q _
  )
theorem sc_likes_fit : FnScope ["likes", "seen", "mark", "other", "points", "both"] ["likes"] (defScope (topS 17)) := ⟨rfl, rfl, rfl, by decide +kernel, rfl, by decide +kernel, by decide +kernel⟩
theorem c_likes_fit {P : Program} {w : World} {K : PySem.W.Frag} {mg : Str → Option Value} {base : Heap} (hb : Bi K mg) (D : Df K mg "likes_fit" (topS 17) ["likes"]) (C_is_name : Cal P w K mg base "is_name" 1 ["word"] T_is_name) : Cal P w K mg base "likes_fit" 2 ["likes"] T_likes_fit := (by
  obtain ⟨f, fd, F, hm, hB⟩ := D
  refine ⟨f, fd, fn_d (k := 1) F sc_likes_fit ?hT (fun cdv A outer s H E hr => (q_cons (s_setO (j := 1) sc_likes_fit.nd o_dic0)
 (q_cons (s_for PassesOwn.never rfl (i_seq (dv 0)) (g_tup (n := 3) rfl (gs_cons (g_name 2 sc_likes_fit.nd) (gs_cons (g_name 3 sc_likes_fit.nd) (gs_cons (g_name 4 sc_likes_fit.nd) gs_nil))))
 (q_cons (s_setK (i := 5) sc_likes_fit.nd (a_cons (d_min2S rfl hb.min (a_cons (dv 2) (a_cons (dv 3) a_nil))) (a_cons (d_max2S rfl hb.max (a_cons (dv 2) (a_cons (dv 3) a_nil))) a_nil)))
 (q_cons (s_if (DW.dt (w_or (t_din 5 1 (hu1 hr)) (w_or (t_not (tv (d_callC C_is_name (hr.mono (by decide)) (a_cons (dv 2) a_nil)))) (w_or (t_not (tv (d_callC C_is_name (hr.mono (by decide)) (a_cons (dv 3) a_nil)))) (w_or1 (t_not (t_chain op_le op_le op_b0 op_b0 d_int (dv 4) d_int)))))))
 (q_one (s_ret d_bl)) q_nil)
 (q_one (s_dput 5 1 (hu1 hr) d_bl)))))
 (q_one (s_ret d_bl))))), hm, F.kp, hB⟩
  case hT =>
    intro a Q h
    obtain ⟨ls, rfl, hl, hw, q⟩ := h
    refine ⟨rfl, ?_⟩
    have hsz := sizeLine_eq
    obtain ⟨rs, hrs⟩ : ∃ b, b = lkFrom [] ls := ⟨_, rfl⟩
    rw [← hrs] at q
    (refine seq_gen fun Nx hS => ?_; walk_at "st")
    (refine hS _ ?_; try clear hS; (repeat (refine seq_gen fun Nx hS => ?_; walk_at "st"; refine hS _ ?_; clear hS)))
    (refine seq_gen fun Nx hS => ?_; walk_at "st")
    refine loop_by (fun i c => ∃ (x2 x3 x4 x5 : S), c = [.d (.tuple (ls.map lkD)), .o none (.dic (lkDic (ls.take i))), x2, x3, x4, x5] ∧ lkFrom (ls.take i) (ls.drop i) = rs) ⟨_, _, _, _, rfl, hrs.symm⟩ ?_ ?_
    · rintro i y c N hy ⟨x2, x3, x4, x5, rfl, hp⟩ hN
      obtain ⟨l, hli, rfl⟩ := map_get hy
      have hi := get_lt hli
      obtain ⟨w1, w2⟩ := hw l (List.mem_of_getElem? hli)
      rw [drop_get hli, lkFrom_cons] at hp
      rw [show lkD l = .tuple [.str l.1, .str l.2.1, .int l.2.2] from rfl]
      have bad : lkOk (ls.take i) l = false → ret Q (.d (.bool false)) := fun e => by
        rw [e, Bool.false_and] at hp
        rw [hp]
        exact q
      have ats : ∀ d ∈ [PyData.str (minS l.1 l.2.1), .str (maxS l.1 l.2.1)], isAt d := fun d hd => by
        simp at hd
        rcases hd with rfl | rfl <;> trivial
      simp only [↓asT_t, ↓asC_c, gT, gsCons, gsNil, gN, List.length_cons, List.length_nil, List.set_cons_zero, List.set_cons_succ, Nat.zero_add, Nat.reduceAdd, true_and]
      (try walk_at "wpt")
      refine ⟨fun d hd => by rcases hd with rfl | rfl <;> trivial, [PyData.str (minS l.1 l.2.1), .str (maxS l.1 l.2.1)], rfl, ats, ?_⟩
      rw [show PyData.tuple [PyData.str (minS l.1 l.2.1), .str (maxS l.1 l.2.1)] = lkKey l from rfl, lkDic_at]
      by_cases h1 : (ls.take i).any (sameLk l) = true
      · rw [if_pos h1]
        exact bad (by unfold lkOk; rw [h1]; rfl) _
      rw [if_neg h1]
      have h1 : (ls.take i).any (sameLk l) = false := by simpa using h1
      refine ⟨by omega, ?_⟩
      by_cases h2 : isNm l.1 = false
      · rw [if_pos h2]
        exact bad (by unfold lkOk; rw [h2]; simp) _
      rw [if_neg h2]
      refine ⟨by omega, ?_⟩
      by_cases h3 : isNm l.2.1 = false
      · rw [if_pos h3]
        exact bad (by unfold lkOk; rw [h3]; simp) _
      rw [if_neg h3]
      have h2 : isNm l.1 = true := by simpa using h2
      have h3 : isNm l.2.1 = true := by simpa using h3
      by_cases h4 : 1 ≤ l.2.2
      · rw [if_pos h4]
        by_cases h5 : l.2.2 ≤ 9
        · rw [if_neg (by simpa using h5)]
          have ok : lkOk (ls.take i) l = true := by unfold lkOk; rw [h1, h2, h3, decide_eq_true h4, decide_eq_true h5]; rfl
          rw [ok, Bool.true_and] at hp
          have et : ls.take (i + 1) = ls.take i ++ [l] := by rw [List.take_add_one, hli]; rfl
          refine ⟨[PyData.str (minS l.1 l.2.1), .str (maxS l.1 l.2.1)], rfl, ats, ?_, ?_⟩
          · unfold lkDic
            rw [List.length_map, List.length_take]
            omega
          rw [show PyData.tuple [PyData.str (minS l.1 l.2.1), .str (maxS l.1 l.2.1)] = lkKey l from rfl, lkDic_put h1, ← et]
          exact hN _ ⟨_, _, _, _, rfl, by rw [et]; exact hp⟩
        · rw [if_pos (by simpa using h5)]
          exact bad (by unfold lkOk; rw [decide_eq_false h5]; simp) _
      · rw [if_neg h4]
        exact bad (by unfold lkOk; rw [decide_eq_false h4]; simp) _
    rintro c ⟨x2, x3, x4, x5, rfl, hp⟩
    rw [List.length_map, List.drop_length] at hp
    have hp : true = rs := hp
    (refine hS _ ?_; try clear hS; (repeat (refine seq_gen fun Nx hS => ?_; walk_at "st"; refine hS _ ?_; clear hS)))
    (try walk_at "wpt")
    rw [hp]
    exact q _
  )
theorem sc_fits : FnScope ["field", "names", "spots", "bores", "likes", "bore"] ["field"] (defScope (topS 18)) := ⟨rfl, rfl, rfl, by decide +kernel, rfl, by decide +kernel, by decide +kernel⟩
theorem c_fits {P : Program} {w : World} {K : PySem.W.Frag} {mg : Str → Option Value} {base : Heap} (hb : Bi K mg) (D : Df K mg "fits" (topS 18) ["field"]) (C_likes_fit : Cal P w K mg base "likes_fit" 2 ["likes"] T_likes_fit) (C_bore_fits : Cal P w K mg base "bore_fits" 3 ["bore"] T_bore_fits) : Cal P w K mg base "fits" 4 ["field"] T_fits := (by
  obtain ⟨f, fd, F, hm, hB⟩ := D
  refine ⟨f, fd, fn_d (k := 3) F sc_fits ?hT (fun cdv A outer s H E hr => (q_cons (s_asg (dv 0) (g_tup (n := 2) rfl (gs_cons (g_name 3 sc_fits.nd) (gs_cons (g_name 4 sc_fits.nd) gs_nil))))
 (q_cons (s_if (DW.dt (w_or (t_not (tv (d_all rfl hb.all (DE.dv (d_fz (o_lc [("bore", 5)] rfl sc_fits.nd (i_seq (dv 3)) (by show blkC ["field", "names", "spots", "bores", "likes", "bore"] (defScope (topS 18)) _ _ = true; decide +kernel) (fun _ _ _ _ _ => (g_name 5 sc_fits.nd)) (fun _ _ _ _ _ => b_yes) (fun _ _ _ _ _ => (d_callC C_bore_fits (hr.mono (by decide)) (a_cons (dv 5) a_nil))) (by decide))))))) (w_or1 (t_not (tv (d_callC C_likes_fit (hr.mono (by decide)) (a_cons (dv 4) a_nil)))))))
 (q_one (s_ret d_bl)) q_nil)
 (q_cons (s_setLc (i := 1) [("bore", 5)] rfl sc_fits.nd (i_seq (dv 3)) (by show blkC ["field", "names", "spots", "bores", "likes", "bore"] (defScope (topS 18)) _ _ = true; decide +kernel) (fun _ _ _ _ _ => (g_name 5 sc_fits.nd)) (fun _ _ _ _ _ => b_yes) (fun _ _ _ _ _ => (d_ixN 5 (fun _ _ => rfl) d_int)) (by decide) (sw_true (by rfl) (by rfl) (by rfl) (by rfl)))
 (q_cons (s_setLc (i := 2) [("bore", 5)] rfl sc_fits.nd (i_seq (dv 3)) (by show blkC ["field", "names", "spots", "bores", "likes", "bore"] (defScope (topS 18)) _ _ = true; decide +kernel) (fun _ _ _ _ _ => (g_name 5 sc_fits.nd)) (fun _ _ _ _ _ => b_yes) (fun _ _ _ _ _ => (d_ixN 5 (fun _ _ => rfl) d_int)) (by decide) (sw_true (by rfl) (by rfl) (by rfl) (by rfl)))
 (q_one (s_ret (d_and (d_eq hr.units (d_lenSet rfl hb.len hb.set (dvf 1)) (d_lenV hb.len (vv 3))) (d_one (d_eq hr.units (d_lenSet rfl hb.len hb.set (dvf 2)) (d_lenV hb.len (vv 3)))))))))))), hm, F.kp, hB⟩
  case hT =>
    intro a Q h
    obtain ⟨bs, ls, rfl, hZ, q⟩ := h
    refine ⟨rfl, ?_⟩
    have hsz := sizeLine_eq
    have hb := hZ.bl
    (refine seq_gen fun Nx hS => ?_; walk_at "st")
    (refine hS _ ?_; try clear hS; (repeat (refine seq_gen fun Nx hS => ?_; walk_at "st"; refine hS _ ?_; clear hS)))
    (refine seq_gen fun Nx hS => ?_; walk_at "st")
    refine comp_mm (g := boD) (fun b => .bool (boFit b)) (by omega) (fun b hbm N hN => ?_) ?_
    · (try walk_at "wpt")
      refine ⟨b, rfl, hZ.bo b hbm, ?_⟩
      (try walk_at "wpt")
      exact hN _ rfl
    rw [asBs_f, show (bs.map boFit).all id = bs.all boFit by rw [List.all_map]; rfl]
    (try walk_at "wpt")
    unfold fitF at q
    by_cases h1 : bs.all boFit = false
    · rw [if_pos h1]
      rw [h1] at q
      exact q _
    rw [if_neg h1]
    rw [show bs.all boFit = true by simpa using h1, Bool.true_and] at q
    refine ⟨ls, rfl, hZ.ll, hZ.lw, ?_⟩
    (try walk_at "wpt")
    by_cases h2 : lkFrom [] ls = false
    · rw [if_pos h2]
      rw [h2] at q
      exact q _
    rw [if_neg h2]
    rw [show lkFrom [] ls = true by simpa using h2, Bool.true_and] at q
    (refine hS _ ?_; try clear hS; (repeat (refine seq_gen fun Nx hS => ?_; walk_at "st"; refine hS _ ?_; clear hS)))
    (refine seq_gen fun Nx hS => ?_; walk_at "st")
    refine comp_mm (g := boD) (fun b => .str b.nm) (by omega) (fun b hbm N hN => ?_) ?_
    · rw [show boD b = .tuple [.str b.nm, .int b.at_, .int b.top, .tuple (b.bl.map blD)] from rfl]
      (try walk_at "wpt")
      exact hN _ rfl
    (refine hS _ ?_; try clear hS; (repeat (refine seq_gen fun Nx hS => ?_; walk_at "st"; refine hS _ ?_; clear hS)))
    (refine seq_gen fun Nx hS => ?_; walk_at "st")
    refine comp_mm (g := boD) (fun b => .int b.at_) (by omega) (fun b hbm N hN => ?_) ?_
    · rw [show boD b = .tuple [.str b.nm, .int b.at_, .int b.top, .tuple (b.bl.map blD)] from rfl]
      (try walk_at "wpt")
      exact hN _ rfl
    (refine hS _ ?_; try clear hS; (repeat (refine seq_gen fun Nx hS => ?_; walk_at "st"; refine hS _ ?_; clear hS)))
    (try walk_at "wpt")
    have isn : ∀ d ∈ bs.map (fun b => PyData.str b.nm), isAt d := fun d hd => by
      obtain ⟨b, _, rfl⟩ := List.mem_map.mp hd
      trivial
    have isi : ∀ d ∈ bs.map (fun b => PyData.int b.at_), isAt d := fun d hd => by
      obtain ⟨b, _, rfl⟩ := List.mem_map.mp hd
      trivial
    refine ⟨hb, isn, fun m hm hmn => ?_⟩
    rw [show bs.map (fun b => PyData.str b.nm) = (bs.map Bo.nm).map PyData.str by rw [List.map_map]; rfl, nodup_str] at hmn
    by_cases hn : (bs.map Bo.nm).Nodup
    · rw [if_pos (by have := hmn.mpr hn; omega)]
      rw [decide_eq_true hn, Bool.true_and] at q
      refine ⟨hb, isi, fun m2 hm2 hmn2 => ?_⟩
      rw [show bs.map (fun b => PyData.int b.at_) = (bs.map Bo.at_).map PyData.int by rw [List.map_map]; rfl, nodup_int] at hmn2
      rw [show ((m2 : Int) == (bs.length : Int)) = decide (bs.map Bo.at_).Nodup by
        by_cases hs : (bs.map Bo.at_).Nodup
        · rw [decide_eq_true hs, hmn2.mpr hs]; simp
        · rw [decide_eq_false hs, beq_eq_false_iff_ne]
          exact fun z => hs (hmn2.mp (by omega))]
      exact q _
    · rw [if_neg fun z => hn (hmn.mp (by omega))]
      rw [decide_eq_false hn, Bool.false_and] at q
      exact q _
  )
theorem sc_fitted : FnScope ["field"] ["field"] (defScope (topS 19)) := ⟨rfl, rfl, rfl, by decide +kernel, rfl, by decide +kernel, by decide +kernel⟩
theorem c_fitted {P : Program} {w : World} {K : PySem.W.Frag} {mg : Str → Option Value} {base : Heap} (hb : Bi K mg) (D : Df K mg "fitted" (topS 19) ["field"]) (C_fits : Cal P w K mg base "fits" 4 ["field"] T_fits) : CalY P w K mg base "fitted" 5 ["field"] T_fitted := (by
  obtain ⟨f, fd, F, hm, hB⟩ := D
  refine ⟨f, fd, fn_dY (k := 4) F sc_fitted ?hT (fun cdv A outer s H E hr tk => (qy_cons (s_ifY (t_not (tv (d_callC C_fits (hr.mono (by decide)) (a_cons (dv 0) a_nil))))
 (qy_one (s_raiseY rfl tk hb.exf_Unfit)) (ys_of q_nil))
 (ys_of (q_one (s_ret (dv 0)))))), hm, F.kp, hB⟩
  case hT =>
    intro a Q E1 h
    obtain ⟨bs, ls, rfl, hZ, q1, q2⟩ := h
    refine ⟨rfl, ?_⟩
    (try walk_at "wpt")
    refine ⟨bs, ls, rfl, hZ, ?_⟩
    (try walk_at "wpt")
    cases hf : fitF bs ls with
    | true =>
      (try walk_at "wpt")
      exact q2 hf _ (pat_consN pat_nil)
    | false =>
      (try walk_at "wpt")
      exact q1 hf _ (pat_consN pat_nil)
  )
theorem sc_need : FnScope ["truth"] ["truth"] (defScope (topS 21)) := ⟨rfl, rfl, rfl, by decide +kernel, rfl, by decide +kernel, by decide +kernel⟩
theorem c_need {P : Program} {w : World} {K : PySem.W.Frag} {mg : Str → Option Value} {base : Heap} (hb : Bi K mg) (D : Df K mg "need" (topS 21) ["truth"])  : CalY P w K mg base "need" 1 ["truth"] T_need := (by
  obtain ⟨f, fd, F, hm, hB⟩ := D
  refine ⟨f, fd, fn_dY (k := 0) F sc_need ?hT (fun cdv A outer s H E hr tk => (qy_one (s_ifY (t_not (tv (dv 0)))
 (qy_one (s_raiseY rfl tk hb.exf_NoText)) (ys_of q_nil)))), hm, F.kp, hB⟩
  case hT =>
    intro a Q E1 h
    obtain ⟨b, rfl, q⟩ := h
    refine ⟨rfl, ?_⟩
    (try walk_at "wpt")
    cases b with
    | true =>
      rw [if_pos rfl] at q
      rw [if_neg (by decide)]
      exact q _ (pat_consN pat_nil)
    | false =>
      rw [if_neg (by decide)] at q
      rw [if_pos rfl]
      exact q _ (pat_consN pat_nil)
  )
theorem sc_head_of : FnScope ["words"] ["words"] (defScope (topS 22)) := ⟨rfl, rfl, rfl, by decide +kernel, rfl, by decide +kernel, by decide +kernel⟩
theorem c_head_of {P : Program} {w : World} {K : PySem.W.Frag} {mg : Str → Option Value} {base : Heap} (hb : Bi K mg) (D : Df K mg "head_of" (topS 22) ["words"]) (C_need : CalY P w K mg base "need" 1 ["truth"] T_need) (C_is_number : Cal P w K mg base "is_number" 1 ["word"] T_is_number) (C_is_name : Cal P w K mg base "is_name" 1 ["word"] T_is_name) : CalY P w K mg base "head_of" 2 ["words"] T_head_of := (by
  obtain ⟨f, fd, F, hm, hB⟩ := D
  refine ⟨f, fd, fn_dY (k := 1) F sc_head_of ?hT (fun cdv A outer s H E hr tk => (qy_cons (sy_expr (y_callA tk C_need (hr.mono (by decide)) (r_d (d_and (d_eq hr.units (d_lenV hb.len (vv 0)) d_int) (d_and (d_callC C_is_name (hr.mono (by decide)) (a_cons (d_ixN 0 (fun _ _ => rfl) d_int) a_nil)) (d_and (d_callC C_is_number (hr.mono (by decide)) (a_cons (d_ixN 0 (fun _ _ => rfl) d_int) a_nil)) (d_one (d_callC C_is_number (hr.mono (by decide)) (a_cons (d_ixN 0 (fun _ _ => rfl) d_int) a_nil)))))) r_nil)))
 (ys_of (q_one (s_retX (x_tupL (ao_cons (d_ixN 0 (fun _ _ => rfl) d_int) (ao_cons (d_intS hb.int (DE.dv (d_ixN 0 (fun _ _ => rfl) d_int))) (ao_cons (d_intS hb.int (DE.dv (d_ixN 0 (fun _ _ => rfl) d_int))) (ao_last (x_o o_ll0))))))))))), hm, F.kp, hB⟩
  case hT =>
    intro a Q E1 h
    obtain ⟨ws, rfl, hw, q1, q2⟩ := h
    refine ⟨rfl, ?_⟩
    have hsz := sizeLine_eq
    (refine seq_gen fun Nx hS => ?_; walk_at "st")
    have at_ : ∀ {i : Nat} {w : Str}, ws[i]? = some w → PyData.strOk w = true ∧ w.length ≤ 100000 := fun h => hw.at (List.mem_of_getElem? h)
    by_cases h4 : ws.length = 4
    · obtain ⟨a, n, p, t, rfl⟩ : ∃ a n p t, ws = [a, n, p, t] := by
        match ws, h4 with
        | [a, n, p, t], _ => exact ⟨a, n, p, t, rfl⟩
      obtain ⟨n1, n2⟩ := at_ (i := 1) rfl
      obtain ⟨p1, p2⟩ := at_ (i := 2) rfl
      obtain ⟨t1, t2⟩ := at_ (i := 3) rfl
      (try walk_at "wpt")
      refine ⟨n2, ?_⟩
      by_cases hn : isNm n = true
      · rw [if_pos hn]
        refine ⟨p1, p2, ?_⟩
        by_cases hp : isNum p = true
        · rw [if_pos hp]
          refine ⟨t1, t2, ?_⟩
          by_cases ht : isNum t = true
          · rw [if_pos ht]
            (refine hS _ ?_; try clear hS; (repeat (refine seq_gen fun Nx hS => ?_; walk_at "st"; refine hS _ ?_; clear hS)))
            (try walk_at "wpt")
            refine ⟨numF p, (num_int hp).1, by have := (num_int hp).2.1; omega, ?_⟩
            refine ⟨numF t, (num_int ht).1, by have := (num_int ht).2.1; omega, ?_⟩
            refine ⟨by omega, ?_⟩
            exact q2 ⟨n, numF p, numF t, [[]]⟩ (by simp [headF, hn, hp, ht]) _ (pat_consN pat_nil)
          · rw [if_neg ht]
            exact q1 (by simp [headF, hn, hp, ht]) _ (pat_consN pat_nil)
        · rw [if_neg hp]
          exact q1 (by simp [headF, hn, hp]) _ (pat_consN pat_nil)
      · rw [if_neg hn]
        exact q1 (by simp [headF, hn]) _ (pat_consN pat_nil)
    · rw [if_neg (by omega)]
      refine q1 ?_ _ (pat_consN pat_nil)
      unfold headF
      split
      · exact absurd rfl h4
      · rfl
  )
theorem sc_layer_of : FnScope ["words"] ["words"] (defScope (topS 23)) := ⟨rfl, rfl, rfl, by decide +kernel, rfl, by decide +kernel, by decide +kernel⟩
theorem c_layer_of {P : Program} {w : World} {K : PySem.W.Frag} {mg : Str → Option Value} {base : Heap} (hb : Bi K mg) (D : Df K mg "layer_of" (topS 23) ["words"]) (C_need : CalY P w K mg base "need" 1 ["truth"] T_need) (C_is_number : Cal P w K mg base "is_number" 1 ["word"] T_is_number) (C_is_name : Cal P w K mg base "is_name" 1 ["word"] T_is_name) : CalY P w K mg base "layer_of" 2 ["words"] T_layer_of := (by
  obtain ⟨f, fd, F, hm, hB⟩ := D
  refine ⟨f, fd, fn_dY (k := 1) F sc_layer_of ?hT (fun cdv A outer s H E hr tk => (qy_cons (sy_expr (y_callA tk C_need (hr.mono (by decide)) (r_d (d_and (d_eq hr.units (d_lenV hb.len (vv 0)) d_int) (d_and (d_callC C_is_name (hr.mono (by decide)) (a_cons (d_ixN 0 (fun _ _ => rfl) d_int) a_nil)) (d_one (d_callC C_is_number (hr.mono (by decide)) (a_cons (d_ixN 0 (fun _ _ => rfl) d_int) a_nil))))) r_nil)))
 (ys_of (q_one (s_ret (d_tup (a_cons (d_ixN 0 (fun _ _ => rfl) d_int) (a_cons (d_intS hb.int (DE.dv (d_ixN 0 (fun _ _ => rfl) d_int))) a_nil)))))))), hm, F.kp, hB⟩
  case hT =>
    intro a Q E1 h
    obtain ⟨ws, rfl, hw, q1, q2⟩ := h
    refine ⟨rfl, ?_⟩
    have hsz := sizeLine_eq
    (refine seq_gen fun Nx hS => ?_; walk_at "st")
    have at_ : ∀ {i : Nat} {w : Str}, ws[i]? = some w → PyData.strOk w = true ∧ w.length ≤ 100000 := fun h => hw.at (List.mem_of_getElem? h)
    by_cases h4 : ws.length = 3
    · obtain ⟨a, n, t, rfl⟩ : ∃ a n t, ws = [a, n, t] := by
        match ws, h4 with
        | [a, n, t], _ => exact ⟨a, n, t, rfl⟩
      obtain ⟨n1, n2⟩ := at_ (i := 1) rfl
      obtain ⟨t1, t2⟩ := at_ (i := 2) rfl
      (try walk_at "wpt")
      refine ⟨n2, ?_⟩
      by_cases hn : isNm n = true
      · rw [if_pos hn]
        refine ⟨t1, t2, ?_⟩
        by_cases ht : isNum t = true
        · rw [if_pos ht]
          (refine hS _ ?_; try clear hS; (repeat (refine seq_gen fun Nx hS => ?_; walk_at "st"; refine hS _ ?_; clear hS)))
          (try walk_at "wpt")
          refine ⟨numF t, (num_int ht).1, by have := (num_int ht).2.1; omega, ?_⟩
          exact q2 (n, numF t) (by simp [layF, hn, ht]) _ (pat_consN pat_nil)
        · rw [if_neg ht]
          exact q1 (by simp [layF, hn, ht]) _ (pat_consN pat_nil)
      · rw [if_neg hn]
        exact q1 (by simp [layF, hn]) _ (pat_consN pat_nil)
    · rw [if_neg (by omega)]
      refine q1 ?_ _ (pat_consN pat_nil)
      unfold layF
      split
      · exact absurd rfl h4
      · rfl
  )
theorem sc_like_of : FnScope ["words"] ["words"] (defScope (topS 24)) := ⟨rfl, rfl, rfl, by decide +kernel, rfl, by decide +kernel, by decide +kernel⟩
theorem c_like_of {P : Program} {w : World} {K : PySem.W.Frag} {mg : Str → Option Value} {base : Heap} (hb : Bi K mg) (D : Df K mg "like_of" (topS 24) ["words"]) (C_need : CalY P w K mg base "need" 1 ["truth"] T_need) (C_is_number : Cal P w K mg base "is_number" 1 ["word"] T_is_number) (C_is_name : Cal P w K mg base "is_name" 1 ["word"] T_is_name) : CalY P w K mg base "like_of" 2 ["words"] T_like_of := (by
  obtain ⟨f, fd, F, hm, hB⟩ := D
  refine ⟨f, fd, fn_dY (k := 1) F sc_like_of ?hT (fun cdv A outer s H E hr tk => (qy_cons (sy_expr (y_callA tk C_need (hr.mono (by decide)) (r_d (d_and (d_eq hr.units (d_lenV hb.len (vv 0)) d_int) (d_and (d_callC C_is_name (hr.mono (by decide)) (a_cons (d_ixN 0 (fun _ _ => rfl) d_int) a_nil)) (d_and (d_callC C_is_name (hr.mono (by decide)) (a_cons (d_ixN 0 (fun _ _ => rfl) d_int) a_nil)) (d_one (d_callC C_is_number (hr.mono (by decide)) (a_cons (d_ixN 0 (fun _ _ => rfl) d_int) a_nil)))))) r_nil)))
 (ys_of (q_one (s_ret (d_tup (a_cons (d_ixN 0 (fun _ _ => rfl) d_int) (a_cons (d_ixN 0 (fun _ _ => rfl) d_int) (a_cons (d_intS hb.int (DE.dv (d_ixN 0 (fun _ _ => rfl) d_int))) a_nil))))))))), hm, F.kp, hB⟩
  case hT =>
    intro a Q E1 h
    obtain ⟨ws, rfl, hw, q1, q2⟩ := h
    refine ⟨rfl, ?_⟩
    have hsz := sizeLine_eq
    (refine seq_gen fun Nx hS => ?_; walk_at "st")
    have at_ : ∀ {i : Nat} {w : Str}, ws[i]? = some w → PyData.strOk w = true ∧ w.length ≤ 100000 := fun h => hw.at (List.mem_of_getElem? h)
    by_cases h4 : ws.length = 4
    · obtain ⟨a, n, p, t, rfl⟩ : ∃ a n p t, ws = [a, n, p, t] := by
        match ws, h4 with
        | [a, n, p, t], _ => exact ⟨a, n, p, t, rfl⟩
      obtain ⟨n1, n2⟩ := at_ (i := 1) rfl
      obtain ⟨p1, p2⟩ := at_ (i := 2) rfl
      obtain ⟨t1, t2⟩ := at_ (i := 3) rfl
      (try walk_at "wpt")
      refine ⟨n2, ?_⟩
      by_cases hn : isNm n = true
      · rw [if_pos hn]
        refine ⟨p2, ?_⟩
        by_cases hp : isNm p = true
        · rw [if_pos hp]
          refine ⟨t1, t2, ?_⟩
          by_cases ht : isNum t = true
          · rw [if_pos ht]
            (refine hS _ ?_; try clear hS; (repeat (refine seq_gen fun Nx hS => ?_; walk_at "st"; refine hS _ ?_; clear hS)))
            (try walk_at "wpt")
            refine ⟨numF t, (num_int ht).1, by have := (num_int ht).2.1; omega, ?_⟩
            exact q2 (n, p, numF t) (by simp [likF, hn, hp, ht]) _ (pat_consN pat_nil)
          · rw [if_neg ht]
            exact q1 (by simp [likF, hn, hp, ht]) _ (pat_consN pat_nil)
        · rw [if_neg hp]
          exact q1 (by simp [likF, hn, hp]) _ (pat_consN pat_nil)
      · rw [if_neg hn]
        exact q1 (by simp [likF, hn]) _ (pat_consN pat_nil)
    · rw [if_neg (by omega)]
      refine q1 ?_ _ (pat_consN pat_nil)
      unfold likF
      split
      · exact absurd rfl h4
      · rfl
  )
theorem sc_lay_row : FnScope ["found", "likes", "words", "shut"] ["found", "likes", "words"] (defScope (topS 25)) := ⟨rfl, rfl, rfl, by decide +kernel, rfl, by decide +kernel, by decide +kernel⟩
theorem c_lay_row {P : Program} {w : World} {K : PySem.W.Frag} {mg : Str → Option Value} {base : Heap} (hb : Bi K mg) (D : Df K mg "lay_row" (topS 25) ["found", "likes", "words"]) (C_need : CalY P w K mg base "need" 1 ["truth"] T_need) (C_like_of : CalY P w K mg base "like_of" 2 ["words"] T_like_of) (C_head_of : CalY P w K mg base "head_of" 2 ["words"] T_head_of) (C_layer_of : CalY P w K mg base "layer_of" 2 ["words"] T_layer_of) : CalY P w K mg base "lay_row" 3 ["found", "likes", "words"] T_lay_row := (by
  obtain ⟨f, fd, F, hm, hB⟩ := D
  refine ⟨f, fd, fn_dY (k := 2) F sc_lay_row ?hT (fun cdv A outer s H E hr tk => (qy_cons (y_of (s_set (j := 3) sc_lay_row.nd (d_or (d_eq hr.units (d_lenPl hb.len (pl_var 0)) d_int) (d_one (d_gt (d_lenV hb.len (v_pl (pl_ix (fun _ _ => rfl) (pl_ix (fun _ _ => rfl) (pl_ix (fun _ _ => rfl) (pl_var 0) k_neg) k_int) k_neg))) d_int)))))
 (qy_one (s_ifY (t_eq hr.units (d_ixN 2 (fun _ _ => rfl) d_int) d_str)
 (qy_cons (sy_expr (y_callA tk C_need (hr.mono (by decide)) (r_d (dv 3) r_nil)))
 (qy_one (sy_plapp (pl_var 1) (y_callA tk C_like_of (hr.mono (by decide)) (r_d (dv 2) r_nil))))) (qy_one (s_ifY (t_eq hr.units (d_ixN 2 (fun _ _ => rfl) d_int) d_str)
 (qy_cons (sy_expr (y_callA tk C_need (hr.mono (by decide)) (r_d (d_and (dv 3) (d_one (d_eq hr.units (d_lenPl hb.len (pl_var 1)) d_int))) r_nil)))
 (qy_one (sy_plapp (pl_var 0) (y_callA tk C_head_of (hr.mono (by decide)) (r_d (dv 2) r_nil))))) (qy_one (s_ifY (t_eq hr.units (d_ixN 2 (fun _ _ => rfl) d_int) d_str)
 (qy_cons (sy_expr (y_callA tk C_need (hr.mono (by decide)) (r_d (d_and (d_gt (d_lenPl hb.len (pl_var 0)) d_int) (d_one (d_eq hr.units (d_lenPl hb.len (pl_var 1)) d_int))) r_nil)))
 (qy_one (sy_plapp (pl_ix (fun _ _ => rfl) (pl_ix (fun _ _ => rfl) (pl_ix (fun _ _ => rfl) (pl_var 0) k_neg) k_int) k_neg) (y_callA tk C_layer_of (hr.mono (by decide)) (r_d (dv 2) r_nil))))) (qy_cons (sy_expr (y_callA tk C_need (hr.mono (by decide)) (r_d (d_and (d_eq hr.units (dv 2) (d_fz (o_lst (a_cons d_str a_nil)))) (d_and (dv 3) (d_and (d_gt (d_lenPl hb.len (pl_var 0)) d_int) (d_one (d_eq hr.units (d_lenPl hb.len (pl_var 1)) d_int))))) r_nil)))
 (ys_of (q_one (s_plappX (pl_ix (fun _ _ => rfl) (pl_ix (fun _ _ => rfl) (pl_var 0) k_neg) k_int) (x_o (o_lst a_nil)))))))))))))), hm, F.kp, hB⟩
  case hT =>
    intro a Q E1 h
    obtain ⟨v, u, s, n, ws, rfl, ok, n5, hw, q1, q2⟩ := h
    refine ⟨rfl, ?_⟩
    have hsz := sizeLine_eq
    obtain ⟨bs, ls⟩ := s
    obtain ⟨w0, ws, rfl⟩ : ∃ w r, ws = w :: r := by
      cases ws with
      | nil => exact absurd rfl hw.2.1
      | cons w r => exact ⟨w, r, rfl⟩
    have P3 : ∀ {R R' : Res} {x : S} {c : Dl.Ctx}, Pat [some (v, R), some (u, R'), none] (.o (some v) R :: .o (some u) R' :: x :: c) := pat_consO (pat_consO (pat_consN ⟨Nat.zero_le _, by simp⟩))
    simp only [layR, List.headD_cons] at q1 q2
    unfold fndT lksT
    (refine seq_gen fun Nx hS => ?_; walk_at "st")
    have go : Nx ([.o (some v) (.tr (.lst (bs.map boT))), .o (some u) (.tr (.lst ((ls.map lkD).map .dat))), .d (.list ((w0 :: ws).map PyData.str)), .d (.bool (shutR bs))] : Dl.Ctx) := by
      (refine hS _ ?_; try clear hS; (repeat (refine seq_gen fun Nx hS => ?_; walk_at "st"; refine hS _ ?_; clear hS)))
      (try walk_at "wpt")
      have hw0 := (hw.at (w := w0) List.mem_cons_self).1
      have lb := ok.bs
      have ll := ok.ls.1
      have lb : bs.length ≤ n := lb
      have ll : ls.length ≤ n := ll
      have l0 : (ls.length : Int) = 0 ↔ ls = [] := ⟨fun z => List.length_eq_zero_iff.mp (by omega), fun z => by rw [z]; rfl⟩
      have b0 : 0 < (bs.length : Int) ↔ bs ≠ [] := ⟨fun z e => by rw [e] at z; simp at z, fun z => by have := List.length_pos_iff.mpr z; omega⟩
      refine ⟨hw0, by decide +kernel, ?_⟩
      by_cases c1 : w0 = Str.ofString "like"
      · rw [if_pos c1]
        rw [if_pos c1] at q1 q2
        by_cases hs : shutR bs = true
        · rw [if_pos hs]
          rw [if_pos hs] at q1 q2
          intro root A H0 v2
          refine ⟨w0 :: ws, rfl, hw, fun z => ?_, fun l hl => ?_⟩
          · (try walk_at "wpt")
            exact q1 (by rw [z]; rfl) _ P3
          · (try walk_at "wpt")
            refine ⟨by omega, ?_⟩
            have q := q2 (bs, ls ++ [l]) (by rw [hl]; rfl)
            rw [show lksT (bs, ls ++ [l]).2 = .lst (List.map OT.dat (List.map lkD ls) ++ [.dat (lkD l)]) by unfold lksT; rw [List.map_append, List.map_append]; rfl] at q
            exact q _ P3
        · rw [if_neg hs]
          rw [if_neg hs] at q1
          exact q1 rfl _ P3
      rw [if_neg c1]
      rw [if_neg c1] at q1 q2
      refine ⟨hw0, by decide +kernel, ?_⟩
      by_cases c2 : w0 = Str.ofString "bore"
      · rw [if_pos c2]
        rw [if_pos c2] at q1 q2
        by_cases hs : shutR bs = true
        · rw [if_pos hs]
          by_cases hl : ls = []
          · rw [if_pos (l0.mpr hl)]
            rw [if_pos ⟨hs, hl⟩] at q1 q2
            intro root A H0 v2
            refine ⟨w0 :: ws, rfl, hw, fun z => ?_, fun b hb => ?_⟩
            · (try walk_at "wpt")
              exact q1 (by rw [z]; rfl) _ P3
            · (try walk_at "wpt")
              refine ⟨by omega, ?_⟩
              have q := q2 (bs ++ [b], ls) (by rw [hb]; rfl)
              rw [show fndT (bs ++ [b], ls).1 = .lst (List.map boT bs ++ [boT b]) by unfold fndT; rw [List.map_append]; rfl] at q
              exact q _ P3
          · rw [if_neg (fun z => hl (l0.mp z))]
            rw [if_neg (fun z => hl z.2)] at q1
            exact q1 rfl _ P3
        · rw [if_neg hs]
          rw [if_neg (fun z => hs z.1)] at q1
          exact q1 rfl _ P3
      rw [if_neg c2]
      rw [if_neg c2] at q1 q2
      refine ⟨hw0, by decide +kernel, ?_⟩
      by_cases c3 : w0 = Str.ofString "layer"
      · rw [if_pos c3]
        rw [if_pos c3] at q1 q2
        by_cases hb : bs = []
        · rw [if_neg (fun z => b0.mp z hb)]
          rw [if_neg (fun z => z.1 hb)] at q1
          exact q1 rfl _ P3
        rw [if_pos (b0.mpr hb)]
        by_cases hl : ls = []
        · rw [if_pos (l0.mpr hl)]
          rw [if_pos ⟨hb, hl⟩] at q1 q2
          obtain ⟨bs, b, rfl⟩ := last_ex hb
          obtain ⟨b1, b2, b3, b4⟩ := ok.bl b (List.mem_append_right _ (by simp))
          obtain ⟨nm, p, t, bl⟩ := b
          obtain ⟨bl, k, rfl⟩ := last_ex b1
          have kl := (b4 k (List.mem_append_right _ (by simp))).1
          simp only [onLast_at, addLy_at] at q2
          rw [List.map_append, List.map_singleton, boT_at]
          refine ixT_last (ixT_43 (ixT_last ?_))
          simp only [getE_at, set_at, tup3_get, tup3_set]
          (try walk_at "wpt")
          intro root A H0 v2
          refine ⟨w0 :: ws, rfl, hw, fun z => ?_, fun l hl => ?_⟩
          · (try walk_at "wpt")
            have q := q1 (by rw [z]; rfl)
            rw [show fndT (bs ++ [⟨nm, p, t, bl ++ [k]⟩]) = .lst (List.map boT bs ++ [boT ⟨nm, p, t, bl ++ [k]⟩]) by unfold fndT; rw [List.map_append]; rfl, boT_at] at q
            exact q _ P3
          · (try walk_at "wpt")
            refine ⟨by omega, ?_⟩
            have q := q2 (bs ++ [⟨nm, p, t, bl ++ [k ++ [l]]⟩], ls) (by rw [hl]; rfl)
            rw [show fndT (bs ++ [⟨nm, p, t, bl ++ [k ++ [l]]⟩], ls).1 = .lst (List.map boT bs ++ [boT ⟨nm, p, t, bl ++ [k ++ [l]]⟩]) by unfold fndT; rw [List.map_append]; rfl, boT_at, List.map_append, List.map_append] at q
            exact q _ P3
        · rw [if_neg (fun z => hl (l0.mp z))]
          rw [if_neg (fun z => hl z.2)] at q1
          exact q1 rfl _ P3
      rw [if_neg c3]
      rw [if_neg c3] at q1 q2
      have hws : ∀ w ∈ w0 :: ws, PyData.strOk w = true := fun w h => (hw.at h).1
      have hfl : ∀ w ∈ [Str.ofString "fault"], PyData.strOk w = true := fun w h => by rw [List.mem_singleton.mp h]; decide +kernel
      refine ⟨(pl_strs hws).sh, (pl_strs hfl).sh, ?_⟩
      rw [show PyData.eqvAll (PyData.str w0 :: List.map PyData.str ws) [PyData.str (Str.ofString "fault")] = decide (w0 :: ws = [Str.ofString "fault"]) from eqv_strs hws hfl]
      by_cases c4 : w0 :: ws = [Str.ofString "fault"]
      · rw [if_pos (decide_eq_true c4)]
        by_cases hs : shutR bs = true
        · rw [if_pos hs]
          by_cases hb : bs = []
          · rw [if_neg (fun z => b0.mp z hb)]
            rw [if_neg (fun z => z.2.2.1 hb)] at q1
            exact q1 rfl _ P3
          rw [if_pos (b0.mpr hb)]
          by_cases hl : ls = []
          · rw [if_pos (l0.mpr hl)]
            rw [if_pos ⟨c4, hs, hb, hl⟩] at q2
            obtain ⟨bs, b, rfl⟩ := last_ex hb
            obtain ⟨b1, b2, b3, b4⟩ := ok.bl b (List.mem_append_right _ (by simp))
            obtain ⟨nm, p, t, bl⟩ := b
            have bl5 : bl.length ≤ n := b2
            have q := q2 _ rfl
            rw [onLast_at, show fndT (bs ++ [addBl ⟨nm, p, t, bl⟩], ls).1 = .lst (List.map boT bs ++ [boT ⟨nm, p, t, bl ++ [[]]⟩]) by unfold fndT; rw [List.map_append]; rfl, boT_at] at q
            rw [List.map_append, List.map_singleton, show boT ⟨nm, p, t, bl⟩ = .tup [.dat (.str nm), .dat (.int p), .dat (.int t), .lst (bl.map (fun k => OT.lst ((k.map lyD).map .dat)))] from rfl]
            refine ixT_last (ixT_43 ?_)
            simp only [getE_at, set_at, tup3_get, tup3_set]
            (try walk_at "wpt")
            refine ⟨by omega, ?_⟩
            exact q _ P3
          · rw [if_neg (fun z => hl (l0.mp z))]
            rw [if_neg (fun z => hl z.2.2.2)] at q1
            exact q1 rfl _ P3
        · rw [if_neg hs]
          rw [if_neg (fun z => hs z.2.1)] at q1
          exact q1 rfl _ P3
      · rw [if_neg (fun z => c4 (of_decide_eq_true z))]
        rw [if_neg (fun z => c4 z.1)] at q1
        exact q1 rfl _ P3
    by_cases hb : bs = []
    · subst hb
      rw [if_pos (by simp)]
      exact go
    obtain ⟨bs, b, rfl⟩ := last_ex hb
    obtain ⟨b1, _⟩ := ok.bl b (List.mem_append_right _ (by simp))
    obtain ⟨nm, p, t, bl⟩ := b
    obtain ⟨bl, k, rfl⟩ := last_ex b1
    rw [if_neg (by rw [List.length_append, List.length_singleton]; omega), List.map_append, List.map_singleton]
    rw [boT_at]
    refine ixT_last (ixT_43 (ixT_last ?_))
    rw [shutR_at, List.map_append, List.map_singleton, boT_at] at go
    (try walk_at "wpt")
    exact go
  )
theorem sc_read : FnScope ["text", "found", "likes", "words", "bores", "name", "spot", "top", "blocks", "row", "block"] ["text"] (defScope (topS 26)) := ⟨rfl, rfl, rfl, by decide +kernel, rfl, by decide +kernel, by decide +kernel⟩
theorem c_read {P : Program} {w : World} {K : PySem.W.Frag} {mg : Str → Option Value} {base : Heap} (hb : Bi K mg) (D : Df K mg "read" (topS 26) ["text"]) (C_need : CalY P w K mg base "need" 1 ["truth"] T_need) (C_words_of__y : CalY P w K mg base "words_of" 1 ["row"] T_words_of__y) (C_rows_of : Cal P w K mg base "rows_of" 1 ["text"] T_rows_of) (C_lay_row : CalY P w K mg base "lay_row" 3 ["found", "likes", "words"] T_lay_row) (C_fitted : CalY P w K mg base "fitted" 5 ["field"] T_fitted) : CalY P w K mg base "read" 6 ["text"] T_read := (by
  obtain ⟨f, fd, F, hm, hB⟩ := D
  refine ⟨f, fd, fn_dY (k := 5) F sc_read ?hT (fun cdv A outer s H E hr tk => (qy_cons (sy_expr (y_callA tk C_need (hr.mono (by decide)) (r_d (d_isiV (n := "str") hb.isinstance hb.str bb_str (vv 0) kt_str) r_nil)))
 (qy_cons (y_of (s_setO (j := 1) sc_read.nd o_tl0))
 (qy_cons (y_of (s_setO (j := 2) sc_read.nd o_tl0))
 (qy_cons (s_forE (passes_of rfl) rfl (ey_x (x_lcY [("row", 9)] rfl rfl tk rfl sc_read.nd (i_seq (d_fz (o_callC C_rows_of (hr.mono (by decide)) (a_cons (dv 0) a_nil)))) (by show blkC ["text", "found", "likes", "words", "bores", "name", "spot", "top", "blocks", "row", "block"] (defScope (topS 26)) _ _ = true; decide +kernel) (fun _ _ _ _ _ => (g_name 9 sc_read.nd)) (fun _ _ _ _ _ => ey_x (y_callB C_words_of__y (hr.mono (by decide)) (ay_cons (ey_e (dv 9)) ay_nil))) (by decide))) (g_name 3 sc_read.nd)
 (qy_one (sy_expr (y_callA tk C_lay_row (hr.mono (by decide)) (r_s 1 (r_s 2 (r_d (dv 3) r_nil)))))))
 (qy_cons (sy_expr (y_callA tk C_need (hr.mono (by decide)) (r_d (d_or (d_eq hr.units (d_lenPl hb.len (pl_var 1)) d_int) (d_one (d_gt (d_lenV hb.len (v_pl (pl_ix (fun _ _ => rfl) (pl_ix (fun _ _ => rfl) (pl_ix (fun _ _ => rfl) (pl_var 1) k_neg) k_int) k_neg))) d_int))) r_nil)))
 (qy_cons (y_of (s_setO (j := 4) sc_read.nd (o_lst a_nil)))
 (qy_cons (y_of (s_for (passes_of rfl) rfl (i_seq (dvf 1)) (g_tup (n := 4) rfl (gs_cons (g_name 5 sc_read.nd) (gs_cons (g_name 6 sc_read.nd) (gs_cons (g_name 7 sc_read.nd) (gs_cons (g_name 8 sc_read.nd) gs_nil)))))
 (q_one (s_app 4 (d_tup (a_cons (dv 5) (a_cons (dv 6) (a_cons (dv 7) (a_cons (d_tupV hb.tuple (DE.dv (d_fz (o_lc [("block", 10)] rfl sc_read.nd (i_seq (dv 8)) (by show blkC ["text", "found", "likes", "words", "bores", "name", "spot", "top", "blocks", "row", "block"] (defScope (topS 26)) _ _ = true; decide +kernel) (fun _ _ _ _ _ => (g_name 10 sc_read.nd)) (fun _ _ _ _ _ => b_yes) (fun _ _ _ _ _ => (d_tupV hb.tuple (vv 10))) (by decide))))) a_nil)))))))))
 (qy_one (sy_ret (y_callA tk C_fitted (hr.mono (by decide)) (r_d (d_tup (a_cons (d_tupV hb.tuple (vv 4)) (a_cons (d_tupV hb.tuple (v_pl (pl_var 2))) a_nil))) r_nil)))))))))))), hm, F.kp, hB⟩
  case hT =>
    intro a Q E1 h
    refine ⟨by rcases h with ⟨w, rfl, _⟩ | ⟨x, rfl, _⟩ <;> rfl, ?_⟩
    have hsz := sizeLine_eq
    rcases h with ⟨w, rfl, hw, wl, rl, q1, q2⟩ | ⟨x, rfl, hx, q1⟩
    rotate_left
    · (refine seq_gen fun Nx hS => ?_; walk_at "st")
      have hx2 : isStrD x = false := by
        cases x with
        | str _ => cases hx
        | _ => rfl
      rw [if_neg (by rw [hx2]; decide)]
      exact q1 _ (pat_consN pat_nil)
    (refine seq_gen fun Nx hS => ?_; walk_at "st")
    (refine hS _ ?_; try clear hS; (repeat (refine seq_gen fun Nx hS => ?_; walk_at "st"; refine hS _ ?_; clear hS)))
    (refine seq_gen fun Nx hS => ?_; walk_at "st")
    refine ⟨w, rfl, hw, by omega, ?_⟩
    have er : (if w = Str.ofString "" then ([] : List PyData) else (Txt.split w (Str.ofString "\n")).map PyData.str) = (rowsF w).map PyData.str := by
      unfold rowsF
      split <;> rfl
    rw [er]
    have rok : ∀ r ∈ rowsF w, PyData.strOk r = true ∧ r.length ≤ w.length := fun r hr => by
      unfold rowsF at hr
      split at hr
      · cases hr
      · exact ⟨split_ok hw r hr, split_len hr⟩
    have wok : ∀ ws ∈ (rowsF w).map wordsF, WsOk ws := fun ws h => by
      obtain ⟨r, hr, rfl⟩ := List.mem_map.mp h
      obtain ⟨r1, r2⟩ := rok r hr
      have := split_few r 32
      exact ⟨by show (Txt.split r ⟨#[32]⟩).length ≤ 100000; omega, split_ne r 32, fun x hx => ⟨split_ok r1 x hx, by have := split_len hx; omega⟩⟩
    obtain ⟨L, hL⟩ : ∃ L, L = (rowsF w).map wordsF := ⟨_, rfl⟩
    (try walk_at "wpt")
    refine compY_upto (g0 := PyData.str) (fun r => .list ((wordsF r).map PyData.str)) (fun r => Str.ofString "" ∈ wordsF r) (by omega) (fun r hr hno N hN => ?_) (fun r hr hbad N => ?_) (fun _ => ?_)
    · obtain ⟨r1, r2⟩ := rok r hr
      (try walk_at "wpt")
      refine ⟨r, rfl, r1, by omega, split_ok r1, ?_⟩
      rw [if_neg (show ¬ (Str.ofString "" ∈ Txt.split r (Str.ofString " ")) from hno)]
      intro c _
      exact hN _ rfl
    · obtain ⟨r1, r2⟩ := rok r hr
      (try walk_at "wpt")
      refine ⟨r, rfl, r1, by omega, split_ok r1, ?_⟩
      rw [if_pos (show Str.ofString "" ∈ Txt.split r (Str.ofString " ") from hbad)]
      intro c _
      exact q1 (readF_bad ⟨r, hr, hbad⟩) _ (pat_consN pat_nil)
    rw [show (rowsF w).map (fun r => PyData.list ((wordsF r).map PyData.str)) = L.map (fun ws => PyData.list (ws.map PyData.str)) by rw [hL, List.map_map]; rfl]
    have Ll : L.length ≤ 900 := by rw [hL, List.length_map]; exact rl
    have er2 : readF w = (layRs ([], []) L).bind fun s => if shutR s.1 = true then some s else none := by unfold readF; rw [hL]
    rw [← hL] at wok
    rw [er2] at q1 q2
    (try walk_at "wpt")
    refine loop_by (fun i c => ∃ (s : RdS) (x3 : S), c = [.d (.str w), .o none (.tr (fndT s.1)), .o none (.tr (lksT s.2)), x3, .no, .no, .no, .no, .no, .no, .no] ∧ layRs ([], []) (L.take i) = some s ∧ RdOk s i) ⟨([], []), .no, rfl, rfl, rdOk_0⟩ ?_ ?_
    · rintro i y c N hy ⟨s, x3, rfl, hs, ok⟩ hN
      obtain ⟨ws, hws, rfl⟩ := map_get hy
      have il := get_lt hws
      have nx := layRs_next hs hws
      simp only [↓asT_t, ↓asC_c, gT, gsCons, gsNil, gN, List.length_cons, List.length_nil, List.set_cons_zero, List.set_cons_succ, Nat.zero_add, Nat.reduceAdd, true_and]
      (try walk_at "wpt")
      intro u
      refine ⟨u 1, u 2, s, i, ws, rfl, ok, by omega, wok ws (List.mem_of_getElem? hws), fun z => ?_, fun s' z => ?_⟩
      · (try walk_at "wpt")
        exact q1 (by rw [layRs_no (nx.trans z)]; rfl) _ (pat_consN pat_nil)
      · (try walk_at "wpt")
        exact hN _ ⟨s', _, rfl, nx.trans z, layR_ok ok z⟩
    rintro c ⟨s, x3, rfl, hs, ok⟩
    rw [List.length_map] at hs ok
    rw [List.take_length] at hs
    rw [hs] at q1 q2
    obtain ⟨bs, ls⟩ := s
    have q1 : shutR bs = false → retE [none] E1 "NoText" [] := fun z => q1 (by show (if shutR bs = true then _ else _) = _; rw [z]; rfl)
    have q2 : shutR bs = true → (fitF bs ls = false → retE [none] E1 "Unfit" []) ∧ (fitF bs ls = true → retA [none] Q (.d (.tuple [.tuple (bs.map boD), .tuple (ls.map lkD)]))) := fun z => q2 (bs, ls) (by show (if shutR bs = true then _ else _) = _; rw [z]; rfl)
    have sz := rd_sz ok (by omega)
    have lb : bs.length ≤ L.length := ok.bs
    (refine hS _ ?_; try clear hS; (repeat (refine seq_gen fun Nx hS => ?_; walk_at "st"; refine hS _ ?_; clear hS)))
    unfold fndT lksT
    (refine seq_gen fun Nx hS => ?_; walk_at "st")
    have go : shutR bs = true → Nx ([.d (.str w), .o none (.tr (.lst (bs.map boT))), .o none (.tr (.lst ((ls.map lkD).map .dat))), x3, .no, .no, .no, .no, .no, .no, .no] : Dl.Ctx) := by
      intro hsh
      obtain ⟨q1, q2⟩ := q2 hsh
      (refine hS _ ?_; try clear hS; (repeat (refine seq_gen fun Nx hS => ?_; walk_at "st"; refine hS _ ?_; clear hS)))
      (refine seq_gen fun Nx hS => ?_; walk_at "st")
      obtain ⟨d1, d2⟩ := fndT_D bs
      refine ⟨d1, ?_⟩
      rw [show (OT.lst (List.map boT bs)).toD = .list (bs.map boE) from d2]
      (try walk_at "wpt")
      
      refine loop_by (fun i c => ∃ (x5 x6 x7 x8 : S), c = [.d (.str w), .d (.list (bs.map boE)), .o none (.tr (.lst ((ls.map lkD).map .dat))), x3, .o none (.lst ((bs.take i).map boD)), x5, x6, x7, x8, .no, .no] ∧ True) ⟨_, _, _, _, rfl, trivial⟩ ?_ ?_
      · rintro i y c N hy ⟨x5, x6, x7, x8, rfl, -⟩ hN
        obtain ⟨b, hb, rfl⟩ := map_get hy
        have il := get_lt hb
        obtain ⟨-, bl5, -, -⟩ := ok.bl b (List.mem_of_getElem? hb)
        rw [show boE b = .tuple [.str b.nm, .int b.at_, .int b.top, .list (b.bl.map fun k => .list (k.map lyD))] from rfl]
        simp only [↓asT_t, ↓asC_c, gT, gsCons, gsNil, gN, List.length_cons, List.length_nil, List.set_cons_zero, List.set_cons_succ, Nat.zero_add, Nat.reduceAdd, true_and]
        (try walk_at "wpt")
        refine comp_mm (g := fun k : List (Str × Int) => PyData.list (k.map lyD)) (fun k => .tuple (k.map lyD)) (by omega) (fun k hk N2 hN2 => ?_) ?_
        · (try walk_at "wpt")
          exact hN2 _ rfl
        (try walk_at "wpt")
        refine ⟨by rw [List.length_take]; omega, ?_⟩
        have e : (bs.take i).map boD ++ [PyData.tuple [.str b.nm, .int b.at_, .int b.top, .tuple (b.bl.map fun k => .tuple (k.map lyD))]] = (bs.take (i + 1)).map boD := by rw [List.take_add_one, hb, List.map_append]; rfl
        rw [e]
        exact hN _ ⟨_, _, _, _, rfl, trivial⟩
      rintro c ⟨x5, x6, x7, x8, rfl, -⟩
      rw [List.length_map, List.take_length]
      (refine hS _ ?_; try clear hS; (repeat (refine seq_gen fun Nx hS => ?_; walk_at "st"; refine hS _ ?_; clear hS)))
      (try walk_at "wpt")
      intro v2
      refine ⟨bs, ls, rfl, sz, fun z => ?_, fun z => ?_⟩
      · (try walk_at "wpt")
        exact q1 z _ (pat_consN pat_nil)
      · (try walk_at "wpt")
        exact q2 z _ (pat_consN pat_nil)
    clear hS
    by_cases hb : bs = []
    · subst hb
      rw [if_pos (by simp)]
      (try walk_at "wpt")
      exact go rfl
    obtain ⟨bs, b, rfl⟩ := last_ex hb
    obtain ⟨b1, _⟩ := ok.bl b (List.mem_append_right _ (by simp))
    obtain ⟨nm, p, t, bl⟩ := b
    obtain ⟨bl, k, rfl⟩ := last_ex b1
    rw [if_neg (by rw [List.length_append, List.length_singleton]; omega), List.map_append, List.map_singleton, boT_at]
    refine ixT_last (ixT_43 (ixT_last ?_))
    rw [shutR_at] at go q1
    rw [List.map_append, List.map_singleton, boT_at] at go
    (try walk_at "wpt")
    by_cases hk : 0 < (k.length : Int)
    · rw [if_pos hk]
      exact go (decide_eq_true hk)
    · rw [if_neg hk]
      exact q1 (decide_eq_false hk) _ (pat_consN pat_nil)
  )
theorem sc_law_draw : FnScope ["script", "k", "many", "cell", "seed"] ["script", "k", "many"] (defScope (topS 28)) := ⟨rfl, rfl, rfl, by decide +kernel, rfl, by decide +kernel, by decide +kernel⟩
theorem c_law_draw {P : Program} {w : World} {K : PySem.W.Frag} {mg : Str → Option Value} {base : Heap} (hb : Bi K mg) (D : Df K mg "_law_draw" (topS 28) ["script", "k", "many"])  : Cal P w K mg base "_law_draw" 1 ["script", "k", "many"] T_law_draw := (by
  obtain ⟨f, fd, F, hm, hB⟩ := D
  refine ⟨f, fd, fn_d (k := 0) F sc_law_draw ?hT (fun cdv A outer s H E hr => (q_cons (s_set (j := 3) sc_law_draw.nd d_int)
 (q_cons (s_if (t_gt (d_lenV hb.len (vv 0)) d_int)
 (q_one (s_set (j := 3) sc_law_draw.nd (d_ixN 0 (fun _ _ => rfl) (d_mod (dv 1) (d_lenV hb.len (vv 0)))))) q_nil)
 (q_cons (s_set (j := 4) sc_law_draw.nd (d_mod (d_mul (d_add (d_add (d_mod (dv 3) d_int) (d_mul d_int (dv 1))) d_int) d_int) d_int))
 (q_one (s_ret (d_mod (d_mod (d_mul (d_mod (d_add (d_mul (dv 4) d_int) (dv 1)) d_int) d_int) d_int) (dv 2)))))))), hm, F.kp, hB⟩
  case hT =>
    intro a Q h
    obtain ⟨ns, k, many, rfl, hm, q⟩ := h
    refine ⟨rfl, ?_⟩
    walk_at "wpt"
    have hm0 : ¬ many = 0 := by omega
    have fin : ∀ (x : Int) (c : Dl.Ctx), Q (.d (.int (x.fmod many))) c := fun x c => q _ (fmod_pos hm).1 (fmod_pos hm).2 c
    split
    · rename_i hl
      obtain ⟨n, _, hn⟩ := atI_ints (ns := ns) (i := k.fmod ns.length) (fmod_pos hl).1 (fmod_pos hl).2
      refine ⟨by omega, _, hn, ?_⟩
      walk_at "wpt"
      exact ⟨mulA_l (by decide) (by decide), mulA_r (by decide) (by decide), mulA_r (by decide) (by decide), mulA_r (by decide) (by decide), hm0, fin _ _⟩
    · exact ⟨mulA_l (by decide) (by decide), mulA_r (by decide) (by decide), mulA_r (by decide) (by decide), mulA_r (by decide) (by decide), hm0, fin _ _⟩
  )
theorem sc_law_feed : FnScope ["script", "k", "cell"] ["script", "k"] (defScope (topS 29)) := ⟨rfl, rfl, rfl, by decide +kernel, rfl, by decide +kernel, by decide +kernel⟩
theorem c_law_feed {P : Program} {w : World} {K : PySem.W.Frag} {mg : Str → Option Value} {base : Heap} (hb : Bi K mg) (D : Df K mg "_law_feed" (topS 29) ["script", "k"])  : Cal P w K mg base "_law_feed" 1 ["script", "k"] T_law_feed := (by
  obtain ⟨f, fd, F, hm, hB⟩ := D
  refine ⟨f, fd, fn_d (k := 0) F sc_law_feed ?hT (fun cdv A outer s H E hr => (q_cons (s_set (j := 2) sc_law_feed.nd d_int)
 (q_cons (s_if (t_lt (dv 1) (d_lenV hb.len (vv 0)))
 (q_one (s_set (j := 2) sc_law_feed.nd (d_ixN 0 (fun _ _ => rfl) (dv 1)))) q_nil)
 (q_one (s_retP (FeedP) (o_lst (a_cons (dv 2) (a_cons (d_mul d_int (dv 1)) (a_cons (dv 0) a_nil))))))))), hm, F.kp, hB⟩
  case hT =>
    intro a Q h
    obtain ⟨ns, k, rfl, hk, q⟩ := h
    refine ⟨rfl, ?_⟩
    walk_at "wpt"
    split
    · rename_i hl
      obtain ⟨n, _, hn⟩ := atI_ints (ns := ns) (i := k) hk hl
      refine ⟨_, hn, ?_⟩
      walk_at "wpt"
      exact ⟨mulA_l (by decide) (by decide), ⟨_, _, ns, rfl⟩, q _⟩
    · exact ⟨mulA_l (by decide) (by decide), ⟨_, _, ns, rfl⟩, q _⟩
  )
theorem sc_law_next : FnScope ["feed", "many", "digit"] ["feed", "many"] (defScope (topS 30)) := ⟨rfl, rfl, rfl, by decide +kernel, rfl, by decide +kernel, by decide +kernel⟩
theorem c_law_next {P : Program} {w : World} {K : PySem.W.Frag} {mg : Str → Option Value} {base : Heap} (hb : Bi K mg) (D : Df K mg "_law_next" (topS 30) ["feed", "many"]) (C__law_draw : Cal P w K mg base "_law_draw" 1 ["script", "k", "many"] T_law_draw) : Cal P w K mg base "_law_next" 2 ["feed", "many"] T_law_next := (by
  obtain ⟨f, fd, F, hm, hB⟩ := D
  refine ⟨f, fd, fn_dP (k := 1) F sc_law_next ?hT (fun cdv A outer s H E hr => (q_cons (s_put 0 (d_add (d_ixN 0 (fun _ _ => rfl) d_int) d_int) d_int)
 (q_cons (s_if (DW.dt (w_or (t_eq hr.units (d_lenV hb.len (DE.dv (d_ixN 0 (fun _ _ => rfl) d_int))) d_int) (w_or1 (t_eq hr.units (d_mod (d_ix (fun _ _ => rfl) (d_ixN 0 (fun _ _ => rfl) d_int) d_int) d_int) d_int))))
 (q_one (s_ret (d_callC C__law_draw (hr.mono (by decide)) (a_cons (d_ixN 0 (fun _ _ => rfl) d_int) (a_cons (d_ixN 0 (fun _ _ => rfl) d_int) (a_cons (dv 1) a_nil)))))) q_nil)
 (q_cons (s_set (j := 2) sc_law_next.nd (d_mod (d_ixN 0 (fun _ _ => rfl) d_int) (dv 1)))
 (q_cons (s_put 0 (d_fdiv (d_ixN 0 (fun _ _ => rfl) d_int) (dv 1)) d_int)
 (q_one (s_ret (dv 2)))))))), hm, F.kp, hB⟩
  case hT =>
    intro a Q h
    obtain ⟨v, many, rfl, hm, hb9, q⟩ := h
    refine ⟨rfl, some v, FeedP, rfl, ?_⟩
    rintro ds ⟨c, k, ns, rfl⟩
    walk_at "wpt"
    have hm0 : ¬ many = 0 := by omega
    have fin : ∀ r, 0 ≤ r → r < many → ∀ l, Q (.d (.int r)) (.o (some v) (.lstP FeedP) :: l) := fun r h1 h2 l => q r h1 h2 _ rfl
    split
    · exact ⟨hm, fun r h1 h2 => ⟨⟨_, _, ns, rfl⟩, fin r h1 h2 _⟩⟩
    · rename_i hl
      obtain ⟨n, _, hn⟩ := atI_ints (ns := ns) (i := 0) (by omega) (by omega)
      refine ⟨_, hn, ?_⟩
      walk_at "wpt"
      split
      · exact ⟨hm, fun r h1 h2 => ⟨⟨_, _, ns, rfl⟩, fin r h1 h2 _⟩⟩
      · exact ⟨hm0, divA_b hm0 hb9 (by decide), ⟨_, _, ns, rfl⟩, fin _ (fmod_pos hm).1 (fmod_pos hm).2 _⟩
  )
theorem sc_law_great : FnScope ["feed"] ["feed"] (defScope (topS 31)) := ⟨rfl, rfl, rfl, by decide +kernel, rfl, by decide +kernel, by decide +kernel⟩
theorem c_law_great {P : Program} {w : World} {K : PySem.W.Frag} {mg : Str → Option Value} {base : Heap} (hb : Bi K mg) (D : Df K mg "_law_great" (topS 31) ["feed"]) (C__law_next : Cal P w K mg base "_law_next" 2 ["feed", "many"] T_law_next) : Cal P w K mg base "_law_great" 3 ["feed"] T_law_great := (by
  obtain ⟨f, fd, F, hm, hB⟩ := D
  refine ⟨f, fd, fn_d (k := 2) F sc_law_great ?hT (fun cdv A outer s H E hr => (q_one (s_ret (d_mod (d_add (d_mul (d_lendC 0 C__law_next (hr.mono (by decide)) (a_cons (d_pow d_int d_int) a_nil)) (d_pow d_int d_int)) (d_lendC 0 C__law_next (hr.mono (by decide)) (a_cons (d_pow d_int d_int) a_nil))) (d_pow d_int d_int))))), hm, F.kp, hB⟩
  case hT =>
    intro a Q h
    obtain ⟨v, rfl, q⟩ := h
    refine ⟨rfl, ?_⟩
    walk_at "wpt"
    refine ⟨powA (by decide), by decide, fun x x0 hx => ⟨powA (by decide), ?_⟩⟩
    have bx : Bd 200 x := bd_of (by omega) (Int.lt_trans hx (by decide))
    refine ⟨mulA_b bx (m := 200) (by decide) (by decide), powA (by decide), by decide, fun y y0 hy => ⟨powA (by decide), ?_⟩⟩
    exact q _ (fmod_pos (by decide)).1 (Int.lt_of_lt_of_le (fmod_pos (by decide)).2 (by decide)) _ rfl
  )
theorem sc_law_long : FnScope ["feed"] ["feed"] (defScope (topS 32)) := ⟨rfl, rfl, rfl, by decide +kernel, rfl, by decide +kernel, by decide +kernel⟩
theorem c_law_long {P : Program} {w : World} {K : PySem.W.Frag} {mg : Str → Option Value} {base : Heap} (hb : Bi K mg) (D : Df K mg "_law_long" (topS 32) ["feed"]) (C__law_great : Cal P w K mg base "_law_great" 3 ["feed"] T_law_great) (C__law_next : Cal P w K mg base "_law_next" 2 ["feed", "many"] T_law_next) : Cal P w K mg base "_law_long" 4 ["feed"] T_law_long := (by
  obtain ⟨f, fd, F, hm, hB⟩ := D
  refine ⟨f, fd, fn_d (k := 3) F sc_law_long ?hT (fun cdv A outer s H E hr => (q_cons (s_if (t_gt (d_lendC 0 C__law_next (hr.mono (by decide)) (a_cons d_int a_nil)) d_int)
 (q_one (s_ret (d_add d_int (d_lendC 0 C__law_next (hr.mono (by decide)) (a_cons d_int a_nil))))) q_nil)
 (q_one (s_ret (d_add d_int (d_lendC 0 C__law_great (hr.mono (by decide)) a_nil)))))), hm, F.kp, hB⟩
  case hT =>
    intro a Q h
    obtain ⟨v, rfl, q⟩ := h
    refine ⟨rfl, ?_⟩
    walk_at "wpt"
    refine ⟨by decide, fun r r0 hr => ?_⟩
    split
    · exact ⟨by decide, fun x x0 hx => q _ (by omega) (Int.le_trans (show 1 + x ≤ 9 by omega) (by decide)) _ rfl⟩
    · exact fun x x0 hx => q _ (by omega) (by omega) _ rfl
  )
theorem sc_law_name : FnScope ["feed", "names", "letters", "word", "k", "letter"] ["feed", "names"] (defScope (topS 33)) := ⟨rfl, rfl, rfl, by decide +kernel, rfl, by decide +kernel, by decide +kernel⟩
theorem c_law_name {P : Program} {w : World} {K : PySem.W.Frag} {mg : Str → Option Value} {base : Heap} (hb : Bi K mg) (D : Df K mg "_law_name" (topS 33) ["feed", "names"]) (C__law_next : Cal P w K mg base "_law_next" 2 ["feed", "many"] T_law_next) : Cal P w K mg base "_law_name" 3 ["feed", "names"] T_law_name := (by
  obtain ⟨f, fd, F, hm, hB⟩ := D
  refine ⟨f, fd, fn_d (k := 2) F sc_law_name ?hT (fun cdv A outer s H E hr => (q_cons (s_set (j := 2) sc_law_name.nd d_str)
 (q_cons (s_set (j := 3) sc_law_name.nd d_str)
 (q_cut (s_if (DW.dt (w_and (t_gt (d_lenV hb.len (vv 1)) d_int) (w_and1 (t_eq hr.units (d_lendC 0 C__law_next (hr.mono (by decide)) (a_cons d_int a_nil)) d_int))))
 (q_one (s_set (j := 3) sc_law_name.nd (d_sl (d_ixN 1 (fun _ _ => rfl) (d_neg d_int)) p_no (p_so d_int)))) q_nil)
 (q_cons (s_for PassesOwn.never rfl (i_range1 hb.range (d_add d_int (d_lendC 0 C__law_next (hr.mono (by decide)) (a_cons d_int a_nil)))) (g_name 4 sc_law_name.nd)
 (q_cons (s_set (j := 5) sc_law_name.nd (d_ixN 2 (fun _ _ => rfl) (d_lendC 0 C__law_next (hr.mono (by decide)) (a_cons d_int a_nil))))
 (q_one (s_if (t_lt (d_lenV hb.len (vv 3)) d_int)
 (q_one (s_set (j := 3) sc_law_name.nd (d_add (dv 3) (dv 5)))) q_nil))))
 (q_cut (s_if (t_eq hr.units (d_lendC 0 C__law_next (hr.mono (by decide)) (a_cons d_int a_nil)) d_int)
 (q_one (s_set (j := 3) sc_law_name.nd (d_ix (fun _ _ => rfl) (d_fz (o_lst (a_cons d_str (a_cons d_str (a_cons d_str (a_cons d_str (a_cons d_str (a_cons d_str (a_cons d_str a_nil))))))))) (d_lendC 0 C__law_next (hr.mono (by decide)) (a_cons d_int a_nil))))) q_nil)
 (q_cut (s_if (t_cmpN 3 (op_inA (hu65 hr)) opv_in (vv 1) (by rfl))
 (q_one (s_set (j := 3) sc_law_name.nd (d_ix (fun _ _ => rfl) (d_fz (o_lc [("letter", 5)] rfl sc_law_name.nd (i_seq (dv 2)) (by show blkC ["feed", "names", "letters", "word", "k", "letter"] (defScope (topS 33)) _ _ = true; decide +kernel) (fun _ _ _ _ _ => (g_name 5 sc_law_name.nd)) (fun _ _ _ _ _ => (b_one (t_cmpN 5 (op_notInA (hu65 hr)) opv_nin (vv 1) (by rfl)))) (fun _ _ _ _ _ => (dv 5)) (by decide))) d_int))) q_nil)
 (q_one (s_ret (dv 3)))))))))), hm, F.kp, hB⟩
  case hT =>
    intro a Q h
    obtain ⟨v, X, ws, rfl, hLk, hws, hl, q⟩ := h
    refine ⟨rfl, ?_⟩
    have hX := lk_facts hLk
    have stX : ∀ w ∈ ws, PyData.strOk w = true := fun w hw => word_ok (hws w hw)
    walk_at "wpx"
    -- the word's begin
    refine cut_by (fun c => ∃ w : Str, w.cps.size < 8 ∧ w.cps.toList.all chOk = true ∧ c = [.o (some v) (.lstP FeedP), X, .d (.str abc), .d (.str w), .no, .no]) ?_ ?_
    · intro N hN
      walk_at "wpx"
      have h0 : N [.o (some v) (.lstP FeedP), X, .d (.str abc), .d (.str (Str.ofString "")), .no, .no] := hN _ ⟨_, by decide +kernel, by decide +kernel, rfl⟩
      split
      · rename_i hlen
        refine ⟨by decide, fun r _ _ => ?_⟩
        split
        · obtain ⟨ws', w, rfl⟩ : ∃ l x, ws = l ++ [x] := by
            have : ws ≠ [] := fun z => by subst z; simp at hlen
            exact ⟨_, _, (List.dropLast_concat_getLast this).symm⟩
          refine ⟨.str w, by rw [List.map_append]; exact last_atI _ _, ?_⟩
          walk_at "wpx"
          have hw := hws w (by simp)
          have cw := cut_word hw 7 (by decide)
          refine ⟨Nat.le_trans (word_len hw) (by decide), hN _ ⟨_, ?_, cw.2.2, rfl⟩⟩
          exact Nat.lt_of_le_of_lt (cut_few w 7) (by decide)
        · exact h0
      · exact h0
    rintro c ⟨w0, hw8, hwc, rfl⟩
    walk_at "wpx"
    refine ⟨by decide, fun r r0 hr => ⟨by omega, by omega, ?_⟩⟩
    refine loop_by (fun i c => ∃ (w : Str) (x4 x5 : S), c = [.o (some v) (.lstP FeedP), X, .d (.str abc), .d (.str w), x4, x5] ∧ w.cps.size ≤ 8 ∧ w.cps.toList.all chOk = true ∧ (i = 0 → w.cps.size < 8) ∧ (0 < i → WordOk w)) ⟨w0, _, _, rfl, by omega, hwc, fun _ => hw8, fun z => absurd z (by decide)⟩ ?_ ?_
    · rintro i y c N hy ⟨w, x4, x5, rfl, h8, hc, hi0, hi1⟩ hN
      obtain ⟨hi, rfl⟩ := rngD_get hy
      walk_at "wpx"
      refine ⟨by decide, fun n n0 hn => ?_⟩
      obtain ⟨m, hm⟩ : ∃ m, abc.cps.toList[n.toNat]? = some m := ⟨_, List.getElem?_eq_getElem (by rw [abc_l.1]; omega)⟩
      have hch : chOk m = true := List.all_eq_true.mp abc_l.2.1 m (List.mem_of_getElem? hm)
      refine ⟨by decide +kernel, m, by rw [atI_of n0 (by rw [abc_l.1]; omega)]; exact hm, Nat.le_trans h8 (by decide), ?_⟩
      split
      · rename_i hlt
        have hlt' : w.cps.size < 8 := by
          have h : ((w.cps.size : Nat) : Int) < 8 := hlt
          omega
        have hw := word_more hlt' hc hch
        exact ⟨Nat.le_trans (show w.cps.size + 1 ≤ 9 by omega) (by decide), hN _ ⟨_, _, _, rfl, hw.2.1, hw.2.2, fun z => absurd z (by omega), fun _ => hw⟩⟩
      · rename_i hlt
        have hlt' : ¬ w.cps.size < 8 := by
          have h : ¬ ((w.cps.size : Nat) : Int) < 8 := hlt
          omega
        exact hN _ ⟨_, _, _, rfl, h8, hc, fun z => absurd z (by omega), fun _ => ⟨by omega, h8, hc⟩⟩
    rintro c ⟨w, x4, x5, rfl, _, _, _, hw⟩
    have hw := hw (by rw [rngD_len]; omega)
    clear hw8 hwc
    walk_at "wpx"
    refine cut_by (fun c => ∃ (w : Str) (x4 x5 : S), c = [.o (some v) (.lstP FeedP), X, .d (.str abc), .d (.str w), x4, x5] ∧ WordOk w) ?_ ?_
    · intro N hN
      walk_at "wpx"
      refine ⟨by decide, fun r r0 hr => ?_⟩
      split
      · refine ⟨by decide, fun k k0 hk => ?_⟩
        have key : ∀ x ∈ ([Str.ofString "one", Str.ofString "over", Str.ofString "row", Str.ofString "bore", Str.ofString "layer", Str.ofString "fault", Str.ofString "like"] : List Str), WordOk x := by unfold WordOk; decide +kernel
        refine atD_mem k0 (by simpa using hk) fun d hd => ?_
        obtain ⟨x, hx, rfl⟩ : ∃ x ∈ ([Str.ofString "one", Str.ofString "over", Str.ofString "row", Str.ofString "bore", Str.ofString "layer", Str.ofString "fault", Str.ofString "like"] : List Str), .str x = d := List.mem_map.mp (show d ∈ List.map PyData.str [Str.ofString "one", Str.ofString "over", Str.ofString "row", Str.ofString "bore", Str.ofString "layer", Str.ofString "fault", Str.ofString "like"] from hd)
        exact hN _ ⟨_, _, _, rfl, key x hx⟩
      · exact hN _ ⟨_, _, _, rfl, hw⟩
    rintro c ⟨w, x4, x5, rfl, hw⟩
    refine cut_by (fun c => ∃ (w : Str) (x4 x5 : S), c = [.o (some v) (.lstP FeedP), X, .d (.str abc), .d (.str w), x4, x5] ∧ WordOk w ∧ w ∉ ws) ?_ ?_
    · intro N hN
      walk_at "wpx"
      simp only [any_str, decide_eq_true_eq]
      refine ⟨word_ok hw, sh_strs stX, ?_⟩
      split
      · refine comp_fm (fun y => !(ws.map PyData.str).any fun z => PyData.eqv z y) (fun y => y) (by decide +kernel) (fun y hy N2 M2 hN2 hM2 => ?_) ?_
        · obtain ⟨n, hn, rfl⟩ := List.mem_map.mp hy
          have hch : chOk n = true := List.all_eq_true.mp abc_l.2.1 n hn
          walk_at "wpx"
          refine ⟨strOk_of (w := ⟨#[n]⟩) (by simp [hch]), sh_strs stX, ?_⟩
          split
          · rename_i hh
            exact hN2 (by simpa using hh) _ rfl
          · rename_i hh
            exact hM2 (by simpa using hh) _ rfl
        · walk_at "wpx"
          obtain ⟨n, hn, hn2⟩ : ∃ n ∈ abc.cps.toList, (⟨#[n]⟩ : Str) ∉ ws := by
            refine Classical.byContradiction fun hno => ?_
            have hall : ∀ n ∈ abc.cps.toList, (⟨#[n]⟩ : Str) ∈ ws := fun n hn => Classical.byContradiction fun z => hno ⟨n, hn, z⟩
            have h1 : (abc.cps.toList.map fun (n : Nat) => (⟨#[n]⟩ : Str)).Nodup := by decide +kernel
            have h2 := nodup_len h1 (m := ws) fun x hx => by
              obtain ⟨n, hn, rfl⟩ := List.mem_map.mp hx
              exact hall n hn
            rw [List.length_map, abc_l.1] at h2
            omega
          have hin : PyData.str ⟨#[n]⟩ ∈ List.map (fun y => y) (List.filter (fun y => !(ws.map PyData.str).any fun z => PyData.eqv z y) (Dl.signs abc)) := by
            refine List.mem_map.mpr ⟨_, List.mem_filter.mpr ⟨List.mem_map.mpr ⟨n, hn, rfl⟩, ?_⟩, rfl⟩
            rw [any_str, decide_eq_false hn2]; rfl
          refine atD_mem (by decide) (by have := List.length_pos_of_mem hin; simpa using this) fun d hd => ?_
          obtain ⟨y, hy, rfl⟩ := List.mem_map.mp hd
          obtain ⟨hy1, hy2⟩ := List.mem_filter.mp hy
          obtain ⟨m, hm, rfl⟩ := List.mem_map.mp hy1
          rw [any_str] at hy2
          have hch : chOk m = true := List.all_eq_true.mp abc_l.2.1 m hm
          exact hN _ ⟨_, _, _, rfl, ⟨by simp, by simp, by simp [hch]⟩, by simpa using hy2⟩
      · rename_i hn
        exact hN _ ⟨_, _, _, rfl, hw, hn⟩
    rintro c ⟨w, x4, x5, rfl, hw, hn⟩
    walk_at "wpx"
    exact q w hw hn _ (pat_consO (pat_cons pat_nil))
  )
theorem sc_law_names : FnScope ["feed", "many", "names", "k"] ["feed", "many"] (defScope (topS 34)) := ⟨rfl, rfl, rfl, by decide +kernel, rfl, by decide +kernel, by decide +kernel⟩
theorem c_law_names {P : Program} {w : World} {K : PySem.W.Frag} {mg : Str → Option Value} {base : Heap} (hb : Bi K mg) (D : Df K mg "_law_names" (topS 34) ["feed", "many"]) (C__law_next : Cal P w K mg base "_law_next" 2 ["feed", "many"] T_law_next) (C__law_name : Cal P w K mg base "_law_name" 3 ["feed", "names"] T_law_name) : Cal P w K mg base "_law_names" 4 ["feed", "many"] T_law_names := (by
  obtain ⟨f, fd, F, hm, hB⟩ := D
  refine ⟨f, fd, fn_d (k := 3) F sc_law_names ?hT (fun cdv A outer s H E hr => (q_cons (s_setO (j := 2) sc_law_names.nd (o_lst a_nil))
 (q_cons (s_for PassesOwn.never rfl (i_range1 hb.range (dv 1)) (g_name 3 sc_law_names.nd)
 (q_one (s_ins 2 (d_lendC 0 C__law_next (hr.mono (by decide)) (a_cons (d_add (d_lenV hb.len (vv 2)) d_int) a_nil)) (d_callA C__law_name (hr.mono (by decide)) (r_s 0 (r_s 2 r_nil))))))
 (q_one (s_retO (o_var 2)))))), hm, F.kp, hB⟩
  case hT =>
    intro a Q h
    obtain ⟨v, many, rfl, h0, h1, q⟩ := h
    refine ⟨rfl, ?_⟩
    walk_at "wpt"
    refine ⟨by omega, by omega, ?_⟩
    refine loop_by (fun i c => ∃ (ws : List Str) (x3 : S), c = [.o (some v) (.lstP FeedP), .d (.int many), .o none (.lst (ws.map PyData.str)), x3] ∧ NamesOk i ws) ⟨[], _, rfl, rfl, by simp, List.nodup_nil⟩ ?_ ?_
    · rintro i y c N hy ⟨ws, x3, rfl, hl, hok, hnd⟩ hN
      obtain ⟨hi, rfl⟩ := rngD_get hy
      walk_at "wpt"
      refine ⟨by omega, bd_of (by omega) (by omega), fun r r0 hr => ⟨hok, by omega, fun w hw hn => ⟨by have := sizeLine_eq; omega, r0, by omega, ?_⟩⟩⟩
      rw [insD_map]
      exact hN _ ⟨_, _, rfl, by rw [Dl.len_ins, hl], fun x hx => by
        rcases mem_ins.mp hx with rfl | hx
        · exact hw
        · exact hok x hx, nodup_ins hnd hn⟩
    · rintro c ⟨ws, x3, rfl, hw⟩
      rw [rngD_len] at hw
      walk_at "wpt"
      exact q _ hw _ rfl
  )
theorem sc_law_blocks : FnScope ["feed", "marks", "blocks", "k", "block"] ["feed", "marks"] (defScope (topS 35)) := ⟨rfl, rfl, rfl, by decide +kernel, rfl, by decide +kernel, by decide +kernel⟩
theorem c_law_blocks {P : Program} {w : World} {K : PySem.W.Frag} {mg : Str → Option Value} {base : Heap} (hb : Bi K mg) (D : Df K mg "_law_blocks" (topS 35) ["feed", "marks"]) (C__law_next : Cal P w K mg base "_law_next" 2 ["feed", "many"] T_law_next) (C__law_long : Cal P w K mg base "_law_long" 4 ["feed"] T_law_long) : Cal P w K mg base "_law_blocks" 5 ["feed", "marks"] T_law_blocks := (by
  obtain ⟨f, fd, F, hm, hB⟩ := D
  refine ⟨f, fd, fn_d (k := 4) F sc_law_blocks ?hT (fun cdv A outer s H E hr => (q_cons (s_setO (j := 2) sc_law_blocks.nd o_ll0)
 (q_cons (s_for PassesOwn.never rfl (i_range1 hb.range (d_add d_int (d_lendC 0 C__law_next (hr.mono (by decide)) (a_cons d_int a_nil)))) (g_name 3 sc_law_blocks.nd)
 (q_cut (s_if (DW.dt (w_and (t_gt (d_lllen 2 hb.len) d_int) (w_and1 (t_eq hr.units (d_lendC 0 C__law_next (hr.mono (by decide)) (a_cons d_int a_nil)) d_int))))
 (q_one (s_lln 2)) q_nil)
 (q_one (s_lla 2 (d_tup (a_cons (d_ixN 1 (fun _ _ => rfl) (d_lendC 0 C__law_next (hr.mono (by decide)) (a_cons (d_lenV hb.len (vv 1)) a_nil))) (a_cons (d_lendC 0 C__law_long (hr.mono (by decide)) a_nil) a_nil)))))))
 (q_one (s_ret (d_tupV hb.tuple (DE.dv (d_fz (o_lc [("block", 4)] rfl sc_law_blocks.nd (i_seq (dvf 2)) (by show blkC ["feed", "marks", "blocks", "k", "block"] (defScope (topS 35)) _ _ = true; decide +kernel) (fun _ _ _ _ _ => (g_name 4 sc_law_blocks.nd)) (fun _ _ _ _ _ => b_yes) (fun _ _ _ _ _ => (d_tupV hb.tuple (vv 4))) (by decide)))))))))), hm, F.kp, hB⟩
  case hT =>
    intro a Q h
    obtain ⟨v, ms, rfl, hms, hml, q⟩ := h
    refine ⟨rfl, ?_⟩
    have mpos : 0 < ms.length := List.length_pos_iff.mpr hms
    walk_at "wpt"
    refine ⟨by decide, fun r r0 hr => ⟨by omega, by omega, ?_⟩⟩
    refine loop_by (fun i c => ∃ (l : List (List (Str × Int))) (k : List (Str × Int)) (x3 : S), c = [.o (some v) (.lstP FeedP), .d (.list (ms.map PyData.str)), .o none (.lls ((l ++ [k]).map (·.map lyD))), x3, .no] ∧ BlAt ms i l k) ⟨[], [], _, rfl, by simp, by simp, by simp, by simp⟩ ?_ ?_
    · rintro i y c N hy ⟨l, k, x3, rfl, hb⟩ hN
      obtain ⟨hi, rfl⟩ := rngD_get hy
      walk_at "wpt"
      refine cut_by (fun c => ∃ (l : List (List (Str × Int))) (k : List (Str × Int)) (x3 : S), c = [.o (some v) (.lstP FeedP), .d (.list (ms.map PyData.str)), .o none (.lls ((l ++ [k]).map (·.map lyD))), x3, .no] ∧ k.length ≤ 6 ∧ ∀ y : Str × Int, (y.1 ∈ ms ∧ 1 ≤ y.2 ∧ y.2 ≤ big) → BlAt ms (i + 1) l (k ++ [y])) ?_ ?_
      · intro M hM
        walk_at "wpt"
        have k6 : k.length ≤ 6 := by
          have := hb.2.1
          omega
        have hM0 : ∀ x3, M [.o (some v) (.lstP FeedP), .d (.list (ms.map PyData.str)), .o none (.lls ((l ++ [k]).map (·.map lyD))), x3, .no] := fun x3 => hM _ ⟨l, k, x3, rfl, k6, fun y hy => blAt_more hb hy⟩
        refine last_D ?_
        walk_at "wpt"
        split
        · rename_i hk
          have hk' : k ≠ [] := fun z => by subst z; simp at hk
          refine ⟨by decide, fun r _ _ => ?_⟩
          split
          · have hl := blAt_few hb
            have := sizeLine_eq
            refine ⟨by rw [List.length_append, List.length_singleton]; omega, ?_⟩
            have := hM _ ⟨l ++ [k], [], .d (.int (0 + i)), rfl, by simp, fun y hy => blAt_new hb hk' hy⟩
            simpa using this
          · exact hM0 _
        · exact hM0 _
      · rintro c ⟨l, k, x3, rfl, k6, hb⟩
        walk_at "wpt"
        refine last_D ⟨?_, by omega, bd_of (by omega) (by omega), fun n n0 hn => atD_mem n0 (by simpa using hn) fun d hd t t1 tb => ?_⟩
        · have := sizeLine_eq
          rw [List.length_map]; omega
        · obtain ⟨m, hm, rfl⟩ := List.mem_map.mp hd
          have := hN _ ⟨l, k ++ [(m, t)], x3, rfl, hb (m, t) ⟨hm, t1, tb⟩⟩
          simpa [lyD] using this
    · rintro c ⟨l, k, x3, rfl, hb⟩
      rw [rngD_len] at hb
      walk_at "wpt"
      have hl := blAt_few hb
      refine comp_map (fun y => match y with | .list ds => .tuple ds | y => y) ?_ (fun y hy N hN => ?_) ?_
      · have := sizeLine_eq
        rw [List.length_map, List.length_map, List.length_append, List.length_singleton]
        omega
      · obtain ⟨ds, _, rfl⟩ := List.mem_map.mp hy
        walk_at "wpt"
        exact hN _ rfl
      · walk_at "wpt"
        have e : List.map (fun y => match y with | .list ds => .tuple ds | y => y) (List.map PyData.list (List.map (fun x => List.map lyD x) (l ++ [k]))) = (l ++ [k]).map blD := by
          rw [List.map_map, List.map_map]; rfl
        rw [e]
        exact q _ (blAt_end hb (by omega) (by omega)) _ rfl
  )
theorem sc_law_bores : FnScope ["script", "names", "marks", "holes", "spot", "k", "feed", "bore"] ["script", "names", "marks"] (defScope (topS 36)) := ⟨rfl, rfl, rfl, by decide +kernel, rfl, by decide +kernel, by decide +kernel⟩
theorem c_law_bores {P : Program} {w : World} {K : PySem.W.Frag} {mg : Str → Option Value} {base : Heap} (hb : Bi K mg) (D : Df K mg "_law_bores" (topS 36) ["script", "names", "marks"]) (C__law_next : Cal P w K mg base "_law_next" 2 ["feed", "many"] T_law_next) (C__law_blocks : Cal P w K mg base "_law_blocks" 5 ["feed", "marks"] T_law_blocks) (C__law_long : Cal P w K mg base "_law_long" 4 ["feed"] T_law_long) (C__law_feed : Cal P w K mg base "_law_feed" 1 ["script", "k"] T_law_feed) : Cal P w K mg base "_law_bores" 6 ["script", "names", "marks"] T_law_bores := (by
  obtain ⟨f, fd, F, hm, hB⟩ := D
  refine ⟨f, fd, fn_d (k := 5) F sc_law_bores ?hT (fun cdv A outer s H E hr => (q_cons (s_setO (j := 3) sc_law_bores.nd (o_lst a_nil))
 (q_cut (s_set (j := 4) sc_law_bores.nd (d_neg d_int))
 (q_cons (s_for PassesOwn.never rfl (i_range1 hb.range (d_lenV hb.len (vv 1))) (g_name 5 sc_law_bores.nd)
 (q_cut (s_setO (j := 6) sc_law_bores.nd (o_callC C__law_feed (hr.mono (by decide)) (a_cons (dv 0) (a_cons (d_add d_int (dv 5)) a_nil))))
 (q_cut (s_set (j := 4) sc_law_bores.nd (d_add (dv 4) (d_lendC 6 C__law_long (hr.mono (by decide)) a_nil)))
 (q_cut (s_set (j := 7) sc_law_bores.nd (d_tup (a_cons (d_ixN 1 (fun _ _ => rfl) (dv 5)) (a_cons (dv 4) (a_cons (d_sub (d_lendC 6 C__law_long (hr.mono (by decide)) a_nil) d_int) (a_cons (d_lendC 6 C__law_blocks (hr.mono (by decide)) (a_cons (dv 2) a_nil)) a_nil))))))
 (q_one (s_ins 3 (d_lendC 6 C__law_next (hr.mono (by decide)) (a_cons (d_add (d_lenV hb.len (vv 3)) d_int) a_nil)) (dv 7)))))))
 (q_one (s_retO (o_var 3))))))), hm, F.kp, hB⟩
  case hT =>
    intro a Q h
    obtain ⟨xs, ns, ms, rfl, hn, hms, hml, q⟩ := h
    refine ⟨rfl, ?_⟩
    have big0 := big_pos
    walk_at "wpt"
    refine cut_by (fun c => c = [.d (.list (xs.map PyData.int)), .d (.list (ns.map PyData.str)), .d (.list (ms.map PyData.str)), .o none (.lst []), .d (.int (-1)), .no, .no, .no]) ?_ ?_
    · intro M hM
      walk_at "wpt"
      exact hM _ rfl
    rintro c rfl
    walk_at "wpt"
    refine ⟨by omega, by omega, ?_⟩
    refine loop_by (fun i c => ∃ (bs : List Bo) (sp : Int) (x5 x6 x7 : S), c = [.d (.list (xs.map PyData.int)), .d (.list (ns.map PyData.str)), .d (.list (ms.map PyData.str)), .o none (.lst (bs.map boD)), .d (.int sp), x5, x6, x7] ∧ BosAt ns ms i bs sp) ⟨[], -1, _, _, _, rfl, bosAt_0 ns ms⟩ ?_ ?_
    · rintro i y c N hy ⟨bs, sp, x5, x6, x7, rfl, hb⟩ hN
      obtain ⟨hi, rfl⟩ := rngD_get hy
      have hi' : i < ns.length := by omega
      have hlen := hb.len
      refine cut_by (fun c => c = [.d (.list (xs.map PyData.int)), .d (.list (ns.map PyData.str)), .d (.list (ms.map PyData.str)), .o none (.lst (bs.map boD)), .d (.int sp), .d (.int (0 + i)), .o none (.lstP FeedP), x7]) ?_ ?_
      · intro M hM
        walk_at "wpt"
        exact ⟨by omega, hM _ rfl⟩
      rintro c rfl
      refine cut_by (fun c => ∃ r, 1 ≤ r ∧ r ≤ big ∧ c = [.d (.list (xs.map PyData.int)), .d (.list (ns.map PyData.str)), .d (.list (ms.map PyData.str)), .o none (.lst (bs.map boD)), .d (.int (sp + r)), .d (.int (0 + i)), .o none (.lstP FeedP), x7]) ?_ ?_
      · intro M hM
        walk_at "wpt"
        exact fun r h1 h2 => hM _ ⟨r, h1, h2, rfl⟩
      rintro c ⟨r, r1, rb, rfl⟩
      refine cut_by (fun c => ∃ (z : Str) (t : Int) (bl : List (List (Str × Int))), ns[i]? = some z ∧ 1 ≤ t ∧ t ≤ big ∧ BlOk ms bl ∧ c = [.d (.list (xs.map PyData.int)), .d (.list (ns.map PyData.str)), .d (.list (ms.map PyData.str)), .o none (.lst (bs.map boD)), .d (.int (sp + r)), .d (.int (0 + i)), .o none (.lstP FeedP), .d (boD ⟨z, sp + r, t - 1, bl⟩)]) ?_ ?_
      · intro M hM
        walk_at "wpt"
        exact atD_get hi' fun z hz t t1 tb => ⟨hms, hml, fun bl hbl => hM _ ⟨z, t, bl, hz, t1, tb, hbl, rfl⟩⟩
      rintro c ⟨z, t, bl, hz, t1, tb, hbl, rfl⟩
      walk_at "wpt"
      refine ⟨by omega, bd_of (by omega) (by omega), fun n n0 hn => ⟨by have := sizeLine_eq; omega, n0, by omega, ?_⟩⟩
      rw [insD_map boD bs n.toNat ⟨z, sp + r, t - 1, bl⟩]
      exact hN _ ⟨_, _, _, _, _, rfl, bosAt_more hb hz (by omega) r1 rb t1 tb hbl _⟩
    · rintro c ⟨bs, sp, x5, x6, x7, rfl, hb⟩
      walk_at "wpt"
      refine q _ ?_ (fun b hm => ?_) _
      · have := hb.ok
        rw [rngD_len] at this
        rw [List.take_of_length_le (by omega)] at this
        exact this
      · have h1 := hb.far b hm
        have h2 := hb.hi
        rw [rngD_len] at h2
        exact Int.le_trans h1 h2
  )
theorem sc_law_likes : FnScope ["feed", "marks", "likes", "k", "one", "other", "like", "told"] ["feed", "marks"] (defScope (topS 37)) := ⟨rfl, rfl, rfl, by decide +kernel, rfl, by decide +kernel, by decide +kernel⟩
theorem c_law_likes {P : Program} {w : World} {K : PySem.W.Frag} {mg : Str → Option Value} {base : Heap} (hb : Bi K mg) (D : Df K mg "_law_likes" (topS 37) ["feed", "marks"]) (C__law_next : Cal P w K mg base "_law_next" 2 ["feed", "many"] T_law_next) : Cal P w K mg base "_law_likes" 3 ["feed", "marks"] T_law_likes := (by
  obtain ⟨f, fd, F, hm, hB⟩ := D
  refine ⟨f, fd, fn_d (k := 2) F sc_law_likes ?hT (fun cdv A outer s H E hr => (q_cons (s_setO (j := 2) sc_law_likes.nd (o_lst a_nil))
 (q_cons (s_for PassesOwn.never rfl (i_range1 hb.range (d_lendC 0 C__law_next (hr.mono (by decide)) (a_cons d_int a_nil))) (g_name 3 sc_law_likes.nd)
 (q_cons (s_set (j := 4) sc_law_likes.nd (d_ixN 1 (fun _ _ => rfl) (d_lendC 0 C__law_next (hr.mono (by decide)) (a_cons (d_lenV hb.len (vv 1)) a_nil))))
 (q_cons (s_set (j := 5) sc_law_likes.nd (d_ixN 1 (fun _ _ => rfl) (d_lendC 0 C__law_next (hr.mono (by decide)) (a_cons (d_lenV hb.len (vv 1)) a_nil))))
 (q_cons (s_set (j := 6) sc_law_likes.nd (d_tup (a_cons (dv 4) (a_cons (dv 5) (a_cons (d_add d_int (d_lendC 0 C__law_next (hr.mono (by decide)) (a_cons d_int a_nil))) a_nil)))))
 (q_one (s_if (t_cmpL (op_notInA (hu65 hr)) opv_nin (d_fz (o_sortS hb.sorted (DE.dv (d_fz (o_lst (a_cons (dv 4) (a_cons (dv 5) a_nil))))))) (DE.dv (d_fz (o_lcN 2 [("told", 7)] rfl sc_law_likes.nd  (by show blkC ["feed", "marks", "likes", "k", "one", "other", "like", "told"] (defScope (topS 37)) _ _ = true; decide +kernel) (fun _ _ _ _ _ => (g_name 7 sc_law_likes.nd)) (fun _ _ _ _ _ => b_yes) (fun _ _ _ _ _ => (d_fz (o_sortST hb.sorted (DE.dv (d_sl (dv 7) p_no (p_so d_int)))))) (by decide)))) (by rfl))
 (q_one (s_ins 2 (d_lendC 0 C__law_next (hr.mono (by decide)) (a_cons (d_add (d_lenV hb.len (vv 2)) d_int) a_nil)) (dv 6))) q_nil))))))
 (q_one (s_retO (o_var 2)))))), hm, F.kp, hB⟩
  case hT =>
    intro a Q h
    obtain ⟨v, ms, rfl, m0, m1, hms, q⟩ := h
    refine ⟨rfl, ?_⟩
    have hsz := sizeLine_eq
    (repeat (refine seq_gen fun Nx hS => ?_; walk_at "st"; refine hS _ ?_; clear hS))
    (refine seq_gen fun Nx hS => ?_; walk_at "st")
    refine ⟨by decide, fun n n0 n1 => ⟨by omega, by omega, ?_⟩⟩
    refine loop_by (fun i c => ∃ (ls : List Lk3) (x3 x4 x5 x6 : S), c = [.o (some v) (.lstP FeedP), .d (.list (ms.map PyData.str)), .o none (.lst (ls.map lkD)), x3, x4, x5, x6, .no] ∧ LkTo ms ls ∧ ls.length ≤ i) ⟨[], _, _, _, _, rfl, ⟨fun l h => by simp at h, fun l h => by simp at h, List.Pairwise.nil⟩, Nat.le_refl _⟩ ?_ ?_
    · rintro i y c N hy ⟨ls, x3, x4, x5, x6, rfl, hL, hl⟩ hN
      obtain ⟨hi, rfl⟩ := rngD_get hy
      have hi5 : i < 5 := by omega
      simp only [↓asT_t, ↓asC_c, gT, gsCons, gsNil, gN, List.length_cons, List.length_nil, List.set_cons_zero, List.set_cons_succ, Nat.zero_add, Nat.reduceAdd, true_and]
      (refine seq_gen fun Nx hS => ?_; walk_at "st")
      refine ⟨by omega, bd_of (by omega) (by omega), fun a a0 a1 => ?_⟩
      obtain ⟨⟨wa, ha, ea⟩, ka⟩ := getD_at (r := ms) a0 a1
      refine ka ?_
      obtain ⟨A, hA⟩ : ∃ A, A = ms.getD a.toNat "" := ⟨_, rfl⟩
      rw [← hA] at ea ⊢
      (refine hS _ ?_; try clear hS; (repeat (refine seq_gen fun Nx hS => ?_; walk_at "st"; refine hS _ ?_; clear hS)))
      (refine seq_gen fun Nx hS => ?_; walk_at "st")
      refine ⟨by omega, bd_of (by omega) (by omega), fun b b0 b1 => ?_⟩
      obtain ⟨⟨wb, hb, eb⟩, kb⟩ := getD_at (r := ms) b0 b1
      refine kb ?_
      obtain ⟨Bq, hB⟩ : ∃ B, B = ms.getD b.toNat "" := ⟨_, rfl⟩
      rw [← hB] at eb ⊢
      (refine hS _ ?_; try clear hS; (repeat (refine seq_gen fun Nx hS => ?_; walk_at "st"; refine hS _ ?_; clear hS)))
      (refine seq_gen fun Nx hS => ?_; walk_at "st")
      refine ⟨by decide, fun p p0 p1 => ?_⟩
      (refine hS _ ?_; try clear hS; (repeat (refine seq_gen fun Nx hS => ?_; walk_at "st"; refine hS _ ?_; clear hS)))
      subst ea eb
      (try walk_at "wpt")
      refine ⟨[wa, wb], rfl, by simp, fun ss hp hs => ?_⟩
      obtain rfl := sortP_of hp hs
      refine compJ_mm (f0 := lkD) (fun l => .list ((sortP l.1 l.2.1).map PyData.str)) (by omega) rfl (fun l hl N hN => ?_) ?_
      · rw [show lkD l = .tuple [.str l.1, .str l.2.1, .int l.2.2] from rfl]
        (try walk_at "wpt")
        rw [show cutL [PyData.str l.1, .str l.2.1, .int l.2.2] none (some 2) = [.str l.1, .str l.2.1] from rfl]
        refine ⟨[l.1, l.2.1], rfl, by simp, fun ss hp hs => ?_⟩
        obtain rfl := sortP_of hp hs
        exact hN _ rfl
      have sok : ∀ {x y : Str}, x ∈ ms → y ∈ ms → ∀ w ∈ sortP x y, PyData.strOk w = true := fun {x y} hx hy w hw => by
        have := (sortP_perm x y).mem_iff.mp hw
        simp at this
        rcases this with rfl | rfl
        · exact hms _ hx
        · exact hms _ hy
      have pls : ∀ {x y : Str}, x ∈ ms → y ∈ ms → Pl 1 (.list ((sortP x y).map PyData.str)) := fun hx hy => pl_map fun w hw => pl_str (sok hx hy w hw)
      (try walk_at "wpt")
      refine ⟨(pls ha hb).sh, sh_list.mpr fun d hd => ?_, ?_⟩
      · obtain ⟨l, hl, rfl⟩ := List.mem_map.mp hd
        exact (pls (hL.inm l hl).1 (hL.inm l hl).2).1.mono (by decide)
      split
      · rename_i hno
        have hno : ∀ l ∈ ls, sortP l.1 l.2.1 ≠ sortP wa wb := fun l hl e => by
          have h1 := List.any_eq_false.mp hno _ (List.mem_map.mpr ⟨l, hl, rfl⟩)
          rw [e, (pls ha hb).self] at h1
          exact h1 rfl
        (try walk_at "wpt")
        refine ⟨by omega, bd_of (by omega) (by omega), fun r r0 r1 => ⟨by omega, r0, by omega, ?_⟩⟩
        rw [show (PyData.tuple [.str wa, .str wb, .int (1 + p)]) = lkD (wa, wb, 1 + p) from rfl, insD_map lkD ls r.toNat (wa, wb, 1 + p)]
        refine hN _ ⟨_, _, _, _, _, rfl, ⟨fun l hl => ?_, fun l hl => ?_, ?_⟩, by rw [Dl.len_ins]; omega⟩
        · rcases mem_ins.mp hl with rfl | hl
          · exact ⟨hms _ ha, hms _ hb, by show 1 ≤ 1 + p; omega, by show 1 + p ≤ 9; omega⟩
          · exact hL.ok l hl
        · rcases mem_ins.mp hl with rfl | hl
          · exact ⟨ha, hb⟩
          · exact hL.inm l hl
        · refine (List.Perm.pairwise_iff (R := fun x y : Lk3 => sortP x.1 x.2.1 ≠ sortP y.1 y.2.1) (fun h => h.symm) (perm_ins (w := ((wa, wb, 1 + p) : Lk3)))).mpr (List.pairwise_cons.mpr ⟨fun l hl (e : sortP wa wb = sortP l.1 l.2.1) => hno l hl e.symm, hL.far⟩)
      · (try walk_at "wpt")
        exact hN _ ⟨_, _, _, _, _, rfl, hL, by omega⟩
    · rintro c ⟨ls, x3, x4, x5, x6, rfl, hL, hl⟩
      rw [rngD_len] at hl
      (refine hS _ ?_; try clear hS; (repeat (refine seq_gen fun Nx hS => ?_; walk_at "st"; refine hS _ ?_; clear hS)))
      (try walk_at "wpt")
      exact q ls hL (by omega) _ rfl
  )
theorem sc_law_marks : FnScope ["feed", "names", "marks"] ["feed", "names"] (defScope (topS 38)) := ⟨rfl, rfl, rfl, by decide +kernel, rfl, by decide +kernel, by decide +kernel⟩
theorem c_law_marks {P : Program} {w : World} {K : PySem.W.Frag} {mg : Str → Option Value} {base : Heap} (hb : Bi K mg) (D : Df K mg "_law_marks" (topS 38) ["feed", "names"]) (C__law_next : Cal P w K mg base "_law_next" 2 ["feed", "many"] T_law_next) (C__law_names : Cal P w K mg base "_law_names" 4 ["feed", "many"] T_law_names) : Cal P w K mg base "_law_marks" 5 ["feed", "names"] T_law_marks := (by
  obtain ⟨f, fd, F, hm, hB⟩ := D
  refine ⟨f, fd, fn_d (k := 4) F sc_law_marks ?hT (fun cdv A outer s H E hr => (q_cons (s_setO (j := 2) sc_law_marks.nd (o_lendC 0 C__law_names (hr.mono (by decide)) (a_cons (d_add d_int (d_lendC 0 C__law_next (hr.mono (by decide)) (a_cons d_int a_nil))) a_nil)))
 (q_cut (s_if (DW.dt (w_and (t_gt (d_lenV hb.len (vv 1)) d_int) (w_and1 (t_eq hr.units (d_lendC 0 C__law_next (hr.mono (by decide)) (a_cons d_int a_nil)) d_int))))
 (q_one (s_setO (j := 2) sc_law_marks.nd (o_listV hb.list (vv 1)))) q_nil)
 (q_one (s_retO (o_var 2)))))), hm, F.kp, hB⟩
  case hT =>
    intro a Q h
    obtain ⟨v, ns, rfl, nl, hns, q⟩ := h
    refine ⟨rfl, ?_⟩
    have hsz := sizeLine_eq
    (refine seq_gen fun Nx hS => ?_; walk_at "st")
    refine ⟨by decide, fun r r0 r1 => ⟨by omega, by omega, fun ws hws => ?_⟩⟩
    have wl := hws.len
    (refine hS _ ?_; try clear hS; (repeat (refine seq_gen fun Nx hS => ?_; walk_at "st"; refine hS _ ?_; clear hS)))
    refine cut_by (fun c => ∃ (ms : List Str), c = [.o (some v) (.lstP FeedP), .d (.list (ns.map PyData.str)), .o none (.lst (ms.map PyData.str))] ∧ 0 < ms.length ∧ ms.length ≤ 6 ∧ ∀ w ∈ ms, WordOk w) ?_ ?_
    · intro M hM
      (try walk_at "wpt")
      split
      · refine ⟨by decide, fun z z0 z1 => ?_⟩
        split
        · exact hM _ ⟨ns, rfl, by omega, by omega, hns⟩
        · exact hM _ ⟨ws, rfl, by omega, by omega, hws.ok⟩
      · exact hM _ ⟨ws, rfl, by omega, by omega, hws.ok⟩
    rintro c ⟨ms, rfl, m0, m6, hms⟩
    (try walk_at "wpt")
    exact q ms m0 m6 hms _ rfl
  )
theorem sc_law_field : FnScope ["script", "feed", "names", "marks"] ["script"] (defScope (topS 39)) := ⟨rfl, rfl, rfl, by decide +kernel, rfl, by decide +kernel, by decide +kernel⟩
theorem c_law_field {P : Program} {w : World} {K : PySem.W.Frag} {mg : Str → Option Value} {base : Heap} (hb : Bi K mg) (D : Df K mg "_law_field" (topS 39) ["script"]) (C__law_likes : Cal P w K mg base "_law_likes" 3 ["feed", "marks"] T_law_likes) (C__law_bores : Cal P w K mg base "_law_bores" 6 ["script", "names", "marks"] T_law_bores) (C__law_marks : Cal P w K mg base "_law_marks" 5 ["feed", "names"] T_law_marks) (C__law_feed : Cal P w K mg base "_law_feed" 1 ["script", "k"] T_law_feed) (C__law_names : Cal P w K mg base "_law_names" 4 ["feed", "many"] T_law_names) (C__law_next : Cal P w K mg base "_law_next" 2 ["feed", "many"] T_law_next) : Cal P w K mg base "_law_field" 7 ["script"] T_law_field := (by
  obtain ⟨f, fd, F, hm, hB⟩ := D
  refine ⟨f, fd, fn_d (k := 6) F sc_law_field ?hT (fun cdv A outer s H E hr => (q_cons (s_setO (j := 1) sc_law_field.nd (o_callC C__law_feed (hr.mono (by decide)) (a_cons (dv 0) (a_cons d_int a_nil))))
 (q_cons (s_setO (j := 2) sc_law_field.nd (o_lendC 1 C__law_names (hr.mono (by decide)) (a_cons (d_ix (fun _ _ => rfl) (d_fz (o_lst (a_cons d_int (a_cons d_int (a_cons d_int (a_cons d_int (a_cons d_int (a_cons d_int (a_cons d_int (a_cons d_int a_nil)))))))))) (d_lendC 1 C__law_next (hr.mono (by decide)) (a_cons d_int a_nil))) a_nil)))
 (q_cons (s_setO (j := 1) sc_law_field.nd (o_callC C__law_feed (hr.mono (by decide)) (a_cons (dv 0) (a_cons d_int a_nil))))
 (q_cons (s_setO (j := 3) sc_law_field.nd (o_lendC 1 C__law_marks (hr.mono (by decide)) (a_cons (dvf 2) a_nil)))
 (q_one (s_ret (d_tup (a_cons (d_tupV hb.tuple (DE.dv (d_fz (o_callC C__law_bores (hr.mono (by decide)) (a_cons (dv 0) (a_cons (dvf 2) (a_cons (dvf 3) a_nil))))))) (a_cons (d_tupV hb.tuple (DE.dv (d_fz (o_lendC 1 C__law_likes (hr.mono (by decide)) (a_cons (dvf 3) a_nil))))) a_nil)))))))))), hm, F.kp, hB⟩
  case hT =>
    intro a Q h
    obtain ⟨xs, rfl, q⟩ := h
    refine ⟨rfl, ?_⟩
    have hsz := sizeLine_eq
    (refine seq_gen fun Nx hS => ?_; walk_at "st")
    (refine hS _ ?_; try clear hS; (repeat (refine seq_gen fun Nx hS => ?_; walk_at "st"; refine hS _ ?_; clear hS)))
    (refine seq_gen fun Nx hS => ?_; walk_at "st")
    refine ⟨by decide, fun r r0 r1 => atD_mem r0 (by simpa using r1) fun z hz => ?_⟩
    obtain ⟨m, rfl, h0, h6⟩ : ∃ m : Int, z = .int m ∧ 0 ≤ m ∧ m ≤ 6 := by
      simp only [List.mem_cons, List.not_mem_nil, or_false] at hz
      rcases hz with rfl | rfl | rfl | rfl | rfl | rfl | rfl | rfl <;> exact ⟨_, rfl, by decide, by decide⟩
    intro v
    (try walk_at "wpt")
    refine ⟨h0, by omega, fun ws hws => ?_⟩
    have wl := hws.len
    (refine hS _ ?_; try clear hS; (repeat (refine seq_gen fun Nx hS => ?_; walk_at "st"; refine hS _ ?_; clear hS)))
    (refine seq_gen fun Nx hS => ?_; walk_at "st")
    refine ⟨by omega, hws.ok, fun ms n0 n6 hms => ?_⟩
    (refine hS _ ?_; try clear hS; (repeat (refine seq_gen fun Nx hS => ?_; walk_at "st"; refine hS _ ?_; clear hS)))
    (try walk_at "wpt")
    refine ⟨by omega, fun e => by rw [e] at n0; simp at n0, by omega, fun bs hbs hc => ⟨n0, by omega, fun w hw => word_ok (hms w hw), fun ls hL hll => ?_⟩⟩
    exact q ws ms bs ls ⟨hms, n0, n6, hL, hll, hbs, hws.ok, by omega, hws.nd, fun b hb => by
      have h1 := hc b hb
      have h2 : (ws.length : Int) * big ≤ 6 * big := Int.mul_le_mul_of_nonneg_right (by omega) (Int.le_of_lt big_pos)
      exact Int.le_trans h1 h2⟩ _
  )
theorem sc_law_rows : FnScope ["field", "rows", "name", "spot", "top", "blocks", "k", "mark", "other", "points", "thick"] ["field"] (defScope (topS 40)) := ⟨rfl, rfl, rfl, by decide +kernel, rfl, by decide +kernel, by decide +kernel⟩
theorem c_law_rows {P : Program} {w : World} {K : PySem.W.Frag} {mg : Str → Option Value} {base : Heap} (hb : Bi K mg) (D : Df K mg "_law_rows" (topS 40) ["field"])  : Cal P w K mg base "_law_rows" 1 ["field"] T_law_rows := (by
  obtain ⟨f, fd, F, hm, hB⟩ := D
  refine ⟨f, fd, fn_d (k := 0) F sc_law_rows ?hT (fun cdv A outer s H E hr => (q_cons (s_setO (j := 1) sc_law_rows.nd (o_lst a_nil))
 (q_cons (s_for PassesOwn.never rfl (i_seq (d_ixN 0 (fun _ _ => rfl) d_int)) (g_tup (n := 4) rfl (gs_cons (g_name 2 sc_law_rows.nd) (gs_cons (g_name 3 sc_law_rows.nd) (gs_cons (g_name 4 sc_law_rows.nd) (gs_cons (g_name 5 sc_law_rows.nd) gs_nil)))))
 (q_cons (s_app 1 (d_add (d_add (d_add (d_add (d_add d_str (dv 2)) d_str) (d_str_ hb.str (vv 3))) d_str) (d_str_ hb.str (vv 4))))
 (q_one (s_for PassesOwn.never rfl (i_range1 hb.range (d_lenV hb.len (vv 5))) (g_name 6 sc_law_rows.nd)
 (q_cons (s_setO (j := 1) sc_law_rows.nd (o_catN 1 (DE.dv (d_fz (o_rep (o_lst (a_cons d_str a_nil)) (d_intS hb.int (DE.dv (d_gt (dv 6) d_int))))))))
 (q_one (s_for PassesOwn.never rfl (i_seq (d_ixN 5 (fun _ _ => rfl) (dv 6))) (g_tup (n := 2) rfl (gs_cons (g_name 7 sc_law_rows.nd) (gs_cons (g_name 10 sc_law_rows.nd) gs_nil)))
 (q_one (s_app 1 (d_add (d_add (d_add d_str (dv 7)) d_str) (d_str_ hb.str (vv 10))))))))))))
 (q_cons (s_for PassesOwn.never rfl (i_seq (d_ixN 0 (fun _ _ => rfl) d_int)) (g_tup (n := 3) rfl (gs_cons (g_name 7 sc_law_rows.nd) (gs_cons (g_name 8 sc_law_rows.nd) (gs_cons (g_name 9 sc_law_rows.nd) gs_nil))))
 (q_one (s_app 1 (d_add (d_add (d_add (d_add (d_add d_str (dv 7)) d_str) (dv 8)) d_str) (d_str_ hb.str (vv 9))))))
 (q_one (s_retO (o_var 1))))))), hm, F.kp, hB⟩
  case hT =>
    intro a Q h
    obtain ⟨bs, ls, rfl, fx, q⟩ := h
    refine ⟨rfl, ?_⟩
    have hsz := sizeLine_eq
    have lb : ∀ x y : Str, (x ++ y).length = x.length + y.length := fun x y => by
      show (x.cps ++ y.cps).size = _
      rw [Array.size_append]; rfl
    have l1 : (Str.ofString "bore ").length = 5 := by decide +kernel
    have l2 : (Str.ofString " ").length = 1 := by decide +kernel
    have l3 : (Str.ofString "layer ").length = 6 := by decide +kernel
    have l4 : (Str.ofString "like ").length = 5 := by decide +kernel
    obtain ⟨rD, hrD⟩ : ∃ rD : List Str → PyData, rD = fun ws => .str (rowT ws) := ⟨_, rfl⟩
    have rD_ : ∀ ws, PyData.str (rowT ws) = rD ws := fun ws => by rw [hrD]
    (repeat (refine seq_gen fun Nx hS => ?_; walk_at "st"; refine hS _ ?_; clear hS))
    (try walk_at "wpt")
    refine loop_by (fun i c => ∃ (x2 x3 x4 x5 x6 x7 x10 : S), c = [.d (.tuple [.tuple (bs.map boD), .tuple (ls.map lkD)]), .o none (.lst (((bs.take i).map boW).flatten.map rD)), x2, x3, x4, x5, x6, x7, .no, .no, x10] ∧ True) ⟨_, _, _, _, _, _, _, rfl, trivial⟩ ?_ ?_
    · rintro i y c N hy ⟨x2, x3, x4, x5, x6, x7, x8, rfl, -⟩ hN
      obtain ⟨b, hb, rfl⟩ := map_get hy
      have bx := fx.bo b (List.mem_of_getElem? hb)
      have n1 := bx.nm
      have n2 := num_len bx.at_
      have n3 := num_len bx.top
      have bf := bx.few
      rw [show boD b = .tuple [.str b.nm, .int b.at_, .int b.top, .tuple (b.bl.map blD)] from rfl]
      have l5 := fld_take fx (i + 1) 0
      rw [List.take_add_one, hb] at l5
      simp only [Option.toList_some, List.map_append, List.map_cons, List.map_nil, List.flatten_append, List.flatten_cons, List.flatten_nil, List.append_nil, List.take_zero, List.length_append] at l5
      have lbo : (boW b).length = 1 + (blksW b.bl).length := by unfold boW; rw [List.length_cons]; omega
      obtain ⟨P, hP⟩ : ∃ P, P = ((bs.take i).map boW).flatten := ⟨_, rfl⟩
      rw [← hP] at l5 ⊢
      simp only [↓asT_t, ↓asC_c, gT, gsCons, gsNil, gN, List.length_cons, List.length_nil, List.set_cons_zero, List.set_cons_succ, Nat.zero_add, Nat.reduceAdd, true_and]
      (refine seq_gen fun Nx hS => ?_; walk_at "st")
      rw [show Str.ofString (toString b.at_) = numT b.at_ from rfl, show Str.ofString (toString b.top) = numT b.top from rfl]
      simp only [lb, l1, l2, List.length_map]
      refine ⟨by omega, by omega, num_log bx.at_, by omega, by omega, num_log bx.top, by omega, by omega, ?_⟩
      rw [row_bore, rD_]
      (refine hS _ ?_; try clear hS; (repeat (refine seq_gen fun Nx hS => ?_; walk_at "st"; refine hS _ ?_; clear hS)))
      (try walk_at "wpt")
      refine ⟨by omega, by omega, ?_⟩
      have b40 : ∀ i, (blksW (b.bl.take i)).length ≤ 1000 * 1001 := fun i => by
        have h1 := blksW_len (l := b.bl.take i) (m := 1000) fun k hk => (bx.bl k (List.mem_of_mem_take hk)).2.1
        have h2 : (b.bl.take i).length ≤ 1000 := by rw [List.length_take]; omega
        exact Nat.le_trans h1 (Nat.mul_le_mul_right _ h2)
      rw [show List.map rD P ++ [rD (headW b)] = (P ++ headW b :: blksW (b.bl.take 0)).map rD by rw [List.map_append]; rfl]
      
      refine loop_by (fun i c => ∃ (x6 x7 x10 : S), c = [.d (.tuple [.tuple (bs.map boD), .tuple (ls.map lkD)]), .o none (.lst ((P ++ headW b :: blksW (b.bl.take i)).map rD)), .d (.str b.nm), .d (.int b.at_), .d (.int b.top), .d (.tuple (b.bl.map blD)), x6, x7, .no, .no, x10] ∧ True) ⟨_, _, _, rfl, trivial⟩ ?_ ?_
      · rintro j y c N1 hy ⟨x6, x7, x8, rfl, -⟩ hN1
        obtain ⟨jl, rfl⟩ := rngD_get hy
        obtain ⟨k, hk⟩ : ∃ k, b.bl[j]? = some k := ⟨_, List.getElem?_eq_getElem jl⟩
        obtain ⟨k0, k1, k2⟩ := bx.bl k (List.mem_of_getElem? hk)
        have tk : b.bl.take (j + 1) = b.bl.take j ++ [k] := by rw [List.take_add_one, hk]; rfl
        have bi := b40 j
        rw [Int.zero_add]
        simp only [↓asT_t, ↓asC_c, gT, gsCons, gsNil, gN, List.length_cons, List.length_nil, List.set_cons_zero, List.set_cons_succ, Nat.zero_add, Nat.reduceAdd, true_and]
        obtain ⟨pre, hpre⟩ : ∃ pre : List (List Str), pre = P ++ headW b :: (if j = 0 then [] else blksW (b.bl.take j) ++ [fltW]) := ⟨_, rfl⟩
        have pl : pre.length ≤ 3000000 := by
          rw [hpre, List.length_append]
          split
          · simp; omega
          · rw [List.length_cons, List.length_append, List.length_singleton]; omega
        have fin : pre ++ k.map layW = P ++ headW b :: blksW (b.bl.take (j + 1)) := by
          rw [hpre, tk]
          split
          · rename_i z
            subst z
            rw [List.append_assoc]; rfl
          · rename_i z
            have ne : b.bl.take j ≠ [] := fun e => by
              have := congrArg List.length e
              rw [List.length_take, List.length_nil] at this
              omega
            rw [blksW_app _ _ ne]
            simp
        (try walk_at "wpt")
        obtain ⟨q1, hq1⟩ : ∃ q, q = (if (0 : Int) < (j : Int) then (1 : Int) else 0) := ⟨_, rfl⟩
        rw [← hq1]
        have h01 : 0 ≤ q1 ∧ q1 ≤ 1 := by rw [hq1]; split <;> omega
        have er : (P ++ headW b :: blksW (b.bl.take j)).map rD ++ repD [PyData.str (Str.ofString "fault")] q1 = pre.map rD := by
          rw [hpre, hq1]
          by_cases z : j = 0
          · subst z
            rw [if_neg (by omega), if_pos rfl]
            show _ ++ [] = _
            rw [List.append_nil]; rfl
          · rw [if_pos (by omega), if_neg z]
            show _ ++ [PyData.str (Str.ofString "fault")] = _
            rw [show (Str.ofString "fault") = rowT fltW from rfl, rD_]
            simp
        have el := congrArg List.length er
        rw [List.length_append, List.length_map, List.length_map] at el
        refine ⟨by omega, by omega, by omega, by omega, ?_⟩
        rw [er]
        refine atD_map hk ?_
        rw [show blD k = .tuple (k.map lyD) from rfl]
        (try walk_at "wpt")
        refine loop_by (fun j' c => ∃ (x7 x10 : S), c = [.d (.tuple [.tuple (bs.map boD), .tuple (ls.map lkD)]), .o none (.lst ((pre ++ (k.take j').map layW).map rD)), .d (.str b.nm), .d (.int b.at_), .d (.int b.top), .d (.tuple (b.bl.map blD)), .d (.int (j : Nat)), x7, .no, .no, x10] ∧ True) ⟨x7, x8, by rw [List.take_zero, List.map_nil, List.append_nil], trivial⟩ ?_ ?_
        · rintro j' y c N2 hy ⟨x3, x4, rfl, -⟩ hN2
          obtain ⟨l, hl, rfl⟩ := map_get hy
          obtain ⟨m1, m2⟩ := k2 l (List.mem_of_getElem? hl)
          have jl := get_lt hl
          have n4 := num_len m2
          rw [show lyD l = .tuple [.str l.1, .int l.2] from rfl]
          simp only [↓asT_t, ↓asC_c, gT, gsCons, gsNil, gN, List.length_cons, List.length_nil, List.set_cons_zero, List.set_cons_succ, Nat.zero_add, Nat.reduceAdd, true_and]
          (try walk_at "wpt")
          rw [show Str.ofString (toString l.2) = numT l.2 from rfl]
          simp only [lb, l2, l3]
          refine ⟨by omega, by omega, num_log m2, by omega, by rw [List.length_append, List.length_map, List.length_take]; omega, ?_⟩
          rw [row_layer, rD_]
          have e : (pre ++ (k.take j').map layW).map rD ++ [rD (layW l)] = (pre ++ (k.take (j' + 1)).map layW).map rD := by rw [List.take_add_one, hl]; simp
          rw [e]
          exact hN2 _ ⟨_, _, rfl, trivial⟩
        · rintro c ⟨x3, x4, rfl, -⟩
          rw [List.length_map, List.take_length, fin]
          exact hN1 _ ⟨_, _, _, rfl, trivial⟩
      rintro c ⟨x6, x7, x8, rfl, -⟩
      rw [rngD_len, List.take_length]
      have e : (P ++ headW b :: blksW b.bl) = ((bs.take (i + 1)).map boW).flatten := by rw [hP, List.take_add_one, hb]; simp [boW]
      rw [e]
      exact hN _ ⟨_, _, _, _, _, _, _, rfl, trivial⟩
    rintro c ⟨x2, x3, x4, x5, x6, x7, x8, rfl, -⟩
    rw [List.length_map, List.take_length]
    (try walk_at "wpt")
    refine loop_by (fun i c => ∃ (x7 x8 x9 x10 : S), c = [.d (.tuple [.tuple (bs.map boD), .tuple (ls.map lkD)]), .o none (.lst (((bs.map boW).flatten ++ (ls.take i).map likW).map rD)), x2, x3, x4, x5, x6, x7, x8, x9, x10] ∧ True) ⟨_, _, _, _, by rw [List.take_zero, List.map_nil, List.append_nil], trivial⟩ ?_ ?_
    · rintro i y c N hy ⟨y3, y4, y5, y6, rfl, -⟩ hN
      obtain ⟨l, hl, rfl⟩ := map_get hy
      obtain ⟨m1, m2, m3⟩ := fx.lk l (List.mem_of_getElem? hl)
      have n4 := num_len m3
      rw [show lkD l = .tuple [.str l.1, .str l.2.1, .int l.2.2] from rfl]
      have l5 := fld_take fx bs.length i
      rw [List.take_length] at l5
      simp only [↓asT_t, ↓asC_c, gT, gsCons, gsNil, gN, List.length_cons, List.length_nil, List.set_cons_zero, List.set_cons_succ, Nat.zero_add, Nat.reduceAdd, true_and]
      (try walk_at "wpt")
      rw [show Str.ofString (toString l.2.2) = numT l.2.2 from rfl]
      simp only [lb, l2, l4]
      refine ⟨by omega, by omega, by omega, by omega, num_log m3, by omega, by omega, ?_⟩
      rw [row_like, rD_]
      have e : ((bs.map boW).flatten ++ (ls.take i).map likW).map rD ++ [rD (likW l)] = ((bs.map boW).flatten ++ (ls.take (i + 1)).map likW).map rD := by rw [List.take_add_one, hl]; simp
      rw [e]
      exact hN _ ⟨_, _, _, _, rfl, trivial⟩
    rintro c ⟨y3, y4, y5, y6, rfl, -⟩
    rw [List.length_map, List.take_length]
    rw [show ((bs.map boW).flatten ++ ls.map likW).map rD = (fldW bs ls).map fun ws => PyData.str (rowT ws) by rw [hrD]; rfl]
    (try walk_at "wpt")
    exact q _
  )
theorem sc_law_bent_row : FnScope ["feed", "row", "words", "at", "way", "odd", "spot", "sign"] ["feed", "row"] (defScope (topS 41)) := ⟨rfl, rfl, rfl, by decide +kernel, rfl, by decide +kernel, by decide +kernel⟩
theorem c_law_bent_row {P : Program} {w : World} {K : PySem.W.Frag} {mg : Str → Option Value} {base : Heap} (hb : Bi K mg) (D : Df K mg "_law_bent_row" (topS 41) ["feed", "row"]) (C__law_next : Cal P w K mg base "_law_next" 2 ["feed", "many"] T_law_next) : Cal P w K mg base "_law_bent_row" 3 ["feed", "row"] T_law_bent_row := (by
  obtain ⟨f, fd, F, hm, hB⟩ := D
  refine ⟨f, fd, fn_d (k := 2) F sc_law_bent_row ?hT (fun cdv A outer s H E hr => (q_cons (s_setO (j := 2) sc_law_bent_row.nd (o_split (dv 1) d_str))
 (q_cons (s_set (j := 3) sc_law_bent_row.nd (d_lendC 0 C__law_next (hr.mono (by decide)) (a_cons (d_lenV hb.len (vv 2)) a_nil)))
 (q_cons (s_set (j := 4) sc_law_bent_row.nd (d_lendC 0 C__law_next (hr.mono (by decide)) (a_cons d_int a_nil)))
 (q_cons (s_setO (j := 5) sc_law_bent_row.nd (o_lst (a_cons d_str (a_cons d_str (a_cons d_str (a_cons (d_mulS d_str d_int) (a_cons (d_mulS d_str d_int) (a_cons d_str (a_cons d_str (a_cons d_str (a_cons d_str (a_cons d_str (a_cons d_str a_nil)))))))))))))
 (q_cons (s_setO (j := 5) sc_law_bent_row.nd (o_catN 5 (DE.dv (d_fz (o_lst (a_cons d_str (a_cons d_str (a_cons d_str (a_cons d_str (a_cons d_str (a_cons d_str (a_cons d_str (a_cons d_str (a_cons d_str a_nil))))))))))))))
 (q_cons (s_if (t_eq hr.units (dv 4) d_int)
 (q_one (s_ret (d_join d_str (DE.dv (d_fz (o_catL (d_fz (o_slN 2 p_no (p_so (dv 3)))) (DE.dv (d_fz (o_slN 2 (p_so (d_add (dv 3) d_int)) p_no)))))) (fun _ _ h => ⟨rfl, h⟩)))) q_nil)
 (q_cons (s_if (t_eq hr.units (dv 4) d_int)
 (q_one (s_ret (d_join d_str (DE.dv (d_fz (o_catL (d_fz (o_slN 2 p_no (p_so (d_add (dv 3) d_int)))) (DE.dv (d_fz (o_slN 2 (p_so (dv 3)) p_no)))))) (fun _ _ h => ⟨rfl, h⟩)))) q_nil)
 (q_cons (s_if (t_eq hr.units (dv 4) d_int)
 (q_one (s_ret (d_join d_str (DE.dv (d_fz (o_catL (d_fz (o_catL (d_fz (o_slN 2 p_no (p_so (dv 3)))) (DE.dv (d_fz (o_lst (a_cons (d_ixN 5 (fun _ _ => rfl) (d_lendC 0 C__law_next (hr.mono (by decide)) (a_cons d_int a_nil))) a_nil)))))) (DE.dv (d_fz (o_slN 2 (p_so (d_add (dv 3) d_int)) p_no)))))) (fun _ _ h => ⟨rfl, h⟩)))) q_nil)
 (q_cons (s_set (j := 6) sc_law_bent_row.nd (d_lendC 0 C__law_next (hr.mono (by decide)) (a_cons (d_add (d_lenV hb.len (vv 1)) d_int) a_nil)))
 (q_cons (s_if (t_eq hr.units (dv 4) d_int)
 (q_one (s_ret (d_add (d_sl (dv 1) p_no (p_so (dv 6))) (d_sl (dv 1) (p_so (d_add (dv 6) d_int)) p_no)))) q_nil)
 (q_cons (s_set (j := 7) sc_law_bent_row.nd (d_ix (fun _ _ => rfl) (d_fz (o_lst (a_cons d_str (a_cons d_str (a_cons d_str (a_cons d_str (a_cons d_str (a_cons d_str a_nil)))))))) (d_lendC 0 C__law_next (hr.mono (by decide)) (a_cons d_int a_nil))))
 (q_one (s_ret (d_add (d_add (d_sl (dv 1) p_no (p_so (dv 6))) (dv 7)) (d_sl (dv 1) (p_so (d_add (dv 6) (d_lendC 0 C__law_next (hr.mono (by decide)) (a_cons d_int a_nil)))) p_no)))))))))))))))), hm, F.kp, hB⟩
  case hT =>
    intro a Q h
    obtain ⟨v, w, rfl, hw, wl, q⟩ := h
    refine ⟨rfl, ?_⟩
    have hsz := sizeLine_eq
    (repeat (refine seq_gen fun Nx hS => ?_; walk_at "st"; refine hS _ ?_; clear hS))
    (refine seq_gen fun Nx hS => ?_; walk_at "st")
    refine ⟨by decide +kernel, by omega, ?_⟩
    (refine hS _ ?_; try clear hS; (repeat (refine seq_gen fun Nx hS => ?_; walk_at "st"; refine hS _ ?_; clear hS)))
    (refine seq_gen fun Nx hS => ?_; walk_at "st")
    have ne : Txt.split w (Str.ofString " ") ≠ [] := split_ne w 32
    have few : (Txt.split w (Str.ofString " ")).length ≤ w.length + 1 := split_few w 32
    have wok : ∀ x ∈ Txt.split w (Str.ofString " "), PyData.strOk x = true ∧ x.length ≤ w.length := fun x hx => ⟨split_ok hw x hx, split_len hx⟩
    obtain ⟨ws, hws⟩ : ∃ ws, ws = Txt.split w (Str.ofString " ") := ⟨_, rfl⟩
    rw [← hws] at ne few wok ⊢
    have pos := List.length_pos_iff.mpr ne
    refine ⟨by omega, bd_of (by omega) (by omega), fun r r0 r1 => ?_⟩
    (refine hS _ ?_; try clear hS; (repeat (refine seq_gen fun Nx hS => ?_; walk_at "st"; refine hS _ ?_; clear hS)))
    (refine seq_gen fun Nx hS => ?_; walk_at "st")
    refine ⟨bd_of (by decide) (by decide), fun way w0 w5 => ?_⟩
    (refine hS _ ?_; try clear hS; (repeat (refine seq_gen fun Nx hS => ?_; walk_at "st"; refine hS _ ?_; clear hS)))
    (refine seq_gen fun Nx hS => ?_; walk_at "st")
    refine ⟨⟨by decide +kernel, by decide +kernel, by decide +kernel⟩, ⟨by decide +kernel, by decide +kernel, by decide +kernel⟩, by omega, ?_⟩
    (refine hS _ ?_; try clear hS; (repeat (refine seq_gen fun Nx hS => ?_; walk_at "st"; refine hS _ ?_; clear hS)))
    (refine seq_gen fun Nx hS => ?_; walk_at "st")
    refine ⟨by omega, by omega, ?_⟩
    obtain ⟨O, hO⟩ : ∃ O : List Str, O = [Str.ofString "", Str.ofString "0", Str.ofString "07", Txt.mul (Str.ofString "1") 61, Txt.mul (Str.ofString "9") 60, Str.ofString "abcdefghi", Str.ofString "A", Str.ofString "a1", Str.ofString "bore", Str.ofString "layer", Str.ofString "fault", Str.ofString "like", Str.ofString "-3", Str.ofString "+3", Str.ofString "1_0", Str.ofString "10", Str.ofString "9", Str.ofString "1", Str.ofString "a", Str.ofString "ab"] := ⟨_, rfl⟩
    have oo : ∀ x ∈ O, PyData.strOk x = true ∧ x.length ≤ 61 ∧ nlF x = 0 := by rw [hO]; decide +kernel
    have ol : O.length = 20 := by rw [hO]; rfl
    suffices hh : Nx ([.o (some v) (.lstP FeedP), .d (.str w), .o none (.lst (ws.map PyData.str)), .d (.int r), .d (.int way), .o none (.lst (O.map PyData.str)), .no, .no] : Dl.Ctx) by
      rw [hO] at hh
      exact hh
    clear hO
    (refine hS _ ?_; try clear hS; (repeat (refine seq_gen fun Nx hS => ?_; walk_at "st"; refine hS _ ?_; clear hS)))
    (refine seq_gen fun Nx hS => ?_; walk_at "st")
    have sz := split_sz w
    have nl := split_nl w
    rw [← hws] at sz nl
    obtain ⟨k, hk⟩ : ∃ k : Nat, r = (k : Int) := ⟨r.toNat, by omega⟩
    subst hk
    have c0 : cutL (ws.map PyData.str) none (some (k : Int)) = (ws.take k).map PyData.str := by rw [cutL_to, ← List.map_take]
    have c1 : ∀ i : Nat, cutL (ws.map PyData.str) (some (i : Int)) none = (ws.drop i).map PyData.str := fun i => by rw [cutL_from, ← List.map_drop]
    have c2 : ∀ i : Nat, cutL (ws.map PyData.str) none (some (i : Int)) = (ws.take i).map PyData.str := fun i => by rw [cutL_to, ← List.map_take]
    have sp1 : (Str.ofString " ").length = 1 := by decide +kernel
    have wsk : ∀ i, ∀ x ∈ ws.take i, PyData.strOk x = true := fun i x hx => (wok x (List.mem_of_mem_take hx)).1
    have wsd : ∀ i, ∀ x ∈ ws.drop i, PyData.strOk x = true := fun i x hx => (wok x (List.mem_of_mem_drop hx)).1
    have szc := szL_cut ws
    have nlc := nlL_cut ws
    have jo : ∀ ps : List Str, (∀ p ∈ ps, PyData.strOk p = true) → szL ps + ps.length ≤ 2 * w.length + 100 → nlL ps ≤ 2 * nlF w + 1 → ∀ c : Dl.Ctx, c[0]? = some (.o (some v) (.lstP FeedP)) → asSs (ps.map PyData.str) fun ys => (ys.map fun x => x.length).sum + ys.length * (Str.ofString " ").length ≤ 16777216 ∧ Q (.d (.str (Txt.join (Str.ofString " ") ys))) c := fun ps h1 h2 h3 c hc => by
      have h4 := join_le ps
      refine ⟨ps, rfl, ?_, q _ (join_ok h1) (by omega) (by rw [join_nl]; exact h3) c hc⟩
      show szL ps + ps.length * (Str.ofString " ").length ≤ _
      rw [sp1]; omega
    by_cases y0 : way = 0
    · rw [if_pos y0, c0, show ((k : Int) + 1) = ((k + 1 : Nat) : Int) by omega, c1, ← List.map_append]
      have s1 := szc k
      have s2 := szc (k + 1)
      have n1 := nlc k
      have n2 := nlc (k + 1)
      have sm : szL (ws.take k ++ ws.drop (k + 1)) ≤ szL ws := by
        rw [szL_app]
        have h3 : szL (ws.take k) ≤ szL (ws.take (k + 1)) := by
          have := szL_app (ws.take k) ((ws.take (k + 1)).drop k)
          rw [show ws.take k = (ws.take (k + 1)).take k by rw [List.take_take, Nat.min_eq_left (by omega)], List.take_append_drop] at this
          rw [List.take_take, Nat.min_eq_left (by omega)] at this
          omega
        omega
      have l1 : (ws.take k ++ ws.drop (k + 1)).length ≤ ws.length := by rw [List.length_append, List.length_take, List.length_drop]; omega
      have nm : nlL (ws.take k ++ ws.drop (k + 1)) ≤ nlL ws := by
        rw [nlL_app]
        have h3 : nlL (ws.take k) ≤ nlL (ws.take (k + 1)) := by
          have := nlL_app (ws.take k) ((ws.take (k + 1)).drop k)
          rw [show ws.take k = (ws.take (k + 1)).take k by rw [List.take_take, Nat.min_eq_left (by omega)], List.take_append_drop] at this
          rw [List.take_take, Nat.min_eq_left (by omega)] at this
          omega
        omega
      refine ⟨by rw [List.length_map, List.length_map]; rw [List.length_append] at l1; omega, jo _ (fun p hp => ?_) (by omega) (by omega) _ rfl⟩
      rcases List.mem_append.mp hp with z | z
      · exact wsk _ p z
      · exact wsd _ p z
    rw [if_neg y0]
    (refine hS _ ?_; try clear hS; (repeat (refine seq_gen fun Nx hS => ?_; walk_at "st"; refine hS _ ?_; clear hS)))
    (refine seq_gen fun Nx hS => ?_; walk_at "st")
    by_cases y1 : way = 1
    · rw [if_pos y1, show ((k : Int) + 1) = ((k + 1 : Nat) : Int) by omega, c2, c1, ← List.map_append]
      have s1 := szc k
      have s2 := szc (k + 1)
      have n1 := nlc k
      have n2 := nlc (k + 1)
      have sa := szL_app (ws.take (k + 1)) (ws.drop k)
      have na := nlL_app (ws.take (k + 1)) (ws.drop k)
      have l1 : (ws.take (k + 1) ++ ws.drop k).length ≤ ws.length + 1 := by rw [List.length_append, List.length_take, List.length_drop]; omega
      refine ⟨by rw [List.length_map, List.length_map]; rw [List.length_append] at l1; omega, jo _ (fun p hp => ?_) (by omega) (by omega) _ rfl⟩
      rcases List.mem_append.mp hp with z | z
      · exact wsk _ p z
      · exact wsd _ p z
    rw [if_neg y1]
    (refine hS _ ?_; try clear hS; (repeat (refine seq_gen fun Nx hS => ?_; walk_at "st"; refine hS _ ?_; clear hS)))
    (refine seq_gen fun Nx hS => ?_; walk_at "st")
    by_cases y2 : way = 2
    · rw [if_pos y2]
      refine ⟨bd_of (by decide) (by decide), fun p p0 p1 => atD_mem p0 (by rw [List.length_map, ol]; exact p1) fun z hz => ?_⟩
      obtain ⟨x, hx, rfl⟩ := List.mem_map.mp hz
      obtain ⟨x1, x2, x3⟩ := oo x hx
      rw [c0, show ((k : Int) + 1) = ((k + 1 : Nat) : Int) by omega, c1, show (ws.take k).map PyData.str ++ [PyData.str x] = (ws.take k ++ [x]).map PyData.str by rw [List.map_append]; rfl, ← List.map_append]
      have s2 := szc (k + 1)
      have n2 := nlc (k + 1)
      have tk : ws.take (k + 1) = ws.take k ++ [ws[k]] := by rw [List.take_add_one, List.getElem?_eq_getElem (by omega)]; rfl
      have s3 := szL_app (ws.take k) [ws[k]]
      have n3 := nlL_app (ws.take k) [ws[k]]
      rw [← tk] at s3 n3
      have sa := szL_app (ws.take k ++ [x]) (ws.drop (k + 1))
      have na := nlL_app (ws.take k ++ [x]) (ws.drop (k + 1))
      have sb := szL_app (ws.take k) [x]
      have nb := nlL_app (ws.take k) [x]
      have sx : szL [x] = x.length := by unfold szL; simp
      have nx : nlL [x] = nlF x := by unfold nlL; simp
      have l1 : (ws.take k ++ [x] ++ ws.drop (k + 1)).length ≤ ws.length + 1 := by rw [List.length_append, List.length_append, List.length_take, List.length_drop, List.length_singleton]; omega
      refine ⟨by rw [List.length_map, List.length_take]; omega, by rw [List.length_map, List.length_map]; rw [List.length_append] at l1; omega, jo _ (fun p hp => ?_) (by omega) (by omega) _ rfl⟩
      rcases List.mem_append.mp hp with z | z
      · rcases List.mem_append.mp z with z | z
        · exact wsk _ p z
        · rw [List.mem_singleton.mp z]; exact x1
      · exact wsd _ p z
    rw [if_neg y2]
    (refine hS _ ?_; try clear hS; (repeat (refine seq_gen fun Nx hS => ?_; walk_at "st"; refine hS _ ?_; clear hS)))
    (refine seq_gen fun Nx hS => ?_; walk_at "st")
    refine ⟨by omega, by omega, bd_of (by omega) (by omega), fun p p0 p1 => ?_⟩
    obtain ⟨j, hj⟩ : ∃ j : Nat, p = (j : Int) := ⟨p.toNat, by omega⟩
    subst hj
    (refine hS _ ?_; try clear hS; (repeat (refine seq_gen fun Nx hS => ?_; walk_at "st"; refine hS _ ?_; clear hS)))
    (refine seq_gen fun Nx hS => ?_; walk_at "st")
    by_cases y3 : way = 3
    · rw [if_pos y3]
      have a1 := cutS_len w none (some (j : Int))
      have a2 := cutS_len w (some ((j : Int) + 1)) none
      have b1 := cutS_nl w none (some (j : Int))
      have b2 := cutS_nl w (some ((j : Int) + 1)) none
      refine ⟨by omega, by omega, by omega, q _ (strOk_app (cutS_ok hw _ _) (cutS_ok hw _ _)) ?_ ?_ _ rfl⟩
      · rw [str_app_len]; omega
      · rw [nlF_app]; omega
    rw [if_neg y3]
    (refine hS _ ?_; try clear hS; (repeat (refine seq_gen fun Nx hS => ?_; walk_at "st"; refine hS _ ?_; clear hS)))
    (refine seq_gen fun Nx hS => ?_; walk_at "st")
    refine ⟨bd_of (by decide) (by decide), fun p p0 p1 => atD_mem p0 (by simpa using p1) fun z hz => ?_⟩
    obtain ⟨x, rfl, x1, x2, x3⟩ : ∃ x : Str, z = .str x ∧ PyData.strOk x = true ∧ x.length ≤ 1 ∧ nlF x ≤ 1 := by
      simp only [List.mem_cons, List.not_mem_nil, or_false] at hz
      rcases hz with rfl | rfl | rfl | rfl | rfl | rfl <;> exact ⟨_, rfl, by decide +kernel⟩
    (refine hS _ ?_; try clear hS; (repeat (refine seq_gen fun Nx hS => ?_; walk_at "st"; refine hS _ ?_; clear hS)))
    (try walk_at "wpt")
    have a1 := cutS_len w none (some (j : Int))
    have b1 := cutS_nl w none (some (j : Int))
    refine ⟨by omega, by omega, bd_of (by decide) (by decide), fun e e0 e1 => ?_⟩
    have a2 := cutS_len w (some ((j : Int) + e)) none
    have b2 := cutS_nl w (some ((j : Int) + e)) none
    have l1 := str_app_len (cutS w none (some (j : Int))) x
    have l2 := str_app_len (cutS w none (some (j : Int)) ++ x) (cutS w (some ((j : Int) + e)) none)
    have n1 := nlF_app (cutS w none (some (j : Int))) x
    have n2 := nlF_app (cutS w none (some (j : Int)) ++ x) (cutS w (some ((j : Int) + e)) none)
    exact ⟨by omega, by omega, q _ (strOk_app (strOk_app (cutS_ok hw _ _) x1) (cutS_ok hw _ _)) (by omega) (by omega) _ rfl⟩
  )
theorem sc_law_bent : FnScope ["feed", "rows", "way", "odd", "to", "at", "left"] ["feed", "rows"] (defScope (topS 42)) := ⟨rfl, rfl, rfl, by decide +kernel, rfl, by decide +kernel, by decide +kernel⟩
theorem c_law_bent {P : Program} {w : World} {K : PySem.W.Frag} {mg : Str → Option Value} {base : Heap} (hb : Bi K mg) (D : Df K mg "_law_bent" (topS 42) ["feed", "rows"]) (C__law_bent_row : Cal P w K mg base "_law_bent_row" 3 ["feed", "row"] T_law_bent_row) (C__law_next : Cal P w K mg base "_law_next" 2 ["feed", "many"] T_law_next) : Cal P w K mg base "_law_bent" 4 ["feed", "rows"] T_law_bent := (by
  obtain ⟨f, fd, F, hm, hB⟩ := D
  refine ⟨f, fd, fn_d (k := 3) F sc_law_bent ?hT (fun cdv A outer s H E hr => (q_cons (s_set (j := 2) sc_law_bent.nd (d_lendC 0 C__law_next (hr.mono (by decide)) (a_cons d_int a_nil)))
 (q_cons (s_setO (j := 3) sc_law_bent.nd (o_lst (a_cons d_str (a_cons d_str (a_cons d_str (a_cons d_str (a_cons d_str (a_cons d_str (a_cons d_str a_nil)))))))))
 (q_cons (s_setO (j := 3) sc_law_bent.nd (o_catN 3 (DE.dv (d_fz (o_lst (a_cons d_str (a_cons d_str (a_cons d_str a_nil))))))))
 (q_cons (s_set (j := 4) sc_law_bent.nd (d_lendC 0 C__law_next (hr.mono (by decide)) (a_cons (d_add (d_lenV hb.len (vv 1)) d_int) a_nil)))
 (q_cons (s_if (DW.dt (w_or (t_eq hr.units (dv 2) d_int) (w_or1 (t_eq hr.units (d_lenV hb.len (vv 1)) d_int))))
 (q_one (s_ret (d_fz (o_catL (d_fz (o_catL (d_fz (o_slN 1 p_no (p_so (dv 4)))) (DE.dv (d_fz (o_lst (a_cons (d_ixN 3 (fun _ _ => rfl) (d_lendC 0 C__law_next (hr.mono (by decide)) (a_cons d_int a_nil))) a_nil)))))) (DE.dv (d_fz (o_slN 1 (p_so (dv 4)) p_no))))))) q_nil)
 (q_cons (s_set (j := 5) sc_law_bent.nd (d_lendC 0 C__law_next (hr.mono (by decide)) (a_cons (d_lenV hb.len (vv 1)) a_nil)))
 (q_cons (s_if (t_eq hr.units (dv 2) d_int)
 (q_one (s_ret (d_fz (o_catL (d_fz (o_slN 1 p_no (p_so (dv 5)))) (DE.dv (d_fz (o_slN 1 (p_so (d_add (dv 5) d_int)) p_no))))))) q_nil)
 (q_cons (s_if (t_eq hr.units (dv 2) d_int)
 (q_one (s_ret (d_fz (o_catL (d_fz (o_catL (d_fz (o_slN 1 p_no (p_so (dv 4)))) (DE.dv (d_fz (o_lst (a_cons (d_ixN 1 (fun _ _ => rfl) (dv 5)) a_nil)))))) (DE.dv (d_fz (o_slN 1 (p_so (dv 4)) p_no))))))) q_nil)
 (q_cons (s_if (t_eq hr.units (dv 2) d_int)
 (q_cons (s_setO (j := 6) sc_law_bent.nd (o_catL (d_fz (o_slN 1 p_no (p_so (dv 5)))) (DE.dv (d_fz (o_slN 1 (p_so (d_add (dv 5) d_int)) p_no)))))
 (q_one (s_ret (d_fz (o_catL (d_fz (o_catL (d_fz (o_slN 6 p_no (p_so (dv 4)))) (DE.dv (d_fz (o_lst (a_cons (d_ixN 1 (fun _ _ => rfl) (dv 5)) a_nil)))))) (DE.dv (d_fz (o_slN 6 (p_so (dv 4)) p_no)))))))) q_nil)
 (q_one (s_ret (d_fz (o_catL (d_fz (o_catL (d_fz (o_slN 1 p_no (p_so (dv 5)))) (DE.dv (d_fz (o_lst (a_cons (d_lendC 0 C__law_bent_row (hr.mono (by decide)) (a_cons (d_ixN 1 (fun _ _ => rfl) (dv 5)) a_nil)) a_nil)))))) (DE.dv (d_fz (o_slN 1 (p_so (d_add (dv 5) d_int)) p_no))))))))))))))))), hm, F.kp, hB⟩
  case hT =>
    intro a Q h
    obtain ⟨v, M, k, Z, L, C, n, rs, rfl, rb, Mb, nb, q⟩ := h
    refine ⟨rfl, ?_⟩
    have hsz := sizeLine_eq
    (repeat (refine seq_gen fun Nx hS => ?_; walk_at "st"; refine hS _ ?_; clear hS))
    (refine seq_gen fun Nx hS => ?_; walk_at "st")
    refine ⟨bd_of (by decide) (by decide), fun way w0 w7 => ?_⟩
    (refine hS _ ?_; try clear hS; (repeat (refine seq_gen fun Nx hS => ?_; walk_at "st"; refine hS _ ?_; clear hS)))
    (refine seq_gen fun Nx hS => ?_; walk_at "st")
    refine ⟨by decide, ?_⟩
    obtain ⟨O, hO⟩ : ∃ O : List Str, O = [Str.ofString "", Str.ofString "fault", Str.ofString "bore a 1 2", Str.ofString "layer a 1", Str.ofString "layer b 0", Str.ofString "like a b 3", Str.ofString "like b a 9", Str.ofString "like a a 10", Str.ofString "bore b 2 1\nlayer a 3", Str.ofString "faults"] := ⟨_, rfl⟩
    have oo : ∀ x ∈ O, PyData.strOk x = true ∧ x.length ≤ 30 ∧ nlF x ≤ 1 := by rw [hO]; decide +kernel
    have ol : O.length = 10 := by rw [hO]; rfl
    (refine hS _ ?_; try clear hS; (repeat (refine seq_gen fun Nx hS => ?_; walk_at "st"; refine hS _ ?_; clear hS)))
    (refine seq_gen fun Nx hS => ?_; walk_at "st")
    have rl := rb.len
    refine ⟨by omega, bd_of (by omega) (by omega), fun to t0 t1 => ?_⟩
    suffices hh : Nx ([.o (some v) (.lstP FeedP), .d (.list (rs.map PyData.str)), .d (.int way), .o none (.lst (O.map PyData.str)), .d (.int to), .no, .no] : Dl.Ctx) by
      rw [hO] at hh
      exact hh
    clear hO
    (refine hS _ ?_; try clear hS; (repeat (refine seq_gen fun Nx hS => ?_; walk_at "st"; refine hS _ ?_; clear hS)))
    (refine seq_gen fun Nx hS => ?_; walk_at "st")
    obtain ⟨i, hi⟩ : ∃ i : Nat, to = (i : Int) := ⟨to.toNat, by omega⟩
    subst hi
    have c1 : ∀ (l : List Str) (i : Nat), cutL (l.map PyData.str) (some (i : Int)) none = (l.drop i).map PyData.str := fun l i => by rw [cutL_from, ← List.map_drop]
    have c2 : ∀ (l : List Str) (i : Nat), cutL (l.map PyData.str) none (some (i : Int)) = (l.take i).map PyData.str := fun l i => by rw [cutL_to, ← List.map_take]
    have fin0 : ∀ x : Str, PyData.strOk x = true ∧ x.length ≤ 2 * M + 120 ∧ nlF x ≤ 2 * k + 1 → ∀ c : Dl.Ctx, c[0]? = some (.o (some v) (.lstP FeedP)) → Q (.d (.list ((rs.take i ++ [x] ++ rs.drop i).map PyData.str))) c := fun x hx c hc => by
      obtain ⟨a1, a2, a3, a4, a5⟩ := rws_put rs i x
      have ox := othS_le x
      exact q _ (rws_of rb (by omega) (fun r hr => (a2 r hr).elim .inl fun z => .inr (by rw [z]; exact hx)) (by omega) (by omega) (by omega)) c hc
    have put0 : Bd 250 10 ∧ ∀ (r : Int), 0 ≤ r → r < 10 → atD (O.map PyData.str) r fun z => (cutL (rs.map PyData.str) none (some (i : Int))).length + 1 ≤ sizeLine ∧ (cutL (rs.map PyData.str) none (some (i : Int)) ++ [z]).length + (cutL (rs.map PyData.str) (some (i : Int)) none).length ≤ sizeLine ∧
        Q (.d (.list (cutL (rs.map PyData.str) none (some (i : Int)) ++ [z] ++ cutL (rs.map PyData.str) (some (i : Int)) none))) ([.o (some v) (.lstP FeedP), .d (.list (rs.map PyData.str)), .d (.int way), .o none (.lst (O.map PyData.str)), .d (.int (i : Nat)), .no, .no] : Dl.Ctx) := by
      refine ⟨bd_of (by decide) (by decide), fun p p0 p1 => atD_mem p0 (by rw [List.length_map, ol]; exact p1) fun z hz => ?_⟩
      obtain ⟨x, hx, rfl⟩ := List.mem_map.mp hz
      obtain ⟨x1, x2, x3⟩ := oo x hx
      rw [c1, c2, show (rs.take i).map PyData.str ++ [PyData.str x] = (rs.take i ++ [x]).map PyData.str by rw [List.map_append]; rfl, ← List.map_append]
      refine ⟨by rw [List.length_map, List.length_take]; omega, by rw [List.length_map, List.length_map, List.length_append, List.length_take, List.length_drop, List.length_singleton]; omega, ?_⟩
      exact fin0 x ⟨x1, by omega, by omega⟩ _ rfl
    by_cases y0 : way = 0
    · rw [if_pos y0]
      exact put0
    rw [if_neg y0]
    by_cases yl : (rs.length : Int) = 0
    · rw [if_pos yl]
      exact put0
    rw [if_neg yl]
    clear put0
    (refine hS _ ?_; try clear hS; (repeat (refine seq_gen fun Nx hS => ?_; walk_at "st"; refine hS _ ?_; clear hS)))
    (refine seq_gen fun Nx hS => ?_; walk_at "st")
    refine ⟨by omega, bd_of (by omega) (by omega), fun at_ a0 a1 => ?_⟩
    obtain ⟨j, hj⟩ : ∃ j : Nat, at_ = (j : Int) := ⟨at_.toNat, by omega⟩
    subst hj
    have jl : j < rs.length := by omega
    have rj : rs[j]? = some rs[j] := List.getElem?_eq_getElem jl
    obtain ⟨r1, r2, r3⟩ := rb.each _ (List.mem_of_getElem? rj)
    obtain ⟨o1, o2, o3, o4, o5⟩ := rws_out rs jl
    (refine hS _ ?_; try clear hS; (repeat (refine seq_gen fun Nx hS => ?_; walk_at "st"; refine hS _ ?_; clear hS)))
    (refine seq_gen fun Nx hS => ?_; walk_at "st")
    rw [show ((j : Int) + 1) = ((j + 1 : Nat) : Int) by omega]
    by_cases y1 : way = 1
    · rw [if_pos y1, c1, c2, ← List.map_append]
      exact ⟨by rw [List.length_map, List.length_map, List.length_take, List.length_drop]; omega, q _ (rws_of rb (by omega) (fun r hr => .inl (o2 r hr)) (by omega) (by omega) (by omega)) _ rfl⟩
    rw [if_neg y1]
    (refine hS _ ?_; try clear hS; (repeat (refine seq_gen fun Nx hS => ?_; walk_at "st"; refine hS _ ?_; clear hS)))
    (refine seq_gen fun Nx hS => ?_; walk_at "st")
    by_cases y2 : way = 2
    · rw [if_pos y2]
      refine atD_map rj ?_
      rw [c1, c2, show (rs.take i).map PyData.str ++ [PyData.str rs[j]] = (rs.take i ++ [rs[j]]).map PyData.str by rw [List.map_append]; rfl, ← List.map_append]
      refine ⟨by rw [List.length_map, List.length_take]; omega, by rw [List.length_map, List.length_map, List.length_append, List.length_take, List.length_drop, List.length_singleton]; omega, ?_⟩
      exact fin0 _ ⟨r1, by omega, by omega⟩ _ rfl
    rw [if_neg y2]
    (refine hS _ ?_; try clear hS; (repeat (refine seq_gen fun Nx hS => ?_; walk_at "st"; refine hS _ ?_; clear hS)))
    (refine seq_gen fun Nx hS => ?_; walk_at "st")
    by_cases y3 : way = 3
    · rw [if_pos y3]
      (try walk_at "wpt")
      rw [show ((j : Int) + 1) = ((j + 1 : Nat) : Int) by omega, c1, c2, ← List.map_append]
      obtain ⟨lf, hlf⟩ : ∃ lf, lf = rs.take j ++ rs.drop (j + 1) := ⟨_, rfl⟩
      rw [← hlf] at o1 o2 o3 o4 o5 ⊢
      refine ⟨by rw [List.length_map, List.length_map, List.length_take, List.length_drop]; omega, atD_map rj ?_⟩
      rw [c1, c2, show (lf.take i).map PyData.str ++ [PyData.str rs[j]] = (lf.take i ++ [rs[j]]).map PyData.str by rw [List.map_append]; rfl, ← List.map_append]
      obtain ⟨a1, a2, a3, a4, a5⟩ := rws_put lf i rs[j]
      refine ⟨by rw [List.length_map, List.length_take]; omega, by rw [List.length_map, List.length_map, List.length_append, List.length_take, List.length_drop, List.length_singleton]; omega, q _ (rws_of rb (by omega) (fun r hr => .inl ?_) (by omega) (by omega) (by omega)) _ rfl⟩
      rcases a2 r hr with z | rfl
      · exact o2 r z
      · exact List.mem_of_getElem? rj
    rw [if_neg y3]
    (refine hS _ ?_; try clear hS; (repeat (refine seq_gen fun Nx hS => ?_; walk_at "st"; refine hS _ ?_; clear hS)))
    (try walk_at "wpt")
    refine atD_map rj ?_
    (try walk_at "wpt")
    intro v2
    refine ⟨_, rs[j], rfl, r1, by omega, fun x x1 x2 x3 => ?_⟩
    (try walk_at "wpt")
    rw [show ((j : Int) + 1) = ((j + 1 : Nat) : Int) by omega, c1, c2, show (rs.take j).map PyData.str ++ [PyData.str x] = (rs.take j ++ [x]).map PyData.str by rw [List.map_append]; rfl, ← List.map_append]
    have e1 := szL_app (rs.take j ++ [x]) (rs.drop (j + 1))
    have e2 := szL_app (rs.take j) [x]
    have e3 := szL_app (rs.take j) (rs.drop (j + 1))
    have f1 := nlL_app (rs.take j ++ [x]) (rs.drop (j + 1))
    have f2 := nlL_app (rs.take j) [x]
    have f3 := nlL_app (rs.take j) (rs.drop (j + 1))
    have h1 := othT_app (rs.take j ++ [x]) (rs.drop (j + 1))
    have h2 := othT_app (rs.take j) [x]
    have h3 := othT_app (rs.take j) (rs.drop (j + 1))
    have h4 := othT_one x
    have h5 := othS_le x
    have g1 := szL_one x
    have g2 := nlL_one x
    have len : (rs.take j ++ [x] ++ rs.drop (j + 1)).length = rs.length := by rw [List.length_append, List.length_append, List.length_take, List.length_drop, List.length_singleton]; omega
    refine ⟨by rw [List.length_map, List.length_take]; omega, by rw [List.length_map, List.length_map, List.length_append, List.length_take, List.length_drop, List.length_singleton]; omega, q _ (rws_of rb (by omega) (fun r hr => ?_) (by omega) (by omega) (by omega)) _ rfl⟩
    rcases List.mem_append.mp hr with z | z
    · rcases List.mem_append.mp z with z | z
      · exact .inl (List.mem_of_mem_take z)
      · rw [List.mem_singleton.mp z]
        exact .inr ⟨x1, by omega, by omega⟩
    · exact .inl (List.mem_of_mem_drop z)
  )
theorem sc_law_is_name : FnScope ["word", "sign"] ["word"] (defScope (topS 43)) := ⟨rfl, rfl, rfl, by decide +kernel, rfl, by decide +kernel, by decide +kernel⟩
theorem c_law_is_name {P : Program} {w : World} {K : PySem.W.Frag} {mg : Str → Option Value} {base : Heap} (hb : Bi K mg) (D : Df K mg "_law_is_name" (topS 43) ["word"])  : Cal P w K mg base "_law_is_name" 1 ["word"] T_law_is_name := (by
  obtain ⟨f, fd, F, hm, hB⟩ := D
  refine ⟨f, fd, fn_d (k := 0) F sc_law_is_name ?hT (fun cdv A outer s H E hr => (q_one (s_ret (d_and (d_chain op_le op_le op_b0 op_b0 d_int (d_lenV hb.len (vv 0)) d_int) (d_one (d_all rfl hb.all (DE.dv (d_fz (o_lc [("sign", 1)] rfl sc_law_is_name.nd (i_seq (dv 0)) (by show blkC ["word", "sign"] (defScope (topS 43)) _ _ = true; decide +kernel) (fun _ _ _ _ _ => (g_name 1 sc_law_is_name.nd)) (fun _ _ _ _ _ => b_yes) (fun _ _ _ _ _ => (d_cmpN 1 (op_inA (hu65 hr)) opv_in (DE.dv d_str) (by rfl))) (by decide)))))))))), hm, F.kp, hB⟩
  case hT =>
    intro a Q h
    obtain ⟨w, rfl, hl, q⟩ := h
    refine ⟨rfl, ?_⟩
    have hsz := sizeLine_eq
    (try walk_at "wpt")
    refine ⟨by omega, ?_⟩
    unfold isNm at q
    by_cases h1 : 1 ≤ (w.length : Int)
    · rw [if_pos h1]
      rw [decide_eq_true h1, Bool.true_and] at q
      by_cases h8 : (w.length : Int) ≤ 8
      · rw [if_pos h8]
        rw [decide_eq_true h8, Bool.true_and] at q
        refine comp_mm (g := fun (n : Nat) => .str ⟨#[n]⟩) (xs := w.cps.toList) (fun n => .bool (isLetN n)) (by show w.cps.toList.length ≤ _; rw [Array.length_toList]; have : w.cps.size = w.length := rfl; omega) (fun n hn N hN => ?_) ?_
        · (try walk_at "wpt")
          exact hN _ rfl
        (try walk_at "wpt")
        rw [asBs_f, List.all_map]
        exact q _
      · rw [if_neg h8]
        rw [decide_eq_false h8] at q
        exact q _
    · rw [if_neg h1]
      rw [decide_eq_false h1] at q
      exact q _
  )
theorem sc_law_is_number : FnScope ["word", "sign"] ["word"] (defScope (topS 44)) := ⟨rfl, rfl, rfl, by decide +kernel, rfl, by decide +kernel, by decide +kernel⟩
theorem c_law_is_number {P : Program} {w : World} {K : PySem.W.Frag} {mg : Str → Option Value} {base : Heap} (hb : Bi K mg) (D : Df K mg "_law_is_number" (topS 44) ["word"])  : Cal P w K mg base "_law_is_number" 1 ["word"] T_law_is_number := (by
  obtain ⟨f, fd, F, hm, hB⟩ := D
  refine ⟨f, fd, fn_d (k := 0) F sc_law_is_number ?hT (fun cdv A outer s H E hr => (q_cons (s_if (DW.dt (w_or (t_not (t_chain op_le op_le op_b0 op_b0 d_int (d_lenV hb.len (vv 0)) d_int)) (w_or1 (t_not (tv (d_all rfl hb.all (DE.dv (d_fz (o_lc [("sign", 1)] rfl sc_law_is_number.nd (i_seq (dv 0)) (by show blkC ["word", "sign"] (defScope (topS 44)) _ _ = true; decide +kernel) (fun _ _ _ _ _ => (g_name 1 sc_law_is_number.nd)) (fun _ _ _ _ _ => b_yes) (fun _ _ _ _ _ => (d_cmpN 1 (op_inA (hu65 hr)) opv_in (DE.dv d_str) (by rfl))) (by decide))))))))))
 (q_one (s_ret d_bl)) q_nil)
 (q_one (s_ret (d_or (d_eq hr.units (dv 0) d_str) (d_one (d_ne hr.units (d_ixN 0 (fun _ _ => rfl) d_int) d_str))))))), hm, F.kp, hB⟩
  case hT =>
    intro a Q h
    obtain ⟨w, rfl, hw, hl, q⟩ := h
    refine ⟨rfl, ?_⟩
    have hsz := sizeLine_eq
    (try walk_at "wpt")
    refine ⟨by omega, ?_⟩
    unfold isNum at q
    by_cases h1 : 1 ≤ (w.length : Int)
    · rw [if_pos h1]
      by_cases h2 : (w.length : Int) ≤ 60
      · rw [if_neg (fun z => z h2)]
        refine comp_mm (g := fun (n : Nat) => .str ⟨#[n]⟩) (xs := w.cps.toList) (fun n => .bool (inSt (Str.ofString "0123456789") n)) (by show w.cps.toList.length ≤ _; rw [Array.length_toList]; have : w.cps.size = w.length := rfl; omega) (fun n hn N hN => ?_) ?_
        · (try walk_at "wpt")
          exact hN _ rfl
        (try walk_at "wpt")
        rw [asBs_f, List.all_map]
        have eA : ofN w (Str.ofString "0123456789") 60 = w.cps.toList.all (id ∘ inSt (Str.ofString "0123456789")) := by unfold ofN; rw [decide_eq_true h1, decide_eq_true h2]; rfl
        rw [eA] at q
        split
        · rename_i hA
          rw [hA] at q
          exact q _
        · rename_i hA
          rw [show w.cps.toList.all (id ∘ inSt (Str.ofString "0123456789")) = true by simpa using hA, Bool.true_and] at q
          refine ⟨hw, by decide +kernel, ?_⟩
          unfold no0 at q
          by_cases h0 : w = Str.ofString "0"
          · rw [if_pos h0]
            rw [show (w == Str.ofString "0") = true by rw [h0]; rfl, Bool.true_or] at q
            exact q _
          · rw [if_neg h0]
            rw [beq_eq_false_iff_ne.mpr h0, Bool.false_or] at q
            have hd := head_at (w := w) (by omega)
            have hm : w.cps.toList.headD 0 ∈ w.cps.toList := by
              cases e : w.cps.toList with
              | nil => have : w.cps.toList.length = w.length := Array.length_toList; rw [e] at this; simp at this; omega
              | cons a l => simp
            exact ⟨by omega, _, hd, strOk_at hw hm, by decide +kernel, q _⟩
      · rw [if_pos h2]
        rw [show ofN w (Str.ofString "0123456789") 60 = false by unfold ofN; rw [decide_eq_false h2]; simp] at q
        exact q _
    · rw [if_neg h1]
      rw [show ofN w (Str.ofString "0123456789") 60 = false by unfold ofN; rw [decide_eq_false h1]; rfl] at q
      exact q _
  )
theorem sc_law_sort : FnScope ["row", "words", "forms", "form", "k"] ["row"] (defScope (topS 45)) := ⟨rfl, rfl, rfl, by decide +kernel, rfl, by decide +kernel, by decide +kernel⟩
theorem c_law_sort {P : Program} {w : World} {K : PySem.W.Frag} {mg : Str → Option Value} {base : Heap} (hb : Bi K mg) (D : Df K mg "_law_sort" (topS 45) ["row"]) (C__law_is_number : Cal P w K mg base "_law_is_number" 1 ["word"] T_law_is_number) (C__law_is_name : Cal P w K mg base "_law_is_name" 1 ["word"] T_law_is_name) : Cal P w K mg base "_law_sort" 2 ["row"] T_law_sort := (by
  obtain ⟨f, fd, F, hm, hB⟩ := D
  refine ⟨f, fd, fn_d (k := 1) F sc_law_sort ?hT (fun cdv A outer s H E hr => (q_cons (s_setO (j := 1) sc_law_sort.nd (o_split (dv 0) d_str))
 (q_cons (s_setO (j := 2) sc_law_sort.nd (o_dkL (pr_cons d_str d_str (pr_cons d_str d_str (pr_cons d_str d_str (pr_cons d_str d_str pr_nil))))))
 (q_cons (s_if (DW.dt (w_or (t_dknotin 2 (hu1 hr) (d_ixN 1 (fun _ _ => rfl) d_int)) (w_or1 (t_ne hr.units (d_lenV hb.len (vv 1)) (d_add d_int (d_lenV hb.len (DE.dv (d_dkget 2 (hu1 hr) (d_ixN 1 (fun _ _ => rfl) d_int) (fun _ _ => rfl)))))))))
 (q_one (s_ret d_str)) q_nil)
 (q_cons (s_set (j := 3) sc_law_sort.nd (d_dkget 2 (hu1 hr) (d_ixN 1 (fun _ _ => rfl) d_int) (fun _ _ => rfl)))
 (q_cons (s_for PassesOwn.never rfl (i_range1 hb.range (d_lenV hb.len (vv 3))) (g_name 4 sc_law_sort.nd)
 (q_cons (s_if (DW.dt (w_and (t_eq hr.units (d_ixN 3 (fun _ _ => rfl) (dv 4)) d_str) (w_and1 (t_not (tv (d_callC C__law_is_name (hr.mono (by decide)) (a_cons (d_ixN 1 (fun _ _ => rfl) (d_add (dv 4) d_int)) a_nil)))))))
 (q_one (s_ret d_str)) q_nil)
 (q_one (s_if (DW.dt (w_and (t_eq hr.units (d_ixN 3 (fun _ _ => rfl) (dv 4)) d_str) (w_and1 (t_not (tv (d_callC C__law_is_number (hr.mono (by decide)) (a_cons (d_ixN 1 (fun _ _ => rfl) (d_add (dv 4) d_int)) a_nil)))))))
 (q_one (s_ret d_str)) q_nil))))
 (q_one (s_ret (d_ixN 1 (fun _ _ => rfl) d_int))))))))), hm, F.kp, hB⟩
  case hT =>
    intro a Q h
    obtain ⟨w, rfl, hw, wl, q⟩ := h
    refine ⟨rfl, ?_⟩
    have hsz := sizeLine_eq
    (repeat (refine seq_gen fun Nx hS => ?_; walk_at "st"; refine hS _ ?_; clear hS))
    (refine seq_gen fun Nx hS => ?_; walk_at "st")
    have few := split_few w 32
    have ne : wordsF w ≠ [] := split_ne w 32
    have wok : ∀ x ∈ wordsF w, PyData.strOk x = true ∧ x.length ≤ w.length := fun x hx => ⟨split_ok hw x hx, split_len hx⟩
    obtain ⟨ws, hws⟩ : ∃ ws, ws = wordsF w := ⟨_, rfl⟩
    rw [show Txt.split w (Str.ofString " ") = ws from hws.symm]
    rw [← hws] at q ne wok
    have wsl : ws.length ≤ 100000 := by rw [hws]; show (Txt.split w ⟨#[32]⟩).length ≤ _; omega
    refine ⟨by decide +kernel, by omega, ?_⟩
    (refine hS _ ?_; try clear hS; (repeat (refine seq_gen fun Nx hS => ?_; walk_at "st"; refine hS _ ?_; clear hS)))
    (refine seq_gen fun Nx hS => ?_; walk_at "st")
    refine ⟨fun p hp => by rcases hp with rfl | rfl | rfl | rfl <;> trivial, by decide, ?_⟩
    have nd : (([Str.ofString "bore", Str.ofString "layer", Str.ofString "fault", Str.ofString "like"] : List Str).map PyData.str).Nodup := by
      unfold List.Nodup
      rw [List.pairwise_map]
      exact List.Pairwise.imp (fun h z => h (PyData.str.inj z)) (by decide +kernel : ([Str.ofString "bore", Str.ofString "layer", Str.ofString "fault", Str.ofString "like"] : List Str).Pairwise (· ≠ ·))
    rw [mkD_of (xs := [(PyData.str (Str.ofString "bore"), PyData.str (Str.ofString "nii")), (PyData.str (Str.ofString "layer"), PyData.str (Str.ofString "ni")), (PyData.str (Str.ofString "fault"), PyData.str (Str.ofString "")), (PyData.str (Str.ofString "like"), PyData.str (Str.ofString "nni"))]) nd]
    obtain ⟨D, hD⟩ : ∃ D, D = [(PyData.str (Str.ofString "bore"), PyData.str (Str.ofString "nii")), (PyData.str (Str.ofString "layer"), PyData.str (Str.ofString "ni")), (PyData.str (Str.ofString "fault"), PyData.str (Str.ofString "")), (PyData.str (Str.ofString "like"), PyData.str (Str.ofString "nni"))] := ⟨_, rfl⟩
    rw [← hD]
    have hat : ∀ h : Str, dicAt D (.str h) = (formF h).map fun f => .str (formS f) := fun h => by
      rw [hD]
      unfold formF dicAt
      have n : ∀ x y : Str, x ≠ y → decide (PyData.str x = PyData.str y) = false := fun x y hx => decide_eq_false fun z => hx (PyData.str.inj z)
      have y : ∀ x : Str, decide (PyData.str x = PyData.str x) = true := fun x => decide_eq_true rfl
      have b1 : Str.ofString "bore" ≠ Str.ofString "layer" := by decide +kernel
      have b2 : Str.ofString "bore" ≠ Str.ofString "fault" := by decide +kernel
      have b3 : Str.ofString "bore" ≠ Str.ofString "like" := by decide +kernel
      have b4 : Str.ofString "layer" ≠ Str.ofString "fault" := by decide +kernel
      have b5 : Str.ofString "layer" ≠ Str.ofString "like" := by decide +kernel
      have b6 : Str.ofString "fault" ≠ Str.ofString "like" := by decide +kernel
      by_cases e1 : h = Str.ofString "bore"
      · subst e1
        rw [if_pos rfl]
        simp only [List.find?_cons, y]
        exact congrArg (fun s => some (PyData.str s)) (by decide +kernel)
      by_cases e2 : h = Str.ofString "layer"
      · subst e2
        rw [if_neg e1, if_pos rfl]
        simp only [List.find?_cons, y, n _ _ b1]
        exact congrArg (fun s => some (PyData.str s)) (by decide +kernel)
      by_cases e3 : h = Str.ofString "fault"
      · subst e3
        rw [if_neg e1, if_neg e2, if_pos rfl]
        simp only [List.find?_cons, y, n _ _ b2, n _ _ b4]
        exact congrArg (fun s => some (PyData.str s)) (by decide +kernel)
      by_cases e4 : h = Str.ofString "like"
      · subst e4
        rw [if_neg e1, if_neg e2, if_neg e3, if_pos rfl]
        simp only [List.find?_cons, y, n _ _ b3, n _ _ b5, n _ _ b6]
        exact congrArg (fun s => some (PyData.str s)) (by decide +kernel)
      rw [if_neg e1, if_neg e2, if_neg e3, if_neg e4]
      simp only [List.find?_cons, n _ _ (Ne.symm e1), n _ _ (Ne.symm e2), n _ _ (Ne.symm e3), n _ _ (Ne.symm e4), List.find?_nil, Option.map_none]
    obtain ⟨h0, rest, rfl⟩ : ∃ h r, ws = h :: r := by
      cases ws with
      | nil => exact absurd rfl ne
      | cons a l => exact ⟨a, l, rfl⟩
    (refine hS _ ?_; try clear hS; (repeat (refine seq_gen fun Nx hS => ?_; walk_at "st"; refine hS _ ?_; clear hS)))
    (refine seq_gen fun Nx hS => ?_; walk_at "st")
    refine ⟨trivial, D, rfl, ?_⟩
    have hq : sortF (h0 :: rest) = match formF h0 with
      | none => Str.ofString ""
      | some f => if (h0 :: rest).length = f.length + 1 ∧ ((List.range f.length).all fun k => chkF (f.getD k false) ((h0 :: rest).getD (k + 1) "")) = true then h0 else Str.ofString "" := rfl
    rw [hq] at q
    dsimp only
    rw [hat]
    cases hf : formF h0 with
    | none =>
      rw [hf] at q
      rw [if_pos (show (Option.map (fun f => PyData.str (formS f)) (none : Option (List Bool))).isSome = false from rfl)]
      exact q _
    | some f =>
      rw [hf] at q
      have fl : (formS f).length = f.length := by
        show ((f.map fun b => if b then 110 else 105).toArray).size = _
        simp
      rw [if_neg (by simp)]
      refine ⟨trivial, D, rfl, .str (formS f), by rw [hat, hf]; rfl, ?_⟩
      (try walk_at "wpt")
      have f3 : f.length ≤ 3 := by
        unfold formF at hf
        split at hf
        · cases hf; decide
        split at hf
        · cases hf; decide
        split at hf
        · cases hf; decide
        split at hf
        · cases hf; decide
        · cases hf
      refine ⟨by omega, ?_⟩
      by_cases hl : (h0 :: rest).length = f.length + 1
      rotate_left
      · rw [if_pos (by rw [fl]; rw [List.length_cons] at hl; omega)]
        rw [show (match some f with
          | none => Str.ofString ""
          | some f => if (h0 :: rest).length = f.length + 1 ∧ ((List.range f.length).all fun k => chkF (f.getD k false) ((h0 :: rest).getD (k + 1) "")) = true then h0 else Str.ofString "") = Str.ofString "" from if_neg fun z => hl z.1] at q
        exact q _
      rw [if_neg (by rw [fl]; rw [List.length_cons] at hl; omega)]
      (refine hS _ ?_; try clear hS; (repeat (refine seq_gen fun Nx hS => ?_; walk_at "st"; refine hS _ ?_; clear hS)))
      (refine seq_gen fun Nx hS => ?_; walk_at "st")
      refine ⟨trivial, D, rfl, .str (formS f), by rw [hat, hf]; rfl, ?_⟩
      (refine hS _ ?_; try clear hS; (repeat (refine seq_gen fun Nx hS => ?_; walk_at "st"; refine hS _ ?_; clear hS)))
      (try walk_at "wpt")
      refine ⟨by omega, by omega, by omega, ?_⟩
      rw [fl]
      
      refine loop_by (fun i c => ∃ (x4 : S), c = [.d (.str w), .o none (.lst (PyData.str h0 :: rest.map PyData.str)), .o none (.gen (dkR D)), .d (.str (formS f)), x4] ∧ ∀ k, k < i → chkF (f.getD k false) ((h0 :: rest).getD (k + 1) "") = true) ⟨_, rfl, fun k hk => by omega⟩ ?_ ?_
      · rintro i y c N hy ⟨x4, rfl, hp⟩ hN
        obtain ⟨hi, rfl⟩ := rngD_get hy
        obtain ⟨b, hb⟩ : ∃ b, f[i]? = some b := ⟨_, List.getElem?_eq_getElem hi⟩
        obtain ⟨z, hz⟩ : ∃ z, rest[i]? = some z := ⟨_, List.getElem?_eq_getElem (by rw [List.length_cons] at hl; omega)⟩
        have zm := wok z (List.mem_cons_of_mem _ (List.mem_of_getElem? hz))
        rw [show (0 : Int) + (i : Int) = (i : Int) by omega]
        have hx : (formS f).cps.toList[i]? = some (if b then 110 else 105) := by
          show ((f.map fun b => if b then 110 else 105).toArray.toList)[i]? = _
          rw [List.toList_toArray, List.getElem?_map, hb]; rfl
        have ge : (h0 :: rest).getD (i + 1) "" = z := by
          rw [List.getD_eq_getElem?_getD, List.getElem?_cons_succ, hz]; rfl
        have gf : f.getD i false = b := by
          rw [List.getD_eq_getElem?_getD, hb]; rfl
        have at1 : ∀ {Q : PyData → Prop}, Q (.str z) → Dl.atD (PyData.str h0 :: rest.map PyData.str) ((i : Int) + 1) Q := fun qz => by
          rw [show (PyData.str h0 :: rest.map PyData.str) = (h0 :: rest).map PyData.str from rfl, show (i : Int) + 1 = ((i + 1 : Nat) : Int) by omega]
          exact atD_map (by rw [List.getElem?_cons_succ]; exact hz) qz
        have bad : chkF b z = false → Dl.ret Q (.d (.str (Str.ofString ""))) := fun hb2 => by
          rw [show (match some f with
            | none => Str.ofString ""
            | some f => if (h0 :: rest).length = f.length + 1 ∧ ((List.range f.length).all fun k => chkF (f.getD k false) ((h0 :: rest).getD (k + 1) "")) = true then h0 else Str.ofString "") = Str.ofString "" from if_neg fun y => by
              have := List.all_eq_true.mp y.2 i (List.mem_range.mpr hi)
              rw [gf, ge, hb2] at this
              cases this] at q
          exact q
        have good : chkF b z = true → ∀ k, k < i + 1 → chkF (f.getD k false) ((h0 :: rest).getD (k + 1) "") = true := fun hb2 k hk => by
          rcases Nat.lt_succ_iff_lt_or_eq.mp hk with y | y
          · exact hp k y
          · rw [y, gf, ge]; exact hb2
        simp only [↓asT_t, ↓asC_c, gT, gsCons, gsNil, gN, List.length_cons, List.length_nil, List.set_cons_zero, List.set_cons_succ, Nat.zero_add, Nat.reduceAdd, true_and]
        (try walk_at "wpt")
        cases b with
        | true =>
          have hx : (formS f).cps.toList[i]? = some 110 := hx
          refine ⟨by omega, _, atI_nat hx, by decide +kernel, by decide +kernel, ?_⟩
          rw [if_pos (show ({ cps := #[110] } : Str) = Str.ofString "n" by decide +kernel)]
          refine at1 ?_
          (try walk_at "wpt")
          refine ⟨by omega, ?_⟩
          cases hz2 : isNm z with
          | false =>
            rw [if_pos rfl]
            exact bad hz2 _
          | true =>
            rw [if_neg (by decide)]
            refine ⟨by omega, _, atI_nat hx, by decide +kernel, by decide +kernel, ?_⟩
            rw [if_neg (show ¬ ({ cps := #[110] } : Str) = Str.ofString "i" by decide +kernel)]
            exact hN _ ⟨_, rfl, good hz2⟩
        | false =>
          have hx : (formS f).cps.toList[i]? = some 105 := hx
          refine ⟨by omega, _, atI_nat hx, by decide +kernel, by decide +kernel, ?_⟩
          rw [if_neg (show ¬ ({ cps := #[105] } : Str) = Str.ofString "n" by decide +kernel)]
          refine ⟨by omega, _, atI_nat hx, by decide +kernel, by decide +kernel, ?_⟩
          rw [if_pos (show ({ cps := #[105] } : Str) = Str.ofString "i" by decide +kernel)]
          refine at1 ?_
          (try walk_at "wpt")
          refine ⟨zm.1, by omega, ?_⟩
          cases hz2 : isNum z with
          | false =>
            rw [if_pos rfl]
            exact bad hz2 _
          | true =>
            rw [if_neg (by decide)]
            exact hN _ ⟨_, rfl, good hz2⟩
      rintro c ⟨x4, rfl, hp⟩
      rw [rngD_len] at hp
      (try walk_at "wpt")
      rw [show (match some f with
        | none => Str.ofString ""
        | some f => if (h0 :: rest).length = f.length + 1 ∧ ((List.range f.length).all fun k => chkF (f.getD k false) ((h0 :: rest).getD (k + 1) "")) = true then h0 else Str.ofString "") = h0 from if_pos ⟨hl, List.all_eq_true.mpr fun k hk => hp k (List.mem_range.mp hk)⟩] at q
      exact q _
  )
theorem sc_law_in_order : FnScope ["sorts", "ahead", "last", "sort"] ["sorts"] (defScope (topS 46)) := ⟨rfl, rfl, rfl, by decide +kernel, rfl, by decide +kernel, by decide +kernel⟩
theorem c_law_in_order {P : Program} {w : World} {K : PySem.W.Frag} {mg : Str → Option Value} {base : Heap} (hb : Bi K mg) (D : Df K mg "_law_in_order" (topS 46) ["sorts"])  : Cal P w K mg base "_law_in_order" 1 ["sorts"] T_law_in_order := (by
  obtain ⟨f, fd, F, hm, hB⟩ := D
  refine ⟨f, fd, fn_d (k := 0) F sc_law_in_order ?hT (fun cdv A outer s H E hr => (q_cons (s_setO (j := 1) sc_law_in_order.nd (o_dkL (pr_cons d_str (d_fz (o_lst (a_cons d_str (a_cons d_str a_nil)))) (pr_cons d_str (d_fz (o_lst (a_cons d_str (a_cons d_str (a_cons d_str a_nil))))) (pr_cons d_str (d_fz (o_lst (a_cons d_str a_nil))) pr_nil)))))
 (q_cons (s_dkput 1 (hu1 hr) (d_fz (o_lst (a_cons d_str (a_cons d_str (a_cons d_str a_nil))))) d_str)
 (q_cons (s_set (j := 2) sc_law_in_order.nd d_str)
 (q_cons (s_for PassesOwn.never rfl (i_seq (dv 0)) (g_name 3 sc_law_in_order.nd)
 (q_cons (s_if (DW.dt (w_or (t_eq hr.units (dv 3) d_str) (w_or1 (t_cmpN 2 (op_notInA (hu65 hr)) opv_nin (DE.dv (d_dkget 1 (hu1 hr) (dv 3) (fun _ _ => rfl))) (by rfl)))))
 (q_one (s_ret d_bl)) q_nil)
 (q_one (s_set (j := 2) sc_law_in_order.nd (dv 3)))))
 (q_one (s_ret (d_inTS (dv 2) (d_tup (a_cons d_str (a_cons d_str (a_cons d_str a_nil)))))))))))), hm, F.kp, hB⟩
  case hT =>
    intro a Q h
    obtain ⟨ss, rfl, hs, q⟩ := h
    refine ⟨rfl, ?_⟩
    have hsz := sizeLine_eq
    (repeat (refine seq_gen fun Nx hS => ?_; walk_at "st"; refine hS _ ?_; clear hS))
    (refine seq_gen fun Nx hS => ?_; walk_at "st")
    refine ⟨fun p hp => by rcases hp with rfl | rfl | rfl <;> trivial, by decide, ?_⟩
    have nd4 : (([Str.ofString "bore", Str.ofString "layer", Str.ofString "fault", Str.ofString "like"] : List Str).map PyData.str).Nodup := by
      unfold List.Nodup
      rw [List.pairwise_map]
      exact List.Pairwise.imp (fun h z => h (PyData.str.inj z)) (by decide +kernel : ([Str.ofString "bore", Str.ofString "layer", Str.ofString "fault", Str.ofString "like"] : List Str).Pairwise (· ≠ ·))
    have nd3 : (([Str.ofString "bore", Str.ofString "layer", Str.ofString "fault"] : List Str).map PyData.str).Nodup := by
      unfold List.Nodup
      rw [List.pairwise_map]
      exact List.Pairwise.imp (fun h z => h (PyData.str.inj z)) (by decide +kernel : ([Str.ofString "bore", Str.ofString "layer", Str.ofString "fault"] : List Str).Pairwise (· ≠ ·))
    rw [mkD_of (xs := [(PyData.str (Str.ofString "bore"), PyData.list [PyData.str (Str.ofString ""), PyData.str (Str.ofString "layer")]), (PyData.str (Str.ofString "layer"), PyData.list [PyData.str (Str.ofString "bore"), PyData.str (Str.ofString "layer"), PyData.str (Str.ofString "fault")]), (PyData.str (Str.ofString "fault"), PyData.list [PyData.str (Str.ofString "layer")])]) nd3]
    (refine hS _ ?_; try clear hS; (repeat (refine seq_gen fun Nx hS => ?_; walk_at "st"; refine hS _ ?_; clear hS)))
    (refine seq_gen fun Nx hS => ?_; walk_at "st")
    refine ⟨trivial, _, rfl, by decide, ?_⟩
    rw [show dicPut [(PyData.str (Str.ofString "bore"), PyData.list [PyData.str (Str.ofString ""), PyData.str (Str.ofString "layer")]), (PyData.str (Str.ofString "layer"), PyData.list [PyData.str (Str.ofString "bore"), PyData.str (Str.ofString "layer"), PyData.str (Str.ofString "fault")]), (PyData.str (Str.ofString "fault"), PyData.list [PyData.str (Str.ofString "layer")])] (PyData.str (Str.ofString "like")) (PyData.list [PyData.str (Str.ofString ""), PyData.str (Str.ofString "layer"), PyData.str (Str.ofString "like")]) = [(PyData.str (Str.ofString "bore"), PyData.list [PyData.str (Str.ofString ""), PyData.str (Str.ofString "layer")]), (PyData.str (Str.ofString "layer"), PyData.list [PyData.str (Str.ofString "bore"), PyData.str (Str.ofString "layer"), PyData.str (Str.ofString "fault")]), (PyData.str (Str.ofString "fault"), PyData.list [PyData.str (Str.ofString "layer")])] ++ [(PyData.str (Str.ofString "like"), PyData.list [PyData.str (Str.ofString ""), PyData.str (Str.ofString "layer"), PyData.str (Str.ofString "like")])] from mkD_app (kvs := [(PyData.str (Str.ofString "bore"), PyData.list [PyData.str (Str.ofString ""), PyData.str (Str.ofString "layer")]), (PyData.str (Str.ofString "layer"), PyData.list [PyData.str (Str.ofString "bore"), PyData.str (Str.ofString "layer"), PyData.str (Str.ofString "fault")]), (PyData.str (Str.ofString "fault"), PyData.list [PyData.str (Str.ofString "layer")])]) (xs := [(PyData.str (Str.ofString "like"), PyData.list [PyData.str (Str.ofString ""), PyData.str (Str.ofString "layer"), PyData.str (Str.ofString "like")])]) nd4]
    obtain ⟨D, hD⟩ : ∃ D, D = [(PyData.str (Str.ofString "bore"), PyData.list [PyData.str (Str.ofString ""), PyData.str (Str.ofString "layer")]), (PyData.str (Str.ofString "layer"), PyData.list [PyData.str (Str.ofString "bore"), PyData.str (Str.ofString "layer"), PyData.str (Str.ofString "fault")]), (PyData.str (Str.ofString "fault"), PyData.list [PyData.str (Str.ofString "layer")])] ++ [(PyData.str (Str.ofString "like"), PyData.list [PyData.str (Str.ofString ""), PyData.str (Str.ofString "layer"), PyData.str (Str.ofString "like")])] := ⟨_, rfl⟩
    rw [← hD]
    (refine hS _ ?_; try clear hS; (repeat (refine seq_gen fun Nx hS => ?_; walk_at "st"; refine hS _ ?_; clear hS)))
    (try walk_at "wpt")
    have n : ∀ x y : Str, x ≠ y → decide (PyData.str x = PyData.str y) = false := fun x y hx => decide_eq_false fun z => hx (PyData.str.inj z)
    have y : ∀ x : Str, decide (PyData.str x = PyData.str x) = true := fun x => decide_eq_true rfl
    have b1 : Str.ofString "bore" ≠ Str.ofString "layer" := by decide +kernel
    have b2 : Str.ofString "bore" ≠ Str.ofString "fault" := by decide +kernel
    have b3 : Str.ofString "bore" ≠ Str.ofString "like" := by decide +kernel
    have b4 : Str.ofString "layer" ≠ Str.ofString "fault" := by decide +kernel
    have b5 : Str.ofString "layer" ≠ Str.ofString "like" := by decide +kernel
    have b6 : Str.ofString "fault" ≠ Str.ofString "like" := by decide +kernel
    have hat : ∀ s : Str, KindOk s → s ≠ Str.ofString "" → dicAt D (.str s) = some (.list ((aheadF s).map PyData.str)) := fun s hk h0 => by
      rw [hD]
      unfold aheadF dicAt
      rcases hk with e | e | e | e | e
      · exact absurd e h0
      · subst e
        rw [if_pos rfl]
        simp only [List.cons_append, List.nil_append, List.find?_cons, y]; rfl
      · subst e
        rw [if_neg (Ne.symm b1), if_pos rfl]
        simp only [List.cons_append, List.nil_append, List.find?_cons, y, n _ _ b1]; rfl
      · subst e
        rw [if_neg (Ne.symm b2), if_neg (Ne.symm b4), if_pos rfl]
        simp only [List.cons_append, List.nil_append, List.find?_cons, y, n _ _ b2, n _ _ b4]; rfl
      · subst e
        rw [if_neg (Ne.symm b3), if_neg (Ne.symm b5), if_neg (Ne.symm b6)]
        simp only [List.cons_append, List.nil_append, List.find?_cons, y, n _ _ b3, n _ _ b5, n _ _ b6]; rfl
    have kok : ∀ s, KindOk s → PyData.strOk s = true := fun s hk => by rcases hk with rfl | rfl | rfl | rfl | rfl <;> decide +kernel
    clear hD
    refine loop_by (fun i c => ∃ (l : Str) (x3 : S), c = [.d (.list (ss.map PyData.str)), .o none (.gen (dkR D)), .d (.str l), x3] ∧ KindOk l ∧ orderG l (ss.drop i) = orderG (Str.ofString "") ss) ⟨Str.ofString "", _, rfl, .inl rfl, rfl⟩ ?_ ?_
    · rintro i v c N hv ⟨l, x3, rfl, hl, ho⟩ hN
      obtain ⟨s, hsi, rfl⟩ := map_get hv
      have hk := hs s (List.mem_of_getElem? hsi)
      have dr : ss.drop i = s :: ss.drop (i + 1) := by
        rw [List.drop_eq_getElem_cons (get_lt hsi)]
        congr 1
        exact Option.some.inj ((List.getElem?_eq_getElem (get_lt hsi)).symm.trans hsi)
      rw [dr] at ho
      have ho : (if s = Str.ofString "" ∨ l ∉ aheadF s then false else orderG s (ss.drop (i + 1))) = orderG (Str.ofString "") ss := ho
      simp only [↓asT_t, ↓asC_c, gT, gsCons, gsNil, gN, List.length_cons, List.length_nil, List.set_cons_zero, List.set_cons_succ, Nat.zero_add, Nat.reduceAdd, true_and]
      (try walk_at "wpt")
      refine ⟨kok s hk, by decide +kernel, ?_⟩
      by_cases e : s = Str.ofString ""
      · rw [if_pos e]
        rw [show orderG (Str.ofString "") ss = false by rw [← ho, if_pos (.inl e)]] at q
        exact q _
      rw [if_neg e]
      refine ⟨trivial, D, rfl, _, hat s hk e, ?_⟩
      have pA : Pl 2 (.list ((aheadF s).map PyData.str)) := pl_map fun w hw => pl_str (by
        unfold aheadF at hw
        split at hw
        · simp at hw; rcases hw with rfl | rfl <;> decide +kernel
        split at hw
        · simp at hw; rcases hw with rfl | rfl | rfl <;> decide +kernel
        split at hw
        · simp at hw; subst hw; decide +kernel
        · simp at hw; rcases hw with rfl | rfl | rfl <;> decide +kernel)
      (try walk_at "wpt")
      refine ⟨kok l hl, pA.sh, ?_⟩
      rw [any_str]
      by_cases m : l ∈ aheadF s
      · rw [if_neg (by rw [decide_eq_true m]; decide)]
        rw [if_neg (by rintro (z | z); exact e z; exact z m)] at ho
        exact hN _ ⟨s, _, rfl, hk, ho⟩
      · rw [if_pos (by rw [decide_eq_false m])]
        rw [show orderG (Str.ofString "") ss = false by rw [← ho, if_pos (.inr m)]] at q
        exact q _
    rintro c ⟨l, x3, rfl, hl, ho⟩
    rw [List.length_map, List.drop_length] at ho
    (try walk_at "wpt")
    refine ⟨[Str.ofString "", Str.ofString "layer", Str.ofString "like"], rfl, ?_⟩
    have ho : decide (l = Str.ofString "" ∨ l = Str.ofString "layer" ∨ l = Str.ofString "like") = orderG (Str.ofString "") ss := ho
    dsimp only
    rw [show ([Str.ofString "", Str.ofString "layer", Str.ofString "like"].any fun j => j == l) = orderG (Str.ofString "") ss by
      rw [← ho, Bool.eq_iff_iff, decide_eq_true_eq, List.any_eq_true]
      constructor
      · rintro ⟨x, hx, e⟩
        have e : x = l := beq_iff_eq.mp e
        subst e
        simpa using hx
      · intro h
        exact ⟨l, by simpa using h, beq_self_eq_true l⟩]
    exact q _
  )
theorem sc_law_field_of : FnScope ["rows", "sorts", "found", "likes", "row", "holes", "words", "bore"] ["rows"] (defScope (topS 47)) := ⟨rfl, rfl, rfl, by decide +kernel, rfl, by decide +kernel, by decide +kernel⟩
theorem c_law_field_of {P : Program} {w : World} {K : PySem.W.Frag} {mg : Str → Option Value} {base : Heap} (hb : Bi K mg) (D : Df K mg "_law_field_of" (topS 47) ["rows"]) (C__law_in_order : Cal P w K mg base "_law_in_order" 1 ["sorts"] T_law_in_order) (C__law_sort : Cal P w K mg base "_law_sort" 2 ["row"] T_law_sort) : Cal P w K mg base "_law_field_of" 3 ["rows"] T_law_field_of := (by
  obtain ⟨f, fd, F, hm, hB⟩ := D
  refine ⟨f, fd, fn_d (k := 2) F sc_law_field_of ?hT (fun cdv A outer s H E hr => (q_cons (s_setLc (i := 1) [("row", 4)] rfl sc_law_field_of.nd (i_seq (dv 0)) (by show blkC ["rows", "sorts", "found", "likes", "row", "holes", "words", "bore"] (defScope (topS 47)) _ _ = true; decide +kernel) (fun _ _ _ _ _ => (g_name 4 sc_law_field_of.nd)) (fun _ _ _ _ _ => b_yes) (fun _ _ _ _ _ => (d_callC C__law_sort (hr.mono (by decide)) (a_cons (dv 4) a_nil))) (by decide) (sw_true (by rfl) (by rfl) (by rfl) (by rfl)))
 (q_cons (s_if (t_not (tv (d_callC C__law_in_order (hr.mono (by decide)) (a_cons (dvf 1) a_nil))))
 (q_one (s_ret d_non)) q_nil)
 (q_cons (s_setO (j := 2) sc_law_field_of.nd o_tl0)
 (q_cons (s_setO (j := 3) sc_law_field_of.nd (o_lst a_nil))
 (q_cons (s_for PassesOwn.never rfl (i_seq (dv 0)) (g_name 4 sc_law_field_of.nd)
 (q_cons (s_set (j := 6) sc_law_field_of.nd (d_fz (o_split (dv 4) d_str)))
 (q_cons (s_if (t_eq hr.units (d_ixN 6 (fun _ _ => rfl) d_int) d_str)
 (q_one (s_plappX (pl_var 2) (x_o (o_lstL (ao_cons (d_ixN 6 (fun _ _ => rfl) d_int) (ao_cons (d_intS hb.int (DE.dv (d_ixN 6 (fun _ _ => rfl) d_int))) (ao_cons (d_intS hb.int (DE.dv (d_ixN 6 (fun _ _ => rfl) d_int))) (ao_last (x_o (o_lst (a_cons (d_tup a_nil) a_nil))))))))))) q_nil)
 (q_cons (s_if (t_eq hr.units (d_ixN 6 (fun _ _ => rfl) d_int) d_str)
 (q_one (s_plput (d_addA (d_pl (pl_ix (fun _ _ => rfl) (pl_ix (fun _ _ => rfl) (pl_ix (fun _ _ => rfl) (pl_var 2) k_neg) k_int) k_neg)) (d_tup (a_cons (d_tup (a_cons (d_ixN 6 (fun _ _ => rfl) d_int) (a_cons (d_intS hb.int (DE.dv (d_ixN 6 (fun _ _ => rfl) d_int))) a_nil))) a_nil))) (pl_ix (fun _ _ => rfl) (pl_ix (fun _ _ => rfl) (pl_var 2) k_neg) k_int) k_neg)) q_nil)
 (q_cons (s_if (t_eq hr.units (d_ixN 6 (fun _ _ => rfl) d_int) d_str)
 (q_one (s_plapp (pl_ix (fun _ _ => rfl) (pl_ix (fun _ _ => rfl) (pl_var 2) k_neg) k_int) (d_tup a_nil))) q_nil)
 (q_one (s_if (t_eq hr.units (d_ixN 6 (fun _ _ => rfl) d_int) d_str)
 (q_one (s_app 3 (d_tup (a_cons (d_ixN 6 (fun _ _ => rfl) d_int) (a_cons (d_ixN 6 (fun _ _ => rfl) d_int) (a_cons (d_intS hb.int (DE.dv (d_ixN 6 (fun _ _ => rfl) d_int))) a_nil)))))) q_nil)))))))
 (q_cons (s_setLc (i := 5) [("bore", 7)] rfl sc_law_field_of.nd (i_seq (dvf 2)) (by show blkC ["rows", "sorts", "found", "likes", "row", "holes", "words", "bore"] (defScope (topS 47)) _ _ = true; decide +kernel) (fun _ _ _ _ _ => (g_name 7 sc_law_field_of.nd)) (fun _ _ _ _ _ => b_yes) (fun _ _ _ _ _ => (d_tup (a_cons (d_ixN 7 (fun _ _ => rfl) d_int) (a_cons (d_ixN 7 (fun _ _ => rfl) d_int) (a_cons (d_ixN 7 (fun _ _ => rfl) d_int) (a_cons (d_tupV hb.tuple (DE.dv (d_ixN 7 (fun _ _ => rfl) d_int))) a_nil)))))) (by decide) (sw_true (by rfl) (by rfl) (by rfl) (by rfl)))
 (q_one (s_ret (d_tup (a_cons (d_tupV hb.tuple (vv 5)) (a_cons (d_tupV hb.tuple (vv 3)) a_nil)))))))))))), hm, F.kp, hB⟩
  case hT =>
    intro a Q h
    obtain ⟨rs, rfl, rl, rok, q⟩ := h
    refine ⟨rfl, ?_⟩
    have hsz := sizeLine_eq
    (refine seq_gen fun Nx hS => ?_; walk_at "st")
    refine comp_mm (g := PyData.str) (fun r => .str (sortF (wordsF r))) (by omega) (fun r hr N hN => ?_) ?_
    · obtain ⟨r1, r2⟩ := rok r hr
      (try walk_at "wpt")
      refine ⟨r, rfl, r1, r2, ?_⟩
      (try walk_at "wpt")
      exact hN _ rfl
    (refine hS _ ?_; try clear hS; (repeat (refine seq_gen fun Nx hS => ?_; walk_at "st"; refine hS _ ?_; clear hS)))
    obtain ⟨W, hW⟩ : ∃ W, W = rs.map wordsF := ⟨_, rfl⟩
    have Wl : W.length = rs.length := by rw [hW, List.length_map]
    have es : rs.map (fun r => PyData.str (sortF (wordsF r))) = (W.map sortF).map PyData.str := by rw [hW, List.map_map, List.map_map]; rfl
    rw [← hW] at q
    (refine seq_gen fun Nx hS => ?_; walk_at "st")
    rw [es]
    refine ⟨W.map sortF, rfl, fun s hs => by
      obtain ⟨ws, _, rfl⟩ := List.mem_map.mp hs
      exact kind_ok ws, ?_⟩
    (try walk_at "wpt")
    unfold fldOf at q
    by_cases ho : orderG (Str.ofString "") (W.map sortF) = false
    · rw [ho] at q ⊢
      rw [if_neg Bool.false_ne_true] at q
      (try walk_at "wpt")
      exact q _
    have ho : orderG (Str.ofString "") (W.map sortF) = true := by simpa using ho
    rw [if_pos ho] at q
    rw [ho]
    clear es
    (refine hS _ ?_; try clear hS; (repeat (refine seq_gen fun Nx hS => ?_; walk_at "st"; refine hS _ ?_; clear hS)))
    (try walk_at "wpt")
    have oa := fun i (hi : i ≤ W.length) => order_at (i := i) ste_0 rdOk_0 ho hi
    refine loop_by (fun i c => ∃ (x4 x6 : S), c = [.d (.list (rs.map PyData.str)), .d (.list ((W.map sortF).map PyData.str)), .o none (.tr (fndG ((W.take i).foldl layG ([], [])).1)), .o none (.lst (((W.take i).foldl layG ([], [])).2.map lkD)), x4, .no, x6, .no] ∧ True) ⟨_, _, rfl, trivial⟩ ?_ ?_
    · rintro i y c N hy ⟨x4, x5, rfl, -⟩ hN
      obtain ⟨r, hr, rfl⟩ := map_get hy
      have il := get_lt hr
      obtain ⟨r1, r2⟩ := rok r (List.mem_of_getElem? hr)
      have hws : W[i]? = some (wordsF r) := by rw [hW, List.getElem?_map, hr]; rfl
      obtain ⟨l, st, ok, key⟩ := oa i (by omega)
      obtain ⟨k1, k2⟩ := key _ hws
      have nx : (W.take (i + 1)).foldl layG ([], []) = layG ((W.take i).foldl layG ([], [])) (wordsF r) := by rw [List.take_add_one, hws]; simp
      rw [nx] at hN
      obtain ⟨⟨bs, ls⟩, hs⟩ : ∃ s, s = (W.take i).foldl layG ([], []) := ⟨_, rfl⟩
      rw [← hs] at st ok hN ⊢
      obtain ⟨ws, hwd⟩ : ∃ ws, ws = wordsF r := ⟨_, rfl⟩
      have few := split_few r 32
      have lb : bs.length ≤ 0 + i := ok.bs
      have ll : ls.length ≤ 0 + i := ok.ls.1
      simp only [↓asT_t, ↓asC_c, gT, gsCons, gsNil, gN, List.length_cons, List.length_nil, List.set_cons_zero, List.set_cons_succ, Nat.zero_add, Nat.reduceAdd, true_and]
      (refine seq_gen fun Nx hS => ?_; walk_at "st")
      refine ⟨by decide +kernel, by omega, ?_⟩
      rw [show Txt.split r (Str.ofString " ") = ws from hwd.symm]
      rw [← hwd] at k1 k2 hN
      unfold fndG
      
      have sk : PyData.strOk (Str.ofString "bore") = true ∧ PyData.strOk (Str.ofString "layer") = true ∧ PyData.strOk (Str.ofString "fault") = true ∧ PyData.strOk (Str.ofString "like") = true := by decide +kernel
      obtain ⟨sk1, sk2, sk3, sk4⟩ := sk
      by_cases c1 : ws.headD "" = Str.ofString "bore"
      · obtain ⟨n, p, t, rfl, g1, g2, g3⟩ := head_b c1 k1
        obtain ⟨p1, p2, p3⟩ := num_int g2
        obtain ⟨t1, t2, t3⟩ := num_int g3
        have eG : layG (bs, ls) [Str.ofString "bore", n, p, t] = (bs ++ [⟨n, numF p, numF t, [[]]⟩], ls) := by unfold layG; exact if_pos rfl
        rw [eG] at hN
        (refine hS _ ?_; try clear hS; (repeat (refine seq_gen fun Nx hS => ?_; walk_at "st"; refine hS _ ?_; clear hS)))
        (refine seq_gen fun Nx hS => ?_; walk_at "st")
        refine ⟨sk1, sk1, numF p, p1, by omega, numF t, t1, by omega, by omega, by omega, ?_⟩
        (refine hS _ ?_; try clear hS; (repeat (refine seq_gen fun Nx hS => ?_; walk_at "st"; refine hS _ ?_; clear hS)))
        (refine seq_gen fun Nx hS => ?_; walk_at "st")
        refine ⟨sk1, sk2, ?_⟩
        rw [if_neg k_bl]
        (refine hS _ ?_; try clear hS; (repeat (refine seq_gen fun Nx hS => ?_; walk_at "st"; refine hS _ ?_; clear hS)))
        (refine seq_gen fun Nx hS => ?_; walk_at "st")
        refine ⟨sk1, sk3, ?_⟩
        rw [if_neg k_bf]
        (refine hS _ ?_; try clear hS; (repeat (refine seq_gen fun Nx hS => ?_; walk_at "st"; refine hS _ ?_; clear hS)))
        (try walk_at "wpt")
        refine ⟨sk1, sk4, ?_⟩
        rw [if_neg k_bk]
        dsimp only at hN
        rw [fndG_at] at hN
        exact hN _ ⟨_, _, rfl, trivial⟩
      by_cases c2 : ws.headD "" = Str.ofString "layer"
      · obtain ⟨n, p, rfl, g1, g2⟩ := head_l c2 k1
        obtain ⟨p1, p2, p3⟩ := num_int g2
        have eG : layG (bs, ls) [Str.ofString "layer", n, p] = (onLast (addLy (n, numF p)) bs, ls) := by unfold layG; rw [if_neg c1]; exact if_pos rfl
        rw [eG] at hN
        rw [sort_l c2] at k2
        rw [if_pos (by
          have hF : layF [Str.ofString "layer", n, p] = if isNm n = true ∧ isNum p = true then some (n, numF p) else none := rfl
          rw [hF, if_pos ⟨g1, g2⟩]; rfl), st.l] at k2
        obtain ⟨bs, b, rfl⟩ := last_ex k2.1
        obtain ⟨b1, b2, _, b4⟩ := ok.bl b (List.mem_append_right _ (by simp))
        obtain ⟨nm, q0, t, bl⟩ := b
        obtain ⟨bl, k, rfl⟩ := last_ex b1
        have kl := (b4 k (List.mem_append_right _ (by simp))).1
        (refine hS _ ?_; try clear hS; (repeat (refine seq_gen fun Nx hS => ?_; walk_at "st"; refine hS _ ?_; clear hS)))
        (refine seq_gen fun Nx hS => ?_; walk_at "st")
        refine ⟨sk2, sk1, ?_⟩
        rw [if_neg k_bl.symm]
        (refine hS _ ?_; try clear hS; (repeat (refine seq_gen fun Nx hS => ?_; walk_at "st"; refine hS _ ?_; clear hS)))
        (refine seq_gen fun Nx hS => ?_; walk_at "st")
        rw [List.map_append, List.map_singleton, boG_at]
        refine ⟨sk2, sk2, ixT_last (ixT_4L (ixT_last ?_))⟩
        (try walk_at "wpt")
        refine ⟨numF p, p1, by omega, ?_⟩
        refine ⟨by omega, ixT_last (ixT_4L ?_)⟩
        (try walk_at "wpt")
        refine ⟨_, by rw [List.length_append, List.length_singleton]; exact ixN_last, ?_⟩
        simp only [getE_at, set_at, getE_m, set_m, tup3_get, tup3_set]
        have e9 : fndG (onLast (addLy (n, numF p)) (bs ++ [⟨nm, q0, t, bl ++ [k]⟩])) = .lst (bs.map boG ++ [.lst [.dat (.str nm), .dat (.int q0), .dat (.int t), .lst ((bl.map fun k => OT.dat (.tuple (k.map lyD))) ++ [.dat (.tuple (k.map lyD ++ [.tuple [.str n, .int (numF p)]]))])]]) := by
          rw [onLast_at, addLy_at, fndG_at, boG_at, List.map_append]; rfl
        dsimp only at hN
        rw [e9] at hN
        (refine hS _ ?_; try clear hS; (repeat (refine seq_gen fun Nx hS => ?_; walk_at "st"; refine hS _ ?_; clear hS)))
        (refine seq_gen fun Nx hS => ?_; walk_at "st")
        refine ⟨sk2, sk3, ?_⟩
        rw [if_neg k_lf]
        (refine hS _ ?_; try clear hS; (repeat (refine seq_gen fun Nx hS => ?_; walk_at "st"; refine hS _ ?_; clear hS)))
        (try walk_at "wpt")
        refine ⟨sk2, sk4, ?_⟩
        rw [if_neg k_lk]
        exact hN _ ⟨_, _, rfl, trivial⟩
      by_cases c3 : ws.headD "" = Str.ofString "fault"
      · obtain rfl := head_f c3 k1
        have eG : layG (bs, ls) [Str.ofString "fault"] = (onLast addBl bs, ls) := by unfold layG; rw [if_neg c1, if_neg c2]; exact if_pos rfl
        rw [eG] at hN
        rw [sort_f c3, if_pos rfl, st.f] at k2
        obtain ⟨bs, b, rfl⟩ := last_ex k2.2.1
        obtain ⟨b1, b2, _, b4⟩ := ok.bl b (List.mem_append_right _ (by simp))
        obtain ⟨nm, q0, t, bl⟩ := b
        have b2 : bl.length ≤ 0 + i := b2
        have e9 : fndG (onLast addBl (bs ++ [⟨nm, q0, t, bl⟩])) = .lst (bs.map boG ++ [.lst [.dat (.str nm), .dat (.int q0), .dat (.int t), .lst ((bl.map fun k => OT.dat (.tuple (k.map lyD))) ++ [.dat (.tuple [])])]]) := by
          rw [onLast_at, fndG_at]
          show OT.lst (bs.map boG ++ [boG ⟨nm, q0, t, bl ++ [[]]⟩]) = _
          rw [boG_at]; rfl
        dsimp only at hN
        rw [e9] at hN
        (refine hS _ ?_; try clear hS; (repeat (refine seq_gen fun Nx hS => ?_; walk_at "st"; refine hS _ ?_; clear hS)))
        (refine seq_gen fun Nx hS => ?_; walk_at "st")
        refine ⟨sk3, sk1, ?_⟩
        rw [if_neg k_bf.symm]
        (refine hS _ ?_; try clear hS; (repeat (refine seq_gen fun Nx hS => ?_; walk_at "st"; refine hS _ ?_; clear hS)))
        (refine seq_gen fun Nx hS => ?_; walk_at "st")
        refine ⟨sk3, sk2, ?_⟩
        rw [if_neg k_lf.symm]
        (refine hS _ ?_; try clear hS; (repeat (refine seq_gen fun Nx hS => ?_; walk_at "st"; refine hS _ ?_; clear hS)))
        (refine seq_gen fun Nx hS => ?_; walk_at "st")
        have ebo : boG ⟨nm, q0, t, bl⟩ = .lst [.dat (.str nm), .dat (.int q0), .dat (.int t), .lst (bl.map fun k => OT.dat (.tuple (k.map lyD)))] := by unfold boG; rw [List.map_map]; rfl
        rw [List.map_append, List.map_singleton, ebo]
        refine ⟨sk3, sk3, ixT_last (ixT_4L ?_)⟩
        (try walk_at "wpt")
        refine ⟨by omega, ?_⟩
        simp only [getE_at, set_at, getE_m, set_m, tup3_get, tup3_set]
        (refine hS _ ?_; try clear hS; (repeat (refine seq_gen fun Nx hS => ?_; walk_at "st"; refine hS _ ?_; clear hS)))
        (try walk_at "wpt")
        refine ⟨sk3, sk4, ?_⟩
        rw [if_neg k_fk]
        exact hN _ ⟨_, _, rfl, trivial⟩
      by_cases c4 : ws.headD "" = Str.ofString "like"
      · obtain ⟨n, p, t, rfl, g1, g2, g3⟩ := head_k c4 k1
        obtain ⟨t1, t2, t3⟩ := num_int g3
        have eG : layG (bs, ls) [Str.ofString "like", n, p, t] = (bs, ls ++ [(n, p, numF t)]) := by unfold layG; rw [if_neg c1, if_neg c2, if_neg c3]; rfl
        rw [eG] at hN
        (refine hS _ ?_; try clear hS; (repeat (refine seq_gen fun Nx hS => ?_; walk_at "st"; refine hS _ ?_; clear hS)))
        (refine seq_gen fun Nx hS => ?_; walk_at "st")
        refine ⟨sk4, sk1, ?_⟩
        rw [if_neg k_bk.symm]
        (refine hS _ ?_; try clear hS; (repeat (refine seq_gen fun Nx hS => ?_; walk_at "st"; refine hS _ ?_; clear hS)))
        (refine seq_gen fun Nx hS => ?_; walk_at "st")
        refine ⟨sk4, sk2, ?_⟩
        rw [if_neg k_lk.symm]
        (refine hS _ ?_; try clear hS; (repeat (refine seq_gen fun Nx hS => ?_; walk_at "st"; refine hS _ ?_; clear hS)))
        (refine seq_gen fun Nx hS => ?_; walk_at "st")
        refine ⟨sk4, sk3, ?_⟩
        rw [if_neg k_fk.symm]
        (refine hS _ ?_; try clear hS; (repeat (refine seq_gen fun Nx hS => ?_; walk_at "st"; refine hS _ ?_; clear hS)))
        (try walk_at "wpt")
        refine ⟨sk4, sk4, numF t, t1, by omega, by omega, ?_⟩
        dsimp only at hN
        rw [List.map_append] at hN
        exact hN _ ⟨_, _, rfl, trivial⟩
      exact absurd (sort_o c1 c2 c3 c4) k1
    rintro c ⟨x4, x5, rfl, -⟩
    rw [List.length_map, ← Wl, List.take_length]
    obtain ⟨l, st, ok, -⟩ := oa W.length (Nat.le_refl _)
    rw [List.take_length] at ok
    obtain ⟨⟨bs, ls⟩, hs⟩ : ∃ s, s = W.foldl layG ([], []) := ⟨_, rfl⟩
    rw [← hs] at ok q ⊢
    have lb : bs.length ≤ 0 + W.length := ok.bs
    have ll : ls.length ≤ 0 + W.length := ok.ls.1
    dsimp only at q ⊢
    obtain ⟨d1, d2⟩ := fndG_D bs
    unfold fndG
    (try walk_at "wpt")
    refine ⟨d1, ?_⟩
    rw [show (OT.lst (List.map boG bs)).toD = .list (bs.map boH) from d2]
    (try walk_at "wpt")
    refine comp_mm (g := boH) boD (by omega) (fun b hb N hN => ?_) ?_
    · rw [show boH b = .list [.str b.nm, .int b.at_, .int b.top, .list (b.bl.map fun k => .tuple (k.map lyD))] from rfl]
      (try walk_at "wpt")
      exact hN _ rfl
    (try walk_at "wpt")
    exact q _
  )
theorem sc_law_fits : FnScope ["field", "names", "spots", "likes", "some", "bore", "block", "like", "layer"] ["field"] (defScope (topS 48)) := ⟨rfl, rfl, rfl, by decide +kernel, rfl, by decide +kernel, by decide +kernel⟩
theorem c_law_fits {P : Program} {w : World} {K : PySem.W.Frag} {mg : Str → Option Value} {base : Heap} (hb : Bi K mg) (D : Df K mg "_law_fits" (topS 48) ["field"])  : Cal P w K mg base "_law_fits" 1 ["field"] T_law_fits := (by
  obtain ⟨f, fd, F, hm, hB⟩ := D
  refine ⟨f, fd, fn_d (k := 0) F sc_law_fits ?hT (fun cdv A outer s H E hr => (q_cons (s_setLc (i := 1) [("bore", 5)] rfl sc_law_fits.nd (i_seq (d_ixN 0 (fun _ _ => rfl) d_int)) (by show blkC ["field", "names", "spots", "likes", "some", "bore", "block", "like", "layer"] (defScope (topS 48)) _ _ = true; decide +kernel) (fun _ _ _ _ _ => (g_name 5 sc_law_fits.nd)) (fun _ _ _ _ _ => b_yes) (fun _ _ _ _ _ => (d_ixN 5 (fun _ _ => rfl) d_int)) (by decide) (sw_true (by rfl) (by rfl) (by rfl) (by rfl)))
 (q_cons (s_setLc (i := 2) [("bore", 5)] rfl sc_law_fits.nd (i_seq (d_ixN 0 (fun _ _ => rfl) d_int)) (by show blkC ["field", "names", "spots", "likes", "some", "bore", "block", "like", "layer"] (defScope (topS 48)) _ _ = true; decide +kernel) (fun _ _ _ _ _ => (g_name 5 sc_law_fits.nd)) (fun _ _ _ _ _ => b_yes) (fun _ _ _ _ _ => (d_ixN 5 (fun _ _ => rfl) d_int)) (by decide) (sw_true (by rfl) (by rfl) (by rfl) (by rfl)))
 (q_cons (s_setLc (i := 3) [("like", 7)] rfl sc_law_fits.nd (i_seq (d_ixN 0 (fun _ _ => rfl) d_int)) (by show blkC ["field", "names", "spots", "likes", "some", "bore", "block", "like", "layer"] (defScope (topS 48)) _ _ = true; decide +kernel) (fun _ _ _ _ _ => (g_name 7 sc_law_fits.nd)) (fun _ _ _ _ _ => b_yes) (fun _ _ _ _ _ => (d_tupV hb.tuple (DE.dv (d_fz (o_sortST hb.sorted (DE.dv (d_sl (dv 7) p_no (p_so d_int)))))))) (by decide) (sw_true (by rfl) (by rfl) (by rfl) (by rfl)))
 (q_cons (s_for PassesOwn.never rfl (i_seq (d_tup (a_cons (dvf 1) (a_cons (dvf 2) (a_cons (dvf 3) a_nil))))) (g_name 4 sc_law_fits.nd)
 (q_one (s_if (t_lt (d_lenSetA rfl (hu65 hr) hb.len hb.set (dv 4)) (d_lenV hb.len (vv 4)))
 (q_one (s_ret d_bl)) q_nil)))
 (q_cons (s_for PassesOwn.never rfl (i_seq (d_ixN 0 (fun _ _ => rfl) d_int)) (g_name 5 sc_law_fits.nd)
 (q_one (s_for PassesOwn.never rfl (i_seq (d_ixN 5 (fun _ _ => rfl) d_int)) (g_name 6 sc_law_fits.nd)
 (q_one (s_if (t_cmpL (op_inA (hu65 hr)) opv_in d_int (DE.dv (d_fz (o_lc [("layer", 8)] rfl sc_law_fits.nd (i_seq (dv 6)) (by show blkC ["field", "names", "spots", "likes", "some", "bore", "block", "like", "layer"] (defScope (topS 48)) _ _ = true; decide +kernel) (fun _ _ _ _ _ => (g_name 8 sc_law_fits.nd)) (fun _ _ _ _ _ => b_yes) (fun _ _ _ _ _ => (d_ixN 8 (fun _ _ => rfl) d_int)) (by decide)))) (by rfl))
 (q_one (s_ret d_bl)) q_nil)))))
 (q_one (s_ret (d_all rfl hb.all (DE.dv (d_fz (o_lc [("like", 7)] rfl sc_law_fits.nd (i_seq (d_ixN 0 (fun _ _ => rfl) d_int)) (by show blkC ["field", "names", "spots", "likes", "some", "bore", "block", "like", "layer"] (defScope (topS 48)) _ _ = true; decide +kernel) (fun _ _ _ _ _ => (g_name 7 sc_law_fits.nd)) (fun _ _ _ _ _ => b_yes) (fun _ _ _ _ _ => (d_chain op_le op_le op_b0 op_b0 d_int (d_ixN 7 (fun _ _ => rfl) d_int) d_int)) (by decide))))))))))))), hm, F.kp, hB⟩
  case hT =>
    intro a Q h
    obtain ⟨bs, ls, rfl, fg, q⟩ := h
    refine ⟨rfl, ?_⟩
    have hsz := sizeLine_eq
    obtain ⟨f1, f2⟩ := fg.few
    (refine seq_gen fun Nx hS => ?_; walk_at "st")
    refine comp_mm (g := boD) (fun b => .str b.nm) (by omega) (fun b hbm N hN => ?_) ?_
    · rw [show boD b = .tuple [.str b.nm, .int b.at_, .int b.top, .tuple (b.bl.map blD)] from rfl]
      (try walk_at "wpt")
      exact hN _ rfl
    (refine hS _ ?_; try clear hS; (repeat (refine seq_gen fun Nx hS => ?_; walk_at "st"; refine hS _ ?_; clear hS)))
    (refine seq_gen fun Nx hS => ?_; walk_at "st")
    refine comp_mm (g := boD) (fun b => .int b.at_) (by omega) (fun b hbm N hN => ?_) ?_
    · rw [show boD b = .tuple [.str b.nm, .int b.at_, .int b.top, .tuple (b.bl.map blD)] from rfl]
      (try walk_at "wpt")
      exact hN _ rfl
    (refine hS _ ?_; try clear hS; (repeat (refine seq_gen fun Nx hS => ?_; walk_at "st"; refine hS _ ?_; clear hS)))
    (refine seq_gen fun Nx hS => ?_; walk_at "st")
    refine comp_mm (g := lkD) (fun l => .tuple ((sortP l.1 l.2.1).map PyData.str)) (by omega) (fun l hl N hN => ?_) ?_
    · rw [show lkD l = .tuple [.str l.1, .str l.2.1, .int l.2.2] from rfl]
      (try walk_at "wpt")
      refine ⟨[l.1, l.2.1], rfl, by show 2 < 64; decide, fun ns' pm so => ?_⟩
      obtain rfl := sortP_of pm so
      exact hN _ rfl
    (refine hS _ ?_; try clear hS; (repeat (refine seq_gen fun Nx hS => ?_; walk_at "st"; refine hS _ ?_; clear hS)))
    (try walk_at "wpt")
    obtain ⟨fq, hfq⟩ : ∃ b, b = fitF bs ls := ⟨_, rfl⟩
    have fi := fit_g fg
    rw [← hfq] at fi q
    have no : ∀ z : Prop, (fq = true → z) → ¬ z → Q (.d (.bool false)) = Q (.d (.bool fq)) := fun z h1 h2 => by
      cases fq with
      | false => rfl
      | true => exact absurd (h1 rfl) h2
    obtain ⟨LL, hLL⟩ : ∃ LL : List (List PyData), LL = [bs.map (fun b => .str b.nm), bs.map (fun b => .int b.at_), ls.map (fun l => .tuple ((sortP l.1 l.2.1).map PyData.str))] := ⟨_, rfl⟩
    have ok : ∀ l ∈ LL, ((l.length ≤ 1000 ∧ ∀ d ∈ l, isAt d) ∨ (l.length < 64 ∧ ∀ d ∈ l, isTx d)) := fun l hl => by
      rw [hLL] at hl
      simp only [List.mem_cons, List.not_mem_nil, or_false] at hl
      rcases hl with rfl | rfl | rfl
      · refine .inl ⟨by rw [List.length_map]; exact f1, fun d hd => ?_⟩
        obtain ⟨b, _, rfl⟩ := List.mem_map.mp hd
        trivial
      · refine .inl ⟨by rw [List.length_map]; exact f1, fun d hd => ?_⟩
        obtain ⟨b, _, rfl⟩ := List.mem_map.mp hd
        trivial
      · refine .inr ⟨by rw [List.length_map]; exact f2, fun d hd => ?_⟩
        obtain ⟨b, _, rfl⟩ := List.mem_map.mp hd
        exact ⟨_, rfl⟩
    have nds : (∀ l ∈ LL, l.Nodup) ↔ ((bs.map Bo.nm).Nodup ∧ (bs.map Bo.at_).Nodup ∧ (ls.map fun l => sortP l.1 l.2.1).Nodup) := by
      rw [hLL]
      have e1 : bs.map (fun b => PyData.str b.nm) = (bs.map Bo.nm).map PyData.str := by rw [List.map_map]; rfl
      have e2 : bs.map (fun b => PyData.int b.at_) = (bs.map Bo.at_).map PyData.int := by rw [List.map_map]; rfl
      have e3 : (ls.map fun l => PyData.tuple ((sortP l.1 l.2.1).map PyData.str)).Nodup ↔ (ls.map fun l => sortP l.1 l.2.1).Nodup := by
        unfold List.Nodup
        rw [List.pairwise_map, List.pairwise_map]
        have inj : ∀ {k k' : List Str}, PyData.tuple (k.map PyData.str) = .tuple (k'.map PyData.str) → k = k' := fun e => by
          injection e with e
          exact (List.map_inj_right (fun x y e => by injection e)).mp e
        exact ⟨fun z => z.imp fun y e => y (by rw [e]), fun z => z.imp fun y e => y (inj e)⟩
      rw [e1, e2, ← e3, ← nodup_str, ← nodup_int]
      simp
    have el : [PyData.list (bs.map (fun b => PyData.str b.nm)), PyData.list (bs.map (fun b => PyData.int b.at_)), PyData.list (ls.map (fun l => PyData.tuple ((sortP l.1 l.2.1).map PyData.str)))] = LL.map PyData.list := by rw [hLL]; rfl
    rw [el]
    obtain ⟨x1, hx1⟩ : ∃ x, x = S.d (PyData.list (bs.map (fun b => PyData.str b.nm))) := ⟨_, rfl⟩
    obtain ⟨x2, hx2⟩ : ∃ x, x = S.d (PyData.list (bs.map (fun b => PyData.int b.at_))) := ⟨_, rfl⟩
    obtain ⟨x3, hx3⟩ : ∃ x, x = S.d (PyData.list (ls.map (fun l => PyData.tuple ((sortP l.1 l.2.1).map PyData.str)))) := ⟨_, rfl⟩
    rw [← hx1, ← hx2, ← hx3]
    clear el hx1 hx2 hx3
    refine loop_by (fun i c => ∃ (x4 : S), c = [.d (.tuple [.tuple (bs.map boD), .tuple (ls.map lkD)]), x1, x2, x3, x4, .no, .no, .no, .no] ∧ ∀ l ∈ LL.take i, l.Nodup) ⟨_, rfl, by simp⟩ ?_ ?_
    · rintro i y c N hy ⟨y4, rfl, hn⟩ hN
      obtain ⟨l, hl, rfl⟩ := map_get hy
      simp only [↓asT_t, ↓asC_c, gT, gsCons, gsNil, gN, List.length_cons, List.length_nil, List.set_cons_zero, List.set_cons_succ, Nat.zero_add, Nat.reduceAdd, true_and]
      (try walk_at "wpt")
      refine ⟨ok l (List.mem_of_getElem? hl), fun m m1 m2 => ?_⟩
      by_cases nl : l.Nodup
      · rw [if_neg (by have := m2.mpr nl; omega)]
        refine hN _ ⟨_, rfl, fun x hx => ?_⟩
        rw [List.take_add_one, hl] at hx
        rcases List.mem_append.mp hx with z | z
        · exact hn x z
        · rw [List.mem_singleton.mp z]; exact nl
      · rw [if_pos (by have : m ≠ l.length := fun z => nl (m2.mp z); omega)]
        rw [no (∀ l ∈ LL, l.Nodup) (fun z => nds.mpr (fi.mp z).1) fun z => nl (z l (List.mem_of_getElem? hl))]
        exact q _
    rintro c ⟨y4, rfl, hn⟩
    rw [List.length_map, List.take_length, nds] at hn
    (try walk_at "wpt")
    refine loop_by (fun i c => ∃ (x5 x6 : S), c = [.d (.tuple [.tuple (bs.map boD), .tuple (ls.map lkD)]), x1, x2, x3, y4, x5, x6, .no, .no] ∧ ∀ b ∈ bs.take i, ∀ k ∈ b.bl, ∀ l ∈ k, l.2 ≠ 0) ⟨_, _, rfl, by simp⟩ ?_ ?_
    · rintro i y c N hy ⟨y5, y6, rfl, hz⟩ hN
      obtain ⟨b, hb, rfl⟩ := map_get hy
      obtain ⟨b1, b2, b3, b4, b5, b6⟩ := fg.bo b (List.mem_of_getElem? hb)
      rw [show boD b = .tuple [.str b.nm, .int b.at_, .int b.top, .tuple (b.bl.map blD)] from rfl]
      simp only [↓asT_t, ↓asC_c, gT, gsCons, gsNil, gN, List.length_cons, List.length_nil, List.set_cons_zero, List.set_cons_succ, Nat.zero_add, Nat.reduceAdd, true_and]
      (try walk_at "wpt")
      refine loop_by (fun i' c => ∃ (x6 : S), c = [.d (.tuple [.tuple (bs.map boD), .tuple (ls.map lkD)]), x1, x2, x3, y4, .d (.tuple [.str b.nm, .int b.at_, .int b.top, .tuple (b.bl.map blD)]), x6, .no, .no] ∧ ∀ k ∈ b.bl.take i', ∀ l ∈ k, l.2 ≠ 0) ⟨_, rfl, by simp⟩ ?_ ?_
      · rintro j y c N2 hy ⟨y6, rfl, hz2⟩ hN2
        obtain ⟨k, hk, rfl⟩ := map_get hy
        obtain ⟨k1, k2, k3⟩ := b6 k (List.mem_of_getElem? hk)
        rw [show blD k = .tuple (k.map lyD) from rfl]
        simp only [↓asT_t, ↓asC_c, gT, gsCons, gsNil, gN, List.length_cons, List.length_nil, List.set_cons_zero, List.set_cons_succ, Nat.zero_add, Nat.reduceAdd, true_and]
        (try walk_at "wpt")
        refine comp_mm (g := lyD) (fun l => .int l.2) (by omega) (fun l hl N3 hN3 => ?_) ?_
        · rw [show lyD l = .tuple [.str l.1, .int l.2] from rfl]
          (try walk_at "wpt")
          exact hN3 _ rfl
        (try walk_at "wpt")
        have pI : Pl 2 (.list (k.map fun l => PyData.int l.2)) := pl_map fun l _ => pl_int
        refine ⟨pI.sh, ?_⟩
        have ea : ((k.map fun l => PyData.int l.2).any fun z => z.eqv (.int 0)) = k.any fun l => decide (l.2 = 0) := by
          rw [List.any_map]
          congr 1
        rw [ea]
        by_cases kz : (k.any fun l => decide (l.2 = 0)) = true
        · rw [if_pos kz, no (∀ b ∈ bs, ∀ k ∈ b.bl, ∀ l ∈ k, l.2 ≠ 0) (fun z => (fi.mp z).2.1) fun z => by
            obtain ⟨l, hl, e⟩ := List.any_eq_true.mp kz
            exact z b (List.mem_of_getElem? hb) k (List.mem_of_getElem? hk) l hl (of_decide_eq_true e)]
          exact q _
        · rw [if_neg kz]
          refine hN2 _ ⟨_, rfl, fun x hx => ?_⟩
          rw [List.take_add_one, hk] at hx
          rcases List.mem_append.mp hx with z | z
          · exact hz2 x z
          · rw [List.mem_singleton.mp z]
            exact fun l hl e => kz (List.any_eq_true.mpr ⟨l, hl, decide_eq_true e⟩)
      · rintro c ⟨y6, rfl, hz2⟩
        rw [List.length_map, List.take_length] at hz2
        refine hN _ ⟨_, _, rfl, fun x hx => ?_⟩
        rw [List.take_add_one, hb] at hx
        rcases List.mem_append.mp hx with z | z
        · exact hz x z
        · rw [List.mem_singleton.mp z]; exact hz2
    rintro c ⟨y5, y6, rfl, hz⟩
    rw [List.length_map, List.take_length] at hz
    (try walk_at "wpt")
    refine comp_mm (g := lkD) (fun l => .bool (decide (1 ≤ l.2.2) && decide (l.2.2 ≤ 9))) (by omega) (fun l hl N hN => ?_) ?_
    · rw [show lkD l = .tuple [.str l.1, .str l.2.1, .int l.2.2] from rfl]
      (try walk_at "wpt")
      by_cases h1 : 1 ≤ l.2.2
      · rw [if_pos h1]
        rw [decide_eq_true h1, Bool.true_and] at hN
        exact hN _ rfl
      · rw [if_neg h1]
        rw [decide_eq_false h1, Bool.false_and] at hN
        exact hN _ rfl
    (try walk_at "wpt")
    rw [show (ls.map fun l => PyData.bool (decide (1 ≤ l.2.2) && decide (l.2.2 ≤ 9))) = (ls.map fun l => decide (1 ≤ l.2.2) && decide (l.2.2 ≤ 9)).map PyData.bool by rw [List.map_map]; rfl, asBs_m]
    rw [show (ls.map fun l => decide (1 ≤ l.2.2) && decide (l.2.2 ≤ 9)).all id = fq by
      rw [Bool.eq_iff_iff, fi, List.all_eq_true]
      constructor
      · refine fun z => ⟨hn, hz, fun l hl => ?_⟩
        have := z _ (List.mem_map_of_mem hl)
        rw [id, Bool.and_eq_true, decide_eq_true_iff, decide_eq_true_iff] at this
        exact this
      · rintro ⟨-, -, z⟩ x hx
        obtain ⟨l, hl, rfl⟩ := List.mem_map.mp hx
        obtain ⟨z1, z2⟩ := z l hl
        rw [id, decide_eq_true z1, decide_eq_true z2]; rfl]
    exact q _
  )
theorem sc_law_read : FnScope ["thing", "told", "e", "kinds"] ["thing"] (defScope (topS 49)) := ⟨rfl, rfl, rfl, by decide +kernel, rfl, by decide +kernel, by decide +kernel⟩
theorem c_law_read {P : Program} {w : World} {K : PySem.W.Frag} {mg : Str → Option Value} {base : Heap} (hb : Bi K mg) (D : Df K mg "_law_read" (topS 49) ["thing"]) (C_read : CalY P w K mg base "read" 6 ["text"] T_read) : Cal P w K mg base "_law_read" 7 ["thing"] T_law_read := (by
  obtain ⟨f, fd, F, hm, hB⟩ := D
  refine ⟨f, fd, fn_d (k := 6) F sc_law_read ?hT (fun cdv A outer s H E hr => (q_cons (s_set (j := 1) sc_law_read.nd (d_tup (a_cons d_str (a_cons d_non a_nil))))
 (q_cons (s_tryL (i := 2) rfl rfl sc_law_read.nd hb.cls_BoreError (fun W pn xe tk po => (qy_one (sy_set (j := 1) sc_law_read.nd (xy_d (ey_tup (ay_cons (ey_e d_str) (ay_cons (ey_x (y_callA tk C_read (hr.mono (by decide)) (r_d (dv 0) r_nil))) ay_nil))))))) (SuAll.cons hb.exm_NoText_BoreError (fun a d oe pn hz hfl => (q_cons (s_setO (j := 3) sc_law_read.nd (o_lst (a_cons (d_isY 2 hb.exc_NoText hz hfl hb.isinstance hb.cls_NoText hb.kit_NoText_NoText) (a_cons (d_isY 2 hb.exc_NoText hz hfl hb.isinstance hb.cls_Unfit hb.kit_NoText_Unfit) (a_cons (d_isYB 2 hb.exc_NoText hz hfl hb.isinstance hb.ValueError (by decide +kernel) hb.kit_NoText_ValueError) a_nil)))))
 (q_one (s_set (j := 1) sc_law_read.nd (d_tup (a_cons d_str (a_cons (d_fz (o_catN 3 (DE.dv (d_fz (o_lst (a_cons (d_isYT 2 hb.exc_NoText hz hfl hb.isinstance (cl_cons hb.cls_Clash (cl_cons hb.cls_Twice (cl_cons hb.cls_Unknown cl_nil))) (kitAny_cons hb.kit_NoText_Clash (fun _ => (kitAny_cons hb.kit_NoText_Twice (fun _ => (kitAny_cons hb.kit_NoText_Unknown (fun _ => rfl) (fun h => nomatch h))) (fun h => nomatch h))) (fun h => nomatch h)) (by show 3 ≤ sizeLine; decide)) a_nil)))))) a_nil))))))) (SuAll.cons hb.exm_Unfit_BoreError (fun a d oe pn hz hfl => (q_cons (s_setO (j := 3) sc_law_read.nd (o_lst (a_cons (d_isY 2 hb.exc_Unfit hz hfl hb.isinstance hb.cls_NoText hb.kit_Unfit_NoText) (a_cons (d_isY 2 hb.exc_Unfit hz hfl hb.isinstance hb.cls_Unfit hb.kit_Unfit_Unfit) (a_cons (d_isYB 2 hb.exc_Unfit hz hfl hb.isinstance hb.ValueError (by decide +kernel) hb.kit_Unfit_ValueError) a_nil)))))
 (q_one (s_set (j := 1) sc_law_read.nd (d_tup (a_cons d_str (a_cons (d_fz (o_catN 3 (DE.dv (d_fz (o_lst (a_cons (d_isYT 2 hb.exc_Unfit hz hfl hb.isinstance (cl_cons hb.cls_Clash (cl_cons hb.cls_Twice (cl_cons hb.cls_Unknown cl_nil))) (kitAny_cons hb.kit_Unfit_Clash (fun _ => (kitAny_cons hb.kit_Unfit_Twice (fun _ => (kitAny_cons hb.kit_Unfit_Unknown (fun _ => rfl) (fun h => nomatch h))) (fun h => nomatch h))) (fun h => nomatch h)) (by show 3 ≤ sizeLine; decide)) a_nil)))))) a_nil))))))) SuAll.nil)))
 (q_one (s_ret (dv 1)))))), hm, F.kp, hB⟩
  case hT =>
    intro a Q h
    refine ⟨by rcases h with ⟨w, rfl, _⟩ | ⟨x, rfl, _⟩ <;> rfl, ?_⟩
    have hsz := sizeLine_eq
    rcases h with ⟨w, rfl, hw, wl, rl, q⟩ | ⟨x, rfl, hx, q⟩
    rotate_left
    · (try walk_at "wpt")
      intro v
      refine .inr ⟨x, rfl, hx, ?_⟩
      (try walk_at "wpt")
      intro a d
      exact ⟨⟨_, rfl⟩, ⟨_, rfl⟩, ⟨_, rfl⟩, ⟨_, rfl⟩, q _⟩
    · (try walk_at "wpt")
      intro v
      unfold toldF at q
      refine .inl ⟨w, rfl, hw, wl, rl, fun z => ?_, fun s z => ⟨fun f => ?_, fun f => ?_⟩⟩
      · rw [z] at q
        (try walk_at "wpt")
        intro a d
        exact ⟨⟨_, rfl⟩, ⟨_, rfl⟩, ⟨_, rfl⟩, ⟨_, rfl⟩, q _⟩
      · rw [z] at q
        dsimp only at q
        rw [if_neg (by rw [f]; decide)] at q
        (try walk_at "wpt")
        intro a d
        exact ⟨⟨_, rfl⟩, ⟨_, rfl⟩, ⟨_, rfl⟩, ⟨_, rfl⟩, q _⟩
      · rw [z] at q
        dsimp only at q
        rw [if_pos f] at q
        (try walk_at "wpt")
        exact q _
  )
theorem sc_law_right : FnScope ["text", "rows", "due", "told"] ["text"] (defScope (topS 50)) := ⟨rfl, rfl, rfl, by decide +kernel, rfl, by decide +kernel, by decide +kernel⟩
theorem c_law_right {P : Program} {w : World} {K : PySem.W.Frag} {mg : Str → Option Value} {base : Heap} (hb : Bi K mg) (D : Df K mg "_law_right" (topS 50) ["text"]) (C__law_fits : Cal P w K mg base "_law_fits" 1 ["field"] T_law_fits) (C__law_read : Cal P w K mg base "_law_read" 7 ["thing"] T_law_read) (C__law_field_of : Cal P w K mg base "_law_field_of" 3 ["rows"] T_law_field_of) : Cal P w K mg base "_law_right" 8 ["text"] T_law_right := (by
  obtain ⟨f, fd, F, hm, hB⟩ := D
  refine ⟨f, fd, fn_d (k := 7) F sc_law_right ?hT (fun cdv A outer s H E hr => (q_cons (s_setO (j := 1) sc_law_right.nd (o_split (dv 0) d_str))
 (q_cut (s_if (t_eq hr.units (dv 0) d_str)
 (q_one (s_setO (j := 1) sc_law_right.nd (o_lst a_nil))) q_nil)
 (q_cons (s_set (j := 2) sc_law_right.nd (d_callC C__law_field_of (hr.mono (by decide)) (a_cons (dvf 1) a_nil)))
 (q_cons (s_set (j := 3) sc_law_right.nd (d_callC C__law_read (hr.mono (by decide)) (a_cons (dv 0) a_nil)))
 (q_cons (s_if (t_isN (dv 2))
 (q_one (s_ret (d_eq hr.units (dv 3) (d_tup (a_cons d_str (a_cons (d_fz (o_lst (a_cons d_bl (a_cons d_bl (a_cons d_bl (a_cons d_bl a_nil)))))) a_nil)))))) q_nil)
 (q_cons (s_if (t_not (tv (d_callC C__law_fits (hr.mono (by decide)) (a_cons (dv 2) a_nil))))
 (q_one (s_ret (d_eq hr.units (dv 3) (d_tup (a_cons d_str (a_cons (d_fz (o_lst (a_cons d_bl (a_cons d_bl (a_cons d_bl (a_cons d_bl a_nil)))))) a_nil)))))) q_nil)
 (q_one (s_ret (d_and (d_eq hr.units (d_ixN 3 (fun _ _ => rfl) d_int) d_str) (d_and (d_isi (n := "tuple") hb.isinstance hb.tuple bb_tuple (d_ixN 3 (fun _ _ => rfl) d_int) kt_tuple) (d_one (d_eq hr.units (d_ixN 3 (fun _ _ => rfl) d_int) (dv 2)))))))))))))), hm, F.kp, hB⟩
  case hT =>
    intro a Q h
    obtain ⟨w, rfl, hw, wl, rl, ro, q⟩ := h
    refine ⟨rfl, ?_⟩
    have hsz := sizeLine_eq
    (refine seq_gen fun Nx hS => ?_; walk_at "st")
    refine ⟨by decide +kernel, by omega, ?_⟩
    (refine hS _ ?_; try clear hS; (repeat (refine seq_gen fun Nx hS => ?_; walk_at "st"; refine hS _ ?_; clear hS)))
    refine cut_by (fun c => c = ([.d (.str w), .o none (.lst ((rowsF w).map PyData.str)), .no, .no] : Dl.Ctx)) (fun M hM => ?_) ?_
    · (try walk_at "wpt")
      refine ⟨hw, by decide +kernel, ?_⟩
      unfold rowsF at hM
      by_cases e : w = Str.ofString ""
      · rw [if_pos e] at hM ⊢
        exact hM _ rfl
      · rw [if_neg e] at hM ⊢
        exact hM _ rfl
    rintro c rfl
    have rok : ∀ r ∈ rowsF w, PyData.strOk r = true ∧ r.length ≤ 90000 := fun r hr => by
      unfold rowsF at hr
      split at hr
      · cases hr
      · exact ⟨split_ok hw r hr, by have := split_len hr; omega⟩
    have fe := fldOf_read w
    obtain ⟨R, hR⟩ : ∃ R, R = rowsF w := ⟨_, rfl⟩
    rw [← hR] at rok fe
    rw [← hR]
    have Rl : R.length ≤ 900 := by rw [hR]; exact rl
    (refine seq_gen fun Nx hS => ?_; walk_at "st")
    refine ⟨R, rfl, Rl, rok, ?_⟩
    (try walk_at "wpt")
    (refine hS _ ?_; try clear hS; (repeat (refine seq_gen fun Nx hS => ?_; walk_at "st"; refine hS _ ?_; clear hS)))
    (refine seq_gen fun Nx hS => ?_; walk_at "st")
    refine .inl ⟨w, rfl, hw, by omega, rl, ?_⟩
    (try walk_at "wpt")
    unfold toldF
    cases hr : readF w with
    | none =>
      rw [hr] at fe
      have fe : fldOf (R.map wordsF) = .none := fe
      rw [fe]
      (refine hS _ ?_; try clear hS; (repeat (refine seq_gen fun Nx hS => ?_; walk_at "st"; refine hS _ ?_; clear hS)))
      (try walk_at "wpt")
      rw [eqv_w4]
      exact ⟨sh_w4 _ _ _ _, sh_w4 _ _ _ _, q _⟩
    | some s =>
      rw [hr] at fe
      have fe : fldOf (R.map wordsF) = .tuple [.tuple (s.1.map boD), .tuple (s.2.map lkD)] := fe
      have fg := read_g hr rl ro
      have pf := pl_fldG fg
      rw [fe]
      (refine hS _ ?_; try clear hS; (repeat (refine seq_gen fun Nx hS => ?_; walk_at "st"; refine hS _ ?_; clear hS)))
      (try walk_at "wpt")
      refine ⟨s.1, s.2, rfl, fg, ?_⟩
      (try walk_at "wpt")
      by_cases hf : fitF s.1 s.2 = false
      · rw [hf]
        (try walk_at "wpt")
        rw [eqv_w4]
        exact ⟨sh_w4 _ _ _ _, sh_w4 _ _ _ _, q _⟩
      · have hf : fitF s.1 s.2 = true := by simpa using hf
        rw [hf]
        (try walk_at "wpt")
        rw [pf.selfT]
        exact ⟨by decide +kernel, by decide +kernel, pf.sh, pf.sh, q _⟩
  )
theorem sc_law : FnScope ["script", "rows", "k", "thing", "feed", "bent", "turn"] ["script"] (defScope (topS 51)) := ⟨rfl, rfl, rfl, by decide +kernel, rfl, by decide +kernel, by decide +kernel⟩
theorem f_law {P : Program} {w : World} {K : PySem.W.Frag} {mg : Str → Option Value} {base : Heap} {f : Addr} {fd : FuncData} (hb : Bi K mg) (F : Fun K "law" "law" (topS 51) f fd) (C__law_right : Cal P w K mg base "_law_right" 8 ["text"] T_law_right) (C__law_read : Cal P w K mg base "_law_read" 7 ["thing"] T_law_read) (C__law_next : Cal P w K mg base "_law_next" 2 ["feed", "many"] T_law_next) (C__law_bent : Cal P w K mg base "_law_bent" 4 ["feed", "rows"] T_law_bent) (C__law_feed : Cal P w K mg base "_law_feed" 1 ["script", "k"] T_law_feed) (C__law_rows : Cal P w K mg base "_law_rows" 1 ["field"] T_law_rows) (C__law_field : Cal P w K mg base "_law_field" 7 ["script"] T_law_field) : FnOk P w K mg base CX0 9 f fd ["script"] (SpD K T_law) := (by
  refine fn_d (k := 8) F sc_law ?hT (fun cdv A outer s H E hr => (q_cons (s_set (j := 1) sc_law.nd (d_fz (o_callC C__law_rows (hr.mono (by decide)) (a_cons (d_callC C__law_field (hr.mono (by decide)) (a_cons (dv 0) a_nil)) a_nil))))
 (q_cons (s_for PassesOwn.never rfl (i_range1 hb.range d_int) (g_name 2 sc_law.nd)
 (q_cons (s_setO (j := 4) sc_law.nd (o_callC C__law_feed (hr.mono (by decide)) (a_cons (dv 0) (a_cons (d_add d_int (dv 2)) a_nil))))
 (q_cons (s_set (j := 5) sc_law.nd (dv 1))
 (q_cons (s_for PassesOwn.never rfl (i_range1 hb.range (d_add d_int (d_lendC 4 C__law_next (hr.mono (by decide)) (a_cons d_int a_nil)))) (g_name 6 sc_law.nd)
 (q_one (s_set (j := 5) sc_law.nd (d_lendC 4 C__law_bent (hr.mono (by decide)) (a_cons (dv 5) a_nil)))))
 (q_one (s_if (t_not (tv (d_callC C__law_right (hr.mono (by decide)) (a_cons (d_join d_str (vv 5) (fun _ _ h => ⟨rfl, h⟩)) a_nil))))
 (q_one (s_ret d_bl)) q_nil))))))
 (q_cons (s_for PassesOwn.never rfl (i_seq (d_fz (o_lst (a_cons d_non (a_cons d_int (a_cons (dv 1) (a_cons (d_tupV hb.tuple (vv 1)) a_nil))))))) (g_name 3 sc_law.nd)
 (q_one (s_if (t_ne hr.units (d_callC C__law_read (hr.mono (by decide)) (a_cons (dv 3) a_nil)) (d_tup (a_cons d_str (a_cons (d_fz (o_lst (a_cons d_bl (a_cons d_bl (a_cons d_bl (a_cons d_bl a_nil)))))) a_nil))))
 (q_one (s_ret d_bl)) q_nil)))
 (q_one (s_ret (d_callC C__law_right (hr.mono (by decide)) (a_cons (d_join d_str (vv 1) (fun _ _ h => ⟨rfl, h⟩)) a_nil))))))))
  case hT =>
    intro a Q h
    obtain ⟨ns, rfl, q⟩ := h
    refine ⟨rfl, ?_⟩
    have hsz := sizeLine_eq
    (refine seq_gen fun Nx hS => ?_; walk_at "st")
    intro nm ms bs ls hF
    obtain ⟨hb, hl⟩ := fld_rd hF
    have fx := fld_tx hF
    have sz := fld_sz hF
    have ok := rows_ok hb hl
    have rb := rows_b ok sz (by have := hF.ll; omega)
    refine ⟨bs, ls, rfl, fx, ?_⟩
    (try walk_at "wpt")
    rw [show (fldW bs ls).map (fun ws => PyData.str (rowT ws)) = ((fldW bs ls).map rowT).map PyData.str by rw [List.map_map]; rfl]
    obtain ⟨rs, hrs⟩ : ∃ rs, rs = (fldW bs ls).map rowT := ⟨_, rfl⟩
    rw [← hrs] at rb ⊢
    clear hrs ok sz fx hb hl hF
    (refine hS _ ?_; try clear hS; (repeat (refine seq_gen fun Nx hS => ?_; walk_at "st"; refine hS _ ?_; clear hS)))
    (try walk_at "wpt")
    have fin : ∀ (i : Nat) (us : List Str), i ≤ 3 → RwsB (bM i) (bK i) (bZ i) (bL i) (bC i) (263 + i) us → (us.map fun x => x.length).sum + us.length * (Str.ofString "\n").length ≤ 16777216 ∧ ∃ w, w = Txt.join (Str.ofString "\n") us ∧ PyData.strOk w = true ∧ w.length ≤ 89000 ∧ (rowsF w).length ≤ 900 ∧ ((rowsF w).map wordsF).countP othR < 64 := fun i us hi hu => by
      obtain ⟨b1, b2, b3, b4⟩ := b_le hi
      obtain ⟨t1, t2, t3, t4⟩ := rws_text hu
      have u1 := hu.len
      have u2 : szL us ≤ bZ i := hu.sz
      refine ⟨?_, _, rfl, t1, by omega, by omega, by omega⟩
      rw [show (Str.ofString "\n").length = 1 by decide +kernel]
      show szL us + us.length * 1 ≤ _
      omega
    refine loop_by (fun i c => ∃ (x2 x4 x5 x6 : S), c = [.d (.list (ns.map PyData.int)), .d (.list (rs.map PyData.str)), x2, .no, x4, x5, x6] ∧ True) ⟨_, _, _, _, rfl, trivial⟩ ?_ ?_
    · rintro i y c N hy ⟨x2, x4, x5, x6, rfl, -⟩ hN
      obtain ⟨il, rfl⟩ := rngD_get hy
      simp only [↓asT_t, ↓asC_c, gT, gsCons, gsNil, gN, List.length_cons, List.length_nil, List.set_cons_zero, List.set_cons_succ, Nat.zero_add, Nat.reduceAdd, true_and]
      (refine seq_gen fun Nx hS => ?_; walk_at "st")
      refine ⟨by omega, ?_⟩
      (refine hS _ ?_; try clear hS; (repeat (refine seq_gen fun Nx hS => ?_; walk_at "st"; refine hS _ ?_; clear hS)))
      (refine seq_gen fun Nx hS => ?_; walk_at "st")
      refine ⟨bd_of (by decide) (by decide), fun r r0 r3 => ⟨by omega, by omega, ?_⟩⟩
      refine loop_by (fun t c => ∃ (us : List Str) (x6 : S), c = [.d (.list (ns.map PyData.int)), .d (.list (rs.map PyData.str)), .d (.int (0 + (i : Int))), .no, .o none (.lstP FeedP), .d (.list (us.map PyData.str)), x6] ∧ RwsB (bM t) (bK t) (bZ t) (bL t) (bC t) (263 + t) us) ⟨rs, _, rfl, rb⟩ ?_ ?_
      · rintro t y c N1 hy ⟨us, x7, rfl, hu⟩ hN1
        obtain ⟨tl, rfl⟩ := rngD_get hy
        obtain ⟨b1, b2, b3, b4⟩ := b_le (i := t) (by omega)
        simp only [↓asT_t, ↓asC_c, gT, gsCons, gsNil, gN, List.length_cons, List.length_nil, List.set_cons_zero, List.set_cons_succ, Nat.zero_add, Nat.reduceAdd, true_and]
        (try walk_at "wpt")
        intro v
        refine ⟨_, bM t, bK t, bZ t, bL t, bC t, 263 + t, us, rfl, hu, b1, by omega, fun us' hu' => ?_⟩
        (try walk_at "wpt")
        exact hN1 _ ⟨us', _, rfl, hu'⟩
      rintro c ⟨us, x7, rfl, hu⟩
      rw [rngD_len] at hu
      obtain ⟨f1, w, rfl, f2, f3, f4, f5⟩ := fin _ us (by omega) hu
      (refine hS _ ?_; try clear hS; (repeat (refine seq_gen fun Nx hS => ?_; walk_at "st"; refine hS _ ?_; clear hS)))
      (try walk_at "wpt")
      refine ⟨f1, _, rfl, f2, f3, f4, f5, ?_⟩
      (try walk_at "wpt")
      exact hN _ ⟨_, _, _, _, rfl, trivial⟩
    rintro c ⟨x2, x4, x5, x6, rfl, -⟩
    (try walk_at "wpt")
    refine loop_by (fun i c => ∃ (x3 : S), c = [.d (.list (ns.map PyData.int)), .d (.list (rs.map PyData.str)), x2, x3, x4, x5, x6] ∧ True) ⟨_, rfl, trivial⟩ ?_ ?_
    · rintro i y c N hy ⟨x3, rfl, -⟩ hN
      have ny : notS y = true := by
        have := List.mem_of_getElem? hy
        simp only [List.mem_cons, List.not_mem_nil, or_false] at this
        rcases this with rfl | rfl | rfl | rfl <;> rfl
      simp only [↓asT_t, ↓asC_c, gT, gsCons, gsNil, gN, List.length_cons, List.length_nil, List.set_cons_zero, List.set_cons_succ, Nat.zero_add, Nat.reduceAdd, true_and]
      (try walk_at "wpt")
      refine .inr ⟨y, rfl, ny, ?_⟩
      (try walk_at "wpt")
      rw [eqv_w4]
      exact ⟨sh_w4 _ _ _ _, sh_w4 _ _ _ _, hN _ ⟨_, rfl, trivial⟩⟩
    rintro c ⟨x3, rfl, -⟩
    (try walk_at "wpt")
    obtain ⟨f1, w, rfl, f2, f3, f4, f5⟩ := fin 0 rs (by omega) rb
    refine ⟨f1, _, rfl, f2, f3, f4, f5, ?_⟩
    (try walk_at "wpt")
    exact q _
  )
theorem factsL {P : Program} {w : World} {K : PySem.W.Frag} {h : Heap} {mg : Str → Option Value} {fa : Addr} (X : K.In h) (G : h.Ns mainGlobals mg) (hfa : mg "law" = some (.ref fa)) (c : SaysX facL fnsL xsL K) :
    ∃ (fd : FuncData) (sp : Sp), (∀ (s : Shared) (u : Value), BindsTo s fd ⟨[u], []⟩ [("script", u)]) ∧ (∀ (H : Hp) (a : Addr) (ns : List Int), ns.length ≤ 63 → Only H → SqL K H a (ns.map V.int) → sp [.ref a] H (fun v _ => v = .bl true) fun _ _ _ => False) ∧
      ∀ base : Heap, K.In base → base.Ns mainGlobals mg → FnOk P w K mg base CX0 9 fa fd ["script"] sp := (by
  have hb : Bi K mg := ⟨He.free_ok X G (c.d.fact 39 (f := .free "ValueError") rfl), He.free_ok X G (c.d.fact 40 (f := .free "all") rfl), He.free_ok X G (c.d.fact 41 (f := .free "int") rfl), He.free_ok X G (c.d.fact 42 (f := .free "isinstance") rfl), He.free_ok X G (c.d.fact 43 (f := .free "len") rfl), He.free_ok X G (c.d.fact 44 (f := .free "list") rfl), He.free_ok X G (c.d.fact 45 (f := .free "max") rfl), He.free_ok X G (c.d.fact 46 (f := .free "min") rfl), He.free_ok X G (c.d.fact 47 (f := .free "range") rfl), He.free_ok X G (c.d.fact 48 (f := .free "set") rfl), He.free_ok X G (c.d.fact 49 (f := .free "sorted") rfl), He.free_ok X G (c.d.fact 50 (f := .free "str") rfl), He.free_ok X G (c.d.fact 51 (f := .free "tuple") rfl), He.str_ok X G (c.d.fact 52 (f := .str "LETTERS" "abcdefghijklmnopqrstuvwxyz") rfl), He.str_ok X G (c.d.fact 53 (f := .str "FIGURES" "0123456789") rfl), He.glo_ok X G (c.d.fact 54 (f := .glo "BoreError") rfl), He.glo_ok X G (c.d.fact 55 (f := .glo "NoText") rfl), He.glo_ok X G (c.d.fact 56 (f := .glo "Unfit") rfl), He.glo_ok X G (c.d.fact 57 (f := .glo "Unknown") rfl), He.glo_ok X G (c.d.fact 58 (f := .glo "Twice") rfl), He.glo_ok X G (c.d.fact 59 (f := .glo "Clash") rfl), exF_of X G (c.d.fact 55 (f := .glo "NoText") rfl) (c.d.fact 60 (f := .exc "NoText") rfl), excB_ok (c.x 0 (t := excB "NoText") rfl), He.exm_ok (c.d.fact 61 (f := .exm "NoText" "BoreError" true) rfl), of_decide_eq_true (c.x 1 (t := kitB "NoText" "Clash" false) rfl), of_decide_eq_true (c.x 2 (t := kitB "NoText" "NoText" true) rfl), of_decide_eq_true (c.x 3 (t := kitB "NoText" "Twice" false) rfl), of_decide_eq_true (c.x 4 (t := kitB "NoText" "Unfit" false) rfl), of_decide_eq_true (c.x 5 (t := kitB "NoText" "Unknown" false) rfl), of_decide_eq_true (c.x 6 (t := kitT "NoText" "ValueError" true) rfl), exF_of X G (c.d.fact 56 (f := .glo "Unfit") rfl) (c.d.fact 62 (f := .exc "Unfit") rfl), excB_ok (c.x 7 (t := excB "Unfit") rfl), He.exm_ok (c.d.fact 63 (f := .exm "Unfit" "BoreError" true) rfl), of_decide_eq_true (c.x 8 (t := kitB "Unfit" "Clash" false) rfl), of_decide_eq_true (c.x 9 (t := kitB "Unfit" "NoText" false) rfl), of_decide_eq_true (c.x 10 (t := kitB "Unfit" "Twice" false) rfl), of_decide_eq_true (c.x 11 (t := kitB "Unfit" "Unfit" true) rfl), of_decide_eq_true (c.x 12 (t := kitB "Unfit" "Unknown" false) rfl), of_decide_eq_true (c.x 13 (t := kitT "Unfit" "ValueError" true) rfl)⟩
  have D_is_name : Df K mg "is_name" (topS 10) ["word"] := df_of X G c.d 0 0 rfl rfl (fun _ _ _ _ _ _ us hl => match us, hl with | [_], _ => rfl)
  have D_is_number : Df K mg "is_number" (topS 11) ["word"] := df_of X G c.d 1 1 rfl rfl (fun _ _ _ _ _ _ us hl => match us, hl with | [_], _ => rfl)
  have D_words_of : Df K mg "words_of" (topS 12) ["row"] := df_of X G c.d 2 2 rfl rfl (fun _ _ _ _ _ _ us hl => match us, hl with | [_], _ => rfl)
  have D_rows_of : Df K mg "rows_of" (topS 13) ["text"] := df_of X G c.d 3 3 rfl rfl (fun _ _ _ _ _ _ us hl => match us, hl with | [_], _ => rfl)
  have D_block_fits : Df K mg "block_fits" (topS 15) ["block"] := df_of X G c.d 4 4 rfl rfl (fun _ _ _ _ _ _ us hl => match us, hl with | [_], _ => rfl)
  have D_bore_fits : Df K mg "bore_fits" (topS 16) ["bore"] := df_of X G c.d 5 5 rfl rfl (fun _ _ _ _ _ _ us hl => match us, hl with | [_], _ => rfl)
  have D_likes_fit : Df K mg "likes_fit" (topS 17) ["likes"] := df_of X G c.d 6 6 rfl rfl (fun _ _ _ _ _ _ us hl => match us, hl with | [_], _ => rfl)
  have D_fits : Df K mg "fits" (topS 18) ["field"] := df_of X G c.d 7 7 rfl rfl (fun _ _ _ _ _ _ us hl => match us, hl with | [_], _ => rfl)
  have D_fitted : Df K mg "fitted" (topS 19) ["field"] := df_of X G c.d 8 8 rfl rfl (fun _ _ _ _ _ _ us hl => match us, hl with | [_], _ => rfl)
  have D_need : Df K mg "need" (topS 21) ["truth"] := df_of X G c.d 9 9 rfl rfl (fun _ _ _ _ _ _ us hl => match us, hl with | [_], _ => rfl)
  have D_head_of : Df K mg "head_of" (topS 22) ["words"] := df_of X G c.d 10 10 rfl rfl (fun _ _ _ _ _ _ us hl => match us, hl with | [_], _ => rfl)
  have D_layer_of : Df K mg "layer_of" (topS 23) ["words"] := df_of X G c.d 11 11 rfl rfl (fun _ _ _ _ _ _ us hl => match us, hl with | [_], _ => rfl)
  have D_like_of : Df K mg "like_of" (topS 24) ["words"] := df_of X G c.d 12 12 rfl rfl (fun _ _ _ _ _ _ us hl => match us, hl with | [_], _ => rfl)
  have D_lay_row : Df K mg "lay_row" (topS 25) ["found", "likes", "words"] := df_of X G c.d 13 13 rfl rfl (fun _ _ _ _ _ _ us hl => match us, hl with | [_, _, _], _ => rfl)
  have D_read : Df K mg "read" (topS 26) ["text"] := df_of X G c.d 14 14 rfl rfl (fun _ _ _ _ _ _ us hl => match us, hl with | [_], _ => rfl)
  have D__law_draw : Df K mg "_law_draw" (topS 28) ["script", "k", "many"] := df_of X G c.d 15 15 rfl rfl (fun _ _ _ _ _ _ us hl => match us, hl with | [_, _, _], _ => rfl)
  have D__law_feed : Df K mg "_law_feed" (topS 29) ["script", "k"] := df_of X G c.d 16 16 rfl rfl (fun _ _ _ _ _ _ us hl => match us, hl with | [_, _], _ => rfl)
  have D__law_next : Df K mg "_law_next" (topS 30) ["feed", "many"] := df_of X G c.d 17 17 rfl rfl (fun _ _ _ _ _ _ us hl => match us, hl with | [_, _], _ => rfl)
  have D__law_great : Df K mg "_law_great" (topS 31) ["feed"] := df_of X G c.d 18 18 rfl rfl (fun _ _ _ _ _ _ us hl => match us, hl with | [_], _ => rfl)
  have D__law_long : Df K mg "_law_long" (topS 32) ["feed"] := df_of X G c.d 19 19 rfl rfl (fun _ _ _ _ _ _ us hl => match us, hl with | [_], _ => rfl)
  have D__law_name : Df K mg "_law_name" (topS 33) ["feed", "names"] := df_of X G c.d 20 20 rfl rfl (fun _ _ _ _ _ _ us hl => match us, hl with | [_, _], _ => rfl)
  have D__law_names : Df K mg "_law_names" (topS 34) ["feed", "many"] := df_of X G c.d 21 21 rfl rfl (fun _ _ _ _ _ _ us hl => match us, hl with | [_, _], _ => rfl)
  have D__law_blocks : Df K mg "_law_blocks" (topS 35) ["feed", "marks"] := df_of X G c.d 22 22 rfl rfl (fun _ _ _ _ _ _ us hl => match us, hl with | [_, _], _ => rfl)
  have D__law_bores : Df K mg "_law_bores" (topS 36) ["script", "names", "marks"] := df_of X G c.d 23 23 rfl rfl (fun _ _ _ _ _ _ us hl => match us, hl with | [_, _, _], _ => rfl)
  have D__law_likes : Df K mg "_law_likes" (topS 37) ["feed", "marks"] := df_of X G c.d 24 24 rfl rfl (fun _ _ _ _ _ _ us hl => match us, hl with | [_, _], _ => rfl)
  have D__law_marks : Df K mg "_law_marks" (topS 38) ["feed", "names"] := df_of X G c.d 25 25 rfl rfl (fun _ _ _ _ _ _ us hl => match us, hl with | [_, _], _ => rfl)
  have D__law_field : Df K mg "_law_field" (topS 39) ["script"] := df_of X G c.d 26 26 rfl rfl (fun _ _ _ _ _ _ us hl => match us, hl with | [_], _ => rfl)
  have D__law_rows : Df K mg "_law_rows" (topS 40) ["field"] := df_of X G c.d 27 27 rfl rfl (fun _ _ _ _ _ _ us hl => match us, hl with | [_], _ => rfl)
  have D__law_bent_row : Df K mg "_law_bent_row" (topS 41) ["feed", "row"] := df_of X G c.d 28 28 rfl rfl (fun _ _ _ _ _ _ us hl => match us, hl with | [_, _], _ => rfl)
  have D__law_bent : Df K mg "_law_bent" (topS 42) ["feed", "rows"] := df_of X G c.d 29 29 rfl rfl (fun _ _ _ _ _ _ us hl => match us, hl with | [_, _], _ => rfl)
  have D__law_is_name : Df K mg "_law_is_name" (topS 43) ["word"] := df_of X G c.d 30 30 rfl rfl (fun _ _ _ _ _ _ us hl => match us, hl with | [_], _ => rfl)
  have D__law_is_number : Df K mg "_law_is_number" (topS 44) ["word"] := df_of X G c.d 31 31 rfl rfl (fun _ _ _ _ _ _ us hl => match us, hl with | [_], _ => rfl)
  have D__law_sort : Df K mg "_law_sort" (topS 45) ["row"] := df_of X G c.d 32 32 rfl rfl (fun _ _ _ _ _ _ us hl => match us, hl with | [_], _ => rfl)
  have D__law_in_order : Df K mg "_law_in_order" (topS 46) ["sorts"] := df_of X G c.d 33 33 rfl rfl (fun _ _ _ _ _ _ us hl => match us, hl with | [_], _ => rfl)
  have D__law_field_of : Df K mg "_law_field_of" (topS 47) ["rows"] := df_of X G c.d 34 34 rfl rfl (fun _ _ _ _ _ _ us hl => match us, hl with | [_], _ => rfl)
  have D__law_fits : Df K mg "_law_fits" (topS 48) ["field"] := df_of X G c.d 35 35 rfl rfl (fun _ _ _ _ _ _ us hl => match us, hl with | [_], _ => rfl)
  have D__law_read : Df K mg "_law_read" (topS 49) ["thing"] := df_of X G c.d 36 36 rfl rfl (fun _ _ _ _ _ _ us hl => match us, hl with | [_], _ => rfl)
  have D__law_right : Df K mg "_law_right" (topS 50) ["text"] := df_of X G c.d 37 37 rfl rfl (fun _ _ _ _ _ _ us hl => match us, hl with | [_], _ => rfl)
  have D_law : Df K mg "law" (topS 51) ["script"] := df_of X G c.d 38 38 rfl rfl (fun _ _ _ _ _ _ us hl => match us, hl with | [_], _ => rfl)
  refine law_end law_ok D_law hfa (fun _ _ _ _ _ _ _ => rfl) fun base hX hG f fd F => ?_
  have C_is_name := c_is_name (P := P) (w := w) (base := base) hb D_is_name 
  have C_is_number := c_is_number (P := P) (w := w) (base := base) hb D_is_number 
  have C_words_of := c_words_of (P := P) (w := w) (base := base) hb D_words_of 
  have C_words_of__y := c_words_of__y (P := P) (w := w) (base := base) hb D_words_of 
  have C_rows_of := c_rows_of (P := P) (w := w) (base := base) hb D_rows_of 
  have C_block_fits := c_block_fits (P := P) (w := w) (base := base) hb D_block_fits C_is_name
  have C_bore_fits := c_bore_fits (P := P) (w := w) (base := base) hb D_bore_fits C_block_fits C_is_name
  have C_likes_fit := c_likes_fit (P := P) (w := w) (base := base) hb D_likes_fit C_is_name
  have C_fits := c_fits (P := P) (w := w) (base := base) hb D_fits C_likes_fit C_bore_fits
  have C_fitted := c_fitted (P := P) (w := w) (base := base) hb D_fitted C_fits
  have C_need := c_need (P := P) (w := w) (base := base) hb D_need 
  have C_head_of := c_head_of (P := P) (w := w) (base := base) hb D_head_of C_need C_is_number C_is_name
  have C_layer_of := c_layer_of (P := P) (w := w) (base := base) hb D_layer_of C_need C_is_number C_is_name
  have C_like_of := c_like_of (P := P) (w := w) (base := base) hb D_like_of C_need C_is_number C_is_name
  have C_lay_row := c_lay_row (P := P) (w := w) (base := base) hb D_lay_row C_need C_like_of C_head_of C_layer_of
  have C_read := c_read (P := P) (w := w) (base := base) hb D_read C_need C_words_of__y C_rows_of C_lay_row C_fitted
  have C__law_draw := c_law_draw (P := P) (w := w) (base := base) hb D__law_draw 
  have C__law_feed := c_law_feed (P := P) (w := w) (base := base) hb D__law_feed 
  have C__law_next := c_law_next (P := P) (w := w) (base := base) hb D__law_next C__law_draw
  have C__law_great := c_law_great (P := P) (w := w) (base := base) hb D__law_great C__law_next
  have C__law_long := c_law_long (P := P) (w := w) (base := base) hb D__law_long C__law_great C__law_next
  have C__law_name := c_law_name (P := P) (w := w) (base := base) hb D__law_name C__law_next
  have C__law_names := c_law_names (P := P) (w := w) (base := base) hb D__law_names C__law_next C__law_name
  have C__law_blocks := c_law_blocks (P := P) (w := w) (base := base) hb D__law_blocks C__law_next C__law_long
  have C__law_bores := c_law_bores (P := P) (w := w) (base := base) hb D__law_bores C__law_next C__law_blocks C__law_long C__law_feed
  have C__law_likes := c_law_likes (P := P) (w := w) (base := base) hb D__law_likes C__law_next
  have C__law_marks := c_law_marks (P := P) (w := w) (base := base) hb D__law_marks C__law_next C__law_names
  have C__law_field := c_law_field (P := P) (w := w) (base := base) hb D__law_field C__law_likes C__law_bores C__law_marks C__law_feed C__law_names C__law_next
  have C__law_rows := c_law_rows (P := P) (w := w) (base := base) hb D__law_rows 
  have C__law_bent_row := c_law_bent_row (P := P) (w := w) (base := base) hb D__law_bent_row C__law_next
  have C__law_bent := c_law_bent (P := P) (w := w) (base := base) hb D__law_bent C__law_bent_row C__law_next
  have C__law_is_name := c_law_is_name (P := P) (w := w) (base := base) hb D__law_is_name 
  have C__law_is_number := c_law_is_number (P := P) (w := w) (base := base) hb D__law_is_number 
  have C__law_sort := c_law_sort (P := P) (w := w) (base := base) hb D__law_sort C__law_is_number C__law_is_name
  have C__law_in_order := c_law_in_order (P := P) (w := w) (base := base) hb D__law_in_order 
  have C__law_field_of := c_law_field_of (P := P) (w := w) (base := base) hb D__law_field_of C__law_in_order C__law_sort
  have C__law_fits := c_law_fits (P := P) (w := w) (base := base) hb D__law_fits 
  have C__law_read := c_law_read (P := P) (w := w) (base := base) hb D__law_read C_read
  have C__law_right := c_law_right (P := P) (w := w) (base := base) hb D__law_right C__law_fits C__law_read C__law_field_of
  exact f_law hb F C__law_right C__law_read C__law_next C__law_bent C__law_feed C__law_rows C__law_field
  )
end Bores
open PySem PySem.W PySem.Calls PyProof.Rows
set_option maxHeartbeats 0 in
theorem PySem.Challenge.cw_bores_k07_texts_refused_holds : PySem.Challenge.rw_bores_k07_texts_refused.Holds := by
  w_on; o_law
  refine HandSHeadRun.head_any (r := Bores.rowL) (q := view Bores.rowL.prog [51]) (H := Bores.hookL) (ob := Bores.obL) (M := 12000) (loose := (("BoreError" : PySem.Str) :: ("NoText" : PySem.Str) :: ("Unfit" : PySem.Str) :: ("Unknown" : PySem.Str) :: ("Twice" : PySem.Str) :: ("Clash" : PySem.Str) :: ("LETTERS" : PySem.Str) :: ("FIGURES" : PySem.Str) :: ("is_name" : PySem.Str) :: ("is_number" : PySem.Str) :: ("words_of" : PySem.Str) :: ("rows_of" : PySem.Str) :: ("block_fits" : PySem.Str) :: ("bore_fits" : PySem.Str) :: ("likes_fit" : PySem.Str) :: ("fits" : PySem.Str) :: ("fitted" : PySem.Str) :: ("need" : PySem.Str) :: ("head_of" : PySem.Str) :: ("layer_of" : PySem.Str) :: ("like_of" : PySem.Str) :: ("lay_row" : PySem.Str) :: ("read" : PySem.Str) :: ("_law_draw" : PySem.Str) :: ("_law_feed" : PySem.Str) :: ("_law_next" : PySem.Str) :: ("_law_great" : PySem.Str) :: ("_law_long" : PySem.Str) :: ("_law_name" : PySem.Str) :: ("_law_names" : PySem.Str) :: ("_law_blocks" : PySem.Str) :: ("_law_bores" : PySem.Str) :: ("_law_likes" : PySem.Str) :: ("_law_marks" : PySem.Str) :: ("_law_field" : PySem.Str) :: ("_law_rows" : PySem.Str) :: ("_law_bent_row" : PySem.Str) :: ("_law_bent" : PySem.Str) :: ("_law_is_name" : PySem.Str) :: ("_law_is_number" : PySem.Str) :: ("_law_sort" : PySem.Str) :: ("_law_in_order" : PySem.Str) :: ("_law_field_of" : PySem.Str) :: ("_law_fits" : PySem.Str) :: ("_law_read" : PySem.Str) :: ("_law_right" : PySem.Str) :: [])) (d := HandSHeadRun.topDef Bores.rowL.prog 51) (kwd := []) Bores.obL_eq
    (by kernel_rfl) (fun s => by kernel_rfl) Bores.runL (by kernel_rfl) (by kernel_rfl) (by kernel_rfl) (by rfl) (by first | assumption | decide +kernel) (by decide +kernel) ⟨rfl, rfl, rfl, rfl, rfl, by decide +kernel⟩ ?hw ?hc
  case hw => w_witness2
  case hc =>
    refine L2.walk_ofE (l := PySem.Challenge.rw_bores_k07_texts_refused) (n := 63) (k := 9) (x := "script") (CX := L2.CX0) rfl (by decide) (by kernel_rfl) ⟨rfl, by decide, by decide⟩ ?F (fun _ _ _ _ z => z)
    intro w mg fa h Y G hmg0
    obtain ⟨K, KX, c⟩ := Y
    have hmg : mg ("law" : PySem.Str) = some (.ref fa) := by
      have e : (HandSHeadRun.topDef Bores.rowL.prog 51).name = ("law" : PySem.Str) := by kernel_rfl
      exact e ▸ hmg0
    obtain ⟨fd, sp, b1, b2, b3⟩ := Bores.factsL (P := (PySem.Challenge.rw_bores_k07_texts_refused).prog) (w := w) KX G hmg c
    exact ⟨K, fd, sp, KX, b1, b2, b3⟩
