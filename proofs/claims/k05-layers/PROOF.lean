import PyProof.Rows.All
import Wide.All
import OpenK.AllK
import Wide.FinOn
import HandS.ForMost
import HandS.Wide
import HandS.IsInst
import HandS.Deep
import HandS.HeadEnd
import HandS.HeadHook2
import HandS.Head2
import HandS.More
import HandS.TupAny
import HandS.Text
import HandS.Comp
import HandS.Conv
import HandS.SortInts
import HandS.RevRange
import HandS.Rev
import HandS.SortRule
import KE.DataCmp
import KE.SortData
import HandS.Zip
import HandS.TryOnly
import PyProof.Rows.SortShellK
import PyProof.Rows.SortStr
import HandS.SortOrd
import KE.KSortTup
import KE.KSortTupAny
import KE.LtData
import HandS.TupMul
import HandS.Exc
import HandS.ExcOwn
import HandS.ExcIs
import HandS.WordsExc
import PyProof.ExcBaseAll.ValueError
import PyProof.StrLawsChain
import PyProof.StrLawsTight
import KE.SortKeyHeap
import HandS.SortKw
import PySem.Challenge.RW_bores_k05_layers_and_depths
set_option Elab.async false
set_option linter.all false
set_option maxRecDepth 100000
set_option maxHeartbeats 4000000
/-! The data layer: readings over pure data. G: the frozen ghost heap; owned things by their addresses. -/
namespace Dl
open PySem PySem.Spec PyProof.Rows L2

/-! ### data over a growing heap -/
theorem same_t {K : PySem.W.Frag} {G G' : Hp} {a : Addr} {xs : List V} (e : Same G G') (h : SqT K G a xs) : SqT K G' a xs := by
  rcases h with (h | ⟨o, h⟩) | h
  · exact .inl (.inl (e _ _ h))
  · exact .inl (.inr ⟨o, e _ _ h⟩)
  · exact .inr h
mutual
theorem dp_mono {K : PySem.W.Frag} {G G' : Hp} (e : Same G G') : ∀ (d : PyData) (v : V), Dp K G v d → Dp K G' v d
  | .none, _, h => by cases h; exact .non
  | .bool b, _, h => by cases h; exact .bl b
  | .int i, _, h => by cases h; exact .int i
  | .str x, _, h => by cases h; exact .str x
  | .list ds, _, h => by
    cases h with
    | lst hs ha => exact .lst (Same.seq e hs) (dpa_mono e ds _ ha)
  | .tuple ds, _, h => by
    cases h with
    | tup hs ha => exact .tup (same_t e hs) (dpa_mono e ds _ ha)
  | .dict _, _, h => by cases h
theorem dpa_mono {K : PySem.W.Frag} {G G' : Hp} (e : Same G G') : ∀ (ds : List PyData) (vs : List V), DpAll K G vs ds → DpAll K G' vs ds
  | [], _, h => by cases h; exact .nil
  | d :: ds, _, h => by
    cases h with
    | cons h1 h2 => exact .cons (dp_mono e d _ h1) (dpa_mono e ds _ h2)
end
section
variable {K : PySem.W.Frag} {G : Hp}
theorem dpa_len : ∀ {ds : List PyData} {vs : List V}, DpAll K G vs ds → vs.length = ds.length
  | [], _, h => by cases h; rfl
  | d :: ds, _, h => by
    cases h with
    | cons h1 h2 => rw [List.length_cons, List.length_cons, dpa_len h2]
theorem dpa_get : ∀ {ds : List PyData} {vs : List V} {i : Nat} {d : PyData}, DpAll K G vs ds → ds[i]? = some d → ∃ v, vs[i]? = some v ∧ Dp K G v d
  | [], _, i, _, h, e => by simp at e
  | d :: ds, _, 0, _, h, e => by
    cases h with
    | cons h1 h2 => simp at e; subst e; exact ⟨_, rfl, h1⟩
  | d :: ds, _, i + 1, _, h, e => by
    cases h with
    | cons h1 h2 =>
      obtain ⟨v, q1, q2⟩ := dpa_get (i := i) h2 (by simpa using e)
      exact ⟨v, by simpa using q1, q2⟩
theorem dpa_getv : ∀ {ds : List PyData} {vs : List V} {i : Nat} {v : V}, DpAll K G vs ds → vs[i]? = some v → ∃ d, ds[i]? = some d ∧ Dp K G v d
  | [], _, i, _, h, e => by cases h; simp at e
  | d :: ds, _, 0, _, h, e => by
    cases h with
    | cons h1 h2 => simp at e; subst e; exact ⟨_, rfl, h1⟩
  | d :: ds, _, i + 1, _, h, e => by
    cases h with
    | cons h1 h2 =>
      obtain ⟨v, q1, q2⟩ := dpa_getv (i := i) h2 (by simpa using e)
      exact ⟨v, by simpa using q1, q2⟩
theorem dpa_app : ∀ {ds es : List PyData} {vs us : List V}, DpAll K G vs ds → DpAll K G us es → DpAll K G (vs ++ us) (ds ++ es)
  | [], _, _, _, h, h' => by cases h; exact h'
  | d :: ds, _, _, _, h, h' => by
    cases h with
    | cons h1 h2 => exact .cons h1 (dpa_app h2 h')
theorem dpa_set : ∀ {ds : List PyData} {vs : List V} {i : Nat} {v : V} {d : PyData}, DpAll K G vs ds → Dp K G v d → DpAll K G (vs.set i v) (ds.set i d)
  | [], _, i, _, _, h, _ => by cases h; exact .nil
  | d :: ds, _, 0, _, _, h, q => by
    cases h with
    | cons h1 h2 => exact .cons q h2
  | d :: ds, _, i + 1, _, _, h, q => by
    cases h with
    | cons h1 h2 => exact .cons h1 (dpa_set h2 q)
theorem dpa_take : ∀ {ds : List PyData} {vs : List V} (n : Nat), DpAll K G vs ds → DpAll K G (vs.take n) (ds.take n)
  | _, _, 0, h => .nil
  | [], _, n + 1, h => by cases h; exact .nil
  | d :: ds, _, n + 1, h => by
    cases h with
    | cons h1 h2 => exact .cons h1 (dpa_take n h2)
theorem dpa_drop : ∀ {ds : List PyData} {vs : List V} (n : Nat), DpAll K G vs ds → DpAll K G (vs.drop n) (ds.drop n)
  | _, _, 0, h => h
  | [], _, n + 1, h => by cases h; exact .nil
  | d :: ds, _, n + 1, h => by
    cases h with
    | cons h1 h2 => exact dpa_drop n h2
theorem dpa_rev : ∀ {ds : List PyData} {vs : List V}, DpAll K G vs ds → DpAll K G vs.reverse ds.reverse
  | [], _, h => by cases h; exact .nil
  | d :: ds, _, h => by
    cases h with
    | cons h1 h2 =>
      rw [List.reverse_cons, List.reverse_cons]
      exact dpa_app (dpa_rev h2) (.cons h1 .nil)
theorem dpa_ints : ∀ (ns : List Int), DpAll K G (ns.map V.int) (ns.map PyData.int)
  | [] => .nil
  | n :: ns => .cons (.int n) (dpa_ints ns)
theorem dpa_ints_inv : ∀ {ns : List Int} {vs : List V}, DpAll K G vs (ns.map PyData.int) → vs = ns.map V.int
  | [], _, h => by cases h; rfl
  | n :: ns, _, h => by
    cases h with
    | cons h1 h2 =>
      cases h1
      rw [List.map_cons, dpa_ints_inv h2]
theorem dpa_bls_inv : ∀ {ns : List Bool} {vs : List V}, DpAll K G vs (ns.map PyData.bool) → vs = ns.map V.bl
  | [], _, h => by cases h; rfl
  | n :: ns, _, h => by
    cases h with
    | cons h1 h2 =>
      cases h1
      rw [List.map_cons, dpa_bls_inv h2]
theorem dpa_strs_inv : ∀ {ns : List Str} {vs : List V}, DpAll K G vs (ns.map PyData.str) → vs = ns.map V.str
  | [], _, h => by cases h; rfl
  | n :: ns, _, h => by
    cases h with
    | cons h1 h2 =>
      cases h1
      rw [List.map_cons, dpa_strs_inv h2]
theorem dpa_strs : ∀ (ns : List Str), DpAll K G (ns.map V.str) (ns.map PyData.str)
  | [] => .nil
  | n :: ns => .cons (.str n) (dpa_strs ns)
end

/-! ### owned things -/
/-- an owned thing of any kind -/
structure ResG where
  P : PySem.W.Frag → Hp → Hp → V → List Addr → Prop
  grow : ∀ K G G' H v A, P K G H v A → Same G G' → P K G' H v A
  loc : ∀ K G H H' v A, P K G H v A → (∀ a ∈ A, H' a = H a) → P K G H' v A
  here : ∀ K G H v A, P K G H v A → ∀ a ∈ A, H a ≠ none
inductive Res where
  | lst (ds : List PyData)
  | lstP (P : List PyData → Prop)
  | lls (dss : List (List PyData))
  | gen (R : ResG)
  | dic (kvs : List (PyData × PyData))
def OwnL (K : PySem.W.Frag) (G H : Hp) (v : V) (A : List Addr) (ds : List PyData) : Prop := ∃ p vs, v = .ref p ∧ A = [p] ∧ H p = some (.lst vs) ∧ DpAll K G vs ds
/-- lists of one's own, one behind the other -/
inductive OwnLs (K : PySem.W.Frag) (G H : Hp) : List Addr → List (List PyData) → Prop
  | nil : OwnLs K G H [] []
  | cons {p : Addr} {vs : List V} {ds : List PyData} {ps : List Addr} {dss : List (List PyData)} : H p = some (.lst vs) → DpAll K G vs ds → OwnLs K G H ps dss → OwnLs K G H (p :: ps) (ds :: dss)
/-- a list of them -/
def OwnLL (K : PySem.W.Frag) (G H : Hp) (v : V) (A : List Addr) (dss : List (List PyData)) : Prop := ∃ p ps, v = .ref p ∧ A = p :: ps ∧ H p = some (.lst (ps.map V.ref)) ∧ OwnLs K G H ps dss
def keyD : L2.Key → PyData
  | .inl i => .int i
  | .inr x => .str x
/-- a dict's entries: the keys flat tuples -/
inductive DicE (K : PySem.W.Frag) (G : Hp) : List (List L2.Key × V) → List (PyData × PyData) → Prop
  | nil : DicE K G [] []
  | cons {k : List L2.Key} {v : V} {d : PyData} {ws : List (List L2.Key × V)} {kvs : List (PyData × PyData)} : Dp K G v d → DicE K G ws kvs → DicE K G ((k, v) :: ws) ((.tuple (k.map keyD), d) :: kvs)
theorem dicE_mono {K : PySem.W.Frag} {G G' : Hp} {ws : List (List L2.Key × V)} {kvs : List (PyData × PyData)} (h : DicE K G ws kvs) (e : Same G G') : DicE K G' ws kvs := by
  induction h with
  | nil => exact .nil
  | cons h1 _ ih => exact .cons (dp_mono e _ _ h1) ih
/-- a dict of one's own -/
def OwnD (K : PySem.W.Frag) (G H : Hp) (v : V) (A : List Addr) (kvs : List (PyData × PyData)) : Prop := ∃ p ws, v = .ref p ∧ A = [p] ∧ H p = some (.dT ws) ∧ DicE K G ws kvs
def Res.P (K : PySem.W.Frag) (G H : Hp) (v : V) (A : List Addr) : Res → Prop
  | .lst ds => OwnL K G H v A ds
  | .lstP P => ∃ ds, P ds ∧ OwnL K G H v A ds
  | .lls dss => OwnLL K G H v A dss
  | .gen R => R.P K G H v A
  | .dic kvs => OwnD K G H v A kvs
section
variable {K : PySem.W.Frag} {G G' H H' : Hp} {v : V} {A : List Addr}
theorem ownL_mono {ds : List PyData} (h : OwnL K G H v A ds) (e : Same G G') (k : ∀ a ∈ A, H' a = H a) : OwnL K G' H' v A ds := by
  obtain ⟨p, vs, rfl, rfl, h1, h2⟩ := h
  exact ⟨p, vs, rfl, rfl, (k p (by simp)).trans h1, dpa_mono e _ _ h2⟩
theorem ownLs_mono {ps : List Addr} {dss : List (List PyData)} (h : OwnLs K G H ps dss) (e : Same G G') (k : ∀ a ∈ ps, H' a = H a) : OwnLs K G' H' ps dss := by
  induction h with
  | nil => exact .nil
  | cons h1 h2 _ ih => exact .cons ((k _ List.mem_cons_self).trans h1) (dpa_mono e _ _ h2) (ih fun a ha => k a (List.mem_cons_of_mem _ ha))
theorem ownLs_here {ps : List Addr} {dss : List (List PyData)} (h : OwnLs K G H ps dss) : ∀ a ∈ ps, H a ≠ none := by
  induction h with
  | nil => intro a ha; simp at ha
  | cons h1 h2 _ ih =>
    intro a ha
    rcases List.mem_cons.mp ha with rfl | z
    · rw [h1]; exact fun z => nomatch z
    · exact ih a z
theorem Res.mono {R : Res} (h : R.P K G H v A) (e : Same G G') (k : ∀ a ∈ A, H' a = H a) : R.P K G' H' v A := by
  cases R with
  | lst ds => exact ownL_mono h e k
  | lstP P =>
    obtain ⟨ds, p, q⟩ := h
    exact ⟨ds, p, ownL_mono q e k⟩
  | lls dss =>
    obtain ⟨p, ps, rfl, rfl, h1, h2⟩ := h
    exact ⟨p, ps, rfl, rfl, (k p List.mem_cons_self).trans h1, ownLs_mono h2 e fun a ha => k a (List.mem_cons_of_mem _ ha)⟩
  | gen R => exact R.loc _ _ _ _ _ _ (R.grow _ _ _ _ _ _ h e) k
  | dic kvs =>
    obtain ⟨p, ws, rfl, rfl, h1, h2⟩ := h
    exact ⟨p, ws, rfl, rfl, (k p (by simp)).trans h1, dicE_mono h2 e⟩
theorem ownL_here {ds : List PyData} (h : OwnL K G H v A ds) : ∀ a ∈ A, H a ≠ none := by
  obtain ⟨p, vs, rfl, rfl, h1, h2⟩ := h
  intro a ha
  obtain rfl : a = p := by simpa using ha
  rw [h1]
  exact fun z => nomatch z
theorem Res.here {R : Res} (h : R.P K G H v A) : ∀ a ∈ A, H a ≠ none := by
  cases R with
  | lst ds => exact ownL_here h
  | lstP P =>
    obtain ⟨ds, p, q⟩ := h
    exact ownL_here q
  | lls dss =>
    obtain ⟨p, ps, rfl, rfl, h1, h2⟩ := h
    intro a ha
    rcases List.mem_cons.mp ha with rfl | z
    · rw [h1]; exact fun z => nomatch z
    · exact ownLs_here h2 a z
  | gen R => exact R.here _ _ _ _ _ h
  | dic kvs =>
    obtain ⟨p, ws, rfl, rfl, h1, h2⟩ := h
    intro a ha
    obtain rfl : a = p := by simpa using ha
    rw [h1]
    exact fun z => nomatch z
end

/-! ### slots -/
/-- a frozen thing of any kind -/
structure FrG where
  P : PySem.W.Frag → Hp → V → Prop
  grow : ∀ K G G' v, P K G v → Same G G' → P K G' v
/-- a thing that came in from outside: its value, the addresses it had -/
structure Lt where
  v : V
  al : List Addr
/-- what a slot holds: nothing known; data; an owned thing (w: its value where it came in from outside, none where it was made here) -/
inductive S where
  | no
  | d (x : PyData)
  | f (F : FrG)
  | o (w : Option Lt) (R : Res)
abbrev Ctx := List S
/-- the def's entry: the heap, the ghost, what it may change -/
structure Base where
  H0 : Hp
  G0 : Hp
  io : List Addr
def WOk (B : Base) (w : Option Lt) (v : V) (A : List Addr) : Prop := match w with
  | none => ∀ a ∈ A, B.H0 a = none
  | some u => v = u.v ∧ ∀ a ∈ A, a ∈ u.al ∨ B.H0 a = none
inductive Reps (K : PySem.W.Frag) (B : Base) (G H : Hp) : Ctx → List (Option V) → List Addr → Prop
  | nil : Reps K B G H [] [] []
  | no {x : Option V} {c : Ctx} {s : List (Option V)} {A : List Addr} : Reps K B G H c s A → Reps K B G H (.no :: c) (x :: s) A
  | d {v : V} {x : PyData} {c : Ctx} {s : List (Option V)} {A : List Addr} : Dp K G v x → Reps K B G H c s A → Reps K B G H (.d x :: c) (some v :: s) A
  | f {v : V} {F : FrG} {c : Ctx} {s : List (Option V)} {A : List Addr} : F.P K G v → Reps K B G H c s A → Reps K B G H (.f F :: c) (some v :: s) A
  | o {w : Option Lt} {v : V} {R : Res} {c : Ctx} {s : List (Option V)} {A A' : List Addr} : R.P K G H v A → WOk B w v A → Reps K B G H c s A' → Reps K B G H (.o w R :: c) (some v :: s) (A ++ A')
structure Wd (B : Base) (G H : Hp) (A : List Addr) : Prop where
  sub : Same G H
  nd : A.Nodup
  out : ∀ a ∈ A, G a = none
  old : Same B.G0 G
  stay : ∀ a o, B.H0 a = some o → a ∉ B.io → H a = some o
  dom : ∀ a, H a = none → B.H0 a = none
  newG : ∀ a, B.H0 a ≠ none → G a = B.G0 a
  lim : ∀ a ∈ A, a ∈ B.io ∨ B.H0 a = none
structure Stt (K : PySem.W.Frag) (B : Base) (c : Ctx) (s : List (Option V)) (G H : Hp) : Prop where
  ex : ∃ A, Reps K B G H c s A ∧ Wd B G H A

section
variable {K : PySem.W.Frag} {B : Base} {G G' H H' : Hp} {c : Ctx} {s : List (Option V)} {A : List Addr}
theorem Reps.mono (h : Reps K B G H c s A) (e : Same G G') (k : ∀ a ∈ A, H' a = H a) : Reps K B G' H' c s A := by
  induction h with
  | nil => exact .nil
  | no _ ih => exact .no (ih k)
  | d h _ ih => exact .d (dp_mono e _ _ h) (ih k)
  | f h _ ih => exact .f (FrG.grow _ _ _ _ _ h e) (ih k)
  | o h w _ ih => exact .o (Res.mono h e fun a ha => k a (List.mem_append_left _ ha)) w (ih fun a ha => k a (List.mem_append_right _ ha))
theorem Reps.here (h : Reps K B G H c s A) : ∀ a ∈ A, H a ≠ none := by
  induction h with
  | nil => intro a ha; simp at ha
  | no _ ih => exact ih
  | d h _ ih => exact ih
  | f h _ ih => exact ih
  | o h w _ ih =>
    intro a ha
    rcases List.mem_append.mp ha with z | z
    · exact Res.here h a z
    · exact ih a z
theorem Reps.len (h : Reps K B G H c s A) : s.length = c.length := by
  induction h with
  | nil => rfl
  | no _ ih => simp [ih]
  | d _ _ ih => simp [ih]
  | f _ _ ih => simp [ih]
  | o _ _ _ ih => simp [ih]
theorem Reps.get_d (h : Reps K B G H c s A) : ∀ {i : Nat} {x : PyData}, c[i]? = some (.d x) → ∃ v, s[i]? = some (some v) ∧ Dp K G v x := by
  induction h with
  | nil => intro i x e; simp at e
  | no _ ih =>
    intro i x e
    cases i with
    | zero => simp at e
    | succ i => simpa using ih (by simpa using e)
  | d h _ ih =>
    intro i x e
    cases i with
    | zero => simp at e; subst e; exact ⟨_, rfl, h⟩
    | succ i => simpa using ih (by simpa using e)
  | f h _ ih =>
    intro i x e
    cases i with
    | zero => simp at e
    | succ i => simpa using ih (by simpa using e)
  | o h w _ ih =>
    intro i x e
    cases i with
    | zero => simp at e
    | succ i => simpa using ih (by simpa using e)
/-- slot j forgotten, or data laid there -/
theorem Reps.set_no (h : Reps K B G H c s A) : ∀ (j : Nat) (x : Option V), ∃ A', Reps K B G H (c.set j .no) (s.set j x) A' ∧ A'.Sublist A := by
  induction h with
  | nil => intro j x; exact ⟨[], by simpa using .nil, List.Sublist.refl _⟩
  | no h ih =>
    intro j x
    cases j with
    | zero => exact ⟨_, .no h, List.Sublist.refl _⟩
    | succ j =>
      obtain ⟨A', r, q⟩ := ih j x
      exact ⟨A', .no r, q⟩
  | d hd h ih =>
    intro j x
    cases j with
    | zero => exact ⟨_, .no h, List.Sublist.refl _⟩
    | succ j =>
      obtain ⟨A', r, q⟩ := ih j x
      exact ⟨A', .d hd r, q⟩
  | f hd h ih =>
    intro j x
    cases j with
    | zero => exact ⟨_, .no h, List.Sublist.refl _⟩
    | succ j =>
      obtain ⟨A', r, q⟩ := ih j x
      exact ⟨A', .f hd r, q⟩
  | o ho w h ih =>
    intro j x
    cases j with
    | zero => exact ⟨_, .no h, List.sublist_append_right _ _⟩
    | succ j =>
      obtain ⟨A', r, q⟩ := ih j x
      exact ⟨_, .o ho w r, List.Sublist.append (List.Sublist.refl _) q⟩
theorem Reps.set_d {v : V} {x : PyData} (hx : Dp K G v x) (h : Reps K B G H c s A) : ∀ (j : Nat), ∃ A', Reps K B G H (c.set j (.d x)) (s.set j (some v)) A' ∧ A'.Sublist A := by
  induction h with
  | nil => intro j; exact ⟨[], by simpa using .nil, List.Sublist.refl _⟩
  | no h ih =>
    intro j
    cases j with
    | zero => exact ⟨_, .d hx h, List.Sublist.refl _⟩
    | succ j =>
      obtain ⟨A', r, q⟩ := ih j
      exact ⟨A', .no r, q⟩
  | d hd h ih =>
    intro j
    cases j with
    | zero => exact ⟨_, .d hx h, List.Sublist.refl _⟩
    | succ j =>
      obtain ⟨A', r, q⟩ := ih j
      exact ⟨A', .d hd r, q⟩
  | f hd h ih =>
    intro j
    cases j with
    | zero => exact ⟨_, .d hx h, List.Sublist.refl _⟩
    | succ j =>
      obtain ⟨A', r, q⟩ := ih j
      exact ⟨A', .f hd r, q⟩
  | o ho w h ih =>
    intro j
    cases j with
    | zero => exact ⟨_, .d hx h, List.sublist_append_right _ _⟩
    | succ j =>
      obtain ⟨A', r, q⟩ := ih j
      exact ⟨_, .o ho w r, List.Sublist.append (List.Sublist.refl _) q⟩
/-- an owned thing laid into slot j -/
theorem Reps.set_o {v : V} {w : Option Lt} {R : Res} {A1 : List Addr} (hR : R.P K G H v A1) (hw : WOk B w v A1) (h : Reps K B G H c s A) : ∀ (j : Nat), (A1 ++ A).Nodup →
    ∃ A', Reps K B G H (c.set j (.o w R)) (s.set j (some v)) A' ∧ A'.Nodup ∧ ∀ a ∈ A', a ∈ A1 ++ A := by
  induction h with
  | nil => intro j nd; exact ⟨[], by simpa using .nil, List.nodup_nil, fun a ha => by simp at ha⟩
  | no h ih =>
    intro j nd
    cases j with
    | zero => exact ⟨_, .o hR hw h, nd, fun a ha => ha⟩
    | succ j =>
      obtain ⟨A', r, q⟩ := ih j nd
      exact ⟨A', .no r, q⟩
  | d hd h ih =>
    intro j nd
    cases j with
    | zero => exact ⟨_, .o hR hw h, nd, fun a ha => ha⟩
    | succ j =>
      obtain ⟨A', r, q⟩ := ih j nd
      exact ⟨A', .d hd r, q⟩
  | f hd h ih =>
    intro j nd
    cases j with
    | zero => exact ⟨_, .o hR hw h, nd, fun a ha => ha⟩
    | succ j =>
      obtain ⟨A', r, q⟩ := ih j nd
      exact ⟨A', .f hd r, q⟩
  | @o w2 v2 R2 c2 s2 Ah At ho hw2 h ih =>
    intro j nd
    have n1 : (A1 ++ At).Nodup := nd.sublist (List.Sublist.append (List.Sublist.refl _) (List.sublist_append_right _ _))
    cases j with
    | zero => exact ⟨_, .o hR hw h, n1, fun a ha => by
        rcases List.mem_append.mp ha with z | z
        · exact List.mem_append_left _ z
        · exact List.mem_append_right _ (List.mem_append_right _ z)⟩
    | succ j =>
      obtain ⟨A', r, n2, q⟩ := ih j n1
      refine ⟨Ah ++ A', .o ho hw2 r, ?_, fun a ha => ?_⟩
      · have n3 : (Ah ++ At).Nodup := nd.sublist (List.sublist_append_right _ _)
        refine List.nodup_append.mpr ⟨(List.nodup_append.mp n3).1, n2, fun a ha b hb e => ?_⟩
        subst e
        rcases List.mem_append.mp (q a hb) with z | z
        · exact (List.nodup_append.mp nd).2.2 a z a (List.mem_append_left _ ha) rfl
        · exact (List.nodup_append.mp n3).2.2 a ha a z rfl
      · rcases List.mem_append.mp ha with z | z
        · exact List.mem_append_right _ (List.mem_append_left _ z)
        · rcases List.mem_append.mp (q a z) with z | z
          · exact List.mem_append_left _ z
          · exact List.mem_append_right _ (List.mem_append_right _ z)
/-- slot j looked at and changed -/
theorem Reps.focus (h : Reps K B G H c s A) : ∀ {j : Nat} {w : Option Lt} {R : Res}, A.Nodup → c[j]? = some (.o w R) →
    ∃ v A1, s[j]? = some (some v) ∧ R.P K G H v A1 ∧ WOk B w v A1 ∧ A1.Nodup ∧ (∀ a ∈ A1, a ∈ A) ∧
      ∀ {G' H' : Hp} {R' : Res} {w' : Option Lt} {A1' : List Addr}, Same G G' → (∀ a ∈ A, a ∉ A1 → H' a = H a) → R'.P K G' H' v A1' → WOk B w' v A1' → A1'.Nodup → (∀ a ∈ A1', a ∈ A1 ∨ a ∉ A) →
        ∃ A', Reps K B G' H' (c.set j (.o w' R')) s A' ∧ A'.Nodup ∧ ∀ a ∈ A', a ∈ A1' ∨ (a ∈ A ∧ a ∉ A1) := by
  induction h with
  | nil => intro j w R nd e; simp at e
  | no h ih =>
    intro j w R nd e
    cases j with
    | zero => simp at e
    | succ j =>
      obtain ⟨v, A1, h1, h2, h3, h4, h5, k⟩ := ih nd (by simpa using e)
      refine ⟨v, A1, by simpa using h1, h2, h3, h4, h5, fun {G' H' R' w' A1'} e1 e2 e3 e4 e5 e6 => ?_⟩
      obtain ⟨A', r, q⟩ := k e1 e2 e3 e4 e5 e6
      exact ⟨A', .no r, q⟩
  | d hd h ih =>
    intro j w R nd e
    cases j with
    | zero => simp at e
    | succ j =>
      obtain ⟨v, A1, h1, h2, h3, h4, h5, k⟩ := ih nd (by simpa using e)
      refine ⟨v, A1, by simpa using h1, h2, h3, h4, h5, fun {G' H' R' w' A1'} e1 e2 e3 e4 e5 e6 => ?_⟩
      obtain ⟨A', r, q⟩ := k e1 e2 e3 e4 e5 e6
      exact ⟨A', .d (dp_mono e1 _ _ hd) r, q⟩
  | f hd h ih =>
    intro j w R nd e
    cases j with
    | zero => simp at e
    | succ j =>
      obtain ⟨v, A1, h1, h2, h3, h4, h5, k⟩ := ih nd (by simpa using e)
      refine ⟨v, A1, by simpa using h1, h2, h3, h4, h5, fun {G' H' R' w' A1'} e1 e2 e3 e4 e5 e6 => ?_⟩
      obtain ⟨A', r, q⟩ := k e1 e2 e3 e4 e5 e6
      exact ⟨A', .f (FrG.grow _ _ _ _ _ hd e1) r, q⟩
  | @o w2 v2 R2 c2 s2 Ah At ho hw2 h ih =>
    intro j w R nd e
    obtain ⟨n1, n2, n3⟩ := List.nodup_append.mp nd
    cases j with
    | zero =>
      have e' : S.o w2 R2 = S.o w R := by simpa using e
      cases e'
      refine ⟨v2, Ah, rfl, ho, hw2, n1, fun a ha => List.mem_append_left _ ha, fun {G' H' R' w' A1'} e1 e2 e3 e4 e5 e6 => ?_⟩
      have nin : ∀ a ∈ At, a ∉ Ah := fun a ha z => n3 a z a ha rfl
      refine ⟨A1' ++ At, .o e3 e4 (h.mono e1 fun a ha => e2 a (List.mem_append_right _ ha) (nin a ha)), ?_, fun a ha => ?_⟩
      · refine List.nodup_append.mpr ⟨e5, n2, fun a ha b hb e => ?_⟩
        subst e
        rcases e6 a ha with z | z
        · exact nin a hb z
        · exact z (List.mem_append_right _ hb)
      · rcases List.mem_append.mp ha with z | z
        · exact .inl z
        · exact .inr ⟨List.mem_append_right _ z, nin a z⟩
    | succ j =>
      obtain ⟨v, A1, h1, h2, h3, h4, h5, k⟩ := ih n2 (by simpa using e)
      refine ⟨v, A1, by simpa using h1, h2, h3, h4, fun a ha => List.mem_append_right _ (h5 a ha), fun {G' H' R' w' A1'} e1 e2 e3 e4 e5 e6 => ?_⟩
      have nA1 : ∀ a ∈ Ah, a ∉ A1 := fun a ha z => n3 a ha a (h5 a z) rfl
      obtain ⟨A', r, m1, m2⟩ := k e1 (fun a ha hn => e2 a (List.mem_append_right _ ha) hn) e3 e4 e5 (fun a ha => by
        rcases e6 a ha with z | z
        · exact .inl z
        · exact .inr fun y => z (List.mem_append_right _ y))
      refine ⟨Ah ++ A', .o (Res.mono ho e1 fun a ha => e2 a (List.mem_append_left _ ha) (nA1 a ha)) hw2 r, ?_, fun a ha => ?_⟩
      · refine List.nodup_append.mpr ⟨n1, m1, fun a ha b hb e => ?_⟩
        subst e
        rcases m2 a hb with z | ⟨z, _⟩
        · rcases e6 a z with y | y
          · exact nA1 a ha y
          · exact y (List.mem_append_left _ ha)
        · exact n3 a ha a z rfl
      · rcases List.mem_append.mp ha with z | z
        · exact .inr ⟨List.mem_append_left _ z, nA1 a z⟩
        · rcases m2 a z with y | ⟨y1, y2⟩
          · exact .inl y
          · exact .inr ⟨List.mem_append_right _ y1, y2⟩
theorem Wd.sub_of (h : Wd B G H A) {A' : List Addr} (q : A'.Sublist A) : Wd B G H A' :=
  ⟨h.sub, h.nd.sublist q, fun a ha => h.out a (q.subset ha), h.old, h.stay, h.dom, h.newG, fun a ha => h.lim a (q.subset ha)⟩
end

/-! ### steps of the state -/
section
variable {K : PySem.W.Frag} {B : Base} {G G' H H' : Hp} {c : Ctx} {s : List (Option V)}
theorem Stt.sub (h : Stt K B c s G H) : Same G H := let ⟨_, _, w⟩ := h.ex; w.sub
theorem Stt.get_d (h : Stt K B c s G H) {i : Nat} {x : PyData} (e : c[i]? = some (.d x)) : ∃ v, s[i]? = some (some v) ∧ Dp K G v x :=
  let ⟨_, r, _⟩ := h.ex; r.get_d e
theorem Stt.set_d (h : Stt K B c s G H) (j : Nat) {v : V} {x : PyData} (hx : Dp K G v x) : Stt K B (c.set j (.d x)) (s.set j (some v)) G H := by
  obtain ⟨A, r, w⟩ := h.ex
  obtain ⟨A', r', q⟩ := r.set_d hx j
  exact ⟨A', r', w.sub_of q⟩
theorem Stt.set_no (h : Stt K B c s G H) (j : Nat) (x : Option V) : Stt K B (c.set j .no) (s.set j x) G H := by
  obtain ⟨A, r, w⟩ := h.ex
  obtain ⟨A', r', q⟩ := r.set_no j x
  exact ⟨A', r', w.sub_of q⟩
/-- data pushed on top, and popped -/
theorem Stt.push_d (h : Stt K B c s G H) {v : V} {x : PyData} (hx : Dp K G v x) : Stt K B (.d x :: c) (some v :: s) G H := by
  obtain ⟨A, r, w⟩ := h.ex
  exact ⟨A, .d hx r, w⟩
theorem Stt.pop {x : S} {v : Option V} (h : Stt K B (x :: c) (v :: s) G H) : Stt K B c s G H := by
  obtain ⟨A, r, w⟩ := h.ex
  cases r with
  | no r => exact ⟨A, r, w⟩
  | d _ r => exact ⟨A, r, w⟩
  | f _ r => exact ⟨A, r, w⟩
  | o _ _ r => exact ⟨_, r, w.sub_of (List.sublist_append_right _ _)⟩
/-- the owned thing on top goes to slot j -/
theorem Stt.set_o {wo : Option Lt} {R : Res} {v : V} (h : Stt K B (.o wo R :: c) (some v :: s) G H) (j : Nat) : Stt K B (c.set j (.o wo R)) (s.set j (some v)) G H := by
  obtain ⟨A, r, w⟩ := h.ex
  cases r with
  | o h1 h2 r =>
    obtain ⟨A', r', n, q⟩ := r.set_o h1 h2 j w.nd
    exact ⟨A', r', w.sub, n, fun a ha => w.out a (q a ha), w.old, w.stay, w.dom, w.newG, fun a ha => w.lim a (q a ha)⟩
/-- a new frozen object -/
theorem Stt.laid (h : Stt K B c s G H) {p : Addr} {o : HO} (hp : H p = none) : Stt K B c s (upd G p o) (upd H p o) ∧ Same G (upd G p o) := by
  obtain ⟨A, r, w⟩ := h.ex
  have gp : G p = none := w.sub.free hp
  have e : Same G (upd G p o) := fun b u q => by rw [upd_ne (ne_of_none q gp)]; exact q
  have np : ∀ a ∈ A, a ≠ p := fun a ha z => r.here a ha (by rw [z]; exact hp)
  have h0 : B.H0 p = none := w.dom p hp
  have n0 : ∀ a, B.H0 a ≠ none → a ≠ p := fun a ha z => ha (by rw [z]; exact h0)
  refine ⟨⟨A, r.mono e fun a ha => upd_ne (np a ha), fun b u q => ?_, w.nd, fun a ha => by rw [upd_ne (np a ha)]; exact w.out a ha, w.old.trans e, fun a u q hi => ?_, fun a q => ?_, fun a q => by rw [upd_ne (n0 a q)]; exact w.newG a q, w.lim⟩, e⟩
  · by_cases hb : b = p
    · subst hb; rw [upd_same] at q ⊢; exact q
    · rw [upd_ne hb] at q ⊢; exact w.sub b u q
  · rw [upd_ne (n0 a (by rw [q]; exact fun z => nomatch z))]
    exact w.stay a u q hi
  · by_cases hb : a = p
    · subst hb; exact h0
    · rw [upd_ne hb] at q; exact w.dom a q
/-- a new owned list -/
theorem Stt.laidL (h : Stt K B c s G H) {p : Addr} {vs : List V} {ds : List PyData} (hp : H p = none) (hd : DpAll K G vs ds) : Stt K B (.o none (.lst ds) :: c) (some (.ref p) :: s) G (upd H p (.lst vs)) := by
  obtain ⟨A, r, w⟩ := h.ex
  have np : ∀ a ∈ A, a ≠ p := fun a ha z => r.here a ha (by rw [z]; exact hp)
  have h0 : B.H0 p = none := w.dom p hp
  have n0 : ∀ a, B.H0 a ≠ none → a ≠ p := fun a ha z => ha (by rw [z]; exact h0)
  have gp : G p = none := w.sub.free hp
  refine ⟨[p] ++ A, .o (R := .lst ds) ⟨p, vs, rfl, rfl, upd_same, hd⟩ (fun a ha => ?_) (r.mono (Same.refl _) fun a ha => upd_ne (np a ha)), fun b u q => ?_, ?_, fun a ha => ?_, w.old, fun a u q hi => ?_, fun a q => ?_, w.newG, fun a ha => ?_⟩
  · obtain rfl : a = p := by simpa using ha
    exact h0
  · rw [upd_ne (ne_of_none q gp)]; exact w.sub b u q
  · exact List.nodup_append.mpr ⟨by simp, w.nd, fun a ha b hb e => np b hb (by rw [← e]; simpa using ha)⟩
  · rcases List.mem_append.mp ha with z | z
    · obtain rfl : a = p := by simpa using z
      exact gp
    · exact w.out a z
  · rw [upd_ne (n0 a (by rw [q]; exact fun z => nomatch z))]
    exact w.stay a u q hi
  · by_cases hb : a = p
    · subst hb; exact h0
    · rw [upd_ne hb] at q; exact w.dom a q
  · rcases List.mem_append.mp ha with z | z
    · obtain rfl : a = p := by simpa using z
      exact .inr h0
    · exact w.lim a z
/-- an owned list made here is frozen -/
theorem Stt.frz {ds : List PyData} {v : V} (h : Stt K B (.o none (.lst ds) :: c) (some v :: s) G H) : ∃ G', Stt K B c s G' H ∧ Same G G' ∧ Dp K G' v (.list ds) := by
  obtain ⟨A, r, w⟩ := h.ex
  cases r with
  | @o _ _ _ _ _ Ah At h1 h2 r =>
    obtain ⟨p, vs, rfl, rfl, hp, hd⟩ := h1
    have gp : G p = none := w.out p (by simp)
    have h0 : B.H0 p = none := h2 p (by simp)
    have n0 : ∀ a, B.H0 a ≠ none → a ≠ p := fun a ha z => ha (by rw [z]; exact h0)
    have e : Same G (upd G p (.lst vs)) := fun b u q => by rw [upd_ne (ne_of_none q gp)]; exact q
    obtain ⟨n1, n2, n3⟩ := List.nodup_append.mp w.nd
    have np : ∀ a ∈ At, a ≠ p := fun a ha z => n3 p (by simp) a ha z.symm
    refine ⟨upd G p (.lst vs), ⟨At, r.mono e fun a ha => rfl, fun b u q => ?_, n2, fun a ha => by rw [upd_ne (np a ha)]; exact w.out a (List.mem_append_right _ ha), w.old.trans e, w.stay, w.dom, fun a q => by rw [upd_ne (n0 a q)]; exact w.newG a q, fun a ha => w.lim a (List.mem_append_right _ ha)⟩, e, .lst (.inl (.inl upd_same)) (dpa_mono e _ _ hd)⟩
    by_cases hb : b = p
    · subst hb; rw [upd_same] at q; rw [← q]; exact hp
    · rw [upd_ne hb] at q; exact w.sub b u q
/-- what an owned thing may be frozen to -/
def Res.fz : Res → (PyData → Prop) → Prop
  | .lst ds, Q => Q (.list ds)
  | .lstP P, Q => ∀ ds, P ds → Q (.list ds)
  | .lls dss, Q => Q (.list (dss.map PyData.list))
  | .gen _, _ => False
  | .dic _, _ => False
/-- the owned thing on top, frozen whole -/
theorem Stt.frzA {R : Res} {v : V} (h : Stt K B (.o none R :: c) (some v :: s) G H) : ∃ G' A, Stt K B c s G' H ∧ Same G G' ∧ R.P K G H v A ∧ (∀ a ∈ A, G' a = H a) := by
  obtain ⟨A, r, w⟩ := h.ex
  cases r with
  | @o _ _ _ _ _ Ah At h1 h2 r =>
    obtain ⟨n1, n2, n3⟩ := List.nodup_append.mp w.nd
    have h2 : ∀ a ∈ Ah, B.H0 a = none := h2
    let G' : Hp := fun a => if a ∈ Ah then H a else G a
    have gi : ∀ a ∈ Ah, G' a = H a := fun a ha => if_pos ha
    have gn : ∀ a, a ∉ Ah → G' a = G a := fun a ha => if_neg ha
    have e : Same G G' := fun a o q => by
      have ha : a ∉ Ah := fun z => by rw [w.out a (List.mem_append_left _ z)] at q; cases q
      rw [gn a ha]; exact q
    have nt : ∀ a ∈ At, a ∉ Ah := fun a ha z => n3 a z a ha rfl
    refine ⟨G', Ah, ⟨At, r.mono e fun a ha => rfl, fun a o q => ?_, n2, fun a ha => by rw [gn a (nt a ha)]; exact w.out a (List.mem_append_right _ ha), w.old.trans e, w.stay, w.dom, fun a q => ?_, fun a ha => w.lim a (List.mem_append_right _ ha)⟩, e, h1, gi⟩
    · by_cases ha : a ∈ Ah
      · rw [gi a ha] at q; exact q
      · rw [gn a ha] at q; exact w.sub a o q
    · rw [gn a fun z => q (h2 a z)]
      exact w.newG a q
theorem dpa_lists {ps : List Addr} {dss : List (List PyData)} (h : OwnLs K G H ps dss) (e : Same G G') (k : ∀ a ∈ ps, G' a = H a) : DpAll K G' (ps.map V.ref) (dss.map PyData.list) := by
  induction h with
  | nil => exact .nil
  | cons h1 h2 _ ih => exact .cons (.lst (.inl (.inl ((k _ List.mem_cons_self).trans h1))) (dpa_mono e _ _ h2)) (ih fun a ha => k a (List.mem_cons_of_mem _ ha))
theorem Stt.frzR {R : Res} {v : V} {Q : PyData → Prop} (h : Stt K B (.o none R :: c) (some v :: s) G H) (q : R.fz Q) : ∃ G' d, Stt K B c s G' H ∧ Same G G' ∧ Dp K G' v d ∧ Q d := by
  cases R with
  | lst ds =>
    obtain ⟨G', a, b, d⟩ := h.frz
    exact ⟨G', _, a, b, d, q⟩
  | lstP P =>
    obtain ⟨A, r, w⟩ := h.ex
    cases r with
    | o h1 h2 r =>
      obtain ⟨ds, p, h1⟩ := h1
      obtain ⟨G', a, b, d⟩ := Stt.frz (ds := ds) ⟨_, .o (R := .lst ds) h1 h2 r, w⟩
      exact ⟨G', _, a, b, d, q ds p⟩
  | lls dss =>
    obtain ⟨G', A, a, b, ⟨p, ps, rfl, rfl, h1, h2⟩, g⟩ := h.frzA
    exact ⟨G', _, a, b, .lst (.inl (.inl ((g p List.mem_cons_self).trans h1))) (dpa_lists h2 b fun a ha => g a (List.mem_cons_of_mem _ ha)), q⟩
  | gen _ => exact q.elim
  | dic _ => exact q.elim
/-- the owned list at slot j: read, written -/
theorem Stt.own (h : Stt K B c s G H) {j : Nat} {wo : Option Lt} {ds : List PyData} (e : c[j]? = some (.o wo (.lst ds))) :
    ∃ p vs, s[j]? = some (some (.ref p)) ∧ H p = some (.lst vs) ∧ DpAll K G vs ds ∧ 
      ∀ vs' ds', DpAll K G vs' ds' → Stt K B (c.set j (.o wo (.lst ds'))) s G (upd H p (.lst vs')) := by
  obtain ⟨A, r, w⟩ := h.ex
  obtain ⟨v, A1, h1, h2, h3, h4, h5, k⟩ := r.focus w.nd e
  obtain ⟨p, vs, rfl, rfl, hp, hd⟩ := h2
  refine ⟨p, vs, h1, hp, hd, fun vs' ds' hd' => ?_⟩
  · have gp : G p = none := w.out p (h5 p (by simp))
    obtain ⟨A', r', n, q⟩ := k (G' := G) (H' := upd H p (.lst vs')) (R' := .lst ds') (w' := wo) (A1' := [p]) (Same.refl _) (fun a ha hn => upd_ne fun z => hn (by simp [z])) ⟨p, vs', rfl, rfl, upd_same, hd'⟩ h3 (by simp) (fun a ha => .inl ha)
    have q' : ∀ a ∈ A', a ∈ A := fun a ha => by
      rcases q a ha with z | z
      · exact h5 a z
      · exact z.1
    refine ⟨A', r', fun b u q => ?_, n, fun a ha => w.out a (q' a ha), w.old, fun a u q hi => ?_, fun a q => ?_, w.newG, fun a ha => w.lim a (q' a ha)⟩
    · rw [upd_ne (ne_of_none q gp)]; exact w.sub b u q
    · have z := w.stay a u q hi
      rw [upd_ne]
      · exact z
      · rintro rfl
        rcases w.lim a (h5 a (by simp)) with y | y
        · exact hi y
        · have q2 : B.H0 a = some u := by assumption
          rw [y] at q2; cases q2
    · by_cases hb : a = p
      · subst hb; rw [upd_same] at q; cases q
      · rw [upd_ne hb] at q; exact w.dom a q
/-- a list of which a fact is known: its items told; and forgotten again -/
theorem Stt.open_ (h : Stt K B c s G H) {j : Nat} {wo : Option Lt} {P : List PyData → Prop} (e : c[j]? = some (.o wo (.lstP P))) : ∃ ds, P ds ∧ Stt K B (c.set j (.o wo (.lst ds))) s G H := by
  obtain ⟨A, r, w⟩ := h.ex
  obtain ⟨v, A1, h1, h2, h3, h4, h5, k⟩ := r.focus w.nd e
  obtain ⟨ds, hP, h2⟩ := h2
  obtain ⟨A', r', n, q⟩ := k (G' := G) (H' := H) (R' := .lst ds) (w' := wo) (A1' := A1) (Same.refl _) (fun _ _ _ => rfl) h2 h3 h4 fun a ha => .inl ha
  have q' : ∀ a ∈ A', a ∈ A := fun a ha => by
    rcases q a ha with z | z
    · exact h5 a z
    · exact z.1
  exact ⟨ds, hP, ⟨A', r', w.sub, n, fun a ha => w.out a (q' a ha), w.old, w.stay, w.dom, w.newG, fun a ha => w.lim a (q' a ha)⟩⟩
theorem Stt.shut (h : Stt K B c s G H) {j : Nat} {wo : Option Lt} {ds : List PyData} {P : List PyData → Prop} (e : c[j]? = some (.o wo (.lst ds))) (hP : P ds) : Stt K B (c.set j (.o wo (.lstP P))) s G H := by
  obtain ⟨A, r, w⟩ := h.ex
  obtain ⟨v, A1, h1, h2, h3, h4, h5, k⟩ := r.focus w.nd e
  obtain ⟨A', r', n, q⟩ := k (G' := G) (H' := H) (R' := .lstP P) (w' := wo) (A1' := A1) (Same.refl _) (fun _ _ _ => rfl) ⟨ds, hP, h2⟩ h3 h4 fun a ha => .inl ha
  have q' : ∀ a ∈ A', a ∈ A := fun a ha => by
    rcases q a ha with z | z
    · exact h5 a z
    · exact z.1
  exact ⟨A', r', w.sub, n, fun a ha => w.out a (q' a ha), w.old, w.stay, w.dom, w.newG, fun a ha => w.lim a (q' a ha)⟩
end
end Dl

/-! Readings over data: expressions, tests, statements. -/
namespace Dl
open PySem PySem.Spec PyProof.Rows L2

abbrev TD := Ctx → (PyData → Ctx → Prop) → Prop
abbrev TB := Ctx → (Bool → Ctx → Prop) → Prop
abbrev TL := Ctx → (List PyData → Ctx → Prop) → Prop
abbrev TR := Ctx → (Res → Ctx → Prop) → Prop

def DEv (K : PySem.W.Frag) (te : TE) (t : TD) : Prop := ∀ (B : Base) (c : Ctx) (s : L2.St) (G H : Hp) (Q : PyData → Ctx → Prop) (R : VK), Stt K B c s G H → t c Q →
  (∀ v x c' G' H', Stt K B c' s G' H' → Same G G' → Dp K G' v x → Q x c' → R v H') → te s H R
def DTv (K : PySem.W.Frag) (te : TT) (t : TB) : Prop := ∀ (B : Base) (c : Ctx) (s : L2.St) (G H : Hp) (Q : Bool → Ctx → Prop) (R : Bool → Hp → Prop), Stt K B c s G H → t c Q →
  (∀ b c' G' H', Stt K B c' s G' H' → Same G G' → Q b c' → R b H') → te s H R
def DAv (K : PySem.W.Frag) (te : TA) (t : TL) : Prop := ∀ (B : Base) (c : Ctx) (s : L2.St) (G H : Hp) (Q : List PyData → Ctx → Prop) (R : List V → Hp → Prop), Stt K B c s G H → t c Q →
  (∀ vs xs c' G' H', Stt K B c' s G' H' → Same G G' → DpAll K G' vs xs → Q xs c' → R vs H') → te s H R
def DOv (K : PySem.W.Frag) (te : TE) (t : TR) : Prop := ∀ (B : Base) (c : Ctx) (s : L2.St) (G H : Hp) (Q : Res → Ctx → Prop) (R : VK), Stt K B c s G H → t c Q →
  (∀ v x c' G' H', Stt K B (.o none x :: c') (some v :: s) G' H' → Same G G' → Q x c' → R v H') → te s H R
structure DE (X : Cx) (e : Expr) (t : TD) : Prop where
  ex : ∃ te, PE X e te ∧ DEv X.K te t
structure DT (X : Cx) (e : Expr) (t : TB) : Prop where
  ex : ∃ te, PT X e te ∧ DTv X.K te t
structure DW (X : Cx) (e : Expr) (t : TB) : Prop where
  ex : ∃ te, PW X e te ∧ DTv X.K te t
structure DA (X : Cx) (es : List Expr) (t : TL) : Prop where
  ex : ∃ te, PA X es te ∧ DAv X.K te t
/-- a new owned thing -/
structure DO (X : Cx) (e : Expr) (t : TR) : Prop where
  ex : ∃ te, PE X e te ∧ DOv X.K te t

/-! ### what data is: ways of asking that a walk goes through from the left -/
def asI (x : PyData) (Q : Int → Prop) : Prop := match x with
  | .int i => Q i
  | _ => False
def asB (x : PyData) (Q : Bool → Prop) : Prop := match x with
  | .bool i => Q i
  | _ => False
def asS (x : PyData) (Q : Str → Prop) : Prop := match x with
  | .str i => Q i
  | _ => False
def asL (x : PyData) (Q : List PyData → Prop) : Prop := match x with
  | .list i => Q i
  | _ => False
def asT (x : PyData) (Q : List PyData → Prop) : Prop := match x with
  | .tuple i => Q i
  | _ => False
theorem asI_i {i : Int} {Q : Int → Prop} : asI (.int i) Q = Q i := id rfl
theorem asB_b {i : Bool} {Q : Bool → Prop} : asB (.bool i) Q = Q i := id rfl
theorem asS_s {i : Str} {Q : Str → Prop} : asS (.str i) Q = Q i := id rfl
theorem asL_l {i : List PyData} {Q : List PyData → Prop} : asL (.list i) Q = Q i := id rfl
theorem asT_t {i : List PyData} {Q : List PyData → Prop} : asT (.tuple i) Q = Q i := id rfl
theorem asI_of {x : PyData} {Q : Int → Prop} (h : asI x Q) : ∃ i, x = .int i ∧ Q i := by
  cases x <;> first | exact ⟨_, rfl, h⟩ | exact False.elim h
theorem asB_of {x : PyData} {Q : Bool → Prop} (h : asB x Q) : ∃ i, x = .bool i ∧ Q i := by
  cases x <;> first | exact ⟨_, rfl, h⟩ | exact False.elim h
theorem asS_of {x : PyData} {Q : Str → Prop} (h : asS x Q) : ∃ i, x = .str i ∧ Q i := by
  cases x <;> first | exact ⟨_, rfl, h⟩ | exact False.elim h
theorem asL_of {x : PyData} {Q : List PyData → Prop} (h : asL x Q) : ∃ i, x = .list i ∧ Q i := by
  cases x <;> first | exact ⟨_, rfl, h⟩ | exact False.elim h
theorem asT_of {x : PyData} {Q : List PyData → Prop} (h : asT x Q) : ∃ i, x = .tuple i ∧ Q i := by
  cases x <;> first | exact ⟨_, rfl, h⟩ | exact False.elim h
/-- slot i holds data -/
def slD : Ctx → Nat → (PyData → Prop) → Prop
  | .d x :: _, 0, Q => Q x
  | _ :: c, i + 1, Q => slD c i Q
  | _, _, _ => False
theorem slD_0 {x : PyData} {c : Ctx} {Q : PyData → Prop} : slD (.d x :: c) 0 Q = Q x := id rfl
theorem slD_s {x : S} {c : Ctx} {i : Nat} {Q : PyData → Prop} : slD (x :: c) (i + 1) Q = slD c i Q := by cases x <;> rfl
theorem slD_of : ∀ {c : Ctx} {i : Nat} {Q : PyData → Prop}, slD c i Q → ∃ x, c[i]? = some (.d x) ∧ Q x
  | [], 0, _, h => h.elim
  | [], _ + 1, _, h => h.elim
  | .d x :: c, 0, _, h => ⟨x, rfl, h⟩
  | .no :: c, 0, _, h => h.elim
  | .f _ :: c, 0, _, h => h.elim
  | .o _ _ :: c, 0, _, h => h.elim
  | y :: c, i + 1, _, h => by
    rw [slD_s] at h
    obtain ⟨x, e, q⟩ := slD_of h
    exact ⟨x, by simpa using e, q⟩
/-- slot i holds an owned thing -/
def slO : Ctx → Nat → (Option Lt → Res → Prop) → Prop
  | .o w R :: _, 0, Q => Q w R
  | _ :: c, i + 1, Q => slO c i Q
  | _, _, _ => False
theorem slO_0 {w : Option Lt} {R : Res} {c : Ctx} {Q : Option Lt → Res → Prop} : slO (.o w R :: c) 0 Q = Q w R := id rfl
theorem slO_s {x : S} {c : Ctx} {i : Nat} {Q : Option Lt → Res → Prop} : slO (x :: c) (i + 1) Q = slO c i Q := by cases x <;> rfl
theorem slO_of : ∀ {c : Ctx} {i : Nat} {Q : Option Lt → Res → Prop}, slO c i Q → ∃ w R, c[i]? = some (.o w R) ∧ Q w R
  | [], 0, _, h => h.elim
  | [], _ + 1, _, h => h.elim
  | .o w R :: c, 0, _, h => ⟨w, R, rfl, h⟩
  | .no :: c, 0, _, h => h.elim
  | .f _ :: c, 0, _, h => h.elim
  | .d _ :: c, 0, _, h => h.elim
  | y :: c, i + 1, _, h => by
    rw [slO_s] at h
    obtain ⟨w, R, e, q⟩ := slO_of h
    exact ⟨w, R, by simpa using e, q⟩
/-- an owned thing is a list of known items -/
def asR (R : Res) (Q : List PyData → Prop) : Prop := match R with
  | .lst ds => Q ds
  | _ => False
theorem asR_l {ds : List PyData} {Q : List PyData → Prop} : asR (.lst ds) Q = Q ds := id rfl
theorem asR_of {R : Res} {Q : List PyData → Prop} (h : asR R Q) : ∃ ds, R = .lst ds ∧ Q ds := by
  cases R <;> first | exact ⟨_, rfl, h⟩ | exact False.elim h
/-- an item by its place -/
def atD (ds : List PyData) (i : Int) (Q : PyData → Prop) : Prop := ∃ d, atI ds i = some d ∧ Q d
def ixP (n : Nat) (i : Int) (Q : Nat → Prop) : Prop := ∃ k, ixN n i = some k ∧ Q k

/-! ### names, constants -/
def uVar (i : Nat) : TD := fun c Q => slD c i fun x => Q x c
def uC (x : PyData) : TD := fun c Q => Q x c
section
variable {X : Cx} {pos : Pos}
theorem dv (i : Nat) {x : Str} (hN : X.N[i]? = some x := by rfl) (hv : Vis X.env.scope x := by first | exact Or.inl rfl | exact Or.inr (Or.inl rfl) | exact Or.inr (Or.inr rfl)) (hd : (x == ("__debug__" : Str)) = false := by decide)
    (hcd : (x == ("__classdict__" : Str)) = false := by decide) : DE X (.Name x pos) (uVar i) := by
  refine ⟨_, pe_var hN hv hd hcd, fun B c s G H Q R st h k => ?_⟩
  obtain ⟨x, e, q⟩ := slD_of h
  obtain ⟨v, e1, e2⟩ := st.get_d e
  exact ⟨v, e1, k v x c G H st (Same.refl _) e2 q⟩
theorem d_int {i j} : DE X (.Constant (.int i) j pos) (uC (.int i)) := ⟨_, pe_int, fun _ c _ G H _ _ st h k => k _ _ c G H st (Same.refl _) (.int i) h⟩
theorem d_bl {b j} : DE X (.Constant (.bool b) j pos) (uC (.bool b)) := ⟨_, pe_bl, fun _ c _ G H _ _ st h k => k _ _ c G H st (Same.refl _) (.bl b) h⟩
theorem d_non {j} : DE X (.Constant .none j pos) (uC .none) := ⟨_, pe_non, fun _ c _ G H _ _ st h k => k _ _ c G H st (Same.refl _) .non h⟩
theorem d_str {x j} : DE X (.Constant (.str x) j pos) (uC (.str x)) := ⟨_, pe_str, fun _ c _ G H _ _ st h k => k _ _ c G H st (Same.refl _) (.str x) h⟩
/-- a module's text or number -/
theorem d_glob {x : Str} {u : Value} {d : PyData} {v : V} (hg : Gl X x) (hm : X.mg x = some u) (r : RelV v u) (hd : ∀ G, Dp X.K G v d) (hdb : (x == ("__debug__" : Str)) = false := by decide) : DE X (.Name x pos) (uC d) :=
  ⟨_, pe_glob hg hm r hdb, fun _ c _ G H _ _ st h k => k _ _ c G H st (Same.refl _) (hd G) h⟩
/-- an owned expression, frozen -/
def uFz (t : TR) : TD := fun c Q => t c fun R c1 => R.fz fun x => Q x c1
theorem d_fz {e : Expr} {t : TR} (h : DO X e t) : DE X e (uFz t) := by
  obtain ⟨te, he, hv⟩ := h.ex
  refine ⟨te, he, fun B c s G H Q R st q k => hv B c s G H _ R st q fun v x c' G' H' st' e q' => ?_⟩
  obtain ⟨G2, d, a1, a2, a3, a4⟩ := st'.frzR q'
  exact k v d c' G2 H' a1 (e.trans a2) a3 a4

/-! ### operators -/
/-- what a two-place rule asks of data -/
def OpD (K : PySem.W.Frag) (r : R2) (f : PyData → PyData → (PyData → Prop) → Prop) : Prop := ∀ (B : Base) (c : Ctx) (s : L2.St) (G H : Hp) (x y : V) (a b : PyData) (Q : PyData → Prop) (R : VK), Stt K B c s G H → Dp K G x a → Dp K G y b → f a b Q →
  (∀ v d G' H', Stt K B c s G' H' → Same G G' → Dp K G' v d → Q d → R v H') → r x y H R
def u2 (f : PyData → PyData → (PyData → Prop) → Prop) (ta tb : TD) : TD := fun c Q => ta c fun x c1 => tb c1 fun y c2 => f x y fun z => Q z c2
variable {a b : Expr} {ta tb : TD}
theorem two {tea teb : TE} (ha : DEv X.K tea ta) (hb : DEv X.K teb tb) {r : R2} {f : PyData → PyData → (PyData → Prop) → Prop} (hr : OpD X.K r f) : DEv X.K (tOp r tea teb) (u2 f ta tb) := by
  intro B c s G H Q R st q k
  refine ha B c s G H _ _ st q fun v x c1 G1 H1 st1 e1 d1 q1 => ?_
  refine hb B c1 s G1 H1 _ _ st1 q1 fun w y c2 G2 H2 st2 e2 d2 q2 => ?_
  exact hr B c2 s G2 H2 v w x y _ R st2 (dp_mono e2 _ _ d1) d2 q2 fun z d G3 H3 st3 e3 d3 q3 => k z d c2 G3 H3 st3 ((e1.trans e2).trans e3) d3 q3
theorem d_op {op : Operator} {r : R2} {f : PyData → PyData → (PyData → Prop) → Prop} (ho : OpR X (binaryOp op) r) (hr : OpD X.K r f) (ha : DE X a ta) (hb : DE X b tb) : DE X (.BinOp a op b pos) (u2 f ta tb) := by
  obtain ⟨tea, pa, va⟩ := ha.ex
  obtain ⟨teb, pb, vb⟩ := hb.ex
  exact ⟨_, pe_op ho pa pb, two va vb hr⟩
theorem d_cmp {op : CmpOp} {r : R2} {f : PyData → PyData → (PyData → Prop) → Prop} (ho : OpR X (compareOp op) r) (hr : OpD X.K r f) (ha : DE X a ta) (hb : DE X b tb) (hm : behindInMarks op b = false) : DE X (.Compare a [op] [b] pos) (u2 f ta tb) := by
  obtain ⟨tea, pa, va⟩ := ha.ex
  obtain ⟨teb, pb, vb⟩ := hb.ex
  exact ⟨_, pe_cmpR ho pa pb hm, two va vb hr⟩
/-- two ints in, under C -/
def fI (C : Int → Int → Prop) (g : Int → Int → PyData) : PyData → PyData → (PyData → Prop) → Prop := fun x y Q => asI x fun i => asI y fun j => C i j ∧ Q (g i j)
def fI0 (g : Int → Int → PyData) : PyData → PyData → (PyData → Prop) → Prop := fun x y Q => asI x fun i => asI y fun j => Q (g i j)
def vD : PyData → V
  | .bool b => .bl b
  | .int i => .int i
  | .str x => .str x
  | _ => .non
theorem dp_int {K : PySem.W.Frag} {G : Hp} {v : V} {i : Int} (h : Dp K G v (.int i)) : v = .int i := by cases h; rfl
theorem dp_str {K : PySem.W.Frag} {G : Hp} {v : V} {i : Str} (h : Dp K G v (.str i)) : v = .str i := by cases h; rfl
theorem dp_bl {K : PySem.W.Frag} {G : Hp} {v : V} {i : Bool} (h : Dp K G v (.bool i)) : v = .bl i := by cases h; rfl
theorem dp_non {K : PySem.W.Frag} {G : Hp} {v : V} (h : Dp K G v .none) : v = .non := by cases h; rfl
theorem dp_lst {K : PySem.W.Frag} {G : Hp} {v : V} {ds : List PyData} (h : Dp K G v (.list ds)) : ∃ a vs, v = .ref a ∧ SqL K G a vs ∧ DpAll K G vs ds := by cases h; exact ⟨_, _, rfl, by assumption, by assumption⟩
theorem dp_tup {K : PySem.W.Frag} {G : Hp} {v : V} {ds : List PyData} (h : Dp K G v (.tuple ds)) : ∃ a vs, v = .ref a ∧ SqT K G a vs ∧ DpAll K G vs ds := by cases h; exact ⟨_, _, rfl, by assumption, by assumption⟩
theorem op_i {K : PySem.W.Frag} {C : Int → Int → Prop} {g : Int → Int → Int} : OpD K (rI C fun i j => .int (g i j)) (fI C fun i j => .int (g i j)) := by
  intro B c s G H x y a b Q R st dx dy h k
  unfold fI at h
  obtain ⟨i, rfl, h⟩ := asI_of h
  have h : asI b fun j => C i j ∧ Q (.int (g i j)) := h
  obtain ⟨j, rfl, hc, q⟩ := asI_of h
  exact ⟨i, j, dp_int dx, dp_int dy, hc, k _ _ G H st (Same.refl _) (.int _) q⟩
theorem op_i0 {K : PySem.W.Frag} {g : Int → Int → Int} : OpD K (rI0 fun i j => .int (g i j)) (fI0 fun i j => .int (g i j)) := by
  intro B c s G H x y a b Q R st dx dy h k
  unfold fI0 at h
  obtain ⟨i, rfl, h⟩ := asI_of h
  have h : asI b fun j => Q (.int (g i j)) := h
  obtain ⟨j, rfl, q⟩ := asI_of h
  exact ⟨i, j, dp_int dx, dp_int dy, k _ _ G H st (Same.refl _) (.int _) q⟩
theorem op_b0 {K : PySem.W.Frag} {g : Int → Int → Bool} : OpD K (rI0 fun i j => .bl (g i j)) (fI0 fun i j => .bool (g i j)) := by
  intro B c s G H x y a b Q R st dx dy h k
  unfold fI0 at h
  obtain ⟨i, rfl, h⟩ := asI_of h
  have h : asI b fun j => Q (.bool (g i j)) := h
  obtain ⟨j, rfl, q⟩ := asI_of h
  exact ⟨i, j, dp_int dx, dp_int dy, k _ _ G H st (Same.refl _) (.bl _) q⟩
/-- + of ints, of texts -/
def fAdd : PyData → PyData → (PyData → Prop) → Prop := fun x y Q => match x with
  | .int i => asI y fun j => Q (.int (i + j))
  | .str i => asS y fun j => i.length + j.length ≤ sizeLine ∧ Q (.str (i ++ j))
  | _ => False
theorem fAdd_i {i j : Int} {Q : PyData → Prop} : fAdd (.int i) (.int j) Q = Q (.int (i + j)) := id rfl
theorem fAdd_s {i j : Str} {Q : PyData → Prop} : fAdd (.str i) (.str j) Q = (i.length + j.length ≤ sizeLine ∧ Q (.str (i ++ j))) := id rfl
theorem OpR.or2 {f : Value → Value → Sem Value} {r r' : R2} (h : OpR X f r) (h' : OpR X f r') : OpR X f (fun x y H Q => r x y H Q ∨ r' x y H Q) := fun pins s σ H x y v u Q I r1 r2 hh => hh.elim (h pins s σ H x y v u Q I r1 r2) (h' pins s σ H x y v u Q I r1 r2)
theorem d_add (ha : DE X a ta) (hb : DE X b tb) : DE X (.BinOp a .Add b pos) (u2 fAdd ta tb) := by
  refine d_op (OpR.or2 op_add op_add_str) (fun B c s G H x y a b Q R st dx dy h k => ?_) ha hb
  cases a with
  | int i =>
    obtain ⟨j, rfl, q⟩ := asI_of h
    exact .inl ⟨i, j, dp_int dx, dp_int dy, k _ _ G H st (Same.refl _) (.int _) q⟩
  | str i =>
    obtain ⟨j, rfl, hl, q⟩ := asS_of h
    exact .inr ⟨i, j, dp_str dx, dp_str dy, hl, k _ _ G H st (Same.refl _) (.str _) q⟩
  | none => exact h.elim
  | bool _ => exact h.elim
  | list _ => exact h.elim
  | tuple _ => exact h.elim
  | dict _ => exact h.elim
theorem d_sub (ha : DE X a ta) (hb : DE X b tb) : DE X (.BinOp a .Sub b pos) (u2 (fI0 fun i j => .int (i - j)) ta tb) := d_op op_sub op_i0 ha hb
/-- one factor of at most 64 bits, or both of together less than a million -/
def CMulA (i j : Int) : Prop := CMul i j ∨ CMulW i j
theorem op_mulA : OpR X (binaryOp .Mult) (rI CMulA fun i j => .int (i * j)) := opI fun _ _ _ _ _ _ _ hc q => mul_int q (hc.elim (fun z => z.ok) fun z => z.ok)
theorem d_mul (ha : DE X a ta) (hb : DE X b tb) : DE X (.BinOp a .Mult b pos) (u2 (fI CMulA fun i j => .int (i * j)) ta tb) := d_op op_mulA op_i ha hb
def CDivA (_ j : Int) : Prop := j ≠ 0 ∧ j.natAbs.log2 < 9000
theorem op_fdivA : OpR X (binaryOp .FloorDiv) (rI CDivA fun i j => .int (i.fdiv j)) := opI fun _ _ _ _ _ _ _ hc q => floordiv_int hc.1 q (.inl (PyProof.noPylong_of_log2 hc.2))
theorem d_fdiv (ha : DE X a ta) (hb : DE X b tb) : DE X (.BinOp a .FloorDiv b pos) (u2 (fI CDivA fun i j => .int (i.fdiv j)) ta tb) := d_op op_fdivA op_i ha hb
theorem d_mod (ha : DE X a ta) (hb : DE X b tb) : DE X (.BinOp a .Mod b pos) (u2 (fI (fun _ j => j ≠ 0) fun i j => .int (i.fmod j)) ta tb) := d_op op_modN op_i ha hb
theorem d_pow (ha : DE X a ta) (hb : DE X b tb) : DE X (.BinOp a .Pow b pos) (u2 (fI CPow fun i j => .int (i ^ j.toNat)) ta tb) := d_op op_pow op_i ha hb
theorem d_lt (ha : DE X a ta) (hb : DE X b tb) : DE X (.Compare a [.Lt] [b] pos) (u2 (fI0 fun i j => .bool (decide (i < j))) ta tb) := d_cmp op_lt op_b0 ha hb (nomark _)
theorem d_le (ha : DE X a ta) (hb : DE X b tb) : DE X (.Compare a [.LtE] [b] pos) (u2 (fI0 fun i j => .bool (decide (i ≤ j))) ta tb) := d_cmp op_le op_b0 ha hb (nomark _)
theorem d_gt (ha : DE X a ta) (hb : DE X b tb) : DE X (.Compare a [.Gt] [b] pos) (u2 (fI0 fun i j => .bool (decide (j < i))) ta tb) := d_cmp op_gt op_b0 ha hb (nomark _)
theorem d_ge (ha : DE X a ta) (hb : DE X b tb) : DE X (.Compare a [.GtE] [b] pos) (u2 (fI0 fun i j => .bool (decide (j ≤ i))) ta tb) := d_cmp op_ge op_b0 ha hb (nomark _)
/-- == and != of data at any depth -/
def fEq (neg : Bool) : PyData → PyData → (PyData → Prop) → Prop := fun x y Q => SeqAt.shaped x = true ∧ SeqAt.shaped y = true ∧ Q (.bool (if neg then !PyData.eqv x y else PyData.eqv x y))
theorem d_eq (hu : X.A.units + 64 < cLine) (ha : DE X a ta) (hb : DE X b tb) : DE X (.Compare a [.Eq] [b] pos) (u2 (fEq false) ta tb) := by
  refine d_cmp (op_eqD hu) (fun B c s G H x y a b Q R st dx dy h k => ?_) ha hb (nomark _)
  obtain ⟨s1, s2, q⟩ := h
  exact ⟨a, b, dp_mono st.sub _ _ dx, dp_mono st.sub _ _ dy, s1, s2, k _ _ G H st (Same.refl _) (.bl _) q⟩
theorem d_ne (hu : X.A.units + 64 < cLine) (ha : DE X a ta) (hb : DE X b tb) : DE X (.Compare a [.NotEq] [b] pos) (u2 (fEq true) ta tb) := by
  refine d_cmp (op_neD hu) (fun B c s G H x y a b Q R st dx dy h k => ?_) ha hb (nomark _)
  obtain ⟨s1, s2, q⟩ := h
  exact ⟨a, b, dp_mono st.sub _ _ dx, dp_mono st.sub _ _ dy, s1, s2, k _ _ G H st (Same.refl _) (.bl _) q⟩
/-- is None, is not None -/
def isNo : PyData → Bool
  | .none => true
  | _ => false
theorem isNo_dp {K : PySem.W.Frag} {G : Hp} {v : V} {x : PyData} (h : Dp K G v x) : decide (v = V.non) = isNo x := by cases h <;> rfl
theorem d_isN {pos' : Pos} (ha : DE X a ta) : DE X (.Compare a [.Is] [.Constant .none 0 pos'] pos) (fun c Q => ta c fun x c1 => Q (.bool (isNo x)) c1) := by
  obtain ⟨tea, pa, va⟩ := ha.ex
  refine ⟨_, pe_cmp (pc_isN pa), fun B c s G H Q R st q k => va B c s G H _ _ st q fun v x c1 G1 H1 st1 e1 d1 q1 => ?_⟩
  rw [isNo_dp d1]
  exact k _ _ c1 G1 H1 st1 e1 (.bl _) q1
theorem d_notN {pos' : Pos} (ha : DE X a ta) : DE X (.Compare a [.IsNot] [.Constant .none 0 pos'] pos) (fun c Q => ta c fun x c1 => Q (.bool (!isNo x)) c1) := by
  obtain ⟨tea, pa, va⟩ := ha.ex
  refine ⟨_, pe_cmp (pc_notN pa), fun B c s G H Q R st q k => va B c s G H _ _ st q fun v x c1 G1 H1 st1 e1 d1 q1 => ?_⟩
  rw [isNo_dp d1]
  exact k _ _ c1 G1 H1 st1 e1 (.bl _) q1
theorem d_neg (ha : DE X a ta) : DE X (.UnaryOp .USub a pos) (fun c Q => ta c fun x c1 => asI x fun i => Q (.int (-i)) c1) := by
  obtain ⟨tea, pa, va⟩ := ha.ex
  refine ⟨_, pe_un un_neg pa, fun B c s G H Q R st q k => va B c s G H _ _ st q fun v x c1 G1 H1 st1 e1 d1 q1 => ?_⟩
  obtain ⟨i, rfl, q⟩ := asI_of q1
  exact ⟨i, dp_int d1, k _ _ c1 G1 H1 st1 e1 (.int _) q⟩

/-! ### tests -/
/-- an expression that is a truth -/
def wB (t : TD) : TB := fun c Q => t c fun x c1 => asB x fun b => Q b c1
variable {tA tB' : TB} {rest : List Expr}
theorem tv {e : Expr} {t : TD} (h : DE X e t) (he : ∀ whole, isTrue e X.env whole = (do let v ← whole; standAt e.pos; holding [v] (truthy v)) := by intro _; rfl) : DT X e (wB t) := by
  obtain ⟨te, pe, ve⟩ := h.ex
  refine ⟨_, pt_val pe he, fun B c s G H Q R st q k => ve B c s G H _ _ st q fun v x c1 G1 H1 st1 e1 d1 q1 => ?_⟩
  obtain ⟨b, rfl, q⟩ := asB_of q1
  exact ⟨b, dp_bl d1, k b c1 G1 H1 st1 e1 q⟩
/-- a comparison as a test -/
theorem tc {op : CmpOp} {r : R2} {f : PyData → PyData → (PyData → Prop) → Prop} (ho : OpR X (compareOp op) r) (hr : OpD X.K r f) (ha : DE X a ta) (hb : DE X b tb) (hm : behindInMarks op b = false) : DT X (.Compare a [op] [b] pos) (wB (u2 f ta tb)) := by
  obtain ⟨tea, pa, va⟩ := ha.ex
  obtain ⟨teb, pb, vb⟩ := hb.ex
  refine ⟨_, pt_cmpR ho pa pb hm, fun B c s G H Q R st q k => two va vb hr B c s G H _ _ st q fun v x c1 G1 H1 st1 e1 d1 q1 => ?_⟩
  obtain ⟨b, rfl, q⟩ := asB_of q1
  exact ⟨b, dp_bl d1, k b c1 G1 H1 st1 e1 q⟩
theorem t_lt (ha : DE X a ta) (hb : DE X b tb) : DT X (.Compare a [.Lt] [b] pos) (wB (u2 (fI0 fun i j => .bool (decide (i < j))) ta tb)) := tc op_lt op_b0 ha hb (nomark _)
theorem t_le (ha : DE X a ta) (hb : DE X b tb) : DT X (.Compare a [.LtE] [b] pos) (wB (u2 (fI0 fun i j => .bool (decide (i ≤ j))) ta tb)) := tc op_le op_b0 ha hb (nomark _)
theorem t_gt (ha : DE X a ta) (hb : DE X b tb) : DT X (.Compare a [.Gt] [b] pos) (wB (u2 (fI0 fun i j => .bool (decide (j < i))) ta tb)) := tc op_gt op_b0 ha hb (nomark _)
theorem t_ge (ha : DE X a ta) (hb : DE X b tb) : DT X (.Compare a [.GtE] [b] pos) (wB (u2 (fI0 fun i j => .bool (decide (j ≤ i))) ta tb)) := tc op_ge op_b0 ha hb (nomark _)
theorem opd_eq {K : PySem.W.Frag} : OpD K (rEqD K) (fEq false) := fun B c s G H x y a b Q R st dx dy ⟨s1, s2, q⟩ k => ⟨a, b, dp_mono st.sub _ _ dx, dp_mono st.sub _ _ dy, s1, s2, k _ _ G H st (Same.refl _) (.bl _) q⟩
theorem opd_ne {K : PySem.W.Frag} : OpD K (rNeD K) (fEq true) := fun B c s G H x y a b Q R st dx dy ⟨s1, s2, q⟩ k => ⟨a, b, dp_mono st.sub _ _ dx, dp_mono st.sub _ _ dy, s1, s2, k _ _ G H st (Same.refl _) (.bl _) q⟩
theorem t_eq (hu : X.A.units + 64 < cLine) (ha : DE X a ta) (hb : DE X b tb) : DT X (.Compare a [.Eq] [b] pos) (wB (u2 (fEq false) ta tb)) := tc (op_eqD hu) opd_eq ha hb (nomark _)
theorem t_ne (hu : X.A.units + 64 < cLine) (ha : DE X a ta) (hb : DE X b tb) : DT X (.Compare a [.NotEq] [b] pos) (wB (u2 (fEq true) ta tb)) := tc (op_neD hu) opd_ne ha hb (nomark _)
def wNot (t : TB) : TB := fun c Q => t c fun b c1 => Q (!b) c1
def wAnd (t u : TB) : TB := fun c Q => t c fun b c1 => if b = true then u c1 Q else Q false c1
def wOr (t u : TB) : TB := fun c Q => t c fun b c1 => if b = true then Q true c1 else u c1 Q
theorem t_not (ha : DT X a tA) : DT X (.UnaryOp .Not a pos) (wNot tA) := by
  obtain ⟨te, pe, ve⟩ := ha.ex
  exact ⟨_, pt_not pe, fun B c s G H Q R st q k => ve B c s G H _ _ st q fun b c1 G1 H1 st1 e1 q1 => k _ c1 G1 H1 st1 e1 q1⟩
theorem DW.dt {e : Expr} {t : TB} (h : DW X e t) : DT X e t := let ⟨te, p, v⟩ := h.ex; ⟨te, p.pt, v⟩
theorem w_and1 (ha : DT X a tA) : DW X (.BoolOp .And [a] pos) tA := let ⟨te, p, v⟩ := ha.ex; ⟨te, pw_and1 p, v⟩
theorem w_or1 (ha : DT X a tA) : DW X (.BoolOp .Or [a] pos) tA := let ⟨te, p, v⟩ := ha.ex; ⟨te, pw_or1 p, v⟩
theorem wand_v {t1 t2 : TT} (v1 : DTv X.K t1 tA) (v2 : DTv X.K t2 tB') : DTv X.K (L2.tAnd t1 t2) (wAnd tA tB') := fun B c s G H Q R st q k => v1 B c s G H _ _ st q fun b c1 G1 H1 st1 e1 q1 => by
  cases b with
  | true =>
    rw [if_pos rfl] at q1 ⊢
    exact v2 B c1 s G1 H1 _ _ st1 q1 fun b2 c2 G2 H2 st2 e2 q2 => k b2 c2 G2 H2 st2 (e1.trans e2) q2
  | false =>
    rw [if_neg Bool.false_ne_true] at q1 ⊢
    exact k _ c1 G1 H1 st1 e1 q1
theorem wor_v {t1 t2 : TT} (v1 : DTv X.K t1 tA) (v2 : DTv X.K t2 tB') : DTv X.K (L2.tOr t1 t2) (wOr tA tB') := fun B c s G H Q R st q k => v1 B c s G H _ _ st q fun b c1 G1 H1 st1 e1 q1 => by
  cases b with
  | false =>
    rw [if_neg Bool.false_ne_true] at q1 ⊢
    exact v2 B c1 s G1 H1 _ _ st1 q1 fun b2 c2 G2 H2 st2 e2 q2 => k b2 c2 G2 H2 st2 (e1.trans e2) q2
  | true =>
    rw [if_pos rfl] at q1 ⊢
    exact k _ c1 G1 H1 st1 e1 q1
theorem w_and (ha : DT X a tA) (hb : DW X (.BoolOp .And (b :: rest) pos) tB') : DW X (.BoolOp .And (a :: b :: rest) pos) (wAnd tA tB') :=
  let ⟨_, p1, v1⟩ := ha.ex; let ⟨_, p2, v2⟩ := hb.ex; ⟨_, pw_and p1 p2, wand_v v1 v2⟩
theorem w_or (ha : DT X a tA) (hb : DW X (.BoolOp .Or (b :: rest) pos) tB') : DW X (.BoolOp .Or (a :: b :: rest) pos) (wOr tA tB') :=
  let ⟨_, p1, v1⟩ := ha.ex; let ⟨_, p2, v2⟩ := hb.ex; ⟨_, pw_or p1 p2, wor_v v1 v2⟩
/-- and, or, not as values -/
def uAnd (ta tb : TD) : TD := fun c Q => ta c fun x c1 => asB x fun b => if b = true then tb c1 Q else Q (.bool false) c1
def uOr (ta tb : TD) : TD := fun c Q => ta c fun x c1 => asB x fun b => if b = true then Q (.bool true) c1 else tb c1 Q
def uNot (ta : TD) : TD := fun c Q => ta c fun x c1 => asB x fun b => Q (.bool (!b)) c1
theorem d_one {op} {t : TD} (h : DE X a t) : DE X (.BoolOp op [a] pos) t := let ⟨te, p, v⟩ := h.ex; ⟨te, pe_one p, v⟩
theorem d_and (ha : DE X a ta) (hb : DE X (.BoolOp .And (b :: rest) pos) tb) : DE X (.BoolOp .And (a :: b :: rest) pos) (uAnd ta tb) := by
  obtain ⟨tea, pa, va⟩ := ha.ex
  obtain ⟨teb, pb, vb⟩ := hb.ex
  refine ⟨_, pe_and pa pb, fun B c s G H Q R st q k => va B c s G H _ _ st q fun v x c1 G1 H1 st1 e1 d1 q1 => ?_⟩
  obtain ⟨b, rfl, q⟩ := asB_of q1
  refine ⟨b, dp_bl d1, ?_⟩
  cases b with
  | true =>
    rw [if_pos rfl] at q ⊢
    exact vb B c1 s G1 H1 _ _ st1 q fun v2 x2 c2 G2 H2 st2 e2 d2 q2 => k v2 x2 c2 G2 H2 st2 (e1.trans e2) d2 q2
  | false =>
    rw [if_neg Bool.false_ne_true] at q ⊢
    exact k _ _ c1 G1 H1 st1 e1 (.bl _) q
theorem d_or (ha : DE X a ta) (hb : DE X (.BoolOp .Or (b :: rest) pos) tb) : DE X (.BoolOp .Or (a :: b :: rest) pos) (uOr ta tb) := by
  obtain ⟨tea, pa, va⟩ := ha.ex
  obtain ⟨teb, pb, vb⟩ := hb.ex
  refine ⟨_, pe_or pa pb, fun B c s G H Q R st q k => va B c s G H _ _ st q fun v x c1 G1 H1 st1 e1 d1 q1 => ?_⟩
  obtain ⟨b, rfl, q⟩ := asB_of q1
  refine ⟨b, dp_bl d1, ?_⟩
  cases b with
  | false =>
    rw [if_neg Bool.false_ne_true] at q ⊢
    exact vb B c1 s G1 H1 _ _ st1 q fun v2 x2 c2 G2 H2 st2 e2 d2 q2 => k v2 x2 c2 G2 H2 st2 (e1.trans e2) d2 q2
  | true =>
    rw [if_pos rfl] at q ⊢
    exact k _ _ c1 G1 H1 st1 e1 (.bl _) q
theorem d_not (ha : DE X a ta) : DE X (.UnaryOp .Not a pos) (uNot ta) := by
  obtain ⟨tea, pa, va⟩ := ha.ex
  refine ⟨_, pe_not pa, fun B c s G H Q R st q k => va B c s G H _ _ st q fun v x c1 G1 H1 st1 e1 d1 q1 => ?_⟩
  obtain ⟨b, rfl, q⟩ := asB_of q1
  exact ⟨b, dp_bl d1, k _ _ c1 G1 H1 st1 e1 (.bl _) q⟩
def uIf (t : TB) (ta tb : TD) : TD := fun c Q => t c fun b c1 => if b = true then ta c1 Q else tb c1 Q
theorem d_if {e : Expr} (hc : DT X e tA) (ha : DE X a ta) (hb : DE X b tb) : DE X (.IfExp e a b pos) (uIf tA ta tb) := by
  obtain ⟨tec, pc, vc⟩ := hc.ex
  obtain ⟨tea, pa, va⟩ := ha.ex
  obtain ⟨teb, pb, vb⟩ := hb.ex
  refine ⟨_, pe_ifExp pc pa pb, fun B c s G H Q R st q k => vc B c s G H _ _ st q fun b c1 G1 H1 st1 e1 q1 => ?_⟩
  cases b with
  | true =>
    rw [if_pos rfl] at q1 ⊢
    exact va B c1 s G1 H1 _ _ st1 q1 fun v2 x2 c2 G2 H2 st2 e2 d2 q2 => k v2 x2 c2 G2 H2 st2 (e1.trans e2) d2 q2
  | false =>
    rw [if_neg Bool.false_ne_true] at q1 ⊢
    exact vb B c1 s G1 H1 _ _ st1 q1 fun v2 x2 c2 G2 H2 st2 e2 d2 q2 => k v2 x2 c2 G2 H2 st2 (e1.trans e2) d2 q2

/-! ### argument lists, displays, items -/
def aNil : TL := fun c Q => Q [] c
def aCons (ta : TD) (tr : TL) : TL := fun c Q => ta c fun x c1 => tr c1 fun xs c2 => Q (x :: xs) c2
theorem a_nil : DA X [] aNil := ⟨_, pa_nil, fun B c s G H Q R st q k => k [] [] c G H st (Same.refl _) .nil q⟩
theorem a_cons {es : List Expr} {tr : TL} (ha : DE X a ta) (hr : DA X es tr) (hs : starEach (a :: es) X.env = (false, eval a X.env) :: starEach es X.env := by rfl) : DA X (a :: es) (aCons ta tr) := by
  obtain ⟨tea, pa, va⟩ := ha.ex
  obtain ⟨ter, pr, vr⟩ := hr.ex
  refine ⟨_, pa_cons pa pr hs, fun B c s G H Q R st q k => va B c s G H _ _ st q fun v x c1 G1 H1 st1 e1 d1 q1 => ?_⟩
  exact vr B c1 s G1 H1 _ _ st1 q1 fun vs xs c2 G2 H2 st2 e2 d2 q2 => k _ _ c2 G2 H2 st2 (e1.trans e2) (.cons (dp_mono e2 _ _ d1) d2) q2
variable {es : List Expr} {tl : TL}
def uTup (t : TL) : TD := fun c Q => t c fun xs c1 => xs.length ≤ sizeLine ∧ Q (.tuple xs) c1
theorem d_tup {x1} (h : DA X es tl) : DE X (.Tuple es x1 pos) (uTup tl) := by
  obtain ⟨te, p, v⟩ := h.ex
  refine ⟨_, pe_tup p, fun B c s G H Q R st q k => v B c s G H _ _ st q fun vs xs c1 G1 H1 st1 e1 d1 q1 => ?_⟩
  refine ⟨by rw [dpa_len d1]; exact q1.1, fun p hp => ?_⟩
  obtain ⟨st2, e2⟩ := st1.laid (o := .tup vs) hp
  exact k _ _ c1 _ _ st2 (e1.trans e2) (.tup (.inl (.inl upd_same)) (dpa_mono e2 _ _ d1)) q1.2
def oLst (t : TL) : TR := fun c Q => t c fun xs c1 => xs.length ≤ sizeLine ∧ Q (.lst xs) c1
theorem o_lst (h : DA X es tl) : DO X (.List es pos) (oLst tl) := by
  obtain ⟨te, p, v⟩ := h.ex
  refine ⟨_, pe_lst p, fun B c s G H Q R st q k => v B c s G H _ _ st q fun vs xs c1 G1 H1 st1 e1 d1 q1 => ?_⟩
  refine ⟨by rw [dpa_len d1]; exact q1.1, fun p hp => ?_⟩
  exact k _ _ c1 _ _ (st1.laidL hp d1) e1 q1.2
/-- xs[i] of data: lists, tuples, texts -/
def ixD (x : PyData) (i : Int) (Q : PyData → Prop) : Prop := match x with
  | .list ds => atD ds i Q
  | .tuple ds => atD ds i Q
  | .str z => ∃ n, z.length ≤ sizeLine ∧ atI z.cps.toList i = some n ∧ Q (.str ⟨#[n]⟩)
  | _ => False
theorem ixD_l {ds : List PyData} {i : Int} {Q : PyData → Prop} : ixD (.list ds) i Q = atD ds i Q := id rfl
theorem ixD_t {ds : List PyData} {i : Int} {Q : PyData → Prop} : ixD (.tuple ds) i Q = atD ds i Q := id rfl
theorem ixD_s {z : Str} {i : Int} {Q : PyData → Prop} : ixD (.str z) i Q = ∃ n, z.length ≤ sizeLine ∧ atI z.cps.toList i = some n ∧ Q (.str ⟨#[n]⟩) := id rfl
def fIx : PyData → PyData → (PyData → Prop) → Prop := fun x y Q => asI y fun i => ixD x i Q
theorem atI_dp {K : PySem.W.Frag} {G : Hp} {vs : List V} {ds : List PyData} {i : Int} {d : PyData} (h : DpAll K G vs ds) (e : atI ds i = some d) : ∃ v, atI vs i = some v ∧ Dp K G v d := by
  unfold atI at e ⊢
  rw [dpa_len h]
  cases q : ixN ds.length i with
  | none => rw [q] at e; cases e
  | some j =>
    rw [q] at e
    exact dpa_get h e
theorem d_ix (hs : PlainIx b) (ha : DE X a ta) (hb : DE X b tb) : DE X (.Subscript a b pos) (u2 fIx ta tb) := by
  obtain ⟨tea, pa, va⟩ := ha.ex
  obtain ⟨teb, pb, vb⟩ := hb.ex
  refine ⟨_, pe_ix ix_seq pa pb hs, two va vb fun B c s G H x y a b Q R st dx dy h k => ?_⟩
  unfold fIx at h
  obtain ⟨i, rfl, h⟩ := asI_of h
  cases a with
  | list ds =>
    obtain ⟨d, e, q⟩ := h
    obtain ⟨p, vs, rfl, h1, h2⟩ := dp_lst dx
    obtain ⟨v, e2, d2⟩ := atI_dp h2 e
    exact .inl ⟨p, vs, i, v, rfl, dp_int dy, Same.seq st.sub h1, e2, k v d G H st (Same.refl _) d2 q⟩
  | tuple ds =>
    obtain ⟨d, e, q⟩ := h
    obtain ⟨p, vs, rfl, h1, h2⟩ := dp_tup dx
    obtain ⟨v, e2, d2⟩ := atI_dp h2 e
    exact .inr (.inl ⟨p, vs, i, v, rfl, dp_int dy, same_t st.sub h1, e2, k v d G H st (Same.refl _) d2 q⟩)
  | str z =>
    obtain ⟨n, hl, e, q⟩ := h
    exact .inr (.inr ⟨z, i, n, dp_str dx, dp_int dy, hl, e, k _ _ G H st (Same.refl _) (.str _) q⟩)
  | none => exact h.elim
  | bool _ => exact h.elim
  | int _ => exact h.elim
  | dict _ => exact h.elim
/-- xs[i], xs an owned list in slot j -/
def uIxO (j : Nat) (tb : TD) : TD := fun c Q => slO c j fun _ _ => tb c fun y c1 => slO c1 j fun _ R => asR R fun ds => asI y fun i => atD ds i fun d => Q d c1
theorem Stt.own_at {K : PySem.W.Frag} {B : Base} {c : Ctx} {s : L2.St} {G H : Hp} (st : Stt K B c s G H) {j : Nat} {w : Option Lt} {R : Res} (e : c[j]? = some (.o w R)) : ∃ v, s[j]? = some (some v) := by
  obtain ⟨A, r, w'⟩ := st.ex
  obtain ⟨v, _, h, _⟩ := r.focus w'.nd e
  exact ⟨v, h⟩
theorem d_ixO (j : Nat) {x : Str} {pos' : Pos} (hs : PlainIx b) (hb : DE X b tb) (hN : X.N[j]? = some x := by rfl) (hv : Vis X.env.scope x := by first | exact Or.inl rfl | exact Or.inr (Or.inl rfl) | exact Or.inr (Or.inr rfl)) (hd : (x == ("__debug__" : Str)) = false := by decide)
    (hcd : (x == ("__classdict__" : Str)) = false := by decide) : DE X (.Subscript (.Name x pos') b pos) (uIxO j tb) := by
  obtain ⟨teb, pb, vb⟩ := hb.ex
  refine ⟨_, pe_ix ix_seq (pe_var hN hv hd hcd) pb hs, fun B c s G H Q R st q k => ?_⟩
  obtain ⟨w0, R0, e0, q⟩ := slO_of q
  obtain ⟨w, e⟩ := st.own_at e0
  refine ⟨w, e, vb B c s G H _ _ st q fun u y c1 G1 H1 st1 e1 d1 q1 => ?_⟩
  obtain ⟨wo, R1, h1, q2⟩ := slO_of q1
  obtain ⟨ds, rfl, q3⟩ := asR_of q2
  obtain ⟨i, rfl, q4⟩ := asI_of q3
  obtain ⟨d, h2, h3⟩ := q4
  obtain ⟨p, vs, g1, g2, g3, _⟩ := st1.own h1
  rw [e] at g1
  cases g1
  obtain ⟨v2, e2, d2⟩ := atI_dp g3 h2
  exact .inl ⟨p, vs, i, v2, rfl, dp_int d1, SqL.of g2, e2, k v2 d c1 G1 H1 st1 e1 d2 h3⟩
/-- the name of an owned thing, its value -/
def uOwn (j : Nat) (f : Res → (PyData → Prop) → Prop) : TD := fun c Q => slO c j fun _ R => f R fun d => Q d c
/-- a built-in called with data, its answer data; its answer a new owned thing -/
def CallD (K : PySem.W.Frag) (r : List V → Hp → VK → Prop) (f : List PyData → (PyData → Prop) → Prop) : Prop := ∀ (B : Base) (c : Ctx) (s : L2.St) (G H : Hp) (vs : List V) (xs : List PyData) (Q : PyData → Prop) (R : VK), Stt K B c s G H → DpAll K G vs xs → f xs Q →
  (∀ v d G' H', Stt K B c s G' H' → Same G G' → Dp K G' v d → Q d → R v H') → r vs H R
def CallO (K : PySem.W.Frag) (r : List V → Hp → VK → Prop) (f : List PyData → (Res → Prop) → Prop) : Prop := ∀ (B : Base) (c : Ctx) (s : L2.St) (G H : Hp) (vs : List V) (xs : List PyData) (Q : Res → Prop) (R : VK), Stt K B c s G H → DpAll K G vs xs → f xs Q →
  (∀ v d G' H', Stt K B (.o none d :: c) (some v :: s) G' H' → Same G G' → Q d → R v H') → r vs H R
def uCB (f : List PyData → (PyData → Prop) → Prop) (t : TL) : TD := fun c Q => t c fun xs c1 => f xs fun z => Q z c1
def oCB (f : List PyData → (Res → Prop) → Prop) (t : TL) : TR := fun c Q => t c fun xs c1 => f xs fun z => Q z c1
variable {id T : String} {r : List V → Hp → VK → Prop} {f : List PyData → (PyData → Prop) → Prop} {fo : List PyData → (Res → Prop) → Prop} {x : Str} {p : Pos}
theorem d_callB (hc : CallR X (.builtin id) r) (hr : CallD X.K r f) (hm : X.mg x = none) (hv : bootBuiltins x = some (.builtin id)) (ha : DA X (a :: es) tl) (hg : Gl X x := by rfl) (hn : x ≠ "__name__" := by decide) (hdb : (x == ("__debug__" : Str)) = false := by decide)
    (he : starEach (a :: es) X.env = (false, eval a X.env) :: starEach es X.env := by rfl) (hpl : (backTo pos (starEach es X.env)).any (·.1) = false := by rfl) : DE X (.Call (.Name x p) (a :: es) [] pos) (uCB f tl) := by
  obtain ⟨tea, pa, va⟩ := ha.ex
  refine ⟨_, pe_callB hc hg hm hv pa hn hdb he hpl, fun B c s G H Q R st q k => va B c s G H _ _ st q fun vs xs c1 G1 H1 st1 e1 d1 q1 => ?_⟩
  exact hr B c1 s G1 H1 vs xs _ R st1 d1 q1 fun v d G2 H2 st2 e2 d2 q2 => k v d c1 G2 H2 st2 (e1.trans e2) d2 q2
theorem d_callTy (hc : CallR X (.type T) r) (hr : CallD X.K r f) (hm : X.mg x = none) (hv : bootBuiltins x = some (.type T)) (ha : DA X (a :: es) tl) (hg : Gl X x := by rfl) (hn : x ≠ "__name__" := by decide) (hdb : (x == ("__debug__" : Str)) = false := by decide)
    (he : starEach (a :: es) X.env = (false, eval a X.env) :: starEach es X.env := by rfl) (hpl : (backTo pos (starEach es X.env)).any (·.1) = false := by rfl) : DE X (.Call (.Name x p) (a :: es) [] pos) (uCB f tl) := by
  obtain ⟨tea, pa, va⟩ := ha.ex
  refine ⟨_, pe_callTy hc hg hm hv pa hn hdb he hpl, fun B c s G H Q R st q k => va B c s G H _ _ st q fun vs xs c1 G1 H1 st1 e1 d1 q1 => ?_⟩
  exact hr B c1 s G1 H1 vs xs _ R st1 d1 q1 fun v d G2 H2 st2 e2 d2 q2 => k v d c1 G2 H2 st2 (e1.trans e2) d2 q2
theorem o_callB (hc : CallR X (.builtin id) r) (hr : CallO X.K r fo) (hm : X.mg x = none) (hv : bootBuiltins x = some (.builtin id)) (ha : DA X (a :: es) tl) (hg : Gl X x := by rfl) (hn : x ≠ "__name__" := by decide) (hdb : (x == ("__debug__" : Str)) = false := by decide)
    (he : starEach (a :: es) X.env = (false, eval a X.env) :: starEach es X.env := by rfl) (hpl : (backTo pos (starEach es X.env)).any (·.1) = false := by rfl) : DO X (.Call (.Name x p) (a :: es) [] pos) (oCB fo tl) := by
  obtain ⟨tea, pa, va⟩ := ha.ex
  refine ⟨_, pe_callB hc hg hm hv pa hn hdb he hpl, fun B c s G H Q R st q k => va B c s G H _ _ st q fun vs xs c1 G1 H1 st1 e1 d1 q1 => ?_⟩
  exact hr B c1 s G1 H1 vs xs _ R st1 d1 q1 fun v d G2 H2 st2 e2 q2 => k v d c1 G2 H2 st2 (e1.trans e2) q2
theorem o_callTy (hc : CallR X (.type T) r) (hr : CallO X.K r fo) (hm : X.mg x = none) (hv : bootBuiltins x = some (.type T)) (ha : DA X (a :: es) tl) (hg : Gl X x := by rfl) (hn : x ≠ "__name__" := by decide) (hdb : (x == ("__debug__" : Str)) = false := by decide)
    (he : starEach (a :: es) X.env = (false, eval a X.env) :: starEach es X.env := by rfl) (hpl : (backTo pos (starEach es X.env)).any (·.1) = false := by rfl) : DO X (.Call (.Name x p) (a :: es) [] pos) (oCB fo tl) := by
  obtain ⟨tea, pa, va⟩ := ha.ex
  refine ⟨_, pe_callTy hc hg hm hv pa hn hdb he hpl, fun B c s G H Q R st q k => va B c s G H _ _ st q fun vs xs c1 G1 H1 st1 e1 d1 q1 => ?_⟩
  exact hr B c1 s G1 H1 vs xs _ R st1 d1 q1 fun v d G2 H2 st2 e2 q2 => k v d c1 G2 H2 st2 (e1.trans e2) q2
theorem dpa_1 {K : PySem.W.Frag} {G : Hp} {vs : List V} {x : PyData} (h : DpAll K G vs [x]) : ∃ v, vs = [v] ∧ Dp K G v x := by
  cases h with
  | cons h1 h2 => cases h2; exact ⟨_, rfl, h1⟩
theorem dpa_2 {K : PySem.W.Frag} {G : Hp} {vs : List V} {x y : PyData} (h : DpAll K G vs [x, y]) : ∃ v w, vs = [v, w] ∧ Dp K G v x ∧ Dp K G w y := by
  cases h with
  | cons h1 h2 =>
    obtain ⟨w, rfl, h3⟩ := dpa_1 h2
    exact ⟨_, w, rfl, h1, h3⟩
/-- len(e) of data -/
def fLen1 (x : PyData) (Q : PyData → Prop) : Prop := match x with
  | .list ds => Q (.int ds.length)
  | .tuple ds => Q (.int ds.length)
  | .str z => z.length ≤ sizeLine ∧ Q (.int z.length)
  | _ => False
def arg1 (xs : List PyData) (Q : PyData → Prop) : Prop := match xs with
  | [x] => Q x
  | _ => False
def arg2 (xs : List PyData) (Q : PyData → PyData → Prop) : Prop := match xs with
  | [x, y] => Q x y
  | _ => False
theorem arg1_1 {x : PyData} {Q : PyData → Prop} : arg1 [x] Q = Q x := id rfl
theorem arg2_2 {x y : PyData} {Q : PyData → PyData → Prop} : arg2 [x, y] Q = Q x y := id rfl
theorem arg1_of {xs : List PyData} {Q : PyData → Prop} (h : arg1 xs Q) : ∃ x, xs = [x] ∧ Q x := by
  match xs, h with
  | [x], h => exact ⟨x, rfl, h⟩
  | [], h => exact False.elim h
  | _ :: _ :: _, h => exact False.elim h
theorem arg2_of {xs : List PyData} {Q : PyData → PyData → Prop} (h : arg2 xs Q) : ∃ x y, xs = [x, y] ∧ Q x y := by
  match xs, h with
  | [x, y], h => exact ⟨x, y, rfl, h⟩
  | [], h => exact False.elim h
  | [_], h => exact False.elim h
  | _ :: _ :: _ :: _, h => exact False.elim h
theorem fLen1_l {ds : List PyData} {Q : PyData → Prop} : fLen1 (.list ds) Q = Q (.int ds.length) := id rfl
theorem fLen1_t {ds : List PyData} {Q : PyData → Prop} : fLen1 (.tuple ds) Q = Q (.int ds.length) := id rfl
theorem fLen1_s {z : Str} {Q : PyData → Prop} : fLen1 (.str z) Q = (z.length ≤ sizeLine ∧ Q (.int z.length)) := id rfl
def fLen (xs : List PyData) (Q : PyData → Prop) : Prop := arg1 xs fun x => fLen1 x Q
theorem d_len (hm : X.mg "len" = none) (ha : DA X (a :: []) tl) (hg : Gl X "len" := by rfl) (he : starEach (a :: []) X.env = (false, eval a X.env) :: starEach [] X.env := by rfl) (hpl : (backTo pos (starEach [] X.env)).any (·.1) = false := by rfl) : DE X (.Call (.Name "len" p) (a :: []) [] pos) (uCB fLen tl) := by
  refine d_callB (CallR.or call_len_seq call_len_str) (fun B c s G H vs xs Q R st da h k => ?_) hm boot_len ha hg (by decide) (by decide) he hpl
  unfold fLen at h
  obtain ⟨x, rfl, h⟩ := arg1_of h
  obtain ⟨v, rfl, d1⟩ := dpa_1 da
  cases x with
  | list ds =>
    obtain ⟨p, vs, rfl, h1, h2⟩ := dp_lst d1
    refine .inl ⟨p, vs, rfl, .inl (Same.seq st.sub h1), ?_⟩
    rw [dpa_len h2]
    exact k _ _ G H st (Same.refl _) (.int _) h
  | tuple ds =>
    obtain ⟨p, vs, rfl, h1, h2⟩ := dp_tup d1
    refine .inl ⟨p, vs, rfl, .inr (same_t st.sub h1), ?_⟩
    rw [dpa_len h2]
    exact k _ _ G H st (Same.refl _) (.int _) h
  | str z =>
    cases d1
    exact .inr ⟨z, rfl, h.1, k _ _ G H st (Same.refl _) (.int _) h.2⟩
  | none => exact h.elim
  | bool _ => exact h.elim
  | int _ => exact h.elim
  | dict _ => exact h.elim
def fLenO : Res → (PyData → Prop) → Prop
  | .lst ds, Q => Q (.int ds.length)
  | .lstP P, Q => ∀ ds, P ds → Q (.int ds.length)
  | _, _ => False
theorem d_lenO (j : Nat) {x : Str} {p pos' : Pos} (hm : X.mg "len" = none) (hg : Gl X "len" := by rfl) (hN : X.N[j]? = some x := by rfl) (hv : Vis X.env.scope x := by first | exact Or.inl rfl | exact Or.inr (Or.inl rfl) | exact Or.inr (Or.inr rfl)) (hd : (x == ("__debug__" : Str)) = false := by decide)
    (hcd : (x == ("__classdict__" : Str)) = false := by decide) : DE X (.Call (.Name "len" p) [.Name x pos'] [] pos) (uOwn j fLenO) := by
  refine ⟨_, pe_callB call_len_seq hg hm boot_len (pa_cons (pe_var hN hv hd hcd) pa_nil), fun B c s G H Q R st q k => ?_⟩
  obtain ⟨w, R0, e0, q⟩ := slO_of q
  cases R0 with
  | lst ds =>
    obtain ⟨p, vs, g1, g2, g3, _⟩ := st.own e0
    refine ⟨_, g1, p, vs, rfl, .inl (SqL.of g2), ?_⟩
    rw [dpa_len g3]
    exact k _ _ c G H st (Same.refl _) (.int _) q
  | lstP P =>
    obtain ⟨ds, hP, st2⟩ := st.open_ e0
    obtain ⟨p, vs, g1, g2, g3, _⟩ := st2.own (j := j) (wo := w) (ds := ds) (by rw [List.getElem?_set_self (List.getElem?_eq_some_iff.mp e0).1])
    refine ⟨_, g1, p, vs, rfl, .inl (SqL.of g2), ?_⟩
    rw [dpa_len g3]
    exact k _ _ c G H st (Same.refl _) (.int _) (q ds hP)
  | lls _ => exact q.elim
  | gen _ => exact q.elim
  | dic _ => exact q.elim
def fAbs (xs : List PyData) (Q : PyData → Prop) : Prop := arg1 xs fun x => asI x fun i => Q (.int (if i < 0 then -i else i))
theorem d_abs (hm : X.mg "abs" = none) (ha : DA X (a :: []) tl) (hg : Gl X "abs" := by rfl) (he : starEach (a :: []) X.env = (false, eval a X.env) :: starEach [] X.env := by rfl) (hpl : (backTo pos (starEach [] X.env)).any (·.1) = false := by rfl) : DE X (.Call (.Name "abs" p) (a :: []) [] pos) (uCB fAbs tl) := by
  refine d_callB call_abs (fun B c s G H vs xs Q R st da h k => ?_) hm (by decide +kernel) ha hg (by decide) (by decide) he hpl
  unfold fAbs at h
  obtain ⟨x, rfl, h⟩ := arg1_of h
  obtain ⟨i, rfl, q⟩ := asI_of h
  obtain ⟨v, rfl, d1⟩ := dpa_1 da
  cases d1
  exact ⟨i, rfl, k _ _ G H st (Same.refl _) (.int _) q⟩

/-! ### isinstance of data -/
def tyD : PyData → Value
  | .none => .type "NoneType"
  | .bool _ => .type "bool"
  | .int _ => .type "int"
  | .str _ => .type "str"
  | .list _ => .type "list"
  | .tuple _ => .type "tuple"
  | .dict _ => .type "dict"
theorem tyX_of {K : PySem.W.Frag} {G H : Hp} (e : Same G H) : ∀ {v : V} {x : PyData}, Dp K G v x → TyX K H v (tyD x) := by
  intro v x h
  cases h with
  | non => exact .base .non
  | bl b => exact .base (.bl b)
  | int i => exact .base (.int i)
  | str z => exact .base (.str z)
  | lst hs _ =>
    rcases hs with (h | ⟨o, h⟩) | ⟨o, its, n, h1, h2, _⟩
    · exact .base (.lst (e _ _ h))
    · exact .base (.frz (e _ _ h))
    · exact .kList h1 h2
  | tup hs _ =>
    rcases hs with (h | ⟨o, h⟩) | ⟨o, its, n, h1, h2, _⟩
    · exact .base (.tup (e _ _ h))
    · exact .fTuple (e _ _ h)
    · exact .kTuple h1 h2
/-- whether data is of a built-in class -/
def isIntD : PyData → Bool
  | .int _ => true
  | .bool _ => true
  | _ => false
def isBoolD : PyData → Bool
  | .bool _ => true
  | _ => false
def isStrD : PyData → Bool
  | .str _ => true
  | _ => false
def isListD : PyData → Bool
  | .list _ => true
  | _ => false
def isTupD : PyData → Bool
  | .tuple _ => true
  | _ => false
section
variable {b : Bool} {i : Int} {z : Str} {ds : List PyData}
theorem isI_n : isIntD .none = false := id rfl
theorem isI_b : isIntD (.bool b) = true := id rfl
theorem isI_i : isIntD (.int i) = true := id rfl
theorem isI_s : isIntD (.str z) = false := id rfl
theorem isI_l : isIntD (.list ds) = false := id rfl
theorem isI_t : isIntD (.tuple ds) = false := id rfl
theorem isB_n : isBoolD .none = false := id rfl
theorem isB_b : isBoolD (.bool b) = true := id rfl
theorem isB_i : isBoolD (.int i) = false := id rfl
theorem isB_s : isBoolD (.str z) = false := id rfl
theorem isB_l : isBoolD (.list ds) = false := id rfl
theorem isB_t : isBoolD (.tuple ds) = false := id rfl
theorem isS_n : isStrD .none = false := id rfl
theorem isS_b : isStrD (.bool b) = false := id rfl
theorem isS_i : isStrD (.int i) = false := id rfl
theorem isS_s : isStrD (.str z) = true := id rfl
theorem isS_l : isStrD (.list ds) = false := id rfl
theorem isS_t : isStrD (.tuple ds) = false := id rfl
theorem isL_n : isListD .none = false := id rfl
theorem isL_b : isListD (.bool b) = false := id rfl
theorem isL_i : isListD (.int i) = false := id rfl
theorem isL_s : isListD (.str z) = false := id rfl
theorem isL_l : isListD (.list ds) = true := id rfl
theorem isL_t : isListD (.tuple ds) = false := id rfl
theorem isT_n : isTupD .none = false := id rfl
theorem isT_b : isTupD (.bool b) = false := id rfl
theorem isT_i : isTupD (.int i) = false := id rfl
theorem isT_s : isTupD (.str z) = false := id rfl
theorem isT_l : isTupD (.list ds) = false := id rfl
theorem isT_t : isTupD (.tuple ds) = true := id rfl
theorem isN_n : isNo .none = true := id rfl
theorem isN_b : isNo (.bool b) = false := id rfl
theorem isN_i : isNo (.int i) = false := id rfl
theorem isN_s : isNo (.str z) = false := id rfl
theorem isN_l : isNo (.list ds) = false := id rfl
theorem isN_t : isNo (.tuple ds) = false := id rfl
end
theorem d_isi {p2 : Pos} {T : Str} {n : String} (hm : X.mg "isinstance" = none) (hT : X.mg T = none) (hv : bootBuiltins T = some (.type n)) (ha : DE X a ta) {fi : PyData → Bool} (hk : ∀ x : PyData, (∀ kv, x ≠ .dict kv) → PySem.W.kitOne X.K (tyD x) (.type n) = some (fi x)) (hg : Gl X "isinstance" := by rfl) (hg2 : Gl X T := by rfl)
    (h1 : T ≠ "__name__" := by decide) (h2 : (T == ("__debug__" : Str)) = false := by decide) (he : starEach (a :: [.Name T p2]) X.env = (false, eval a X.env) :: starEach [.Name T p2] X.env := by rfl) (hpl : (backTo pos (starEach [.Name T p2] X.env)).any (·.1) = false := by rfl) :
    DE X (.Call (.Name "isinstance" p) [a, .Name T p2] [] pos) (fun c Q => ta c fun x c1 => Q (.bool (fi x)) c1) := by
  obtain ⟨tea, pa, va⟩ := ha.ex
  refine ⟨_, pe_callB call_isi hg hm (by decide +kernel) (pa_cons pa (pa_cons (pe_bltn (v := .ty n) hg2 hT hv rfl h1 h2) pa_nil) he) (by decide) (by decide) he hpl, fun B c s G H Q R st q k => va B c s G H _ _ st q fun v x c1 G1 H1 st1 e1 d1 q1 => ?_⟩
  refine ⟨v, .ty n, tyD x, .type n, fi x, rfl, .ty n, tyX_of st1.sub d1, hk x (fun kv z => by subst z; cases d1), k _ _ c1 G1 H1 st1 e1 (.bl _) q1⟩
end
end Dl

/-! Statements and defs over data. -/
namespace Dl
open PySem PySem.Spec PyProof.Rows L2

/-- what is wanted behind a statement -/
structure De where
  nx : Ctx → Prop
  rt : S → Ctx → Prop
  bk : Ctx → Prop := fun _ => False
  ct : Ctx → Prop := fun _ => False
abbrev TSd := De → Ctx → Prop
structure Conn (K : PySem.W.Frag) (B : Base) (G : Hp) (D : Ends) (E : De) : Prop where
  nx : ∀ c s G' H', Stt K B c s G' H' → Same G G' → E.nx c → D.nx s H'
  rt : ∀ r c v s G' H', Stt K B (r :: c) (some v :: s) G' H' → Same G G' → E.rt r c → D.rt v H'
  bk : ∀ c s G' H', Stt K B c s G' H' → Same G G' → E.bk c → D.bk s H'
  ct : ∀ c s G' H', Stt K B c s G' H' → Same G G' → E.ct c → D.ct s H'
theorem Conn.mono {K : PySem.W.Frag} {B : Base} {G G1 : Hp} {D : Ends} {E : De} (h : Conn K B G D E) (e : Same G G1) : Conn K B G1 D E :=
  ⟨fun c s G' H' st e' q => h.nx c s G' H' st (e.trans e') q, fun r c v s G' H' st e' q => h.rt r c v s G' H' st (e.trans e') q, fun c s G' H' st e' q => h.bk c s G' H' st (e.trans e') q, fun c s G' H' st e' q => h.ct c s G' H' st (e.trans e') q⟩
def DSv (K : PySem.W.Frag) (ts : TS) (t : TSd) : Prop := ∀ (B : Base) (c : Ctx) (s : L2.St) (G H : Hp) (D : Ends) (E : De), Stt K B c s G H → Conn K B G D E → t E c → ts D s H
structure DS (X : Cx) (st : Stmt) (t : TSd) : Prop where
  ex : ∃ ts, PS X st ts ∧ DSv X.K ts t
structure DSs (X : Cx) (st : List Stmt) (t : TSd) : Prop where
  ex : ∃ ts, PSs X st ts ∧ DSv X.K ts t

section
variable {X : Cx} {st : Stmt} {rest : List Stmt} {t u : TSd} {e : Expr} {te : TD} {to : TR} {tb : TB} {pos : Pos}
def zNext : TSd := fun E c => E.nx c
def zSeq (t u : TSd) : TSd := fun E c => t { E with nx := u E } c
theorem q_nil : DSs X [] zNext := ⟨_, pss_nil, fun B c s G H D E st k q => k.nx c s G H st (Same.refl _) q⟩
theorem q_one (h : DS X st t) : DSs X [st] t := let ⟨ts, p, v⟩ := h.ex; ⟨ts, pss_one p, v⟩
theorem q_cons (h : DS X st t) (h2 : DSs X rest u) : DSs X (st :: rest) (zSeq t u) := by
  obtain ⟨ts, p, v⟩ := h.ex
  obtain ⟨us, p2, v2⟩ := h2.ex
  refine ⟨_, pss_cons p p2, fun B c s G H D E st k q => v B c s G H { D with nx := us D } { E with nx := u E } st ⟨fun c1 s1 G1 H1 st1 e1 q1 => ?_, k.rt, k.bk, k.ct⟩ q⟩
  exact v2 B c1 s1 G1 H1 D E st1 (k.mono e1) q1
/-- a statement whose ways come together behind it -/
def zCut (t u : TSd) : TSd := fun E c => ∃ M : Ctx → Prop, t { E with nx := M } c ∧ ∀ c', M c' → u E c'
theorem q_cut (h : DS X st t) (h2 : DSs X rest u) : DSs X (st :: rest) (zCut t u) := by
  obtain ⟨ts, p, v⟩ := h.ex
  obtain ⟨us, p2, v2⟩ := h2.ex
  refine ⟨_, pss_cons p p2, fun B c s G H D E st k q => ?_⟩
  obtain ⟨M, q1, q2⟩ := q
  refine v B c s G H { D with nx := us D } { E with nx := M } st ⟨fun c1 s1 G1 H1 st1 e1 m => ?_, k.rt, k.bk, k.ct⟩ q1
  exact v2 B c1 s1 G1 H1 D E st1 (k.mono e1) (q2 c1 m)
theorem s_pass : DS X (.Pass pos) zNext := ⟨_, ps_pass, fun B c s G H D E st k q => k.nx c s G H st (Same.refl _) q⟩
theorem s_break : DS X (.Break pos) (fun E c => E.bk c) := ⟨_, ps_break, fun B c s G H D E st k q => k.bk c s G H st (Same.refl _) q⟩
theorem s_continue : DS X (.Continue pos) (fun E c => E.ct c) := ⟨_, ps_continue, fun B c s G H D E st k q => k.ct c s G H st (Same.refl _) q⟩
theorem s_never : DS X st (fun _ _ => False) := ⟨_, ps_never, fun B c s G H D E st k q => q⟩
theorem q_never : DSs X rest (fun _ _ => False) := ⟨_, pss_never, fun B c s G H D E st k q => q⟩
/-- x = e -/
def zSet (j : Nat) (te : TD) : TSd := fun E c => te c fun x c1 => E.nx (c1.set j (.d x))
theorem s_set {j : Nat} {x : Str} {pos' : Pos} (hN : X.N.Nodup) (he : DE X e te) (hi : X.N[j]? = some x := by rfl) (hx : Loc X.env.scope x := by first | exact Or.inl rfl | exact Or.inr rfl) (hs : swapsWith e (some (.Name x pos')) pos.line X.env = pure false := by rfl) (hf : X.fn x = true ∨ X.env.scope.names.lookup x = some .local := by first | exact .inl rfl | exact .inr rfl | assumption) :
    DS X (.Assign [.Name x pos'] e pos) (zSet j te) := by
  obtain ⟨tp, p, v⟩ := he.ex
  refine ⟨_, ps_set hN hi hx p hs hf, fun B c s G H D E st k q => v B c s G H _ _ st q fun w y c1 G1 H1 st1 e1 d1 q1 => ?_⟩
  exact k.nx _ _ G1 H1 (st1.set_d j d1) e1 q1
/-- x = a new owned thing -/
def zSetO (j : Nat) (te : TR) : TSd := fun E c => te c fun R c1 => E.nx (c1.set j (.o none R))
theorem s_setO {j : Nat} {x : Str} {pos' : Pos} (hN : X.N.Nodup) (he : DO X e to) (hi : X.N[j]? = some x := by rfl) (hx : Loc X.env.scope x := by first | exact Or.inl rfl | exact Or.inr rfl) (hs : swapsWith e (some (.Name x pos')) pos.line X.env = pure false := by rfl) (hf : X.fn x = true ∨ X.env.scope.names.lookup x = some .local := by first | exact .inl rfl | exact .inr rfl | assumption) :
    DS X (.Assign [.Name x pos'] e pos) (zSetO j to) := by
  obtain ⟨tp, p, v⟩ := he.ex
  refine ⟨_, ps_set hN hi hx p hs hf, fun B c s G H D E st k q => v B c s G H _ _ st q fun w y c1 G1 H1 st1 e1 q1 => ?_⟩
  exact k.nx _ _ G1 H1 (st1.set_o j) e1 q1
def zDrop (te : TD) : TSd := fun E c => te c fun _ c1 => E.nx c1
theorem s_expr (he : DE X e te) (hs : swapsWith e none pos.line X.env = pure false := by rfl) : DS X (.Expr e pos) (zDrop te) := by
  obtain ⟨tp, p, v⟩ := he.ex
  refine ⟨_, ps_expr p hs, fun B c s G H D E st k q => v B c s G H _ _ st q fun w y c1 G1 H1 st1 e1 d1 q1 => ?_⟩
  exact k.nx _ _ G1 H1 st1 e1 q1
def zRet (te : TD) : TSd := fun E c => te c fun x c1 => E.rt (.d x) c1
theorem s_ret (he : DE X e te) : DS X (.Return (some e) pos) (zRet te) := by
  obtain ⟨tp, p, v⟩ := he.ex
  refine ⟨_, ps_ret p, fun B c s G H D E st k q => v B c s G H _ _ st q fun w y c1 G1 H1 st1 e1 d1 q1 => ?_⟩
  exact k.rt _ _ _ _ G1 H1 (st1.push_d d1) e1 q1
def zRetO (te : TR) : TSd := fun E c => te c fun R c1 => E.rt (.o none R) c1
theorem s_retO (he : DO X e to) : DS X (.Return (some e) pos) (zRetO to) := by
  obtain ⟨tp, p, v⟩ := he.ex
  refine ⟨_, ps_ret p, fun B c s G H D E st k q => v B c s G H _ _ st q fun w y c1 G1 H1 st1 e1 q1 => ?_⟩
  exact k.rt _ _ _ _ G1 H1 st1 e1 q1
/-- .. of which a fact is kept alone -/
def zRetP (te : TR) (P : List PyData → Prop) : TSd := fun E c => te c fun R c1 => asR R fun ds => P ds ∧ E.rt (.o none (.lstP P)) c1
theorem s_retP (P : List PyData → Prop) (he : DO X e to) : DS X (.Return (some e) pos) (zRetP to P) := by
  obtain ⟨tp, p, v⟩ := he.ex
  refine ⟨_, ps_ret p, fun B c s G H D E st k q => v B c s G H _ _ st q fun w y c1 G1 H1 st1 e1 q1 => ?_⟩
  obtain ⟨ds, rfl, hP, q2⟩ := asR_of q1
  have st2 := st1.shut (j := 0) rfl hP
  exact k.rt _ _ _ _ G1 H1 st2 e1 q2
def zRetN : TSd := fun E c => E.rt (.d .none) c
theorem s_retN : DS X (.Return none pos) zRetN := ⟨_, ps_retN, fun B c s G H D E st k q => k.rt _ _ _ _ G H (st.push_d .non) (Same.refl _) q⟩
/-- return of the owned thing in slot j -/
theorem Stt.take_o {K : PySem.W.Frag} {B : Base} {c : Ctx} {s : L2.St} {G H : Hp} (st : Stt K B c s G H) {j : Nat} {R : Res} (e : c[j]? = some (.o none R)) : ∃ v, s[j]? = some (some v) ∧ Stt K B (.o none R :: c.set j .no) (some v :: s) G H := by
  obtain ⟨A, r, w⟩ := st.ex
  have key : ∀ {c : Ctx} {s : L2.St} {A : List Addr}, Reps K B G H c s A → ∀ {j : Nat}, A.Nodup → c[j]? = some (.o none R) → ∃ v A1 A2, s[j]? = some (some v) ∧ R.P K G H v A1 ∧ WOk B none v A1 ∧ Reps K B G H (c.set j .no) s A2 ∧ (A1 ++ A2).Nodup ∧ ∀ a ∈ A1 ++ A2, a ∈ A := by
    intro c s A r
    induction r with
    | nil => intro j nd e; simp at e
    | no r ih =>
      intro j nd e
      cases j with
      | zero => simp at e
      | succ j =>
        obtain ⟨v, A1, A2, h1, h2, h3, h4, h5, h6⟩ := ih nd (by simpa using e)
        exact ⟨v, A1, A2, by simpa using h1, h2, h3, .no h4, h5, h6⟩
    | d hd r ih =>
      intro j nd e
      cases j with
      | zero => simp at e
      | succ j =>
        obtain ⟨v, A1, A2, h1, h2, h3, h4, h5, h6⟩ := ih nd (by simpa using e)
        exact ⟨v, A1, A2, by simpa using h1, h2, h3, .d hd h4, h5, h6⟩
    | f hd r ih =>
      intro j nd e
      cases j with
      | zero => simp at e
      | succ j =>
        obtain ⟨v, A1, A2, h1, h2, h3, h4, h5, h6⟩ := ih nd (by simpa using e)
        exact ⟨v, A1, A2, by simpa using h1, h2, h3, .f hd h4, h5, h6⟩
    | @o w2 v2 R2 c2 s2 Ah At ho hw2 r ih =>
      intro j nd e
      obtain ⟨n1, n2, n3⟩ := List.nodup_append.mp nd
      cases j with
      | zero =>
        have e' : S.o w2 R2 = S.o none R := by simpa using e
        cases e'
        exact ⟨v2, Ah, At, rfl, ho, hw2, .no r, nd, fun a ha => ha⟩
      | succ j =>
        obtain ⟨v, A1, A2, h1, h2, h3, h4, h5, h6⟩ := ih n2 (by simpa using e)
        refine ⟨v, A1, Ah ++ A2, by simpa using h1, h2, h3, .o ho hw2 h4, ?_, fun a ha => ?_⟩
        · obtain ⟨m1, m2, m3⟩ := List.nodup_append.mp h5
          refine List.nodup_append.mpr ⟨m1, List.nodup_append.mpr ⟨n1, m2, fun a ha b hb z => n3 a ha b (h6 b (List.mem_append_right _ hb)) z⟩, fun a ha b hb z => ?_⟩
          rcases List.mem_append.mp hb with y | y
          · exact n3 b y a (h6 a (List.mem_append_left _ ha)) z.symm
          · exact m3 a ha b y z
        · rcases List.mem_append.mp ha with y | y
          · exact List.mem_append_right _ (h6 a (List.mem_append_left _ y))
          · rcases List.mem_append.mp y with y | y
            · exact List.mem_append_left _ y
            · exact List.mem_append_right _ (h6 a (List.mem_append_right _ y))
  obtain ⟨v, A1, A2, h1, h2, h3, h4, h5, h6⟩ := key r w.nd e
  exact ⟨v, h1, ⟨A1 ++ A2, .o h2 h3 h4, w.sub, h5, fun a ha => w.out a (h6 a ha), w.old, w.stay, w.dom, w.newG, fun a ha => w.lim a (h6 a ha)⟩⟩
/-- the name of an owned thing made here, given away -/
def oVar (j : Nat) : TR := fun c Q => slO c j fun w R => w = none ∧ Q R (c.set j .no)
theorem o_var (j : Nat) {x : Str} (hN : X.N[j]? = some x := by rfl) (hv : Vis X.env.scope x := by first | exact Or.inl rfl | exact Or.inr (Or.inl rfl) | exact Or.inr (Or.inr rfl)) (hd : (x == ("__debug__" : Str)) = false := by decide)
    (hcd : (x == ("__classdict__" : Str)) = false := by decide) : DO X (.Name x pos) (oVar j) := by
  refine ⟨_, pe_var hN hv hd hcd, fun B c s G H Q R st h k => ?_⟩
  obtain ⟨w0, R0, e, hw, q⟩ := slO_of h
  subst hw
  obtain ⟨v, e1, st2⟩ := st.take_o e
  exact ⟨v, e1, k v R0 _ G H st2 (Same.refl _) q⟩
def zIf (tc : TB) (t u : TSd) : TSd := fun E c => tc c fun b c1 => if b = true then t E c1 else u E c1
theorem s_if {a b : List Stmt} (hc : DT X e tb) (ha : DSs X a t) (hb : DSs X b u) : DS X (.If e a b pos) (zIf tb t u) := by
  obtain ⟨tp, p, v⟩ := hc.ex
  obtain ⟨t1, p1, v1⟩ := ha.ex
  obtain ⟨t2, p2, v2⟩ := hb.ex
  refine ⟨_, ps_if p p1 p2, fun B c s G H D E st k q => v B c s G H _ _ st q fun b c1 G1 H1 st1 e1 q1 => ?_⟩
  cases b with
  | true =>
    rw [if_pos rfl] at q1 ⊢
    exact v1 B c1 s G1 H1 D E st1 (k.mono e1) q1
  | false =>
    rw [if_neg Bool.false_ne_true] at q1 ⊢
    exact v2 B c1 s G1 H1 D E st1 (k.mono e1) q1
/-- a, b = x, y -/
def zPar (i j : Nat) (ta : TL) : TSd := fun E c => ta c fun xs c1 => arg2 xs fun x y => E.nx ((c1.set i (.d x)).set j (.d y))
theorem s_par {i j : Nat} {x y : Str} {a b : Expr} {ta : TL} {px py pt : Pos} {kt k2 pt2} (hc : X.calm = true) (hN : X.N.Nodup) (ha : DA X [a, b] ta)
    (hw : swappedStores [.Tuple [.Name x px, .Name y py] kt pt] (.Tuple [a, b] k2 pt2) X.env = pure (some [x, y])) (hi : X.N[i]? = some x := by rfl) (hj : X.N[j]? = some y := by rfl) (hij : i ≠ j := by decide)
    (hx : X.env.scope.names.lookup x = some .local := by rfl) (hy : X.env.scope.names.lookup y = some .local := by rfl)
    (hs : swapsWithSole [.Tuple [.Name x px, .Name y py] kt pt] (.Tuple [a, b] k2 pt2) pos.line X.env = pure false := by rfl) : DS X (.Assign [.Tuple [.Name x px, .Name y py] kt pt] (.Tuple [a, b] k2 pt2) pos) (zPar i j ta) := by
  obtain ⟨tp, p, v⟩ := ha.ex
  refine ⟨_, ps_par hc hN hi hj hij hx hy p hw hs, fun B c s G H D E st k q => v B c s G H _ _ st q fun vs xs c1 G1 H1 st1 e1 d1 q1 => ?_⟩
  obtain ⟨x1, y1, rfl, q1⟩ := arg2_of q1
  obtain ⟨v1, v2, rfl, d2, d3⟩ := dpa_2 d1
  exact ⟨v1, v2, rfl, k.nx _ _ G1 H1 ((st1.set_d i d2).set_d j d3) e1 q1⟩

/-! ### targets of data -/
abbrev TGd := PyData → Ctx → (Ctx → Prop) → Prop
/-- slots but those at js are as they were -/
def But (js : List Nat) (s s' : L2.St) : Prop := s'.length = s.length ∧ ∀ k, k ∉ js → s'[k]? = s[k]?
def DGv (K : PySem.W.Frag) (js : List Nat) (tg : TG) (t : TGd) : Prop := ∀ (B : Base) (c : Ctx) (s : L2.St) (G H : Hp) (v : V) (x : PyData) (Q : Ctx → Prop) (R : L2.St → Hp → Prop), Stt K B c s G H → Dp K G v x → t x c Q → (∀ c' s', Stt K B c' s' G H → But js s s' → Q c' → R s' H) → tg v s H R
structure DG (X : Cx) (e : Expr) (js : List Nat) (t : TGd) : Prop where
  ex : ∃ tg, PG X e tg ∧ DGv X.K js tg t
def gN (j : Nat) : TGd := fun x c Q => Q (c.set j (.d x))
theorem g_name (j : Nat) {x : Str} (hN : X.N.Nodup) (hi : X.N[j]? = some x := by rfl) (hx : Loc X.env.scope x := by first | exact Or.inl rfl | exact Or.inr rfl) (hf : X.fn x = true ∨ X.env.scope.names.lookup x = some .local := by first | exact .inl rfl | exact .inr rfl | assumption) : DG X (.Name x pos) [j] (gN j) :=
  ⟨_, pg_name hN hi hx hf, fun B c s G H v x Q R st d q k => k _ _ (st.set_d j d) ⟨List.length_set .., fun k hk => List.getElem?_set_ne (fun z => hk (by simp [z]))⟩ q⟩
abbrev TGsd := List PyData → Ctx → (Ctx → Prop) → Prop
def DGsv (K : PySem.W.Frag) (js : List Nat) (tg : TGs) (t : TGsd) : Prop := ∀ (B : Base) (c : Ctx) (s : L2.St) (G H : Hp) (vs : List V) (xs : List PyData) (Q : Ctx → Prop) (R : L2.St → Hp → Prop), Stt K B c s G H → DpAll K G vs xs → t xs c Q → (∀ c' s', Stt K B c' s' G H → But js s s' → Q c' → R s' H) → tg vs s H R
structure DGs (X : Cx) (es : List Expr) (js : List Nat) (t : TGsd) : Prop where
  ex : ∃ tg, PGs X es tg ∧ DGsv X.K js tg t
def gsNil : TGsd := fun xs c Q => xs = [] ∧ Q c
def asC (xs : List PyData) (Q : PyData → List PyData → Prop) : Prop := match xs with
  | x :: r => Q x r
  | [] => False
theorem asC_c {x : PyData} {r : List PyData} {Q : PyData → List PyData → Prop} : asC (x :: r) Q = Q x r := id rfl
theorem asC_of {xs : List PyData} {Q : PyData → List PyData → Prop} (h : asC xs Q) : ∃ x r, xs = x :: r ∧ Q x r := by
  cases xs with
  | nil => exact False.elim h
  | cons x r => exact ⟨x, r, rfl, h⟩
def gsCons (t : TGd) (u : TGsd) : TGsd := fun xs c Q => asC xs fun x r => t x c fun c1 => u r c1 Q
theorem gs_nil : DGs X [] [] gsNil := ⟨_, pgs_nil, fun B c s G H vs xs Q R st d q k => by
  obtain ⟨rfl, q⟩ := q
  cases d
  exact ⟨rfl, k _ _ st ⟨rfl, fun _ _ => rfl⟩ q⟩⟩
theorem gs_cons {es : List Expr} {t : TGd} {u : TGsd} {js ks : List Nat} (h : DG X e js t) (h2 : DGs X es ks u) (hs : (assignEach (e :: es) X.env).map (·.2) = assign e X.env :: (assignEach es X.env).map (·.2) := by rfl) : DGs X (e :: es) (js ++ ks) (gsCons t u) := by
  obtain ⟨tg, p, v⟩ := h.ex
  obtain ⟨tg2, p2, v2⟩ := h2.ex
  refine ⟨_, pgs_cons p p2 hs, fun B c s G H vs xs Q R st d q k => ?_⟩
  obtain ⟨x, r, rfl, q⟩ := asC_of q
  cases d with
  | cons d1 d2 => exact ⟨_, _, rfl, v B c s G H _ x _ _ st d1 q fun c1 s1 st1 b1 q1 => v2 B c1 s1 G H _ r Q R st1 d2 q1 fun c2 s2 st2 b2 q2 => k c2 s2 st2 ⟨b2.1.trans b1.1, fun i hi => (b2.2 i fun z => hi (List.mem_append_right _ z)).trans (b1.2 i fun z => hi (List.mem_append_left _ z))⟩ q2⟩
def gT (n : Nat) (t : TGsd) : TGd := fun x c Q => asT x fun xs => xs.length = n ∧ t xs c Q
theorem g_tup {es : List Expr} {k : Nat} {t : TGsd} {n : Nat} {js : List Nat} (hc : X.calm = true) (h : DGs X es js t) (hn : (assignEach es X.env).length = n := by rfl) (hst : (assignEach es X.env).findIdx? (·.1) = none := by rfl) : DG X (.Tuple es k pos) js (gT n t) := by
  obtain ⟨tg, p, v⟩ := h.ex
  refine ⟨_, pg_tup hc p hn hst, fun B c s G H w x Q R st d q k => ?_⟩
  obtain ⟨xs, rfl, hl, q⟩ := asT_of q
  obtain ⟨a, vs, rfl, h1, h2⟩ := dp_tup d
  exact ⟨a, vs, rfl, same_t st.sub h1, by rw [dpa_len h2]; exact hl, v B c s G H vs xs Q R st h2 q k⟩
/-- a, b = e -/
def zAsg (te : TD) (t : TGd) : TSd := fun E c => te c fun x c1 => t x c1 E.nx
theorem s_asg {tg : Expr} {t : TGd} {js : List Nat} (he : DE X e te) (hg : DG X tg js t) (hs : swapsWithSole [tg] e pos.line X.env = pure false := by rfl) (hw : swappedStores [tg] e X.env = pure none := by rfl)
    (h1 : (assignEach [tg] X.env).map (·.2) = [assign tg X.env] := by rfl) : DS X (.Assign [tg] e pos) (zAsg te t) := by
  obtain ⟨tp, p, v⟩ := he.ex
  obtain ⟨tq, p2, v2⟩ := hg.ex
  refine ⟨_, ps_asg p p2 hs hw h1, fun B c s G H D E st k q => v B c s G H _ _ st q fun w y c1 G1 H1 st1 e1 d1 q1 => ?_⟩
  exact v2 B c1 s G1 H1 w y _ _ st1 d1 q1 fun c2 s2 st2 _ q2 => k.nx c2 s2 G1 H1 st2 e1 q2
/-- xs[i] = e, xs an owned list in slot j -/
def zPut (j : Nat) (te ti : TD) : TSd := fun E c => te c fun x c1 => slO c1 j fun _ _ => ti c1 fun y c2 => slO c2 j fun w R => asR R fun ds => asI y fun i => ixP ds.length i fun n => E.nx (c2.set j (.o w (.lst (ds.set n x))))
theorem s_put (j : Nat) {x : Str} {i : Expr} {ti : TD} {pos' pos'' : Pos} (he : DE X e te) (hi : DE X i ti) (hN : X.N[j]? = some x := by rfl) (hv : Vis X.env.scope x := by first | exact Or.inl rfl | exact Or.inr (Or.inl rfl) | exact Or.inr (Or.inr rfl)) (hd : (x == ("__debug__" : Str)) = false := by decide)
    (hcd : (x == ("__classdict__" : Str)) = false := by decide)
    (ha : ∀ v, assign (.Subscript (.Name x pos') i pos'') X.env v = (do
      let ov ← holding [v] (eval (.Name x pos') X.env)
      let iv ← holding [v, ov] (eval i X.env)
      standAt pos''
      holding [v, ov, iv] (setItem ov iv v)
      release [v, ov, iv] []) := by intro _; rfl)
    (hs : swapsWithSole [.Subscript (.Name x pos') i pos''] e pos.line X.env = pure false := by rfl) (hw : swappedStores [.Subscript (.Name x pos') i pos''] e X.env = pure none := by rfl)
    (h1 : (assignEach [.Subscript (.Name x pos') i pos''] X.env).map (·.2) = [assign (.Subscript (.Name x pos') i pos'') X.env] := by rfl) : DS X (.Assign [.Subscript (.Name x pos') i pos''] e pos) (zPut j te ti) := by
  obtain ⟨tp, p, v⟩ := he.ex
  obtain ⟨tq, p2, v2⟩ := hi.ex
  refine ⟨_, ps_asg p (pg_sub (pe_var hN hv hd hcd) p2 set_list ha) hs hw h1, fun B c s G H D E st k q => v B c s G H _ _ st q fun w y c1 G1 H1 st1 e1 d1 q1 => ?_⟩
  obtain ⟨w0, R0, g0, q1⟩ := slO_of q1
  obtain ⟨u, hu⟩ := st1.own_at g0
  refine ⟨u, hu, v2 B c1 s G1 H1 _ _ st1 q1 fun iv z c2 G2 H2 st2 e2 d2 q2 => ?_⟩
  obtain ⟨w1, R1, g1, q2⟩ := slO_of q2
  obtain ⟨ds, rfl, q2⟩ := asR_of q2
  obtain ⟨i, rfl, q2⟩ := asI_of q2
  obtain ⟨n, g2, q3⟩ := q2
  obtain ⟨a, vs, g3, g4, g5, g6⟩ := st2.own g1
  rw [hu] at g3
  cases g3
  refine ⟨a, vs, i, n, rfl, dp_int d2, g4, by rw [dpa_len g5]; exact g2, ?_⟩
  exact k.nx _ _ G2 _ (g6 _ _ (dpa_set g5 (dp_mono e2 _ _ d1))) (e1.trans e2) q3

/-! ### loops -/
/-- what an iterable yields: the data ys -/
def ItOk (K : PySem.W.Frag) (G : Hp) (J : It) (ys : List PyData) : Prop := ∀ (B : Base) (c : Ctx) (s : L2.St) (G' H' : Hp), Stt K B c s G' H' → Same G G' → ∀ i : Nat,
  (ys.length ≤ i → J.stop i H') ∧ (i < ys.length → J.go i H' ∧ ∀ x H2, J.yld i H' x H2 → ∃ G2 y, ys[i]? = some y ∧ Stt K B c s G2 H2 ∧ Same G' G2 ∧ Dp K G2 x y)
def DIv (K : PySem.W.Frag) (wi : TI) (t : TL) : Prop := ∀ (B : Base) (c : Ctx) (s : L2.St) (G H : Hp) (Q : List PyData → Ctx → Prop) (R : It → Hp → Prop), Stt K B c s G H → t c Q →
  (∀ J ys c' G' H', Stt K B c' s G' H' → Same G G' → ItOk K G' J ys → Q ys c' → R J H') → wi s H R
structure DI (X : Cx) (tg iter : Expr) (t : TL) : Prop where
  ex : ∃ wi, PI X tg iter wi ∧ DIv X.K wi t
variable {tg : Expr} {ti : TL}
def signs (z : Str) : List PyData := z.cps.toList.map fun (n : Nat) => .str ⟨#[n]⟩
def asQ (x : PyData) (Q : List PyData → Prop) : Prop := match x with
  | .list ds => Q ds
  | .tuple ds => Q ds
  | .str z => Q (signs z)
  | _ => False
theorem asQ_l {ds : List PyData} {Q : List PyData → Prop} : asQ (.list ds) Q = Q ds := id rfl
theorem asQ_t {ds : List PyData} {Q : List PyData → Prop} : asQ (.tuple ds) Q = Q ds := id rfl
theorem asQ_s {z : Str} {Q : List PyData → Prop} : asQ (.str z) Q = Q (signs z) := id rfl
def iSeq (te : TD) : TL := fun c Q => te c fun x c1 => asQ x fun ds => Q ds c1
/-- lists, tuples, texts -/
theorem i_seq (he : DE X e te) : DI X tg e (iSeq te) := by
  obtain ⟨tp, p, v⟩ := he.ex
  refine ⟨_, PI.mk fun pins st s H R I (h : tp s H fun x H1 => (∃ a, x = .ref a ∧ (∃ xs, SqL X.K H1 a xs) ∧ R (Itl X.K a) H1) ∨ (∃ a, x = .ref a ∧ (∃ xs, SqT X.K H1 a xs) ∧ R (Itt X.K a) H1) ∨ ∃ z, x = .str z ∧ R (Its z) H1) => ?_, fun B c s G H Q R st q k => v B c s G H _ _ st q fun w y c1 G1 H1 st1 e1 d1 q1 => ?_⟩
  · refine thn (p.run pins st s H _ I h) fun u s1 ⟨x, H1, I1, r1, q1⟩ => ?_
    rcases q1 with ⟨a, rfl, ⟨xs, hq⟩, q⟩ | ⟨a, rfl, ⟨xs, hq⟩, q⟩ | ⟨z, rfl, q⟩
    · cases r1
      obtain ⟨its, rv, pl, hz⟩ := I1.list hq
      refine wpAny_pyIter_list pl.isList ?_
      refine ⟨s1.heap.objs.size, [s1.heap.objs.size], _, _, H1, rfl, I1.kept (t' := s1.toks) fun b o e => Heap.get?_push_of_some _ e, turn_list a _, ⟨_, Heap.get?_push_size _ rfl, rfl, rfl⟩, fun b hb => ?_, q⟩
      obtain rfl : b = s1.heap.objs.size := by simpa using hb
      exact I1.fpOk (Nat.le_refl _) (I1.hok.fresh (Nat.le_refl _))
    · cases r1
      obtain ⟨its, rv, pl, hz⟩ := I1.tuple hq
      refine wpAny_pyIter_tuple (show s1.heap.IsTuple a its.toArray from pl) ?_
      refine ⟨s1.heap.objs.size, [s1.heap.objs.size], _, _, H1, rfl, I1.kept (t' := s1.toks) fun b o e => Heap.get?_push_of_some _ e, turn_tuple a _, ⟨_, Heap.get?_push_size _ rfl, rfl, rfl⟩, fun b hb => ?_, q⟩
      obtain rfl : b = s1.heap.objs.size := by simpa using hb
      exact I1.fpOk (Nat.le_refl _) (I1.hok.fresh (Nat.le_refl _))
    · obtain ⟨t, rfl⟩ := r1
      cases ha : z.cps.all (· < 128)
      · exact wpAny_pyIter_wide ha (pi_one (tk := s1.toks) I1 _ (turn_str _ z t "str_iterator" (.inr rfl)) ⟨_, Heap.get?_push_size _ rfl, rfl, rfl⟩ q)
      · exact wpAny_pyIter_ascii ha (pi_one (tk := s1.toks) I1 _ (turn_str _ z t "str_ascii_iterator" (.inl rfl)) ⟨_, Heap.get?_push_size _ rfl, rfl, rfl⟩ q)
  · cases y with
    | list ds =>
      obtain ⟨a, vs, rfl, h1, h2⟩ := dp_lst d1
      refine .inl ⟨a, rfl, ⟨vs, Same.seq st1.sub h1⟩, k (Itl X.K a) ds c1 G1 H1 st1 e1 (fun B' c' s' G' H' st' e' i => ⟨fun hi => ⟨vs, Same.seq st'.sub (Same.seq e' h1), by rw [dpa_len h2]; exact hi⟩, fun hi => ?_⟩) q1⟩
      have hq : SqL X.K H' a vs := Same.seq st'.sub (Same.seq e' h1)
      obtain ⟨x, hx, dx⟩ := dpa_get h2 (List.getElem?_eq_getElem hi)
      refine ⟨⟨vs, x, hq, hx⟩, fun z H2 hy => ?_⟩
      obtain ⟨rfl, hz⟩ := hy
      have := hz vs hq
      rw [hx] at this
      cases this
      exact ⟨G', _, List.getElem?_eq_getElem hi, st', Same.refl _, dp_mono e' _ _ dx⟩
    | tuple ds =>
      obtain ⟨a, vs, rfl, h1, h2⟩ := dp_tup d1
      refine .inr (.inl ⟨a, rfl, ⟨vs, same_t st1.sub h1⟩, k (Itt X.K a) ds c1 G1 H1 st1 e1 (fun B' c' s' G' H' st' e' i => ⟨fun hi => ⟨vs, same_t st'.sub (same_t e' h1), by rw [dpa_len h2]; exact hi⟩, fun hi => ?_⟩) q1⟩)
      have hq : SqT X.K H' a vs := same_t st'.sub (same_t e' h1)
      obtain ⟨x, hx, dx⟩ := dpa_get h2 (List.getElem?_eq_getElem hi)
      refine ⟨⟨vs, x, hq, hx⟩, fun z H2 hy => ?_⟩
      obtain ⟨rfl, hz⟩ := hy
      have := hz vs hq
      rw [hx] at this
      cases this
      exact ⟨G', _, List.getElem?_eq_getElem hi, st', Same.refl _, dp_mono e' _ _ dx⟩
    | str z =>
      cases d1
      refine .inr (.inr ⟨z, rfl, k (Its z) (signs z) c1 G1 H1 st1 e1 (fun B' c' s' G' H' st' e' i => ?_) q1⟩)
      have hl : (signs z).length = z.cps.size := by simp [signs]
      rw [hl]
      refine ⟨fun hi => hi, fun hi => ⟨hi, fun x H2 hy => ?_⟩⟩
      obtain ⟨rfl, n, hn, rfl⟩ := hy
      refine ⟨G', _, ?_, st', Same.refl _, .str _⟩
      have hn' : z.cps.toList[i]? = some n := by rw [Array.getElem?_toList]; exact hn
      rw [signs, List.getElem?_map, hn']
      rfl
    | none => exact q1.elim
    | bool _ => exact q1.elim
    | int _ => exact q1.elim
    | dict _ => exact q1.elim
/-- lo, lo + 1, .. -/
def rngD (lo : Int) (n : Nat) : List PyData := (List.range n).map fun (k : Nat) => .int (lo + (k : Int))
theorem rngD_len (lo : Int) (n : Nat) : (rngD lo n).length = n := by simp [rngD]
theorem it_rng {K : PySem.W.Frag} {G : Hp} (lo : Int) (n : Nat) : ItOk K G (Itr lo n) (rngD lo n) := fun _ c s G' H' st e i => by
  rw [rngD_len]
  refine ⟨fun hi => hi, fun hi => ⟨hi, fun x H2 hy => ?_⟩⟩
  obtain ⟨rfl, rfl⟩ := hy
  refine ⟨G', _, ?_, st, Same.refl _, .int (lo + i)⟩
  simp [rngD, hi]
variable {a b : Expr} {ta tb2 : TD} {p : Pos}
def iR1 (ta : TD) : TL := fun c Q => ta c fun x c1 => asI x fun j => -(2 ^ 62) ≤ j ∧ j < 2 ^ 62 ∧ Q (rngD 0 j.toNat) c1
theorem i_range1 (hm : X.mg "range" = none) (ha : DE X a ta) (hg : Gl X "range" := by rfl) (he : starEach (a :: []) X.env = (false, eval a X.env) :: starEach [] X.env := by rfl) (hs : starEach [a] X.env = [(false, eval a X.env)] := by rfl) : DI X tg (.Call (.Name "range" p) [a] [] pos) (iR1 ta) := by
  obtain ⟨tp, pp, v⟩ := ha.ex
  refine ⟨_, pi_range1 hg hm (pa_cons pp pa_nil he) hs, fun B c s G H Q R st q k => v B c s G H _ _ st q fun w y c1 G1 H1 st1 e1 d1 q1 => ?_⟩
  obtain ⟨j, rfl, h1, h2, q2⟩ := asI_of q1
  cases d1
  exact ⟨j, rfl, h1, h2, k _ _ c1 G1 H1 st1 e1 (it_rng 0 j.toNat) q2⟩
def iR2 (ta tb : TD) : TL := fun c Q => ta c fun x c1 => tb c1 fun y c2 => asI x fun i => asI y fun j => -(2 ^ 62) ≤ i ∧ i < 2 ^ 62 ∧ -(2 ^ 62) ≤ j ∧ j < 2 ^ 62 ∧ Q (rngD i (j - i).toNat) c2
theorem i_range2 (hm : X.mg "range" = none) (ha : DE X a ta) (hb : DE X b tb2) (hg : Gl X "range" := by rfl) (he : starEach (a :: [b]) X.env = (false, eval a X.env) :: starEach [b] X.env := by rfl) (he2 : starEach (b :: []) X.env = (false, eval b X.env) :: starEach [] X.env := by rfl) (hs : starEach [a, b] X.env = [(false, eval a X.env), (false, eval b X.env)] := by rfl) (hs2 : starEach [b] X.env = [(false, eval b X.env)] := by rfl) :
    DI X tg (.Call (.Name "range" p) [a, b] [] pos) (iR2 ta tb2) := by
  obtain ⟨tp, pp, v⟩ := ha.ex
  obtain ⟨tq, pq, v2⟩ := hb.ex
  refine ⟨_, pi_range2 hg hm (pa_cons pp (pa_cons pq pa_nil he2) he) hs hs2, fun B c s G H Q R st q k => v B c s G H _ _ st q fun w y c1 G1 H1 st1 e1 d1 q1 => v2 B c1 s G1 H1 _ _ st1 q1 fun w2 y2 c2 G2 H2 st2 e2 d2 q2 => ?_⟩
  obtain ⟨i, rfl, q2⟩ := asI_of q2
  obtain ⟨j, rfl, h1, h2, h3, h4, q3⟩ := asI_of (x := y2) q2
  cases d1
  cases d2
  exact ⟨i, j, rfl, ⟨h1, h2, h3, h4⟩, k _ _ c2 G2 H2 st2 (e1.trans e2) (it_rng i (j - i).toNat) q3⟩
/-- for target in iter: body -/
def zLoop (tg : TGd) (tb : TSd) (E : De) (ys : List PyData) (c1 : Ctx) : Prop := ∃ I : Nat → Ctx → Prop, I 0 c1 ∧
  (∀ i y c, ys[i]? = some y → I i c → tg y c fun c2 => tb { E with nx := I (i + 1), ct := I (i + 1), bk := E.nx } c2) ∧ ∀ c, I ys.length c → E.nx c
def zFor (ti : TL) (tg : TGd) (tb : TSd) : TSd := fun E c => ti c fun ys c1 => zLoop tg tb E ys c1
theorem s_for {iter : Expr} {body : List Stmt} {t : TGd} {tb : TSd} {js : List Nat} (hp : PassesOwn (model X.prog X.w) X.A X.env X.xe) (hc : X.calm = true) (hi : DI X tg iter ti) (hg : DG X tg js t) (hb : DSs X body tb)
    (hs : ∀ x, foldedSetIterable iter X.env x = pure x := by intro _; rfl) : DS X (.For tg iter body [] pos) (zFor ti t tb) := by
  obtain ⟨wi, pi, vi⟩ := hi.ex
  obtain ⟨g, pg, vg⟩ := hg.ex
  obtain ⟨ts, pb, vb⟩ := hb.ex
  refine ⟨_, ps_for hp hc pi pg pb hs, fun B c s G H D E st k q => vi B c s G H _ _ st q fun J ys c1 G1 H1 st1 e1 ok q1 => ?_⟩
  obtain ⟨I, i0, turn, fin⟩ := q1
  refine ⟨fun i m s' H' => m = ys.length - i ∧ i ≤ ys.length ∧ ∃ c' G', Stt X.K B c' s' G' H' ∧ Same G1 G' ∧ I i c', ⟨ys.length, rfl, Nat.zero_le _, c1, G1, st1, Same.refl _, i0⟩, ?_⟩
  rintro i m s' H' ⟨rfl, hi, c', G', st', e', hI⟩
  by_cases hlt : i < ys.length
  · refine .inr ⟨((ok B c' s' G' H' st' e' i).2 hlt).1, fun s2 H2 => ∃ c2 G2, Stt X.K B c2 s2 G2 H2 ∧ Same G1 G2 ∧ I (i + 1) c2, fun s2 H2 ⟨c2, G2, st2, e2, hI2⟩ => ⟨ys.length - (i + 1), by omega, rfl, hlt, c2, G2, st2, e2, hI2⟩, fun x H2 hy => ?_⟩
    obtain ⟨G2, y, hy1, st2, e2, dy⟩ := ((ok B c' s' G' H' st' e' i).2 hlt).2 x H2 hy
    refine vg B c' s' G2 H2 x y _ _ st2 dy (turn i y c' hy1 hI) fun c3 s3 st3 _ q3 => ?_
    have e13 : Same G1 G2 := e'.trans e2
    exact vb B c3 s3 G2 H2 _ { E with nx := I (i + 1), ct := I (i + 1), bk := E.nx } st3 ⟨fun c4 s4 G4 H4 st4 e4 q4 => ⟨c4, G4, st4, e13.trans e4, q4⟩, fun r c4 v s4 G4 H4 st4 e4 q4 => k.rt r c4 v s4 G4 H4 st4 ((e1.trans e13).trans e4) q4, fun c4 s4 G4 H4 st4 e4 q4 => k.nx c4 s4 G4 H4 st4 ((e1.trans e13).trans e4) q4, fun c4 s4 G4 H4 st4 e4 q4 => ⟨c4, G4, st4, e13.trans e4, q4⟩⟩ q3
  · have e : i = ys.length := by omega
    subst e
    exact .inl ⟨(ok B c' s' G' H' st' e' _).1 (Nat.le_refl _), k.nx c' s' G' H' st' (e1.trans e') (fin c' hI)⟩
/-- while -/
def zWhile (tc : TB) (tb : TSd) : TSd := fun E c => ∃ I : Nat → Ctx → Prop, (∃ m, I m c) ∧ ∀ m c, I m c → tc c fun b c1 => if b = true then tb { E with nx := fun c' => ∃ m', m' < m ∧ I m' c', ct := fun c' => ∃ m', m' < m ∧ I m' c', bk := E.nx } c1 else E.nx c1
theorem s_while {body : List Stmt} {tc : TB} {tb : TSd} (hp : PassesOwn (model X.prog X.w) X.A X.env X.xe) (hc : DT X e tc) (hb : DSs X body tb) : DS X (.While e body [] pos) (zWhile tc tb) := by
  obtain ⟨tt, pc, vc⟩ := hc.ex
  obtain ⟨ts, pb, vb⟩ := hb.ex
  refine ⟨_, ps_while hp pc pb, fun B c s G H D E st k q => ?_⟩
  obtain ⟨I, ⟨m0, i0⟩, turn⟩ := q
  refine ⟨fun m s' H' => ∃ c' G', Stt X.K B c' s' G' H' ∧ Same G G' ∧ I m c', ⟨m0, c, G, st, Same.refl _, i0⟩, ?_⟩
  rintro m s' H' ⟨c', G', st', e', hI⟩
  refine vc B c' s' G' H' _ _ st' (turn m c' hI) fun b c1 G1 H1 st1 e1 q1 => ?_
  cases b with
  | true =>
    rw [if_pos rfl] at q1 ⊢
    refine ⟨fun s2 H2 => ∃ m', m' < m ∧ ∃ c2 G2, Stt X.K B c2 s2 G2 H2 ∧ Same G G2 ∧ I m' c2, fun s2 H2 h => h, ?_⟩
    have e01 := e'.trans e1
    exact vb B c1 s' G1 H1 _ { E with nx := fun c' => ∃ m', m' < m ∧ I m' c', ct := fun c' => ∃ m', m' < m ∧ I m' c', bk := E.nx } st1 ⟨fun c4 s4 G4 H4 st4 e4 ⟨m', h1, h2⟩ => ⟨m', h1, c4, G4, st4, e01.trans e4, h2⟩, fun r c4 v s4 G4 H4 st4 e4 q4 => k.rt r c4 v s4 G4 H4 st4 (e01.trans e4) q4, fun c4 s4 G4 H4 st4 e4 q4 => k.nx c4 s4 G4 H4 st4 (e01.trans e4) q4, fun c4 s4 G4 H4 st4 e4 ⟨m', h1, h2⟩ => ⟨m', h1, c4, G4, st4, e01.trans e4, h2⟩⟩ q1
  | false =>
    rw [if_neg Bool.false_ne_true] at q1 ⊢
    exact k.nx c1 s' G1 H1 st1 (e'.trans e1) q1
end

/-! ### defs -/
abbrev TF := Ctx → (S → Ctx → Prop) → Prop
def SpD (K : PySem.W.Frag) (T : TF) : Sp := fun vs H Q _ => ∃ (G : Hp) (io : List Addr) (a : Ctx) (Q1 : S → Ctx → Prop), Stt K ⟨H, G, io⟩ a (vs.map some) G H ∧ T a Q1 ∧
  ∀ r c v s G' H', Stt K ⟨H, G, io⟩ (r :: c) (some v :: s) G' H' → Q1 r c → Q v H'
theorem reps_more {K : PySem.W.Frag} {B : Base} {G H : Hp} {c : Ctx} {s : L2.St} {A : List Addr} (h : Reps K B G H c s A) (n : Nat) : Reps K B G H (c ++ List.replicate n .no) (s ++ List.replicate n none) A := by
  induction h with
  | nil =>
    induction n with
    | zero => exact .nil
    | succ n ih => exact .no ih
  | no _ ih => exact .no ih
  | d hd _ ih => exact .d hd ih
  | f hd _ ih => exact .f hd ih
  | o ho hw _ ih => exact .o ho hw ih
/-- THE RULE for a def over data -/
theorem fn_d {P : Program} {w : World} {K : PySem.W.Frag} {mg : Str → Option Value} {base : Heap} {x qual : Str} {st : Stmt} {f : Addr} {fd : FuncData} {N ps : List Str} {k : Nat} {T : TF} {t : TSd} (F : Fun K x qual st f fd) (sc : FnScope N ps (defScope st))
    (hT : ∀ a Q, T a Q → a.length = ps.length ∧ t { nx := fun c => Q (.d .none) c, rt := Q } (a ++ List.replicate (N.length - ps.length) .no))
    (body : ∀ (cdv : Value) (A : Around) (outer : List Env) (s : Shared) (H : Hp) (E : XK), Room k (A.deeper (envOfC qual (defScope st) s.heap.objs.size f cdv)) →
      DSs (cxOf CX0 P w K mg base N qual (defScope st) f cdv A outer s H E).nox (defBody st) t) : FnOk P w K mg base CX0 (k + 1) f fd ps (SpD K T) := by
  have hl : ∀ vs H Q E, SpD K T vs H Q E → vs.length = ps.length := fun vs H Q E h => by
    obtain ⟨G, io, a, Q1, ⟨A, r, _⟩, h2, _⟩ := h
    have := r.len
    rw [List.length_map] at this
    rw [this]
    exact (hT a Q1 h2).1
  refine F.ok sc hl (fun cdv A outer s H vs Q E hr h => ?_)
  obtain ⟨ts, p, v⟩ := (body cdv A outer s H E hr).ex
  refine ⟨ts, p, ?_⟩
  have lv := hl _ _ _ _ h
  obtain ⟨G, io, a, Q1, ⟨A1, r, wd⟩, h2, h3⟩ := h
  have st0 : Stt K ⟨H, G, io⟩ (a ++ List.replicate (N.length - ps.length) .no) (L2.start N vs) G H := by
    refine ⟨A1, ?_, wd⟩
    unfold L2.start
    rw [lv]
    exact reps_more r _
  exact v ⟨H, G, io⟩ _ _ G H _ { nx := fun c => Q1 (.d .none) c, rt := Q1 } st0 ⟨fun c s' G' H' st' _ q => h3 (.d .none) c .non s' G' H' (st'.push_d .non) q, fun r c v s' G' H' st' _ q => h3 r c v s' G' H' st' q, fun _ _ _ _ _ _ q => q.elim, fun _ _ _ _ _ _ q => q.elim⟩ (hT a Q1 h2).2

/-- .. whose first argument is a lent list of which a fact is known: its items told at the entry -/
theorem fn_dP {P : Program} {w : World} {K : PySem.W.Frag} {mg : Str → Option Value} {base : Heap} {x qual : Str} {st : Stmt} {f : Addr} {fd : FuncData} {N ps : List Str} {k : Nat} {T : TF} {t : TSd} (F : Fun K x qual st f fd) (sc : FnScope N ps (defScope st))
    (hT : ∀ a Q, T a Q → a.length = ps.length ∧ ∃ wo Pl, a[0]? = some (.o wo (.lstP Pl)) ∧ ∀ ds, Pl ds → t { nx := fun c => slO c 0 fun w R => w = wo ∧ asR R fun ds' => Pl ds' ∧ Q (.d .none) (c.set 0 (.o wo (.lstP Pl))), rt := fun r c => slO c 0 fun w R => w = wo ∧ asR R fun ds' => Pl ds' ∧ Q r (c.set 0 (.o wo (.lstP Pl))) } (a.set 0 (.o wo (.lst ds)) ++ List.replicate (N.length - ps.length) .no))
    (body : ∀ (cdv : Value) (A : Around) (outer : List Env) (s : Shared) (H : Hp) (E : XK), Room k (A.deeper (envOfC qual (defScope st) s.heap.objs.size f cdv)) →
      DSs (cxOf CX0 P w K mg base N qual (defScope st) f cdv A outer s H E).nox (defBody st) t) : FnOk P w K mg base CX0 (k + 1) f fd ps (SpD K T) := by
  have hl : ∀ vs H Q E, SpD K T vs H Q E → vs.length = ps.length := fun vs H Q E h => by
    obtain ⟨G, io, a, Q1, ⟨A, r, _⟩, h2, _⟩ := h
    have := r.len
    rw [List.length_map] at this
    rw [this]
    exact (hT a Q1 h2).1
  refine F.ok sc hl (fun cdv A outer s H vs Q E hr h => ?_)
  obtain ⟨ts, p, v⟩ := (body cdv A outer s H E hr).ex
  refine ⟨ts, p, ?_⟩
  have lv := hl _ _ _ _ h
  obtain ⟨G, io, a, Q1, st1, h2, h3⟩ := h
  obtain ⟨_, wo, Pl, g1, g2⟩ := hT a Q1 h2
  obtain ⟨ds, hP, st2⟩ := st1.open_ g1
  obtain ⟨A1, r, wd⟩ := st2.ex
  have st0 : Stt K ⟨H, G, io⟩ (a.set 0 (.o wo (.lst ds)) ++ List.replicate (N.length - ps.length) .no) (L2.start N vs) G H := by
    refine ⟨A1, ?_, wd⟩
    unfold L2.start
    rw [lv]
    exact reps_more r _
  refine v ⟨H, G, io⟩ _ _ G H _ { nx := fun c => slO c 0 fun w R => w = wo ∧ asR R fun ds' => Pl ds' ∧ Q1 (.d .none) (c.set 0 (.o wo (.lstP Pl))), rt := fun r c => slO c 0 fun w R => w = wo ∧ asR R fun ds' => Pl ds' ∧ Q1 r (c.set 0 (.o wo (.lstP Pl))) } st0 ⟨fun c s' G' H' st' _ q => ?_, fun rr c v s' G' H' st' _ q => ?_, fun _ _ _ _ _ _ q => q.elim, fun _ _ _ _ _ _ q => q.elim⟩ (g2 ds hP)
  · obtain ⟨w1, R1, q1, hw, q⟩ := slO_of q
    subst hw
    obtain ⟨ds', rfl, q2, q3⟩ := asR_of q
    exact h3 (.d .none) _ .non s' G' H' ((st'.shut q1 q2).push_d .non) q3
  · obtain ⟨w1, R1, q1, hw, q⟩ := slO_of q
    subst hw
    obtain ⟨ds', rfl, q2, q3⟩ := asR_of q
    exact h3 rr _ v s' G' H' (st'.shut (j := 1) (by simpa using q1) q2) q3

/-- what a caller has, behind a call to which the addresses io were lent -/
theorem wd_after {B : Base} {G H G' H' : Hp} {io A A' A2 : List Addr} (w0 : Wd B G H A) (hA : ∀ a ∈ A, H a ≠ none) (hio : ∀ a ∈ io, a ∈ A) (w : Wd ⟨H, G, io⟩ G' H' A') (n : A2.Nodup) (hi : ∀ a ∈ A2, a ∈ A' ∨ (a ∈ A ∧ a ∉ io)) : Wd B G' H' A2 where
  sub := w.sub
  nd := n
  out := fun a ha => by
    rcases hi a ha with z | ⟨z, _⟩
    · exact w.out a z
    · rw [w.newG a (hA a z)]; exact w0.out a z
  old := w0.old.trans w.old
  stay := fun a o q hn => by
    have q1 := w0.stay a o q hn
    refine w.stay a o q1 fun z => ?_
    rcases w0.lim a (hio a z) with y | y
    · exact hn y
    · rw [y] at q; cases q
  dom := fun a q => w0.dom a (w.dom a q)
  newG := fun a q => by
    rw [w.newG a (fun z => q (w0.dom a z))]
    exact w0.newG a q
  lim := fun a ha => by
    rcases hi a ha with z | ⟨z, _⟩
    · rcases w.lim a z with y | y
      · exact w0.lim a (hio a y)
      · exact .inr (w0.dom a y)
    · exact w0.lim a z
theorem keep_after {G H G' H' : Hp} {io A A' : List Addr} (hA : ∀ a ∈ A, H a ≠ none) (w : Wd ⟨H, G, io⟩ G' H' A') : ∀ a ∈ A, a ∉ io → H' a = H a := fun a ha hn => by
  cases q : H a with
  | none => exact absurd q (hA a ha)
  | some o => exact w.stay a o q hn
theorem after0 {K : PySem.W.Frag} {B : Base} {c c' : Ctx} {s s' : L2.St} {G H G' H' : Hp} (st : Stt K B c s G H) (st' : Stt K ⟨H, G, []⟩ c' s' G' H') : Stt K B c s G' H' ∧ Same G G' := by
  obtain ⟨A, r, w0⟩ := st.ex
  obtain ⟨A', r', w⟩ := st'.ex
  exact ⟨⟨A, r.mono w.old fun a ha => keep_after r.here w a ha (by simp), wd_after w0 r.here (by simp) w w0.nd fun a ha => .inr ⟨ha, by simp⟩⟩, w.old⟩
theorem after0o {K : PySem.W.Frag} {B : Base} {c c' : Ctx} {s s' : L2.St} {G H G' H' : Hp} {R : Res} {v : V} (st : Stt K B c s G H) (st' : Stt K ⟨H, G, []⟩ (.o none R :: c') (some v :: s') G' H') : Stt K B (.o none R :: c) (some v :: s) G' H' ∧ Same G G' := by
  obtain ⟨A, r, w0⟩ := st.ex
  obtain ⟨A', r', w⟩ := st'.ex
  cases r' with
  | @o _ _ _ _ _ Ar At h1 h2 r' =>
    obtain ⟨n1, n2, n3⟩ := List.nodup_append.mp w.nd
    have h2' : ∀ a ∈ Ar, H a = none := h2
    refine ⟨⟨Ar ++ A, .o h1 (fun a ha => w0.dom a (h2' a ha)) (r.mono w.old fun a ha => keep_after r.here w a ha (by simp)), wd_after w0 r.here (by simp) w ?_ fun a ha => ?_⟩, w.old⟩
    · refine List.nodup_append.mpr ⟨n1, w0.nd, fun a ha b hb z => ?_⟩
      subst z
      exact r.here a hb (h2' a ha)
    · rcases List.mem_append.mp ha with z | z
      · exact .inl (List.mem_append_left _ z)
      · exact .inr ⟨z, by simp⟩
/-- a call to which the owned thing in slot j is lent, as the first argument -/
theorem lend1 {K : PySem.W.Frag} {B : Base} {c : Ctx} {s : L2.St} {G H : Hp} {j : Nat} {w : Option Lt} {R : Res} (st : Stt K B c s G H) (e : c[j]? = some (.o w R)) :
    ∃ (v : V) (x : Lt), x.v = v ∧ s[j]? = some (some v) ∧ (∀ {vs : List V} {xs : List PyData}, DpAll K G vs xs → Stt K ⟨H, G, x.al⟩ (.o (some x) R :: xs.map S.d) ((v :: vs).map some) G H) ∧
      (∀ {r : S} {c' : Ctx} {vr : V} {s' : L2.St} {G' H' : Hp} {R' : Res}, Stt K ⟨H, G, x.al⟩ (r :: c') (some vr :: s') G' H' → c'[0]? = some (.o (some x) R') →
        Same G G' ∧ (∀ y, r = .d y → Dp K G' vr y ∧ Stt K B (c.set j (.o w R')) s G' H') ∧ ∀ R2, r = .o none R2 → Stt K B (.o none R2 :: c.set j (.o w R')) (some vr :: s) G' H') := by
  obtain ⟨A, r, w0⟩ := st.ex
  obtain ⟨v, A1, h1, h2, h3, h4, h5, k⟩ := r.focus w0.nd e
  refine ⟨v, ⟨v, A1⟩, rfl, h1, fun {vs xs} d => ?_, fun {r' c' vr s' G' H' R'} st' e' => ?_⟩
  · refine ⟨A1 ++ [], .o h2 ⟨rfl, fun a ha => .inl ha⟩ ?_, ?_⟩
    · clear k
      induction xs generalizing vs with
      | nil => cases d; exact .nil
      | cons x xs ih =>
        cases d with
        | cons d1 d2 => exact .d d1 (ih d2)
    · rw [List.append_nil]
      exact ⟨w0.sub, h4, fun a ha => w0.out a (h5 a ha), Same.refl _, fun a o q _ => q, fun a q => q, fun a q => rfl, fun a ha => .inl ha⟩
  · obtain ⟨A', r2, wd⟩ := st'.ex
    have keepA := keep_after r.here wd
    have key : ∀ {A1' : List Addr} {v' : V}, R'.P K G' H' v' A1' → WOk ⟨H, G, A1⟩ (some ⟨v, A1⟩) v' A1' → A1'.Nodup → (∀ a ∈ A1', a ∈ A') → ∃ A2, Reps K B G' H' (c.set j (.o w R')) s A2 ∧ A2.Nodup ∧ ∀ a ∈ A2, a ∈ A1' ∨ (a ∈ A ∧ a ∉ A1) := by
      intro A1' v' g2 g3 g4 g5
      obtain ⟨rfl, g6⟩ := g3
      have g6' : ∀ a ∈ A1', a ∈ A1 ∨ H a = none := g6
      refine k wd.old (fun a ha hn => keepA a ha hn) g2 ?_ g4 fun a ha => ?_
      · cases w with
        | none =>
          intro a ha
          rcases g6' a ha with z | z
          · exact h3 a z
          · exact w0.dom a z
        | some u =>
          refine ⟨h3.1, fun a ha => ?_⟩
          rcases g6' a ha with z | z
          · exact h3.2 a z
          · exact .inr (w0.dom a z)
      · rcases g6' a ha with z | z
        · exact .inl z
        · exact .inr fun y => r.here a y z
    refine ⟨wd.old, fun x hx => ?_, fun R2 hx => ?_⟩
    · subst hx
      obtain ⟨v', A1', g1, g2, g3, g4, g5, _⟩ := r2.focus (j := 1) wd.nd (by simpa using e')
      obtain ⟨A2, r3, n3, q3⟩ := key g2 g3 g4 g5
      cases r2 with
      | d hd r2 =>
        refine ⟨hd, A2, r3, wd_after w0 r.here h5 wd n3 fun a ha => ?_⟩
        rcases q3 a ha with z | z
        · exact .inl (g5 a z)
        · exact .inr z
    · subst hx
      cases r2 with
      | @o _ _ _ _ _ Ar At p1 p2 r2 =>
        have p2' : ∀ a ∈ Ar, H a = none := p2
        obtain ⟨n1, n2, n4⟩ := List.nodup_append.mp wd.nd
        obtain ⟨v', A1', g1, g2, g3, g4, g5, _⟩ := r2.focus (j := 0) n2 e'
        obtain ⟨A2, r3, n3, q3⟩ := key g2 g3 g4 fun a ha => List.mem_append_right _ (g5 a ha)
        refine ⟨Ar ++ A2, .o p1 (fun a ha => w0.dom a (p2' a ha)) r3, wd_after w0 r.here h5 wd ?_ fun a ha => ?_⟩
        · refine List.nodup_append.mpr ⟨n1, n3, fun a ha b hb z => ?_⟩
          subst z
          rcases q3 a hb with y | ⟨y, _⟩
          · exact n4 a ha a (g5 a y) rfl
          · exact r.here a y (p2' a ha)
        · rcases List.mem_append.mp ha with z | z
          · exact .inl (List.mem_append_left _ z)
          · rcases q3 a z with y | y
            · exact .inl (List.mem_append_right _ (g5 a y))
            · exact .inr y
theorem reps_data {K : PySem.W.Frag} {B : Base} {G H : Hp} : ∀ {vs : List V} {xs : List PyData}, DpAll K G vs xs → Reps K B G H (xs.map S.d) (vs.map some) []
  | _, [], h => by cases h; exact .nil
  | _, x :: xs, h => by
    cases h with
    | cons h1 h2 => exact .d h1 (reps_data h2)
theorem stt_data {K : PySem.W.Frag} {G H : Hp} {vs : List V} {xs : List PyData} (e : Same G H) (h : DpAll K G vs xs) : Stt K ⟨H, G, []⟩ (xs.map S.d) (vs.map some) G H :=
  ⟨[], reps_data h, e, List.nodup_nil, by simp, Same.refl _, fun a o q _ => q, fun a q => q, fun a q => rfl, by simp⟩

/-- what is done with a call's answer: data wanted; a new owned thing wanted; the same where a thing was lent -/
def kD (Q : PyData → Prop) : S → Ctx → Prop := fun r _ => match r with
  | .d x => Q x
  | .o none R => R.fz Q
  | _ => False
def kO (Q : Res → Prop) : S → Ctx → Prop := fun r _ => match r with
  | .o none R => Q R
  | _ => False
def kL (v : Lt) (Q : PyData → Res → Prop) : S → Ctx → Prop := fun r c => ∃ R', c[0]? = some (.o (some v) R') ∧ kD (fun x => Q x R') r c
def kLO (v : Lt) (Q : Res → Res → Prop) : S → Ctx → Prop := fun r c => ∃ R', c[0]? = some (.o (some v) R') ∧ kO (fun x => Q x R') r c
theorem kD_d {Q : PyData → Prop} {x : PyData} {c : Ctx} : kD Q (.d x) c = Q x := id rfl
theorem kD_o {Q : PyData → Prop} {R : Res} {c : Ctx} : kD Q (.o none R) c = R.fz Q := id rfl
theorem kO_o {Q : Res → Prop} {R : Res} {c : Ctx} : kO Q (.o none R) c = Q R := id rfl
theorem fz_l {ds : List PyData} {Q : PyData → Prop} : (Res.lst ds).fz Q = Q (.list ds) := id rfl
theorem fz_P {P : List PyData → Prop} {Q : PyData → Prop} : (Res.lstP P).fz Q = ∀ ds, P ds → Q (.list ds) := id rfl
/-- what a def hands back, its own names let go; the same, the lent thing being R -/
def ret (Q : S → Ctx → Prop) (r : S) : Prop := ∀ c, Q r c
def retL (v : Lt) (R : Res) (Q : S → Ctx → Prop) (r : S) : Prop := ∀ c : Ctx, c[0]? = some (.o (some v) R) → Q r c
theorem ret_d {Q : PyData → Prop} {x : PyData} : ret (kD Q) (.d x) = Q x := propext ⟨fun h => h [], fun h _ => h⟩
theorem ret_o {Q : PyData → Prop} {R : Res} : ret (kD Q) (.o none R) = R.fz Q := propext ⟨fun h => h [], fun h _ => h⟩
theorem ret_O {Q : Res → Prop} {R : Res} : ret (kO Q) (.o none R) = Q R := propext ⟨fun h => h [], fun h _ => h⟩
theorem retL_d {v : Lt} {Q : PyData → Res → Prop} {x : PyData} {R : Res} : retL v R (kL v Q) (.d x) = Q x R :=
  propext ⟨fun h => by
    obtain ⟨R', e, q⟩ := h [.o (some v) R] rfl
    cases e
    exact q, fun q c e => ⟨R, e, q⟩⟩
theorem retL_o {v : Lt} {Q : PyData → Res → Prop} {R2 R : Res} : retL v R (kL v Q) (.o none R2) = R2.fz fun x => Q x R :=
  propext ⟨fun h => by
    obtain ⟨R', e, q⟩ := h [.o (some v) R] rfl
    cases e
    exact q, fun q c e => ⟨R, e, q⟩⟩
theorem retL_O {v : Lt} {Q : Res → Res → Prop} {R2 R : Res} : retL v R (kLO v Q) (.o none R2) = Q R2 R :=
  propext ⟨fun h => by
    obtain ⟨R', e, q⟩ := h [.o (some v) R] rfl
    cases e
    exact q, fun q c e => ⟨R, e, q⟩⟩
section
variable {X : Cx} {e : Expr} {es : List Expr} {tl : TL} {x : Str} {p pos : Pos} {k : Nat} {f : Addr} {fd : FuncData} {ps : List Str} {T : TF}
/-- a call with data alone: its answer data (an owned answer is frozen) -/
def uCall (T : TF) (t : TL) : TD := fun c Q => t c fun xs c1 => T (xs.map S.d) (kD fun x => Q x c1)
theorem d_call {ds : List Value} (F : FnOk X.prog X.w X.K X.mg X.base CX0 k f fd ps (SpD X.K T)) (hr : Room k X.A) (hm : X.mg x = some (.ref f)) (hk : PySem.W.keepIn X.K (.ref f) = true) (hb : Binds X.K fd ps []) (ha : DA X (e :: es) tl) (hg : Gl X x := by rfl)
    (hdb : (x == ("__debug__" : Str)) = false := by decide) (he : starEach (e :: es) X.env = (false, eval e X.env) :: starEach es X.env := by rfl) (hpl : (backTo pos (starEach es X.env)).any (·.1) = false := by rfl) : DE X (.Call (.Name x p) (e :: es) [] pos) (uCall T tl) := by
  obtain ⟨ta, pa, va⟩ := ha.ex
  refine ⟨_, pe_call F hr hg hm hk hb .nil pass0 pa hdb he hpl, fun B c s G H Q R st q k => va B c s G H _ _ st q fun vs xs c1 G1 H1 st1 e1 d1 q1 => ?_⟩
  rw [List.append_nil]
  refine ⟨G1, [], xs.map S.d, _, stt_data st1.sub d1, q1, fun r c' v s' G' H' st' q2 => ?_⟩
  cases r with
  | d y =>
    obtain ⟨st2, e2⟩ := after0 st1 st'
    obtain ⟨A', r', _⟩ := st'.ex
    cases r' with
    | d hd _ => exact k v y c1 G' H' st2 (e1.trans e2) hd q2
  | o w R2 =>
    cases w with
    | none =>
      obtain ⟨st2, e2⟩ := after0o st1 st'
      obtain ⟨G2, d, a1, a2, a3, a4⟩ := st2.frzR q2
      exact k v d c1 G2 H' a1 ((e1.trans e2).trans a2) a3 a4
    | some _ => exact q2.elim
  | no => exact q2.elim
  | f _ => exact q2.elim
/-- .. its answer a new owned thing -/
def oCall (T : TF) (t : TL) : TR := fun c Q => t c fun xs c1 => T (xs.map S.d) (kO fun R => Q R c1)
theorem o_call (F : FnOk X.prog X.w X.K X.mg X.base CX0 k f fd ps (SpD X.K T)) (hr : Room k X.A) (hm : X.mg x = some (.ref f)) (hk : PySem.W.keepIn X.K (.ref f) = true) (hb : Binds X.K fd ps []) (ha : DA X (e :: es) tl) (hg : Gl X x := by rfl)
    (hdb : (x == ("__debug__" : Str)) = false := by decide) (he : starEach (e :: es) X.env = (false, eval e X.env) :: starEach es X.env := by rfl) (hpl : (backTo pos (starEach es X.env)).any (·.1) = false := by rfl) : DO X (.Call (.Name x p) (e :: es) [] pos) (oCall T tl) := by
  obtain ⟨ta, pa, va⟩ := ha.ex
  refine ⟨_, pe_call F hr hg hm hk hb .nil pass0 pa hdb he hpl, fun B c s G H Q R st q k => va B c s G H _ _ st q fun vs xs c1 G1 H1 st1 e1 d1 q1 => ?_⟩
  rw [List.append_nil]
  refine ⟨G1, [], xs.map S.d, _, stt_data st1.sub d1, q1, fun r c' v s' G' H' st' q2 => ?_⟩
  cases r with
  | o w R2 =>
    cases w with
    | none =>
      obtain ⟨st2, e2⟩ := after0o st1 st'
      exact k v R2 c1 G' H' st2 (e1.trans e2) q2
    | some _ => exact q2.elim
  | d _ => exact q2.elim
  | no => exact q2.elim
  | f _ => exact q2.elim
/-- a call to which slot j is lent as the first argument -/
def uLend (T : TF) (j : Nat) (t : TL) : TD := fun c Q => slO c j fun _ _ => t c fun xs c1 => slO c1 j fun w R => ∀ v : Lt, T (.o (some v) R :: xs.map S.d) (kL v fun x R' => Q x (c1.set j (.o w R')))
theorem d_lend (j : Nat) {y : Str} {py : Pos} (F : FnOk X.prog X.w X.K X.mg X.base CX0 k f fd ps (SpD X.K T)) (hr : Room k X.A) (hm : X.mg x = some (.ref f)) (hk : PySem.W.keepIn X.K (.ref f) = true) (hb : Binds X.K fd ps []) (ha : DA X es tl) (hN : X.N[j]? = some y := by rfl) (hv : Vis X.env.scope y := by first | exact Or.inl rfl | exact Or.inr (Or.inl rfl) | exact Or.inr (Or.inr rfl)) (hd : (y == ("__debug__" : Str)) = false := by decide)
    (hcd : (y == ("__classdict__" : Str)) = false := by decide) (hg : Gl X x := by rfl)
    (hdb : (x == ("__debug__" : Str)) = false := by decide) (he : starEach (.Name y py :: es) X.env = (false, eval (.Name y py) X.env) :: starEach es X.env := by rfl) (hpl : (backTo pos (starEach es X.env)).any (·.1) = false := by rfl) : DE X (.Call (.Name x p) (.Name y py :: es) [] pos) (uLend T j tl) := by
  obtain ⟨ta, pa, va⟩ := ha.ex
  refine ⟨_, pe_call F hr hg hm hk hb .nil pass0 (pa_cons (pe_var hN hv hd hcd) pa he) hdb he hpl, fun B c s G H Q R st q k => ?_⟩
  obtain ⟨w0, R0, g0, q⟩ := slO_of q
  obtain ⟨v0, hv0⟩ := st.own_at g0
  refine ⟨v0, hv0, va B c s G H _ _ st q fun vs xs c1 G1 H1 st1 e1 d1 q1 => ?_⟩
  obtain ⟨w, R1, g1, q1⟩ := slO_of q1
  obtain ⟨v, lx, _, hv1, ent, aft⟩ := lend1 st1 g1
  rw [hv0] at hv1
  cases hv1
  rw [List.append_nil]
  refine ⟨G1, lx.al, _, _, ent d1, q1 lx, fun r c' vr s' G' H' st' q2 => ?_⟩
  obtain ⟨R', g2, q2⟩ := q2
  obtain ⟨e2, h1, h2⟩ := aft st' g2
  cases r with
  | d y =>
    obtain ⟨hd, st2⟩ := h1 y rfl
    exact k vr y _ G' H' st2 (e1.trans e2) hd q2
  | o w R2 =>
    cases w with
    | none =>
      obtain ⟨G2, d, a1, a2, a3, a4⟩ := (h2 R2 rfl).frzR q2
      exact k vr d _ G2 H' a1 ((e1.trans e2).trans a2) a3 a4
    | some _ => exact q2.elim
  | no => exact q2.elim
  | f _ => exact q2.elim
def oLend (T : TF) (j : Nat) (t : TL) : TR := fun c Q => slO c j fun _ _ => t c fun xs c1 => slO c1 j fun w R => ∀ v : Lt, T (.o (some v) R :: xs.map S.d) (kLO v fun R2 R' => Q R2 (c1.set j (.o w R')))
theorem o_lend (j : Nat) {y : Str} {py : Pos} (F : FnOk X.prog X.w X.K X.mg X.base CX0 k f fd ps (SpD X.K T)) (hr : Room k X.A) (hm : X.mg x = some (.ref f)) (hk : PySem.W.keepIn X.K (.ref f) = true) (hb : Binds X.K fd ps []) (ha : DA X es tl) (hN : X.N[j]? = some y := by rfl) (hv : Vis X.env.scope y := by first | exact Or.inl rfl | exact Or.inr (Or.inl rfl) | exact Or.inr (Or.inr rfl)) (hd : (y == ("__debug__" : Str)) = false := by decide)
    (hcd : (y == ("__classdict__" : Str)) = false := by decide) (hg : Gl X x := by rfl)
    (hdb : (x == ("__debug__" : Str)) = false := by decide) (he : starEach (.Name y py :: es) X.env = (false, eval (.Name y py) X.env) :: starEach es X.env := by rfl) (hpl : (backTo pos (starEach es X.env)).any (·.1) = false := by rfl) : DO X (.Call (.Name x p) (.Name y py :: es) [] pos) (oLend T j tl) := by
  obtain ⟨ta, pa, va⟩ := ha.ex
  refine ⟨_, pe_call F hr hg hm hk hb .nil pass0 (pa_cons (pe_var hN hv hd hcd) pa he) hdb he hpl, fun B c s G H Q R st q k => ?_⟩
  obtain ⟨w0, R0, g0, q⟩ := slO_of q
  obtain ⟨v0, hv0⟩ := st.own_at g0
  refine ⟨v0, hv0, va B c s G H _ _ st q fun vs xs c1 G1 H1 st1 e1 d1 q1 => ?_⟩
  obtain ⟨w, R1, g1, q1⟩ := slO_of q1
  obtain ⟨v, lx, _, hv1, ent, aft⟩ := lend1 st1 g1
  rw [hv0] at hv1
  cases hv1
  rw [List.append_nil]
  refine ⟨G1, lx.al, _, _, ent d1, q1 lx, fun r c' vr s' G' H' st' q2 => ?_⟩
  obtain ⟨R', g2, q2⟩ := q2
  obtain ⟨e2, h1, h2⟩ := aft st' g2
  cases r with
  | o w R2 =>
    cases w with
    | none => exact k vr R2 _ G' H' (h2 R2 rfl) (e1.trans e2) q2
    | some _ => exact q2.elim
  | d _ => exact q2.elim
  | no => exact q2.elim
  | f _ => exact q2.elim
end

/-! ### defs by name -/
/-- a def of the text that keeps its promise over data -/
structure Cal (P : Program) (w : World) (K : PySem.W.Frag) (mg : Str → Option Value) (base : Heap) (x : Str) (k : Nat) (ps : List Str) (T : TF) : Prop where
  ex : ∃ f fd, FnOk P w K mg base CX0 k f fd ps (SpD K T) ∧ mg x = some (.ref f) ∧ PySem.W.keepIn K (.ref f) = true ∧ Binds K fd ps []
theorem Cal.of {P : Program} {w : World} {K : PySem.W.Frag} {mg : Str → Option Value} {base : Heap} {x : Str} {k : Nat} {ps : List Str} {T : TF} {f : Addr} {fd : FuncData}
    (h1 : FnOk P w K mg base CX0 k f fd ps (SpD K T)) (h2 : mg x = some (.ref f)) (h3 : PySem.W.keepIn K (.ref f) = true) (h4 : Binds K fd ps []) : Cal P w K mg base x k ps T := ⟨f, fd, h1, h2, h3, h4⟩
/-- what the top has left of a def -/
structure Df (K : PySem.W.Frag) (mg : Str → Option Value) (x : Str) (st : Stmt) (ps : List Str) : Prop where
  ex : ∃ f fd, Fun K x x st f fd ∧ mg x = some (.ref f) ∧ Binds K fd ps []
section
variable {X : Cx} {e : Expr} {es : List Expr} {tl : TL} {x : Str} {p pos : Pos} {k : Nat} {ps : List Str} {T : TF}
theorem d_callC (C : Cal X.prog X.w X.K X.mg X.base x k ps T) (hr : Room k X.A) (ha : DA X (e :: es) tl) (hg : Gl X x := by rfl)
    (hdb : (x == ("__debug__" : Str)) = false := by decide) (he : starEach (e :: es) X.env = (false, eval e X.env) :: starEach es X.env := by rfl) (hpl : (backTo pos (starEach es X.env)).any (·.1) = false := by rfl) : DE X (.Call (.Name x p) (e :: es) [] pos) (uCall T tl) :=
  let ⟨_, _, h1, h2, h3, h4⟩ := C.ex; d_call (ds := []) h1 hr h2 h3 h4 ha hg hdb he hpl
theorem o_callC (C : Cal X.prog X.w X.K X.mg X.base x k ps T) (hr : Room k X.A) (ha : DA X (e :: es) tl) (hg : Gl X x := by rfl)
    (hdb : (x == ("__debug__" : Str)) = false := by decide) (he : starEach (e :: es) X.env = (false, eval e X.env) :: starEach es X.env := by rfl) (hpl : (backTo pos (starEach es X.env)).any (·.1) = false := by rfl) : DO X (.Call (.Name x p) (e :: es) [] pos) (oCall T tl) :=
  let ⟨_, _, h1, h2, h3, h4⟩ := C.ex; o_call h1 hr h2 h3 h4 ha hg hdb he hpl
theorem d_lendC (j : Nat) {y : Str} {py : Pos} (C : Cal X.prog X.w X.K X.mg X.base x k ps T) (hr : Room k X.A) (ha : DA X es tl) (hN : X.N[j]? = some y := by rfl) (hv : Vis X.env.scope y := by first | exact Or.inl rfl | exact Or.inr (Or.inl rfl) | exact Or.inr (Or.inr rfl)) (hd : (y == ("__debug__" : Str)) = false := by decide)
    (hcd : (y == ("__classdict__" : Str)) = false := by decide) (hg : Gl X x := by rfl)
    (hdb : (x == ("__debug__" : Str)) = false := by decide) (he : starEach (.Name y py :: es) X.env = (false, eval (.Name y py) X.env) :: starEach es X.env := by rfl) (hpl : (backTo pos (starEach es X.env)).any (·.1) = false := by rfl) : DE X (.Call (.Name x p) (.Name y py :: es) [] pos) (uLend T j tl) :=
  let ⟨_, _, h1, h2, h3, h4⟩ := C.ex; d_lend j h1 hr h2 h3 h4 ha hN hv hd hcd hg hdb he hpl
theorem o_lendC (j : Nat) {y : Str} {py : Pos} (C : Cal X.prog X.w X.K X.mg X.base x k ps T) (hr : Room k X.A) (ha : DA X es tl) (hN : X.N[j]? = some y := by rfl) (hv : Vis X.env.scope y := by first | exact Or.inl rfl | exact Or.inr (Or.inl rfl) | exact Or.inr (Or.inr rfl)) (hd : (y == ("__debug__" : Str)) = false := by decide)
    (hcd : (y == ("__classdict__" : Str)) = false := by decide) (hg : Gl X x := by rfl)
    (hdb : (x == ("__debug__" : Str)) = false := by decide) (he : starEach (.Name y py :: es) X.env = (false, eval (.Name y py) X.env) :: starEach es X.env := by rfl) (hpl : (backTo pos (starEach es X.env)).any (·.1) = false := by rfl) : DO X (.Call (.Name x p) (.Name y py :: es) [] pos) (oLend T j tl) :=
  let ⟨_, _, h1, h2, h3, h4⟩ := C.ex; o_lend j h1 hr h2 h3 h4 ha hN hv hd hcd hg hdb he hpl
end
/-! ### isinstance: the built-in classes -/
theorem kt_int {K : PySem.W.Frag} : ∀ x : PyData, (∀ kv, x ≠ .dict kv) → PySem.W.kitOne K (tyD x) (.type "int") = some (isIntD x)
  | .none, _ => kit_ty (r := false) (by decide +kernel)
  | .bool _, _ => kit_ty (r := true) (by decide +kernel)
  | .int _, _ => kit_ty (r := true) (by decide +kernel)
  | .str _, _ => kit_ty (r := false) (by decide +kernel)
  | .list _, _ => kit_ty (r := false) (by decide +kernel)
  | .tuple _, _ => kit_ty (r := false) (by decide +kernel)
  | .dict kv, h => absurd rfl (h kv)
theorem kt_bool {K : PySem.W.Frag} : ∀ x : PyData, (∀ kv, x ≠ .dict kv) → PySem.W.kitOne K (tyD x) (.type "bool") = some (isBoolD x)
  | .none, _ => kit_ty (r := false) (by decide +kernel)
  | .bool _, _ => kit_ty (r := true) (by decide +kernel)
  | .int _, _ => kit_ty (r := false) (by decide +kernel)
  | .str _, _ => kit_ty (r := false) (by decide +kernel)
  | .list _, _ => kit_ty (r := false) (by decide +kernel)
  | .tuple _, _ => kit_ty (r := false) (by decide +kernel)
  | .dict kv, h => absurd rfl (h kv)
theorem kt_str {K : PySem.W.Frag} : ∀ x : PyData, (∀ kv, x ≠ .dict kv) → PySem.W.kitOne K (tyD x) (.type "str") = some (isStrD x)
  | .none, _ => kit_ty (r := false) (by decide +kernel)
  | .bool _, _ => kit_ty (r := false) (by decide +kernel)
  | .int _, _ => kit_ty (r := false) (by decide +kernel)
  | .str _, _ => kit_ty (r := true) (by decide +kernel)
  | .list _, _ => kit_ty (r := false) (by decide +kernel)
  | .tuple _, _ => kit_ty (r := false) (by decide +kernel)
  | .dict kv, h => absurd rfl (h kv)
theorem kt_list {K : PySem.W.Frag} : ∀ x : PyData, (∀ kv, x ≠ .dict kv) → PySem.W.kitOne K (tyD x) (.type "list") = some (isListD x)
  | .none, _ => kit_ty (r := false) (by decide +kernel)
  | .bool _, _ => kit_ty (r := false) (by decide +kernel)
  | .int _, _ => kit_ty (r := false) (by decide +kernel)
  | .str _, _ => kit_ty (r := false) (by decide +kernel)
  | .list _, _ => kit_ty (r := true) (by decide +kernel)
  | .tuple _, _ => kit_ty (r := false) (by decide +kernel)
  | .dict kv, h => absurd rfl (h kv)
theorem kt_tuple {K : PySem.W.Frag} : ∀ x : PyData, (∀ kv, x ≠ .dict kv) → PySem.W.kitOne K (tyD x) (.type "tuple") = some (isTupD x)
  | .none, _ => kit_ty (r := false) (by decide +kernel)
  | .bool _, _ => kit_ty (r := false) (by decide +kernel)
  | .int _, _ => kit_ty (r := false) (by decide +kernel)
  | .str _, _ => kit_ty (r := false) (by decide +kernel)
  | .list _, _ => kit_ty (r := false) (by decide +kernel)
  | .tuple _, _ => kit_ty (r := true) (by decide +kernel)
  | .dict kv, h => absurd rfl (h kv)
theorem bb_int : bootBuiltins "int" = some (.type "int") := by decide +kernel
theorem bb_bool : bootBuiltins "bool" = some (.type "bool") := by decide +kernel
theorem bb_str : bootBuiltins "str" = some (.type "str") := by decide +kernel
theorem bb_list : bootBuiltins "list" = some (.type "list") := by decide +kernel
theorem bb_tuple : bootBuiltins "tuple" = some (.type "tuple") := by decide +kernel
theorem hu65 {A : Around} {k : Nat} (hr : Room k A) : A.units + 65 < cLine := by have := hr.un; omega
/-! ### loops by what they compute -/
theorem rngD_get {lo : Int} {n i : Nat} {y : PyData} (h : (rngD lo n)[i]? = some y) : i < n ∧ y = .int (lo + i) := by
  unfold rngD at h
  rw [List.getElem?_map] at h
  by_cases hi : i < n
  · rw [List.getElem?_range hi] at h
    exact ⟨hi, (Option.some.inj h).symm⟩
  · rw [List.getElem?_eq_none (by simpa using hi)] at h
    cases h
/-- a state of one's own, folded over the items -/
theorem loop_fold {α : Type} {tg : TGd} {tb : TSd} {E : De} {ys : List PyData} {c : Ctx} (st : α → Ctx) (step : α → PyData → α) (a0 : α) (h0 : c = st a0)
    (turn : ∀ a y, y ∈ ys → tg y (st a) fun c2 => tb { E with nx := fun c => c = st (step a y), ct := fun c => c = st (step a y), bk := E.nx } c2) (fin : E.nx (st (ys.foldl step a0))) : zLoop tg tb E ys c := by
  refine ⟨fun i c => c = st ((ys.take i).foldl step a0), h0, fun i y c hy hc => ?_, fun c hc => ?_⟩
  · subst hc
    have e : ys.take (i + 1) = ys.take i ++ [y] := by rw [List.take_add_one, hy]; rfl
    simp only [e, List.foldl_append, List.foldl_cons, List.foldl_nil]
    exact turn _ y (List.mem_of_getElem? hy)
  · have hc' : c = st ((ys.take ys.length).foldl step a0) := hc
    rw [List.take_length] at hc'
    subst hc'
    exact fin
/-- a cut by a word of one's own; the walk sees a letter in its place -/
theorem cut_by {t u : TSd} {E : De} {c : Ctx} (M : Ctx → Prop) (h1 : ∀ N : Ctx → Prop, (∀ c, M c → N c) → t { E with nx := N } c) (h2 : ∀ c, M c → u E c) : zCut t u E c := ⟨M, h1 M fun _ h => h, h2⟩
theorem loop_by {tg : TGd} {tb : TSd} {E : De} {ys : List PyData} {c : Ctx} (I : Nat → Ctx → Prop) (h0 : I 0 c)
    (turn : ∀ i y c (N : Ctx → Prop), ys[i]? = some y → I i c → (∀ c, I (i + 1) c → N c) → tg y c fun c2 => tb { E with nx := N, ct := N, bk := E.nx } c2) (fin : ∀ c, I ys.length c → E.nx c) : zLoop tg tb E ys c :=
  ⟨I, h0, fun i y c hy hI => turn i y c _ hy hI fun _ h => h, fin⟩
theorem while_of {tc : TB} {tb : TSd} {E : De} {c : Ctx} (I : Nat → Ctx → Prop) (m0 : Nat) (h0 : I m0 c)
    (turn : ∀ m c (N : Ctx → Prop), I m c → (∀ m' c', m' < m → I m' c' → N c') → tc c fun b c1 => if b = true then tb { E with nx := N, ct := N, bk := E.nx } c1 else E.nx c1) : zWhile tc tb E c :=
  ⟨I, ⟨m0, h0⟩, fun m c hI => turn m c _ hI fun m' c' h1 h2 => ⟨m', h1, h2⟩⟩
/-- an invariant over the items so far -/
theorem loop_inv {tg : TGd} {tb : TSd} {E : De} {ys : List PyData} {c : Ctx} (I : Nat → Ctx → Prop) (h0 : I 0 c)
    (turn : ∀ i y c, ys[i]? = some y → I i c → tg y c fun c2 => tb { E with nx := I (i + 1), ct := I (i + 1), bk := E.nx } c2) (fin : ∀ c, I ys.length c → E.nx c) : zLoop tg tb E ys c := ⟨I, h0, turn, fin⟩
/-- a state that does not change -/
theorem loop_same {tg : TGd} {tb : TSd} {E : De} {ys : List PyData} {c : Ctx} (I : Ctx → Prop) (h0 : I c)
    (turn : ∀ y c, y ∈ ys → I c → tg y c fun c2 => tb { E with nx := I, ct := I, bk := E.nx } c2) (fin : ∀ c, I c → E.nx c) : zLoop tg tb E ys c := ⟨fun _ => I, h0, fun _ y c hy hc => turn y c (List.mem_of_getElem? hy) hc, fin⟩
instance : Inhabited V := ⟨.non⟩
instance : Inhabited Lt := ⟨⟨.non, []⟩⟩

/-! ### == of data -/
/-- data that can be compared, at most n deep -/
def Sh (n : Nat) (d : PyData) : Prop := d.canLay0 = true ∧ d.depth ≤ n
theorem shaped_of {n : Nat} {d : PyData} (h : Sh n d) (hn : n ≤ 64 := by decide) : SeqAt.shaped d = true := by
  unfold SeqAt.shaped
  rw [h.1, decide_eq_true (Nat.le_trans h.2 hn)]
  rfl
theorem shaped_iff {d : PyData} : SeqAt.shaped d = true ↔ Sh 64 d := ⟨fun h => ⟨SeqAt.canLay_of_shaped h, SeqAt.depth_of_shaped h⟩, fun h => shaped_of h⟩
theorem sh_non {n : Nat} : Sh n .none ↔ True := iff_true_intro ⟨rfl, Nat.zero_le _⟩
theorem sh_int {n : Nat} {i : Int} : Sh n (.int i) ↔ True := iff_true_intro ⟨rfl, Nat.zero_le _⟩
theorem sh_bool {n : Nat} {i : Bool} : Sh n (.bool i) ↔ True := iff_true_intro ⟨rfl, Nat.zero_le _⟩
theorem sh_str {n : Nat} {x : Str} : Sh n (.str x) ↔ PyData.strOk x = true := ⟨fun h => h.1, fun h => ⟨h, Nat.zero_le _⟩⟩
theorem sh_all {n : Nat} : ∀ {ds : List PyData}, (PyData.canLayAll0 ds = true ∧ PyData.depthAll ds ≤ n) ↔ ∀ d ∈ ds, Sh n d
  | [] => by simp [PyData.canLayAll0, PyData.depthAll]
  | d :: ds => by
    have ih := @sh_all n ds
    unfold PyData.canLayAll0 PyData.depthAll
    rw [Bool.and_eq_true, Nat.max_le]
    constructor
    · rintro ⟨⟨a, b⟩, c, e⟩ x hx
      rcases List.mem_cons.mp hx with rfl | hx
      · exact ⟨a, c⟩
      · exact ih.mp ⟨b, e⟩ x hx
    · intro h
      have h1 := h d List.mem_cons_self
      have h2 := ih.mpr fun x hx => h x (List.mem_cons_of_mem _ hx)
      exact ⟨⟨h1.1, h2.1⟩, h1.2, h2.2⟩
theorem sh_list {n : Nat} {ds : List PyData} : Sh (n + 1) (.list ds) ↔ ∀ d ∈ ds, Sh n d := by
  rw [← sh_all]
  unfold Sh PyData.canLay0 PyData.depth
  rw [Nat.add_le_add_iff_right]
theorem sh_tuple {n : Nat} {ds : List PyData} : Sh (n + 1) (.tuple ds) ↔ ∀ d ∈ ds, Sh n d := by
  rw [← sh_all]
  unfold Sh PyData.canLay0 PyData.depth
  rw [Nat.add_le_add_iff_right]
theorem Sh.mono {n m : Nat} {d : PyData} (h : Sh n d) (hm : n ≤ m) : Sh m d := ⟨h.1, Nat.le_trans h.2 hm⟩
theorem eqv_int {i j : Int} : PyData.eqv (.int i) (.int j) = (i == j) := by simp [PyData.eqv]
theorem eqv_str {i j : Str} : PyData.eqv (.str i) (.str j) = (i == j) := by simp [PyData.eqv]
theorem eqv_bool {i j : Bool} : PyData.eqv (.bool i) (.bool j) = (i == j) := by simp [PyData.eqv]
theorem eqv_list {i j : List PyData} : PyData.eqv (.list i) (.list j) = PyData.eqvAll i j := by simp [PyData.eqv]
theorem eqv_tuple {i j : List PyData} : PyData.eqv (.tuple i) (.tuple j) = PyData.eqvAll i j := by simp [PyData.eqv]
theorem eqvAll_cons {x y : PyData} {i j : List PyData} : PyData.eqvAll (x :: i) (y :: j) = (PyData.eqv x y && PyData.eqvAll i j) := by simp [PyData.eqvAll]
theorem eqvAll_nil : PyData.eqvAll [] [] = true := by simp [PyData.eqvAll]
theorem sz_0 : (0 ≤ sizeLine) ↔ True := iff_true_intro (by decide)
theorem sz_1 : (1 ≤ sizeLine) ↔ True := iff_true_intro (by decide)
theorem sz_2 : (2 ≤ sizeLine) ↔ True := iff_true_intro (by decide)
theorem sz_3 : (3 ≤ sizeLine) ↔ True := iff_true_intro (by decide)
theorem sz_4 : (4 ≤ sizeLine) ↔ True := iff_true_intro (by decide)
theorem sz_5 : (5 ≤ sizeLine) ↔ True := iff_true_intro (by decide)
theorem sz_6 : (6 ≤ sizeLine) ↔ True := iff_true_intro (by decide)
theorem sz_7 : (7 ≤ sizeLine) ↔ True := iff_true_intro (by decide)
theorem sz_8 : (8 ≤ sizeLine) ↔ True := iff_true_intro (by decide)
theorem sz_le {n : Nat} (h : n ≤ 16777216) : n ≤ sizeLine := h

/-! ### numbers -/
theorem mulA_l {i j : Int} (h1 : -(2 ^ 64) < i) (h2 : i < 2 ^ 64) : CMulA i j := .inl (.inl ⟨h1, h2⟩)
theorem mulA_r {i j : Int} (h1 : -(2 ^ 64) < j) (h2 : j < 2 ^ 64) : CMulA i j := .inl (.inr ⟨h1, h2⟩)
/-- a number of at most n bits -/
def Bd (n : Nat) (x : Int) : Prop := x.natAbs < 2 ^ n
instance {n : Nat} {x : Int} : Decidable (Bd n x) := inferInstanceAs (Decidable (x.natAbs < 2 ^ n))
theorem ca_0 : ((0 : Nat) : Int) = 0 := id rfl
theorem ca_1 : ((1 : Nat) : Int) = 1 := id rfl
theorem ca_2 : ((2 : Nat) : Int) = 2 := id rfl
theorem ca_3 : ((3 : Nat) : Int) = 3 := id rfl
theorem ca_4 : ((4 : Nat) : Int) = 4 := id rfl
theorem ca_5 : ((5 : Nat) : Int) = 5 := id rfl
theorem ca_6 : ((6 : Nat) : Int) = 6 := id rfl
theorem powA {i j : Int} (h : (decide (0 ≤ j) && decide (j ≤ 1000000) && decide (i.natAbs < 2 ^ 64)) = true) : CPow i j := by
  rw [Bool.and_eq_true, Bool.and_eq_true] at h
  exact ⟨of_decide_eq_true h.1.1, of_decide_eq_true h.1.2, of_decide_eq_true h.2⟩
theorem Bd.mono {n m : Nat} {x : Int} (h : Bd n x) (hm : n ≤ m) : Bd m x := Nat.lt_of_lt_of_le h (Nat.pow_le_pow_right (by decide) hm)
theorem mulA_b {i j : Int} {n m : Nat} (hi : Bd n i) (hj : Bd m j) (h : n + m + 2 ≤ 1000000) : CMulA i j := .inr (wide_mul (a := n + 1) (b := m + 1) (hi.mono (Nat.le_succ n)) (hj.mono (Nat.le_succ m)) (Nat.succ_pos _) (Nat.succ_pos _) (by omega))
theorem bd_mul {i j : Int} {n m : Nat} (hi : Bd n i) (hj : Bd m j) : Bd (n + m) (i * j) := wide_lt hi hj
theorem bd_add {i j : Int} {n : Nat} (hi : Bd n i) (hj : Bd n j) : Bd (n + 1) (i + j) := by
  unfold Bd at *
  rw [Nat.pow_succ]
  omega
theorem bd_sub {i j : Int} {n : Nat} (hi : Bd n i) (hj : Bd n j) : Bd (n + 1) (i - j) := by
  unfold Bd at *
  rw [Nat.pow_succ]
  omega
theorem bd_neg {i : Int} {n : Nat} (hi : Bd n i) : Bd n (-i) := by
  unfold Bd at *
  omega
theorem divA_b {i j : Int} {n : Nat} (h0 : j ≠ 0) (hj : Bd n j) (h : n < 9000) : CDivA i j := by
  have h1 : j.natAbs < 2 ^ (n + 1) := hj.mono (Nat.le_succ n)
  exact ⟨h0, Nat.lt_of_lt_of_le (PySem.Flt.log2_lt_of (Nat.succ_pos _) h1) (by omega)⟩
theorem bd_of {x : Int} {n : Nat} (h1 : -(2 ^ n) < x) (h2 : x < 2 ^ n) : Bd n x := by
  unfold Bd
  have e : ((2 ^ n : Nat) : Int) = (2 : Int) ^ n := by simp
  rw [← e] at h1 h2
  omega
theorem fmod_pos {i j : Int} (h : 0 < j) : 0 ≤ i.fmod j ∧ i.fmod j < j := ⟨Int.fmod_nonneg_of_pos i h, Int.fmod_lt_of_pos i h⟩
theorem atI_of {α : Type} {xs : List α} {i : Int} (h0 : 0 ≤ i) (h1 : i < xs.length) : atI xs i = xs[i.toNat]? := by
  obtain ⟨n, rfl⟩ := Int.eq_ofNat_of_zero_le h0
  have hn : n < xs.length := by omega
  rw [show atI xs (n : Int) = some xs[n] from atI_nat (List.getElem?_eq_getElem hn)]
  simp [hn]

section
variable {α : Type} {x y z u : α} {xs : List α}
theorem atI_0 : atI (x :: xs) 0 = some x := atI_nat (j := 0) rfl
theorem atI_1 : atI (x :: y :: xs) 1 = some y := atI_nat (j := 1) rfl
theorem atI_2 : atI (x :: y :: z :: xs) 2 = some z := atI_nat (j := 2) rfl
theorem atI_3 : atI (x :: y :: z :: u :: xs) 3 = some u := atI_nat (j := 3) rfl
theorem atI_b1 : atI [x] (-1) = some x := atI_last [] x
theorem atI_b2 : atI [x, y] (-1) = some y := atI_last [x] y
theorem atI_b3 : atI [x, y, z] (-1) = some z := atI_last [x, y] z
end
section
variable {x y z u : PyData} {xs : List PyData} {Q : PyData → Prop} {P : Nat → Prop}
theorem atD_0 : atD (x :: xs) 0 Q = Q x := propext ⟨fun ⟨d, e, q⟩ => by rw [atI_0] at e; cases e; exact q, fun q => ⟨x, atI_0, q⟩⟩
theorem atD_1 : atD (x :: y :: xs) 1 Q = Q y := propext ⟨fun ⟨d, e, q⟩ => by rw [atI_1] at e; cases e; exact q, fun q => ⟨y, atI_1, q⟩⟩
theorem atD_2 : atD (x :: y :: z :: xs) 2 Q = Q z := propext ⟨fun ⟨d, e, q⟩ => by rw [atI_2] at e; cases e; exact q, fun q => ⟨z, atI_2, q⟩⟩
theorem atD_3 : atD (x :: y :: z :: u :: xs) 3 Q = Q u := propext ⟨fun ⟨d, e, q⟩ => by rw [atI_3] at e; cases e; exact q, fun q => ⟨u, atI_3, q⟩⟩
theorem atD_b1 : atD [x] (-1) Q = Q x := propext ⟨fun ⟨d, e, q⟩ => by rw [atI_b1] at e; cases e; exact q, fun q => ⟨x, atI_b1, q⟩⟩
theorem atD_b2 : atD [x, y] (-1) Q = Q y := propext ⟨fun ⟨d, e, q⟩ => by rw [atI_b2] at e; cases e; exact q, fun q => ⟨y, atI_b2, q⟩⟩
theorem atD_b3 : atD [x, y, z] (-1) Q = Q z := propext ⟨fun ⟨d, e, q⟩ => by rw [atI_b3] at e; cases e; exact q, fun q => ⟨z, atI_b3, q⟩⟩
theorem ixP_30 : ixP 3 0 P = P 0 := propext ⟨fun ⟨k, e, q⟩ => by cases e; exact q, fun q => ⟨0, rfl, q⟩⟩
theorem ixP_31 : ixP 3 1 P = P 1 := propext ⟨fun ⟨k, e, q⟩ => by cases e; exact q, fun q => ⟨1, rfl, q⟩⟩
theorem ixP_32 : ixP 3 2 P = P 2 := propext ⟨fun ⟨k, e, q⟩ => by cases e; exact q, fun q => ⟨2, rfl, q⟩⟩
end
theorem ixN_30 : ixN 3 0 = some 0 := id rfl
theorem ixN_31 : ixN 3 1 = some 1 := id rfl
theorem ixN_32 : ixN 3 2 = some 2 := id rfl
theorem ixN_20 : ixN 2 0 = some 0 := id rfl
theorem ixN_21 : ixN 2 1 = some 1 := id rfl
theorem atI_ints {ns : List Int} {i : Int} (h0 : 0 ≤ i) (h1 : i < ns.length) : ∃ n ∈ ns, atI (ns.map PyData.int) i = some (.int n) := by
  rw [atI_of h0 (by simpa using h1), List.getElem?_map, List.getElem?_eq_getElem (show i.toNat < ns.length by omega)]
  exact ⟨_, List.getElem_mem _, rfl⟩

/-! ### the law's feed: [cell, count, script] -/
def FeedP (ds : List PyData) : Prop := ∃ (c k : Int) (ns : List Int), ds = [.int c, .int k, .list (ns.map PyData.int)]

/-! ### what the top has left -/
theorem fun_ofD {K : PySem.W.Frag} {x q : Str} {st : Stmt} {f : Addr} {fd : FuncData} (F : FunD K x q (defArgs st) (defBody st) (defScope st) [] [] f fd) : Fun K x q st f fd := by
  obtain ⟨oc, od, dV, kV, doc, pm, an, cdv, ct, osl, e, lk, hc, hd, _⟩ := F.ex
  have hN : dV = .none := by
    rcases hd with ⟨_, z⟩ | ⟨z, _⟩
    · exact z
    · exact absurd rfl z
  subst hN
  exact ⟨⟨oc, od, kV, doc, pm, an, cdv, ct, osl, e, lk, hc⟩, F.kp⟩
theorem df_of {K : PySem.W.Frag} {h : Heap} {mg : Str → Option Value} {fa : List He.Fa} {fn : List He.DefD} {x : Str} {st : Stmt} {ps : List Str} (X : K.In h) (G : h.Ns mainGlobals mg) (c : He.SaysD fa fn K) (i j : Nat)
    (hd : fn[i]? = some ⟨(x, none), x, x, defArgs st, defBody st, defScope st, [], []⟩) (hf : fa[j]? = some (.glo x))
    (hb : ∀ (kV doc pm : Value) (an : Option Addr) (cdv ct : Value) (us : List Value), us.length = ps.length → bindArgs (PySem.W.fnOf x x (defArgs st) (defBody st) (defScope st) .none kV doc pm an cdv ct) ⟨us, []⟩ = pure (ps.zip us)) : Df K mg x st ps := by
  obtain ⟨fd, F⟩ := c.def_ i hd
  have F2 := fun_ofD F
  exact ⟨_, fd, F2, He.glo_ok X G (c.fact j hf), F2.binds hb⟩
/-- the law: a script's list in, True out -/
def TLaw (T : TF) : Prop := ∀ (ns : List Int) (Q : S → Ctx → Prop), ns.length ≤ 63 → ret Q (.d (.bool true)) → T [.d (.list (ns.map PyData.int))] Q
theorem law_end {P : Program} {w : World} {K : PySem.W.Frag} {mg : Str → Option Value} {k : Nat} {T : TF} {fa : Addr} {st : Stmt} (hT : TLaw T) (D : Df K mg "law" st ["script"]) (hfa : mg "law" = some (.ref fa))
    (hb : ∀ (kV doc pm : Value) (an : Option Addr) (cdv ct : Value) (u : Value), bindArgs (PySem.W.fnOf "law" "law" (defArgs st) (defBody st) (defScope st) .none kV doc pm an cdv ct) ⟨[u], []⟩ = pure [(("script" : Str), u)])
    (C : ∀ base : Heap, K.In base → base.Ns mainGlobals mg → ∀ f fd, Fun K "law" "law" st f fd → FnOk P w K mg base CX0 k f fd ["script"] (SpD K T)) :
    ∃ (fd : FuncData) (sp : Sp), (∀ (s : Shared) (u : Value), BindsTo s fd ⟨[u], []⟩ [("script", u)]) ∧
      (∀ (H : Hp) (a : Addr) (ns : List Int), ns.length ≤ 63 → Only H → SqL K H a (ns.map V.int) → sp [.ref a] H (fun v _ => v = .bl true) fun _ _ _ => False) ∧
      ∀ base : Heap, K.In base → base.Ns mainGlobals mg → FnOk P w K mg base CX0 k fa fd ["script"] sp := by
  obtain ⟨f, fd, F, hm, _⟩ := D.ex
  rw [hfa] at hm
  cases hm
  refine ⟨fd, SpD K T, ?_, ?_, fun base h1 h2 => C base h1 h2 _ fd F⟩
  · obtain ⟨oc, od, kV, doc, pm, an, cdv, ct, osl, rfl, _, _⟩ := F.ex
    exact fun s u => .of_eq (hb kV doc pm an cdv ct u)
  · intro H a ns hl _ hS
    refine ⟨H, [], [.d (.list (ns.map PyData.int))], fun r _ => r = .d (.bool true), stt_data (vs := [.ref a]) (xs := [.list (ns.map PyData.int)]) (Same.refl H) (.cons (.lst hS (dpa_ints ns)) .nil), hT ns _ hl fun _ => rfl, ?_⟩
    intro r c v s G' H' st' hr
    subst hr
    obtain ⟨A, r', _⟩ := st'.ex
    cases r' with
    | d hd _ => exact dp_bl hd
end Dl

/-! Calls to which any of a def's own things are lent. -/
namespace Dl
open PySem PySem.Spec PyProof.Rows L2

/-! ### a state, slot by slot -/
structure Fp (K : PySem.W.Frag) (B : Base) (G H : Hp) (c : Ctx) (s : L2.St) (A : List Addr) (fp : Nat → List Addr) : Prop where
  len : s.length = c.length
  d : ∀ (i : Nat) (x : PyData), c[i]? = some (S.d x) → ∃ v, s[i]? = some (some v) ∧ Dp K G v x
  f : ∀ (i : Nat) (F : FrG), c[i]? = some (S.f F) → ∃ v, s[i]? = some (some v) ∧ F.P K G v
  o : ∀ (i : Nat) (w : Option Lt) (R : Res), c[i]? = some (S.o w R) → ∃ v, s[i]? = some (some v) ∧ R.P K G H v (fp i) ∧ WOk B w v (fp i)
  nd : ∀ i, (fp i).Nodup
  dj : ∀ i j, i ≠ j → ∀ a ∈ fp i, a ∉ fp j
  sub : ∀ i, ∀ a ∈ fp i, a ∈ A
section
variable {K : PySem.W.Frag} {B : Base} {G G' H H' : Hp} {c : Ctx} {s : L2.St} {A : List Addr}
def fpCons (A : List Addr) (fp : Nat → List Addr) : Nat → List Addr
  | 0 => A
  | i + 1 => fp i
theorem fp_of (h : Reps K B G H c s A) : A.Nodup → ∃ fp, Fp K B G H c s A fp := by
  induction h with
  | nil => intro _; exact ⟨fun _ => [], rfl, by simp, by simp, by simp, by simp, by simp, by simp⟩
  | @no x c s A h ih =>
    intro nd
    obtain ⟨fp, F⟩ := ih nd
    refine ⟨fpCons [] fp, by simp [F.len], ?_, ?_, ?_, ?_, ?_, ?_⟩
    · intro i y e; cases i with
      | zero => simp at e
      | succ i => simpa using F.d i y (by simpa using e)
    · intro i y e; cases i with
      | zero => simp at e
      | succ i => simpa using F.f i y (by simpa using e)
    · intro i w R e; cases i with
      | zero => simp at e
      | succ i => simpa [fpCons] using F.o i w R (by simpa using e)
    · intro i; cases i with
      | zero => exact List.nodup_nil
      | succ i => exact F.nd i
    · intro i j hij a ha; cases i with
      | zero => simp [fpCons] at ha
      | succ i => cases j with
        | zero => simp [fpCons]
        | succ j => exact F.dj i j (fun z => hij (by rw [z])) a ha
    · intro i a ha; cases i with
      | zero => simp [fpCons] at ha
      | succ i => exact F.sub i a ha
  | @d v x c s A hd h ih =>
    intro nd
    obtain ⟨fp, F⟩ := ih nd
    refine ⟨fpCons [] fp, by simp [F.len], ?_, ?_, ?_, ?_, ?_, ?_⟩
    · intro i y e; cases i with
      | zero =>
        have e' : S.d x = S.d y := by simpa using e
        cases e'; exact ⟨v, rfl, hd⟩
      | succ i => simpa using F.d i y (by simpa using e)
    · intro i y e; cases i with
      | zero => simp at e
      | succ i => simpa using F.f i y (by simpa using e)
    · intro i w R e; cases i with
      | zero => simp at e
      | succ i => simpa [fpCons] using F.o i w R (by simpa using e)
    · intro i; cases i with
      | zero => exact List.nodup_nil
      | succ i => exact F.nd i
    · intro i j hij a ha; cases i with
      | zero => simp [fpCons] at ha
      | succ i => cases j with
        | zero => simp [fpCons]
        | succ j => exact F.dj i j (fun z => hij (by rw [z])) a ha
    · intro i a ha; cases i with
      | zero => simp [fpCons] at ha
      | succ i => exact F.sub i a ha
  | @f v x c s A hd h ih =>
    intro nd
    obtain ⟨fp, F⟩ := ih nd
    refine ⟨fpCons [] fp, by simp [F.len], ?_, ?_, ?_, ?_, ?_, ?_⟩
    · intro i y e; cases i with
      | zero => simp at e
      | succ i => simpa using F.d i y (by simpa using e)
    · intro i y e; cases i with
      | zero =>
        have e' : S.f x = S.f y := by simpa using e
        cases e'; exact ⟨v, rfl, hd⟩
      | succ i => simpa using F.f i y (by simpa using e)
    · intro i w R e; cases i with
      | zero => simp at e
      | succ i => simpa [fpCons] using F.o i w R (by simpa using e)
    · intro i; cases i with
      | zero => exact List.nodup_nil
      | succ i => exact F.nd i
    · intro i j hij a ha; cases i with
      | zero => simp [fpCons] at ha
      | succ i => cases j with
        | zero => simp [fpCons]
        | succ j => exact F.dj i j (fun z => hij (by rw [z])) a ha
    · intro i a ha; cases i with
      | zero => simp [fpCons] at ha
      | succ i => exact F.sub i a ha
  | @o w v R c s A A' ho hw h ih =>
    intro nd
    obtain ⟨n1, n2, n3⟩ := List.nodup_append.mp nd
    obtain ⟨fp, F⟩ := ih n2
    refine ⟨fpCons A fp, by simp [F.len], ?_, ?_, ?_, ?_, ?_, ?_⟩
    · intro i y e; cases i with
      | zero => simp at e
      | succ i => simpa using F.d i y (by simpa using e)
    · intro i y e; cases i with
      | zero => simp at e
      | succ i => simpa using F.f i y (by simpa using e)
    · intro i w2 R2 e; cases i with
      | zero =>
        have e' : S.o w R = S.o w2 R2 := by simpa using e
        cases e'; exact ⟨v, rfl, ho, hw⟩
      | succ i => simpa [fpCons] using F.o i w2 R2 (by simpa using e)
    · intro i; cases i with
      | zero => exact n1
      | succ i => exact F.nd i
    · intro i j hij a ha; cases i with
      | zero => cases j with
        | zero => exact absurd rfl hij
        | succ j => exact fun z => n3 a ha a (F.sub j a z) rfl
      | succ i => cases j with
        | zero => exact fun z => n3 a z a (F.sub i a ha) rfl
        | succ j => exact F.dj i j (fun z => hij (by rw [z])) a ha
    · intro i a ha; cases i with
      | zero => exact List.mem_append_left _ ha
      | succ i => exact List.mem_append_right _ (F.sub i a ha)
theorem reps_of : ∀ {c : Ctx} {s : L2.St} {fp : Nat → List Addr}, Fp K B G H c s A fp → ∃ A', Reps K B G H c s A' ∧ A'.Nodup ∧ ∀ a ∈ A', ∃ i w R, c[i]? = some (.o w R) ∧ a ∈ fp i := by
  intro c
  induction c with
  | nil =>
    intro s fp F
    have := F.len
    cases s with
    | nil => exact ⟨[], .nil, List.nodup_nil, by simp⟩
    | cons _ _ => simp at this
  | cons x c ih =>
    intro s fp F
    cases s with
    | nil => have := F.len; simp at this
    | cons v s =>
      have F2 : Fp K B G H c s A (fun i => fp (i + 1)) :=
        ⟨by have := F.len; simpa using this, fun i y e => by simpa using F.d (i + 1) y (by simpa using e), fun i y e => by simpa using F.f (i + 1) y (by simpa using e), fun i w R e => by simpa using F.o (i + 1) w R (by simpa using e), fun i => F.nd (i + 1), fun i j hij => F.dj (i + 1) (j + 1) (fun z => hij (by omega)), fun i => F.sub (i + 1)⟩
      obtain ⟨A', r, n, q⟩ := ih F2
      have q2 : ∀ a ∈ A', ∃ i w R, (x :: c)[i]? = some (S.o w R) ∧ a ∈ fp i := fun a ha => by
        obtain ⟨i, w, R, e, h⟩ := q a ha
        exact ⟨i + 1, w, R, by simpa using e, h⟩
      cases x with
      | no => exact ⟨A', .no r, n, q2⟩
      | d y =>
        obtain ⟨u, e, h⟩ := F.d 0 y rfl
        simp at e; subst e
        exact ⟨A', .d h r, n, q2⟩
      | f y =>
        obtain ⟨u, e, h⟩ := F.f 0 y rfl
        simp at e; subst e
        exact ⟨A', .f h r, n, q2⟩
      | o w R =>
        obtain ⟨u, e, h, hw⟩ := F.o 0 w R rfl
        simp at e; subst e
        refine ⟨fp 0 ++ A', .o h hw r, List.nodup_append.mpr ⟨F.nd 0, n, fun a ha b hb z => ?_⟩, fun a ha => ?_⟩
        · subst z
          obtain ⟨i, w2, R2, _, h2⟩ := q a hb
          exact F.dj 0 (i + 1) (by omega) a ha h2
        · rcases List.mem_append.mp ha with z | z
          · exact ⟨0, w, R, rfl, z⟩
          · exact q2 a z
end

/-! ### arguments: data, frozen things, slots -/
inductive Arg where
  | d (x : PyData)
  | f (F : FrG)
  | s (j : Nat)
/-- an owned thing at slot j, lent: its value u -/
def slS : Ctx → Nat → Lt → S
  | .o _ R :: _, 0, u => .o (some u) R
  | _ :: c, i + 1, u => slS c i u
  | _, _, _ => .no
theorem slS_0 {w : Option Lt} {R : Res} {c : Ctx} {u : Lt} : slS (.o w R :: c) 0 u = .o (some u) R := id rfl
theorem slS_s {x : S} {c : Ctx} {i : Nat} {u : Lt} : slS (x :: c) (i + 1) u = slS c i u := by cases x <;> rfl
theorem slS_eq : ∀ {c : Ctx} {i : Nat} {w : Option Lt} {R : Res} {u : Lt}, c[i]? = some (.o w R) → slS c i u = .o (some u) R
  | [], _, _, _, _, e => by simp at e
  | x :: c, 0, w, R, u, e => by
    have e' : x = .o w R := by simpa using e
    rw [e']; rfl
  | x :: c, i + 1, w, R, u, e => by
    rw [slS_s]
    exact slS_eq (by simpa using e)
def toS (c : Ctx) (v : Nat → Lt) : Arg → S
  | .d x => .d x
  | .f F => .f F
  | .s j => slS c j (v j)
theorem toS_d {c : Ctx} {v : Nat → Lt} {x : PyData} : toS c v (.d x) = .d x := id rfl
theorem toS_f {c : Ctx} {v : Nat → Lt} {x : FrG} : toS c v (.f x) = .f x := id rfl
theorem toS_s {c : Ctx} {v : Nat → Lt} {j : Nat} : toS c v (.s j) = slS c j (v j) := id rfl
/-- the slots lent -/
def lent : List Arg → List Nat
  | [] => []
  | .s j :: as => j :: lent as
  | .d _ :: as => lent as
  | .f _ :: as => lent as
/-- what the lent slots hold behind the call, by the callee's parameters c' -/
def back (v : Nat → Lt) : List Arg → Ctx → Ctx → (Ctx → Prop) → Prop
  | [], _, c, Q => Q c
  | .s j :: as, .o (some u) R :: c', c, Q => u = v j ∧ slO c j fun w _ => back v as c' (c.set j (.o w R)) Q
  | .s _ :: _, _, _, _ => False
  | .d _ :: as, _ :: c', c, Q => back v as c' c Q
  | .d _ :: _, [], _, _ => False
  | .f _ :: as, _ :: c', c, Q => back v as c' c Q
  | .f _ :: _, [], _, _ => False
abbrev TAr := Ctx → (List Arg → Ctx → Prop) → Prop
/-- an argument's value -/
def ArgV (K : PySem.W.Frag) (G : Hp) (s : L2.St) : Arg → V → Prop
  | .d x, v => Dp K G v x
  | .f F, v => F.P K G v
  | .s j, v => s[j]? = some (some v)
inductive ArgVs (K : PySem.W.Frag) (G : Hp) (s : L2.St) : List Arg → List V → Prop
  | nil : ArgVs K G s [] []
  | cons {a : Arg} {v : V} {as : List Arg} {vs : List V} : ArgV K G s a v → ArgVs K G s as vs → ArgVs K G s (a :: as) (v :: vs)
theorem ArgV.mono {K : PySem.W.Frag} {G G' : Hp} {s : L2.St} (e : Same G G') : ∀ {a : Arg} {v : V}, ArgV K G s a v → ArgV K G' s a v
  | .d _, _, h => dp_mono e _ _ h
  | .f F, _, h => F.grow _ _ _ _ h e
  | .s _, _, h => h
def DArv (K : PySem.W.Frag) (te : TA) (t : TAr) : Prop := ∀ (B : Base) (c : Ctx) (s : L2.St) (G H : Hp) (Q : List Arg → Ctx → Prop) (R : List V → Hp → Prop), Stt K B c s G H → t c Q →
  (∀ vs as c' G' H', Stt K B c' s G' H' → Same G G' → ArgVs K G' s as vs → Q as c' → R vs H') → te s H R
structure DAr (X : Cx) (es : List Expr) (t : TAr) : Prop where
  ex : ∃ te, PA X es te ∧ DArv X.K te t
def rNil : TAr := fun c Q => Q [] c
def rD (ta : TD) (tr : TAr) : TAr := fun c Q => ta c fun x c1 => tr c1 fun as c2 => Q (.d x :: as) c2
def rS (j : Nat) (tr : TAr) : TAr := fun c Q => slO c j fun _ _ => tr c fun as c2 => Q (.s j :: as) c2
section
variable {X : Cx} {a e : Expr} {es : List Expr} {ta : TD} {tr t : TAr} {pos p : Pos}
theorem r_nil : DAr X [] rNil := ⟨_, pa_nil, fun B c s G H Q R st q k => k [] [] c G H st (Same.refl _) .nil q⟩
theorem r_d (ha : DE X a ta) (hr : DAr X es tr) (hs : starEach (a :: es) X.env = (false, eval a X.env) :: starEach es X.env := by rfl) : DAr X (a :: es) (rD ta tr) := by
  obtain ⟨tea, pa, va⟩ := ha.ex
  obtain ⟨ter, pr, vr⟩ := hr.ex
  refine ⟨_, pa_cons pa pr hs, fun B c s G H Q R st q k => va B c s G H _ _ st q fun v x c1 G1 H1 st1 e1 d1 q1 => ?_⟩
  exact vr B c1 s G1 H1 _ _ st1 q1 fun vs xs c2 G2 H2 st2 e2 d2 q2 => k _ _ c2 G2 H2 st2 (e1.trans e2) (.cons (a := .d x) (dp_mono e2 _ _ d1) d2) q2
theorem r_s (j : Nat) {y : Str} {py : Pos} (hr : DAr X es tr) (hN : X.N[j]? = some y := by rfl) (hv : Vis X.env.scope y := by first | exact Or.inl rfl | exact Or.inr (Or.inl rfl) | exact Or.inr (Or.inr rfl)) (hd : (y == ("__debug__" : Str)) = false := by decide)
    (hcd : (y == ("__classdict__" : Str)) = false := by decide) (hs : starEach (.Name y py :: es) X.env = (false, eval (.Name y py) X.env) :: starEach es X.env := by rfl) : DAr X (.Name y py :: es) (rS j tr) := by
  obtain ⟨ter, pr, vr⟩ := hr.ex
  refine ⟨_, pa_cons (pe_var hN hv hd hcd) pr hs, fun B c s G H Q R st q k => ?_⟩
  obtain ⟨w, R0, e0, q⟩ := slO_of q
  obtain ⟨u, hu⟩ := st.own_at e0
  exact ⟨u, hu, vr B c s G H _ _ st q fun vs xs c2 G2 H2 st2 e2 d2 q2 => k _ _ c2 G2 H2 st2 e2 (.cons (a := .s j) hu d2) q2⟩
end
/-- the values of the slots -/
def slV (s : L2.St) (j : Nat) : V := match s[j]? with
  | some (some v) => v
  | _ => .non
theorem slV_eq {s : L2.St} {j : Nat} {v : V} (h : s[j]? = some (some v)) : slV s j = v := by unfold slV; rw [h]
section
variable {K : PySem.W.Frag} {B : Base} {c : Ctx} {s : L2.St} {G H : Hp} {as : List Arg} {vs : List V}
theorem lent_mem : ∀ {as : List Arg} {j : Nat}, j ∈ lent as ↔ ∃ i : Nat, as[i]? = some (Arg.s j)
  | [], j => by simp [lent]
  | .d x :: as, j => by
    rw [show lent (.d x :: as) = lent as from rfl, lent_mem]
    constructor
    · rintro ⟨i, e⟩; exact ⟨i + 1, by simpa using e⟩
    · rintro ⟨i, e⟩
      cases i with
      | zero => simp at e
      | succ i => exact ⟨i, by simpa using e⟩
  | .f x :: as, j => by
    rw [show lent (.f x :: as) = lent as from rfl, lent_mem]
    constructor
    · rintro ⟨i, e⟩; exact ⟨i + 1, by simpa using e⟩
    · rintro ⟨i, e⟩
      cases i with
      | zero => simp at e
      | succ i => exact ⟨i, by simpa using e⟩
  | .s k :: as, j => by
    rw [show lent (.s k :: as) = k :: lent as from rfl, List.mem_cons, lent_mem]
    constructor
    · rintro (rfl | ⟨i, e⟩)
      · exact ⟨0, rfl⟩
      · exact ⟨i + 1, by simpa using e⟩
    · rintro ⟨i, e⟩
      cases i with
      | zero =>
        have e' : Arg.s k = Arg.s j := by simpa using e
        cases e'; exact .inl rfl
      | succ i => exact .inr ⟨i, by simpa using e⟩
/-- the words behind a call, put back: which slot holds what -/
theorem back_of {v : Nat → Lt} {Q : Ctx → Prop} : ∀ {as : List Arg} {c' c : Ctx}, (lent as).Nodup → back v as c' c Q →
    ∃ c2 : Ctx, Q c2 ∧ c2.length = c.length ∧ (∀ j, j ∉ lent as → c2[j]? = c[j]?) ∧ ∀ (i j : Nat), as[i]? = some (Arg.s j) → ∃ (w : Option Lt) (R R0 : Res), c'[i]? = some (S.o (some (v j)) R) ∧ c2[j]? = some (S.o w R) ∧ c[j]? = some (S.o w R0)
  | [], _, c, _, h => ⟨c, h, rfl, fun _ _ => rfl, by simp⟩
  | .d x :: as, [], c, _, h => h.elim
  | .f x :: as, [], c, _, h => h.elim
  | .d x :: as, y :: c', c, nd, h => by
    obtain ⟨c2, q, l, h1, h2⟩ := back_of (as := as) nd h
    refine ⟨c2, q, l, h1, fun i j e => ?_⟩
    cases i with
    | zero => simp at e
    | succ i => simpa using h2 i j (by simpa using e)
  | .f x :: as, y :: c', c, nd, h => by
    obtain ⟨c2, q, l, h1, h2⟩ := back_of (as := as) nd h
    refine ⟨c2, q, l, h1, fun i j e => ?_⟩
    cases i with
    | zero => simp at e
    | succ i => simpa using h2 i j (by simpa using e)
  | .s j :: as, [], c, _, h => h.elim
  | .s j :: as, .no :: c', c, _, h => h.elim
  | .s j :: as, .d _ :: c', c, _, h => h.elim
  | .s j :: as, .f _ :: c', c, _, h => h.elim
  | .s j :: as, .o none _ :: c', c, _, h => h.elim
  | .s j :: as, .o (some u) R :: c', c, nd, h => by
    obtain ⟨m1, m2⟩ := List.nodup_cons.mp (show (j :: lent as).Nodup from nd)
    obtain ⟨hu, h⟩ := h
    obtain ⟨w, R0, e0, h⟩ := slO_of h
    obtain ⟨c2, q, l, h1, h2⟩ := back_of (as := as) m2 h
    have hj : j < c.length := (List.getElem?_eq_some_iff.mp e0).1
    have ej : c2[j]? = some (.o w R) := by rw [h1 j m1, List.getElem?_set_self hj]
    refine ⟨c2, q, by rw [l, List.length_set], fun k hk => ?_, fun i k e => ?_⟩
    · have hk' : k ∉ j :: lent as := hk
      rw [h1 k (fun z => hk' (List.mem_cons_of_mem _ z)), List.getElem?_set_ne (fun z => hk' (by rw [z]; exact List.mem_cons_self))]
    · cases i with
      | zero =>
        have e' : Arg.s j = Arg.s k := by simpa using e
        cases e'
        exact ⟨w, R, R0, by rw [hu]; rfl, ej, e0⟩
      | succ i =>
        obtain ⟨w2, R2, R3, g1, g2, g3⟩ := h2 i k (by simpa using e)
        have kj : j ≠ k := fun z => m1 (by rw [z]; exact lent_mem.mpr ⟨i, by simpa using e⟩)
        rw [List.getElem?_set_ne kj] at g3
        exact ⟨w2, R2, R3, by simpa using g1, g2, g3⟩
theorem lent_one : ∀ {as : List Arg} {i i' j : Nat}, (lent as).Nodup → as[i]? = some (Arg.s j) → as[i']? = some (Arg.s j) → i = i'
  | [], i, _, _, _, e, _ => by simp at e
  | a :: as, 0, 0, _, _, _, _ => rfl
  | a :: as, 0, i' + 1, j, nd, e, e' => by
    have ea : a = .s j := by simpa using e
    rw [ea] at nd
    exact absurd (lent_mem.mpr ⟨i', by simpa using e'⟩) (List.nodup_cons.mp (show (j :: lent as).Nodup from nd)).1
  | a :: as, i + 1, 0, j, nd, e, e' => by
    have ea : a = .s j := by simpa using e'
    rw [ea] at nd
    exact absurd (lent_mem.mpr ⟨i, by simpa using e⟩) (List.nodup_cons.mp (show (j :: lent as).Nodup from nd)).1
  | a :: as, i + 1, i' + 1, j, nd, e, e' => by
    have nd' : (lent as).Nodup := by
      cases a with
      | d _ => exact nd
      | f _ => exact nd
      | s k => exact (List.nodup_cons.mp (show (k :: lent as).Nodup from nd)).2
    exact congrArg (· + 1) (lent_one (j := j) nd' (by simpa using e) (by simpa using e'))
/-- THE RULE for lending -/
theorem lendA (st : Stt K B c s G H) (hl : ∀ j ∈ lent as, ∃ w R, c[j]? = some (.o w R)) (nd : (lent as).Nodup) (hv : ArgVs K G s as vs) :
    ∃ (io : List Addr) (tg : Nat → Lt), Stt K ⟨H, G, io⟩ (as.map (toS c tg)) (vs.map some) G H ∧
      ∀ {r : S} {c' : Ctx} {vr : V} {s' : L2.St} {G' H' : Hp} {Q : Ctx → Prop}, Stt K ⟨H, G, io⟩ (r :: c') (some vr :: s') G' H' → back tg as c' c Q →
        Same G G' ∧ ∃ c2, Q c2 ∧ (∀ x, r = .d x → Dp K G' vr x ∧ Stt K B c2 s G' H') ∧ ∀ R2, r = .o none R2 → Stt K B (.o none R2 :: c2) (some vr :: s) G' H' := by
  obtain ⟨A, r0, w0⟩ := st.ex
  obtain ⟨fp, F⟩ := fp_of r0 w0.nd
  have hA : ∀ i, ∀ a ∈ fp i, H a ≠ none := fun i a ha => r0.here a (F.sub i a ha)
  -- what the callee gets: by induction over the arguments
  have ent : ∀ {as : List Arg} {vs : List V}, ArgVs K G s as vs → (lent as).Nodup → (∀ j ∈ lent as, ∃ w R, c[j]? = some (.o w R)) → ∀ io : List Addr, ∃ A', Reps K ⟨H, G, io⟩ G H (as.map (toS c fun j => ⟨slV s j, fp j⟩)) (vs.map some) A' ∧ A'.Nodup ∧ ∀ a, a ∈ A' ↔ ∃ j ∈ lent as, a ∈ fp j := by
    intro as vs hv
    induction hv with
    | nil => intro _ _ io; exact ⟨[], .nil, List.nodup_nil, by simp [lent]⟩
    | @cons a v as vs h1 h2 ih =>
      intro nd hl io
      cases a with
      | d x =>
        obtain ⟨A', r', n', q'⟩ := ih nd hl io
        exact ⟨A', .d h1 r', n', q'⟩
      | f x =>
        obtain ⟨A', r', n', q'⟩ := ih nd hl io
        exact ⟨A', .f h1 r', n', q'⟩
      | s j =>
        obtain ⟨m1, m2⟩ := List.nodup_cons.mp (show (j :: lent as).Nodup from nd)
        obtain ⟨A', r', n', q'⟩ := ih m2 (fun k hk => hl k (List.mem_cons_of_mem _ hk)) io
        obtain ⟨w, R, e⟩ := hl j List.mem_cons_self
        obtain ⟨u, hu, hP, hW⟩ := F.o j w R e
        have h1' : s[j]? = some (some v) := h1
        rw [hu] at h1'
        cases h1'
        have e1 : toS c (fun j => ⟨slV s j, fp j⟩) (.s j) = .o (some ⟨v, fp j⟩) R := by rw [toS_s, slV_eq hu]; exact slS_eq e
        refine ⟨fp j ++ A', ?_, List.nodup_append.mpr ⟨F.nd j, n', fun a ha b hb z => ?_⟩, fun a => ?_⟩
        · rw [List.map_cons, e1, List.map_cons]
          exact .o hP ⟨rfl, fun a ha => .inl ha⟩ r'
        · subst z
          obtain ⟨k, hk, hk2⟩ := (q' a).mp hb
          exact F.dj j k (fun z => m1 (z ▸ hk)) a ha hk2
        · rw [List.mem_append, q']
          constructor
          · rintro (z | ⟨k, hk, z⟩)
            · exact ⟨j, List.mem_cons_self, z⟩
            · exact ⟨k, List.mem_cons_of_mem _ hk, z⟩
          · rintro ⟨k, hk, z⟩
            rcases List.mem_cons.mp hk with rfl | hk
            · exact .inl z
            · exact .inr ⟨k, hk, z⟩
  obtain ⟨io, _, _, hio⟩ := ent hv nd hl []
  obtain ⟨A1, r1, n1, h1⟩ := ent hv nd hl io
  have hioA : ∀ a ∈ io, a ∈ A := fun a ha => let ⟨j, _, z⟩ := (hio a).mp ha; F.sub j a z
  refine ⟨io, fun j => ⟨slV s j, fp j⟩, ⟨A1, r1, w0.sub, n1, fun a ha => w0.out a (let ⟨j, _, z⟩ := (h1 a).mp ha; F.sub j a z), Same.refl _, fun a o q _ => q, fun a q => q, fun a q => rfl, fun a ha => .inl ((hio a).mpr ((h1 a).mp ha))⟩, ?_⟩
  intro r c' vr s' G' H' Q st' hb
  obtain ⟨A', r', wd⟩ := st'.ex
  obtain ⟨fp', F'⟩ := fp_of r' wd.nd
  have keepA := keep_after r0.here wd
  obtain ⟨c2, q2, l2, k1, k2⟩ := back_of nd hb
  -- the footprints behind the call
  let fq : Nat → List Addr := fun j => open Classical in if h : ∃ i : Nat, as[i]? = some (Arg.s j) then fp' (h.choose + 1) else match c[j]? with
    | some (.o _ _) => fp j
    | _ => []
  have fqL : ∀ i j, as[i]? = some (Arg.s j) → fq j = fp' (i + 1) := fun i j e => by
    have h : ∃ i : Nat, as[i]? = some (Arg.s j) := ⟨i, e⟩
    show (open Classical in if h : ∃ i : Nat, as[i]? = some (Arg.s j) then fp' (h.choose + 1) else _) = _
    rw [dif_pos h, lent_one nd h.choose_spec e]
  have fqN : ∀ j, j ∉ lent as → ∀ w R, c[j]? = some (.o w R) → fq j = fp j := fun j hj w R e => by
    have h : ¬ ∃ i : Nat, as[i]? = some (Arg.s j) := fun z => hj (lent_mem.mpr z)
    show (open Classical in if h : ∃ i : Nat, as[i]? = some (Arg.s j) then fp' (h.choose + 1) else _) = _
    rw [dif_neg h, e]
  have fqE : ∀ j, j ∉ lent as → (∀ w R, c[j]? ≠ some (.o w R)) → fq j = [] := fun j hj ne => by
    have h : ¬ ∃ i : Nat, as[i]? = some (Arg.s j) := fun z => hj (lent_mem.mpr z)
    show (open Classical in if h : ∃ i : Nat, as[i]? = some (Arg.s j) then fp' (h.choose + 1) else _) = _
    rw [dif_neg h]
    cases q : c[j]? with
    | none => rfl
    | some x =>
      cases x with
      | o w R => exact absurd q (ne w R)
      | _ => rfl
  -- a slot's footprint lies in what it had, or is new
  have fqS : ∀ j a, a ∈ fq j → (a ∈ fp j ∨ H a = none) ∧ ((∃ i : Nat, as[i]? = some (Arg.s j) ∧ a ∈ fp' (i + 1)) ∨ (j ∉ lent as ∧ a ∈ fp j)) := fun j a ha => by
    by_cases hj : j ∈ lent as
    · obtain ⟨i, e⟩ := lent_mem.mp hj
      rw [fqL i j e] at ha
      obtain ⟨w, R, R0, g1, g2, g3⟩ := k2 i j e
      obtain ⟨v', _, _, hw⟩ := F'.o (i + 1) _ R (by simpa using g1)
      exact ⟨hw.2 a ha, .inl ⟨i, e, ha⟩⟩
    · by_cases ho : ∃ w R, c[j]? = some (S.o w R)
      · obtain ⟨w, R, e⟩ := ho
        rw [fqN j hj w R e] at ha
        exact ⟨.inl ha, .inr ⟨hj, ha⟩⟩
      · rw [fqE j hj fun w R e => ho ⟨w, R, e⟩] at ha
        simp at ha
  have nio : ∀ j, j ∉ lent as → ∀ a ∈ fp j, a ∉ io := fun j hj a ha z => by
    obtain ⟨k, hk, z⟩ := (hio a).mp z
    exact F.dj j k (fun e => hj (e ▸ hk)) a ha z
  have FQ : Fp K B G' H' c2 s (A ++ A') fq := by
    refine ⟨by rw [l2]; exact F.len, fun j x e => ?_, fun j x e => ?_, fun j w R e => ?_, fun j => ?_, fun i j hij a ha hb => ?_, fun j a ha => ?_⟩
    · have hj : j ∉ lent as := fun z => by
        obtain ⟨i, ei⟩ := lent_mem.mp z
        obtain ⟨w, R, R0, g1, g2, g3⟩ := k2 i j ei
        rw [e] at g2; cases g2
      rw [k1 j hj] at e
      obtain ⟨v, e1, d1⟩ := F.d j x e
      exact ⟨v, e1, dp_mono wd.old _ _ d1⟩
    · have hj : j ∉ lent as := fun z => by
        obtain ⟨i, ei⟩ := lent_mem.mp z
        obtain ⟨w, R, R0, g1, g2, g3⟩ := k2 i j ei
        rw [e] at g2; cases g2
      rw [k1 j hj] at e
      obtain ⟨v, e1, d1⟩ := F.f j x e
      exact ⟨v, e1, x.grow _ _ _ _ d1 wd.old⟩
    · by_cases hj : j ∈ lent as
      · obtain ⟨i, ei⟩ := lent_mem.mp hj
        obtain ⟨w2, R2, R0, g1, g2, g3⟩ := k2 i j ei
        rw [e] at g2
        cases g2
        obtain ⟨u, hu, hP, hW⟩ := F.o j w R0 g3
        obtain ⟨v', _, hP', hw'⟩ := F'.o (i + 1) _ R (by simpa using g1)
        obtain ⟨ev, hw'⟩ := hw'
        have ev : v' = slV s j := ev
        rw [slV_eq hu] at ev
        subst ev
        rw [fqL i j ei]
        have hs : ∀ a ∈ fp' (i + 1), a ∈ fp j ∨ H a = none := hw'
        refine ⟨v', hu, hP', ?_⟩
        cases w with
        | none =>
          intro a ha
          rcases hs a ha with z | z
          · exact hW a z
          · exact w0.dom a z
        | some t =>
          refine ⟨hW.1, fun a ha => ?_⟩
          rcases hs a ha with z | z
          · exact hW.2 a z
          · exact .inr (w0.dom a z)
      · rw [k1 j hj] at e
        obtain ⟨u, hu, hP, hW⟩ := F.o j w R e
        rw [fqN j hj w R e]
        exact ⟨u, hu, Res.mono hP wd.old fun a ha => keepA a (F.sub j a ha) (nio j hj a ha), hW⟩
    · by_cases hj : j ∈ lent as
      · obtain ⟨i, ei⟩ := lent_mem.mp hj
        rw [fqL i j ei]
        exact F'.nd _
      · by_cases ho : ∃ w R, c[j]? = some (S.o w R)
        · obtain ⟨w, R, e⟩ := ho
          rw [fqN j hj w R e]
          exact F.nd j
        · rw [fqE j hj fun w R e => ho ⟨w, R, e⟩]
          exact List.nodup_nil
    · obtain ⟨p1, p2⟩ := fqS i a ha
      obtain ⟨p3, p4⟩ := fqS j a hb
      rcases p2 with ⟨m, em, z⟩ | ⟨hi, z⟩
      · rcases p4 with ⟨m', em', z'⟩ | ⟨hj, z'⟩
        · refine F'.dj (m + 1) (m' + 1) (fun e => ?_) a z z'
          have e2 : m = m' := by omega
          rw [e2, em'] at em
          cases em
          exact hij rfl
        · rcases p1 with y | y
          · exact F.dj i j hij a y z'
          · exact hA j a z' y
      · rcases p4 with ⟨m', em', z'⟩ | ⟨hj, z'⟩
        · rcases p3 with y | y
          · exact F.dj j i (Ne.symm hij) a y z
          · exact hA i a z y
        · exact F.dj i j hij a z z'
    · rcases (fqS j a ha).2 with ⟨m, em, z⟩ | ⟨_, z⟩
      · exact List.mem_append_right _ (F'.sub _ a z)
      · exact List.mem_append_left _ (F.sub j a z)
  obtain ⟨A2, r2, n2, h2⟩ := reps_of FQ
  have inA : ∀ a ∈ A2, (∃ m, a ∈ fp' (m + 1)) ∨ (a ∈ A ∧ a ∉ io) := fun a ha => by
    obtain ⟨j, w, R, e, z⟩ := h2 a ha
    rcases (fqS j a z).2 with ⟨m, _, y⟩ | ⟨hj, y⟩
    · exact .inl ⟨m, y⟩
    · exact .inr ⟨F.sub j a y, nio j hj a y⟩
  refine ⟨wd.old, c2, q2, fun x hx => ?_, fun R2 hx => ?_⟩
  · subst hx
    obtain ⟨v, e, hd⟩ := F'.d 0 x rfl
    simp at e
    subst e
    refine ⟨hd, A2, r2, wd_after w0 r0.here hioA wd n2 fun a ha => ?_⟩
    rcases inA a ha with ⟨m, z⟩ | z
    · exact .inl (F'.sub _ a z)
    · exact .inr z
  · subst hx
    obtain ⟨v, e, hP, hW⟩ := F'.o 0 none R2 rfl
    simp at e
    subst e
    have hW' : ∀ a ∈ fp' 0, H a = none := hW
    refine ⟨fp' 0 ++ A2, .o hP (fun a ha => w0.dom a (hW' a ha)) r2, wd_after w0 r0.here hioA wd (List.nodup_append.mpr ⟨F'.nd 0, n2, fun a ha b hb z => ?_⟩) fun a ha => ?_⟩
    · subst z
      rcases inA a hb with ⟨m, z⟩ | ⟨z, _⟩
      · exact F'.dj 0 (m + 1) (by omega) a ha z
      · exact r0.here a z (hW' a ha)
    · rcases List.mem_append.mp ha with z | z
      · exact .inl (F'.sub 0 a z)
      · rcases inA a z with ⟨m, z⟩ | z
        · exact .inl (F'.sub _ a z)
        · exact .inr z
/-- what is done with a call's answer where slots were lent -/
def kA (v : Nat → Lt) (as : List Arg) (c1 : Ctx) (Q : PyData → Ctx → Prop) : S → Ctx → Prop := fun r c' => back v as c' c1 fun c2 => kD (fun x => Q x c2) r c'
def kAO (v : Nat → Lt) (as : List Arg) (c1 : Ctx) (Q : Res → Ctx → Prop) : S → Ctx → Prop := fun r c' => back v as c' c1 fun c2 => kO (fun x => Q x c2) r c'
/-- the def's parameters at its end, as far as they were lent -/
def Pat (ls : List (Option (Lt × Res))) (c' : Ctx) : Prop := ls.length ≤ c'.length ∧ ∀ (i : Nat) (u : Lt) (R : Res), ls[i]? = some (some (u, R)) → c'[i]? = some (.o (some u) R)
def retA (ls : List (Option (Lt × Res))) (Q : S → Ctx → Prop) (r : S) : Prop := ∀ c', Pat ls c' → Q r c'
def backL (v : Nat → Lt) : List Arg → List (Option (Lt × Res)) → Ctx → (Ctx → Prop) → Prop
  | [], _, c, Q => Q c
  | .s j :: as, some (u, R) :: ls, c, Q => u = v j ∧ slO c j fun w _ => backL v as ls (c.set j (.o w R)) Q
  | .s _ :: _, _, _, _ => False
  | .d _ :: as, _ :: ls, c, Q => backL v as ls c Q
  | .d _ :: _, [], _, _ => False
  | .f _ :: as, _ :: ls, c, Q => backL v as ls c Q
  | .f _ :: _, [], _, _ => False
theorem pat_tail {x : Option (Lt × Res)} {ls : List (Option (Lt × Res))} {y : S} {c' : Ctx} (h : Pat (x :: ls) (y :: c')) : Pat ls c' :=
  ⟨by have := h.1; simp at this; exact this, fun i u R e => by simpa using h.2 (i + 1) u R (by simpa using e)⟩
theorem back_pat {v : Nat → Lt} {Q : Ctx → Prop} : ∀ {as : List Arg} {ls : List (Option (Lt × Res))} {c' c : Ctx}, Pat ls c' → backL v as ls c Q → back v as c' c Q
  | [], _, _, _, _, h => h
  | .s j :: as, some (u, R) :: ls, [], c, p, h => by have := p.1; simp at this
  | .s j :: as, some (u, R) :: ls, y :: c', c, p, h => by
    have e : y = .o (some u) R := by simpa using p.2 0 u R rfl
    subst e
    obtain ⟨h1, h2⟩ := h
    refine ⟨h1, ?_⟩
    obtain ⟨w, R0, e0, q⟩ := slO_of h2
    have key : ∀ {c : Ctx} {j : Nat} {w : Option Lt} {R : Res} {P : Option Lt → Res → Prop}, c[j]? = some (.o w R) → P w R → slO c j P := by
      intro c
      induction c with
      | nil => intro j w R P e; simp at e
      | cons x c ih =>
        intro j w R P e p
        cases j with
        | zero =>
          have e' : x = .o w R := by simpa using e
          rw [e']; exact p
        | succ j => rw [slO_s]; exact ih (by simpa using e) p
    exact key e0 (back_pat (pat_tail p) q)
  | .s _ :: _, [], _, _, _, h => h.elim
  | .s _ :: _, none :: _, _, _, _, h => h.elim
  | .d _ :: as, _ :: ls, [], c, p, h => by have := p.1; simp at this
  | .d _ :: as, _ :: ls, _ :: c', c, p, h => back_pat (as := as) (pat_tail p) h
  | .d _ :: _, [], _, _, _, h => h.elim
  | .f _ :: as, _ :: ls, [], c, p, h => by have := p.1; simp at this
  | .f _ :: as, _ :: ls, _ :: c', c, p, h => back_pat (as := as) (pat_tail p) h
  | .f _ :: _, [], _, _, _, h => h.elim
def patS : Option (Lt × Res) → S
  | some (u, R) => .o (some u) R
  | none => .no
theorem pat_self (ls : List (Option (Lt × Res))) : Pat ls (ls.map patS) := ⟨by simp, fun i u R e => by rw [List.getElem?_map, e]; rfl⟩
theorem back_self {v : Nat → Lt} {Q : Ctx → Prop} : ∀ {as : List Arg} {ls : List (Option (Lt × Res))} {c : Ctx}, back v as (ls.map patS) c Q → backL v as ls c Q
  | [], _, _, h => h
  | .s j :: as, some (u, R) :: ls, c, h => by
    obtain ⟨h1, h2⟩ := h
    refine ⟨h1, ?_⟩
    obtain ⟨w, R0, e0, q⟩ := slO_of h2
    have key : ∀ {c : Ctx} {j : Nat} {w : Option Lt} {R : Res} {P : Option Lt → Res → Prop}, c[j]? = some (.o w R) → P w R → slO c j P := by
      intro c
      induction c with
      | nil => intro j w R P e; simp at e
      | cons x c ih =>
        intro j w R P e p
        cases j with
        | zero =>
          have e' : x = .o w R := by simpa using e
          rw [e']; exact p
        | succ j => rw [slO_s]; exact ih (by simpa using e) p
    exact key e0 (back_self q)
  | .s _ :: _, [], _, h => h.elim
  | .s _ :: _, none :: _, _, h => h.elim
  | .d _ :: as, _ :: ls, c, h => back_self (as := as) (ls := ls) h
  | .d _ :: _, [], _, h => h.elim
  | .f _ :: as, _ :: ls, c, h => back_self (as := as) (ls := ls) h
  | .f _ :: _, [], _, h => h.elim
theorem retA_d {v : Nat → Lt} {as : List Arg} {ls : List (Option (Lt × Res))} {c1 : Ctx} {Q : PyData → Ctx → Prop} {x : PyData} : retA ls (kA v as c1 Q) (.d x) = backL v as ls c1 fun c2 => Q x c2 :=
  propext ⟨fun h => back_self (h _ (pat_self ls)), fun h c' p => back_pat p h⟩
theorem retA_o {v : Nat → Lt} {as : List Arg} {ls : List (Option (Lt × Res))} {c1 : Ctx} {Q : PyData → Ctx → Prop} {R : Res} : retA ls (kA v as c1 Q) (.o none R) = backL v as ls c1 fun c2 => R.fz fun x => Q x c2 :=
  propext ⟨fun h => back_self (h _ (pat_self ls)), fun h c' p => back_pat p h⟩
theorem retA_O {v : Nat → Lt} {as : List Arg} {ls : List (Option (Lt × Res))} {c1 : Ctx} {Q : Res → Ctx → Prop} {R : Res} : retA ls (kAO v as c1 Q) (.o none R) = backL v as ls c1 fun c2 => Q R c2 :=
  propext ⟨fun h => back_self (h _ (pat_self ls)), fun h c' p => back_pat p h⟩
theorem backL_n {v : Nat → Lt} {ls : List (Option (Lt × Res))} {c : Ctx} {Q : Ctx → Prop} : backL v [] ls c Q = Q c := id rfl
theorem backL_s {v : Nat → Lt} {j : Nat} {as : List Arg} {R : Res} {ls : List (Option (Lt × Res))} {c : Ctx} {Q : Ctx → Prop} : backL v (.s j :: as) (some (v j, R) :: ls) c Q = slO c j fun w _ => backL v as ls (c.set j (.o w R)) Q := propext ⟨fun h => h.2, fun h => ⟨rfl, h⟩⟩
theorem backL_d {v : Nat → Lt} {x : PyData} {as : List Arg} {y : Option (Lt × Res)} {ls : List (Option (Lt × Res))} {c : Ctx} {Q : Ctx → Prop} : backL v (.d x :: as) (y :: ls) c Q = backL v as ls c Q := id rfl
theorem backL_f {v : Nat → Lt} {x : FrG} {as : List Arg} {y : Option (Lt × Res)} {ls : List (Option (Lt × Res))} {c : Ctx} {Q : Ctx → Prop} : backL v (.f x :: as) (y :: ls) c Q = backL v as ls c Q := id rfl
/-- the slots lent are there, no two alike -/
def lentOk (c : Ctx) : List Arg → Prop
  | [] => True
  | .s j :: as => (slO c j fun _ _ => True) ∧ j ∉ lent as ∧ lentOk c as
  | .d _ :: as => lentOk c as
  | .f _ :: as => lentOk c as
theorem lentOk_of {c : Ctx} : ∀ {as : List Arg}, lentOk c as → (∀ j ∈ lent as, ∃ w R, c[j]? = some (S.o w R)) ∧ (lent as).Nodup
  | [], _ => ⟨by simp [lent], List.nodup_nil⟩
  | .d _ :: as, h => lentOk_of (as := as) h
  | .f _ :: as, h => lentOk_of (as := as) h
  | .s j :: as, h => by
    obtain ⟨h1, h2, h3⟩ := h
    obtain ⟨i1, i2⟩ := lentOk_of h3
    obtain ⟨w, R, e, _⟩ := slO_of h1
    refine ⟨fun k hk => ?_, List.nodup_cons.mpr ⟨h2, i2⟩⟩
    rcases List.mem_cons.mp hk with rfl | hk
    · exact ⟨w, R, e⟩
    · exact i1 k hk
end
section
variable {X : Cx} {e : Expr} {es : List Expr} {t : TAr} {x : Str} {p pos : Pos} {k : Nat} {ps : List Str} {T : TF}
def uCallA (T : TF) (t : TAr) : TD := fun c Q => t c fun as c1 => lentOk c1 as ∧ ∀ v : Nat → Lt, T (as.map (toS c1 v)) (kA v as c1 Q)
theorem d_callA (C : Cal X.prog X.w X.K X.mg X.base x k ps T) (hr : Room k X.A) (ha : DAr X (e :: es) t) (hg : Gl X x := by rfl)
    (hdb : (x == ("__debug__" : Str)) = false := by decide) (he : starEach (e :: es) X.env = (false, eval e X.env) :: starEach es X.env := by rfl) (hpl : (backTo pos (starEach es X.env)).any (·.1) = false := by rfl) : DE X (.Call (.Name x p) (e :: es) [] pos) (uCallA T t) := by
  obtain ⟨f, fd, h1, h2, h3, h4⟩ := C.ex
  obtain ⟨ta, pa, va⟩ := ha.ex
  refine ⟨_, pe_call h1 hr hg h2 h3 h4 .nil pass0 pa hdb he hpl, fun B c s G H Q R st q k => va B c s G H _ _ st q fun vs as c1 G1 H1 st1 e1 d1 q1 => ?_⟩
  obtain ⟨hl, q1⟩ := q1
  obtain ⟨l1, l2⟩ := lentOk_of hl
  obtain ⟨io, tg, st2, aft⟩ := lendA st1 l1 l2 d1
  rw [List.append_nil]
  refine ⟨G1, io, _, _, st2, q1 tg, fun r c' vr s' G' H' st' q2 => ?_⟩
  obtain ⟨e2, c2, q3, g1, g2⟩ := aft st' q2
  cases r with
  | d y =>
    obtain ⟨hd, st3⟩ := g1 y rfl
    exact k vr y _ G' H' st3 (e1.trans e2) hd q3
  | o w R2 =>
    cases w with
    | none =>
      obtain ⟨G2, d, a1, a2, a3, a4⟩ := (g2 R2 rfl).frzR q3
      exact k vr d _ G2 H' a1 ((e1.trans e2).trans a2) a3 a4
    | some _ => exact q3.elim
  | no => exact q3.elim
  | f _ => exact q3.elim
def oCallA (T : TF) (t : TAr) : TR := fun c Q => t c fun as c1 => lentOk c1 as ∧ ∀ v : Nat → Lt, T (as.map (toS c1 v)) (kAO v as c1 Q)
theorem o_callA (C : Cal X.prog X.w X.K X.mg X.base x k ps T) (hr : Room k X.A) (ha : DAr X (e :: es) t) (hg : Gl X x := by rfl)
    (hdb : (x == ("__debug__" : Str)) = false := by decide) (he : starEach (e :: es) X.env = (false, eval e X.env) :: starEach es X.env := by rfl) (hpl : (backTo pos (starEach es X.env)).any (·.1) = false := by rfl) : DO X (.Call (.Name x p) (e :: es) [] pos) (oCallA T t) := by
  obtain ⟨f, fd, h1, h2, h3, h4⟩ := C.ex
  obtain ⟨ta, pa, va⟩ := ha.ex
  refine ⟨_, pe_call h1 hr hg h2 h3 h4 .nil pass0 pa hdb he hpl, fun B c s G H Q R st q k => va B c s G H _ _ st q fun vs as c1 G1 H1 st1 e1 d1 q1 => ?_⟩
  obtain ⟨hl, q1⟩ := q1
  obtain ⟨l1, l2⟩ := lentOk_of hl
  obtain ⟨io, tg, st2, aft⟩ := lendA st1 l1 l2 d1
  rw [List.append_nil]
  refine ⟨G1, io, _, _, st2, q1 tg, fun r c' vr s' G' H' st' q2 => ?_⟩
  obtain ⟨e2, c2, q3, g1, g2⟩ := aft st' q2
  cases r with
  | o w R2 =>
    cases w with
    | none => exact k vr R2 _ G' H' (g2 R2 rfl) (e1.trans e2) q3
    | some _ => exact q3.elim
  | d _ => exact q3.elim
  | no => exact q3.elim
  | f _ => exact q3.elim
end
instance : Inhabited (Nat → Lt) := ⟨fun _ => default⟩
end Dl

/-! Things looked at (data or owned), methods of lists, comprehensions. -/
namespace Dl
open PySem PySem.Spec PyProof.Rows L2

/-! ### what is seen of a value: a list's items are frozen, the list itself may be owned -/
def Vw (K : PySem.W.Frag) (G H : Hp) (v : V) (x : PyData) : Prop := Dp K G v x ∨ ∃ p vs ds, v = .ref p ∧ x = .list ds ∧ SqL K H p vs ∧ DpAll K G vs ds
section
variable {K : PySem.W.Frag} {B : Base} {G G' H H' : Hp} {c : Ctx} {s : L2.St} {v : V} {x : PyData}
theorem Vw.dp (h : Vw K G H v x) (e : Same G H) : Dp K H v x := by
  rcases h with h | ⟨p, vs, ds, rfl, rfl, h1, h2⟩
  · exact dp_mono e _ _ h
  · exact .lst h1 (dpa_mono e _ _ h2)
theorem Vw.lst {ds : List PyData} (h : Vw K G H v (.list ds)) (e : Same G H) : ∃ p vs, v = .ref p ∧ SqL K H p vs ∧ DpAll K G vs ds := by
  rcases h with h | ⟨p, vs, ds, rfl, e1, h1, h2⟩
  · obtain ⟨p, vs, rfl, h1, h2⟩ := dp_lst h
    exact ⟨p, vs, rfl, Same.seq e h1, h2⟩
  · cases e1
    exact ⟨p, vs, rfl, h1, h2⟩
theorem Vw.oth (h : Vw K G H v x) (hx : ∀ ds, x ≠ .list ds) : Dp K G v x := by
  rcases h with h | ⟨p, vs, ds, rfl, rfl, h1, h2⟩
  · exact h
  · exact absurd rfl (hx ds)
end
/-- what slot i holds, seen -/
def slW : Ctx → Nat → (PyData → Prop) → Prop
  | .d x :: _, 0, Q => Q x
  | .o _ (.lst ds) :: _, 0, Q => Q (.list ds)
  | .o _ (.lstP P) :: _, 0, Q => ∀ ds, P ds → Q (.list ds)
  | _ :: c, i + 1, Q => slW c i Q
  | _, _, _ => False
section
variable {x : PyData} {y : S} {w : Option Lt} {ds : List PyData} {P : List PyData → Prop} {c : Ctx} {i : Nat} {Q : PyData → Prop}
theorem slW_d : slW (.d x :: c) 0 Q = Q x := id rfl
theorem slW_o : slW (.o w (.lst ds) :: c) 0 Q = Q (.list ds) := id rfl
theorem slW_P : slW (.o w (.lstP P) :: c) 0 Q = ∀ ds, P ds → Q (.list ds) := id rfl
theorem slW_s : slW (y :: c) (i + 1) Q = slW c i Q := by
  cases y with
  | o w R => cases R <;> rfl
  | _ => rfl
theorem slW_of : ∀ {c : Ctx} {i : Nat} {Q : PyData → Prop}, slW c i Q → (∃ x, c[i]? = some (.d x) ∧ Q x) ∨ (∃ w ds, c[i]? = some (.o w (.lst ds)) ∧ Q (.list ds)) ∨ ∃ w P, c[i]? = some (.o w (.lstP P)) ∧ ∀ ds, P ds → Q (.list ds)
  | [], 0, _, h => h.elim
  | [], _ + 1, _, h => h.elim
  | .d x :: c, 0, _, h => .inl ⟨x, rfl, h⟩
  | .no :: c, 0, _, h => h.elim
  | .f _ :: c, 0, _, h => h.elim
  | .o w (.lst ds) :: c, 0, _, h => .inr (.inl ⟨w, ds, rfl, h⟩)
  | .o w (.lstP P) :: c, 0, _, h => .inr (.inr ⟨w, P, rfl, h⟩)
  | .o w (.gen _) :: c, 0, _, h => h.elim
  | .o w (.dic _) :: c, 0, _, h => h.elim
  | .o w (.lls _) :: c, 0, _, h => h.elim
  | y :: c, i + 1, _, h => by
    rw [slW_s] at h
    simpa using slW_of h
end
/-- slot i has a value -/
def hasS : Ctx → Nat → Prop
  | .d _ :: _, 0 => True
  | .o _ _ :: _, 0 => True
  | .f _ :: _, 0 => True
  | _ :: c, i + 1 => hasS c i
  | _, _ => False
section
variable {x : PyData} {y : S} {w : Option Lt} {R : Res} {F : FrG} {c : Ctx} {i : Nat}
theorem hasS_d : hasS (.d x :: c) 0 = True := id rfl
theorem hasS_o : hasS (.o w R :: c) 0 = True := id rfl
theorem hasS_f : hasS (.f F :: c) 0 = True := id rfl
theorem hasS_s : hasS (y :: c) (i + 1) = hasS c i := by cases y <;> rfl
end
section
variable {K : PySem.W.Frag} {B : Base} {G H : Hp} {c : Ctx} {s : L2.St}
theorem Stt.val : ∀ {c : Ctx} {s : L2.St} {i : Nat}, Stt K B c s G H → hasS c i → ∃ v, s[i]? = some (some v)
  | [], _, 0, _, h => h.elim
  | [], _, _ + 1, _, h => h.elim
  | y :: c, s, 0, st, h => by
    obtain ⟨A, r, _⟩ := st.ex
    cases r with
    | no _ => exact h.elim
    | d _ _ => exact ⟨_, rfl⟩
    | f _ _ => exact ⟨_, rfl⟩
    | o _ _ _ => exact ⟨_, rfl⟩
  | y :: c, s, i + 1, st, h => by
    rw [hasS_s] at h
    obtain ⟨A, r, w⟩ := st.ex
    cases s with
    | nil => cases r
    | cons x s =>
      obtain ⟨v, e⟩ := Stt.val st.pop h
      exact ⟨v, by simpa using e⟩
theorem Stt.look (st : Stt K B c s G H) {i : Nat} {Q : PyData → Prop} (h : slW c i Q) : ∃ v x, s[i]? = some (some v) ∧ Vw K G H v x ∧ Q x := by
  rcases slW_of h with ⟨x, e, q⟩ | ⟨w, ds, e, q⟩ | ⟨w, P, e, q⟩
  · obtain ⟨v, e1, d⟩ := st.get_d e
    exact ⟨v, x, e1, .inl d, q⟩
  · obtain ⟨p, vs, e1, h1, h2, _⟩ := st.own e
    exact ⟨_, _, e1, .inr ⟨p, vs, ds, rfl, rfl, SqL.of h1, h2⟩, q⟩
  · obtain ⟨ds, hP, st2⟩ := st.open_ e
    obtain ⟨p, vs, e1, h1, h2, _⟩ := st2.own (j := i) (wo := w) (ds := ds) (by rw [List.getElem?_set_self (List.getElem?_eq_some_iff.mp e).1])
    exact ⟨_, _, e1, .inr ⟨p, vs, ds, rfl, rfl, SqL.of h1, h2⟩, q ds hP⟩
end

/-! ### expressions that are seen -/
def DVv (K : PySem.W.Frag) (te : TE) (t : TD) : Prop := ∀ (B : Base) (c : Ctx) (s : L2.St) (G H : Hp) (Q : PyData → Ctx → Prop) (R : VK), Stt K B c s G H → t c Q →
  (∀ v x c' G' H', Stt K B c' s G' H' → Same G G' → Vw K G' H' v x → Q x c' → R v H') → te s H R
structure DV (X : Cx) (e : Expr) (t : TD) : Prop where
  ex : ∃ te, PE X e te ∧ DVv X.K te t
/-- what stands on the left of an operator: a value that is looked at behind what stands on the right -/
def uV (i : Nat) : TD := fun c Q => slW c i fun x => Q x c
section
variable {X : Cx} {pos : Pos} {a b : Expr} {ta tb : TD}
theorem DE.dv (h : DE X a ta) : DV X a ta := let ⟨te, p, v⟩ := h.ex; ⟨te, p, fun B c s G H Q R st q k => v B c s G H Q R st q fun w x c' G' H' st' e d q => k w x c' G' H' st' e (.inl d) q⟩
theorem vv (i : Nat) {x : Str} (hN : X.N[i]? = some x := by rfl) (hv : Vis X.env.scope x := by first | exact Or.inl rfl | exact Or.inr (Or.inl rfl) | exact Or.inr (Or.inr rfl)) (hd : (x == ("__debug__" : Str)) = false := by decide)
    (hcd : (x == ("__classdict__" : Str)) = false := by decide) : DV X (.Name x pos) (uV i) := by
  refine ⟨_, pe_var hN hv hd hcd, fun B c s G H Q R st h k => ?_⟩
  obtain ⟨v, x, e, d, q⟩ := st.look h
  exact ⟨v, e, k v x c G H st (Same.refl _) d q⟩
/-- what a two-place rule asks of what is seen -/
def OpV (K : PySem.W.Frag) (r : R2) (f : PyData → PyData → (PyData → Prop) → Prop) : Prop := ∀ (B : Base) (c : Ctx) (s : L2.St) (G H : Hp) (x y : V) (a b : PyData) (Q : PyData → Prop) (R : VK), Stt K B c s G H → Vw K G H x a → Vw K G H y b → f a b Q →
  (∀ v d G' H', Stt K B c s G' H' → Same G G' → Dp K G' v d → Q d → R v H') → r x y H R
/-- .. the left one in slot j -/
def uN (j : Nat) (f : PyData → PyData → (PyData → Prop) → Prop) (tb : TD) : TD := fun c Q => hasS c j ∧ tb c fun y c1 => slW c1 j fun x => f x y fun z => Q z c1
theorem twoL {tea teb : TE} (ha : DEv X.K tea ta) (hb : DVv X.K teb tb) {r : R2} {f : PyData → PyData → (PyData → Prop) → Prop} (hr : OpV X.K r f) : DEv X.K (tOp r tea teb) (u2 f ta tb) := by
  intro B c s G H Q R st q k
  refine ha B c s G H _ _ st q fun v x c1 G1 H1 st1 e1 d1 q1 => ?_
  refine hb B c1 s G1 H1 _ _ st1 q1 fun w y c2 G2 H2 st2 e2 d2 q2 => ?_
  exact hr B c2 s G2 H2 v w x y _ R st2 (.inl (dp_mono e2 _ _ d1)) d2 q2 fun z d G3 H3 st3 e3 d3 q3 => k z d c2 G3 H3 st3 ((e1.trans e2).trans e3) d3 q3
theorem twoN (j : Nat) {teb : TE} (hb : DVv X.K teb tb) {r : R2} {f : PyData → PyData → (PyData → Prop) → Prop} (hr : OpV X.K r f) : DEv X.K (tOp r (fun σ H Q => ∃ v, σ[j]? = some (some v) ∧ Q v H) teb) (uN j f tb) := by
  intro B c s G H Q R st q k
  obtain ⟨h, q⟩ := q
  obtain ⟨v, e⟩ := st.val h
  refine ⟨v, e, hb B c s G H _ _ st q fun w y c2 G2 H2 st2 e2 d2 q2 => ?_⟩
  obtain ⟨v', x, e', d', q3⟩ := st2.look q2
  rw [e] at e'
  cases e'
  exact hr B c2 s G2 H2 v w x y _ R st2 d' d2 q3 fun z d G3 H3 st3 e3 d3 q3 => k z d c2 G3 H3 st3 (e2.trans e3) d3 q3
variable {op : CmpOp} {r : R2} {f : PyData → PyData → (PyData → Prop) → Prop}
theorem d_cmpL (ho : OpR X (compareOp op) r) (hr : OpV X.K r f) (ha : DE X a ta) (hb : DV X b tb) (hm : behindInMarks op b = false) : DE X (.Compare a [op] [b] pos) (u2 f ta tb) := by
  obtain ⟨tea, pa, va⟩ := ha.ex
  obtain ⟨teb, pb, vb⟩ := hb.ex
  exact ⟨_, pe_cmpR ho pa pb hm, twoL va vb hr⟩
theorem d_cmpN (j : Nat) {x : Str} {pn : Pos} (ho : OpR X (compareOp op) r) (hr : OpV X.K r f) (hb : DV X b tb) (hm : behindInMarks op b = false) (hN : X.N[j]? = some x := by rfl) (hv : Vis X.env.scope x := by first | exact Or.inl rfl | exact Or.inr (Or.inl rfl) | exact Or.inr (Or.inr rfl)) (hd : (x == ("__debug__" : Str)) = false := by decide)
    (hcd : (x == ("__classdict__" : Str)) = false := by decide) : DE X (.Compare (.Name x pn) [op] [b] pos) (uN j f tb) := by
  obtain ⟨teb, pb, vb⟩ := hb.ex
  exact ⟨_, pe_cmpR ho (pe_var hN hv hd hcd) pb hm, twoN j vb hr⟩
theorem t_cmpL (ho : OpR X (compareOp op) r) (hr : OpV X.K r f) (ha : DE X a ta) (hb : DV X b tb) (hm : behindInMarks op b = false) : DT X (.Compare a [op] [b] pos) (wB (u2 f ta tb)) := by
  obtain ⟨tea, pa, va⟩ := ha.ex
  obtain ⟨teb, pb, vb⟩ := hb.ex
  refine ⟨_, pt_cmpR ho pa pb hm, fun B c s G H Q R st q k => twoL va vb hr B c s G H _ _ st q fun v x c1 G1 H1 st1 e1 d1 q1 => ?_⟩
  obtain ⟨b, rfl, q⟩ := asB_of q1
  exact ⟨b, dp_bl d1, k b c1 G1 H1 st1 e1 q⟩
theorem t_cmpN (j : Nat) {x : Str} {pn : Pos} (ho : OpR X (compareOp op) r) (hr : OpV X.K r f) (hb : DV X b tb) (hm : behindInMarks op b = false) (hN : X.N[j]? = some x := by rfl) (hv : Vis X.env.scope x := by first | exact Or.inl rfl | exact Or.inr (Or.inl rfl) | exact Or.inr (Or.inr rfl)) (hd : (x == ("__debug__" : Str)) = false := by decide)
    (hcd : (x == ("__classdict__" : Str)) = false := by decide) : DT X (.Compare (.Name x pn) [op] [b] pos) (wB (uN j f tb)) := by
  obtain ⟨teb, pb, vb⟩ := hb.ex
  refine ⟨_, pt_cmpR ho (pe_var hN hv hd hcd) pb hm, fun B c s G H Q R st q k => twoN j vb hr B c s G H _ _ st q fun v x c1 G1 H1 st1 e1 d1 q1 => ?_⟩
  obtain ⟨b, rfl, q⟩ := asB_of q1
  exact ⟨b, dp_bl d1, k b c1 G1 H1 st1 e1 q⟩
/-- ==, != -/
theorem opv_eq {K : PySem.W.Frag} : OpV K (rEqD K) (fEq false) := fun B c s G H x y a b Q R st dx dy ⟨s1, s2, q⟩ k => ⟨a, b, dx.dp st.sub, dy.dp st.sub, s1, s2, k _ _ G H st (Same.refl _) (.bl _) q⟩
theorem opv_ne {K : PySem.W.Frag} : OpV K (rNeD K) (fEq true) := fun B c s G H x y a b Q R st dx dy ⟨s1, s2, q⟩ k => ⟨a, b, dx.dp st.sub, dy.dp st.sub, s1, s2, k _ _ G H st (Same.refl _) (.bl _) q⟩
/-- in, not in: a list of data; a text in a text -/
def fIn (neg : Bool) : PyData → PyData → (PyData → Prop) → Prop := fun x y Q => match y with
  | .list ds => SeqAt.shaped x = true ∧ SeqAt.shaped (.list ds) = true ∧ Q (.bool (if neg then !ds.any fun z => PyData.eqv z x else ds.any fun z => PyData.eqv z x))
  | .str j => asS x fun i => Q (.bool (if neg then !(!(Builtin.Str.occurrences j i 0 j.length 1).isEmpty) else !(Builtin.Str.occurrences j i 0 j.length 1).isEmpty))
  | _ => False
theorem fIn_l {neg : Bool} {x : PyData} {ds : List PyData} {Q : PyData → Prop} : fIn neg x (.list ds) Q = (SeqAt.shaped x = true ∧ SeqAt.shaped (.list ds) = true ∧ Q (.bool (if neg then !ds.any fun z => PyData.eqv z x else ds.any fun z => PyData.eqv z x))) := id rfl
theorem fIn_s {neg : Bool} {i j : Str} {Q : PyData → Prop} : fIn neg (.str i) (.str j) Q = Q (.bool (if neg then !(!(Builtin.Str.occurrences j i 0 j.length 1).isEmpty) else !(Builtin.Str.occurrences j i 0 j.length 1).isEmpty)) := id rfl
def rInA (K : PySem.W.Frag) : R2 := fun x y H Q => rInD K x y H Q ∨ ∃ i j, x = .str i ∧ y = .str j ∧ Q (.bl (!(Builtin.Str.occurrences j i 0 j.length 1).isEmpty)) H
def rNotInA (K : PySem.W.Frag) : R2 := fun x y H Q => rNotInD K x y H Q ∨ ∃ i j, x = .str i ∧ y = .str j ∧ Q (.bl (!(!(Builtin.Str.occurrences j i 0 j.length 1).isEmpty))) H
theorem op_inA (hu : X.A.units + 65 < cLine) : OpR X (compareOp .In) (rInA X.K) := OpR.or2 (op_inD hu) op_in_str
theorem op_notInA (hu : X.A.units + 65 < cLine) : OpR X (compareOp .NotIn) (rNotInA X.K) := OpR.or2 (op_notInD hu) op_notIn_str
theorem opv_in {K : PySem.W.Frag} : OpV K (rInA K) (fIn false) := by
  intro B c s G H x y a b Q R st dx dy h k
  cases b with
  | list ds =>
    obtain ⟨s1, s2, q⟩ := h
    exact .inl ⟨a, ds, dx.dp st.sub, dy.dp st.sub, s1, s2, k _ _ G H st (Same.refl _) (.bl _) q⟩
  | str j =>
    obtain ⟨i, rfl, q⟩ := asS_of h
    exact .inr ⟨i, j, dp_str (dx.dp st.sub), dp_str (dy.dp st.sub), k _ _ G H st (Same.refl _) (.bl _) q⟩
  | none => exact h.elim
  | bool _ => exact h.elim
  | int _ => exact h.elim
  | tuple _ => exact h.elim
  | dict _ => exact h.elim
theorem opv_nin {K : PySem.W.Frag} : OpV K (rNotInA K) (fIn true) := by
  intro B c s G H x y a b Q R st dx dy h k
  cases b with
  | list ds =>
    obtain ⟨s1, s2, q⟩ := h
    exact .inl ⟨a, ds, dx.dp st.sub, dy.dp st.sub, s1, s2, k _ _ G H st (Same.refl _) (.bl _) q⟩
  | str j =>
    obtain ⟨i, rfl, q⟩ := asS_of h
    exact .inr ⟨i, j, dp_str (dx.dp st.sub), dp_str (dy.dp st.sub), k _ _ G H st (Same.refl _) (.bl _) q⟩
  | none => exact h.elim
  | bool _ => exact h.elim
  | int _ => exact h.elim
  | tuple _ => exact h.elim
  | dict _ => exact h.elim
/-- list + list -/
def rCatL (K : PySem.W.Frag) : R2 := fun x y H Q => ∃ l b xs zs, x = .ref l ∧ y = .ref b ∧ SqL K H l xs ∧ SqL K H b zs ∧ xs.length + zs.length ≤ sizeLine ∧ ∀ p, H p = none → Q (.ref p) (upd H p (.lst (xs ++ zs)))
theorem op_catL : OpR X (binaryOp .Add) (rCatL X.K) := by
  intro pins s σ H x y v u Q I rx ry h
  obtain ⟨l, b, xs, zs, rfl, rfl, hH, hB, hz, q⟩ := h
  cases rx
  cases ry
  obtain ⟨its, r, ⟨⟨cls, dd, data, sl⟩, n, ho, hc, hdd, hd⟩, z1⟩ := I.list hH
  obtain ⟨its2, r2, ⟨⟨cls2, dd2, data2, sl2⟩, n2, ho2, hc2, hdd2, hd2⟩, z2⟩ := I.list hB
  simp only at hc hdd hd hc2 hdd2 hd2
  subst hc hd hc2 hd2
  have l1 := r.length
  have l2 := r2.length
  refine concat_meets ⟨_, ho, rfl⟩ ⟨_, ho2, rfl⟩ noFill_list_add seq_list_add PySem.F.slot_list_add PySem.F.entry_list_add (PySem.F.args_list_add_2 _ _) (list_addW l b its.toArray its2.toArray n n2 dd dd2 sl sl2 (by rw [List.size_toArray, List.size_toArray]; omega)) ⟨ho, ho2, ?_⟩
  have ea : its.toArray ++ its2.toArray = (its ++ its2).toArray := by simp
  rw [ea]
  exact ⟨.ref _, _, I.lnew (t' := s.toks) (r.append r2) (by rw [List.length_append]; omega), rfl, q _ I.fresh⟩
/-- what such a rule makes -/
def OpO (K : PySem.W.Frag) (r : R2) (f : PyData → PyData → (Res → Prop) → Prop) : Prop := ∀ (B : Base) (c : Ctx) (s : L2.St) (G H : Hp) (x y : V) (a b : PyData) (Q : Res → Prop) (R : VK), Stt K B c s G H → Vw K G H x a → Vw K G H y b → f a b Q →
  (∀ v d G' H', Stt K B (.o none d :: c) (some v :: s) G' H' → Same G G' → Q d → R v H') → r x y H R
def oN (j : Nat) (f : PyData → PyData → (Res → Prop) → Prop) (tb : TD) : TR := fun c Q => hasS c j ∧ tb c fun y c1 => slW c1 j fun x => f x y fun z => Q z c1
def o2 (f : PyData → PyData → (Res → Prop) → Prop) (ta tb : TD) : TR := fun c Q => ta c fun x c1 => tb c1 fun y c2 => f x y fun z => Q z c2
def fCat : PyData → PyData → (Res → Prop) → Prop := fun x y Q => asL x fun xs => asL y fun ys => xs.length + ys.length ≤ sizeLine ∧ Q (.lst (xs ++ ys))
theorem opo_cat {K : PySem.W.Frag} : OpO K (rCatL K) fCat := by
  intro B c s G H x y a b Q R st dx dy h k
  obtain ⟨xs, rfl, h⟩ := asL_of h
  have h : asL b fun ys => xs.length + ys.length ≤ sizeLine ∧ Q (.lst (xs ++ ys)) := h
  obtain ⟨ys, rfl, hl, q⟩ := asL_of h
  obtain ⟨p, vs, rfl, h1, h2⟩ := dx.lst st.sub
  obtain ⟨p2, vs2, rfl, h3, h4⟩ := dy.lst st.sub
  refine ⟨p, p2, vs, vs2, rfl, rfl, h1, h3, by rw [dpa_len h2, dpa_len h4]; exact hl, fun l hn => ?_⟩
  exact k _ _ _ _ (st.laidL hn (dpa_app h2 h4)) (Same.refl _) q
theorem o_catL (ha : DE X a ta) (hb : DV X b tb) : DO X (.BinOp a .Add b pos) (o2 fCat ta tb) := by
  obtain ⟨tea, pa, va⟩ := ha.ex
  obtain ⟨teb, pb, vb⟩ := hb.ex
  refine ⟨_, pe_op op_catL pa pb, fun B c s G H Q R st q k => va B c s G H _ _ st q fun v x c1 G1 H1 st1 e1 d1 q1 => vb B c1 s G1 H1 _ _ st1 q1 fun w y c2 G2 H2 st2 e2 d2 q2 => ?_⟩
  exact opo_cat B c2 s G2 H2 v w x y _ R st2 (.inl (dp_mono e2 _ _ d1)) d2 q2 fun z d G3 H3 st3 e3 q3 => k z d c2 G3 H3 st3 ((e1.trans e2).trans e3) q3
theorem o_catN (j : Nat) {x : Str} {pn : Pos} (hb : DV X b tb) (hN : X.N[j]? = some x := by rfl) (hv : Vis X.env.scope x := by first | exact Or.inl rfl | exact Or.inr (Or.inl rfl) | exact Or.inr (Or.inr rfl)) (hd : (x == ("__debug__" : Str)) = false := by decide)
    (hcd : (x == ("__classdict__" : Str)) = false := by decide) : DO X (.BinOp (.Name x pn) .Add b pos) (oN j fCat tb) := by
  obtain ⟨teb, pb, vb⟩ := hb.ex
  refine ⟨_, pe_op op_catL (pe_var hN hv hd hcd) pb, fun B c s G H Q R st q k => ?_⟩
  obtain ⟨h, q⟩ := q
  obtain ⟨v, e⟩ := st.val h
  refine ⟨v, e, vb B c s G H _ _ st q fun w y c2 G2 H2 st2 e2 d2 q2 => ?_⟩
  obtain ⟨v', x, e', d', q3⟩ := st2.look q2
  rw [e] at e'
  cases e'
  exact opo_cat B c2 s G2 H2 v w x y _ R st2 d' d2 q3 fun z d G3 H3 st3 e3 q3 => k z d c2 G3 H3 st3 (e2.trans e3) q3
/-- xs[i], xs a name -/
theorem d_ixN (j : Nat) {x : Str} {pn : Pos} (hs : PlainIx b) (hb : DE X b tb) (hN : X.N[j]? = some x := by rfl) (hv : Vis X.env.scope x := by first | exact Or.inl rfl | exact Or.inr (Or.inl rfl) | exact Or.inr (Or.inr rfl)) (hd : (x == ("__debug__" : Str)) = false := by decide)
    (hcd : (x == ("__classdict__" : Str)) = false := by decide) : DE X (.Subscript (.Name x pn) b pos) (uN j fIx tb) := by
  obtain ⟨teb, pb, vb⟩ := hb.ex
  refine ⟨_, pe_ix ix_seq (pe_var hN hv hd hcd) pb hs, twoN j (fun B c s G H Q R st q k => vb B c s G H Q R st q fun w x c' G' H' st' e d q => k w x c' G' H' st' e (.inl d) q) fun B c s G H x y a b Q R st dx dy h k => ?_⟩
  unfold fIx at h
  obtain ⟨i, rfl, h⟩ := asI_of h
  have dy := dp_int (dy.dp st.sub)
  cases a with
  | list ds =>
    obtain ⟨d, e, q⟩ := h
    obtain ⟨p, vs, rfl, h1, h2⟩ := dx.lst st.sub
    obtain ⟨v, e2, d2⟩ := atI_dp h2 e
    exact .inl ⟨p, vs, i, v, rfl, dy, h1, e2, k v d G H st (Same.refl _) d2 q⟩
  | tuple ds =>
    obtain ⟨d, e, q⟩ := h
    obtain ⟨p, vs, rfl, h1, h2⟩ := dp_tup (dx.oth fun _ z => nomatch z)
    obtain ⟨v, e2, d2⟩ := atI_dp h2 e
    exact .inr (.inl ⟨p, vs, i, v, rfl, dy, same_t st.sub h1, e2, k v d G H st (Same.refl _) d2 q⟩)
  | str z =>
    obtain ⟨n, hl, e, q⟩ := h
    exact .inr (.inr ⟨z, i, n, dp_str (dx.dp st.sub), dy, hl, e, k _ _ G H st (Same.refl _) (.str _) q⟩)
  | none => exact h.elim
  | bool _ => exact h.elim
  | int _ => exact h.elim
  | dict _ => exact h.elim
/-! ### built-ins of one thing that is seen -/
def CallV (K : PySem.W.Frag) (r : List V → Hp → VK → Prop) (f : PyData → (PyData → Prop) → Prop) : Prop := ∀ (B : Base) (c : Ctx) (s : L2.St) (G H : Hp) (v : V) (x : PyData) (Q : PyData → Prop) (R : VK), Stt K B c s G H → Vw K G H v x → f x Q →
  (∀ v d G' H', Stt K B c s G' H' → Same G G' → Dp K G' v d → Q d → R v H') → r [v] H R
def CallVO (K : PySem.W.Frag) (r : List V → Hp → VK → Prop) (f : PyData → (Res → Prop) → Prop) : Prop := ∀ (B : Base) (c : Ctx) (s : L2.St) (G H : Hp) (v : V) (x : PyData) (Q : Res → Prop) (R : VK), Stt K B c s G H → Vw K G H v x → f x Q →
  (∀ v d G' H', Stt K B (.o none d :: c) (some v :: s) G' H' → Same G G' → Q d → R v H') → r [v] H R
def u1 (f : PyData → (PyData → Prop) → Prop) (t : TD) : TD := fun c Q => t c fun x c1 => f x fun z => Q z c1
def o1 (f : PyData → (Res → Prop) → Prop) (t : TD) : TR := fun c Q => t c fun x c1 => f x fun z => Q z c1
variable {id T : String} {rc : List V → Hp → VK → Prop} {f1 : PyData → (PyData → Prop) → Prop} {fo : PyData → (Res → Prop) → Prop} {x : Str} {p : Pos}
theorem d_oneB (hc : CallR X (.builtin id) rc) (hr : CallV X.K rc f1) (hm : X.mg x = none) (hv : bootBuiltins x = some (.builtin id)) (ha : DV X a ta) (hg : Gl X x := by rfl) (hn : x ≠ "__name__" := by decide) (hdb : (x == ("__debug__" : Str)) = false := by decide)
    (he : starEach [a] X.env = (false, eval a X.env) :: starEach [] X.env := by rfl) (hpl : (backTo pos (starEach [] X.env)).any (·.1) = false := by rfl) : DE X (.Call (.Name x p) [a] [] pos) (u1 f1 ta) := by
  obtain ⟨tea, pa, va⟩ := ha.ex
  refine ⟨_, pe_callB hc hg hm hv (pa_cons pa pa_nil he) hn hdb he hpl, fun B c s G H Q R st q k => va B c s G H _ _ st q fun v x c1 G1 H1 st1 e1 d1 q1 => ?_⟩
  exact hr B c1 s G1 H1 v x _ R st1 d1 q1 fun v d G2 H2 st2 e2 d2 q2 => k v d c1 G2 H2 st2 (e1.trans e2) d2 q2
theorem d_oneT (hc : CallR X (.type T) rc) (hr : CallV X.K rc f1) (hm : X.mg x = none) (hv : bootBuiltins x = some (.type T)) (ha : DV X a ta) (hg : Gl X x := by rfl) (hn : x ≠ "__name__" := by decide) (hdb : (x == ("__debug__" : Str)) = false := by decide)
    (he : starEach [a] X.env = (false, eval a X.env) :: starEach [] X.env := by rfl) (hpl : (backTo pos (starEach [] X.env)).any (·.1) = false := by rfl) : DE X (.Call (.Name x p) [a] [] pos) (u1 f1 ta) := by
  obtain ⟨tea, pa, va⟩ := ha.ex
  refine ⟨_, pe_callTy hc hg hm hv (pa_cons pa pa_nil he) hn hdb he hpl, fun B c s G H Q R st q k => va B c s G H _ _ st q fun v x c1 G1 H1 st1 e1 d1 q1 => ?_⟩
  exact hr B c1 s G1 H1 v x _ R st1 d1 q1 fun v d G2 H2 st2 e2 d2 q2 => k v d c1 G2 H2 st2 (e1.trans e2) d2 q2
theorem o_oneB (hc : CallR X (.builtin id) rc) (hr : CallVO X.K rc fo) (hm : X.mg x = none) (hv : bootBuiltins x = some (.builtin id)) (ha : DV X a ta) (hg : Gl X x := by rfl) (hn : x ≠ "__name__" := by decide) (hdb : (x == ("__debug__" : Str)) = false := by decide)
    (he : starEach [a] X.env = (false, eval a X.env) :: starEach [] X.env := by rfl) (hpl : (backTo pos (starEach [] X.env)).any (·.1) = false := by rfl) : DO X (.Call (.Name x p) [a] [] pos) (o1 fo ta) := by
  obtain ⟨tea, pa, va⟩ := ha.ex
  refine ⟨_, pe_callB hc hg hm hv (pa_cons pa pa_nil he) hn hdb he hpl, fun B c s G H Q R st q k => va B c s G H _ _ st q fun v x c1 G1 H1 st1 e1 d1 q1 => ?_⟩
  exact hr B c1 s G1 H1 v x _ R st1 d1 q1 fun v d G2 H2 st2 e2 q2 => k v d c1 G2 H2 st2 (e1.trans e2) q2
theorem o_oneT (hc : CallR X (.type T) rc) (hr : CallVO X.K rc fo) (hm : X.mg x = none) (hv : bootBuiltins x = some (.type T)) (ha : DV X a ta) (hg : Gl X x := by rfl) (hn : x ≠ "__name__" := by decide) (hdb : (x == ("__debug__" : Str)) = false := by decide)
    (he : starEach [a] X.env = (false, eval a X.env) :: starEach [] X.env := by rfl) (hpl : (backTo pos (starEach [] X.env)).any (·.1) = false := by rfl) : DO X (.Call (.Name x p) [a] [] pos) (o1 fo ta) := by
  obtain ⟨tea, pa, va⟩ := ha.ex
  refine ⟨_, pe_callTy hc hg hm hv (pa_cons pa pa_nil he) hn hdb he hpl, fun B c s G H Q R st q k => va B c s G H _ _ st q fun v x c1 G1 H1 st1 e1 d1 q1 => ?_⟩
  exact hr B c1 s G1 H1 v x _ R st1 d1 q1 fun v d G2 H2 st2 e2 q2 => k v d c1 G2 H2 st2 (e1.trans e2) q2
/-- len -/
theorem cv_len {K : PySem.W.Frag} : CallV K (fun xs H Q => (∃ p ys, xs = [V.ref p] ∧ (SqL K H p ys ∨ SqT K H p ys) ∧ Q (.int ys.length) H) ∨ ∃ z, xs = [V.str z] ∧ z.length ≤ sizeLine ∧ Q (.int z.length) H) fLen1 := by
  intro B c s G H v x Q R st d1 h k
  cases x with
  | list ds =>
    obtain ⟨p, vs, rfl, h1, h2⟩ := d1.lst st.sub
    refine .inl ⟨p, vs, rfl, .inl h1, ?_⟩
    rw [dpa_len h2]
    exact k _ _ G H st (Same.refl _) (.int _) h
  | tuple ds =>
    obtain ⟨p, vs, rfl, h1, h2⟩ := dp_tup (d1.oth fun _ z => nomatch z)
    refine .inl ⟨p, vs, rfl, .inr (same_t st.sub h1), ?_⟩
    rw [dpa_len h2]
    exact k _ _ G H st (Same.refl _) (.int _) h
  | str z =>
    have := dp_str (d1.dp st.sub)
    subst this
    exact .inr ⟨z, rfl, h.1, k _ _ G H st (Same.refl _) (.int _) h.2⟩
  | none => exact h.elim
  | bool _ => exact h.elim
  | int _ => exact h.elim
  | dict _ => exact h.elim
theorem d_lenV (hm : X.mg "len" = none) (ha : DV X a ta) (hg : Gl X "len" := by rfl) (he : starEach [a] X.env = (false, eval a X.env) :: starEach [] X.env := by rfl) (hpl : (backTo pos (starEach [] X.env)).any (·.1) = false := by rfl) : DE X (.Call (.Name "len" p) [a] [] pos) (u1 fLen1 ta) :=
  d_oneB (CallR.or call_len_seq call_len_str) cv_len hm boot_len ha hg (by decide) (by decide) he hpl
/-- list(x) -/
def fList : PyData → (Res → Prop) → Prop := fun x Q => match x with
  | .list ds => Q (.lst ds)
  | .tuple ds => Q (.lst ds)
  | _ => False
theorem fList_l {ds : List PyData} {Q : Res → Prop} : fList (.list ds) Q = Q (.lst ds) := id rfl
theorem fList_t {ds : List PyData} {Q : Res → Prop} : fList (.tuple ds) Q = Q (.lst ds) := id rfl
theorem o_listV (hm : X.mg "list" = none) (ha : DV X a ta) (hg : Gl X "list" := by rfl) (he : starEach [a] X.env = (false, eval a X.env) :: starEach [] X.env := by rfl) (hpl : (backTo pos (starEach [] X.env)).any (·.1) = false := by rfl) : DO X (.Call (.Name "list" p) [a] [] pos) (o1 fList ta) := by
  refine o_oneT call_list_of (fun B c s G H v x Q R st d1 h k => ?_) hm bb_list ha hg (by decide) (by decide) he hpl
  cases x with
  | list ds =>
    obtain ⟨p, vs, rfl, h1, h2⟩ := d1.lst st.sub
    exact ⟨p, vs, rfl, .inl h1, fun l hn => k _ _ _ _ (st.laidL hn h2) (Same.refl _) h⟩
  | tuple ds =>
    obtain ⟨p, vs, rfl, h1, h2⟩ := dp_tup (d1.oth fun _ z => nomatch z)
    exact ⟨p, vs, rfl, .inr (same_t st.sub h1), fun l hn => k _ _ _ _ (st.laidL hn h2) (Same.refl _) h⟩
  | str _ => exact h.elim
  | none => exact h.elim
  | bool _ => exact h.elim
  | int _ => exact h.elim
  | dict _ => exact h.elim
/-- tuple(x) -/
def fTup : PyData → (PyData → Prop) → Prop := fun x Q => match x with
  | .list ds => Q (.tuple ds)
  | .tuple ds => Q (.tuple ds)
  | _ => False
theorem fTup_l {ds : List PyData} {Q : PyData → Prop} : fTup (.list ds) Q = Q (.tuple ds) := id rfl
theorem fTup_t {ds : List PyData} {Q : PyData → Prop} : fTup (.tuple ds) Q = Q (.tuple ds) := id rfl
theorem d_tupV (hm : X.mg "tuple" = none) (ha : DV X a ta) (hg : Gl X "tuple" := by rfl) (he : starEach [a] X.env = (false, eval a X.env) :: starEach [] X.env := by rfl) (hpl : (backTo pos (starEach [] X.env)).any (·.1) = false := by rfl) : DE X (.Call (.Name "tuple" p) [a] [] pos) (u1 fTup ta) := by
  refine d_oneT call_tuple_of (fun B c s G H v x Q R st d1 h k => ?_) hm bb_tuple ha hg (by decide) (by decide) he hpl
  cases x with
  | list ds =>
    obtain ⟨p, vs, rfl, h1, h2⟩ := d1.lst st.sub
    refine ⟨p, vs, rfl, .inl ⟨h1, fun l hn => ?_⟩⟩
    obtain ⟨st2, e2⟩ := st.laid (o := .tup vs) hn
    exact k _ _ _ _ st2 e2 (.tup (.inl (.inl upd_same)) (dpa_mono e2 _ _ h2)) h
  | tuple ds =>
    have d2 := d1.oth fun _ z => nomatch z
    obtain ⟨p, vs, rfl, h1, h2⟩ := dp_tup d2
    exact ⟨p, vs, rfl, .inr ⟨same_t st.sub h1, k _ _ G H st (Same.refl _) d2 h⟩⟩
  | str _ => exact h.elim
  | none => exact h.elim
  | bool _ => exact h.elim
  | int _ => exact h.elim
  | dict _ => exact h.elim
/-- int(x) of a truth or a number -/
def fInt1 : PyData → (PyData → Prop) → Prop := fun x Q => match x with
  | .int i => Q (.int i)
  | .bool b => Q (.int (if b then 1 else 0))
  | _ => False
theorem fInt1_i {i : Int} {Q : PyData → Prop} : fInt1 (.int i) Q = Q (.int i) := id rfl
theorem fInt1_b {b : Bool} {Q : PyData → Prop} : fInt1 (.bool b) Q = Q (.int (if b then 1 else 0)) := id rfl
theorem d_intV (hm : X.mg "int" = none) (ha : DV X a ta) (hg : Gl X "int" := by rfl) (he : starEach [a] X.env = (false, eval a X.env) :: starEach [] X.env := by rfl) (hpl : (backTo pos (starEach [] X.env)).any (·.1) = false := by rfl) : DE X (.Call (.Name "int" p) [a] [] pos) (u1 fInt1 ta) := by
  refine d_oneT call_int1 (fun B c s G H v x Q R st d1 h k => ?_) hm bb_int ha hg (by decide) (by decide) he hpl
  cases x with
  | int i =>
    have := dp_int (d1.dp st.sub)
    subst this
    exact .inl ⟨i, rfl, k _ _ G H st (Same.refl _) (.int _) h⟩
  | bool b =>
    have := dp_bl (d1.dp st.sub)
    subst this
    exact .inr ⟨b, rfl, k _ _ G H st (Same.refl _) (.int _) h⟩
  | list _ => exact h.elim
  | tuple _ => exact h.elim
  | str _ => exact h.elim
  | none => exact h.elim
  | dict _ => exact h.elim
end

/-! ### methods of the list in a slot -/
theorem list_extW (l : Addr) (items : Array Value) (n : Nat) (b : Addr) (items2 : Array Value) (n2 : Nat) (dd2 : Option Addr) (sl2 : Array (Option Value)) (hc0 : ¬(!items.isEmpty && Builtin.List.listTooLong (items.size + items2.size)) = true) (hc1 : items.size ≤ sizeLine) (hs2 : items.size + items2.size ≤ sizeLine + 1) :
    Meets (Builtin.«list.extend» ⟨[.ref l, .ref b], []⟩) (fun _ R s => s.heap.get? l = some { cls := .type "list", dict := none, data := .seq items n, slots := #[] } ∧ s.heap.get? b = some { cls := .type "list", dict := dd2, data := .seq items2 n2, slots := sl2 } ∧ R (.ok (.ret Value.none)) { s with heap := s.heap.update l (Obj.mapSeq fun x => x ++ items2), toks := s.toks }) :=
  .of_wp fun prog w A R s h => by
    obtain ⟨hp, g, d, tk, os⟩ := s; obtain ⟨hl, hb, h⟩ := h; have f1 := AutoSeq1.idx_int; have f2 := AutoSeq1.sub_tuple_tuple; have f3 := AutoSeq1.sub_list_list; have f4 := AutoSeq1.sub_tuple_list; have f5 := AutoSeq1.sub_list_tuple
    have hz' : (items ++ items2).size ≤ sizeLine + 1 := by rw [Array.size_append]; exact hs2
    wp_walk using (wpAny_updateSeq hl rfl (hz := hc1) (_hz' := hz')), wpAny_loadPart' hl, wpAny_loadPart' hb; exact ⟨_, rfl, h⟩
theorem list_extWT (l : Addr) (items : Array Value) (n : Nat) (b : Addr) (items2 : Array Value) (n2 : Nat) (dd2 : Option Addr) (sl2 : Array (Option Value)) (hc0 : ¬(!items.isEmpty && Builtin.List.listTooLong (items.size + items2.size)) = true) (hc1 : items.size ≤ sizeLine) (hs2 : items.size + items2.size ≤ sizeLine + 1) :
    Meets (Builtin.«list.extend» ⟨[.ref l, .ref b], []⟩) (fun _ R s => s.heap.get? l = some { cls := .type "list", dict := none, data := .seq items n, slots := #[] } ∧ s.heap.get? b = some { cls := .type "tuple", dict := dd2, data := .seq items2 n2, slots := sl2 } ∧ R (.ok (.ret Value.none)) { s with heap := s.heap.update l (Obj.mapSeq fun x => x ++ items2), toks := s.toks }) :=
  .of_wp fun prog w A R s h => by
    obtain ⟨hp, g, d, tk, os⟩ := s; obtain ⟨hl, hb, h⟩ := h; have f1 := AutoSeq1.idx_int; have f2 := AutoSeq1.sub_tuple_tuple; have f3 := AutoSeq1.sub_list_list; have f4 := AutoSeq1.sub_tuple_list; have f5 := AutoSeq1.sub_list_tuple
    have hz' : (items ++ items2).size ≤ sizeLine + 1 := by rw [Array.size_append]; exact hs2
    wp_walk using (wpAny_updateSeq hl rfl (hz := hc1) (_hz' := hz')), wpAny_loadPart' hl, wpAny_loadPart' hb; exact ⟨_, rfl, h⟩
section
variable {X : Cx}
def rExtA (K : PySem.W.Frag) : V → List V → Hp → VK → Prop := fun x vs H Q => ∃ l b xs zs, x = .ref l ∧ vs = [.ref b] ∧ H l = some (.lst xs) ∧ (SqL K H b zs ∨ SqT K H b zs) ∧ xs.length + zs.length ≤ sizeLine ∧ Q .non (upd H l (.lst (xs ++ zs)))
theorem mt_extA : MtR X "list.extend" (rExtA X.K) := by
  intro pins s σ H x vs v us Q I rx rv h
  obtain ⟨l, b, xs, zs, rfl, rfl, hH, hB, hz, q⟩ := h
  cases rx
  obtain ⟨u, rfl, ru⟩ := rv.one
  cases ru
  obtain ⟨z, its, n, r, hl, e⟩ := I.lstM hH
  have fin : ∀ (its2 : List Value), Vals zs its2 → ¬ (!its.toArray.isEmpty && Builtin.List.listTooLong (its.toArray.size + its2.toArray.size)) = true ∧ its.toArray.size ≤ sizeLine ∧ its.toArray.size + its2.toArray.size ≤ sizeLine + 1 ∧
      EP X pins σ Q .none { s with heap := s.heap.update l (Obj.mapSeq fun x => x ++ its2.toArray), toks := s.toks } := fun its2 r2 => by
    have hl2 := r2.length
    have hsz : its.toArray.size + its2.toArray.size ≤ sizeLine := by rw [List.size_toArray, List.size_toArray]; omega
    refine ⟨by rw [notLongL hsz, Bool.and_false]; exact Bool.false_ne_true, by rw [List.size_toArray]; omega, by omega, .non, _, I.lset (its' := its ++ its2) hH e (by simp) (r.append r2) ?_, rfl, q⟩
    rw [List.length_append]
    omega
  rcases hB with hB | hB
  · obtain ⟨its2, r2, ⟨⟨cls2, dd2, data2, sl2⟩, n2, ho2, hc2, hdd2, hd2⟩, z2⟩ := I.list hB
    simp only at hc2 hdd2 hd2
    subst hc2 hd2
    obtain ⟨a1, a2, a3, a4⟩ := fin its2 r2
    exact call_meets F.slot_list_extend ⟨_, e, rfl⟩ F.entry_list_extend (F.args_list_extend_2 _ _) (list_extW l its.toArray n b its2.toArray n2 dd2 sl2 a1 a2 a3) ⟨e, ho2, a4⟩
  · obtain ⟨its2, r2, ⟨⟨cls2, dd2, data2, sl2⟩, ho2, hc2, n2, hd2⟩, z2⟩ := I.tuple hB
    simp only at hc2 hd2
    subst hc2 hd2
    obtain ⟨a1, a2, a3, a4⟩ := fin its2 r2
    exact call_meets F.slot_list_extend ⟨_, e, rfl⟩ F.entry_list_extend (F.args_list_extend_2 _ _) (list_extWT l its.toArray n b its2.toArray n2 dd2 sl2 a1 a2 a3) ⟨e, ho2, a4⟩
end
end Dl

/-! Methods, slices, borrowed arguments, comprehensions. -/
namespace Dl
open PySem PySem.Spec PyProof.Rows L2

/-! ### methods -/
def lstR : Res → Prop
  | .gen _ => False
  | .dic _ => False
  | .lls _ => False
  | _ => True
section
variable {ds : List PyData} {P : List PyData → Prop}
theorem lstR_l : lstR (.lst ds) = True := id rfl
theorem lstR_P : lstR (.lstP P) = True := id rfl
end
section
variable {K : PySem.W.Frag} {B : Base} {G H : Hp} {c : Ctx} {s : L2.St}
theorem Stt.isl (st : Stt K B c s G H) {j : Nat} {w : Option Lt} {R : Res} (e : c[j]? = some (.o w R)) (h : lstR R) : ∃ p xs, s[j]? = some (some (.ref p)) ∧ SqL K H p xs := by
  cases R with
  | lst ds =>
    obtain ⟨p, vs, g1, g2, _⟩ := st.own e
    exact ⟨p, vs, g1, SqL.of g2⟩
  | lstP P =>
    obtain ⟨ds, hP, st2⟩ := st.open_ e
    obtain ⟨p, vs, g1, g2, _⟩ := st2.own (j := j) (wo := w) (ds := ds) (by rw [List.getElem?_set_self (List.getElem?_eq_some_iff.mp e).1])
    exact ⟨p, vs, g1, SqL.of g2⟩
  | lls _ => exact h.elim
  | gen _ => exact h.elim
  | dic _ => exact h.elim
end
/-- what a method of one argument does to a list of one's own -/
def MeL (K : PySem.W.Frag) (r : V → List V → Hp → VK → Prop) (f : List PyData → PyData → (List PyData → Prop) → Prop) : Prop := ∀ (G H : Hp) (p : Addr) (vs : List V) (ds : List PyData) (v : V) (x : PyData) (Q : List PyData → Prop) (R : VK), Same G H → H p = some (.lst vs) → DpAll K G vs ds → Vw K G H v x → f ds x Q →
  (∀ vs' ds', DpAll K G vs' ds' → Q ds' → R .non (upd H p (.lst vs'))) → r (.ref p) [v] H R
def MeL0 (K : PySem.W.Frag) (r : V → List V → Hp → VK → Prop) (f : List PyData → (List PyData → Prop) → Prop) : Prop := ∀ (G H : Hp) (p : Addr) (vs : List V) (ds : List PyData) (Q : List PyData → Prop) (R : VK), Same G H → H p = some (.lst vs) → DpAll K G vs ds → f ds Q →
  (∀ vs' ds', DpAll K G vs' ds' → Q ds' → R .non (upd H p (.lst vs'))) → r (.ref p) [] H R
def zM1 (j : Nat) (f : List PyData → PyData → (List PyData → Prop) → Prop) (ta : TD) : TSd := fun E c => slO c j fun _ R0 => lstR R0 ∧ ta c fun x c1 => slO c1 j fun w R => asR R fun ds => f ds x fun ds' => E.nx (c1.set j (.o w (.lst ds')))
def zM0 (j : Nat) (f : List PyData → (List PyData → Prop) → Prop) : TSd := fun E c => slO c j fun w R => asR R fun ds => f ds fun ds' => E.nx (c.set j (.o w (.lst ds')))
section
variable {X : Cx} {a b e : Expr} {ta tb : TD} {pos cpos apos p : Pos} {id : String} {name : Str} {r : V → List V → Hp → VK → Prop}
theorem s_m1 (j : Nat) {x : Str} {f : List PyData → PyData → (List PyData → Prop) → Prop} (slot : Slot "list" name id) (hty : typeOf (.builtin id) = pure (.type "method_descriptor")) (hm : MtR X id r) (hr : MeL X.K r f) (ha : DV X a ta)
    (hN : X.N[j]? = some x := by rfl) (hv : Vis X.env.scope x := by first | exact Or.inl rfl | exact Or.inr (Or.inl rfl) | exact Or.inr (Or.inr rfl)) (hd : (x == ("__debug__" : Str)) = false := by decide)
    (hcd : (x == ("__classdict__" : Str)) = false := by decide) (hbase : attributeBase (.Name x p) name X.env (eval (.Name x p) X.env) = eval (.Name x p) X.env := by rfl)
    (hfew : ((backTo cpos (starEach [a] X.env)).all (fun x => !x.1) && (backToKw cpos (keywordEach [] X.env)).all (fun x => x.1.isSome)
      && decide ([a].length + ([] : List Keyword).length + (if ([] : List Keyword).isEmpty then 0 else 1) < 30)) = true := by rfl)
    (hline : (apos.endLine == cpos.line) = true := by rfl) (hs : starEach [a] X.env = (false, eval a X.env) :: starEach [] X.env := by rfl) (hplain : (backTo cpos (starEach [] X.env)).any (·.1) = false := by rfl)
    (hsw : swapsWith (.Call (.Attribute (.Name x p) name apos) [a] [] cpos) none pos.line X.env = pure false := by rfl) : DS X (.Expr (.Call (.Attribute (.Name x p) name apos) [a] [] cpos) pos) (zM1 j f ta) := by
  obtain ⟨tea, pa, va⟩ := ha.ex
  refine ⟨_, ps_expr (pe_bm F.plainAttrs_list slot hty hm (pe_var hN hv hd hcd) (pa_cons pa pa_nil hs) hbase hfew hline hs hplain) hsw, fun B c s G H D E st k q => ?_⟩
  obtain ⟨w, R0, e0, hl, q⟩ := slO_of q
  obtain ⟨p, xs, hp, hq⟩ := st.isl e0 hl
  refine ⟨_, hp, .inl ⟨rfl, xs, hq⟩, va B c s G H _ _ st q fun v x c1 G1 H1 st1 e1 d1 q1 => ?_⟩
  obtain ⟨w1, R1, g1, q2⟩ := slO_of q1
  obtain ⟨ds, rfl, q3⟩ := asR_of q2
  obtain ⟨p', vs, g2, g3, g4, g5⟩ := st1.own g1
  rw [hp] at g2
  cases g2
  exact hr G1 H1 p vs ds v x _ _ st1.sub g3 g4 d1 q3 fun vs' ds' d' q' => k.nx _ _ _ _ (g5 vs' ds' d') e1 q'
theorem s_m0 (j : Nat) {x : Str} {f : List PyData → (List PyData → Prop) → Prop} (slot : Slot "list" name id) (hty : typeOf (.builtin id) = pure (.type "method_descriptor")) (hm : MtR X id r) (hr : MeL0 X.K r f)
    (hN : X.N[j]? = some x := by rfl) (hv : Vis X.env.scope x := by first | exact Or.inl rfl | exact Or.inr (Or.inl rfl) | exact Or.inr (Or.inr rfl)) (hd : (x == ("__debug__" : Str)) = false := by decide)
    (hcd : (x == ("__classdict__" : Str)) = false := by decide) (hbase : attributeBase (.Name x p) name X.env (eval (.Name x p) X.env) = eval (.Name x p) X.env := by rfl)
    (hline : (apos.endLine == cpos.line) = true := by rfl)
    (hsw : swapsWith (.Call (.Attribute (.Name x p) name apos) [] [] cpos) none pos.line X.env = pure false := by rfl) : DS X (.Expr (.Call (.Attribute (.Name x p) name apos) [] [] cpos) pos) (zM0 j f) := by
  refine ⟨_, ps_expr (pe_bm0 F.plainAttrs_list slot hty hm (pe_var hN hv hd hcd) hbase hline) hsw, fun B c s G H D E st k q => ?_⟩
  obtain ⟨w, R0, e0, q⟩ := slO_of q
  obtain ⟨ds, rfl, q3⟩ := asR_of q
  obtain ⟨p', vs, g2, g3, g4, g5⟩ := st.own e0
  exact ⟨_, g2, .inl ⟨rfl, vs, SqL.of g3⟩, hr G H _ vs ds _ _ st.sub g3 g4 q3 fun vs' ds' d' q' => k.nx _ _ _ _ (g5 vs' ds' d') (Same.refl _) q'⟩
/-- append, extend, reverse, clear -/
def fApp : List PyData → PyData → (List PyData → Prop) → Prop := fun ds x Q => ds.length < sizeLine ∧ Q (ds ++ [x])
def dataV (K : PySem.W.Frag) (G H : Hp) (v : V) (x : PyData) : Prop := Dp K G v x
/-- append: what is put in is data (an owned list is frozen first) -/
theorem s_app (j : Nat) {x : Str} (ha : DE X a ta)
    (hN : X.N[j]? = some x := by rfl) (hv : Vis X.env.scope x := by first | exact Or.inl rfl | exact Or.inr (Or.inl rfl) | exact Or.inr (Or.inr rfl)) (hd : (x == ("__debug__" : Str)) = false := by decide)
    (hcd : (x == ("__classdict__" : Str)) = false := by decide) (hbase : attributeBase (.Name x p) "append" X.env (eval (.Name x p) X.env) = eval (.Name x p) X.env := by rfl)
    (hfew : ((backTo cpos (starEach [a] X.env)).all (fun x => !x.1) && (backToKw cpos (keywordEach [] X.env)).all (fun x => x.1.isSome)
      && decide ([a].length + ([] : List Keyword).length + (if ([] : List Keyword).isEmpty then 0 else 1) < 30)) = true := by rfl)
    (hline : (apos.endLine == cpos.line) = true := by rfl) (hs : starEach [a] X.env = (false, eval a X.env) :: starEach [] X.env := by rfl) (hplain : (backTo cpos (starEach [] X.env)).any (·.1) = false := by rfl)
    (hsw : swapsWith (.Call (.Attribute (.Name x p) "append" apos) [a] [] cpos) none pos.line X.env = pure false := by rfl) : DS X (.Expr (.Call (.Attribute (.Name x p) "append" apos) [a] [] cpos) pos) (zM1 j fApp ta) := by
  obtain ⟨tea, pa, va⟩ := ha.ex
  refine ⟨_, ps_expr (pe_bm F.plainAttrs_list F.slot_list_append F.type_list_append mt_append (pe_var hN hv hd hcd) (pa_cons pa pa_nil hs) hbase hfew hline hs hplain) hsw, fun B c s G H D E st k q => ?_⟩
  obtain ⟨w, R0, e0, hl, q⟩ := slO_of q
  obtain ⟨p, xs, hp, hq⟩ := st.isl e0 hl
  refine ⟨_, hp, .inl ⟨rfl, xs, hq⟩, va B c s G H _ _ st q fun v x c1 G1 H1 st1 e1 d1 q1 => ?_⟩
  obtain ⟨w1, R1, g1, q2⟩ := slO_of q1
  obtain ⟨ds, rfl, q3, q4⟩ := asR_of q2
  obtain ⟨p', vs, g2, g3, g4, g5⟩ := st1.own g1
  rw [hp] at g2
  cases g2
  exact ⟨p, vs, v, rfl, rfl, g3, by rw [dpa_len g4]; exact q3, k.nx _ _ _ _ (g5 _ _ (dpa_app g4 (.cons d1 .nil))) e1 q4⟩
def fExt : List PyData → PyData → (List PyData → Prop) → Prop := fun ds x Q => match x with
  | .list es => ds.length + es.length ≤ sizeLine ∧ Q (ds ++ es)
  | .tuple es => ds.length + es.length ≤ sizeLine ∧ Q (ds ++ es)
  | _ => False
theorem fExt_l {ds es : List PyData} {Q : List PyData → Prop} : fExt ds (.list es) Q = (ds.length + es.length ≤ sizeLine ∧ Q (ds ++ es)) := id rfl
theorem fExt_t {ds es : List PyData} {Q : List PyData → Prop} : fExt ds (.tuple es) Q = (ds.length + es.length ≤ sizeLine ∧ Q (ds ++ es)) := id rfl
theorem ml_ext {K : PySem.W.Frag} : MeL K (rExtA K) fExt := by
  intro G H p vs ds v x Q R e hp hd dv h k
  cases x with
  | list es =>
    obtain ⟨q, us, rfl, h1, h2⟩ := dv.lst e
    exact ⟨p, q, vs, us, rfl, rfl, hp, .inl h1, by rw [dpa_len hd, dpa_len h2]; exact h.1, k _ _ (dpa_app hd h2) h.2⟩
  | tuple es =>
    obtain ⟨q, us, rfl, h1, h2⟩ := dp_tup (dv.oth fun _ z => nomatch z)
    exact ⟨p, q, vs, us, rfl, rfl, hp, .inr (same_t e h1), by rw [dpa_len hd, dpa_len h2]; exact h.1, k _ _ (dpa_app hd h2) h.2⟩
  | str _ => exact h.elim
  | none => exact h.elim
  | bool _ => exact h.elim
  | int _ => exact h.elim
  | dict _ => exact h.elim
theorem s_ext (j : Nat) {x : Str} (ha : DV X a ta)
    (hN : X.N[j]? = some x := by rfl) (hv : Vis X.env.scope x := by first | exact Or.inl rfl | exact Or.inr (Or.inl rfl) | exact Or.inr (Or.inr rfl)) (hd : (x == ("__debug__" : Str)) = false := by decide)
    (hcd : (x == ("__classdict__" : Str)) = false := by decide) (hbase : attributeBase (.Name x p) "extend" X.env (eval (.Name x p) X.env) = eval (.Name x p) X.env := by rfl)
    (hfew : ((backTo cpos (starEach [a] X.env)).all (fun x => !x.1) && (backToKw cpos (keywordEach [] X.env)).all (fun x => x.1.isSome)
      && decide ([a].length + ([] : List Keyword).length + (if ([] : List Keyword).isEmpty then 0 else 1) < 30)) = true := by rfl)
    (hline : (apos.endLine == cpos.line) = true := by rfl) (hs : starEach [a] X.env = (false, eval a X.env) :: starEach [] X.env := by rfl) (hplain : (backTo cpos (starEach [] X.env)).any (·.1) = false := by rfl)
    (hsw : swapsWith (.Call (.Attribute (.Name x p) "extend" apos) [a] [] cpos) none pos.line X.env = pure false := by rfl) : DS X (.Expr (.Call (.Attribute (.Name x p) "extend" apos) [a] [] cpos) pos) (zM1 j fExt ta) :=
  s_m1 j F.slot_list_extend F.type_list_extend mt_extA ml_ext ha hN hv hd hcd hbase hfew hline hs hplain hsw
def fRev : List PyData → (List PyData → Prop) → Prop := fun ds Q => Q ds.reverse
def fClr : List PyData → (List PyData → Prop) → Prop := fun _ Q => Q []
theorem ml_rev {K : PySem.W.Frag} : MeL0 K rReverse fRev := fun G H p vs ds Q R e hp hd h k => ⟨p, vs, rfl, rfl, hp, k _ _ (dpa_rev hd) h⟩
theorem ml_clr {K : PySem.W.Frag} : MeL0 K rClear fClr := fun G H p vs ds Q R e hp hd h k => ⟨p, vs, rfl, rfl, hp, k _ _ .nil h⟩
theorem s_rev (j : Nat) {x : Str} (hN : X.N[j]? = some x := by rfl) (hv : Vis X.env.scope x := by first | exact Or.inl rfl | exact Or.inr (Or.inl rfl) | exact Or.inr (Or.inr rfl)) (hd : (x == ("__debug__" : Str)) = false := by decide)
    (hcd : (x == ("__classdict__" : Str)) = false := by decide) (hbase : attributeBase (.Name x p) "reverse" X.env (eval (.Name x p) X.env) = eval (.Name x p) X.env := by rfl)
    (hline : (apos.endLine == cpos.line) = true := by rfl)
    (hsw : swapsWith (.Call (.Attribute (.Name x p) "reverse" apos) [] [] cpos) none pos.line X.env = pure false := by rfl) : DS X (.Expr (.Call (.Attribute (.Name x p) "reverse" apos) [] [] cpos) pos) (zM0 j fRev) :=
  s_m0 j F.slot_list_reverse F.type_list_reverse mt_reverse ml_rev hN hv hd hcd hbase hline hsw
theorem s_clr (j : Nat) {x : Str} (hN : X.N[j]? = some x := by rfl) (hv : Vis X.env.scope x := by first | exact Or.inl rfl | exact Or.inr (Or.inl rfl) | exact Or.inr (Or.inr rfl)) (hd : (x == ("__debug__" : Str)) = false := by decide)
    (hcd : (x == ("__classdict__" : Str)) = false := by decide) (hbase : attributeBase (.Name x p) "clear" X.env (eval (.Name x p) X.env) = eval (.Name x p) X.env := by rfl)
    (hline : (apos.endLine == cpos.line) = true := by rfl)
    (hsw : swapsWith (.Call (.Attribute (.Name x p) "clear" apos) [] [] cpos) none pos.line X.env = pure false := by rfl) : DS X (.Expr (.Call (.Attribute (.Name x p) "clear" apos) [] [] cpos) pos) (zM0 j fClr) :=
  s_m0 j F.slot_list_clear F.type_list_clear mt_clear ml_clr hN hv hd hcd hbase hline hsw
/-- xs.insert(i, e) -/
def insD (ds : List PyData) (n : Nat) (x : PyData) : List PyData := ds.take n ++ [x] ++ ds.drop n
def zIns (j : Nat) (ta tb : TD) : TSd := fun E c => slO c j fun _ R0 => lstR R0 ∧ ta c fun y c0 => tb c0 fun x c1 => asI y fun i => slO c1 j fun w R => asR R fun ds => ds.length < sizeLine ∧ 0 ≤ i ∧ i < 2 ^ 63 ∧ E.nx (c1.set j (.o w (.lst (insD ds i.toNat x))))
theorem s_ins (j : Nat) {x : Str} (ha : DE X a ta) (hb : DE X b tb)
    (hN : X.N[j]? = some x := by rfl) (hv : Vis X.env.scope x := by first | exact Or.inl rfl | exact Or.inr (Or.inl rfl) | exact Or.inr (Or.inr rfl)) (hd : (x == ("__debug__" : Str)) = false := by decide)
    (hcd : (x == ("__classdict__" : Str)) = false := by decide) (hbase : attributeBase (.Name x p) "insert" X.env (eval (.Name x p) X.env) = eval (.Name x p) X.env := by rfl)
    (hfew : ((backTo cpos (starEach [a, b] X.env)).all (fun x => !x.1) && (backToKw cpos (keywordEach [] X.env)).all (fun x => x.1.isSome)
      && decide ([a, b].length + ([] : List Keyword).length + (if ([] : List Keyword).isEmpty then 0 else 1) < 30)) = true := by rfl)
    (hline : (apos.endLine == cpos.line) = true := by rfl) (hs : starEach [a, b] X.env = (false, eval a X.env) :: starEach [b] X.env := by rfl) (hs2 : starEach [b] X.env = (false, eval b X.env) :: starEach [] X.env := by rfl) (hplain : (backTo cpos (starEach [b] X.env)).any (·.1) = false := by rfl)
    (hsw : swapsWith (.Call (.Attribute (.Name x p) "insert" apos) [a, b] [] cpos) none pos.line X.env = pure false := by rfl) : DS X (.Expr (.Call (.Attribute (.Name x p) "insert" apos) [a, b] [] cpos) pos) (zIns j ta tb) := by
  obtain ⟨tea, pa, va⟩ := ha.ex
  obtain ⟨teb, pb, vb⟩ := hb.ex
  refine ⟨_, ps_expr (pe_bm F.plainAttrs_list F.slot_list_insert F.type_list_insert mt_insert (pe_var hN hv hd hcd) (pa_cons pa (pa_cons pb pa_nil hs2) hs) hbase hfew hline hs hplain) hsw, fun B c s G H D E st k q => ?_⟩
  obtain ⟨w, R0, e0, hl, q⟩ := slO_of q
  obtain ⟨p, xs, hp, hq⟩ := st.isl e0 hl
  refine ⟨_, hp, .inl ⟨rfl, xs, hq⟩, va B c s G H _ _ st q fun v y c0 G0 H0 st0 e0' d0 q0 => vb B c0 s G0 H0 _ _ st0 q0 fun u x c1 G1 H1 st1 e1 d1 q1 => ?_⟩
  obtain ⟨i, rfl, q1⟩ := asI_of q1
  obtain ⟨w1, R1, g1, q2⟩ := slO_of q1
  obtain ⟨ds, rfl, q3, q4, q5, q6⟩ := asR_of q2
  obtain ⟨p', vs, g2, g3, g4, g5⟩ := st1.own g1
  rw [hp] at g2
  cases g2
  have hv := dp_int d0
  subst hv
  exact ⟨p, vs, i, u, rfl, rfl, g3, by rw [dpa_len g4]; exact q3, q4, q5, k.nx _ _ _ _ (g5 _ _ (dpa_app (dpa_app (dpa_take _ g4) (.cons d1 .nil)) (dpa_drop _ g4))) (e0'.trans e1) q6⟩
/-- xs.pop(), xs.pop(i) -/
def popD (ds : List PyData) (Q : PyData → List PyData → Prop) : Prop := ∃ d, ds[ds.length - 1]? = some d ∧ Q d ds.dropLast
def uPop (j : Nat) : TD := fun c Q => slO c j fun w R => asR R fun ds => popD ds fun d l => Q d (c.set j (.o w (.lst l)))
theorem dpa_dropLast {K : PySem.W.Frag} {G : Hp} {vs : List V} {ds : List PyData} (h : DpAll K G vs ds) : DpAll K G vs.dropLast ds.dropLast := by
  rw [List.dropLast_eq_take, List.dropLast_eq_take, dpa_len h]
  exact dpa_take _ h
theorem dpa_erase {K : PySem.W.Frag} {G : Hp} : ∀ {ds : List PyData} {vs : List V} (i : Nat), DpAll K G vs ds → DpAll K G (vs.eraseIdx i) (ds.eraseIdx i)
  | [], _, i, h => by cases h; exact .nil
  | d :: ds, _, 0, h => by
    cases h with
    | cons _ h2 => exact h2
  | d :: ds, _, i + 1, h => by
    cases h with
    | cons h1 h2 => exact .cons h1 (dpa_erase i h2)
theorem d_pop (j : Nat) {x : Str}
    (hN : X.N[j]? = some x := by rfl) (hv : Vis X.env.scope x := by first | exact Or.inl rfl | exact Or.inr (Or.inl rfl) | exact Or.inr (Or.inr rfl)) (hd : (x == ("__debug__" : Str)) = false := by decide)
    (hcd : (x == ("__classdict__" : Str)) = false := by decide) (hbase : attributeBase (.Name x p) "pop" X.env (eval (.Name x p) X.env) = eval (.Name x p) X.env := by rfl)
    (hline : (apos.endLine == cpos.line) = true := by rfl) : DE X (.Call (.Attribute (.Name x p) "pop" apos) [] [] cpos) (uPop j) := by
  refine ⟨_, pe_bm0 F.plainAttrs_list F.slot_list_pop F.type_list_pop mt_pop (pe_var hN hv hd hcd) hbase hline, fun B c s G H Q R st q k => ?_⟩
  obtain ⟨w, R0, e0, q⟩ := slO_of q
  obtain ⟨ds, rfl, d, h1, q3⟩ := asR_of q
  obtain ⟨p', vs, g2, g3, g4, g5⟩ := st.own e0
  obtain ⟨u, hu, du⟩ := dpa_get g4 h1
  exact ⟨_, g2, .inl ⟨rfl, vs, SqL.of g3⟩, p', vs, u, rfl, rfl, g3, by rw [dpa_len g4]; exact hu, k u d _ G _ (g5 _ _ (dpa_dropLast g4)) (Same.refl _) du q3⟩
def popI (ds : List PyData) (i : Int) (Q : PyData → List PyData → Prop) : Prop := ∃ k d, seqIndex? i ds.length = some k ∧ ds[k]? = some d ∧ -(2 ^ 63) ≤ i ∧ i < 2 ^ 63 ∧ Q d (ds.eraseIdx k)
def uPopI (j : Nat) (ta : TD) : TD := fun c Q => slO c j fun _ R0 => lstR R0 ∧ ta c fun y c1 => asI y fun i => slO c1 j fun w R => asR R fun ds => popI ds i fun d l => Q d (c1.set j (.o w (.lst l)))
theorem d_popI (j : Nat) {x : Str} (ha : DE X a ta)
    (hN : X.N[j]? = some x := by rfl) (hv : Vis X.env.scope x := by first | exact Or.inl rfl | exact Or.inr (Or.inl rfl) | exact Or.inr (Or.inr rfl)) (hd : (x == ("__debug__" : Str)) = false := by decide)
    (hcd : (x == ("__classdict__" : Str)) = false := by decide) (hbase : attributeBase (.Name x p) "pop" X.env (eval (.Name x p) X.env) = eval (.Name x p) X.env := by rfl)
    (hfew : ((backTo cpos (starEach [a] X.env)).all (fun x => !x.1) && (backToKw cpos (keywordEach [] X.env)).all (fun x => x.1.isSome)
      && decide ([a].length + ([] : List Keyword).length + (if ([] : List Keyword).isEmpty then 0 else 1) < 30)) = true := by rfl)
    (hline : (apos.endLine == cpos.line) = true := by rfl) (hs : starEach [a] X.env = (false, eval a X.env) :: starEach [] X.env := by rfl) (hplain : (backTo cpos (starEach [] X.env)).any (·.1) = false := by rfl) :
    DE X (.Call (.Attribute (.Name x p) "pop" apos) [a] [] cpos) (uPopI j ta) := by
  obtain ⟨tea, pa, va⟩ := ha.ex
  refine ⟨_, pe_bm F.plainAttrs_list F.slot_list_pop F.type_list_pop mt_popAt (pe_var hN hv hd hcd) (pa_cons pa pa_nil hs) hbase hfew hline hs hplain, fun B c s G H Q R st q k => ?_⟩
  obtain ⟨w, R0, e0, hl, q⟩ := slO_of q
  obtain ⟨p, xs, hp, hq⟩ := st.isl e0 hl
  refine ⟨_, hp, .inl ⟨rfl, xs, hq⟩, va B c s G H _ _ st q fun v x c1 G1 H1 st1 e1 d1 q1 => ?_⟩
  obtain ⟨i, rfl, q1⟩ := asI_of q1
  have hv := dp_int d1
  subst hv
  obtain ⟨w1, R1, g1, q2⟩ := slO_of q1
  obtain ⟨ds, rfl, n, d, h1, h2, h3, h4, h5⟩ := asR_of q2
  obtain ⟨p', vs, g2, g3, g4, g5⟩ := st1.own g1
  rw [hp] at g2
  cases g2
  obtain ⟨u, hu, du⟩ := dpa_get g4 h2
  exact ⟨p, vs, i, n, u, rfl, rfl, g3, h3, h4, by rw [dpa_len g4]; exact h1, hu, k u d _ G1 _ (g5 _ _ (dpa_erase n g4)) e1 du h5⟩

/-! ### an owned thing made here, frozen where it is read -/
def slF : Ctx → Nat → (PyData → Prop) → Prop
  | .d x :: _, 0, Q => Q x
  | .o none R :: _, 0, Q => R.fz Q
  | _ :: c, i + 1, Q => slF c i Q
  | _, _, _ => False
theorem slF_d {x : PyData} {c : Ctx} {Q : PyData → Prop} : slF (.d x :: c) 0 Q = Q x := id rfl
theorem slF_o {R : Res} {c : Ctx} {Q : PyData → Prop} : slF (.o none R :: c) 0 Q = R.fz Q := id rfl
theorem slF_s {y : S} {c : Ctx} {i : Nat} {Q : PyData → Prop} : slF (y :: c) (i + 1) Q = slF c i Q := by
  cases y with
  | o w R => cases w <;> rfl
  | _ => rfl
theorem slF_of : ∀ {c : Ctx} {i : Nat} {Q : PyData → Prop}, slF c i Q → (∃ x, c[i]? = some (.d x) ∧ Q x) ∨ ∃ R, c[i]? = some (.o none R) ∧ R.fz Q
  | [], 0, _, h => h.elim
  | [], _ + 1, _, h => h.elim
  | .d x :: c, 0, _, h => .inl ⟨x, rfl, h⟩
  | .no :: c, 0, _, h => h.elim
  | .f _ :: c, 0, _, h => h.elim
  | .o none R :: c, 0, _, h => .inr ⟨R, rfl, h⟩
  | .o (some _) R :: c, 0, _, h => h.elim
  | y :: c, i + 1, _, h => by
    rw [slF_s] at h
    simpa using slF_of h
def uVf (j : Nat) : TD := fun c Q => slF c j fun x => Q x (c.set j (.d x))
theorem set_same {α : Type} : ∀ {l : List α} {i : Nat} {x : α}, l[i]? = some x → l.set i x = l
  | [], _, _, h => by simp at h
  | y :: l, 0, x, h => by simp at h; simp [h]
  | y :: l, i + 1, x, h => by simpa using set_same (l := l) (i := i) (by simpa using h)
theorem dvf (j : Nat) {x : Str} (hN : X.N[j]? = some x := by rfl) (hv : Vis X.env.scope x := by first | exact Or.inl rfl | exact Or.inr (Or.inl rfl) | exact Or.inr (Or.inr rfl)) (hd : (x == ("__debug__" : Str)) = false := by decide)
    (hcd : (x == ("__classdict__" : Str)) = false := by decide) : DE X (.Name x pos) (uVf j) := by
  refine ⟨_, pe_var hN hv hd hcd, fun B c s G H Q R st h k => ?_⟩
  rcases slF_of h with ⟨y, e, q⟩ | ⟨R0, e, q⟩
  · obtain ⟨v, e1, d⟩ := st.get_d e
    rw [set_same e] at q
    exact ⟨v, e1, k v y c G H st (Same.refl _) d q⟩
  · obtain ⟨v, e1, st2⟩ := st.take_o e
    obtain ⟨G', d, st3, e3, dd, q3⟩ := st2.frzR q
    have st4 := st3.set_d j dd
    rw [set_same e1, List.set_set] at st4
    exact ⟨v, e1, k v d _ G' H st4 e3 dd q3⟩

/-! ### slices -/
abbrev TP := Ctx → (Option Int → Ctx → Prop) → Prop
def DPv (K : PySem.W.Frag) (to : TO) (t : TP) : Prop := ∀ (B : Base) (c : Ctx) (s : L2.St) (G H : Hp) (Q : Option Int → Ctx → Prop) (R : Option Int → Hp → Prop), Stt K B c s G H → t c Q →
  (∀ o c' G' H', Stt K B c' s G' H' → Same G G' → Q o c' → R o H') → to s H R
structure DP (X : Cx) (o : Option Expr) (t : TP) : Prop where
  ex : ∃ to, PO X o to ∧ DPv X.K to t
def pNo : TP := fun c Q => Q none c
def pSo (t : TD) : TP := fun c Q => t c fun x c1 => asI x fun i => Q (some i) c1
theorem p_no : DP X none pNo := ⟨_, po_none, fun B c s G H Q R st q k => k _ c G H st (Same.refl _) q⟩
theorem p_so (ha : DE X a ta) : DP X (some a) (pSo ta) := by
  obtain ⟨tea, pa, va⟩ := ha.ex
  refine ⟨_, po_some pa, fun B c s G H Q R st q k => va B c s G H _ _ st q fun v x c1 G1 H1 st1 e1 d1 q1 => ?_⟩
  obtain ⟨i, rfl, q1⟩ := asI_of q1
  exact ⟨i, dp_int d1, k _ c1 G1 H1 st1 e1 q1⟩
def cutL {α : Type} (xs : List α) (lo hi : Option Int) : List α := (xs.drop (HT.sIx xs.length 0 lo)).take (HT.sIx xs.length xs.length hi - HT.sIx xs.length 0 lo)
theorem dpa_cut {K : PySem.W.Frag} {G : Hp} {vs : List V} {ds : List PyData} (h : DpAll K G vs ds) (lo hi : Option Int) : DpAll K G (cutV vs lo hi) (cutL ds lo hi) := by
  unfold cutV cutL
  rw [dpa_len h]
  exact dpa_take _ (dpa_drop _ h)
/-- of texts and tuples -/
def fSl (x : PyData) (lo hi : Option Int) (Q : PyData → Prop) : Prop := match x with
  | .str z => z.length ≤ sizeLine ∧ Q (.str (cutS z lo hi))
  | .tuple ds => Q (.tuple (cutL ds lo hi))
  | _ => False
theorem fSl_s {z : Str} {lo hi : Option Int} {Q : PyData → Prop} : fSl (.str z) lo hi Q = (z.length ≤ sizeLine ∧ Q (.str (cutS z lo hi))) := id rfl
theorem fSl_t {ds : List PyData} {lo hi : Option Int} {Q : PyData → Prop} : fSl (.tuple ds) lo hi Q = Q (.tuple (cutL ds lo hi)) := id rfl
variable {lo hi : Option Expr} {tl th : TP} {p2 : Pos}
def uSl (ta : TD) (tl th : TP) : TD := fun c Q => ta c fun x c0 => tl c0 fun l c1 => th c1 fun u c2 => fSl x l u fun z => Q z c2
theorem d_sl (ha : DE X a ta) (hl : DP X lo tl) (hu : DP X hi th) : DE X (.Subscript a (.Slice lo hi none p2) pos) (uSl ta tl th) := by
  obtain ⟨tea, pa, va⟩ := ha.ex
  obtain ⟨tel, pl, vl⟩ := hl.ex
  obtain ⟨teu, pu, vu⟩ := hu.ex
  refine ⟨_, pe_slice (SlR.or sl_str sl_tupA) pa pl pu, fun B c s G H Q R st q k => va B c s G H _ _ st q fun v x c0 G0 H0 st0 e0 d0 q0 => vl B c0 s G0 H0 _ _ st0 q0 fun l c1 G1 H1 st1 e1 q1 => vu B c1 s G1 H1 _ _ st1 q1 fun u c2 G2 H2 st2 e2 q2 => ?_⟩
  have d2 := dp_mono (e1.trans e2) _ _ d0
  have e02 := (e0.trans e1).trans e2
  cases x with
  | str z =>
    have := dp_str d2
    subst this
    exact .inl ⟨z, rfl, q2.1, k _ _ c2 G2 H2 st2 e02 (.str _) q2.2⟩
  | tuple ds =>
    obtain ⟨p, vs, rfl, h1, h2⟩ := dp_tup d2
    refine .inr ⟨p, vs, rfl, same_t st2.sub h1, fun ⟨w1, w2⟩ => ?_, fun _ l' hn => ?_⟩
    · have e : cutL ds l u = ds := by
        unfold cutL
        rw [← dpa_len h2, w1, w2, List.drop_zero, Nat.sub_zero, dpa_len h2, List.take_length]
      have q3 : Q (.tuple (cutL ds l u)) c2 := q2
      rw [e] at q3
      exact k _ _ c2 G2 H2 st2 e02 d2 q3
    · obtain ⟨st3, e3⟩ := st2.laid (o := .tup (cutV vs l u)) hn
      exact k _ _ c2 _ _ st3 (e02.trans e3) (.tup (.inl (.inl upd_same)) (dpa_mono e3 _ _ (dpa_cut h2 l u))) q2
  | list _ => exact q2.elim
  | none => exact q2.elim
  | bool _ => exact q2.elim
  | int _ => exact q2.elim
  | dict _ => exact q2.elim
/-- of lists: a new one -/
def oSl (ta : TD) (tl th : TP) : TR := fun c Q => ta c fun x c0 => tl c0 fun l c1 => th c1 fun u c2 => asL x fun ds => Q (.lst (cutL ds l u)) c2
theorem o_sl (ha : DE X a ta) (hl : DP X lo tl) (hu : DP X hi th) : DO X (.Subscript a (.Slice lo hi none p2) pos) (oSl ta tl th) := by
  obtain ⟨tea, pa, va⟩ := ha.ex
  obtain ⟨tel, pl, vl⟩ := hl.ex
  obtain ⟨teu, pu, vu⟩ := hu.ex
  refine ⟨_, pe_slice sl_list pa pl pu, fun B c s G H Q R st q k => va B c s G H _ _ st q fun v x c0 G0 H0 st0 e0 d0 q0 => vl B c0 s G0 H0 _ _ st0 q0 fun l c1 G1 H1 st1 e1 q1 => vu B c1 s G1 H1 _ _ st1 q1 fun u c2 G2 H2 st2 e2 q2 => ?_⟩
  have d2 := dp_mono (e1.trans e2) _ _ d0
  obtain ⟨ds, rfl, q2⟩ := asL_of q2
  obtain ⟨p, vs, rfl, h1, h2⟩ := dp_lst d2
  exact ⟨p, vs, rfl, Same.seq st2.sub h1, fun l' hn => k _ _ c2 _ _ (st2.laidL hn (dpa_cut h2 l u)) ((e0.trans e1).trans e2) q2⟩
def oSlN (j : Nat) (tl th : TP) : TR := fun c Q => hasS c j ∧ tl c fun l c1 => th c1 fun u c2 => slW c2 j fun x => asL x fun ds => Q (.lst (cutL ds l u)) c2
theorem o_slN (j : Nat) {x : Str} {pn : Pos} (hl : DP X lo tl) (hu : DP X hi th) (hN : X.N[j]? = some x := by rfl) (hv : Vis X.env.scope x := by first | exact Or.inl rfl | exact Or.inr (Or.inl rfl) | exact Or.inr (Or.inr rfl)) (hd : (x == ("__debug__" : Str)) = false := by decide)
    (hcd : (x == ("__classdict__" : Str)) = false := by decide) : DO X (.Subscript (.Name x pn) (.Slice lo hi none p2) pos) (oSlN j tl th) := by
  obtain ⟨tel, pl, vl⟩ := hl.ex
  obtain ⟨teu, pu, vu⟩ := hu.ex
  refine ⟨_, pe_slice sl_list (pe_var hN hv hd hcd) pl pu, fun B c s G H Q R st q k => ?_⟩
  obtain ⟨h, q⟩ := q
  obtain ⟨v, e⟩ := st.val h
  refine ⟨v, e, vl B c s G H _ _ st q fun l c1 G1 H1 st1 e1 q1 => vu B c1 s G1 H1 _ _ st1 q1 fun u c2 G2 H2 st2 e2 q2 => ?_⟩
  obtain ⟨v', x, e', d', q3⟩ := st2.look q2
  rw [e] at e'
  cases e'
  obtain ⟨ds, rfl, q3⟩ := asL_of q3
  obtain ⟨p, vs, rfl, h1, h2⟩ := d'.lst st2.sub
  exact ⟨p, vs, rfl, h1, fun l' hn => k _ _ c2 _ _ (st2.laidL hn (dpa_cut h2 l u)) (e1.trans e2) q3⟩

/-! ### a call to which things are lent to be looked at; its answer a plain one -/
def scal : PyData → Bool
  | .none => true
  | .bool _ => true
  | .int _ => true
  | .str _ => true
  | _ => false
theorem scal_n : scal .none = true := id rfl
theorem scal_b {b : Bool} : scal (.bool b) = true := id rfl
theorem scal_i {i : Int} : scal (.int i) = true := id rfl
theorem scal_s {i : Str} : scal (.str i) = true := id rfl
theorem dp_scal {K : PySem.W.Frag} {G G' : Hp} {v : V} {x : PyData} (h : Dp K G v x) (hx : scal x = true) : Dp K G' v x := by
  cases h with
  | non => exact .non
  | bl b => exact .bl b
  | int i => exact .int i
  | str z => exact .str z
  | lst _ _ => cases hx
  | tup _ _ => cases hx
def kS (Q : PyData → Prop) : S → Ctx → Prop := fun r _ => match r with
  | .d x => scal x = true ∧ Q x
  | _ => False
theorem kS_d {Q : PyData → Prop} {x : PyData} {c : Ctx} : kS Q (.d x) c = (scal x = true ∧ Q x) := id rfl
theorem ret_S {Q : PyData → Prop} {x : PyData} : ret (kS Q) (.d x) = (scal x = true ∧ Q x) := propext ⟨fun h => h [], fun h _ => h⟩
def seeAll (c : Ctx) : List Arg → (List PyData → Prop) → Prop
  | [], Q => Q []
  | .d x :: as, Q => seeAll c as fun xs => Q (x :: xs)
  | .s j :: as, Q => slW c j fun x => seeAll c as fun xs => Q (x :: xs)
  | .f _ :: _, _ => False
section
variable {c : Ctx} {as : List Arg} {x : PyData} {j : Nat} {Q : List PyData → Prop}
theorem see_n : seeAll c [] Q = Q [] := id rfl
theorem see_d : seeAll c (.d x :: as) Q = seeAll c as fun xs => Q (x :: xs) := id rfl
theorem see_s : seeAll c (.s j :: as) Q = slW c j fun x => seeAll c as fun xs => Q (x :: xs) := id rfl
end
def rV (j : Nat) (tr : TAr) : TAr := fun c Q => hasS c j ∧ tr c fun as c2 => Q (.s j :: as) c2
variable {es : List Expr} {t tr : TAr} {x : Str} {k : Nat} {ps : List Str} {T : TF}
theorem r_v (j : Nat) {y : Str} {py : Pos} (hr : DAr X es tr) (hN : X.N[j]? = some y := by rfl) (hv : Vis X.env.scope y := by first | exact Or.inl rfl | exact Or.inr (Or.inl rfl) | exact Or.inr (Or.inr rfl)) (hd : (y == ("__debug__" : Str)) = false := by decide)
    (hcd : (y == ("__classdict__" : Str)) = false := by decide) (hs : starEach (.Name y py :: es) X.env = (false, eval (.Name y py) X.env) :: starEach es X.env := by rfl) : DAr X (.Name y py :: es) (rV j tr) := by
  obtain ⟨ter, pr, vr⟩ := hr.ex
  refine ⟨_, pa_cons (pe_var hN hv hd hcd) pr hs, fun B c s G H Q R st q k => ?_⟩
  obtain ⟨h, q⟩ := q
  obtain ⟨u, hu⟩ := st.val h
  exact ⟨u, hu, vr B c s G H _ _ st q fun vs xs c2 G2 H2 st2 e2 d2 q2 => k _ _ c2 G2 H2 st2 e2 (.cons (a := .s j) hu d2) q2⟩
theorem see_of {K : PySem.W.Frag} {B : Base} {c : Ctx} {s : L2.St} {G H : Hp} (st : Stt K B c s G H) : ∀ {as : List Arg} {vs : List V} {Q : List PyData → Prop}, ArgVs K G s as vs → seeAll c as Q → ∃ xs, DpAll K H vs xs ∧ Q xs
  | [], _, _, h, q => by cases h; exact ⟨[], .nil, q⟩
  | .d x :: as, _, _, h, q => by
    cases h with
    | cons h1 h2 =>
      obtain ⟨xs, d, q⟩ := see_of st h2 q
      exact ⟨x :: xs, .cons (dp_mono st.sub _ _ h1) d, q⟩
  | .s j :: as, _, _, h, q => by
    cases h with
    | cons h1 h2 =>
      obtain ⟨v, x, e, dv, q⟩ := st.look q
      have h1 : s[j]? = some (some _) := h1
      rw [e] at h1
      cases h1
      obtain ⟨xs, d, q⟩ := see_of st h2 q
      exact ⟨x :: xs, .cons (dv.dp st.sub) d, q⟩
  | .f _ :: as, _, _, _, q => q.elim
def uCallS (T : TF) (t : TAr) : TD := fun c Q => t c fun as c1 => seeAll c1 as fun xs => T (xs.map S.d) (kS fun x => Q x c1)
theorem d_callS (C : Cal X.prog X.w X.K X.mg X.base x k ps T) (hr : Room k X.A) (ha : DAr X (e :: es) t) (hg : Gl X x := by rfl)
    (hdb : (x == ("__debug__" : Str)) = false := by decide) (he : starEach (e :: es) X.env = (false, eval e X.env) :: starEach es X.env := by rfl) (hpl : (backTo pos (starEach es X.env)).any (·.1) = false := by rfl) : DE X (.Call (.Name x p) (e :: es) [] pos) (uCallS T t) := by
  obtain ⟨f, fd, h1, h2, h3, h4⟩ := C.ex
  obtain ⟨ta, pa, va⟩ := ha.ex
  refine ⟨_, pe_call h1 hr hg h2 h3 h4 .nil pass0 pa hdb he hpl, fun B c s G H Q R st q k => va B c s G H _ _ st q fun vs as c1 G1 H1 st1 e1 d1 q1 => ?_⟩
  obtain ⟨xs, dx, q1⟩ := see_of st1 d1 q1
  rw [List.append_nil]
  refine ⟨H1, [], xs.map S.d, _, stt_data (Same.refl H1) dx, q1, fun r c' vr s' G' H' st' q2 => ?_⟩
  cases r with
  | d y =>
    obtain ⟨A', r', w⟩ := st'.ex
    obtain ⟨A, r0, w0⟩ := st1.ex
    have up : Same H1 H' := w.old.trans w.sub
    have kp : ∀ a ∈ A, H' a = H1 a := fun a ha => by
      cases q : H1 a with
      | none => exact absurd q (r0.here a ha)
      | some o => exact up a o q
    cases r' with
    | d hd _ =>
      refine k vr y c1 G1 H' ⟨A, r0.mono (Same.refl _) kp, w0.sub.trans up, w0.nd, w0.out, w0.old, fun a o h1 h2 => up a o (w0.stay a o h1 h2), fun a h => w0.dom a ?_, w0.newG, w0.lim⟩ e1 (dp_scal hd q2.1) q2.2
      cases q : H1 a with
      | none => rfl
      | some o => rw [up a o q] at h; cases h
  | o w R2 => exact q2.elim
  | no => exact q2.elim
  | f _ => exact q2.elim
end
end Dl

/-! List comprehensions over data. -/
namespace Dl
open PySem PySem.Spec PyProof.Rows L2

/-! ### a reading's one form -/
def rdE (K : PySem.W.Frag) (t : TD) : TE := fun σ H Q => ∃ (B : Base) (c : Ctx) (G : Hp) (Q' : PyData → Ctx → Prop), Stt K B c σ G H ∧ t c Q' ∧ ∀ v x c' G' H', Stt K B c' σ G' H' → Same G G' → Dp K G' v x → Q' x c' → Q v H'
def rdT (K : PySem.W.Frag) (t : TB) : TT := fun σ H Q => ∃ (B : Base) (c : Ctx) (G : Hp) (Q' : Bool → Ctx → Prop), Stt K B c σ G H ∧ t c Q' ∧ ∀ b c' G' H', Stt K B c' σ G' H' → Same G G' → Q' b c' → Q b H'
def rdG (K : PySem.W.Frag) (js : List Nat) (t : TGd) : TG := fun v σ H Q => ∃ (B : Base) (c : Ctx) (G : Hp) (x : PyData) (Q' : Ctx → Prop), Stt K B c σ G H ∧ Dp K G v x ∧ t x c Q' ∧ ∀ c' s', Stt K B c' s' G H → But js σ s' → Q' c' → Q s' H
section
variable {X : Cx} {e : Expr} {ifs : List Expr} {t : TD} {tb : TB} {js : List Nat} {tg : TGd}
theorem DE.pe (h : DE X e t) : PE X e (rdE X.K t) := by
  obtain ⟨te, p, v⟩ := h.ex
  exact ⟨fun pins s σ H Q I ⟨B, c, G, Q', st, q, k⟩ => p.run pins s σ H Q I (v B c σ G H Q' Q st q k)⟩
theorem DG.pg (h : DG X e js tg) : PG X e (rdG X.K js tg) := by
  obtain ⟨te, p, v⟩ := h.ex
  exact ⟨fun pins s σ H x u Q I r ⟨B, c, G, y, Q', st, d, q, k⟩ => p.run pins s σ H x u Q I r (v B c σ G H x y Q' Q st d q k)⟩
/-- a clause's tests -/
structure DTs (X : Cx) (ifs : List Expr) (t : TB) : Prop where
  pt : PTs X ifs (rdT X.K t)
def bYes : TB := fun c Q => Q true c
theorem b_yes : DTs X [] bYes := ⟨⟨fun pins s σ H Q I ⟨B, c, G, Q', st, q, k⟩ => pts_nil.run pins s σ H Q I (k true c G H st (Same.refl _) q)⟩⟩
theorem b_one (h : DT X e tb) : DTs X [e] tb := by
  obtain ⟨te, p, v⟩ := h.ex
  exact ⟨⟨fun pins s σ H Q I ⟨B, c, G, Q', st, q, k⟩ => (pts_one p).run pins s σ H Q I (v B c σ G H Q' Q st q k)⟩⟩
end

/-! ### the owned list on top set aside -/
section
variable {K : PySem.W.Frag} {B : Base} {G G' H H' : Hp} {c : Ctx} {s : L2.St} {acc : List PyData} {v : V}
theorem reps_base {B B' : Base} {G H : Hp} {c : Ctx} {s : L2.St} {A : List Addr} (h : Reps K B G H c s A) (hw : ∀ w v Aj, (∀ a ∈ Aj, a ∈ A) → WOk B w v Aj → WOk B' w v Aj) : Reps K B' G H c s A := by
  induction h with
  | nil => exact .nil
  | no _ ih => exact .no (ih hw)
  | d hd _ ih => exact .d hd (ih hw)
  | f hd _ ih => exact .f hd (ih hw)
  | o ho hw1 _ ih => exact .o ho (hw _ _ _ (fun a ha => List.mem_append_left _ ha) hw1) (ih fun w v Aj hA => hw w v Aj fun a ha => List.mem_append_right _ (hA a ha))
theorem Stt.under (st : Stt K B (.o none (.lst acc) :: c) (some v :: s) G H) : ∃ (D : Addr) (vs : List V) (B' : Base), v = .ref D ∧ H D = some (.lst vs) ∧ DpAll K G vs acc ∧ Stt K B' c s G H ∧
    ∀ c2 s2 G2 H2, Stt K B' c2 s2 G2 H2 → Same G G2 ∧ H2 D = some (.lst vs) ∧ Stt K B (.o none (.lst acc) :: c2) (some v :: s2) G2 H2 ∧ ∀ vs2 acc2, DpAll K G2 vs2 acc2 → Stt K B (.o none (.lst acc2) :: c2) (some v :: s2) G2 (upd H2 D (.lst vs2)) := by
  classical
  obtain ⟨A0, r0, w⟩ := st.ex
  cases r0 with
  | @o _ _ _ _ _ AD A hD hWD r =>
    obtain ⟨D, vs, rfl, rfl, hp, hd⟩ := hD
    obtain ⟨n1, n2, n3⟩ := List.nodup_append.mp w.nd
    have DA : D ∉ A := fun z => n3 D (by simp) D z rfl
    have hWD : B.H0 D = none := hWD D (by simp)
    let B' : Base := ⟨fun a => if a ∈ A then B.H0 a else H a, G, B.io.filter fun a => decide (a ∈ A)⟩
    have bA : ∀ a ∈ A, B'.H0 a = B.H0 a := fun a ha => if_pos ha
    have bN : ∀ a, a ∉ A → B'.H0 a = H a := fun a ha => if_neg ha
    have bio : ∀ a, a ∈ B'.io ↔ a ∈ B.io ∧ a ∈ A := fun a => by simp [B']
    have nb : ∀ a, B'.H0 a = none → B.H0 a = none := fun a q => by
      by_cases ha : a ∈ A
      · rw [← bA a ha]; exact q
      · rw [bN a ha] at q; exact w.dom a q
    refine ⟨D, vs, B', rfl, hp, hd, ⟨A, reps_base r fun u x Aj hA hw => ?_, w.sub, n2, fun a ha => w.out a (List.mem_append_right _ ha), Same.refl _, fun a o q hn => ?_, fun a q => ?_, fun a q => rfl, fun a ha => ?_⟩, ?_⟩
    · cases u with
      | none => exact fun a ha => (bA a (hA a ha)).trans (hw a ha)
      | some u => exact ⟨hw.1, fun a ha => (hw.2 a ha).imp id fun z => (bA a (hA a ha)).trans z⟩
    · by_cases ha : a ∈ A
      · rw [bA a ha] at q
        exact w.stay a o q fun z => hn ((bio a).mpr ⟨z, ha⟩)
      · rw [bN a ha] at q; exact q
    · by_cases ha : a ∈ A
      · rw [bA a ha]; exact w.dom a q
      · rw [bN a ha]; exact q
    · rcases w.lim a (List.mem_append_right _ ha) with z | z
      · exact .inl ((bio a).mpr ⟨z, ha⟩)
      · exact .inr ((bA a ha).trans z)
    intro c2 s2 G2 H2 st2
    obtain ⟨A2, r2, w2⟩ := st2.ex
    have hD2 : H2 D = some (.lst vs) := w2.stay D _ ((bN D DA).trans hp) fun z => DA ((bio D).mp z).2
    have DA2 : D ∉ A2 := fun z => by
      rcases w2.lim D z with y | y
      · exact DA ((bio D).mp y).2
      · rw [bN D DA, hp] at y; cases y
    have gD : G2 D = none := by
      rw [w2.newG D (by rw [bN D DA, hp]; exact fun z => nomatch z)]
      exact w.out D (by simp)
    have e2 : Same G G2 := w2.old
    have key : ∀ (H3 : Hp) (vs2 : List V) (acc2 : List PyData), H3 D = some (.lst vs2) → (∀ a, a ≠ D → H3 a = H2 a) → DpAll K G2 vs2 acc2 → Stt K B (.o none (.lst acc2) :: c2) (some (.ref D) :: s2) G2 H3 := by
      intro H3 vs2 acc2 h3 h4 d2
      have nD : ∀ a ∈ A2, a ≠ D := fun a ha z => DA2 (z ▸ ha)
      refine ⟨[D] ++ A2, .o (R := .lst acc2) ⟨D, vs2, rfl, rfl, h3, d2⟩ (fun a ha => ?_) ((reps_base r2 fun u x Aj hA hw => ?_).mono (Same.refl _) fun a ha => h4 a (nD a ha)), fun a o q => ?_, List.nodup_append.mpr ⟨by simp, w2.nd, fun a ha b hb z => ?_⟩, fun a ha => ?_, w.old.trans e2, fun a o q hn => ?_, fun a q => ?_, fun a q => ?_, fun a ha => ?_⟩
      · obtain rfl : a = D := by simpa using ha
        exact hWD
      · cases u with
        | none => exact fun a ha => nb a (hw a ha)
        | some u => exact ⟨hw.1, fun a ha => (hw.2 a ha).imp id fun z => nb a z⟩
      · by_cases ha : a = D
        · subst ha; rw [gD] at q; cases q
        · rw [h4 a ha]; exact w2.sub a o q
      · obtain rfl : a = D := by simpa using ha
        exact DA2 (z ▸ hb)
      · rcases List.mem_append.mp ha with z | z
        · obtain rfl : a = D := by simpa using z
          exact gD
        · exact w2.out a z
      · have ha : a ≠ D := fun z => by rw [z, hWD] at q; cases q
        rw [h4 a ha]
        by_cases hA : a ∈ A
        · exact w2.stay a o ((bA a hA).trans q) fun z => hn ((bio a).mp z).1
        · exact w2.stay a o ((bN a hA).trans (w.stay a o q hn)) fun z => hA ((bio a).mp z).2
      · by_cases ha : a = D
        · subst ha; exact hWD
        · rw [h4 a ha] at q; exact nb a (w2.dom a q)
      · have q' : B'.H0 a ≠ none := fun z => q (nb a z)
        rw [w2.newG a q']
        exact w.newG a q
      · rcases List.mem_append.mp ha with z | z
        · obtain rfl : a = D := by simpa using z
          exact .inr hWD
        · rcases w2.lim a z with y | y
          · exact .inl ((bio a).mp y).1
          · exact .inr (nb a y)
    exact ⟨e2, hD2, key H2 vs acc hD2 (fun _ _ => rfl) (dpa_mono e2 _ _ hd), fun vs2 acc2 d2 => key _ vs2 acc2 upd_same (fun a ha => upd_ne ha) d2⟩

/-! ### the block's own names -/
/-- slots forgotten -/
def clr : List Nat → Ctx → Ctx
  | [], c => c
  | j :: js, c => (clr js c).set j .no
/-- .. and back again -/
def keep1 : Ctx → Nat → S
  | .d x :: _, 0 => .d x
  | _ :: c, i + 1 => keep1 c i
  | _, _ => .no
def clr2 : List Nat → Ctx → Ctx
  | [], c => c
  | j :: js, c => clr2 js (c.set j .no)
def rest (c0 : Ctx) : List Nat → Ctx → Ctx
  | [], c => c
  | j :: js, c => rest c0 js (c.set j (keep1 c0 j))
theorem clr_n {c : Ctx} : clr [] c = c := id rfl
theorem clr_c {j : Nat} {js : List Nat} {c : Ctx} : clr (j :: js) c = (clr js c).set j .no := id rfl
theorem clr2_n {c : Ctx} : clr2 [] c = c := id rfl
theorem clr2_c {j : Nat} {js : List Nat} {c : Ctx} : clr2 (j :: js) c = clr2 js (c.set j .no) := id rfl
theorem rest_n {c0 c : Ctx} : rest c0 [] c = c := id rfl
theorem rest_c {j : Nat} {js : List Nat} {c0 c : Ctx} : rest c0 (j :: js) c = rest c0 js (c.set j (keep1 c0 j)) := id rfl
theorem keep1_d {x : PyData} {c : Ctx} : keep1 (.d x :: c) 0 = .d x := id rfl
theorem keep1_o {w : Option Lt} {R : Res} {c : Ctx} : keep1 (.o w R :: c) 0 = .no := id rfl
theorem keep1_f {F : FrG} {c : Ctx} : keep1 (.f F :: c) 0 = .no := id rfl
theorem keep1_no {c : Ctx} : keep1 (.no :: c) 0 = .no := id rfl
theorem keep1_s {y : S} {c : Ctx} {i : Nat} : keep1 (y :: c) (i + 1) = keep1 c i := by cases y <;> rfl
theorem keep1_of : ∀ {c : Ctx} {j : Nat}, keep1 c j = .no ∨ ∃ x, keep1 c j = .d x ∧ c[j]? = some (.d x)
  | [], 0 => .inl rfl
  | [], _ + 1 => .inl rfl
  | .no :: _, 0 => .inl rfl
  | .f _ :: _, 0 => .inl rfl
  | .o _ _ :: _, 0 => .inl rfl
  | .d x :: _, 0 => .inr ⟨x, rfl, rfl⟩
  | y :: c, i + 1 => by
    rw [keep1_s]
    simpa using keep1_of (c := c) (j := i)
theorem Stt.wipe (st : Stt K B c s G H) : ∀ vs : List Nat, Stt K B (clr vs c) (L2.wipe s vs) G H
  | [] => st
  | v :: vs => (Stt.wipe st vs).set_no v none
theorem Stt.unwipe : ∀ {vs : List Nat} {x : S} {u : Option V} {c : Ctx} {s : L2.St}, Stt K B (x :: c) (u :: L2.wipe s vs) G H → Stt K B (x :: clr2 vs c) (u :: s) G H
  | [], x, u, c, s, st => st
  | v :: vs, x, u, c, s, st => by
    have st' : Stt K B (x :: c) (u :: (L2.wipe s vs).set v none) G H := st
    have h := Stt.set_no st' (v + 1) (if h : v < (L2.wipe s vs).length then (L2.wipe s vs)[v] else none)
    rw [List.set_cons_succ, List.set_cons_succ, List.set_set] at h
    refine Stt.unwipe (vs := vs) ?_
    by_cases hv : v < (L2.wipe s vs).length
    · rw [dif_pos hv, List.set_getElem_self] at h
      exact h
    · rw [List.set_eq_of_length_le (Nat.le_of_not_lt hv)] at h
      exact h
theorem Stt.rest {c0 : Ctx} {G0 H0 : Hp} (st0 : Stt K B c0 s G0 H0) (e : Same G0 G) : ∀ {vs : List Nat} {x : S} {u : Option V} {c : Ctx}, Stt K B (x :: c) (u :: s) G H → Stt K B (x :: Dl.rest c0 vs c) (u :: s) G H
  | [], x, u, c, st => st
  | v :: vs, x, u, c, st => by
    rw [rest_c]
    refine Stt.rest st0 e (vs := vs) ?_
    rcases keep1_of (c := c0) (j := v) with h | ⟨y, h, hy⟩
    · rw [h]
      by_cases hv : v < s.length
      · have := Stt.set_no st (v + 1) s[v]
        rw [List.set_cons_succ, List.set_cons_succ, List.set_getElem_self] at this
        exact this
      · have := Stt.set_no st (v + 1) none
        rw [List.set_cons_succ, List.set_cons_succ, List.set_eq_of_length_le (Nat.le_of_not_lt hv)] at this
        exact this
    · rw [h]
      obtain ⟨w, e1, d⟩ := st0.get_d hy
      have := Stt.set_d st (v + 1) (dp_mono e _ _ d)
      rw [List.set_cons_succ, List.set_cons_succ, set_same e1] at this
      exact this
theorem wipe_get {σ : L2.St} {i : Nat} : ∀ {vs : List Nat}, i ∈ vs → (L2.wipe σ vs)[i]? = if i < σ.length then some none else none
  | [], h => by simp at h
  | v :: vs, h => by
    show ((L2.wipe σ vs).set v none)[i]? = _
    by_cases hv : v = i
    · subst hv
      by_cases hl : v < σ.length
      · rw [List.getElem?_set_self (by rw [wipe_length]; exact hl), if_pos hl]
      · rw [if_neg hl, List.getElem?_eq_none (by rw [List.length_set, wipe_length]; omega)]
    · rw [List.getElem?_set_ne hv]
      exact wipe_get ((List.mem_cons.mp h).resolve_left fun z => hv z.symm)
theorem wipe_but {σ σ2 : L2.St} {js vs : List Nat} (b : But js σ σ2) (h : ∀ j ∈ js, j ∈ vs) : L2.wipe σ2 vs = L2.wipe σ vs := by
  refine List.ext_getElem? fun i => ?_
  by_cases hi : i ∈ vs
  · rw [wipe_get hi, wipe_get hi, b.1]
  · rw [wipe_out hi, wipe_out hi]
    exact b.2 i fun z => hi (h i z)
theorem But.wipe {σ σ0 : L2.St} {js vs : List Nat} (b : But js (L2.wipe σ0 vs) σ) (h : ∀ j ∈ js, j ∈ vs) : L2.wipe σ vs = L2.wipe σ0 vs := by
  rw [wipe_but b h]
  refine List.ext_getElem? fun i => ?_
  by_cases hi : i ∈ vs
  · rw [wipe_get hi, wipe_get hi, wipe_length]
  · rw [wipe_out hi]
end

/-! ### [elt for tg in iter if ..] -/
/-- the items so far; the names -/
def zComp (vs : List Nat) (tg : TGd) (tt : TB) (te : TD) (ys : List PyData) (c1 : Ctx) (Q : List PyData → Ctx → Prop) : Prop := ∃ I : Nat → List PyData → Ctx → Prop, I 0 [] (clr vs c1) ∧
  (∀ i y acc c, ys[i]? = some y → I i acc c → tg y c fun c2 => tt c2 fun b c3 => if b = true then te c3 fun x c4 => acc.length < sizeLine ∧ I (i + 1) (acc ++ [x]) (clr vs c4) else I (i + 1) acc (clr vs c3)) ∧
  ∀ acc c, I ys.length acc c → Q acc (Dl.rest c1 vs (clr2 vs c))
def oLc (ti : TL) (vs : List Nat) (tg : TGd) (tt : TB) (te : TD) : TR := fun c Q => ti c fun ys c1 => zComp vs tg tt te ys c1 fun acc c2 => Q (.lst acc) c2
section
variable {X : Cx}
theorem lc_v {K : PySem.W.Frag} {wi : TI} {ti : TL} {tg : TGd} {tt : TB} {te : TD} {js vs : List Nat} (hi : DIv K wi ti) (hj : ∀ j ∈ js, j ∈ vs) : DOv K (tLc wi (rdG K js tg) (rdT K tt) (rdE K te) vs) (oLc ti vs tg tt te) := by
  intro B c s G H Q R st q k
  refine hi B c s G H _ _ st q fun J ys c1 G1 H1 st1 e1 ok q1 => ?_
  obtain ⟨I, i0, turn, fin⟩ := q1
  intro D hD
  refine ⟨fun i m H => m = ys.length - i ∧ i ≤ ys.length ∧ ∃ acc c' G', Stt K B (.o none (.lst acc) :: c') (some (.ref D) :: L2.wipe s vs) G' H ∧ Same G1 G' ∧ I i acc c', ⟨ys.length, by simp, Nat.zero_le _, [], _, G1, (st1.wipe vs).laidL hD .nil, Same.refl _, i0⟩, ?_⟩
  rintro i m H2 ⟨rfl, hi, acc, c', G', st', e', hI⟩
  by_cases hlt : i < ys.length
  · refine .inr ⟨((ok B _ _ G' H2 st' e' i).2 hlt).1, fun H3 => ∃ acc c' G', Stt K B (.o none (.lst acc) :: c') (some (.ref D) :: L2.wipe s vs) G' H3 ∧ Same G1 G' ∧ I (i + 1) acc c', fun H3 ⟨a3, c3, G3, st3, e3, i3⟩ => ⟨ys.length - (i + 1), by omega, rfl, hlt, a3, c3, G3, st3, e3, i3⟩, fun x H3 hy => ?_⟩
    obtain ⟨G2, y, hy1, st2, e2, dy⟩ := ((ok B _ _ G' H2 st' e' i).2 hlt).2 x H3 hy
    obtain ⟨D', us, B', hv, hDl, hacc, stU, back⟩ := st2.under
    cases hv
    have e12 : Same G1 G2 := e'.trans e2
    refine ⟨B', c', G2, y, _, stU, dy, turn i y acc c' hy1 hI, fun c3 s3 st3 but q3 => ⟨But.wipe but hj, ?_⟩⟩
    have hw : L2.wipe s3 vs = L2.wipe s vs := But.wipe but hj
    refine ⟨B', c3, G2, _, st3, q3, fun b c4 G4 H4 st4 e4 q4 => ?_⟩
    cases b with
    | false =>
      rw [if_neg Bool.false_ne_true] at q4 ⊢
      obtain ⟨e5, _, st5, _⟩ := back _ _ _ _ (st4.wipe vs)
      rw [hw] at st5
      exact ⟨acc, _, G4, st5, e12.trans e5, q4⟩
    | true =>
      rw [if_pos rfl] at q4 ⊢
      refine ⟨B', c4, G4, _, st4, q4, fun z d c5 G5 H5 st5 e5 dz q5 => ?_⟩
      obtain ⟨e6, hD6, _, up6⟩ := back _ _ _ _ (st5.wipe vs)
      have hl := dpa_len hacc
      have st7 := up6 (us ++ [z]) (acc ++ [d]) (dpa_app (dpa_mono e6 _ _ hacc) (.cons dz .nil))
      rw [hw] at st7
      exact ⟨us, hD6, by rw [hl]; exact q5.1, acc ++ [d], _, G5, st7, e12.trans e6, q5.2⟩
  · have e : i = ys.length := by omega
    subst e
    refine .inl ⟨(ok B _ _ G' H2 st' e' _).1 (Nat.le_refl _), ?_⟩
    exact k (.ref D) (.lst acc) _ G' H2 (Stt.rest st1 e' (Stt.unwipe st')) (e1.trans e') (fin acc c' hI)
variable {elt tg iter : Expr} {ifs : List Expr} {scope : Scope} {own : List (Str × Nat)} {pos : Pos} {ti : TL} {g : TGd} {tt : TB} {te : TD} {js : List Nat}
theorem o_lc (own : List (Str × Nat)) (hc : X.calm = true) (hN : X.N.Nodup) (hi : DI X tg iter ti) (ok : blkC X.N X.env.scope scope own = true)
    (hg : ∀ (s : Shared) (H : Hp) (C : Addr) (cl : List (Str × Addr)) (fp : List Addr), DG (X.blk s H scope (compEnvC scope cl C X.env) fp) tg js g) (ht : ∀ (s : Shared) (H : Hp) (C : Addr) (cl : List (Str × Addr)) (fp : List Addr), DTs (X.blk s H scope (compEnvC scope cl C X.env) fp) ifs tt)
    (he : ∀ (s : Shared) (H : Hp) (C : Addr) (cl : List (Str × Addr)) (fp : List Addr), DE (X.blk s H scope (compEnvC scope cl C X.env) fp) elt te) (hj : ∀ j ∈ js, j ∈ own.map (·.2)) (hs : ∀ x, foldedSetIterable iter X.env x = pure x := by intro _; rfl) :
    DO X (.ListComp elt [⟨tg, iter, ifs, 0⟩] scope pos) (oLc ti (own.map (·.2)) g tt te) := by
  obtain ⟨wi, pi, vi⟩ := hi.ex
  exact ⟨_, pe_lc (g := rdG X.K js g) (tt := rdT X.K tt) (te := rdE X.K te) hc hN pi (blkOk_by ok) (fun s H C cl fp => (hg s H C cl fp).pg) (fun s H C cl fp => (ht s H C cl fp).pt) (fun s H C cl fp => (he s H C cl fp).pe) hs, lc_v vi hj⟩
/-- name = [..] -/
theorem s_setLc (own : List (Str × Nat)) {i : Nat} {y : Str} {py spos : Pos} (hc : X.calm = true) (hN : X.N.Nodup) (hi : DI X tg iter ti) (ok : blkC X.N X.env.scope scope own = true)
    (hg : ∀ (s : Shared) (H : Hp) (C : Addr) (cl : List (Str × Addr)) (fp : List Addr), DG (X.blk s H scope (compEnvC scope cl C X.env) fp) tg js g) (ht : ∀ (s : Shared) (H : Hp) (C : Addr) (cl : List (Str × Addr)) (fp : List Addr), DTs (X.blk s H scope (compEnvC scope cl C X.env) fp) ifs tt)
    (he : ∀ (s : Shared) (H : Hp) (C : Addr) (cl : List (Str × Addr)) (fp : List Addr), DE (X.blk s H scope (compEnvC scope cl C X.env) fp) elt te) (hj : ∀ j ∈ js, j ∈ own.map (·.2)) (hsw : swapsWith (.ListComp elt [⟨tg, iter, ifs, 0⟩] scope pos) (some (.Name y py)) spos.line X.env = pure true)
    (hyl : X.env.scope.names.lookup y = some .local := by rfl) (hy : X.N[i]? = some y := by rfl) (hs : ∀ x, foldedSetIterable iter X.env x = pure x := by intro _; rfl) :
    DS X (.Assign [.Name y py] (.ListComp elt [⟨tg, iter, ifs, 0⟩] scope pos) spos) (zSetO i (oLc ti (own.map (·.2)) g tt te)) := by
  obtain ⟨wi, pi, vi⟩ := hi.ex
  refine ⟨_, ps_setLc (g := rdG X.K js g) (tt := rdT X.K tt) (te := rdE X.K te) hc hN hy hyl hsw pi (blkOk_by ok) (fun s H C cl fp => (hg s H C cl fp).pg) (fun s H C cl fp => (ht s H C cl fp).pt) (fun s H C cl fp => (he s H C cl fp).pe) hs, fun B c s G H D E st k q => ?_⟩
  exact lc_v vi hj B c s G H _ _ st q fun v x c1 G1 H1 st1 e1 q1 => k.nx _ _ G1 H1 (st1.set_o i) e1 q1

/-! ### comprehensions by what they compute -/
/-- by a word of one's own; the walk sees letters for what is to be reached -/
theorem comp_by {vs : List Nat} {tg : TGd} {tt : TB} {te : TD} {ys : List PyData} {c1 : Ctx} {Q : List PyData → Ctx → Prop} (I : Nat → List PyData → Ctx → Prop) (h0 : I 0 [] (clr vs c1))
    (turn : ∀ (i : Nat) (y : PyData) (acc : List PyData) (c : Ctx) (N : PyData → Ctx → Prop) (M : Ctx → Prop), ys[i]? = some y → I i acc c → (∀ x c, acc.length < sizeLine → I (i + 1) (acc ++ [x]) (clr vs c) → N x c) → (∀ c, I (i + 1) acc (clr vs c) → M c) → tg y c fun c2 => tt c2 fun b c3 => if b = true then te c3 N else M c3)
    (fin : ∀ acc c, I ys.length acc c → Q acc (Dl.rest c1 vs (clr2 vs c))) : zComp vs tg tt te ys c1 Q :=
  ⟨I, h0, fun i y acc c hy hI => turn i y acc c _ _ hy hI (fun _ _ h1 h2 => ⟨h1, h2⟩) (fun _ h => h), fin⟩
/-- items kept by p, told by f; no name is changed -/
theorem comp_fm {vs : List Nat} {tg : TGd} {tt : TB} {te : TD} {ys : List PyData} {c1 : Ctx} {Q : List PyData → Ctx → Prop} (p : PyData → Bool) (f : PyData → PyData) (hl : ys.length ≤ sizeLine)
    (h : ∀ y ∈ ys, ∀ (N : PyData → Ctx → Prop) (M : Ctx → Prop), (p y = true → ∀ c, clr vs c = clr vs c1 → N (f y) c) → (p y = false → ∀ c, clr vs c = clr vs c1 → M c) → tg y (clr vs c1) fun c2 => tt c2 fun b c3 => if b = true then te c3 N else M c3)
    (q : Q ((ys.filter p).map f) (Dl.rest c1 vs (clr2 vs (clr vs c1)))) : zComp vs tg tt te ys c1 Q := by
  refine comp_by (fun i acc c => c = clr vs c1 ∧ acc = ((ys.take i).filter p).map f) ⟨rfl, by simp⟩ (fun i y acc c N M hy hI hN hM => ?_) fun acc c hI => ?_
  · obtain ⟨rfl, rfl⟩ := hI
    have hi : i < ys.length := (List.getElem?_eq_some_iff.mp hy).1
    have e : ys.take (i + 1) = ys.take i ++ [y] := by rw [List.take_add_one, hy]; rfl
    have hacc : (((ys.take i).filter p).map f).length < sizeLine := by
      have h1 := List.length_filter_le p (ys.take i)
      rw [List.length_take] at h1
      rw [List.length_map]
      omega
    refine h y (List.mem_of_getElem? hy) N M (fun hp c hc => hN _ c hacc ⟨hc, ?_⟩) fun hp c hc => hM c ⟨hc, ?_⟩
    · rw [e, List.filter_append, List.map_append, List.filter_cons_of_pos hp, List.filter_nil]; rfl
    · rw [e, List.filter_append, List.map_append, List.filter_cons_of_neg (by rw [hp]; exact Bool.false_ne_true), List.filter_nil]; simp
  · obtain ⟨rfl, rfl⟩ := hI
    rw [List.take_length]
    exact q
/-- each item told by f -/
theorem comp_map {vs : List Nat} {tg : TGd} {te : TD} {ys : List PyData} {c1 : Ctx} {Q : List PyData → Ctx → Prop} (f : PyData → PyData) (hl : ys.length ≤ sizeLine)
    (h : ∀ y ∈ ys, ∀ (N : PyData → Ctx → Prop), (∀ c, clr vs c = clr vs c1 → N (f y) c) → tg y (clr vs c1) fun c2 => te c2 N)
    (q : Q (ys.map f) (Dl.rest c1 vs (clr2 vs (clr vs c1)))) : zComp vs tg bYes te ys c1 Q := by
  refine comp_fm (fun _ => true) f hl (fun y hy N M hN _ => ?_) ?_
  · have := h y hy N (hN rfl)
    exact this
  · rw [List.filter_eq_self.mpr fun _ _ => rfl]
    exact q
end
end Dl

/-! Lists of lists of one's own. -/
namespace Dl
open PySem PySem.Spec PyProof.Rows L2
section
variable {K : PySem.W.Frag} {B : Base} {G H : Hp} {c : Ctx} {s : L2.St}
/-- the owned thing in slot j, written -/
theorem Stt.foc (st : Stt K B c s G H) {j : Nat} {w : Option Lt} {R : Res} (e : c[j]? = some (.o w R)) : ∃ v A1, s[j]? = some (some v) ∧ R.P K G H v A1 ∧ A1.Nodup ∧
    ∀ (H' : Hp) (R' : Res) (A1' : List Addr), (∀ a, a ∉ A1' → H' a = H a) → (∀ a ∈ A1', a ∈ A1 ∨ H a = none) → (∀ a ∈ A1', H' a ≠ none) → A1'.Nodup → R'.P K G H' v A1' → Stt K B (c.set j (.o w R')) s G H' := by
  obtain ⟨A, r, wd⟩ := st.ex
  obtain ⟨v, A1, h1, h2, h3, h4, h5, k⟩ := r.focus wd.nd e
  refine ⟨v, A1, h1, h2, h4, fun H' R' A1' k1 k2 k3 k4 k5 => ?_⟩
  have kw : WOk B w v A1' := by
    cases w with
    | none =>
      intro a ha
      rcases k2 a ha with z | z
      · exact h3 a z
      · exact wd.dom a z
    | some u =>
      refine ⟨h3.1, fun a ha => ?_⟩
      rcases k2 a ha with z | z
      · exact h3.2 a z
      · exact .inr (wd.dom a z)
  have kk : ∀ a ∈ A, a ∉ A1 → H' a = H a := fun a ha hn => k1 a fun z => by
    rcases k2 a z with y | y
    · exact hn y
    · exact r.here a ha y
  obtain ⟨A', r', n, q⟩ := k (G' := G) (H' := H') (R' := R') (w' := w) (A1' := A1') (Same.refl _) kk k5 kw k4 (fun a ha => (k2 a ha).imp id fun z y => r.here a y z)
  · have inA : ∀ a ∈ A', (a ∈ A1' ∧ (a ∈ A1 ∨ H a = none)) ∨ (a ∈ A ∧ a ∉ A1) := fun a ha => (q a ha).imp (fun z => ⟨z, k2 a z⟩) id
    refine ⟨A', r', fun a o z => ?_, n, fun a ha => ?_, wd.old, fun a o z hn => ?_, fun a z => ?_, wd.newG, fun a ha => ?_⟩
    · have ha : a ∉ A1' := fun y => by
        rcases k2 a y with x | x
        · rw [wd.out a (h5 a x)] at z; cases z
        · rw [wd.sub a o z] at x; cases x
      rw [k1 a ha]; exact wd.sub a o z
    · rcases inA a ha with ⟨_, z | z⟩ | ⟨z, _⟩
      · exact wd.out a (h5 a z)
      · exact wd.sub.free z
      · exact wd.out a z
    · have hs := wd.stay a o z hn
      have ha : a ∉ A1' := fun y => by
        rcases k2 a y with x | x
        · rcases wd.lim a (h5 a x) with u | u
          · exact hn u
          · rw [u] at z; cases z
        · rw [hs] at x; cases x
      rw [k1 a ha]; exact hs
    · have ha : a ∉ A1' := fun y => k3 a y z
      rw [k1 a ha] at z
      exact wd.dom a z
    · rcases inA a ha with ⟨_, z | z⟩ | ⟨z, _⟩
      · exact wd.lim a (h5 a z)
      · exact .inr (wd.dom a z)
      · exact wd.lim a z
/-- a new owned thing laid at fresh addresses -/
theorem Stt.laidR (st : Stt K B c s G H) {H' : Hp} {R : Res} {v : V} {A1 : List Addr} (k1 : ∀ a, a ∉ A1 → H' a = H a) (k2 : ∀ a ∈ A1, H a = none) (k3 : ∀ a ∈ A1, H' a ≠ none) (k4 : A1.Nodup) (k5 : R.P K G H' v A1) : Stt K B (.o none R :: c) (some v :: s) G H' := by
  obtain ⟨A, r, w⟩ := st.ex
  have np : ∀ a ∈ A, a ∉ A1 := fun a ha z => r.here a ha (k2 a z)
  have n0 : ∀ a ∈ A1, B.H0 a = none := fun a ha => w.dom a (k2 a ha)
  refine ⟨A1 ++ A, .o k5 n0 (r.mono (Same.refl _) fun a ha => k1 a (np a ha)), fun a o q => ?_, List.nodup_append.mpr ⟨k4, w.nd, fun a ha b hb e => np b hb (by rw [← e]; exact ha)⟩, fun a ha => ?_, w.old, fun a o q hi => ?_, fun a q => ?_, w.newG, fun a ha => ?_⟩
  · have ha : a ∉ A1 := fun z => by have := w.sub a o q; rw [k2 a z] at this; cases this
    rw [k1 a ha]; exact w.sub a o q
  · rcases List.mem_append.mp ha with z | z
    · exact w.sub.free (k2 a z)
    · exact w.out a z
  · have ha : a ∉ A1 := fun z => by rw [n0 a z] at q; cases q
    rw [k1 a ha]; exact w.stay a o q hi
  · have ha : a ∉ A1 := fun z => k3 a z q
    rw [k1 a ha] at q; exact w.dom a q
  · rcases List.mem_append.mp ha with z | z
    · exact .inr (n0 a z)
    · exact w.lim a z
/-- an owned thing on top set aside: the rest is changed without it -/
theorem Stt.underR {R : Res} {v : V} (st : Stt K B (.o none R :: c) (some v :: s) G H) : ∃ (A1 : List Addr) (B' : Base), R.P K G H v A1 ∧ Stt K B' c s G H ∧
    ∀ c2 s2 G2 H2, Stt K B' c2 s2 G2 H2 → Same G G2 ∧ (∀ a ∈ A1, H2 a = H a) ∧ Stt K B (.o none R :: c2) (some v :: s2) G2 H2 := by
  classical
  obtain ⟨A0, r0, w⟩ := st.ex
  cases r0 with
  | @o _ _ _ _ _ AD A hR hWD r =>
    obtain ⟨n1, n2, n3⟩ := List.nodup_append.mp w.nd
    have DA : ∀ a ∈ AD, a ∉ A := fun a ha z => n3 a ha a z rfl
    have hWD : ∀ a ∈ AD, B.H0 a = none := hWD
    have hp : ∀ a ∈ AD, H a ≠ none := Res.here hR
    let B' : Base := ⟨fun a => if a ∈ A then B.H0 a else H a, G, B.io.filter fun a => decide (a ∈ A)⟩
    have bA : ∀ a ∈ A, B'.H0 a = B.H0 a := fun a ha => if_pos ha
    have bN : ∀ a, a ∉ A → B'.H0 a = H a := fun a ha => if_neg ha
    have bio : ∀ a, a ∈ B'.io ↔ a ∈ B.io ∧ a ∈ A := fun a => by simp [B']
    have nb : ∀ a, B'.H0 a = none → B.H0 a = none := fun a q => by
      by_cases ha : a ∈ A
      · rw [← bA a ha]; exact q
      · rw [bN a ha] at q; exact w.dom a q
    refine ⟨AD, B', hR, ⟨A, reps_base r fun u x Aj hA hw => ?_, w.sub, n2, fun a ha => w.out a (List.mem_append_right _ ha), Same.refl _, fun a o q hn => ?_, fun a q => ?_, fun a q => rfl, fun a ha => ?_⟩, ?_⟩
    · cases u with
      | none => exact fun a ha => (bA a (hA a ha)).trans (hw a ha)
      | some u => exact ⟨hw.1, fun a ha => (hw.2 a ha).imp id fun z => (bA a (hA a ha)).trans z⟩
    · by_cases ha : a ∈ A
      · rw [bA a ha] at q
        exact w.stay a o q fun z => hn ((bio a).mpr ⟨z, ha⟩)
      · rw [bN a ha] at q; exact q
    · by_cases ha : a ∈ A
      · rw [bA a ha]; exact w.dom a q
      · rw [bN a ha]; exact q
    · rcases w.lim a (List.mem_append_right _ ha) with z | z
      · exact .inl ((bio a).mpr ⟨z, ha⟩)
      · exact .inr ((bA a ha).trans z)
    intro c2 s2 G2 H2 st2
    obtain ⟨A2, r2, w2⟩ := st2.ex
    have hD2 : ∀ a ∈ AD, H2 a = H a := fun a ha => by
      cases q : H a with
      | none => exact absurd q (hp a ha)
      | some o => exact w2.stay a o ((bN a (DA a ha)).trans q) fun z => DA a ha ((bio a).mp z).2
    have DA2 : ∀ a ∈ AD, a ∉ A2 := fun a ha z => by
      rcases w2.lim a z with y | y
      · exact DA a ha ((bio a).mp y).2
      · rw [bN a (DA a ha)] at y; exact hp a ha y
    have e2 : Same G G2 := w2.old
    refine ⟨e2, hD2, AD ++ A2, .o (Res.mono hR e2 hD2) hWD (reps_base r2 fun u x Aj hA hw => ?_), w2.sub, List.nodup_append.mpr ⟨n1, w2.nd, fun a ha b hb z => ?_⟩, fun a ha => ?_, w.old.trans e2, fun a o q hn => ?_, fun a q => nb a (w2.dom a q), fun a q => ?_, fun a ha => ?_⟩
    · cases u with
      | none => exact fun a ha => nb a (hw a ha)
      | some u => exact ⟨hw.1, fun a ha => (hw.2 a ha).imp id fun z => nb a z⟩
    · subst z
      exact DA2 a ha hb
    · rcases List.mem_append.mp ha with z | z
      · rw [w2.newG a (by rw [bN a (DA a z)]; exact hp a z)]
        exact w.out a (List.mem_append_left _ z)
      · exact w2.out a z
    · by_cases hA : a ∈ A
      · exact w2.stay a o ((bA a hA).trans q) fun z => hn ((bio a).mp z).1
      · exact w2.stay a o ((bN a hA).trans (w.stay a o q hn)) fun z => hA ((bio a).mp z).2
    · rw [w2.newG a fun z => q (nb a z)]
      exact w.newG a q
    · rcases List.mem_append.mp ha with z | z
      · exact .inr (hWD a z)
      · rcases w2.lim a z with y | y
        · exact .inl ((bio a).mp y).1
        · exact .inr (nb a y)
theorem ownLs_get : ∀ {ps : List Addr} {dss : List (List PyData)} {i : Nat} {ds : List PyData}, OwnLs K G H ps dss → dss[i]? = some ds → ∃ p vs, ps[i]? = some p ∧ H p = some (.lst vs) ∧ DpAll K G vs ds
  | _, [], i, ds, h, e => by simp at e
  | _, d :: dss, 0, ds, h, e => by
    cases h with
    | cons h1 h2 h3 => simp at e; subst e; exact ⟨_, _, rfl, h1, h2⟩
  | _, d :: dss, i + 1, ds, h, e => by
    cases h with
    | cons h1 h2 h3 =>
      obtain ⟨p, vs, a1, a2⟩ := ownLs_get (i := i) h3 (by simpa using e)
      exact ⟨p, vs, by simpa using a1, a2⟩
theorem ownLs_len {ps : List Addr} {dss : List (List PyData)} (h : OwnLs K G H ps dss) : ps.length = dss.length := by
  induction h with
  | nil => rfl
  | cons _ _ _ ih => simp [ih]
theorem ownLs_app {ps ps' : List Addr} {dss dss' : List (List PyData)} (h : OwnLs K G H ps dss) (h' : OwnLs K G H ps' dss') : OwnLs K G H (ps ++ ps') (dss ++ dss') := by
  induction h with
  | nil => exact h'
  | cons h1 h2 _ ih => exact .cons h1 h2 ih
theorem ownLs_set {vs' : List V} {ds' : List PyData} (d' : DpAll K G vs' ds') : ∀ {ps : List Addr} {dss : List (List PyData)} {i : Nat} {p : Addr}, OwnLs K G H ps dss → ps.Nodup → ps[i]? = some p → OwnLs K G (upd H p (.lst vs')) ps (dss.set i ds')
  | [], _, i, p, h, _, e => by simp at e
  | q :: ps, _, 0, p, h, nd, e => by
    cases h with
    | cons h1 h2 h3 =>
      have e' : q = p := by simpa using e
      subst e'
      exact .cons upd_same d' (ownLs_mono h3 (Same.refl _) fun a ha => upd_ne fun z => (List.nodup_cons.mp nd).1 (z ▸ ha))
  | q :: ps, _, i + 1, p, h, nd, e => by
    cases h with
    | cons h1 h2 h3 =>
      have e' : ps[i]? = some p := by simpa using e
      have hq : q ≠ p := fun z => (List.nodup_cons.mp nd).1 (z ▸ List.mem_of_getElem? e')
      exact .cons (by rw [upd_ne hq]; exact h1) h2 (ownLs_set d' h3 (List.nodup_cons.mp nd).2 e')
end
def asLL (R : Res) (Q : List (List PyData) → Prop) : Prop := match R with
  | .lls dss => Q dss
  | _ => False
theorem asLL_l {dss : List (List PyData)} {Q : List (List PyData) → Prop} : asLL (.lls dss) Q = Q dss := id rfl
theorem asLL_of {R : Res} {Q : List (List PyData) → Prop} (h : asLL R Q) : ∃ dss, R = .lls dss ∧ Q dss := by
  cases R <;> first | exact ⟨_, rfl, h⟩ | exact False.elim h
section
variable {X : Cx} {a e : Expr} {ta : TD} {pos cpos apos p p1 p2 : Pos} {x : Str}
/-- [[]] -/
def oLL0 : TR := fun c Q => Q (.lls [[]]) c
theorem o_ll0 : DO X (.List [.List [] p1] pos) oLL0 := by
  refine ⟨_, pe_lst (pa_cons (pe_lst pa_nil) pa_nil), fun B c s G H Q R st q k => ?_⟩
  refine ⟨Nat.zero_le _, fun q1 h1 => ⟨by show 1 ≤ sizeLine; decide, fun q2 h2 => ?_⟩⟩
  have ne : q2 ≠ q1 := fun z => by rw [z, upd_same] at h2; cases h2
  have h2' : H q2 = none := by rw [upd_ne ne] at h2; exact h2
  refine k _ (.lls [[]]) c G _ (st.laidR (A1 := [q2, q1]) (fun a ha => ?_) (fun a ha => ?_) (fun a ha => ?_) (by simp [ne]) ?_) (Same.refl _) q
  · simp at ha
    rw [upd_ne ha.1, upd_ne ha.2]
  · simp at ha
    rcases ha with rfl | rfl
    · exact h2'
    · exact h1
  · simp at ha
    rcases ha with rfl | rfl
    · rw [upd_same]; exact fun z => nomatch z
    · rw [upd_ne (Ne.symm ne), upd_same]; exact fun z => nomatch z
  · refine ⟨q2, [q1], rfl, rfl, upd_same, .cons (vs := []) ?_ .nil .nil⟩
    rw [upd_ne (Ne.symm ne), upd_same]
/-- xss.append([]) -/
def zLLn (j : Nat) : TSd := fun E c => slO c j fun w R => asLL R fun dss => dss.length < sizeLine ∧ E.nx (c.set j (.o w (.lls (dss ++ [[]]))))
theorem s_lln (j : Nat)
    (hN : X.N[j]? = some x := by rfl) (hv : Vis X.env.scope x := by first | exact Or.inl rfl | exact Or.inr (Or.inl rfl) | exact Or.inr (Or.inr rfl)) (hd : (x == ("__debug__" : Str)) = false := by decide)
    (hcd : (x == ("__classdict__" : Str)) = false := by decide) (hbase : attributeBase (.Name x p) "append" X.env (eval (.Name x p) X.env) = eval (.Name x p) X.env := by rfl)
    (hfew : ((backTo cpos (starEach [.List [] p1] X.env)).all (fun x => !x.1) && (backToKw cpos (keywordEach [] X.env)).all (fun x => x.1.isSome)
      && decide ([Expr.List [] p1].length + ([] : List Keyword).length + (if ([] : List Keyword).isEmpty then 0 else 1) < 30)) = true := by rfl)
    (hline : (apos.endLine == cpos.line) = true := by rfl) (hs : starEach [.List [] p1] X.env = (false, eval (.List [] p1) X.env) :: starEach [] X.env := by rfl) (hplain : (backTo cpos (starEach [] X.env)).any (·.1) = false := by rfl)
    (hsw : swapsWith (.Call (.Attribute (.Name x p) "append" apos) [.List [] p1] [] cpos) none pos.line X.env = pure false := by rfl) : DS X (.Expr (.Call (.Attribute (.Name x p) "append" apos) [.List [] p1] [] cpos) pos) (zLLn j) := by
  refine ⟨_, ps_expr (pe_bm F.plainAttrs_list F.slot_list_append F.type_list_append mt_append (pe_var hN hv hd hcd) (pa_cons (pe_lst pa_nil) pa_nil hs) hbase hfew hline hs hplain) hsw, fun B c s G H D E st k q => ?_⟩
  obtain ⟨w, R0, e0, q⟩ := slO_of q
  obtain ⟨dss, rfl, hl, q⟩ := asLL_of q
  obtain ⟨v, A1, g1, ⟨p, ps, rfl, rfl, h1, h2⟩, nd, wr⟩ := st.foc e0
  refine ⟨_, g1, .inl ⟨rfl, _, SqL.of h1⟩, by decide, fun q1 hq => ?_⟩
  have ne : q1 ≠ p := fun z => by rw [z, h1] at hq; cases hq
  have nps : q1 ∉ ps := fun z => ownLs_here h2 q1 z hq
  have lps := ownLs_len h2
  refine ⟨p, ps.map V.ref, .ref q1, rfl, rfl, by rw [upd_ne (Ne.symm ne)]; exact h1, by rw [List.length_map]; omega, ?_⟩
  refine k.nx _ _ G _ (wr _ (.lls (dss ++ [[]])) (p :: (ps ++ [q1])) (fun a ha => ?_) (fun a ha => ?_) (fun a ha => ?_) ?_ ?_) (Same.refl _) q
  · simp at ha
    rw [upd_ne ha.1, upd_ne ha.2.2]
  · simp at ha
    rcases ha with rfl | z | rfl
    · exact .inl List.mem_cons_self
    · exact .inl (List.mem_cons_of_mem _ z)
    · exact .inr hq
  · by_cases hp : a = p
    · rw [hp, upd_same]; exact fun z => nomatch z
    · rw [upd_ne hp]
      by_cases hq1 : a = q1
      · rw [hq1, upd_same]; exact fun z => nomatch z
      · rw [upd_ne hq1]
        simp [hp, hq1] at ha
        exact ownLs_here h2 a ha
  · obtain ⟨n1, n2⟩ := List.nodup_cons.mp nd
    refine List.nodup_cons.mpr ⟨fun z => ?_, List.nodup_append.mpr ⟨n2, by simp, fun a ha b hb z => ?_⟩⟩
    · rcases List.mem_append.mp z with y | y
      · exact n1 y
      · exact ne (by simpa using y : p = q1).symm
    · obtain rfl : b = q1 := by simpa using hb
      subst z
      exact nps ha
  · have np : ∀ a ∈ ps, a ≠ p := fun a ha z => (List.nodup_cons.mp nd).1 (z ▸ ha)
    refine ⟨p, ps ++ [q1], rfl, rfl, ?_, ownLs_app (ownLs_mono h2 (Same.refl _) fun a ha => ?_) (.cons (vs := []) ?_ .nil .nil)⟩
    · rw [upd_same, List.map_append]; rfl
    · rw [upd_ne (np a ha), upd_ne fun z => nps (by rw [← z]; exact ha)]
    · rw [upd_ne ne, upd_same]
/-- the last one -/
def lastLL (dss : List (List PyData)) (Q : List PyData → List (List PyData) → Prop) : Prop := ∃ l ds, dss = l ++ [ds] ∧ Q ds l
theorem last_atI {α : Type} (l : List α) (x : α) : atI (l ++ [x]) (-1) = some x := atI_last l x
theorem snoc_of {α : Type} {ps : List α} {n : Nat} {p : α} (hl : ps.length = n + 1) (h : ps[n]? = some p) : ∃ qs, ps = qs ++ [p] := by
  refine ⟨ps.take n, ?_⟩
  have e : ps.take (n + 1) = ps.take n ++ [p] := by rw [List.take_add_one, h]; rfl
  rw [← e, ← hl, List.take_length]
/-- len(xss[-1]) -/
def uLLlen (j : Nat) : TD := fun c Q => slO c j fun _ R => asLL R fun dss => lastLL dss fun ds _ => Q (.int ds.length) c
theorem d_lllen (j : Nat) {pl pn ps pc pu : Pos} (hm : X.mg "len" = none) (hg : Gl X "len" := by rfl)
    (hN : X.N[j]? = some x := by rfl) (hv : Vis X.env.scope x := by first | exact Or.inl rfl | exact Or.inr (Or.inl rfl) | exact Or.inr (Or.inr rfl)) (hd : (x == ("__debug__" : Str)) = false := by decide)
    (hcd : (x == ("__classdict__" : Str)) = false := by decide) (hs : PlainIx (.UnaryOp .USub (.Constant (.int 1) 0 pc) pu) := by exact fun _ _ => rfl)
    (he : starEach [.Subscript (.Name x pn) (.UnaryOp .USub (.Constant (.int 1) 0 pc) pu) ps] X.env = (false, eval (.Subscript (.Name x pn) (.UnaryOp .USub (.Constant (.int 1) 0 pc) pu) ps) X.env) :: starEach [] X.env := by rfl) :
    DE X (.Call (.Name "len" pl) [.Subscript (.Name x pn) (.UnaryOp .USub (.Constant (.int 1) 0 pc) pu) ps] [] pos) (uLLlen j) := by
  refine ⟨_, pe_callB call_len_seq hg hm boot_len (pa_cons (pe_ix ix_seq (pe_var hN hv hd hcd) (pe_un un_neg pe_int) hs) pa_nil he) (by decide) (by decide) he, fun B c s G H Q R st q k => ?_⟩
  obtain ⟨w, R0, e0, q⟩ := slO_of q
  obtain ⟨dss, rfl, q⟩ := asLL_of q
  obtain ⟨l, ds, el, q2⟩ := q
  subst el
  obtain ⟨v, A1, g1, ⟨p, ps, rfl, rfl, h1, h2⟩, nd, wr⟩ := st.foc e0
  obtain ⟨p2, vs, a1, a2, a3⟩ := ownLs_get (i := l.length) (ds := ds) h2 (by simp)
  have hl := ownLs_len h2
  refine ⟨_, g1, 1, rfl, .inl ⟨p, ps.map V.ref, -1, .ref p2, rfl, rfl, SqL.of h1, ?_, p2, vs, rfl, .inl (SqL.of a2), ?_⟩⟩
  · obtain ⟨qs, rfl⟩ := snoc_of (ps := ps) (by simpa using hl) a1
    rw [List.map_append]
    exact atI_last _ _
  · rw [dpa_len a3]
    exact k _ _ c G H st (Same.refl _) (.int _) q2
/-- xss[-1].append(e); e without xss -/
def zLLa (j : Nat) (ta : TD) : TSd := fun E c => slO c j fun w R => w = none ∧ asLL R fun dss => lastLL dss fun ds l => ds.length < sizeLine ∧ ta (c.set j .no) fun y c1 => E.nx (c1.set j (.o none (.lls (l ++ [ds ++ [y]]))))
theorem s_lla (j : Nat) {pn ps pc pu : Pos} (ha : DE X a ta)
    (hN : X.N[j]? = some x := by rfl) (hv : Vis X.env.scope x := by first | exact Or.inl rfl | exact Or.inr (Or.inl rfl) | exact Or.inr (Or.inr rfl)) (hd : (x == ("__debug__" : Str)) = false := by decide)
    (hcd : (x == ("__classdict__" : Str)) = false := by decide) (hs : PlainIx (.UnaryOp .USub (.Constant (.int 1) 0 pc) pu) := by exact fun _ _ => rfl)
    (hbase : attributeBase (.Subscript (.Name x pn) (.UnaryOp .USub (.Constant (.int 1) 0 pc) pu) ps) "append" X.env (eval (.Subscript (.Name x pn) (.UnaryOp .USub (.Constant (.int 1) 0 pc) pu) ps) X.env) = eval (.Subscript (.Name x pn) (.UnaryOp .USub (.Constant (.int 1) 0 pc) pu) ps) X.env := by rfl)
    (hfew : ((backTo cpos (starEach [a] X.env)).all (fun x => !x.1) && (backToKw cpos (keywordEach [] X.env)).all (fun x => x.1.isSome)
      && decide ([a].length + ([] : List Keyword).length + (if ([] : List Keyword).isEmpty then 0 else 1) < 30)) = true := by rfl)
    (hline : (apos.endLine == cpos.line) = true := by rfl) (he : starEach [a] X.env = (false, eval a X.env) :: starEach [] X.env := by rfl) (hplain : (backTo cpos (starEach [] X.env)).any (·.1) = false := by rfl)
    (hsw : swapsWith (.Call (.Attribute (.Subscript (.Name x pn) (.UnaryOp .USub (.Constant (.int 1) 0 pc) pu) ps) "append" apos) [a] [] cpos) none pos.line X.env = pure false := by rfl) :
    DS X (.Expr (.Call (.Attribute (.Subscript (.Name x pn) (.UnaryOp .USub (.Constant (.int 1) 0 pc) pu) ps) "append" apos) [a] [] cpos) pos) (zLLa j ta) := by
  obtain ⟨tea, pa, va⟩ := ha.ex
  refine ⟨_, ps_expr (pe_bm F.plainAttrs_list F.slot_list_append F.type_list_append mt_append (pe_ix ix_seq (pe_var hN hv hd hcd) (pe_un un_neg pe_int) hs) (pa_cons pa pa_nil he) hbase hfew hline he hplain) hsw, fun B c s G H D E st k q => ?_⟩
  obtain ⟨w, R0, e0, hw, q⟩ := slO_of q
  subst hw
  obtain ⟨dss, rfl, q⟩ := asLL_of q
  obtain ⟨l, ds, el, hl, q2⟩ := q
  subst el
  obtain ⟨v, g1, stT⟩ := st.take_o e0
  obtain ⟨A1, B', ⟨p, ps, rfl, rfl, h1, h2⟩, stU, back⟩ := stT.underR
  have hlen := ownLs_len h2
  obtain ⟨q0, vs0, a1, a2, a3⟩ := ownLs_get (i := l.length) (ds := ds) h2 (by simp)
  obtain ⟨ps0, rfl⟩ := snoc_of (ps := ps) (by simpa using hlen) a1
  have eix : atI ((ps0 ++ [q0]).map V.ref) (-1) = some (.ref q0) := by
    rw [List.map_append]
    exact atI_last _ _
  refine ⟨_, g1, 1, rfl, .inl ⟨p, _, -1, .ref q0, rfl, rfl, SqL.of h1, eix, .inl ⟨rfl, _, SqL.of a2⟩, va B' _ s G H _ _ stU q2 fun v y c1 G1 H1 st1 e1 d1 q1 => ?_⟩⟩
  obtain ⟨e3, hkeep, st3⟩ := back _ _ _ _ st1
  have hp1 : H1 p = some (.lst ((ps0 ++ [q0]).map V.ref)) := (hkeep p List.mem_cons_self).trans h1
  have hq1 : H1 q0 = some (.lst vs0) := (hkeep q0 (List.mem_cons_of_mem _ (by simp))).trans a2
  have a3' := dpa_mono e3 _ _ a3
  refine ⟨q0, vs0, v, rfl, rfl, hq1, by rw [dpa_len a3]; exact hl, ?_⟩
  obtain ⟨u, A2, f1, ⟨p', ps', ep, rfl, f2, f3⟩, nd, wr⟩ := st3.foc (j := 0) rfl
  have eu : u = .ref p := by simpa using f1.symm
  rw [eu] at ep
  cases ep
  rw [hp1] at f2
  have eps : ps' = ps0 ++ [q0] := by
    have e4 : (ps0 ++ [q0]).map V.ref = ps'.map V.ref := by
      have := Option.some.inj f2
      injection this
    exact (List.map_inj_right (fun x y z => by injection z)).mp e4.symm
  subst eps
  obtain ⟨n1, n2⟩ := List.nodup_cons.mp nd
  have st4 := wr (upd H1 q0 (.lst (vs0 ++ [v]))) (.lls ((l ++ [ds]).set l.length (ds ++ [y]))) (p :: (ps0 ++ [q0])) (fun a ha => upd_ne fun z => ha (by simp [z])) (fun a ha => .inl ha) (fun a ha => ?_) nd (by
    rw [eu]
    refine ⟨p, _, rfl, rfl, ?_, ownLs_set (dpa_app a3' (.cons d1 .nil)) f3 n2 ?_⟩
    · rw [upd_ne fun z => n1 (by simp [z])]; exact hp1
    · have : ps0.length = l.length := by simp at hlen; exact hlen
      rw [← this]; simp)
  · have st5 : Stt X.K B (.o none (.lls ((l ++ [ds]).set l.length (ds ++ [y]))) :: c1) (some (.ref p) :: s) G1 (upd H1 q0 (.lst (vs0 ++ [v]))) := st4
    have st6 := st5.set_o j
    rw [set_same g1] at st6
    have e5 : (l ++ [ds]).set l.length (ds ++ [y]) = l ++ [ds ++ [y]] := by simp
    rw [e5] at st6
    exact k.nx _ _ G1 _ st6 e1 q1
  · by_cases hq : a = q0
    · rw [hq, upd_same]; exact fun z => nomatch z
    · rw [upd_ne hq]
      rcases List.mem_cons.mp ha with rfl | ha
      · rw [hp1]; exact fun z => nomatch z
      · exact ownLs_here f3 a ha
end
end Dl
namespace Dl
open PySem PySem.Spec PyProof.Rows L2
section
variable {c : Ctx} {as : List Arg} {x : PyData} {F : FrG} {j : Nat}
theorem lok_n : lentOk c [] = True := id rfl
theorem lok_s : lentOk c (.s j :: as) = ((slO c j fun _ _ => True) ∧ j ∉ lent as ∧ lentOk c as) := id rfl
theorem lok_d : lentOk c (.d x :: as) = lentOk c as := id rfl
theorem lok_f : lentOk c (.f F :: as) = lentOk c as := id rfl
theorem lent_n : lent [] = [] := id rfl
theorem lent_s : lent (.s j :: as) = j :: lent as := id rfl
theorem lent_d : lent (.d x :: as) = lent as := id rfl
theorem lent_f : lent (.f F :: as) = lent as := id rfl
end
theorem eqv_none : PyData.eqv .none .none = true := by simp [PyData.eqv]
end Dl
namespace Dl
open PySem PySem.Spec PyProof.Rows L2
theorem fz_ll {dss : List (List PyData)} {Q : PyData → Prop} : (Res.lls dss).fz Q = Q (.list (dss.map PyData.list)) := id rfl
end Dl
namespace Dl
open PySem PySem.Spec PyProof.Rows L2
section
variable {X : Cx} {a : Expr} {ta : TD} {pos pos' : Pos}
theorem t_isN (ha : DE X a ta) : DT X (.Compare a [.Is] [.Constant .none 0 pos'] pos) (wB fun c Q => ta c fun x c1 => Q (.bool (isNo x)) c1) := by
  obtain ⟨tea, pa, va⟩ := ha.ex
  refine ⟨_, pt_cmpR op_isN pa pe_non (nomark _), fun B c s G H Q R st q k => va B c s G H _ _ st q fun v x c1 G1 H1 st1 e1 d1 q1 => ⟨rfl, _, rfl, ?_⟩⟩
  rw [isNo_dp d1]
  exact k _ c1 G1 H1 st1 e1 q1
theorem t_notN (ha : DE X a ta) : DT X (.Compare a [.IsNot] [.Constant .none 0 pos'] pos) (wB fun c Q => ta c fun x c1 => Q (.bool (!isNo x)) c1) := by
  obtain ⟨tea, pa, va⟩ := ha.ex
  refine ⟨_, pt_cmpR op_notN pa pe_non (nomark _), fun B c s G H Q R st q k => va B c s G H _ _ st q fun v x c1 G1 H1 st1 e1 d1 q1 => ⟨rfl, _, rfl, ?_⟩⟩
  rw [isNo_dp d1]
  exact k _ c1 G1 H1 st1 e1 q1
end
end Dl

/-! More constructs: isinstance of what is seen, sums, least and greatest, all, any, sorted, zip, enumerate, reversed, list(range), chains of comparisons, texts. -/
namespace Dl
open PySem PySem.Spec PyProof.Rows L2

/-! ### a walk by steps -/
theorem seq_gen {t u : TSd} {E : De} {c : Ctx} (h : ∀ N : Ctx → Prop, (∀ c', u E c' → N c') → t { E with nx := N } c) : zSeq t u E c := h (u E) fun _ h => h
/-- a call to which nothing was lent -/
theorem retA_kO {ls : List (Option (Lt × Res))} {Q : Res → Prop} {R : Res} : retA ls (kO Q) (.o none R) = Q R := propext ⟨fun h => h _ (pat_self ls), fun h _ _ => h⟩
theorem retA_kD {ls : List (Option (Lt × Res))} {Q : PyData → Prop} {x : PyData} : retA ls (kD Q) (.d x) = Q x := propext ⟨fun h => h _ (pat_self ls), fun h _ _ => h⟩
theorem retA_kDo {ls : List (Option (Lt × Res))} {Q : PyData → Prop} {R : Res} : retA ls (kD Q) (.o none R) = R.fz Q := propext ⟨fun h => h _ (pat_self ls), fun h _ _ => h⟩
theorem retA_kS {ls : List (Option (Lt × Res))} {Q : PyData → Prop} {x : PyData} : retA ls (kS Q) (.d x) = (scal x = true ∧ Q x) := propext ⟨fun h => h _ (pat_self ls), fun h _ _ => h⟩

/-! ### items of one kind -/
def asIs (ds : List PyData) (Q : List Int → Prop) : Prop := ∃ ns, ds = ns.map PyData.int ∧ Q ns
def asBs (ds : List PyData) (Q : List Bool → Prop) : Prop := ∃ ns, ds = ns.map PyData.bool ∧ Q ns
def asSs (ds : List PyData) (Q : List Str → Prop) : Prop := ∃ ns, ds = ns.map PyData.str ∧ Q ns
theorem asIs_m {ns : List Int} {Q : List Int → Prop} : asIs (ns.map PyData.int) Q = Q ns := propext ⟨fun ⟨_, e, q⟩ => by
  rw [(List.map_inj_right (fun x y z => by injection z)).mp e]; exact q, fun q => ⟨_, rfl, q⟩⟩
theorem asBs_m {ns : List Bool} {Q : List Bool → Prop} : asBs (ns.map PyData.bool) Q = Q ns := propext ⟨fun ⟨_, e, q⟩ => by
  rw [(List.map_inj_right (fun x y z => by injection z)).mp e]; exact q, fun q => ⟨_, rfl, q⟩⟩
theorem asSs_m {ns : List Str} {Q : List Str → Prop} : asSs (ns.map PyData.str) Q = Q ns := propext ⟨fun ⟨_, e, q⟩ => by
  rw [(List.map_inj_right (fun x y z => by injection z)).mp e]; exact q, fun q => ⟨_, rfl, q⟩⟩
theorem asIs_f {α : Type} {f : α → Int} {xs : List α} {Q : List Int → Prop} : asIs (xs.map fun x => PyData.int (f x)) Q = Q (xs.map f) := by
  have : xs.map (fun x => PyData.int (f x)) = (xs.map f).map PyData.int := by rw [List.map_map]; rfl
  rw [this, asIs_m]
theorem asBs_f {α : Type} {f : α → Bool} {xs : List α} {Q : List Bool → Prop} : asBs (xs.map fun x => PyData.bool (f x)) Q = Q (xs.map f) := by
  have : xs.map (fun x => PyData.bool (f x)) = (xs.map f).map PyData.bool := by rw [List.map_map]; rfl
  rw [this, asBs_m]
section
variable {X : Cx} {pos p : Pos} {a b e : Expr} {ta tb tc : TD} {tg : Expr}

/-! ### isinstance of what is seen -/
theorem d_isiV {p2 : Pos} {T : Str} {n : String} (hm : X.mg "isinstance" = none) (hT : X.mg T = none) (hv : bootBuiltins T = some (.type n)) (ha : DV X a ta) {fi : PyData → Bool} (hk : ∀ x : PyData, (∀ kv, x ≠ .dict kv) → PySem.W.kitOne X.K (tyD x) (.type n) = some (fi x)) (hg : Gl X "isinstance" := by rfl) (hg2 : Gl X T := by rfl)
    (h1 : T ≠ "__name__" := by decide) (h2 : (T == ("__debug__" : Str)) = false := by decide) (he : starEach (a :: [.Name T p2]) X.env = (false, eval a X.env) :: starEach [.Name T p2] X.env := by rfl) (hpl : (backTo pos (starEach [.Name T p2] X.env)).any (·.1) = false := by rfl) :
    DE X (.Call (.Name "isinstance" p) [a, .Name T p2] [] pos) (u1 (fun x Q => Q (.bool (fi x))) ta) := by
  obtain ⟨tea, pa, va⟩ := ha.ex
  refine ⟨_, pe_callB call_isi hg hm (by decide +kernel) (pa_cons pa (pa_cons (pe_bltn (v := .ty n) hg2 hT hv rfl h1 h2) pa_nil) he) (by decide) (by decide) he hpl, fun B c s G H Q R st q k => va B c s G H _ _ st q fun v x c1 G1 H1 st1 e1 d1 q1 => ?_⟩
  have d2 := d1.dp st1.sub
  exact ⟨v, .ty n, tyD x, .type n, fi x, rfl, .ty n, tyX_of (Same.refl _) d2, hk x (fun kv z => by subst z; cases d2), k _ _ c1 G1 H1 st1 e1 (.bl _) q1⟩

/-! ### of a list of numbers, of truths -/
def fSum : PyData → (PyData → Prop) → Prop := fun x Q => asL x fun ds => asIs ds fun ns => Q (.int ns.sum)
def fMin : PyData → (PyData → Prop) → Prop := fun x Q => asL x fun ds => asIs ds fun ns => 0 < ns.length ∧ ∀ m, m ∈ ns → (∀ y, y ∈ ns → m ≤ y) → Q (.int m)
def fMax : PyData → (PyData → Prop) → Prop := fun x Q => asL x fun ds => asIs ds fun ns => 0 < ns.length ∧ ∀ m, m ∈ ns → (∀ y, y ∈ ns → y ≤ m) → Q (.int m)
def fAll : PyData → (PyData → Prop) → Prop := fun x Q => asL x fun ds => asBs ds fun ns => Q (.bool (ns.all id))
def fAny : PyData → (PyData → Prop) → Prop := fun x Q => asL x fun ds => asBs ds fun ns => Q (.bool (ns.any id))
def fSortI : PyData → (Res → Prop) → Prop := fun x Q => asL x fun ds => asIs ds fun ns => ∀ ns' : List Int, ns'.Perm ns → ns'.Pairwise (· ≤ ·) → Q (.lst (ns'.map PyData.int))
theorem Vw.ints {K : PySem.W.Frag} {G H : Hp} {v : V} {ns : List Int} (h : Vw K G H v (.list (ns.map PyData.int))) (e : Same G H) : ∃ p, v = .ref p ∧ SqL K H p (ns.map V.int) := by
  obtain ⟨p, vs, rfl, h1, h2⟩ := h.lst e
  rw [dpa_ints_inv h2] at h1
  exact ⟨p, rfl, h1⟩
theorem Vw.bls {K : PySem.W.Frag} {G H : Hp} {v : V} {ns : List Bool} (h : Vw K G H v (.list (ns.map PyData.bool))) (e : Same G H) : ∃ p, v = .ref p ∧ SqL K H p (ns.map V.bl) := by
  obtain ⟨p, vs, rfl, h1, h2⟩ := h.lst e
  rw [dpa_bls_inv h2] at h1
  exact ⟨p, rfl, h1⟩
theorem Vw.strs {K : PySem.W.Frag} {G H : Hp} {v : V} {ns : List Str} (h : Vw K G H v (.list (ns.map PyData.str))) (e : Same G H) : ∃ p, v = .ref p ∧ SqL K H p (ns.map V.str) := by
  obtain ⟨p, vs, rfl, h1, h2⟩ := h.lst e
  rw [dpa_strs_inv h2] at h1
  exact ⟨p, rfl, h1⟩
theorem d_sum (hc : X.calm = true) (hm : X.mg "sum" = none) (ha : DV X a ta) (hg : Gl X "sum" := by rfl) (he : starEach [a] X.env = (false, eval a X.env) :: starEach [] X.env := by rfl) (hpl : (backTo pos (starEach [] X.env)).any (·.1) = false := by rfl) : DE X (.Call (.Name "sum" p) [a] [] pos) (u1 fSum ta) := by
  refine d_oneB (cr_sum hc) (fun B c s G H v x Q R st d h k => ?_) hm (by decide +kernel) ha hg (by decide) (by decide) he hpl
  obtain ⟨ds, rfl, ns, rfl, q⟩ := asL_of h
  obtain ⟨p, rfl, hs⟩ := d.ints st.sub
  exact ⟨p, ns, rfl, hs, k _ _ G H st (Same.refl _) (.int _) q⟩
theorem d_minL (hc : X.calm = true) (hm : X.mg "min" = none) (ha : DV X a ta) (hg : Gl X "min" := by rfl) (he : starEach [a] X.env = (false, eval a X.env) :: starEach [] X.env := by rfl) (hpl : (backTo pos (starEach [] X.env)).any (·.1) = false := by rfl) : DE X (.Call (.Name "min" p) [a] [] pos) (u1 fMin ta) := by
  refine d_oneB (cr_min hc) (fun B c s G H v x Q R st d h k => ?_) hm (by decide +kernel) ha hg (by decide) (by decide) he hpl
  obtain ⟨ds, rfl, ns, rfl, hn, q⟩ := asL_of h
  obtain ⟨p, rfl, hs⟩ := d.ints st.sub
  exact ⟨p, ns, rfl, hs, hn, fun m h1 h2 => k _ _ G H st (Same.refl _) (.int _) (q m h1 h2)⟩
theorem d_maxL (hc : X.calm = true) (hm : X.mg "max" = none) (ha : DV X a ta) (hg : Gl X "max" := by rfl) (he : starEach [a] X.env = (false, eval a X.env) :: starEach [] X.env := by rfl) (hpl : (backTo pos (starEach [] X.env)).any (·.1) = false := by rfl) : DE X (.Call (.Name "max" p) [a] [] pos) (u1 fMax ta) := by
  refine d_oneB (cr_max hc) (fun B c s G H v x Q R st d h k => ?_) hm (by decide +kernel) ha hg (by decide) (by decide) he hpl
  obtain ⟨ds, rfl, ns, rfl, hn, q⟩ := asL_of h
  obtain ⟨p, rfl, hs⟩ := d.ints st.sub
  exact ⟨p, ns, rfl, hs, hn, fun m h1 h2 => k _ _ G H st (Same.refl _) (.int _) (q m h1 h2)⟩
theorem d_all (hc : X.calm = true) (hm : X.mg "all" = none) (ha : DV X a ta) (hg : Gl X "all" := by rfl) (he : starEach [a] X.env = (false, eval a X.env) :: starEach [] X.env := by rfl) (hpl : (backTo pos (starEach [] X.env)).any (·.1) = false := by rfl) : DE X (.Call (.Name "all" p) [a] [] pos) (u1 fAll ta) := by
  refine d_oneB (cr_all hc) (fun B c s G H v x Q R st d h k => ?_) hm (by decide +kernel) ha hg (by decide) (by decide) he hpl
  obtain ⟨ds, rfl, ns, rfl, q⟩ := asL_of h
  obtain ⟨p, rfl, hs⟩ := d.bls st.sub
  exact ⟨p, ns, rfl, hs, k _ _ G H st (Same.refl _) (.bl _) q⟩
theorem d_any (hc : X.calm = true) (hm : X.mg "any" = none) (ha : DV X a ta) (hg : Gl X "any" := by rfl) (he : starEach [a] X.env = (false, eval a X.env) :: starEach [] X.env := by rfl) (hpl : (backTo pos (starEach [] X.env)).any (·.1) = false := by rfl) : DE X (.Call (.Name "any" p) [a] [] pos) (u1 fAny ta) := by
  refine d_oneB (cr_any hc) (fun B c s G H v x Q R st d h k => ?_) hm (by decide +kernel) ha hg (by decide) (by decide) he hpl
  obtain ⟨ds, rfl, ns, rfl, q⟩ := asL_of h
  obtain ⟨p, rfl, hs⟩ := d.bls st.sub
  exact ⟨p, ns, rfl, hs, k _ _ G H st (Same.refl _) (.bl _) q⟩
theorem o_sortI (hm : X.mg "sorted" = none) (ha : DV X a ta) (hg : Gl X "sorted" := by rfl) (he : starEach [a] X.env = (false, eval a X.env) :: starEach [] X.env := by rfl) (hpl : (backTo pos (starEach [] X.env)).any (·.1) = false := by rfl) : DO X (.Call (.Name "sorted" p) [a] [] pos) (o1 fSortI ta) := by
  refine o_oneB cr_sortedI (fun B c s G H v x Q R st d h k => ?_) hm (by decide +kernel) ha hg (by decide) (by decide) he hpl
  obtain ⟨ds, rfl, ns, rfl, q⟩ := asL_of h
  obtain ⟨p, rfl, hs⟩ := d.ints st.sub
  exact ⟨p, ns, rfl, hs, fun ns' l h1 h2 hn => k _ _ _ _ (st.laidL hn (dpa_ints ns')) (Same.refl _) (q ns' h1 h2)⟩

/-! ### min, max of two; str(int), int(str) -/
def fMin2 (xs : List PyData) (Q : PyData → Prop) : Prop := arg2 xs fun x y => asI x fun i => asI y fun j => Q (.int (if j < i then j else i))
def fMax2 (xs : List PyData) (Q : PyData → Prop) : Prop := arg2 xs fun x y => asI x fun i => asI y fun j => Q (.int (if j > i then j else i))
variable {es : List Expr} {tl : TL}
theorem d_min2 (hc : X.calm = true) (hm : X.mg "min" = none) (ha : DA X (a :: es) tl) (hg : Gl X "min" := by rfl) (he : starEach (a :: es) X.env = (false, eval a X.env) :: starEach es X.env := by rfl) (hpl : (backTo pos (starEach es X.env)).any (·.1) = false := by rfl) : DE X (.Call (.Name "min" p) (a :: es) [] pos) (uCB fMin2 tl) := by
  refine d_callB (call_min2 hc) (fun B c s G H vs xs Q R st da h k => ?_) hm (by decide +kernel) ha hg (by decide) (by decide) he hpl
  obtain ⟨x, y, rfl, h⟩ := arg2_of h
  obtain ⟨i, rfl, h⟩ := asI_of h
  obtain ⟨j, rfl, q⟩ := asI_of h
  obtain ⟨v, w, rfl, d1, d2⟩ := dpa_2 da
  cases d1
  cases d2
  exact ⟨i, j, rfl, k _ _ G H st (Same.refl _) (.int _) q⟩
theorem d_max2 (hc : X.calm = true) (hm : X.mg "max" = none) (ha : DA X (a :: es) tl) (hg : Gl X "max" := by rfl) (he : starEach (a :: es) X.env = (false, eval a X.env) :: starEach es X.env := by rfl) (hpl : (backTo pos (starEach es X.env)).any (·.1) = false := by rfl) : DE X (.Call (.Name "max" p) (a :: es) [] pos) (uCB fMax2 tl) := by
  refine d_callB (call_max2 hc) (fun B c s G H vs xs Q R st da h k => ?_) hm (by decide +kernel) ha hg (by decide) (by decide) he hpl
  obtain ⟨x, y, rfl, h⟩ := arg2_of h
  obtain ⟨i, rfl, h⟩ := asI_of h
  obtain ⟨j, rfl, q⟩ := asI_of h
  obtain ⟨v, w, rfl, d1, d2⟩ := dpa_2 da
  cases d1
  cases d2
  exact ⟨i, j, rfl, k _ _ G H st (Same.refl _) (.int _) q⟩
def fStr : PyData → (PyData → Prop) → Prop := fun x Q => asI x fun i => i.natAbs.log2 < 1920 ∧ Q (.str (toString i))
theorem d_str_ (hm : X.mg "str" = none) (ha : DV X a ta) (hg : Gl X "str" := by rfl) (he : starEach [a] X.env = (false, eval a X.env) :: starEach [] X.env := by rfl) (hpl : (backTo pos (starEach [] X.env)).any (·.1) = false := by rfl) : DE X (.Call (.Name "str" p) [a] [] pos) (u1 fStr ta) := by
  refine d_oneT call_str_int (fun B c s G H v x Q R st d h k => ?_) hm bb_str ha hg (by decide) (by decide) he hpl
  obtain ⟨i, rfl, hl, q⟩ := asI_of h
  exact ⟨i, by rw [dp_int (d.dp st.sub)], hl, k _ _ G H st (Same.refl _) (.str _) q⟩
def fIntS : PyData → (PyData → Prop) → Prop := fun x Q => match x with
  | .int i => Q (.int i)
  | .bool b => Q (.int (if b then 1 else 0))
  | .str z => ∃ n, PySem.intText? z = some n ∧ z.length ≤ 640 ∧ Q (.int n)
  | _ => False
theorem fIntS_i {i : Int} {Q : PyData → Prop} : fIntS (.int i) Q = Q (.int i) := id rfl
theorem fIntS_b {b : Bool} {Q : PyData → Prop} : fIntS (.bool b) Q = Q (.int (if b then 1 else 0)) := id rfl
theorem fIntS_s {z : Str} {Q : PyData → Prop} : fIntS (.str z) Q = ∃ n, PySem.intText? z = some n ∧ z.length ≤ 640 ∧ Q (.int n) := id rfl
theorem d_intS (hm : X.mg "int" = none) (ha : DV X a ta) (hg : Gl X "int" := by rfl) (he : starEach [a] X.env = (false, eval a X.env) :: starEach [] X.env := by rfl) (hpl : (backTo pos (starEach [] X.env)).any (·.1) = false := by rfl) : DE X (.Call (.Name "int" p) [a] [] pos) (u1 fIntS ta) := by
  refine d_oneT (CallR.or call_int1 call_int_str) (fun B c s G H v x Q R st d1 h k => ?_) hm bb_int ha hg (by decide) (by decide) he hpl
  cases x with
  | int i => exact .inl (.inl ⟨i, by rw [dp_int (d1.dp st.sub)], k _ _ G H st (Same.refl _) (.int _) h⟩)
  | bool b => exact .inl (.inr ⟨b, by rw [dp_bl (d1.dp st.sub)], k _ _ G H st (Same.refl _) (.int _) h⟩)
  | str z =>
    obtain ⟨n, h1, h2, q⟩ := h
    exact .inr ⟨z, n, by rw [dp_str (d1.dp st.sub)], h1, h2, k _ _ G H st (Same.refl _) (.int _) q⟩
  | list _ => exact h.elim
  | tuple _ => exact h.elim
  | none => exact h.elim
  | dict _ => exact h.elim

/-! ### list(range(..)) -/
def oRg1 (t : TD) : TR := fun c Q => t c fun x c1 => asI x fun n => RgOk 0 n ∧ Q (.lst (rngD 0 n.toNat)) c1
theorem dpa_rg {K : PySem.W.Frag} {G : Hp} (lo : Int) : ∀ l : List Nat, DpAll K G (l.map fun i => V.int (lo + (i : Nat))) (l.map fun (i : Nat) => PyData.int (lo + (i : Int)))
  | [] => .nil
  | _ :: l => .cons (.int _) (dpa_rg lo l)
theorem o_listRg1 {p2 pos2 : Pos} (hc : X.calm = true) (hm : X.mg "list" = none) (hm2 : X.mg "range" = none) (ha : DE X a ta) (hg : Gl X "list" := by rfl) (hg2 : Gl X "range" := by rfl) (na : starEach [a] X.env = (false, eval a X.env) :: starEach [] X.env := by rfl)
    (nb : starEach [.Call (.Name "range" p2) [a] [] pos2] X.env = (false, eval (.Call (.Name "range" p2) [a] [] pos2) X.env) :: starEach [] X.env := by rfl) : DO X (.Call (.Name "list" p) [.Call (.Name "range" p2) [a] [] pos2] [] pos) (oRg1 ta) := by
  obtain ⟨tea, pa, va⟩ := ha.ex
  refine ⟨_, pe_listRg hc hg hm (prg_1 hg2 hm2 pa na) nb, fun B c s G H Q R st q k => va B c s G H _ _ st q fun v x c1 G1 H1 st1 e1 d1 q1 => ?_⟩
  obtain ⟨n, rfl, h1, q2⟩ := asI_of q1
  refine ⟨n, dp_int d1, h1, fun l hn => k _ _ _ _ _ (st1.laidL hn ?_) e1 q2⟩
  have := dpa_rg (K := X.K) (G := G1) 0 (List.range n.toNat)
  unfold rgV
  rw [Int.sub_zero]
  exact this

/-! ### a < b < c -/
def uChain (f g : PyData → PyData → (PyData → Prop) → Prop) (ta tb tc : TD) : TD := fun c Q => ta c fun x c1 => tb c1 fun y c2 => f x y fun z => asB z fun k => if k = true then tc c2 fun w c3 => g y w fun z => Q z c3 else Q (.bool false) c2
section
variable {ce : Expr} {op op' : CmpOp} {r r' : R2} {f f' : PyData → PyData → (PyData → Prop) → Prop}
theorem chain_v {tea teb tec : TE} (ha : DEv X.K tea ta) (hb : DEv X.K teb tb) (hc : DEv X.K tec tc) (hr : OpD X.K r f) (hr' : OpD X.K r' f') : DEv X.K (tChain r r' tea teb tec) (uChain f f' ta tb tc) := by
  intro B c s G H Q R st q k
  refine ha B c s G H _ _ st q fun v x c1 G1 H1 st1 e1 d1 q1 => ?_
  refine hb B c1 s G1 H1 _ _ st1 q1 fun w y c2 G2 H2 st2 e2 d2 q2 => ?_
  refine hr B c2 s G2 H2 v w x y _ _ st2 (dp_mono e2 _ _ d1) d2 q2 fun z d G3 H3 st3 e3 d3 q3 => ?_
  obtain ⟨b, rfl, q3⟩ := asB_of q3
  refine ⟨b, dp_bl d3, ?_⟩
  cases b with
  | true =>
    have q3 : if (true = true) then tc c2 fun w c3 => f' y w fun z => Q z c3 else Q (.bool false) c2 := q3
    rw [if_pos rfl] at q3 ⊢
    refine hc B c2 s G3 H3 _ _ st3 q3 fun u t c4 G4 H4 st4 e4 d4 q4 => ?_
    exact hr' B c4 s G4 H4 w u y t _ R st4 (dp_mono (e3.trans e4) _ _ d2) d4 q4 fun z d G5 H5 st5 e5 d5 q5 => k z d c4 G5 H5 st5 ((((e1.trans e2).trans e3).trans e4).trans e5) d5 q5
  | false =>
    have q3 : if (false = true) then tc c2 fun w c3 => f' y w fun z => Q z c3 else Q (.bool false) c2 := q3
    rw [if_neg Bool.false_ne_true] at q3 ⊢
    exact k _ _ c2 G3 H3 st3 ((e1.trans e2).trans e3) (.bl _) q3
theorem d_chain (ho : OpR X (compareOp op) r) (ho' : OpR X (compareOp op') r') (hr : OpD X.K r f) (hr' : OpD X.K r' f') (ha : DE X a ta) (hb : DE X b tb) (hc : DE X ce tc) (hm : lastMarks [op, op'] [b, ce] = false := by with_unfolding_all rfl) : DE X (.Compare a [op, op'] [b, ce] pos) (uChain f f' ta tb tc) := by
  obtain ⟨tea, pa, va⟩ := ha.ex
  obtain ⟨teb, pb, vb⟩ := hb.ex
  obtain ⟨tec, pc, vc⟩ := hc.ex
  exact ⟨_, pe_chain ho ho' pa pb pc hm, chain_v va vb vc hr hr'⟩
theorem t_chain (ho : OpR X (compareOp op) r) (ho' : OpR X (compareOp op') r') (hr : OpD X.K r f) (hr' : OpD X.K r' f') (ha : DE X a ta) (hb : DE X b tb) (hc : DE X ce tc) (hm : lastMarks [op, op'] [b, ce] = false := by with_unfolding_all rfl) : DT X (.Compare a [op, op'] [b, ce] pos) (wB (uChain f f' ta tb tc)) := by
  obtain ⟨tea, pa, va⟩ := ha.ex
  obtain ⟨teb, pb, vb⟩ := hb.ex
  obtain ⟨tec, pc, vc⟩ := hc.ex
  refine ⟨_, pt_chain ho ho' pa pb pc hm, fun B c s G H Q R st q k => chain_v va vb vc hr hr' B c s G H _ _ st q fun v x c1 G1 H1 st1 e1 d1 q1 => ?_⟩
  obtain ⟨b, rfl, q⟩ := asB_of q1
  exact ⟨b, dp_bl d1, k b c1 G1 H1 st1 e1 q⟩
end

/-! ### zip, enumerate, reversed -/
def zipD (xs ys : List PyData) : List PyData := (xs.zip ys).map fun p => .tuple [p.1, p.2]
theorem zipD_len (xs ys : List PyData) : (zipD xs ys).length = min xs.length ys.length := by simp [zipD]
def iZp (tl : TL) : TL := fun c Q => tl c fun xs c1 => arg2 xs fun x y => asL x fun ds => asL y fun es => Q (zipD ds es) c1
theorem i_zip {elts : List Expr} {kk : Nat} {tpos : Pos} (hm : X.mg "zip" = none) (ha : DA X [a, b] tl) (hg : Gl X "zip" := by rfl) (hs : starEach [a, b] X.env = (false, eval a X.env) :: starEach [b] X.env := by rfl) (hpl : (backTo pos (starEach [b] X.env)).any (·.1) = false := by rfl) :
    DI X (.Tuple elts kk tpos) (.Call (.Name "zip" p) [a, b] [] pos) (iZp tl) := by
  obtain ⟨te, pa, va⟩ := ha.ex
  refine ⟨_, pi_zip hg hm pa hs hpl, fun B c s G H Q R st q k => va B c s G H _ _ st q fun vs xs c1 G1 H1 st1 e1 d1 q1 => ?_⟩
  obtain ⟨x, y, rfl, q1⟩ := arg2_of q1
  obtain ⟨ds, rfl, q1⟩ := asL_of q1
  obtain ⟨es, rfl, q1⟩ := asL_of q1
  obtain ⟨v, w, rfl, d1, d2⟩ := dpa_2 d1
  obtain ⟨l, us, rfl, h1, h2⟩ := dp_lst d1
  obtain ⟨m, ws, rfl, g1, g2⟩ := dp_lst d2
  refine ⟨l, m, us, ws, rfl, Same.seq st1.sub h1, Same.seq st1.sub g1, k _ _ _ _ _ st1 e1 (fun B' c' s' G' H' st' e' i => ?_) q1⟩
  have hq : SqL X.K H' l us := Same.seq st'.sub (Same.seq e' h1)
  have gq : SqL X.K H' m ws := Same.seq st'.sub (Same.seq e' g1)
  have hl := dpa_len h2
  have gl := dpa_len g2
  refine ⟨fun hi => ⟨us, ws, hq, gq, by rw [zipD_len] at hi; omega⟩, fun hi => ?_⟩
  rw [zipD_len] at hi
  obtain ⟨x, hx, dx⟩ := dpa_get h2 (List.getElem?_eq_getElem (show i < ds.length by omega))
  obtain ⟨y, hy, dy⟩ := dpa_get g2 (List.getElem?_eq_getElem (show i < es.length by omega))
  refine ⟨⟨us, ws, x, y, hq, gq, hx, hy⟩, fun z H2 hz => ?_⟩
  obtain ⟨T, x', y', rfl, hT, rfl, k1, k2⟩ := hz
  have ex := k1 us hq
  have ey := k2 ws gq
  rw [hx] at ex
  rw [hy] at ey
  cases ex
  cases ey
  obtain ⟨st2, e2⟩ := st'.laid (o := .tup [x, y]) hT
  refine ⟨_, .tuple [ds[i], es[i]], ?_, st2, e2, .tup (.inl (.inl upd_same)) (dpa_mono (e'.trans e2) _ _ (.cons dx (.cons dy .nil)))⟩
  unfold zipD
  rw [List.getElem?_map, List.getElem?_eq_getElem (by rw [List.length_zip]; exact hi), List.getElem_zip]
  rfl
def enumD (xs : List PyData) : List PyData := (xs.zipIdx).map fun p => .tuple [.int (p.2 : Int), p.1]
theorem enumD_len (xs : List PyData) : (enumD xs).length = xs.length := by simp [enumD]
def iEn (t : TD) : TL := fun c Q => t c fun x c1 => asL x fun ds => Q (enumD ds) c1
theorem i_enum {elts : List Expr} {kk : Nat} {tpos : Pos} (hm : X.mg "enumerate" = none) (ha : DE X a ta) (hg : Gl X "enumerate" := by rfl) (hs : starEach [a] X.env = [(false, eval a X.env)] := by rfl) (hs2 : starEach [a] X.env = (false, eval a X.env) :: starEach [] X.env := by rfl) :
    DI X (.Tuple elts kk tpos) (.Call (.Name "enumerate" p) [a] [] pos) (iEn ta) := by
  obtain ⟨te, pa, va⟩ := ha.ex
  refine ⟨_, pi_enum hg hm (pa_cons pa pa_nil hs2) hs, fun B c s G H Q R st q k => va B c s G H _ _ st q fun v x c1 G1 H1 st1 e1 d1 q1 => ?_⟩
  obtain ⟨ds, rfl, q1⟩ := asL_of q1
  obtain ⟨l, us, rfl, h1, h2⟩ := dp_lst d1
  refine ⟨l, us, rfl, Same.seq st1.sub h1, k _ _ _ _ _ st1 e1 (fun B' c' s' G' H' st' e' i => ?_) q1⟩
  have hq : SqL X.K H' l us := Same.seq st'.sub (Same.seq e' h1)
  have hl := dpa_len h2
  refine ⟨fun hi => ⟨us, hq, by rw [enumD_len] at hi; omega⟩, fun hi => ?_⟩
  rw [enumD_len] at hi
  obtain ⟨x, hx, dx⟩ := dpa_get h2 (List.getElem?_eq_getElem (show i < ds.length by omega))
  refine ⟨⟨us, x, hq, hx⟩, fun z H2 hz => ?_⟩
  obtain ⟨T, x', rfl, hT, rfl, k1⟩ := hz
  have ex := k1 us hq
  rw [hx] at ex
  cases ex
  obtain ⟨st2, e2⟩ := st'.laid (o := .tup [.int (i : Nat), x]) hT
  refine ⟨_, .tuple [.int (i : Nat), ds[i]], ?_, st2, e2, .tup (.inl (.inl upd_same)) (dpa_mono (e'.trans e2) _ _ (.cons (.int _) (.cons dx .nil)))⟩
  unfold enumD
  rw [List.getElem?_map, List.getElem?_eq_getElem (by rw [List.length_zipIdx]; exact hi), List.getElem_zipIdx]
  simp
def iRv (t : TD) : TL := fun c Q => t c fun x c1 => asL x fun ds => Q ds.reverse c1
theorem i_rev (hm : X.mg "reversed" = none) (ha : DE X a ta) (hg : Gl X "reversed" := by rfl) (hs : starEach [a] X.env = (false, eval a X.env) :: starEach [] X.env := by rfl) : DI X tg (.Call (.Name "reversed" p) [a] [] pos) (iRv ta) := by
  obtain ⟨te, pa, va⟩ := ha.ex
  refine ⟨_, RT.pi_revA hg hm pa hs, fun B c s G H Q R st q k => va B c s G H _ _ st q fun v x c1 G1 H1 st1 e1 d1 q1 => ?_⟩
  obtain ⟨ds, rfl, q1⟩ := asL_of q1
  obtain ⟨l, us, rfl, h1, h2⟩ := dp_lst d1
  have hl := dpa_len h2
  refine ⟨l, us, rfl, .inl ⟨Same.seq st1.sub h1, k _ _ _ _ _ st1 e1 (fun B' c' s' G' H' st' e' i => ?_) q1⟩⟩
  have hq : SqL X.K H' l us := Same.seq st'.sub (Same.seq e' h1)
  refine ⟨fun hi => show us.length ≤ i by rw [List.length_reverse] at hi; omega, fun hi => ?_⟩
  rw [List.length_reverse] at hi
  obtain ⟨x, hx, dx⟩ := dpa_get h2 (List.getElem?_eq_getElem (show us.length - 1 - i < ds.length by omega))
  refine ⟨⟨by omega, us, x, hq, hx⟩, fun z H2 hz => ?_⟩
  obtain ⟨rfl, k1⟩ := hz
  have ex := k1 us hq
  rw [hx] at ex
  cases ex
  refine ⟨G', ds[us.length - 1 - i], ?_, st', Same.refl _, dp_mono e' _ _ dx⟩
  rw [List.getElem?_reverse hi, List.getElem?_eq_getElem (by omega)]
  simp [hl]
def iRr1 (t : TD) : TL := fun c Q => t c fun x c1 => asI x fun n => -(2 ^ 62) ≤ n ∧ n < 2 ^ 62 ∧ Q (rngD 0 n.toNat).reverse c1
theorem i_revRg1 {p2 pos2 : Pos} (hm : X.mg "reversed" = none) (hm2 : X.mg "range" = none) (ha : DE X a ta) (hg : Gl X "reversed" := by rfl) (hg2 : Gl X "range" := by rfl) (na : starEach [a] X.env = (false, eval a X.env) :: starEach [] X.env := by rfl)
    (nb : starEach [.Call (.Name "range" p2) [a] [] pos2] X.env = (false, eval (.Call (.Name "range" p2) [a] [] pos2) X.env) :: starEach [] X.env := by rfl) : DI X tg (.Call (.Name "reversed" p) [.Call (.Name "range" p2) [a] [] pos2] [] pos) (iRr1 ta) := by
  obtain ⟨tea, pa, va⟩ := ha.ex
  refine ⟨_, pi_revR hg hm (prg_1 hg2 hm2 pa na) nb, fun B c s G H Q R st q k => va B c s G H _ _ st q fun v x c1 G1 H1 st1 e1 d1 q1 => ?_⟩
  obtain ⟨n, rfl, h1, h2, q2⟩ := asI_of q1
  refine ⟨n, dp_int d1, by decide, by decide, h1, h2, k _ _ _ _ _ st1 e1 (fun B' c' s' G' H' st' e' i => ?_) q2⟩
  rw [Int.sub_zero, List.length_reverse, rngD_len]
  refine ⟨fun hi => hi, fun hi => ⟨hi, fun z H2 hz => ?_⟩⟩
  obtain ⟨rfl, rfl⟩ := hz
  refine ⟨G', _, ?_, st', Same.refl _, .int _⟩
  rw [List.getElem?_reverse (by rw [rngD_len]; exact hi), rngD_len]
  unfold rngD
  rw [List.getElem?_map, List.getElem?_range (by omega)]
  simp
  omega
end
end Dl

/-! Lists of owned lists: read, written, grown; a list so many times; join; sorted of texts, of pairs. -/
namespace Dl
open PySem PySem.Spec PyProof.Rows L2
section
variable {K : PySem.W.Frag} {B : Base} {G H : Hp} {c : Ctx} {s : L2.St}
/-- the owned thing on top given to the owned thing in slot j -/
theorem Stt.foc2 {Rt : Res} {vt : V} (st : Stt K B (.o none Rt :: c) (some vt :: s) G H) {j : Nat} {w : Option Lt} {R : Res} (e : c[j]? = some (.o w R)) : ∃ v A1 At, s[j]? = some (some v) ∧ R.P K G H v A1 ∧ Rt.P K G H vt At ∧ (A1 ++ At).Nodup ∧
    ∀ (H' : Hp) (R' : Res) (A1' : List Addr), (∀ a, a ∉ A1' → H' a = H a) → (∀ a ∈ A1', a ∈ A1 ∨ a ∈ At ∨ H a = none) → (∀ a ∈ A1', H' a ≠ none) → A1'.Nodup → R'.P K G H' v A1' → Stt K B (c.set j (.o w R')) s G H' := by
  obtain ⟨A0, r0, wd⟩ := st.ex
  cases r0 with
  | @o _ _ _ _ _ At A hRt hWt r =>
  obtain ⟨nd1, nd2, nd3⟩ := List.nodup_append.mp wd.nd
  have hWt : ∀ a ∈ At, B.H0 a = none := hWt
  obtain ⟨v, A1, h1, h2, h3, h4, h5, k⟩ := r.focus nd2 e
  refine ⟨v, A1, At, h1, h2, hRt, List.nodup_append.mpr ⟨h4, nd1, fun a ha b hb z => nd3 b hb a (h5 a ha) z.symm⟩, fun H' R' A1' k1 k2 k3 k4 k5 => ?_⟩
  have kw : WOk B w v A1' := by
    cases w with
    | none =>
      intro a ha
      rcases k2 a ha with z | z | z
      · exact h3 a z
      · exact hWt a z
      · exact wd.dom a z
    | some u =>
      refine ⟨h3.1, fun a ha => ?_⟩
      rcases k2 a ha with z | z | z
      · exact h3.2 a z
      · exact .inr (hWt a z)
      · exact .inr (wd.dom a z)
  have hAt : ∀ a ∈ At, a ∉ A := fun a ha z => nd3 a ha a z rfl
  have kk : ∀ a ∈ A, a ∉ A1 → H' a = H a := fun a ha hn => k1 a fun z => by
    rcases k2 a z with y | y | y
    · exact hn y
    · exact hAt a y ha
    · exact r.here a ha y
  obtain ⟨A', r', n, q⟩ := k (G' := G) (H' := H') (R' := R') (w' := w) (A1' := A1') (Same.refl _) kk k5 kw k4 (fun a ha => by
    rcases k2 a ha with z | z | z
    · exact .inl z
    · exact .inr (hAt a z)
    · exact .inr fun y => r.here a y z)
  have inA : ∀ a ∈ A', (a ∈ A1' ∧ (a ∈ A1 ∨ a ∈ At ∨ H a = none)) ∨ (a ∈ A ∧ a ∉ A1) := fun a ha => (q a ha).imp (fun z => ⟨z, k2 a z⟩) id
  refine ⟨A', r', fun a o z => ?_, n, fun a ha => ?_, wd.old, fun a o z hn => ?_, fun a z => ?_, wd.newG, fun a ha => ?_⟩
  · have ha : a ∉ A1' := fun y => by
      rcases k2 a y with x | x | x
      · rw [wd.out a (List.mem_append_right _ (h5 a x))] at z; cases z
      · rw [wd.out a (List.mem_append_left _ x)] at z; cases z
      · rw [wd.sub a o z] at x; cases x
    rw [k1 a ha]; exact wd.sub a o z
  · rcases inA a ha with ⟨_, z | z | z⟩ | ⟨z, _⟩
    · exact wd.out a (List.mem_append_right _ (h5 a z))
    · exact wd.out a (List.mem_append_left _ z)
    · exact wd.sub.free z
    · exact wd.out a (List.mem_append_right _ z)
  · have hs := wd.stay a o z hn
    have ha : a ∉ A1' := fun y => by
      rcases k2 a y with x | x | x
      · rcases wd.lim a (List.mem_append_right _ (h5 a x)) with u | u
        · exact hn u
        · rw [u] at z; cases z
      · rw [hWt a x] at z; cases z
      · rw [hs] at x; cases x
    rw [k1 a ha]; exact hs
  · have ha : a ∉ A1' := fun y => k3 a y z
    rw [k1 a ha] at z
    exact wd.dom a z
  · rcases inA a ha with ⟨_, z | z | z⟩ | ⟨z, _⟩
    · exact wd.lim a (List.mem_append_right _ (h5 a z))
    · exact wd.lim a (List.mem_append_left _ z)
    · exact .inr (wd.dom a z)
    · exact wd.lim a (List.mem_append_right _ z)
theorem ownLs_at {ps : List Addr} {dss : List (List PyData)} (h : OwnLs K G H ps dss) {i : Int} {ds : List PyData} (e : atI dss i = some ds) : ∃ (n : Nat) (p : Addr) (vs : List V), ixN dss.length i = some n ∧ dss[n]? = some ds ∧ ps[n]? = some p ∧ atI (ps.map V.ref) i = some (.ref p) ∧ H p = some (.lst vs) ∧ DpAll K G vs ds := by
  have hl := ownLs_len h
  unfold atI at e
  cases q : ixN dss.length i with
  | none => rw [q] at e; cases e
  | some n =>
    rw [q] at e
    have e : dss[n]? = some ds := e
    obtain ⟨p, vs, a1, a2, a3⟩ := ownLs_get h e
    refine ⟨n, p, vs, rfl, e, a1, ?_, a2, a3⟩
    unfold atI
    rw [List.length_map, hl, q]
    show (ps.map V.ref)[n]? = _
    rw [List.getElem?_map, a1]; rfl
end
section
variable {X : Cx} {a b e : Expr} {ta tb te : TD} {to : TR} {pos cpos apos p p1 p2 : Pos} {x : Str}
/-- whether an owned thing is a list of lists -/
def isLL : Res → Prop
  | .lls _ => True
  | _ => False
theorem isLL_l {dss : List (List PyData)} : isLL (.lls dss) = True := id rfl
/-- xss.append(a new list) -/
def zLLo (j : Nat) (to : TR) : TSd := fun E c => slO c j fun _ R0 => isLL R0 ∧ to c fun R c1 => slO c1 j fun w R0 => asLL R0 fun dss => asR R fun ds => dss.length < sizeLine ∧ E.nx (c1.set j (.o w (.lls (dss ++ [ds]))))
theorem s_llo (j : Nat) (ha : DO X a to)
    (hN : X.N[j]? = some x := by rfl) (hv : Vis X.env.scope x := by first | exact Or.inl rfl | exact Or.inr (Or.inl rfl) | exact Or.inr (Or.inr rfl)) (hd : (x == ("__debug__" : Str)) = false := by decide)
    (hcd : (x == ("__classdict__" : Str)) = false := by decide) (hbase : attributeBase (.Name x p) "append" X.env (eval (.Name x p) X.env) = eval (.Name x p) X.env := by rfl)
    (hfew : ((backTo cpos (starEach [a] X.env)).all (fun x => !x.1) && (backToKw cpos (keywordEach [] X.env)).all (fun x => x.1.isSome)
      && decide ([a].length + ([] : List Keyword).length + (if ([] : List Keyword).isEmpty then 0 else 1) < 30)) = true := by rfl)
    (hline : (apos.endLine == cpos.line) = true := by rfl) (hs : starEach [a] X.env = (false, eval a X.env) :: starEach [] X.env := by rfl) (hplain : (backTo cpos (starEach [] X.env)).any (·.1) = false := by rfl)
    (hsw : swapsWith (.Call (.Attribute (.Name x p) "append" apos) [a] [] cpos) none pos.line X.env = pure false := by rfl) : DS X (.Expr (.Call (.Attribute (.Name x p) "append" apos) [a] [] cpos) pos) (zLLo j to) := by
  obtain ⟨tea, pa, va⟩ := ha.ex
  refine ⟨_, ps_expr (pe_bm F.plainAttrs_list F.slot_list_append F.type_list_append mt_append (pe_var hN hv hd hcd) (pa_cons pa pa_nil hs) hbase hfew hline hs hplain) hsw, fun B c s G H D E st k q => ?_⟩
  obtain ⟨w, R0, e0, hll, q⟩ := slO_of q
  cases R0 with
  | lls dss0 =>
    obtain ⟨v0, A0, g0, ⟨p0, ps0, rfl, rfl, h01, h02⟩, _, _⟩ := st.foc e0
    refine ⟨_, g0, .inl ⟨rfl, _, SqL.of h01⟩, va B c s G H _ _ st q fun v R c1 G1 H1 st1 e1 q1 => ?_⟩
    obtain ⟨w1, R1, e1', q1⟩ := slO_of q1
    obtain ⟨dss, rfl, q1⟩ := asLL_of q1
    obtain ⟨ds, rfl, hl, q1⟩ := asR_of q1
    obtain ⟨v1, A1, At, g1, ⟨p1, ps, rfl, rfl, h1, h2⟩, ⟨q0, vs, rfl, rfl, t1, t2⟩, nd, wr⟩ := st1.foc2 e1'
    rw [g0] at g1
    cases g1
    obtain ⟨n1, n2, n3⟩ := List.nodup_append.mp nd
    obtain ⟨m1, m2⟩ := List.nodup_cons.mp n1
    have lps := ownLs_len h2
    have ne : q0 ≠ p0 := fun z => n3 p0 List.mem_cons_self q0 (by simp) z.symm
    have nq : ∀ a ∈ ps, a ≠ q0 := fun a ha z => n3 a (List.mem_cons_of_mem _ ha) q0 (by simp) z
    have np : ∀ a ∈ ps, a ≠ p0 := fun a ha z => m1 (z ▸ ha)
    refine ⟨p0, ps.map V.ref, .ref q0, rfl, rfl, h1, by rw [List.length_map]; omega, ?_⟩
    refine k.nx _ _ G1 _ (wr _ (.lls (dss ++ [ds])) (p0 :: (ps ++ [q0])) (fun a ha => ?_) (fun a ha => ?_) (fun a ha => ?_) ?_ ?_) e1 q1
    · simp at ha
      rw [upd_ne ha.1]
    · simp at ha
      rcases ha with rfl | z | rfl
      · exact .inl List.mem_cons_self
      · exact .inl (List.mem_cons_of_mem _ z)
      · exact .inr (.inl (by simp))
    · by_cases hp : a = p0
      · rw [hp, upd_same]; exact fun z => nomatch z
      · rw [upd_ne hp]
        simp [hp] at ha
        rcases ha with z | rfl
        · exact ownLs_here h2 a z
        · rw [t1]; exact fun z => nomatch z
    · refine List.nodup_cons.mpr ⟨fun z => ?_, List.nodup_append.mpr ⟨m2, by simp, fun a ha b hb z => ?_⟩⟩
      · rcases List.mem_append.mp z with y | y
        · exact m1 y
        · exact ne (by simpa using y : p0 = q0).symm
      · obtain rfl : b = q0 := by simpa using hb
        exact nq a ha z
    · refine ⟨p0, ps ++ [q0], rfl, rfl, ?_, ownLs_app (ownLs_mono h2 (Same.refl _) fun a ha => upd_ne (np a ha)) (.cons (vs := vs) (by rw [upd_ne ne]; exact t1) t2 .nil)⟩
      rw [upd_same, List.map_append]; rfl
  | lst _ => exact hll.elim
  | lstP _ => exact hll.elim
  | gen _ => exact hll.elim
  | dic _ => exact hll.elim
/-- xss[a][b], a and b told without xss -/
def uLLix (j : Nat) (ta tb : TD) : TD := fun c Q => slO c j fun w R => w = none ∧ asLL R fun dss => ta (c.set j .no) fun y c1 => asI y fun i => ∃ ds, atI dss i = some ds ∧ tb c1 fun z c2 => asI z fun k => atD ds k fun d => Q d (c2.set j (.o none (.lls dss)))
theorem d_llix (j : Nat) {pn ps : Pos} (ha : DE X a ta) (hb : DE X b tb) (hs1 : PlainIx a) (hs2 : PlainIx b)
    (hN : X.N[j]? = some x := by rfl) (hv : Vis X.env.scope x := by first | exact Or.inl rfl | exact Or.inr (Or.inl rfl) | exact Or.inr (Or.inr rfl)) (hd : (x == ("__debug__" : Str)) = false := by decide)
    (hcd : (x == ("__classdict__" : Str)) = false := by decide) : DE X (.Subscript (.Subscript (.Name x pn) a ps) b pos) (uLLix j ta tb) := by
  obtain ⟨tea, pa, va⟩ := ha.ex
  obtain ⟨teb, pb, vb⟩ := hb.ex
  refine ⟨_, pe_ix ix_seq (pe_ix ix_seq (pe_var hN hv hd hcd) pa hs1) pb hs2, fun B c s G H Q R st q k => ?_⟩
  obtain ⟨w, R0, e0, hw, q⟩ := slO_of q
  subst hw
  obtain ⟨dss, rfl, q⟩ := asLL_of q
  obtain ⟨v, g1, stT⟩ := st.take_o e0
  obtain ⟨A1, B', ⟨p, ps, rfl, rfl, h1, h2⟩, stU, back⟩ := stT.underR
  refine ⟨_, g1, va B' _ s G H _ _ stU q fun y0 y c1 G1 H1 st1 e1 d1 q1 => ?_⟩
  obtain ⟨e3, hk1, _⟩ := back _ _ _ _ st1
  have hp1 : H1 p = some (.lst (ps.map V.ref)) := (hk1 p List.mem_cons_self).trans h1
  obtain ⟨i, rfl, ds, ei, q1⟩ := asI_of q1
  obtain ⟨n, p2, vs, f1, f2, f3, f4, f5, f6⟩ := ownLs_at h2 ei
  have hp2 : H1 p2 = some (.lst vs) := (hk1 p2 (List.mem_cons_of_mem _ (List.mem_of_getElem? f3))).trans f5
  refine .inl ⟨p, _, i, .ref p2, rfl, dp_int d1, SqL.of hp1, f4, vb B' c1 s G1 H1 _ _ st1 q1 fun w0 z c2 G2 H2 st2 e2 d2 q2 => ?_⟩
  obtain ⟨e5, hk2, st3⟩ := back _ _ _ _ st2
  obtain ⟨k0, rfl, d, ek, q3⟩ := asI_of q2
  have hp3 : H2 p2 = some (.lst vs) := (hk2 p2 (List.mem_cons_of_mem _ (List.mem_of_getElem? f3))).trans f5
  obtain ⟨u, eu, du⟩ := atI_dp (dpa_mono e5 _ _ f6) ek
  have st4 := st3.set_o j
  rw [set_same g1] at st4
  exact .inl ⟨p2, vs, k0, u, rfl, dp_int d2, SqL.of hp3, eu, k u d _ G2 H2 st4 e5 du q3⟩
/-- xss[a][b] = e, all told without xss -/
def zLLput (j : Nat) (te ta tb : TD) : TSd := fun E c => slO c j fun w R => w = none ∧ asLL R fun dss => te (c.set j .no) fun x c1 => ta c1 fun y c2 => asI y fun i => ∃ n ds, ixN dss.length i = some n ∧ dss[n]? = some ds ∧ tb c2 fun z c3 => asI z fun k => ixP ds.length k fun m => E.nx (c3.set j (.o none (.lls (dss.set n (ds.set m x)))))
theorem s_llput (j : Nat) {pn ps p3 : Pos} (he : DE X e te) (ha : DE X a ta) (hb : DE X b tb) (hs1 : PlainIx a)
    (hN : X.N[j]? = some x := by rfl) (hv : Vis X.env.scope x := by first | exact Or.inl rfl | exact Or.inr (Or.inl rfl) | exact Or.inr (Or.inr rfl)) (hd : (x == ("__debug__" : Str)) = false := by decide)
    (hcd : (x == ("__classdict__" : Str)) = false := by decide)
    (hasg : ∀ v, assign (.Subscript (.Subscript (.Name x pn) a ps) b p3) X.env v = (do
      let ov ← holding [v] (eval (.Subscript (.Name x pn) a ps) X.env)
      let iv ← holding [v, ov] (eval b X.env)
      standAt p3
      holding [v, ov, iv] (setItem ov iv v)
      release [v, ov, iv] []) := by intro _; rfl)
    (hsw : swapsWithSole [.Subscript (.Subscript (.Name x pn) a ps) b p3] e pos.line X.env = pure false := by rfl) (hw : swappedStores [.Subscript (.Subscript (.Name x pn) a ps) b p3] e X.env = pure none := by rfl)
    (h1 : (assignEach [.Subscript (.Subscript (.Name x pn) a ps) b p3] X.env).map (·.2) = [assign (.Subscript (.Subscript (.Name x pn) a ps) b p3) X.env] := by rfl) : DS X (.Assign [.Subscript (.Subscript (.Name x pn) a ps) b p3] e pos) (zLLput j te ta tb) := by
  obtain ⟨tee, pe, ve⟩ := he.ex
  obtain ⟨tea, pa, va⟩ := ha.ex
  obtain ⟨teb, pb, vb⟩ := hb.ex
  refine ⟨_, ps_asg pe (pg_sub (pe_ix ix_seq (pe_var hN hv hd hcd) pa hs1) pb set_list hasg) hsw hw h1, fun B c s G H D E st k q => ?_⟩
  obtain ⟨w, R0, e0, hw, q⟩ := slO_of q
  subst hw
  obtain ⟨dss, rfl, q⟩ := asLL_of q
  obtain ⟨v, g1, stT⟩ := st.take_o e0
  obtain ⟨A1, B', ⟨p, ps, rfl, rfl, h1, h2⟩, stU, back⟩ := stT.underR
  refine ve B' _ s G H _ _ stU q fun x0 xd c1 G1 H1 st1 e1 d1 q1 => ⟨_, g1, va B' c1 s G1 H1 _ _ st1 q1 fun y0 y c2 G2 H2 st2 e2 d2 q2 => ?_⟩
  obtain ⟨e3, hk1, _⟩ := back _ _ _ _ st2
  have hp1 : H2 p = some (.lst (ps.map V.ref)) := (hk1 p List.mem_cons_self).trans h1
  obtain ⟨i, rfl, n, ds, en, edn, q2⟩ := asI_of q2
  have ei : atI dss i = some ds := by unfold atI; rw [en]; exact edn
  obtain ⟨n', p2, vs, f1, f2, f3, f4, f5, f6⟩ := ownLs_at h2 ei
  have enn : n' = n := by rw [en] at f1; exact (Option.some.inj f1).symm
  subst enn
  have hp2 : H2 p2 = some (.lst vs) := (hk1 p2 (List.mem_cons_of_mem _ (List.mem_of_getElem? f3))).trans f5
  refine .inl ⟨p, _, i, .ref p2, rfl, dp_int d2, SqL.of hp1, f4, vb B' c2 s G2 H2 _ _ st2 q2 fun w0 z c3 G3 H3 st3 e4 d3 q3 => ?_⟩
  obtain ⟨e5, hk2, st4⟩ := back _ _ _ _ st3
  obtain ⟨k0, rfl, m, em, q4⟩ := asI_of q3
  have hp3 : H3 p2 = some (.lst vs) := (hk2 p2 (List.mem_cons_of_mem _ (List.mem_of_getElem? f3))).trans f5
  refine ⟨p2, vs, k0, m, rfl, dp_int d3, hp3, by rw [dpa_len f6]; exact em, ?_⟩
  obtain ⟨u, A2, q01, ⟨p', ps', ep, rfl, g2, g3⟩, nd, wr⟩ := st4.foc (j := 0) rfl
  have eu : u = .ref p := by simpa using q01.symm
  rw [eu] at ep
  cases ep
  have hp4 : H3 p = some (.lst (ps.map V.ref)) := (hk2 p List.mem_cons_self).trans h1
  rw [hp4] at g2
  have eps : ps' = ps := by
    have e6 : ps.map V.ref = ps'.map V.ref := by
      have := Option.some.inj g2
      injection this
    exact ((List.map_inj_right (fun x y z => by injection z)).mp e6).symm
  subst eps
  obtain ⟨n1, n2⟩ := List.nodup_cons.mp nd
  have dx : Dp X.K G3 x0 xd := dp_mono (e2.trans e4) _ _ d1
  have st5 := wr (upd H3 p2 (.lst (vs.set m x0))) (.lls (dss.set n' (ds.set m xd))) (p :: ps') (fun a ha => upd_ne fun z => ha (by rw [z]; exact List.mem_cons_of_mem _ (List.mem_of_getElem? f3))) (fun a ha => .inl ha) (fun a ha => ?_) nd (by
    rw [eu]
    refine ⟨p, _, rfl, rfl, ?_, ownLs_set (dpa_set (dpa_mono e5 _ _ f6) dx) g3 n2 f3⟩
    have pm := List.mem_of_getElem? f3
    rw [upd_ne fun z => n1 (by rw [z]; exact pm)]; exact hp4)
  · have st6 : Stt X.K B (.o none (.lls (dss.set n' (ds.set m xd))) :: c3) (some (.ref p) :: s) G3 (upd H3 p2 (.lst (vs.set m x0))) := st5
    have st7 := st6.set_o j
    rw [set_same g1] at st7
    exact k.nx _ _ G3 _ st7 e5 q4
  · by_cases hq : a = p2
    · rw [hq, upd_same]; exact fun z => nomatch z
    · rw [upd_ne hq]
      rcases List.mem_cons.mp ha with rfl | ha
      · rw [hp4]; exact fun z => nomatch z
      · exact ownLs_here g3 a ha

/-! ### a new list so many times -/
def repD (ds : List PyData) (k : Int) : List PyData := (List.replicate k.toNat ds).flatten
def oRep (to : TR) (tb : TD) : TR := fun c Q => to c fun R c1 => asR R fun ds => tb c1 fun y c2 => asI y fun k => -(2 ^ 63) ≤ k ∧ k < 2 ^ 63 ∧ ds.length * k.toNat ≤ sizeLine ∧ Q (.lst (repD ds k)) c2
theorem dpa_flat {K : PySem.W.Frag} {G : Hp} {vs : List V} {ds : List PyData} (h : DpAll K G vs ds) : ∀ n : Nat, DpAll K G (List.replicate n vs).flatten (List.replicate n ds).flatten
  | 0 => .nil
  | n + 1 => by
    rw [List.replicate_succ, List.replicate_succ, List.flatten_cons, List.flatten_cons]
    exact dpa_app h (dpa_flat h n)
theorem o_rep (ha : DO X a to) (hb : DE X b tb) : DO X (.BinOp a .Mult b pos) (oRep to tb) := by
  obtain ⟨tea, pa, va⟩ := ha.ex
  obtain ⟨teb, pb, vb⟩ := hb.ex
  refine ⟨_, pe_op op_rep pa pb, fun B c s G H Q R st q k => va B c s G H _ _ st q fun v Rv c1 G1 H1 st1 e1 q1 => ?_⟩
  obtain ⟨ds, rfl, q1⟩ := asR_of q1
  obtain ⟨A1, B', ⟨p, vs, rfl, rfl, h1, h2⟩, stU, back⟩ := st1.underR
  refine vb B' c1 s G1 H1 _ _ stU q1 fun y0 y c2 G2 H2 st2 e2 d2 q2 => ?_
  obtain ⟨e3, hk, st3⟩ := back _ _ _ _ st2
  obtain ⟨n, rfl, b1, b2, b3, q3⟩ := asI_of q2
  refine ⟨p, n, vs, rfl, dp_int d2, (hk p (by simp)).trans h1, b1, b2, by rw [dpa_len h2]; exact b3, fun l hl => ?_⟩
  exact k _ _ _ _ _ (st3.pop.laidL hl (dpa_flat (dpa_mono e3 _ _ h2) n.toNat)) (e1.trans e3) q3

/-! ### join, sorted of texts, of pairs of numbers -/
def fJoin : PyData → PyData → (PyData → Prop) → Prop := fun x y Q => asS x fun z => asL y fun ds => asSs ds fun ys => (ys.map (·.length)).sum + ys.length * z.length ≤ 16777216 ∧ Q (.str (Txt.join z ys))
def uV2 (f : PyData → PyData → (PyData → Prop) → Prop) (ta tb : TD) : TD := fun c Q => ta c fun x c1 => tb c1 fun y c2 => f x y fun z => Q z c2
theorem d_join (ha : DE X a ta) (hb : DV X b tb) (hstr : ∀ c Q, ta c Q → ta c fun x c1 => isStrD x = true ∧ Q x c1) (hbase : attributeBase a "join" X.env (eval a X.env) = eval a X.env := by rfl)
    (hfew : ((backTo cpos (starEach [b] X.env)).all (fun x => !x.1) && (backToKw cpos (keywordEach [] X.env)).all (fun x => x.1.isSome)
      && decide ([b].length + ([] : List Keyword).length + (if ([] : List Keyword).isEmpty then 0 else 1) < 30)) = true := by rfl)
    (hline : (apos.endLine == cpos.line) = true := by rfl) (hs : starEach [b] X.env = (false, eval b X.env) :: starEach [] X.env := by rfl) (hplain : (backTo cpos (starEach [] X.env)).any (·.1) = false := by rfl) :
    DE X (.Call (.Attribute a "join" apos) [b] [] cpos) (uV2 fJoin ta tb) := by
  obtain ⟨tea, pa, va⟩ := ha.ex
  obtain ⟨teb, pb, vb⟩ := hb.ex
  refine ⟨_, pe_bm F.plainAttrs_str F.slot_str_join F.type_str_join mt_join pa (pa_cons pb pa_nil hs) hbase hfew hline hs hplain, fun B c s G H Q R st q k => ?_⟩
  refine va B c s G H _ _ st (hstr _ _ q) fun v x c1 G1 H1 st1 e1 d1 ⟨hx, q1⟩ => ?_
  cases x with
  | str z =>
    have hv := dp_str d1
    subst hv
    refine ⟨rfl, vb B c1 s G1 H1 _ _ st1 q1 fun w y c2 G2 H2 st2 e2 d2 q2 => ?_⟩
    obtain ⟨ds, rfl, ys, rfl, hl, q3⟩ := asL_of q2
    obtain ⟨p, rfl, hp⟩ := d2.strs st2.sub
    exact ⟨z, p, ys, rfl, rfl, .inl hp, hl, k _ _ c2 G2 H2 st2 (e1.trans e2) (.str _) q3⟩
  | _ => exact absurd hx (by simp [isStrD])
def fSortS : PyData → (Res → Prop) → Prop := fun x Q => asL x fun ds => asSs ds fun ns => ns.length < 64 ∧ ∀ ns' : List Str, ns'.Perm ns → sortedS ns' = true → Q (.lst (ns'.map PyData.str))
theorem o_sortS (hm : X.mg "sorted" = none) (ha : DV X a ta) (hg : Gl X "sorted" := by rfl) (he : starEach [a] X.env = (false, eval a X.env) :: starEach [] X.env := by rfl) (hpl : (backTo pos (starEach [] X.env)).any (·.1) = false := by rfl) : DO X (.Call (.Name "sorted" p) [a] [] pos) (o1 fSortS ta) := by
  refine o_oneB cr_sortedS (fun B c s G H v x Q R st d h k => ?_) hm (by decide +kernel) ha hg (by decide) (by decide) he hpl
  obtain ⟨ds, rfl, ns, rfl, hl, q⟩ := asL_of h
  obtain ⟨p, rfl, hs⟩ := d.strs st.sub
  exact ⟨p, ns, rfl, hs, hl, fun ns' l h1 h2 hn => k _ _ _ _ (st.laidL hn (dpa_strs ns')) (Same.refl _) (q ns' h1 h2)⟩
theorem dpa_perm {K : PySem.W.Frag} {G : Hp} {vs vs' : List V} (h : vs'.Perm vs) : ∀ {ds : List PyData}, DpAll K G vs ds → ∃ ds', ds'.Perm ds ∧ DpAll K G vs' ds' := by
  induction h with
  | nil => intro ds h; exact ⟨ds, List.Perm.refl _, h⟩
  | cons x _ ih =>
    intro ds h
    cases h with
    | cons h1 h2 =>
      obtain ⟨ds', a, b⟩ := ih h2
      exact ⟨_ :: ds', a.cons _, .cons h1 b⟩
  | swap x y l =>
    intro ds h
    cases h with
    | cons h1 h2 =>
      cases h2 with
      | cons h2 h3 => exact ⟨_, List.Perm.swap _ _ _, .cons h2 (.cons h1 h3)⟩
  | trans _ _ ih1 ih2 =>
    intro ds h
    obtain ⟨d1, a1, b1⟩ := ih2 h
    obtain ⟨d2, a2, b2⟩ := ih1 b1
    exact ⟨d2, a2.trans a1, b2⟩
/-- sorted of pairs of numbers: the same, somehow -/
def rSortPD (K : PySem.W.Frag) : List V → Hp → VK → Prop := fun vs H Q => ∃ (a : Addr) (xs : List V), vs = [V.ref a] ∧ SqL K H a xs ∧ (∀ x ∈ xs, ∃ t i j, x = V.ref t ∧ SqT K H t [V.int i, V.int j]) ∧
  ∀ ys p, ys.Perm xs → H p = none → Q (.ref p) (upd H p (.lst ys))
theorem cr_sortPD : CallR X (.builtin "sorted") (rSortPD X.K) := by
  classical
  intro pins s σ H vs us Q I r h
  obtain ⟨a, xs, rfl, hs, hx, q⟩ := h
  let k : V → Int × Int := fun x => if h : ∃ t i j, x = V.ref t ∧ SqT X.K H t [V.int i, V.int j] then (h.choose_spec.choose, h.choose_spec.choose_spec.choose) else (0, 0)
  have hk : ∀ x ∈ xs, ∃ t, x = V.ref t ∧ SqT X.K H t [V.int (k x).1, V.int (k x).2] := fun x m => by
    have h := hx x m
    have e : k x = (h.choose_spec.choose, h.choose_spec.choose_spec.choose) := dif_pos h
    rw [e]
    exact ⟨_, h.choose_spec.choose_spec.choose_spec⟩
  obtain ⟨its, rv, hl, hz⟩ := I.list hs
  obtain ⟨u, rfl, ru⟩ := vals1 r
  obtain rfl : u = Value.ref a := ru
  obtain ⟨e1, e2⟩ := refs_back rv fun x m => by
    obtain ⟨t, e, _⟩ := hk x m
    exact ⟨t, e⟩
  refine SrtO.sorted_pairsO (k := fun u => k (backV u)) hl.isList (by rw [← rv.length]; exact hz) (fun v hv => ?_) fun h' d out h1 h2 kp hd hn => ?_
  · obtain ⟨t, rfl⟩ := e2 v hv
    have hm : V.ref t ∈ xs := by rw [e1]; exact List.mem_map.mpr ⟨_, hv, rfl⟩
    obtain ⟨t', e, ht⟩ := hk _ hm
    cases e
    obtain ⟨its2, r2, ⟨o, ho, hc, n, hd⟩, _⟩ := I.tuple ht
    obtain ⟨u1, u2, rfl, ri, rj⟩ := vals2 r2
    obtain ⟨t1, rfl⟩ := ri
    obtain ⟨t2, rfl⟩ := rj
    exact ⟨t, o, t1, t2, n, rfl, ho, hc, hd⟩
  · have h3 : ∀ u ∈ out, ∃ a, u = Value.ref a := fun u hu => e2 u (h2.perm.mem_iff.mp hu)
    obtain ⟨n, hn⟩ := hn
    have hb : SrtO.Stb (ltP k) (out.map backV) xs := by
      rw [e1]
      exact SrtO.Stb.map (ltP_swo k) backV h2
    refine ⟨.ref d, upd H d (.lst (out.map backV)), I.laid (t' := s.toks) kp hd ⟨?_, out, n, vals_back h3, hn⟩, rfl, q _ d hb.perm (I.hok.fresh hd)⟩
    rw [hb.len]
    exact hz
def fSortP : PyData → (Res → Prop) → Prop := fun x Q => asL x fun ds => (∀ d ∈ ds, ∃ i j : Int, d = .tuple [.int i, .int j]) ∧ ∀ ds' : List PyData, ds'.Perm ds → Q (.lst ds')
theorem o_sortP (hm : X.mg "sorted" = none) (ha : DV X a ta) (hg : Gl X "sorted" := by rfl) (he : starEach [a] X.env = (false, eval a X.env) :: starEach [] X.env := by rfl) (hpl : (backTo pos (starEach [] X.env)).any (·.1) = false := by rfl) : DO X (.Call (.Name "sorted" p) [a] [] pos) (o1 fSortP ta) := by
  refine o_oneB cr_sortPD (fun B0 c s G H v x Q R st d h k => ?_) hm (by decide +kernel) ha hg (by decide) (by decide) he hpl
  obtain ⟨ds, rfl, hp, q⟩ := asL_of h
  obtain ⟨p, vs, rfl, h1, h2⟩ := d.lst st.sub
  refine ⟨p, vs, rfl, h1, fun x hx => ?_, fun ys l h3 hn => ?_⟩
  · obtain ⟨i, hi⟩ := List.getElem?_of_mem hx
    obtain ⟨d, hd, dx⟩ := dpa_getv h2 hi
    obtain ⟨i, j, rfl⟩ := hp d (List.mem_of_getElem? hd)
    obtain ⟨t, us, rfl, g1, g2⟩ := dp_tup dx
    have : us = [i, j].map V.int := dpa_ints_inv (ns := [i, j]) g2
    subst this
    exact ⟨t, i, j, rfl, same_t st.sub g1⟩
  · obtain ⟨ds', a1, a2⟩ := dpa_perm h3 h2
    exact k _ _ _ _ (st.laidL hn a2) (Same.refl _) (q ds' a1)
/-- [] that is to hold lists -/
def oLLe : TR := fun c Q => Q (.lls []) c
theorem o_lle : DO X (.List [] pos) oLLe := by
  refine ⟨_, pe_lst pa_nil, fun B c s G H Q R st q k => ?_⟩
  refine ⟨Nat.zero_le _, fun q1 h1 => ?_⟩
  refine k _ (.lls []) c G _ (st.laidR (A1 := [q1]) (fun a ha => ?_) (fun a ha => ?_) (fun a ha => ?_) (by simp) ?_) (Same.refl _) q
  · simp at ha
    rw [upd_ne ha]
  · simp at ha
    subst ha
    exact h1
  · simp at ha
    subst ha
    rw [upd_same]; exact fun z => nomatch z
  · exact ⟨q1, [], rfl, rfl, upd_same, .nil⟩
end
end Dl

/-! Words, layers, bores: what the laws' drawn things are. -/
namespace Dl
open PySem PySem.Spec PyProof.Rows L2

/-! ### things lent and not changed -/
/-- a slot where a list is seen: data, or lent -/
def Lk (X : S) (ds : List PyData) : Prop := X = .d (.list ds) ∨ ∃ u, X = .o (some u) (.lst ds)
def pat1 : S → Option (Lt × Res)
  | .o (some u) R => some (u, R)
  | _ => none
theorem pat1_o {u : Lt} {R : Res} : pat1 (.o (some u) R) = some (u, R) := rfl
theorem pat1_d {x : PyData} : pat1 (.d x) = none := rfl
theorem lk_d {ds : List PyData} {ds' : List PyData} : Lk (.d (.list ds)) ds' ↔ ds' = ds := ⟨fun h => by rcases h with h | ⟨u, h⟩ <;> cases h; rfl, fun h => by subst h; exact .inl rfl⟩
theorem lk_o {u : Lt} {ds : List PyData} {ds' : List PyData} : Lk (.o (some u) (.lst ds)) ds' ↔ ds' = ds := ⟨fun h => by rcases h with h | ⟨u, h⟩ <;> cases h; rfl, fun h => by subst h; exact .inr ⟨u, rfl⟩⟩
theorem lk_facts {X : S} {ds : List PyData} (h : Lk X ds) : (∀ (c : Ctx) (P : PyData → Prop), slW (X :: c) 0 P = P (.list ds)) ∧ ∀ c : Ctx, hasS (X :: c) 0 = True := by
  rcases h with rfl | ⟨u, rfl⟩ <;> exact ⟨fun _ _ => rfl, fun _ => rfl⟩
/-- the pattern at a def's end -/
theorem pat_of {ls : List (Option (Lt × Res))} {c' : Ctx} (hl : ls.length ≤ c'.length) (h : ∀ (i : Nat) (u : Lt) (R : Res), ls[i]? = some (some (u, R)) → c'[i]? = some (.o (some u) R)) : Pat ls c' := ⟨hl, h⟩
theorem pat_nil {c' : Ctx} : Pat [] c' := ⟨Nat.zero_le _, by simp⟩
theorem pat_cons {X : S} {ls : List (Option (Lt × Res))} {c' : Ctx} (h : Pat ls c') : Pat (pat1 X :: ls) (X :: c') := ⟨by have := h.1; simpa using this, fun i u R e => by
  cases i with
  | zero =>
    have e' : pat1 X = some (u, R) := by simpa using e
    cases X with
    | o w R' =>
      cases w with
      | none => cases e'
      | some w => cases e'; rfl
    | _ => cases e'
  | succ i => simpa using h.2 i u R (by simpa using e)⟩
theorem pat_consN {X : S} {ls : List (Option (Lt × Res))} {c' : Ctx} (h : Pat ls c') : Pat (none :: ls) (X :: c') := ⟨by have := h.1; simpa using this, fun i u R e => by
  cases i with
  | zero => simp at e
  | succ i => simpa using h.2 i u R (by simpa using e)⟩
theorem pat_consO {u : Lt} {R : Res} {ls : List (Option (Lt × Res))} {c' : Ctx} (h : Pat ls c') : Pat (some (u, R) :: ls) (.o (some u) R :: c') := pat_cons (X := .o (some u) R) h

/-! ### words -/
def chOk (n : Nat) : Bool := decide (97 ≤ n) && decide (n ≤ 122)
def WordOk (w : Str) : Prop := 1 ≤ w.cps.size ∧ w.cps.size ≤ 8 ∧ w.cps.toList.all chOk = true
theorem word_len {w : Str} (h : WordOk w) : w.length ≤ 8 := h.2.1
theorem strOk_of {w : Str} (h : w.cps.toList.all chOk = true) : PyData.strOk w = true := by
  rw [List.all_eq_true] at h
  unfold PyData.strOk
  rw [Array.all_eq_true_iff_forall_mem]
  intro n hn
  have := h n (Array.mem_toList_iff.mpr hn)
  unfold chOk at this
  rw [Bool.and_eq_true, decide_eq_true_eq, decide_eq_true_eq] at this
  exact decide_eq_true (by omega)
theorem word_ok {w : Str} (h : WordOk w) : PyData.strOk w = true := strOk_of h.2.2
theorem sh_ints {xs : List PyData} (h : ∀ x ∈ xs, Sh 63 x) : Sh 64 (.list xs) := sh_list.mpr h
theorem sh_strs {ws : List Str} (h : ∀ w ∈ ws, PyData.strOk w = true) : Sh 64 (.list (ws.map PyData.str)) := sh_list.mpr fun d hd => by
  obtain ⟨w, hw, rfl⟩ := List.mem_map.mp hd
  exact sh_str.mpr (h w hw)
theorem any_str {ws : List Str} {w : Str} : ((ws.map PyData.str).any fun z => PyData.eqv z (.str w)) = decide (w ∈ ws) := by
  induction ws with
  | nil => simp
  | cons a ws ih =>
    rw [List.map_cons, List.any_cons, ih, eqv_str]
    by_cases h : a = w
    · subst h; simp
    · have h' : w ≠ a := fun z => h z.symm
      rw [beq_eq_false_iff_ne.mpr h, Bool.false_or]
      simp [h']
theorem any_int {ns : List Int} {w : Int} : ((ns.map PyData.int).any fun z => PyData.eqv z (.int w)) = decide (w ∈ ns) := by
  induction ns with
  | nil => simp
  | cons a ws ih =>
    rw [List.map_cons, List.any_cons, ih, eqv_int]
    by_cases h : a = w
    · subst h; simp
    · have h' : w ≠ a := fun z => h z.symm
      rw [beq_eq_false_iff_ne.mpr h, Bool.false_or]
      simp [h']
theorem str_inj {ws ws' : List Str} (h : ws.map PyData.str = ws'.map PyData.str) : ws = ws' := (List.map_inj_right (fun x y z => by injection z)).mp h
theorem int_inj {ws ws' : List Int} (h : ws.map PyData.int = ws'.map PyData.int) : ws = ws' := (List.map_inj_right (fun x y z => by injection z)).mp h
theorem insD_map {α : Type} (f : α → PyData) (ws : List α) (n : Nat) (w : α) : insD (ws.map f) n (f w) = (ws.take n ++ [w] ++ ws.drop n).map f := by
  unfold insD
  rw [List.map_append, List.map_append, List.map_take, List.map_drop]; rfl
theorem mem_ins {α : Type} {ws : List α} {n : Nat} {w x : α} : x ∈ ws.take n ++ [w] ++ ws.drop n ↔ x = w ∨ x ∈ ws := by
  have : x ∈ ws ↔ x ∈ ws.take n ∨ x ∈ ws.drop n := by
    conv => lhs; rw [← List.take_append_drop n ws]
    exact List.mem_append
  rw [this, List.mem_append, List.mem_append, List.mem_singleton]
  constructor
  · rintro ((h | h) | h)
    · exact .inr (.inl h)
    · exact .inl h
    · exact .inr (.inr h)
  · rintro (h | h | h)
    · exact .inl (.inr h)
    · exact .inl (.inl h)
    · exact .inr h
theorem len_ins {α : Type} {ws : List α} {n : Nat} {w : α} : (ws.take n ++ [w] ++ ws.drop n).length = ws.length + 1 := by
  rw [List.length_append, List.length_append, List.length_take, List.length_drop, List.length_singleton]
  omega
theorem perm_ins {α : Type} {ws : List α} {n : Nat} {w : α} : (ws.take n ++ [w] ++ ws.drop n).Perm (w :: ws) := by
  have h1 : (ws.take n ++ [w] ++ ws.drop n).Perm (([w] ++ ws.take n) ++ ws.drop n) := (List.perm_append_comm).append_right _
  have e : ([w] ++ ws.take n) ++ ws.drop n = w :: ws := by
    rw [List.append_assoc, List.take_append_drop]; rfl
  rw [e] at h1
  exact h1
theorem nodup_ins {α : Type} {ws : List α} {n : Nat} {w : α} (h : ws.Nodup) (hw : w ∉ ws) : (ws.take n ++ [w] ++ ws.drop n).Nodup := perm_ins.nodup_iff.mpr (List.nodup_cons.mpr ⟨hw, h⟩)
/-- a word longer by one letter; a word's begin -/
theorem cut_word {w : Str} (h : WordOk w) (k : Nat) (hk : 1 ≤ k) : WordOk (cutS w none (some (k : Int))) := by
  obtain ⟨h1, h2, h3⟩ := h
  have e1 : HT.sIx w.length 0 none = 0 := rfl
  have e2 : HT.sIx w.length w.length (some (k : Int)) = min k w.length := by
    unfold HT.sIx
    simp
    omega
  have hs : 1 ≤ w.length := h1
  unfold cutS
  rw [e1, e2]
  refine ⟨?_, ?_, ?_⟩
  · simp [Str.length] at hs ⊢; omega
  · simp [Str.length] at h2 ⊢; omega
  · rw [List.all_eq_true] at h3 ⊢
    intro n hn
    simp at hn
    exact h3 n (List.mem_of_mem_take hn)

theorem cut_few (w : Str) (k : Nat) : (cutS w none (some (k : Int))).cps.size ≤ k := by
  have e1 : HT.sIx w.length 0 none = 0 := rfl
  have e2 : HT.sIx w.length w.length (some (k : Int)) = min k w.length := by
    unfold HT.sIx
    simp
    omega
  unfold cutS
  rw [e1, e2]
  simp; omega

theorem atD_mem {ds : List PyData} {k : Int} {Q : PyData → Prop} (h0 : 0 ≤ k) (h1 : k < ds.length) (h : ∀ d ∈ ds, Q d) : atD ds k Q := by
  have hk : k.toNat < ds.length := by omega
  exact ⟨ds[k.toNat], by rw [atI_of h0 h1, List.getElem?_eq_getElem hk], h _ (List.getElem_mem _)⟩
theorem atD_get {ns : List Str} {i : Nat} {Q : PyData → Prop} (hi : i < ns.length) (h : ∀ z, ns[i]? = some z → Q (.str z)) : atD (ns.map PyData.str) (0 + (i : Int)) Q := by
  rw [Int.zero_add]
  exact ⟨.str ns[i], atI_nat (by rw [List.getElem?_map, List.getElem?_eq_getElem hi]; rfl), h _ (List.getElem?_eq_getElem hi)⟩
theorem nodup_len {α : Type} [DecidableEq α] : ∀ {l m : List α}, l.Nodup → (∀ x ∈ l, x ∈ m) → l.length ≤ m.length
  | [], m, _, _ => Nat.zero_le _
  | a :: l, m, nd, h => by
    obtain ⟨n1, n2⟩ := List.nodup_cons.mp nd
    have ha := h a List.mem_cons_self
    have h2 : l.length ≤ (m.erase a).length := nodup_len n2 fun x hx => (List.mem_erase_of_ne fun z => n1 (by rw [← z]; exact hx)).mpr (h x (List.mem_cons_of_mem _ hx))
    rw [List.length_erase_of_mem ha] at h2
    have := List.length_pos_of_mem ha
    rw [List.length_cons]
    omega

/-! ### numbers drawn -/
/-- 10 ** 59 -/
def big : Int := 10 ^ 59
theorem big_bd : Bd 197 big := by decide
theorem big_pos : 0 < big := by decide
theorem le_big {r : Int} {n : Nat} (h0 : 0 ≤ r) (h : r ≤ big) (hn : 197 ≤ n := by decide) : Bd n r := by
  refine Bd.mono (n := 197) ?_ hn
  have := big_bd
  unfold Bd at *
  omega

/-! ### layers, bores -/
def lyD (l : Str × Int) : PyData := .tuple [.str l.1, .int l.2]
def blD (k : List (Str × Int)) : PyData := .tuple (k.map lyD)
structure Bo where
  nm : Str
  at_ : Int
  top : Int
  bl : List (List (Str × Int))
def boD (b : Bo) : PyData := .tuple [.str b.nm, .int b.at_, .int b.top, .tuple (b.bl.map blD)]
def Bo.lays (b : Bo) : List (Str × Int) := b.bl.flatten
/-- blocks of layers with marks of ms -/
structure BlOk (ms : List Str) (bl : List (List (Str × Int))) : Prop where
  ne : bl ≠ []
  each : ∀ k ∈ bl, k ≠ []
  few : bl.flatten.length ≤ 6
  some_ : 1 ≤ bl.flatten.length
  ly : ∀ l ∈ bl.flatten, l.1 ∈ ms ∧ 1 ≤ l.2 ∧ l.2 ≤ big
structure BoOk (ms : List Str) (b : Bo) : Prop where
  bl : BlOk ms b.bl
  at0 : 0 ≤ b.at_
  atB : b.at_ ≤ 100 * big
  top0 : 0 ≤ b.top
  topB : b.top ≤ big
/-- bores of these names -/
structure BosOk (ns ms : List Str) (bs : List Bo) : Prop where
  nm : (bs.map Bo.nm).Perm ns
  each : ∀ b ∈ bs, BoOk ms b
  far : (bs.map Bo.at_).Nodup
theorem boD_inj {b b' : Bo} (h : boD b = boD b') : b.lays = b'.lays := by
  unfold boD at h
  injection h with h
  have h4 : PyData.tuple (b.bl.map blD) = PyData.tuple (b'.bl.map blD) := by
    have := congrArg (fun l : List PyData => l[3]?) h
    simpa using this
  injection h4 with h4
  have e : ∀ {x y : List (Str × Int)}, blD x = blD y → x = y := fun {x y} z => by
    unfold blD at z
    injection z with z
    refine (List.map_inj_right (fun p q w => ?_)).mp z
    unfold lyD at w
    injection w with w
    have w1 := congrArg (fun l : List PyData => l[0]?) w
    have w2 := congrArg (fun l : List PyData => l[1]?) w
    simp at w1 w2
    exact Prod.ext w1 w2
  have := (List.map_inj_right (fun p q w => e w)).mp h4
  unfold Bo.lays
  rw [this]
/-- a pair of layers -/
def ppD (p : Nat × Nat) : PyData := .tuple [.int p.1, .int p.2]
theorem ppD_inj {p q : Nat × Nat} (h : ppD p = ppD q) : p = q := by
  unfold ppD at h
  injection h with h
  have w1 := congrArg (fun l : List PyData => l[0]?) h
  have w2 := congrArg (fun l : List PyData => l[1]?) h
  simp at w1 w2
  exact Prod.ext (Int.ofNat.inj w1) (Int.ofNat.inj w2)
theorem pps_inj {p q : List (Nat × Nat)} (h : p.map ppD = q.map ppD) : p = q := (List.map_inj_right (fun x y z => ppD_inj z)).mp h
/-- a sheet -/
def onD : Option Nat → PyData
  | none => .none
  | some k => .int k
def shD (s : Option Nat × Option Nat) : PyData := .tuple [onD s.1, onD s.2]
/-- the sheets: i, j what is passed -/
def shN (n m : Nat) : Nat → Nat → List (Nat × Nat) → List (Option Nat × Option Nat)
  | i, j, [] => (List.range (n - i)).map (fun k => (some (i + k), none)) ++ (List.range (m - j)).map (fun k => (none, some (j + k)))
  | i, j, (a, b) :: ps => (List.range (a - i)).map (fun k => (some (i + k), none)) ++ (List.range (b - j)).map (fun k => (none, some (j + k))) ++ [(some a, some b)] ++ shN n m (a + 1) (b + 1) ps
/-- pairs, both numbers rising, from i and j on -/
def PpOk (n m : Nat) : Nat → Nat → List (Nat × Nat) → Prop
  | _, _, [] => True
  | i, j, (a, b) :: ps => i ≤ a ∧ j ≤ b ∧ a < n ∧ b < m ∧ PpOk n m (a + 1) (b + 1) ps
/-- two bores, pairs of their layers, a place -/
structure TwoOk (l r : Bo) (ps : List (Nat × Nat)) (pl : Int) : Prop where
  okL : ∃ ms, BoOk ms l
  okR : ∃ ms, BoOk ms r
  lt : l.at_ < r.at_
  pp : PpOk l.lays.length r.lays.length 0 0 ps
  few : ps.length ≤ 6
  lo : l.at_ ≤ pl
  hi : pl ≤ r.at_
section
variable {b : Bo} {Q : PyData → Prop}
theorem ixbo_0 : ixD (boD b) 0 Q = Q (.str b.nm) := by unfold boD; rw [ixD_t, atD_0]
theorem ixbo_1 : ixD (boD b) 1 Q = Q (.int b.at_) := by unfold boD; rw [ixD_t, atD_1]
theorem ixbo_2 : ixD (boD b) 2 Q = Q (.int b.top) := by unfold boD; rw [ixD_t, atD_2]
theorem ixbo_3 : ixD (boD b) 3 Q = Q (.tuple (b.bl.map blD)) := by unfold boD; rw [ixD_t, atD_3]
end

/-! ### what is told by data is told by what it is of -/
theorem map_iff {α : Type} {f : α → PyData} (hf : ∀ x y, f x = f y → x = y) {xs ys : List α} : (xs.map f = ys.map f) = (xs = ys) := propext ⟨(List.map_inj_right (fun {x y} z => hf x y z)).mp, congrArg _⟩
theorem strs_iff {xs ys : List Str} : (xs.map PyData.str = ys.map PyData.str) = (xs = ys) := map_iff fun x y z => by injection z
theorem ints_iff {xs ys : List Int} : (xs.map PyData.int = ys.map PyData.int) = (xs = ys) := map_iff fun x y z => by injection z
theorem lyD_in {x y : Str × Int} (h : lyD x = lyD y) : x = y := by
  obtain ⟨x1, x2⟩ := x
  obtain ⟨y1, y2⟩ := y
  simpa [lyD] using h
theorem lys_iff {xs ys : List (Str × Int)} : (xs.map lyD = ys.map lyD) = (xs = ys) := map_iff fun _ _ => lyD_in
theorem blD_in {x y : List (Str × Int)} (h : blD x = blD y) : x = y := by
  unfold blD at h
  injection h with h
  rwa [lys_iff] at h
theorem bls_iff {xs ys : List (List (Str × Int))} : (xs.map blD = ys.map blD) = (xs = ys) := map_iff fun _ _ => blD_in
theorem boD_iff {b b' : Bo} : (boD b = boD b') = (b = b') := propext ⟨fun h => by
  obtain ⟨n, p, t, l⟩ := b
  obtain ⟨n', p', t', l'⟩ := b'
  simp only [boD, PyData.tuple.injEq, List.cons.injEq, PyData.str.injEq, PyData.int.injEq, and_true] at h
  obtain ⟨rfl, rfl, rfl, h⟩ := h
  rw [bls_iff] at h
  rw [h], congrArg _⟩
theorem bos_iff {xs ys : List Bo} : (xs.map boD = ys.map boD) = (xs = ys) := map_iff fun x y z => by rwa [boD_iff] at z
theorem pps_iff {p q : List (Nat × Nat)} : (p.map ppD = q.map ppD) = (p = q) := map_iff fun _ _ => ppD_inj
theorem onD_in {x y : Option Nat} (h : onD x = onD y) : x = y := by
  cases x <;> cases y <;> simp [onD] at h ⊢ <;> omega
theorem onD_iff {x y : Option Nat} : (onD x = onD y) = (x = y) := propext ⟨onD_in, congrArg _⟩
theorem shD_in {x y : Option Nat × Option Nat} (h : shD x = shD y) : x = y := by
  simp only [shD, PyData.tuple.injEq, List.cons.injEq, and_true] at h
  exact Prod.ext (onD_in h.1) (onD_in h.2)
theorem shs_iff {p q : List (Option Nat × Option Nat)} : (p.map shD = q.map shD) = (p = q) := map_iff fun _ _ => shD_in

/-! ### items of a list that is told by another one -/
theorem map_get {α β : Type} {f : α → β} {xs : List α} {i : Nat} {y : β} (h : (xs.map f)[i]? = some y) : ∃ x, xs[i]? = some x ∧ f x = y := by
  rw [List.getElem?_map] at h
  cases e : xs[i]? with
  | none => rw [e] at h; cases h
  | some x => rw [e] at h; exact ⟨x, rfl, Option.some.inj h⟩
theorem take_map {α β : Type} {f : α → β} {xs : List α} {i : Nat} {x : α} (h : xs[i]? = some x) : (xs.take (i + 1)).map f = (xs.take i).map f ++ [f x] := by
  rw [List.take_add_one, h, List.map_append]; rfl
theorem drop_get {α : Type} {xs : List α} {i : Nat} {x : α} (h : xs[i]? = some x) : xs.drop i = x :: xs.drop (i + 1) := by
  obtain ⟨hi, e⟩ := List.getElem?_eq_some_iff.mp h
  rw [List.drop_eq_getElem_cons hi, e]
theorem get_lt {α : Type} {xs : List α} {i : Nat} {x : α} (h : xs[i]? = some x) : i < xs.length := (List.getElem?_eq_some_iff.mp h).1
theorem get_mem {α : Type} {xs : List α} {i : Nat} {x : α} (h : xs[i]? = some x) : x ∈ xs := List.mem_of_getElem? h
/-- an item by its place -/
theorem atD_nat {ds : List PyData} {i : Nat} {d : PyData} {Q : PyData → Prop} (h : ds[i]? = some d) (q : Q d) : atD ds (i : Int) Q := ⟨d, atI_nat h, q⟩
theorem atD_nat0 {ds : List PyData} {i : Nat} {d : PyData} {Q : PyData → Prop} (h : ds[i]? = some d) (q : Q d) : atD ds (0 + (i : Int)) Q := by
  rw [Int.zero_add]; exact atD_nat h q
theorem atD_map {α : Type} {f : α → PyData} {xs : List α} {i : Nat} {x : α} {Q : PyData → Prop} (h : xs[i]? = some x) (q : Q (f x)) : atD (xs.map f) (i : Int) Q := atD_nat (by rw [List.getElem?_map, h]; rfl) q
theorem atD_map0 {α : Type} {f : α → PyData} {xs : List α} {i : Nat} {x : α} {Q : PyData → Prop} (h : xs[i]? = some x) (q : Q (f x)) : atD (xs.map f) (0 + (i : Int)) Q := by
  rw [Int.zero_add]; exact atD_map h q
/-- slices by natural numbers -/
theorem sIx_nat (n d k : Nat) : HT.sIx n d (some (k : Int)) = min k n := by
  unfold HT.sIx
  simp
  omega
theorem cutL_nat {α : Type} (xs : List α) (i p : Nat) : cutL xs (some (i : Int)) (some (p : Int)) = (xs.drop i).take (p - i) := by
  unfold cutL
  rw [sIx_nat, sIx_nat]
  rcases Nat.le_total i xs.length with h | h
  · rw [Nat.min_eq_left h]
    rcases Nat.le_total p xs.length with g | g
    · rw [Nat.min_eq_left g]
    · rw [Nat.min_eq_right g, List.take_of_length_le (by rw [List.length_drop]; omega), List.take_of_length_le (by rw [List.length_drop]; omega)]
  · rw [Nat.min_eq_right h, List.drop_length, List.drop_eq_nil_of_le h]; simp
theorem cutL_seg {α β : Type} (f : α → β) (g : Nat → β) (xs : List α) {i p : Nat} (h : p ≤ xs.length) (hg : ∀ k x, xs[k]? = some x → f x = g k) : ((xs.drop i).take (p - i)).map f = (List.range (p - i)).map fun k => g (i + k) := by
  apply List.ext_getElem?
  intro k
  rw [List.getElem?_map, List.getElem?_map]
  by_cases hk : k < p - i
  · rw [List.getElem?_take_of_lt hk, List.getElem?_drop, List.getElem?_range hk, List.getElem?_eq_getElem (show i + k < xs.length by omega)]
    exact congrArg some (hg (i + k) _ (List.getElem?_eq_getElem _))
  · rw [List.getElem?_eq_none (by rw [List.length_take]; omega), List.getElem?_eq_none (by rw [List.length_range]; omega)]
    rfl

/-! ### comprehensions over a list that is told by another one -/
theorem comp_fmm {α : Type} {g : α → PyData} {xs : List α} {vs : List Nat} {tg : TGd} {tt : TB} {te : TD} {c1 : Ctx} {Q : List PyData → Ctx → Prop} (p : α → Bool) (f : α → PyData) (hl : xs.length ≤ sizeLine)
    (h : ∀ x ∈ xs, ∀ (N : PyData → Ctx → Prop) (M : Ctx → Prop), (p x = true → ∀ c, clr vs c = clr vs c1 → N (f x) c) → (p x = false → ∀ c, clr vs c = clr vs c1 → M c) → tg (g x) (clr vs c1) fun c2 => tt c2 fun b c3 => if b = true then te c3 N else M c3)
    (q : Q ((xs.filter p).map f) (Dl.rest c1 vs (clr2 vs (clr vs c1)))) : zComp vs tg tt te (xs.map g) c1 Q := by
  refine comp_by (fun i acc c => c = clr vs c1 ∧ acc = ((xs.take i).filter p).map f) ⟨rfl, by simp⟩ (fun i y acc c N M hy hI hN hM => ?_) fun acc c hI => ?_
  · obtain ⟨rfl, rfl⟩ := hI
    obtain ⟨x, hx, rfl⟩ := map_get hy
    have hi : i < xs.length := get_lt hx
    have e : xs.take (i + 1) = xs.take i ++ [x] := by rw [List.take_add_one, hx]; rfl
    have hacc : (((xs.take i).filter p).map f).length < sizeLine := by
      have h1 := List.length_filter_le p (xs.take i)
      rw [List.length_take] at h1
      rw [List.length_map]
      omega
    refine h x (get_mem hx) N M (fun hp c hc => hN _ c hacc ⟨hc, ?_⟩) fun hp c hc => hM c ⟨hc, ?_⟩
    · rw [e, List.filter_append, List.map_append, List.filter_cons_of_pos hp, List.filter_nil]; rfl
    · rw [e, List.filter_append, List.map_append, List.filter_cons_of_neg (by rw [hp]; exact Bool.false_ne_true), List.filter_nil]; simp
  · obtain ⟨rfl, rfl⟩ := hI
    rw [List.length_map, List.take_length]
    exact q
theorem comp_mm {α : Type} {g : α → PyData} {xs : List α} {vs : List Nat} {tg : TGd} {te : TD} {c1 : Ctx} {Q : List PyData → Ctx → Prop} (f : α → PyData) (hl : xs.length ≤ sizeLine)
    (h : ∀ x ∈ xs, ∀ (N : PyData → Ctx → Prop), (∀ c, clr vs c = clr vs c1 → N (f x) c) → tg (g x) (clr vs c1) fun c2 => te c2 N)
    (q : Q (xs.map f) (Dl.rest c1 vs (clr2 vs (clr vs c1)))) : zComp vs tg bYes te (xs.map g) c1 Q := by
  refine comp_fmm (fun _ => true) f hl (fun y hy N M hN _ => ?_) ?_
  · have := h y hy N (hN rfl)
    exact this
  · rw [List.filter_eq_self.mpr fun _ _ => rfl]
    exact q

/-- a state that does not change, what is to be reached a letter -/
theorem loop_s {tg : TGd} {tb : TSd} {E : De} {ys : List PyData} {c : Ctx} (I : Ctx → Prop) (h0 : I c)
    (turn : ∀ y c (N : Ctx → Prop), y ∈ ys → I c → (∀ c, I c → N c) → tg y c fun c2 => tb { E with nx := N, ct := N, bk := E.nx } c2) (fin : ∀ c, I c → E.nx c) : zLoop tg tb E ys c :=
  loop_by (fun _ => I) h0 (fun i y c N hy hI hN => turn y c N (List.mem_of_getElem? hy) hI hN) fin

/-! ### == of data without truths -/
mutual
def nb : PyData → Bool
  | .none => true
  | .int _ => true
  | .str _ => true
  | .list ds => nbAll ds
  | .tuple ds => nbAll ds
  | .bool _ => false
  | .dict _ => false
def nbAll : List PyData → Bool
  | [] => true
  | x :: xs => nb x && nbAll xs
end
theorem nbAll_iff : ∀ {ds : List PyData}, nbAll ds = true ↔ ∀ d ∈ ds, nb d = true
  | [] => by simp [nbAll]
  | x :: xs => by
    rw [nbAll, Bool.and_eq_true, nbAll_iff]
    simp
theorem nb_list {ds : List PyData} : nb (.list ds) = true ↔ ∀ d ∈ ds, nb d = true := by rw [nb, nbAll_iff]
theorem nb_tuple {ds : List PyData} : nb (.tuple ds) = true ↔ ∀ d ∈ ds, nb d = true := by rw [nb, nbAll_iff]
theorem nb_int {i : Int} : nb (.int i) = true := rfl
theorem nb_str {i : Str} : nb (.str i) = true := rfl
theorem nb_none : nb .none = true := rfl
mutual
theorem eqv_iff : ∀ (x y : PyData), nb x = true → nb y = true → (PyData.eqv x y = true ↔ x = y)
  | .none, y, _, hy => by cases y <;> simp [PyData.eqv]
  | .int i, y, _, hy => by cases y <;> simp [PyData.eqv] <;> simp [nb] at hy
  | .str i, y, _, hy => by cases y <;> simp [PyData.eqv]
  | .list xs, y, hx, hy => by
    cases y with
    | list ys => rw [eqv_list, eqvAll_iff xs ys hx hy]; simp
    | _ => simp [PyData.eqv]
  | .tuple xs, y, hx, hy => by
    cases y with
    | tuple ys => rw [eqv_tuple, eqvAll_iff xs ys hx hy]; simp
    | _ => simp [PyData.eqv]
  | .bool _, _, hx, _ => by simp [nb] at hx
  | .dict _, _, hx, _ => by simp [nb] at hx
theorem eqvAll_iff : ∀ (xs ys : List PyData), nbAll xs = true → nbAll ys = true → (PyData.eqvAll xs ys = true ↔ xs = ys)
  | [], ys, _, hy => by cases ys <;> simp [PyData.eqvAll]
  | x :: xs, ys, hx, hy => by
    cases ys with
    | nil => simp [PyData.eqvAll]
    | cons y ys =>
      rw [nbAll, Bool.and_eq_true] at hx hy
      rw [eqvAll_cons, Bool.and_eq_true, eqv_iff x y hx.1 hy.1, eqvAll_iff xs ys hx.2 hy.2]
      simp
end
noncomputable instance decPD : DecidableEq PyData := fun a b => Classical.propDecidable (a = b)
theorem eqv_dec {x y : PyData} (hx : nb x = true) (hy : nb y = true) : PyData.eqv x y = decide (x = y) := by
  rw [Bool.eq_iff_iff, eqv_iff x y hx hy, decide_eq_true_eq]
theorem eqvAll_dec {x y : List PyData} (hx : nbAll x = true) (hy : nbAll y = true) : PyData.eqvAll x y = decide (x = y) := by
  rw [Bool.eq_iff_iff, eqvAll_iff x y hx hy, decide_eq_true_eq]
/-- data laid out, told apart, both at once: plain data, at most n deep -/
def Pl (n : Nat) (d : PyData) : Prop := Sh n d ∧ nb d = true
theorem pl_int {n : Nat} {i : Int} : Pl n (.int i) := ⟨sh_int.mpr trivial, rfl⟩
theorem pl_none {n : Nat} : Pl n .none := ⟨sh_non.mpr trivial, rfl⟩
theorem pl_str {n : Nat} {w : Str} (h : PyData.strOk w = true) : Pl n (.str w) := ⟨sh_str.mpr h, rfl⟩
theorem pl_list {n : Nat} {ds : List PyData} (h : ∀ d ∈ ds, Pl n d) : Pl (n + 1) (.list ds) := ⟨sh_list.mpr fun d hd => (h d hd).1, nb_list.mpr fun d hd => (h d hd).2⟩
theorem pl_tuple {n : Nat} {ds : List PyData} (h : ∀ d ∈ ds, Pl n d) : Pl (n + 1) (.tuple ds) := ⟨sh_tuple.mpr fun d hd => (h d hd).1, nb_tuple.mpr fun d hd => (h d hd).2⟩
theorem pl_map {α : Type} {f : α → PyData} {n : Nat} {xs : List α} (h : ∀ x ∈ xs, Pl n (f x)) : Pl (n + 1) (.list (xs.map f)) := pl_list fun d hd => by
  obtain ⟨x, hx, rfl⟩ := List.mem_map.mp hd
  exact h x hx
theorem pl_mapT {α : Type} {f : α → PyData} {n : Nat} {xs : List α} (h : ∀ x ∈ xs, Pl n (f x)) : Pl (n + 1) (.tuple (xs.map f)) := pl_tuple fun d hd => by
  obtain ⟨x, hx, rfl⟩ := List.mem_map.mp hd
  exact h x hx
theorem pl_t1 {n : Nat} {x : PyData} (h1 : Pl n x) : Pl (n + 1) (.tuple [x]) := pl_tuple fun d hd => by
  simp at hd; subst hd; exact h1
theorem pl_t2 {n : Nat} {x y : PyData} (h1 : Pl n x) (h2 : Pl n y) : Pl (n + 1) (.tuple [x, y]) := pl_tuple fun d hd => by
  simp at hd; rcases hd with rfl | rfl <;> assumption
theorem pl_t3 {n : Nat} {x y z : PyData} (h1 : Pl n x) (h2 : Pl n y) (h3 : Pl n z) : Pl (n + 1) (.tuple [x, y, z]) := pl_tuple fun d hd => by
  simp at hd; rcases hd with rfl | rfl | rfl <;> assumption
theorem pl_t4 {n : Nat} {x y z u : PyData} (h1 : Pl n x) (h2 : Pl n y) (h3 : Pl n z) (h4 : Pl n u) : Pl (n + 1) (.tuple [x, y, z, u]) := pl_tuple fun d hd => by
  simp at hd; rcases hd with rfl | rfl | rfl | rfl <;> assumption
theorem Pl.mono {n m : Nat} {d : PyData} (h : Pl n d) (hm : n ≤ m) : Pl m d := ⟨h.1.mono hm, h.2⟩
theorem Pl.sh {n : Nat} {d : PyData} (h : Pl n d) (hm : n ≤ 64 := by decide) : Sh 64 d := h.1.mono hm
theorem Pl.eqv {n m : Nat} {x y : PyData} (hx : Pl n x) (hy : Pl m y) : PyData.eqv x y = decide (x = y) := eqv_dec hx.2 hy.2
theorem Pl.self {n : Nat} {x : PyData} (hx : Pl n x) : PyData.eqv x x = true := by rw [hx.eqv hx]; simp
/-- .. of lists, of tuples, as the walk leaves them -/
theorem Pl.eqvL {n m : Nat} {x y : List PyData} (hx : Pl n (.list x)) (hy : Pl m (.list y)) : PyData.eqvAll x y = decide (x = y) := eqvAll_dec hx.2 hy.2
theorem Pl.eqvT {n m : Nat} {x y : List PyData} (hx : Pl n (.tuple x)) (hy : Pl m (.tuple y)) : PyData.eqvAll x y = decide (x = y) := eqvAll_dec hx.2 hy.2
theorem Pl.selfL {n : Nat} {x : List PyData} (hx : Pl n (.list x)) : PyData.eqvAll x x = true := by rw [hx.eqvL hx]; simp
theorem Pl.selfT {n : Nat} {x : List PyData} (hx : Pl n (.tuple x)) : PyData.eqvAll x x = true := by rw [hx.eqvT hx]; simp
theorem pl_pp (p : Nat × Nat) : Pl 1 (ppD p) := pl_t2 pl_int pl_int
theorem pl_pps (ps : List (Nat × Nat)) : Pl 2 (.list (ps.map ppD)) := pl_map fun p _ => pl_pp p
theorem pl_on (o : Option Nat) : Pl 0 (onD o) := by cases o <;> first | exact pl_int | exact pl_none
theorem pl_sh (s : Option Nat × Option Nat) : Pl 1 (shD s) := pl_t2 (pl_on _) (pl_on _)
theorem pl_shs (ss : List (Option Nat × Option Nat)) : Pl 2 (.list (ss.map shD)) := pl_map fun p _ => pl_sh p
theorem pl_ints (ns : List Int) : Pl 1 (.list (ns.map PyData.int)) := pl_map fun p _ => pl_int
theorem map_snoc {α β : Type} {f : α → β} {xs : List α} {x : α} : xs.map f ++ [f x] = (xs ++ [x]).map f := by rw [List.map_append]; rfl
end Dl

/-! Likenings: rows of n and m places, p the points of two places. -/
namespace Dl
/-- the greatest worth, a and b places left -/
def wR (p : Nat → Nat → Int) (n m : Nat) : Nat → Nat → Int
  | 0, _ => 0
  | _ + 1, 0 => 0
  | a + 1, b + 1 => if 0 < p (n - (a + 1)) (m - (b + 1)) then max (max (wR p n m a (b + 1)) (wR p n m (a + 1) b)) (p (n - (a + 1)) (m - (b + 1)) + wR p n m a b) else max (wR p n m a (b + 1)) (wR p n m (a + 1) b)
termination_by a b => a + b
/-- .. from the places i and j on -/
def wN (p : Nat → Nat → Int) (n m i j : Nat) : Int := wR p n m (n - i) (m - j)
section
variable {p : Nat → Nat → Int} {n m : Nat}
theorem wR_0 (b : Nat) : wR p n m 0 b = 0 := by rw [wR]
theorem wR_00 (a : Nat) : wR p n m a 0 = 0 := by cases a <;> rw [wR]
theorem wN_endI {i j : Nat} (h : n ≤ i) : wN p n m i j = 0 := by unfold wN; rw [Nat.sub_eq_zero_of_le h, wR_0]
theorem wN_endJ {i j : Nat} (h : m ≤ j) : wN p n m i j = 0 := by unfold wN; rw [Nat.sub_eq_zero_of_le h, wR_00]
theorem wN_in {i j : Nat} (hi : i < n) (hj : j < m) : wN p n m i j = if 0 < p i j then max (max (wN p n m (i + 1) j) (wN p n m i (j + 1))) (p i j + wN p n m (i + 1) (j + 1)) else max (wN p n m (i + 1) j) (wN p n m i (j + 1)) := by
  unfold wN
  obtain ⟨a, ha⟩ : ∃ a, n - i = a + 1 := ⟨n - i - 1, by omega⟩
  obtain ⟨b, hb⟩ : ∃ b, m - j = b + 1 := ⟨m - j - 1, by omega⟩
  rw [ha, hb, wR, show n - (a + 1) = i by omega, show m - (b + 1) = j by omega, show n - (i + 1) = a by omega, show m - (j + 1) = b by omega]
theorem wN_pos : ∀ (k i j : Nat), (n - i) + (m - j) ≤ k → 0 ≤ wN p n m i j
  | 0, i, j, h => by rw [wN_endI (by omega)]; exact Int.le_refl _
  | k + 1, i, j, h => by
    by_cases hi : i < n
    · by_cases hj : j < m
      · have h1 := wN_pos k (i + 1) j (by omega)
        rw [wN_in hi hj]
        split <;> omega
      · rw [wN_endJ (by omega)]; exact Int.le_refl _
    · rw [wN_endI (by omega)]; exact Int.le_refl _
theorem wN_nn (i j : Nat) : 0 ≤ wN p n m i j := wN_pos _ i j (Nat.le_refl _)
theorem wN_i (i j : Nat) : wN p n m (i + 1) j ≤ wN p n m i j := by
  by_cases hi : i < n
  · by_cases hj : j < m
    · rw [wN_in hi hj]; split <;> omega
    · rw [wN_endJ (show m ≤ j by omega), wN_endJ (show m ≤ j by omega)]; exact Int.le_refl _
  · rw [wN_endI (show n ≤ i by omega), wN_endI (show n ≤ i + 1 by omega)]; exact Int.le_refl _
theorem wN_j (i j : Nat) : wN p n m i (j + 1) ≤ wN p n m i j := by
  by_cases hi : i < n
  · by_cases hj : j < m
    · rw [wN_in hi hj]; split <;> omega
    · rw [wN_endJ (show m ≤ j by omega), wN_endJ (show m ≤ j + 1 by omega)]; exact Int.le_refl _
  · rw [wN_endI (show n ≤ i by omega), wN_endI (show n ≤ i by omega)]; exact Int.le_refl _
theorem wN_mono : ∀ {i j i' j' : Nat}, i ≤ i' → j ≤ j' → wN p n m i' j' ≤ wN p n m i j := by
  intro i j i' j' hi hj
  obtain ⟨a, rfl⟩ := Nat.exists_eq_add_of_le hi
  obtain ⟨b, rfl⟩ := Nat.exists_eq_add_of_le hj
  have h1 : ∀ a, wN p n m (i + a) (j + b) ≤ wN p n m i (j + b) := fun a => by
    induction a with
    | zero => exact Int.le_refl _
    | succ a ih => exact Int.le_trans (wN_i (i + a) _) ih
  have h2 : ∀ b, wN p n m i (j + b) ≤ wN p n m i j := fun b => by
    induction b with
    | zero => exact Int.le_refl _
    | succ b ih => exact Int.le_trans (wN_j i (j + b)) ih
  exact Int.le_trans (h1 a) (h2 b)
/-- a pair with which the worth is kept -/
def Keeps (p : Nat → Nat → Int) (n m i j a b : Nat) : Prop := i ≤ a ∧ a < n ∧ j ≤ b ∧ b < m ∧ 0 < p a b ∧ p a b + wN p n m (a + 1) (b + 1) = wN p n m i j
theorem keeps_some : ∀ (k i j : Nat), (n - i) + (m - j) ≤ k → 0 < wN p n m i j → ∃ a b, Keeps p n m i j a b
  | 0, i, j, h, h0 => by rw [wN_endI (by omega)] at h0; exact absurd h0 (Int.lt_irrefl _)
  | k + 1, i, j, h, h0 => by
    by_cases hi : i < n
    · by_cases hj : j < m
      · have hw := wN_in (p := p) hi hj
        by_cases e1 : wN p n m (i + 1) j = wN p n m i j
        · obtain ⟨a, b, h1, h2, h3, h4, h5, h6⟩ := keeps_some k (i + 1) j (by omega) (by omega)
          exact ⟨a, b, by omega, h2, h3, h4, h5, by omega⟩
        · by_cases e2 : wN p n m i (j + 1) = wN p n m i j
          · obtain ⟨a, b, h1, h2, h3, h4, h5, h6⟩ := keeps_some k i (j + 1) (by omega) (by omega)
            exact ⟨a, b, h1, h2, by omega, h4, h5, by omega⟩
          · split at hw
            · rename_i hp
              exact ⟨i, j, Nat.le_refl _, hi, Nat.le_refl _, hj, hp, by omega⟩
            · omega
      · rw [wN_endJ (by omega)] at h0; exact absurd h0 (Int.lt_irrefl _)
    · rw [wN_endI (by omega)] at h0; exact absurd h0 (Int.lt_irrefl _)
/-- the first one -/
structure IsFst (p : Nat → Nat → Int) (n m i j a b : Nat) : Prop where
  keeps : Keeps p n m i j a b
  first : ∀ a' b', Keeps p n m i j a' b' → a < a' ∨ (a = a' ∧ b ≤ b')
theorem IsFst.uniq {i j a b a' b' : Nat} (h : IsFst p n m i j a b) (h' : IsFst p n m i j a' b') : a = a' ∧ b = b' := by
  have h1 := h.first a' b' h'.keeps
  have h2 := h'.first a b h.keeps
  omega
/-- the first likening of the greatest worth -/
inductive IsLik (p : Nat → Nat → Int) (n m : Nat) : Nat → Nat → List (Nat × Nat) → Prop
  | nil {i j : Nat} : ¬ 0 < wN p n m i j → IsLik p n m i j []
  | cons {i j a b : Nat} {ps : List (Nat × Nat)} : 0 < wN p n m i j → IsFst p n m i j a b → IsLik p n m (a + 1) (b + 1) ps → IsLik p n m i j ((a, b) :: ps)
theorem IsLik.uniq : ∀ {ps qs : List (Nat × Nat)} {i j : Nat}, IsLik p n m i j ps → IsLik p n m i j qs → ps = qs
  | [], [], _, _, _, _ => rfl
  | [], q :: qs, _, _, h, h' => by
    cases h with
    | nil h1 => cases h' with
      | cons h2 => exact absurd h2 h1
  | q :: qs, [], _, _, h, h' => by
    cases h' with
    | nil h1 => cases h with
      | cons h2 => exact absurd h2 h1
  | (a, b) :: ps, (a', b') :: qs, _, _, h, h' => by
    cases h with
    | cons _ h1 h2 => cases h' with
      | cons _ h3 h4 =>
        obtain ⟨rfl, rfl⟩ := h1.uniq h3
        rw [IsLik.uniq h2 h4]
theorem IsLik.few : ∀ {ps : List (Nat × Nat)} {i j : Nat}, IsLik p n m i j ps → ps.length ≤ n - i ∧ ∀ q ∈ ps, i ≤ q.1 ∧ q.1 < n ∧ j ≤ q.2 ∧ q.2 < m
  | [], _, _, _ => ⟨Nat.zero_le _, fun q hq => absurd hq List.not_mem_nil⟩
  | (a, b) :: ps, i, j, h => by
    cases h with
    | cons _ h1 h2 =>
      obtain ⟨k1, k2, k3, k4, _⟩ := h1.keeps
      obtain ⟨g1, g2⟩ := IsLik.few h2
      refine ⟨by rw [List.length_cons]; omega, fun q hq => ?_⟩
      rcases List.mem_cons.mp hq with rfl | hq
      · exact ⟨k1, k2, k3, k4⟩
      · have := g2 q hq
        omega
/-- what is likened so far, what is left -/
def LikTo (p : Nat → Nat → Int) (n m : Nat) (ps : List (Nat × Nat)) (i j : Nat) : Prop := ∀ qs, IsLik p n m i j qs → IsLik p n m 0 0 (ps ++ qs)
theorem likTo_0 : LikTo p n m [] 0 0 := fun _ h => h
theorem likTo_more {ps : List (Nat × Nat)} {i j a b : Nat} (h : LikTo p n m ps i j) (h0 : 0 < wN p n m i j) (h1 : IsFst p n m i j a b) : LikTo p n m (ps ++ [(a, b)]) (a + 1) (b + 1) := fun qs hq => by
  rw [List.append_assoc]
  exact h _ (.cons h0 h1 hq)
theorem likTo_end {ps : List (Nat × Nat)} {i j : Nat} (h : LikTo p n m ps i j) (h0 : ¬ 0 < wN p n m i j) : IsLik p n m 0 0 ps := by
  have := h [] (.nil h0)
  rwa [List.append_nil] at this
/-- the table -/
def tabN (p : Nat → Nat → Int) (n m : Nat) : List (List Int) := (List.range (n + 1)).map fun i => (List.range (m + 1)).map fun j => wN p n m i j
theorem wN_le {q : Int} (hq : 0 ≤ q) (hp : ∀ i j, p i j ≤ q) : ∀ (k i j : Nat), (n - i) + (m - j) ≤ k → wN p n m i j ≤ (n - i : Nat) * q
  | 0, i, j, h => by rw [wN_endI (by omega)]; exact Int.mul_nonneg (by omega) hq
  | k + 1, i, j, h => by
    by_cases hi : i < n
    · by_cases hj : j < m
      · have h1 := wN_le hq hp k (i + 1) j (by omega)
        have h2 := wN_le hq hp k i (j + 1) (by omega)
        have h3 := wN_le hq hp k (i + 1) (j + 1) (by omega)
        have e : ((n - i : Nat) : Int) * q = ((n - (i + 1) : Nat) : Int) * q + q := by
          rw [show n - i = n - (i + 1) + 1 by omega, Int.natCast_add, Int.add_mul]; simp
        have hpij := hp i j
        rw [wN_in hi hj]
        split <;> omega
      · rw [wN_endJ (by omega)]; exact Int.mul_nonneg (by omega) hq
    · rw [wN_endI (by omega)]; exact Int.mul_nonneg (by omega) hq
end

/-! ### likes, points, tables -/
open PySem PySem.Spec PyProof.Rows L2
/-- a like; its data -/
abbrev Lk3 := Str × Str × Int
def lkD (l : Lk3) : PyData := .tuple [.str l.1, .str l.2.1, .int l.2.2]
/-- the points of two marks -/
def ptN (m o : Str) : List Lk3 → Int
  | [] => if m = o then 1 else 0
  | l :: ls => if (l.1 = m ∧ l.2.1 = o) ∨ (l.2.1 = m ∧ l.1 = o) then l.2.2 else ptN m o ls
theorem ptN_cons {m o a b : Str} {p : Int} {ls : List Lk3} : ptN m o ((a, b, p) :: ls) = if (a = m ∧ b = o) ∨ (b = m ∧ a = o) then p else ptN m o ls := rfl
def LksOk (ls : List Lk3) : Prop := ∀ l ∈ ls, PyData.strOk l.1 = true ∧ PyData.strOk l.2.1 = true ∧ 1 ≤ l.2.2 ∧ l.2.2 ≤ 9
theorem lkD_in {x y : Lk3} (h : lkD x = lkD y) : x = y := by
  obtain ⟨x1, x2, x3⟩ := x
  obtain ⟨y1, y2, y3⟩ := y
  simpa [lkD] using h
theorem lks_iff {xs ys : List Lk3} : (xs.map lkD = ys.map lkD) = (xs = ys) := map_iff fun _ _ => lkD_in
theorem ptN_pos {m o : Str} : ∀ {ls : List Lk3}, LksOk ls → 0 ≤ ptN m o ls ∧ ptN m o ls ≤ 9
  | [], _ => by unfold ptN; split <;> omega
  | l :: ls, h => by
    have h1 := ptN_pos (m := m) (o := o) (ls := ls) fun x hx => h x (List.mem_cons_of_mem _ hx)
    have h2 := h l List.mem_cons_self
    unfold ptN
    split <;> omega
theorem pair_eq {a b c d : Str} : PyData.eqvAll [.str a, .str b] [.str c, .str d] = (decide (a = c) && decide (b = d)) := by
  rw [eqvAll_cons, eqvAll_cons, eqvAll_nil, eqv_str, eqv_str, Bool.and_true]
  rfl
theorem getD_at {r : List Str} {a : Int} (h0 : 0 ≤ a) (h1 : a < r.length) : (∃ w ∈ r, w = r.getD a.toNat "") ∧ ∀ {Q : PyData → Prop}, Q (.str (r.getD a.toNat "")) → atD (r.map PyData.str) a Q := by
  have hk : a.toNat < r.length := by omega
  have e : r.getD a.toNat "" = r[a.toNat] := by rw [List.getD_eq_getElem?_getD, List.getElem?_eq_getElem hk]; rfl
  rw [e]
  refine ⟨⟨_, List.getElem_mem hk, rfl⟩, fun {Q} q => ?_⟩
  rw [show a = ((a.toNat : Nat) : Int) by omega]
  exact atD_map (List.getElem?_eq_getElem hk) q
theorem getN_at {r : List Str} {i : Nat} (h : i < r.length) : r.getD i "" ∈ r ∧ ∀ {Q : PyData → Prop}, Q (.str (r.getD i "")) → atD (r.map PyData.str) (i : Int) Q := by
  obtain ⟨⟨w, m1, e1⟩, k⟩ := getD_at (r := r) (a := (i : Int)) (by omega) (by omega)
  rw [Int.toNat_natCast] at e1
  exact ⟨e1 ▸ m1, fun {Q} q => k q⟩
def ptF (ls : List Lk3) (r o : List Str) (i j : Nat) : Int := ptN (r.getD i "") (o.getD j "") ls
/-- a table's rows -/
def gridD (q : Nat → Nat → Int) (n m : Nat) : List (List PyData) := (List.range (n + 1)).map fun i => (List.range (m + 1)).map fun j => PyData.int (q i j)
def rowD (q : Nat → Nat → Int) (m i : Nat) : List PyData := (List.range (m + 1)).map fun j => PyData.int (q i j)
def tabG (ls : List Lk3) (r o : List Str) : List (List PyData) := gridD (wN (ptF ls r o) r.length o.length) r.length o.length
theorem grid_get {q : Nat → Nat → Int} {n m i : Nat} (h : i ≤ n) : (gridD q n m)[i]? = some (rowD q m i) := by
  unfold gridD
  rw [List.getElem?_map, List.getElem?_range (by omega)]; rfl
theorem grid_at {q : Nat → Nat → Int} {n m i : Nat} (h : i ≤ n) : atI (gridD q n m) (i : Int) = some (rowD q m i) := atI_nat (grid_get h)
theorem row_get {q : Nat → Nat → Int} {m i j : Nat} (h : j ≤ m) : (rowD q m i)[j]? = some (.int (q i j)) := by
  unfold rowD
  rw [List.getElem?_map, List.getElem?_range (by omega)]; rfl
theorem grid_len {q : Nat → Nat → Int} {n m : Nat} : (gridD q n m).length = n + 1 := by unfold gridD; rw [List.length_map, List.length_range]
theorem row_len {q : Nat → Nat → Int} {m i : Nat} : (rowD q m i).length = m + 1 := by unfold rowD; rw [List.length_map, List.length_range]
def updQ (q : Nat → Nat → Int) (i j : Nat) (v : Int) : Nat → Nat → Int := fun a b => if a = i ∧ b = j then v else q a b
theorem grid_set {q : Nat → Nat → Int} {n m i j : Nat} {v : Int} (hi : i ≤ n) (hj : j ≤ m) : (gridD q n m).set i ((rowD q m i).set j (.int v)) = gridD (updQ q i j v) n m := by
  apply List.ext_getElem?
  intro a
  by_cases ha : a ≤ n
  · rw [grid_get ha, List.getElem?_set]
    by_cases e : i = a
    · subst e
      rw [if_pos rfl, if_pos (by rw [grid_len]; omega)]
      congr 1
      apply List.ext_getElem?
      intro b
      by_cases hb : b ≤ m
      · rw [row_get hb, List.getElem?_set]
        by_cases e2 : j = b
        · subst e2
          rw [if_pos rfl, if_pos (by rw [row_len]; omega)]
          unfold updQ
          rw [if_pos ⟨rfl, rfl⟩]
        · rw [if_neg e2, row_get hb]
          unfold updQ
          rw [if_neg fun z => e2 z.2.symm]
      · rw [List.getElem?_eq_none (by rw [List.length_set, row_len]; omega), List.getElem?_eq_none (by rw [row_len]; omega)]
    · rw [if_neg e, grid_get ha]
      congr 1
      refine List.map_congr_left fun b _ => ?_
      unfold updQ
      rw [if_neg fun z => e z.1.symm]
  · rw [List.getElem?_eq_none (by rw [List.length_set, grid_len]; omega), List.getElem?_eq_none (by rw [grid_len]; omega)]
theorem grid_congr {q q' : Nat → Nat → Int} {n m : Nat} (h : ∀ a b, a ≤ n → b ≤ m → q a b = q' a b) : gridD q n m = gridD q' n m := by
  refine List.map_congr_left fun a ha => List.map_congr_left fun b hb => ?_
  rw [h a b (by simpa [Nat.lt_succ_iff] using ha) (by simpa [Nat.lt_succ_iff] using hb)]
theorem max_if {a b : Int} : (if b > a then b else a) = max a b := by
  split <;> omega
theorem ixN_nat {n i : Nat} (h : i < n) : ixN n (i : Int) = some i := by
  unfold ixN
  rw [if_pos (by omega), if_pos (by omega)]; rfl
end Dl

/-! Less of data. -/
namespace Dl
open PySem PySem.Spec PyProof.Rows L2
def rLtD (K : PySem.W.Frag) : R2 := fun x y H Q => ∃ d e, Dp K H x d ∧ Dp K H y e ∧ PySem.W.alike d e = true ∧ d ≠ .none ∧ d.depth ≤ 64 ∧ Q (.bl (PySem.W.dataLt d e)) H
theorem op_ltD {X : Cx} (hu : X.A.units + 64 < cLine) : OpR X (compareOp .Lt) (rLtD X.K) := by
  intro pins s σ H x y v u Q I rx ry h
  obtain ⟨d, e, hd, he, ha, hn, hl, q⟩ := h
  obtain ⟨as, r1⟩ := Dp.reads I d x v hd rx
  obtain ⟨bs, r2⟩ := Dp.reads I e y u he ry
  refine PySem.W.lt_data r1 r2 ha hn ?_ ⟨.bl _, H, I, rfl, q⟩
  have : min d.depth e.depth ≤ 64 := by omega
  omega
def fLtD : PyData → PyData → (PyData → Prop) → Prop := fun x y Q => PySem.W.alike x y = true ∧ x ≠ .none ∧ x.depth ≤ 64 ∧ Q (.bool (PySem.W.dataLt x y))
theorem opv_ltD {K : PySem.W.Frag} : OpV K (rLtD K) fLtD := fun B c s G H x y a b Q R st dx dy ⟨s1, s2, s3, q⟩ k => ⟨a, b, dx.dp st.sub, dy.dp st.sub, s1, s2, s3, k _ _ G H st (Same.refl _) (.bl _) q⟩
theorem opd_ltD {K : PySem.W.Frag} : OpD K (rLtD K) fLtD := fun B c s G H x y a b Q R st dx dy ⟨s1, s2, s3, q⟩ k => ⟨a, b, dp_mono st.sub _ _ dx, dp_mono st.sub _ _ dy, s1, s2, s3, k _ _ G H st (Same.refl _) (.bl _) q⟩
theorem t_ltD {X : Cx} {a b : Expr} {ta tb} {pos} (hu : X.A.units + 64 < cLine) (ha : DE X a ta) (hb : DE X b tb) : DT X (.Compare a [.Lt] [b] pos) (wB (u2 fLtD ta tb)) := tc (op_ltD hu) opd_ltD ha hb (nomark _)
/-! ### zip of lists, of tuples -/
def as2 (x y : PyData) (Q : List PyData → List PyData → Prop) : Prop := match x, y with
  | .list ds, .list es => Q ds es
  | .tuple ds, .tuple es => Q ds es
  | _, _ => False
theorem as2_l {ds es : List PyData} {Q : List PyData → List PyData → Prop} : as2 (.list ds) (.list es) Q = Q ds es := id rfl
theorem as2_t {ds es : List PyData} {Q : List PyData → List PyData → Prop} : as2 (.tuple ds) (.tuple es) Q = Q ds es := id rfl
theorem as2_of {x y : PyData} {Q : List PyData → List PyData → Prop} (h : as2 x y Q) : ∃ ds es, ((x = .list ds ∧ y = .list es) ∨ (x = .tuple ds ∧ y = .tuple es)) ∧ Q ds es := by
  cases x <;> cases y <;> first | exact h.elim | exact ⟨_, _, .inl ⟨rfl, rfl⟩, h⟩ | exact ⟨_, _, .inr ⟨rfl, rfl⟩, h⟩
def iZpA (tl : TL) : TL := fun c Q => tl c fun xs c1 => arg2 xs fun x y => as2 x y fun ds es => Q (zipD ds es) c1
theorem i_zipA {X : Cx} {a b : Expr} {tl : TL} {p pos : Pos} {elts : List Expr} {kk : Nat} {tpos : Pos} (hm : X.mg "zip" = none) (ha : DA X [a, b] tl) (hg : Gl X "zip" := by rfl) (hs : starEach [a, b] X.env = (false, eval a X.env) :: starEach [b] X.env := by rfl) (hpl : (backTo pos (starEach [b] X.env)).any (·.1) = false := by rfl) :
    DI X (.Tuple elts kk tpos) (.Call (.Name "zip" p) [a, b] [] pos) (iZpA tl) := by
  obtain ⟨te, pa, va⟩ := ha.ex
  refine ⟨_, RZ.pi_zipA hg hm pa hs hpl, fun B c s G H Q R st q k => va B c s G H _ _ st q fun vs xs c1 G1 H1 st1 e1 d1 q1 => ?_⟩
  obtain ⟨x, y, rfl, q1⟩ := arg2_of q1
  obtain ⟨ds, es, hh, q1⟩ := as2_of q1
  obtain ⟨v, w, rfl, f1, f2⟩ := dpa_2 d1
  rcases hh with ⟨rfl, rfl⟩ | ⟨rfl, rfl⟩
  · obtain ⟨l, us, rfl, h1, h2⟩ := dp_lst f1
    obtain ⟨m, ws, rfl, g1, g2⟩ := dp_lst f2
    refine ⟨l, m, us, ws, rfl, .inl ⟨Same.seq st1.sub h1, Same.seq st1.sub g1, k _ _ _ _ _ st1 e1 (fun B' c' s' G' H' st' e' i => ?_) q1⟩⟩
    have hq : SqL X.K H' l us := Same.seq st'.sub (Same.seq e' h1)
    have gq : SqL X.K H' m ws := Same.seq st'.sub (Same.seq e' g1)
    have hl := dpa_len h2
    have gl := dpa_len g2
    refine ⟨fun hi => ⟨us, ws, hq, gq, by rw [zipD_len] at hi; omega⟩, fun hi => ?_⟩
    rw [zipD_len] at hi
    obtain ⟨x, hx, dx⟩ := dpa_get h2 (List.getElem?_eq_getElem (show i < ds.length by omega))
    obtain ⟨y, hy, dy⟩ := dpa_get g2 (List.getElem?_eq_getElem (show i < es.length by omega))
    refine ⟨⟨us, ws, x, y, hq, gq, hx, hy⟩, fun z H2 hz => ?_⟩
    obtain ⟨T, x', y', rfl, hT, rfl, k1, k2⟩ := hz
    have ex := k1 us hq
    have ey := k2 ws gq
    rw [hx] at ex
    rw [hy] at ey
    cases ex
    cases ey
    obtain ⟨st2, e2⟩ := st'.laid (o := .tup [x, y]) hT
    refine ⟨_, .tuple [ds[i], es[i]], ?_, st2, e2, .tup (.inl (.inl upd_same)) (dpa_mono (e'.trans e2) _ _ (.cons dx (.cons dy .nil)))⟩
    unfold zipD
    rw [List.getElem?_map, List.getElem?_eq_getElem (by rw [List.length_zip]; exact hi), List.getElem_zip]
    rfl
  · obtain ⟨l, us, rfl, h1, h2⟩ := dp_tup f1
    obtain ⟨m, ws, rfl, g1, g2⟩ := dp_tup f2
    refine ⟨l, m, us, ws, rfl, .inr ⟨same_t st1.sub h1, same_t st1.sub g1, k _ _ _ _ _ st1 e1 (fun B' c' s' G' H' st' e' i => ?_) q1⟩⟩
    have hq : SqT X.K H' l us := same_t st'.sub (same_t e' h1)
    have gq : SqT X.K H' m ws := same_t st'.sub (same_t e' g1)
    have hl := dpa_len h2
    have gl := dpa_len g2
    refine ⟨fun hi => ⟨us, ws, hq, gq, by rw [zipD_len] at hi; omega⟩, fun hi => ?_⟩
    rw [zipD_len] at hi
    obtain ⟨x, hx, dx⟩ := dpa_get h2 (List.getElem?_eq_getElem (show i < ds.length by omega))
    obtain ⟨y, hy, dy⟩ := dpa_get g2 (List.getElem?_eq_getElem (show i < es.length by omega))
    refine ⟨⟨us, ws, x, y, hq, gq, hx, hy⟩, fun z H2 hz => ?_⟩
    obtain ⟨T, x', y', rfl, hT, rfl, k1, k2⟩ := hz
    have ex := k1 us hq
    have ey := k2 ws gq
    rw [hx] at ex
    rw [hy] at ey
    cases ex
    cases ey
    obtain ⟨st2, e2⟩ := st'.laid (o := .tup [x, y]) hT
    refine ⟨_, .tuple [ds[i], es[i]], ?_, st2, e2, .tup (.inl (.inl upd_same)) (dpa_mono (e'.trans e2) _ _ (.cons dx (.cons dy .nil)))⟩
    unfold zipD
    rw [List.getElem?_map, List.getElem?_eq_getElem (by rw [List.length_zip]; exact hi), List.getElem_zip]
    rfl
/-- a promise of nothing: where a recursion ends -/
theorem Cal.nought {P : Program} {w : World} {K : PySem.W.Frag} {mg : Str → Option Value} {base : Heap} {x : Str} {k : Nat} {st : Stmt} {ps : List Str} {T : TF} (D : Df K mg x st ps) (hT : ∀ a Q, ¬ T a Q) : Cal P w K mg base x k ps T := by
  obtain ⟨f, fd, F, hm, hB⟩ := D
  exact ⟨f, fd, ⟨fun vs H Q E h => by obtain ⟨_, _, _, _, _, h, _⟩ := h; exact (hT _ _ h).elim, fun A outer s H args us vs Q E hr e0 hb hv h => by obtain ⟨_, _, _, _, _, h, _⟩ := h; exact (hT _ _ h).elim⟩, hm, F.kp, hB⟩
/-- data that is the same: numbers and texts in lists and tuples, n deep -/
def sameOk : Nat → PyData → Prop
  | 0, _ => False
  | _ + 1, .int _ => True
  | _ + 1, .str w => PyData.strOk w = true
  | n + 1, .list ds => ds.length ≤ 1000 ∧ ∀ d ∈ ds, sameOk n d
  | n + 1, .tuple ds => ds.length ≤ 1000 ∧ ∀ d ∈ ds, sameOk n d
  | _ + 1, _ => False
/-- pairs as lists are compared -/
def lexL : List (Nat × Nat) → List (Nat × Nat) → Bool
  | [], [] => false
  | [], _ :: _ => true
  | _ :: _, [] => false
  | p :: ps, q :: qs => if p = q then lexL ps qs else decide (p.1 < q.1 ∨ (p.1 = q.1 ∧ p.2 < q.2))
theorem alike_pp : ∀ ps qs : List (Nat × Nat), PySem.W.alikeAll (ps.map ppD) (qs.map ppD) = true
  | [], [] => by simp [PySem.W.alikeAll]
  | [], _ :: _ => by simp [PySem.W.alikeAll]
  | _ :: _, [] => by simp [PySem.W.alikeAll]
  | p :: ps, q :: qs => by
    rw [List.map_cons, List.map_cons, PySem.W.alikeAll, alike_pp ps qs]
    simp [ppD, PySem.W.alike, PySem.W.alikeAll]
theorem row_pp : ∀ ps qs : List (Nat × Nat), PySem.W.rowLt (ps.map ppD) (qs.map ppD) = lexL ps qs
  | [], [] => lex_irrefl _
  | [], q :: qs => by
    unfold PySem.W.rowLt
    rw [List.map_cons, PySem.W.toks_all_cons]
    simp only [List.map_nil, PySem.W.keyToksAll]
    rw [lex_diff (O := PyProof.Rows.itemOrd) (by simp)]
    rfl
  | p :: ps, [] => by
    unfold PySem.W.rowLt
    rw [List.map_cons, PySem.W.toks_all_cons]
    simp only [List.map_nil, PySem.W.keyToksAll]
    rw [lex_diff (O := PyProof.Rows.itemOrd) (by simp)]
    rfl
  | p :: ps, q :: qs => by
    have h := PySem.W.dataLt_cons (x := ppD p) (y := ppD q) (by simp [ppD, PySem.W.alike, PySem.W.alikeAll]) (ps.map ppD) (qs.map ppD)
    have e : PyData.eqv (ppD p) (ppD q) = decide (p = q) := by
      rw [(pl_pp p).eqv (pl_pp q), Bool.eq_iff_iff, decide_eq_true_eq, decide_eq_true_eq]
      exact ⟨ppD_inj, congrArg _⟩
    unfold PySem.W.rowLt
    rw [List.map_cons, List.map_cons, h, e]
    unfold lexL
    by_cases he : p = q
    · rw [if_pos he, if_pos (decide_eq_true he)]
      exact row_pp ps qs
    · rw [if_neg he, if_neg (by simpa using he)]
      unfold ppD
      rw [PySem.W.dataLt_ii]
      rw [Bool.eq_iff_iff, decide_eq_true_eq, decide_eq_true_eq]
      omega
theorem lt_pps (ps qs : List (Nat × Nat)) : PySem.W.dataLt (.list (ps.map ppD)) (.list (qs.map ppD)) = lexL ps qs := by
  rw [PySem.W.dataLt_list]; exact row_pp ps qs
/-! ### none is worth more -/
section
variable {p : Nat → Nat → Int} {n m : Nat}
/-- pairs, both numbers rising, of points -/
def PpG (p : Nat → Nat → Int) (n m : Nat) : Nat → Nat → List (Nat × Nat) → Prop
  | _, _, [] => True
  | i, j, (a, b) :: ps => i ≤ a ∧ j ≤ b ∧ a < n ∧ b < m ∧ 0 < p a b ∧ PpG p n m (a + 1) (b + 1) ps
def sumP (p : Nat → Nat → Int) (ps : List (Nat × Nat)) : Int := (ps.map fun q => p q.1 q.2).sum
theorem wN_pair {i j a b : Nat} (h1 : i ≤ a) (h2 : j ≤ b) (h3 : a < n) (h4 : b < m) (h5 : 0 < p a b) : p a b + wN p n m (a + 1) (b + 1) ≤ wN p n m i j := by
  have h := wN_in (p := p) h3 h4
  rw [if_pos h5] at h
  have := wN_mono (p := p) (n := n) (m := m) h1 h2
  omega
theorem none_more : ∀ {ps : List (Nat × Nat)} {i j : Nat}, PpG p n m i j ps → sumP p ps ≤ wN p n m i j
  | [], i, j, _ => wN_nn i j
  | (a, b) :: ps, i, j, h => by
    obtain ⟨h1, h2, h3, h4, h5, h6⟩ := h
    have := none_more h6
    have := wN_pair h1 h2 h3 h4 h5
    show (((a, b) :: ps).map fun q => p q.1 q.2).sum ≤ _
    rw [List.map_cons, List.sum_cons]
    show p a b + sumP p ps ≤ _
    omega
theorem lik_g : ∀ {ps : List (Nat × Nat)} {i j : Nat}, IsLik p n m i j ps → PpG p n m i j ps ∧ sumP p ps = wN p n m i j
  | [], i, j, h => by
    cases h with
    | nil h0 =>
      refine ⟨trivial, ?_⟩
      have := wN_nn (p := p) (n := n) (m := m) i j
      show (0 : Int) = _
      omega
  | (a, b) :: ps, i, j, h => by
    cases h with
    | cons h0 h1 h2 =>
      obtain ⟨k1, k2, k3, k4, k5, k6⟩ := h1.keeps
      obtain ⟨g1, g2⟩ := lik_g h2
      refine ⟨⟨k1, k3, k2, k4, k5, g1⟩, ?_⟩
      show (((a, b) :: ps).map fun q => p q.1 q.2).sum = _
      rw [List.map_cons, List.sum_cons]
      show p a b + sumP p ps = _
      omega
theorem none_first : ∀ {qs ps : List (Nat × Nat)} {i j : Nat}, IsLik p n m i j qs → PpG p n m i j ps → sumP p ps = wN p n m i j → lexL ps qs = false
  | [], [], _, _, _, _, _ => rfl
  | [], (a, b) :: ps, i, j, h, hp, hs => rfl
  | (a, b) :: qs, [], i, j, h, _, hs => by
    cases h with
    | cons h0 _ _ =>
      have : (0 : Int) = wN p n m i j := hs
      omega
  | (a, b) :: qs, (c, d) :: ps, i, j, h, hp, hs => by
    cases h with
    | cons h0 h1 h2 =>
      obtain ⟨g1, g2, g3, g4, g5, g6⟩ := hp
      have hs2 : p c d + sumP p ps = wN p n m i j := hs
      have u1 := none_more g6
      have u2 := wN_pair g1 g2 g3 g4 g5
      have hk : Keeps p n m i j c d := ⟨g1, g3, g2, g4, g5, by omega⟩
      have hf := h1.first c d hk
      unfold lexL
      split
      · rename_i e
        cases e
        exact none_first h2 g6 (by omega)
      · rename_i e
        have : ¬ (a = c ∧ b = d) := fun z => e (by rw [z.1, z.2])
        simp
        omega
theorem ppG_few : ∀ {ps : List (Nat × Nat)} {i j : Nat}, PpG p n m i j ps → ps.length ≤ n - i
  | [], _, _, _ => Nat.zero_le _
  | (a, b) :: ps, i, j, h => by
    obtain ⟨h1, h2, h3, h4, h5, h6⟩ := h
    have := ppG_few h6
    rw [List.length_cons]
    omega
end
end Dl

/-! Lists of lists: seen by a call; each list of one appended to in a loop. -/
namespace Dl
open PySem PySem.Spec PyProof.Rows L2
section
variable {K : PySem.W.Frag} {B : Base} {G H : Hp} {c : Ctx} {s : L2.St}
/-- an expression that is always the same thing -/
theorem Stt.const (st : Stt K B c s G H) {tea : TE} {te : TD} (va : DEv K tea te) {y : PyData} (hk : ∀ (c : Ctx) (Q : PyData → Ctx → Prop), Q y c → te c Q) {R : VK}
    (h : ∀ v G1 H1, Stt K B c s G1 H1 → Same G G1 → Same H H1 → Dp K G1 v y → R v H1) : tea s H R := by
  obtain ⟨A, r, w⟩ := st.ex
  have nos : ∀ s : L2.St, Reps K ⟨H, G, []⟩ G H (List.replicate s.length .no) s [] := fun s => by
    induction s with
    | nil => exact .nil
    | cons x s ih => exact .no ih
  have st0 : Stt K ⟨H, G, []⟩ (List.replicate s.length .no) s G H := ⟨[], nos s, w.sub, List.nodup_nil, fun a ha => by simp at ha, Same.refl _, fun a o h _ => h, fun a h => h, fun a _ => rfl, fun a ha => by simp at ha⟩
  refine va ⟨H, G, []⟩ _ s G H (fun x _ => x = y) R st0 (hk _ _ rfl) fun v x c' G1 H1 st1 e1 d1 hx => ?_
  subst hx
  obtain ⟨A1, r1, w1⟩ := st1.ex
  have up : Same H H1 := fun a o ha => w1.stay a o ha (by simp)
  have kp : ∀ a ∈ A, H1 a = H a := fun a ha => by
    cases q : H a with
    | none => exact absurd q (r.here a ha)
    | some o => exact up a o q
  have back : ∀ a, H1 a = none → H a = none := fun a ha => w1.dom a ha
  refine h v G1 H1 ⟨A, r.mono e1 kp, w1.sub, w.nd, fun a ha => ?_, w.old.trans e1, fun a o h1 h2 => up a o (w.stay a o h1 h2), fun a ha => w.dom a (back a ha), fun a ha => ?_, w.lim⟩ e1 up d1
  · exact (w1.newG a (r.here a ha)).trans (w.out a ha)
  · have : H a ≠ none := fun z => ha (w.dom a z)
    exact (w1.newG a this).trans (w.newG a ha)
end
/-- a, b = a list -/
def gTL (n : Nat) (t : TGsd) : TGd := fun x c Q => asL x fun xs => xs.length = n ∧ t xs c Q
theorem g_tupL {X : Cx} {pos : Pos} {es : List Expr} {k : Nat} {t : TGsd} {n : Nat} {js : List Nat} (hc : X.calm = true) (h : DGs X es js t) (hn : (assignEach es X.env).length = n := by rfl) (hst : (assignEach es X.env).findIdx? (·.1) = none := by rfl) : DG X (.Tuple es k pos) js (gTL n t) := by
  obtain ⟨tg, p, v⟩ := h.ex
  refine ⟨_, pg_lst hc p hn hst, fun B c s G H w x Q R st d q k => ?_⟩
  obtain ⟨xs, rfl, hl, q⟩ := asL_of q
  obtain ⟨a, vs, rfl, h1, h2⟩ := dp_lst d
  exact ⟨a, vs, rfl, Same.seq st.sub h1, by rw [dpa_len h2]; exact hl, v B c s G H vs xs Q R st h2 q k⟩
/-- what slot i holds, seen; lists of lists, too -/
def slWL : Ctx → Nat → (PyData → Prop) → Prop
  | .d x :: _, 0, Q => Q x
  | .o _ (.lst ds) :: _, 0, Q => Q (.list ds)
  | .o _ (.lls dss) :: _, 0, Q => Q (.list (dss.map PyData.list))
  | _ :: c, i + 1, Q => slWL c i Q
  | _, _, _ => False
section
variable {x : PyData} {y : S} {w : Option Lt} {ds : List PyData} {dss : List (List PyData)} {c : Ctx} {i : Nat} {Q : PyData → Prop}
theorem slWL_d : slWL (.d x :: c) 0 Q = Q x := id rfl
theorem slWL_o : slWL (.o w (.lst ds) :: c) 0 Q = Q (.list ds) := id rfl
theorem slWL_l : slWL (.o w (.lls dss) :: c) 0 Q = Q (.list (dss.map PyData.list)) := id rfl
theorem slWL_s : slWL (y :: c) (i + 1) Q = slWL c i Q := by
  cases y with
  | o w R => cases R <;> rfl
  | _ => rfl
theorem slWL_of : ∀ {c : Ctx} {i : Nat} {Q : PyData → Prop}, slWL c i Q → (∃ x, c[i]? = some (.d x) ∧ Q x) ∨ (∃ w ds, c[i]? = some (.o w (.lst ds)) ∧ Q (.list ds)) ∨ ∃ w dss, c[i]? = some (.o w (.lls dss)) ∧ Q (.list (dss.map PyData.list))
  | [], 0, _, h => h.elim
  | [], _ + 1, _, h => h.elim
  | .d x :: c, 0, _, h => .inl ⟨x, rfl, h⟩
  | .no :: c, 0, _, h => h.elim
  | .f _ :: c, 0, _, h => h.elim
  | .o w (.lst ds) :: c, 0, _, h => .inr (.inl ⟨w, ds, rfl, h⟩)
  | .o w (.lls dss) :: c, 0, _, h => .inr (.inr ⟨w, dss, rfl, h⟩)
  | .o w (.gen _) :: c, 0, _, h => h.elim
  | .o w (.dic _) :: c, 0, _, h => h.elim
  | .o w (.lstP _) :: c, 0, _, h => h.elim
  | y :: c, i + 1, _, h => by
    rw [slWL_s] at h
    simpa using slWL_of h
end
section
variable {K : PySem.W.Frag} {B : Base} {G H : Hp} {c : Ctx} {s : L2.St}
theorem ownLs_dp (e : Same G H) {ps : List Addr} {dss : List (List PyData)} (h : OwnLs K G H ps dss) : DpAll K H (ps.map V.ref) (dss.map PyData.list) := by
  induction h with
  | nil => exact .nil
  | cons h1 h2 _ ih => exact .cons (.lst (SqL.of h1) (dpa_mono e _ _ h2)) ih
theorem Stt.lookL (st : Stt K B c s G H) {i : Nat} {Q : PyData → Prop} (h : slWL c i Q) : ∃ v x, s[i]? = some (some v) ∧ Dp K H v x ∧ Q x := by
  rcases slWL_of h with ⟨x, e, q⟩ | ⟨w, ds, e, q⟩ | ⟨w, dss, e, q⟩
  · obtain ⟨v, e1, d⟩ := st.get_d e
    exact ⟨v, x, e1, dp_mono st.sub _ _ d, q⟩
  · obtain ⟨p, vs, e1, h1, h2, _⟩ := st.own e
    exact ⟨_, _, e1, .lst (SqL.of h1) (dpa_mono st.sub _ _ h2), q⟩
  · obtain ⟨v, A1, e1, ⟨p, ps, rfl, rfl, h1, h2⟩, _, _⟩ := st.foc e
    exact ⟨_, _, e1, .lst (SqL.of h1) (ownLs_dp st.sub h2), q⟩
end
def seeAllL (c : Ctx) : List Arg → (List PyData → Prop) → Prop
  | [], Q => Q []
  | .d x :: as, Q => seeAllL c as fun xs => Q (x :: xs)
  | .s j :: as, Q => slWL c j fun x => seeAllL c as fun xs => Q (x :: xs)
  | .f _ :: _, _ => False
section
variable {c : Ctx} {as : List Arg} {x : PyData} {j : Nat} {Q : List PyData → Prop}
theorem seeL_n : seeAllL c [] Q = Q [] := id rfl
theorem seeL_d : seeAllL c (.d x :: as) Q = seeAllL c as fun xs => Q (x :: xs) := id rfl
theorem seeL_s : seeAllL c (.s j :: as) Q = slWL c j fun x => seeAllL c as fun xs => Q (x :: xs) := id rfl
end
theorem seeL_of {K : PySem.W.Frag} {B : Base} {c : Ctx} {s : L2.St} {G H : Hp} (st : Stt K B c s G H) : ∀ {as : List Arg} {vs : List V} {Q : List PyData → Prop}, ArgVs K G s as vs → seeAllL c as Q → ∃ xs, DpAll K H vs xs ∧ Q xs
  | [], _, _, h, q => by cases h; exact ⟨[], .nil, q⟩
  | .d x :: as, _, _, h, q => by
    cases h with
    | cons h1 h2 =>
      obtain ⟨xs, d, q⟩ := seeL_of st h2 q
      exact ⟨x :: xs, .cons (dp_mono st.sub _ _ h1) d, q⟩
  | .s j :: as, _, _, h, q => by
    cases h with
    | cons h1 h2 =>
      obtain ⟨v, x, e, dv, q⟩ := st.lookL q
      have h1 : s[j]? = some (some _) := h1
      rw [e] at h1
      cases h1
      obtain ⟨xs, d, q⟩ := seeL_of st h2 q
      exact ⟨x :: xs, .cons dv d, q⟩
  | .f _ :: as, _, _, _, q => q.elim
def uCallSL (T : TF) (t : TAr) : TD := fun c Q => t c fun as c1 => seeAllL c1 as fun xs => T (xs.map S.d) (kS fun x => Q x c1)
section
variable {X : Cx} {e : Expr} {es : List Expr} {t tr : TAr} {x : Str} {k : Nat} {ps : List Str} {T : TF} {p pos : Pos}
theorem d_callSL (C : Cal X.prog X.w X.K X.mg X.base x k ps T) (hr : Room k X.A) (ha : DAr X (e :: es) t) (hg : Gl X x := by rfl)
    (hdb : (x == ("__debug__" : Str)) = false := by decide) (he : starEach (e :: es) X.env = (false, eval e X.env) :: starEach es X.env := by rfl) (hpl : (backTo pos (starEach es X.env)).any (·.1) = false := by rfl) : DE X (.Call (.Name x p) (e :: es) [] pos) (uCallSL T t) := by
  obtain ⟨f, fd, h1, h2, h3, h4⟩ := C.ex
  obtain ⟨ta, pa, va⟩ := ha.ex
  refine ⟨_, pe_call h1 hr hg h2 h3 h4 .nil pass0 pa hdb he hpl, fun B c s G H Q R st q k => va B c s G H _ _ st q fun vs as c1 G1 H1 st1 e1 d1 q1 => ?_⟩
  obtain ⟨xs, dx, q1⟩ := seeL_of st1 d1 q1
  rw [List.append_nil]
  refine ⟨H1, [], xs.map S.d, _, stt_data (Same.refl H1) dx, q1, fun r c' vr s' G' H' st' q2 => ?_⟩
  cases r with
  | d y =>
    obtain ⟨A', r', w⟩ := st'.ex
    obtain ⟨A, r0, w0⟩ := st1.ex
    have up : Same H1 H' := w.old.trans w.sub
    have kp : ∀ a ∈ A, H' a = H1 a := fun a ha => by
      cases q : H1 a with
      | none => exact absurd q (r0.here a ha)
      | some o => exact up a o q
    cases r' with
    | d hd _ =>
      refine k vr y c1 G1 H' ⟨A, r0.mono (Same.refl _) kp, w0.sub.trans up, w0.nd, w0.out, w0.old, fun a o h1 h2 => up a o (w0.stay a o h1 h2), fun a h => w0.dom a ?_, w0.newG, w0.lim⟩ e1 (dp_scal hd q2.1) q2.2
      cases q : H1 a with
      | none => rfl
      | some o => rw [up a o q] at h; cases h
  | o w R2 => exact q2.elim
  | no => exact q2.elim
  | f _ => exact q2.elim
end
section
variable {X : Cx}
theorem pi_listN {tg e : Expr} {tp : TE} (p : PE X e tp) : PI X tg e (fun σ H R => tp σ H fun x H1 => ∃ a, x = .ref a ∧ (∃ xs, SqL X.K H1 a xs) ∧ R (Itl X.K a) H1) := by
  refine PI.mk fun pins st s H R I h => ?_
  refine thn (p.run pins st s H _ I h) fun u s1 ⟨x, H1, I1, r1, q1⟩ => ?_
  obtain ⟨a, rfl, ⟨xs, hq⟩, q⟩ := q1
  cases r1
  obtain ⟨its, rv, pl, hz⟩ := I1.list hq
  refine wpAny_pyIter_list pl.isList ?_
  refine ⟨s1.heap.objs.size, [s1.heap.objs.size], _, _, H1, rfl, I1.kept (t' := s1.toks) fun b o e => Heap.get?_push_of_some _ e, turn_list a _, ⟨_, Heap.get?_push_size _ rfl, rfl, rfl⟩, fun b hb => ?_, q⟩
  obtain rfl : b = s1.heap.objs.size := by simpa using hb
  exact I1.fpOk (Nat.le_refl _) (I1.hok.fresh (Nat.le_refl _))
/-- for y in xss: y.append(e), e always the same -/
def zLLfor (j i : Nat) (yv : PyData) : TSd := fun E c => slO c j fun w R => w = none ∧ asLL R fun dss => (∀ ds ∈ dss, ds.length < sizeLine) ∧ i < c.length ∧ E.nx ((c.set i .no).set j (.o none (.lls (dss.map (· ++ [yv])))))
theorem s_forLL (j i : Nat) {x y : Str} {p yp pos pos2 apos cpos py : Pos} {e : Expr} {te : TD} {yv : PyData} (hp : PassesOwn (model X.prog X.w) X.A X.env X.xe) (hc : X.calm = true) (hnd : X.N.Nodup) (ha : DE X e te) (hk : ∀ (c : Ctx) (Q : PyData → Ctx → Prop), Q yv c → te c Q) (hij : (i == j) = false := by rfl)
    (hN : X.N[j]? = some x := by rfl) (hv : Vis X.env.scope x := by first | exact Or.inl rfl | exact Or.inr (Or.inl rfl) | exact Or.inr (Or.inr rfl)) (hd : (x == ("__debug__" : Str)) = false := by decide)
    (hcd : (x == ("__classdict__" : Str)) = false := by decide)
    (hNy : X.N[i]? = some y := by rfl) (hvy : Vis X.env.scope y := by first | exact Or.inl rfl | exact Or.inr (Or.inl rfl) | exact Or.inr (Or.inr rfl)) (hdy : (y == ("__debug__" : Str)) = false := by decide)
    (hcdy : (y == ("__classdict__" : Str)) = false := by decide)
    (hx : Loc X.env.scope y := by first | exact Or.inl rfl | exact Or.inr rfl) (hf : X.fn y = true ∨ X.env.scope.names.lookup y = some .local := by first | exact .inl rfl | exact .inr rfl | assumption)
    (hbase : attributeBase (.Name y py) "append" X.env (eval (.Name y py) X.env) = eval (.Name y py) X.env := by rfl)
    (hfew : ((backTo cpos (starEach [e] X.env)).all (fun x => !x.1) && (backToKw cpos (keywordEach [] X.env)).all (fun x => x.1.isSome)
      && decide ([e].length + ([] : List Keyword).length + (if ([] : List Keyword).isEmpty then 0 else 1) < 30)) = true := by rfl)
    (hline : (apos.endLine == cpos.line) = true := by rfl) (hs : starEach [e] X.env = (false, eval e X.env) :: starEach [] X.env := by rfl) (hplain : (backTo cpos (starEach [] X.env)).any (·.1) = false := by rfl)
    (hsw : swapsWith (.Call (.Attribute (.Name y py) "append" apos) [e] [] cpos) none pos2.line X.env = pure false := by rfl)
    (hfs : ∀ z, foldedSetIterable (.Name x p) X.env z = pure z := by intro _; rfl) :
    DS X (.For (.Name y yp) (.Name x p) [.Expr (.Call (.Attribute (.Name y py) "append" apos) [e] [] cpos) pos2] [] pos) (zLLfor j i yv) := by
  obtain ⟨tea, pa, va⟩ := ha.ex
  refine ⟨_, ps_for hp hc (pi_listN (pe_var hN hv hd hcd)) (pg_name hnd hNy hx hf) (pss_one (ps_expr (pe_bm F.plainAttrs_list F.slot_list_append F.type_list_append mt_append (pe_var hNy hvy hdy hcdy) (pa_cons pa pa_nil hs) hbase hfew hline hs hplain) hsw)) hfs, fun B c s G H D E st k q => ?_⟩
  obtain ⟨w, R, e0, rfl, q⟩ := slO_of q
  obtain ⟨dss, rfl, hlen, hil, q⟩ := asLL_of q
  have ij : i ≠ j := by simpa using hij
  obtain ⟨v, A1, hv1, ⟨p0, ps, rfl, rfl, h1, h2⟩, nd, _⟩ := st.foc e0
  have hsl : s.length = c.length := by obtain ⟨A, r, _⟩ := st.ex; exact r.len
  refine ⟨.ref p0, hv1, p0, rfl, ⟨_, SqL.of h1⟩, ?_⟩
  have cset : ∀ dss' : List (List PyData), (((c.set i .no).set j (.o none (.lls dss'))))[i]? = some S.no := fun dss' => by
    rw [List.getElem?_set_ne (fun z => ij z.symm), List.getElem?_set_self hil]
  have jl : j < c.length := (List.getElem?_eq_some_iff.mp e0).1
  have jset : ∀ dss' : List (List PyData), (((c.set i .no).set j (.o none (.lls dss'))))[j]? = some (.o none (.lls dss')) := fun dss' => by
    rw [List.getElem?_set_self (by rw [List.length_set]; exact jl)]
  refine ⟨fun n m s' H' => m = dss.length - n ∧ n ≤ dss.length ∧ s'[j]? = some (some (.ref p0)) ∧ H' p0 = some (.lst (ps.map V.ref)) ∧ ∃ G', Stt X.K B ((c.set i .no).set j (.o none (.lls ((dss.take n).map (· ++ [yv]) ++ dss.drop n)))) s' G' H' ∧ Same G G', ⟨dss.length, rfl, Nat.zero_le _, hv1, h1, G, ?_, Same.refl _⟩, ?_⟩
  · have st2 := st.set_no i (s[i]'(by omega))
    rw [List.set_getElem_self] at st2
    have : (c.set i .no).set j (.o none (.lls dss)) = c.set i .no := set_same (by rw [List.getElem?_set_ne ij]; exact e0)
    rw [List.take_zero, List.drop_zero, List.map_nil, List.nil_append, this]
    exact st2
  rintro n m s' H' ⟨rfl, hn, hj', hp0, G', st', e'⟩
  have lps := ownLs_len h2
  by_cases hlt : n < dss.length
  · obtain ⟨q0, hq0⟩ : ∃ q0, ps[n]? = some q0 := ⟨_, List.getElem?_eq_getElem (by omega)⟩
    have hit : (ps.map V.ref)[n]? = some (.ref q0) := by rw [List.getElem?_map, hq0]; rfl
    refine .inr ⟨⟨_, .ref q0, SqL.of hp0, hit⟩, _, fun s2 H2 h => ⟨dss.length - (n + 1), by omega, rfl, h⟩, fun z H2 hy => ?_⟩
    obtain ⟨rfl, hz⟩ := hy
    have := hz _ (SqL.of hp0)
    rw [hit] at this
    cases this
    have hs' : s'.length = c.length := by
      obtain ⟨A, r, _⟩ := st'.ex
      rw [r.len, List.length_set, List.length_set]
    have st2 := st'.set_no i (some (.ref q0))
    rw [set_same (cset _)] at st2
    have hj2 : (s'.set i (some (V.ref q0)))[j]? = some (some (.ref p0)) := by rw [List.getElem?_set_ne ij]; exact hj'
    have cur : ((dss.take n).map (· ++ [yv]) ++ dss.drop n)[n]? = some dss[n] := by
      rw [List.getElem?_append_right (by rw [List.length_map, List.length_take]; omega), List.length_map, List.length_take, Nat.min_eq_left (by omega), Nat.sub_self, List.getElem?_drop, Nat.add_zero, List.getElem?_eq_getElem hlt]
    show ∃ _, _
    obtain ⟨v', A', f1, ⟨p', ps', ep, rfl, f2, f3⟩, _, _⟩ := st2.foc (jset _)
    rw [hj2] at f1
    cases f1
    cases ep
    rw [hp0] at f2
    have eps : ps' = ps := (List.map_inj_right (f := V.ref) (fun x y z => by injection z)).mp (by
      have := Option.some.inj f2
      injection this with this
      exact this.symm)
    subst eps
    obtain ⟨q1, vs, g1, g2, g3⟩ := ownLs_get f3 cur
    rw [hq0] at g1
    cases g1
    refine ⟨.ref q0, List.getElem?_set_self (by omega), .inl ⟨rfl, vs, SqL.of g2⟩, st2.const va hk fun v G1 H1 st3 e3 up d3 => ?_⟩
    have g2' := up _ _ g2
    have hp1 := up _ _ hp0
    refine ⟨q0, vs, v, rfl, rfl, g2', by rw [dpa_len g3]; exact hlen _ (List.getElem_mem hlt), ?_⟩
    clear f3
    obtain ⟨v', A', f1, ⟨p', ps2, ep, rfl, f2, f3⟩, nd2, wr⟩ := st3.foc (jset _)
    rw [hj2] at f1
    cases f1
    cases ep
    rw [hp1] at f2
    have eps : ps2 = ps' := (List.map_inj_right (f := V.ref) (fun x y z => by injection z)).mp (by
      have := Option.some.inj f2
      injection this with this
      exact this.symm)
    subst eps
    obtain ⟨n1, n2⟩ := List.nodup_cons.mp nd2
    have qm : q0 ∈ ps2 := List.mem_of_getElem? hq0
    have ne : p0 ≠ q0 := fun z => n1 (z ▸ qm)
    refine ⟨by omega, hj2, by rw [upd_ne ne]; exact hp1, G1, ?_, e'.trans e3⟩
    have st4 := wr (upd H1 q0 (.lst (vs ++ [v]))) (.lls (((dss.take n).map (· ++ [yv]) ++ dss.drop n).set n (dss[n] ++ [yv]))) (p0 :: ps2) (fun a ha => upd_ne fun z => ha (by rw [z]; exact List.mem_cons_of_mem _ qm)) (fun a ha => .inl ha) (fun a ha => ?_) nd2
      ⟨p0, ps2, rfl, rfl, by rw [upd_ne ne]; exact hp1, ownLs_set (dpa_app (dpa_mono e3 _ _ g3) (.cons d3 .nil)) f3 n2 hq0⟩
    · rw [List.set_set] at st4
      have e5 : ((dss.take n).map (· ++ [yv]) ++ dss.drop n).set n (dss[n] ++ [yv]) = (dss.take (n + 1)).map (· ++ [yv]) ++ dss.drop (n + 1) := by
        rw [List.set_append_right _ _ (by rw [List.length_map, List.length_take]; omega), List.length_map, List.length_take, Nat.min_eq_left (by omega), Nat.sub_self, List.drop_eq_getElem_cons hlt, List.set_cons_zero, List.take_succ_eq_append_getElem hlt, List.map_append, List.append_assoc]
        rfl
      rw [e5] at st4
      exact st4
    · by_cases hq : a = q0
      · rw [hq, upd_same]; exact fun z => nomatch z
      · rw [upd_ne hq]
        rcases List.mem_cons.mp ha with rfl | z
        · rw [hp1]; exact fun z => nomatch z
        · exact ownLs_here f3 a z
  · have e : n = dss.length := by omega
    subst e
    rw [List.take_length, List.drop_length, List.append_nil] at st'
    exact .inl ⟨⟨_, SqL.of hp0, by rw [List.length_map]; omega⟩, k.nx _ s' G' H' st' e' q⟩
end
section
variable {K : PySem.W.Frag} {B : Base} {G H : Hp} {c : Ctx} {s : L2.St}
theorem Stt.lent (st : Stt K B c s G H) {j : Nat} {u : Lt} {R : Res} (e : c[j]? = some (.o (some u) R)) : s[j]? = some (some u.v) := by
  obtain ⟨A, r, w⟩ := st.ex
  obtain ⟨v, A1, h1, h2, h3, _⟩ := r.focus w.nd e
  have : v = u.v := h3.1
  rw [← this]; exact h1
end
section
variable {X : Cx} {pos : Pos}
/-- for y in xs, xs a list that came in from outside and stays as it is -/
def zForN (j : Nat) (t : TGd) (tb : TSd) : TSd := fun E c => slO c j fun w R => asR R fun ds => ∃ u, w = some u ∧ ∃ I : Nat → Ctx → Prop, I 0 c ∧ (∀ i c', I i c' → c'[j]? = some (.o (some u) (.lst ds))) ∧ (∀ i y c', ds[i]? = some y → I i c' → t y c' fun c2 => tb { E with nx := I (i + 1), ct := I (i + 1), bk := E.nx } c2) ∧ ∀ c', I ds.length c' → E.nx c'
theorem slO_in : ∀ {c : Ctx} {i : Nat} {w : Option Lt} {R : Res} {Q : Option Lt → Res → Prop}, c[i]? = some (.o w R) → Q w R → slO c i Q
  | [], _, _, _, _, e, _ => by simp at e
  | x :: c, 0, w, R, Q, e, q => by
    have : x = .o w R := by simpa using e
    subst this
    exact q
  | x :: c, i + 1, w, R, Q, e, q => by
    rw [slO_s]
    exact slO_in (by simpa using e) q
theorem loop_n {j : Nat} {t : TGd} {tb : TSd} {E : De} {c : Ctx} {u : Lt} {ds : List PyData} (I : Nat → Ctx → Prop) (e : slO c j fun w R => w = some u ∧ R = .lst ds) (h0 : I 0 c) (hj : ∀ i c', I i c' → c'[j]? = some (.o (some u) (.lst ds)))
    (turn : ∀ i y c' (N : Ctx → Prop), ds[i]? = some y → I i c' → (∀ c, I (i + 1) c → N c) → t y c' fun c2 => tb { E with nx := N, ct := N, bk := E.nx } c2) (fin : ∀ c', I ds.length c' → E.nx c') : zForN j t tb E c := by
  obtain ⟨w, R, e0, rfl, rfl⟩ := slO_of e
  exact slO_in e0 ⟨u, rfl, I, h0, hj, fun i y c' hy hI => turn i y c' _ hy hI fun _ h => h, fin⟩
theorem s_forN (j : Nat) {tg : Expr} {x : Str} {p : Pos} {body : List Stmt} {t : TGd} {tb : TSd} {js : List Nat} (hp : PassesOwn (model X.prog X.w) X.A X.env X.xe) (hc : X.calm = true) (hg : DG X tg js t) (hb : DSs X body tb)
    (hN : X.N[j]? = some x := by rfl) (hv : Vis X.env.scope x := by first | exact Or.inl rfl | exact Or.inr (Or.inl rfl) | exact Or.inr (Or.inr rfl)) (hd : (x == ("__debug__" : Str)) = false := by decide)
    (hcd : (x == ("__classdict__" : Str)) = false := by decide)
    (hs : ∀ z, foldedSetIterable (.Name x p) X.env z = pure z := by intro _; rfl) : DS X (.For tg (.Name x p) body [] pos) (zForN j t tb) := by
  obtain ⟨g, pg, vg⟩ := hg.ex
  obtain ⟨ts, pb, vb⟩ := hb.ex
  refine ⟨_, ps_for hp hc (pi_listN (pe_var hN hv hd hcd)) pg pb hs, fun B c s G H D E st k q => ?_⟩
  obtain ⟨w, R, e0, q⟩ := slO_of q
  obtain ⟨ds, rfl, u, rfl, I, i0, hj, turn, fin⟩ := asR_of q
  obtain ⟨p, vs, e1, h1, h2, _⟩ := st.own e0
  have eu := st.lent e0
  rw [e1] at eu
  have eu : u.v = .ref p := by injection eu with eu; injection eu with eu; exact eu.symm
  refine ⟨.ref p, e1, p, rfl, ⟨_, SqL.of h1⟩, ?_⟩
  have cur : ∀ {i c' s' G' H'}, I i c' → Stt X.K B c' s' G' H' → ∃ vs', H' p = some (.lst vs') ∧ DpAll X.K G' vs' ds := fun {i c' s' G' H'} hI st' => by
    have e2 := hj i c' hI
    obtain ⟨p', vs', e3, h3, h4, _⟩ := st'.own e2
    have e4 := st'.lent e2
    rw [e3, eu] at e4
    cases e4
    exact ⟨vs', h3, h4⟩
  refine ⟨fun i m s' H' => m = ds.length - i ∧ i ≤ ds.length ∧ ∃ c' G', Stt X.K B c' s' G' H' ∧ Same G G' ∧ I i c', ⟨ds.length, rfl, Nat.zero_le _, c, G, st, Same.refl _, i0⟩, ?_⟩
  rintro i m s' H' ⟨rfl, hi, c', G', st', e', hI⟩
  obtain ⟨vs', h3, h4⟩ := cur hI st'
  have hl := dpa_len h4
  by_cases hlt : i < ds.length
  · obtain ⟨x, hx, dx⟩ := dpa_get h4 (List.getElem?_eq_getElem hlt)
    refine .inr ⟨⟨_, x, SqL.of h3, hx⟩, fun s2 H2 => ∃ c2 G2, Stt X.K B c2 s2 G2 H2 ∧ Same G G2 ∧ I (i + 1) c2, fun s2 H2 ⟨c2, G2, st2, e2, hI2⟩ => ⟨ds.length - (i + 1), by omega, rfl, hlt, c2, G2, st2, e2, hI2⟩, fun z H2 hy => ?_⟩
    obtain ⟨rfl, hz⟩ := hy
    have := hz _ (SqL.of h3)
    rw [hx] at this
    cases this
    refine vg B c' s' G' H2 x ds[i] _ _ st' dx (turn i ds[i] c' (List.getElem?_eq_getElem hlt) hI) fun c3 s3 st3 _ q3 => ?_
    exact vb B c3 s3 G' H2 _ { E with nx := I (i + 1), ct := I (i + 1), bk := E.nx } st3 ⟨fun c4 s4 G4 H4 st4 e4 q4 => ⟨c4, G4, st4, e'.trans e4, q4⟩, fun r c4 v s4 G4 H4 st4 e4 q4 => k.rt r c4 v s4 G4 H4 st4 (e'.trans e4) q4, fun c4 s4 G4 H4 st4 e4 q4 => k.nx c4 s4 G4 H4 st4 (e'.trans e4) q4, fun c4 s4 G4 H4 st4 e4 q4 => ⟨c4, G4, st4, e'.trans e4, q4⟩⟩ q3
  · have e : i = ds.length := by omega
    subst e
    exact .inl ⟨⟨_, SqL.of h3, by omega⟩, k.nx c' s' G' H' st' e' (fin c' hI)⟩
end
end Dl

/-! sorted of a tuple of texts; sorted texts are one list. -/
namespace PyProof.Rows
open PySem PySem.Spec
section
variable {prog : Program} {w : World} {A : Around} {E : Value → Shared → Prop} {s : Shared}
theorem collect_tuple {l : Addr} {vs : List Value} {Q : List Value → Shared → Prop} (hl : s.heap.IsTuple l vs.toArray)
    (h : Q vs { s with heap := (s.heap.push (seqObj "list" #[] 0)).update s.heap.objs.size (Obj.mapSeq (· ++ vs.toArray)) }) (hsz : vs.length ≤ sizeLine) :
    wpAny (model prog w) A (collect (.ref l)) Q E s := by
  obtain ⟨o, ho, hc, n, hd⟩ := id hl
  unfold collect
  refine wpAny_bind (wpAny_runValue (codeAny_builtin entry_proto_collect' ?_))
  show wpAny _ _ (do again (.builtin "list.__iadd__" ⟨[← newList [], .ref l], []⟩)) _ _ s
  refine wpAny_bind (wpAny_newList (wpAny_pure ⟨Code.quiet_builtin _ (by decide +kernel), codeAny_builtin entry_list_iadd' ?_⟩))
  show wpAny _ _ (Builtin.List.listExtendWith (.ref s.heap.objs.size) (.ref l) (.ref s.heap.objs.size)) _ _ { s with heap := s.heap.push (seqObj "list" #[] 0) }
  unfold Builtin.List.listExtendWith
  have ho' : (s.heap.push (seqObj "list" #[] 0)).get? l = some o := Heap.get?_push_of_some _ ho
  refine wpAny_bind (wpAny_typeOf (T := "tuple") ⟨o, ho', hc⟩ ?_)
  have ht : (Value.type "tuple" == Value.type "tuple") = true := by rfl
  rw [if_pos (by rw [ht]; simp)]
  refine wpAny_bind (listItems_at ho' hd ?_)
  refine wpAny_bind (listItems_at (xs := #[]) (n := 0) (Heap.get?_push_size _ rfl) rfl ?_)
  rw [if_neg (by simp)]
  refine wpAny_bind (listUpdate_at (xs := #[]) (n := 0) (Heap.get?_push_size _ rfl) rfl ?_ (Nat.zero_le _) (by show (#[] ++ vs.toArray).size ≤ sizeLine + 1; simp only [Array.size_append, List.size_toArray, List.length_nil]; omega))
  refine wpAny_pure ?_
  show wpAny (model prog w) A (do
      let o ← load s.heap.objs.size
      match o.data with
      | .seq xs _ => pure xs.toList
      | _ => unsupported "internal:collect") Q E { s with heap := (s.heap.push (seqObj "list" #[] 0)).update s.heap.objs.size (Obj.mapSeq (· ++ vs.toArray)) }
  refine wpAny_bind (wpAny_load (get?_update_seq (Heap.get?_push_size _ rfl) _) ?_)
  show wpAny _ _ (pure ((#[] : Array Value) ++ vs.toArray).toList) Q E _
  rw [show ((#[] : Array Value) ++ vs.toArray).toList = vs by simp]
  exact wpAny_pure h
theorem sortedKT {κ : KeyKind} (hO : κ.OneLt) {l : Addr} {vs : List Value} {Q : Value → Shared → Prop} (hl : s.heap.IsTuple l vs.toArray) (h0 : KeysOf κ (pairsOf vs)) (hkk : ∀ v₁ v₂ rest, vs = v₁ :: v₂ :: rest → keyKind' (v₁ :: v₂ :: rest).toArray = pure oneType') (h64 : vs.length < 64)
    (h : ∀ st' : SortSt, (arrOf st').Perm (pairsOf vs) → SortedToK κ (arrOf st') (pairsOf vs).size → Q (.ref (s.heap.objs.size + 1)) { s with heap := sortedAll s.heap vs ((arrOf st').map (·.2)) }) :
    wpAny (model prog w) A (call (.builtin "sorted") [.ref l]) Q E s := by
  have hL : vs.length ≤ sizeLine := by rw [sizeLine_eq]; omega
  refine Calls.call_function_entry kind_sorted plain_sorted entry_sorted (args_sorted1 _) ?_
  unfold Builtin.«sorted»
  refine wpAny_bind (m := checkCount "sorted" 1 1 _) (wpAny_pure ?_)
  refine wpAny_bind (collect_tuple hl ?_ hL)
  refine wpAny_bind (wpAny_newList ?_)
  have hsz : ((s.heap.push (seqObj "list" #[] 0)).update s.heap.objs.size (Obj.mapSeq (· ++ vs.toArray))).objs.size = s.heap.objs.size + 1 := by
    rw [Heap.size_update, size_push']
  have hoL : (((s.heap.push (seqObj "list" #[] 0)).update s.heap.objs.size (Obj.mapSeq (· ++ vs.toArray))).push (seqObj "list" vs.toArray 0)).get? (s.heap.objs.size + 1) = some (seqObj "list" vs.toArray 0) := by
    rw [← hsz]; exact Heap.get?_push_size _ rfl
  show wpAny _ _ _ _ _ { s with heap := ((s.heap.push (seqObj "list" #[] 0)).update s.heap.objs.size (Obj.mapSeq (· ++ vs.toArray))).push (seqObj "list" vs.toArray 0) }
  rw [hsz]
  refine wpAny_bind (wpAny_holding (wpAny_call_entry slot_list_sort ⟨_, hoL, rfl⟩ entry_list_sort (list_sort_treeK hO hoL h0 hkk h64 fun st' a1 a2 => ⟨_, rfl, ?_⟩) (args_list_sort _)))
  exact wpAny_pure ⟨_, rfl, h st' a1 a2⟩
theorem sorted_strsT {l : Addr} {vs : List Value} {ss : List Str} {Q : Value → Shared → Prop} (hl : s.heap.IsTuple l vs.toArray) (hS : StrsAre vs ss) (h64 : vs.length < 64)
    (h : ∀ (out : Array Value) (ss' : List Str), StrsAre out.toList ss' → ss'.Perm ss → sortedS ss' = true → Q (.ref (s.heap.objs.size + 1)) { s with heap := sortedAll s.heap vs out }) :
    wpAny (model prog w) A (call (.builtin "sorted") [.ref l]) Q E s := by
  refine sortedKT strKind_oneLt hl hS.keysOf (fun v₁ v₂ rest e => keyKind_strs (by rw [← e]; exact hS)) h64 fun st' hp hs => ?_
  obtain ⟨ss', h1, h2, h3⟩ := sorted_out_str hS hp hs
  exact h _ ss' h1 h2 h3
end
end PyProof.Rows
namespace Dl
open PySem PySem.Spec PyProof.Rows L2
def rSortedST (K : PySem.W.Frag) : List V → Hp → VK → Prop := fun vs H Q => ∃ (a : Addr) (ns : List Str), vs = [V.ref a] ∧ SqT K H a (ns.map V.str) ∧ ns.length < 64 ∧
  ∀ (ns' : List Str) (l : Addr), ns'.Perm ns → sortedS ns' = true → H l = none → Q (.ref l) (upd H l (.lst (ns'.map V.str)))
theorem cr_sortedST {X : Cx} : CallR X (.builtin "sorted") (rSortedST X.K) := by
  intro pins s σ H vs us Q I r h
  obtain ⟨a, xs, rfl, hs, h64, q⟩ := h
  obtain ⟨its, rv, hl, _⟩ := I.tuple hs
  rw [Vals.ref1 r]
  have hlen0 := rv.length
  rw [List.length_map] at hlen0
  refine PyProof.Rows.sorted_strsT hl rv.strs (by rw [← hlen0]; exact h64) fun out ys h1 h2 h3 => ?_
  obtain ⟨ep, he'⟩ := PyProof.Rows.sortedAll_at s.heap its out
  have hlen : (ys.map V.str).length ≤ sizeLine := by rw [List.length_map, h2.length_eq, sizeLine_eq]; omega
  exact ⟨.ref _, upd H (s.heap.objs.size + 1) (.lst (ys.map V.str)), I.laid (t' := s.toks) (fun _ _ => PyProof.Rows.sortedAll_old) (Nat.le_succ _) ⟨hlen, out.toList, ep, vals_of_strs h1, he'⟩, rfl, q ys _ h2 h3 (I.hok.fresh (Nat.le_succ _))⟩
section
variable {X : Cx} {a : Expr} {ta : TD} {p pos : Pos}
def fSortST : PyData → (Res → Prop) → Prop := fun x Q => asT x fun ds => asSs ds fun ns => ns.length < 64 ∧ ∀ ns' : List Str, ns'.Perm ns → sortedS ns' = true → Q (.lst (ns'.map PyData.str))
theorem o_sortST (hm : X.mg "sorted" = none) (ha : DV X a ta) (hg : Gl X "sorted" := by rfl) (he : starEach [a] X.env = (false, eval a X.env) :: starEach [] X.env := by rfl) (hpl : (backTo pos (starEach [] X.env)).any (·.1) = false := by rfl) : DO X (.Call (.Name "sorted" p) [a] [] pos) (o1 fSortST ta) := by
  refine o_oneB cr_sortedST (fun B c s G H v x Q R st d h k => ?_) hm (by decide +kernel) ha hg (by decide) (by decide) he hpl
  obtain ⟨ds, rfl, ns, rfl, hl, q⟩ := asT_of h
  obtain ⟨p, us, rfl, h1, h2⟩ := dp_tup (d.oth fun _ z => nomatch z)
  have := dpa_strs_inv h2
  subst this
  exact ⟨p, ns, rfl, same_t st.sub h1, hl, fun ns' l h1 h2 hn => k _ _ _ _ (st.laidL hn (dpa_strs ns')) (Same.refl _) (q ns' h1 h2)⟩
end
/-! ### [elt for tg in xs if ..], xs a list of one's own -/
def zCompJ (j : Nat) (w : Option Lt) (vs : List Nat) (tg : TGd) (tt : TB) (te : TD) (ys : List PyData) (c1 : Ctx) (Q : List PyData → Ctx → Prop) : Prop := ∃ I : Nat → List PyData → Ctx → Prop, I 0 [] (clr vs c1) ∧ (∀ i acc c, I i acc c → c[j]? = some (.o w (.lst ys))) ∧
  (∀ i y acc c, ys[i]? = some y → I i acc c → tg y c fun c2 => tt c2 fun b c3 => if b = true then te c3 fun x c4 => acc.length < sizeLine ∧ I (i + 1) (acc ++ [x]) (clr vs c4) else I (i + 1) acc (clr vs c3)) ∧
  ∀ acc c, I ys.length acc c → Q acc (Dl.rest c1 vs (clr2 vs c))
def oLcN (j : Nat) (vs : List Nat) (tg : TGd) (tt : TB) (te : TD) : TR := fun c Q => slO c j fun w R => asR R fun ys => zCompJ j w vs tg tt te ys c fun acc c2 => Q (.lst acc) c2
section
variable {X : Cx}
theorem lc_vN {K : PySem.W.Frag} {j : Nat} {tp : TE} {tg : TGd} {tt : TB} {te : TD} {js vs : List Nat} (htp : ∀ (s : L2.St) (H : Hp) (R : VK) (v : V), s[j]? = some (some v) → R v H → tp s H R) (hj : ∀ j ∈ js, j ∈ vs) (hjv : j ∉ vs) :
    DOv K (tLc (fun σ H R => tp σ H fun x H1 => ∃ a, x = .ref a ∧ (∃ xs, SqL K H1 a xs) ∧ R (Itl K a) H1) (rdG K js tg) (rdT K tt) (rdE K te) vs) (oLcN j vs tg tt te) := by
  intro B c s G H Q R st q k
  obtain ⟨w, R0, e0, q⟩ := slO_of q
  obtain ⟨ys, rfl, I, i0, hI0, turn, fin⟩ := asR_of q
  obtain ⟨p, xs, e1, h1, h2, _⟩ := st.own e0
  refine htp _ _ _ _ e1 ⟨p, rfl, ⟨_, SqL.of h1⟩, ?_⟩
  intro D hD
  have cur : ∀ {i acc c' G' H'}, I i acc c' → Stt K B (.o none (.lst acc) :: c') (some (.ref D) :: L2.wipe s vs) G' H' → ∃ xs', H' p = some (.lst xs') ∧ DpAll K G' xs' ys := fun {i acc c' G' H'} hI st' => by
    obtain ⟨p', xs', e3, h3, h4, _⟩ := st'.own (j := j + 1) (wo := w) (ds := ys) (by rw [List.getElem?_cons_succ]; exact hI0 i acc c' hI)
    rw [List.getElem?_cons_succ, wipe_out hjv, e1] at e3
    cases e3
    exact ⟨xs', h3, h4⟩
  refine ⟨fun i m H => m = ys.length - i ∧ i ≤ ys.length ∧ ∃ acc c' G', Stt K B (.o none (.lst acc) :: c') (some (.ref D) :: L2.wipe s vs) G' H ∧ Same G G' ∧ I i acc c', ⟨ys.length, by simp, Nat.zero_le _, [], _, G, (st.wipe vs).laidL hD .nil, Same.refl _, i0⟩, ?_⟩
  rintro i m H2 ⟨rfl, hi, acc, c', G', st', e', hI⟩
  obtain ⟨xs', h3, h4⟩ := cur hI st'
  have hl := dpa_len h4
  by_cases hlt : i < ys.length
  · obtain ⟨x0, hx0, dx⟩ := dpa_get h4 (List.getElem?_eq_getElem hlt)
    refine .inr ⟨⟨_, x0, SqL.of h3, hx0⟩, fun H3 => ∃ acc c' G', Stt K B (.o none (.lst acc) :: c') (some (.ref D) :: L2.wipe s vs) G' H3 ∧ Same G G' ∧ I (i + 1) acc c', fun H3 ⟨a3, c3, G3, st3, e3, i3⟩ => ⟨ys.length - (i + 1), by omega, rfl, hlt, a3, c3, G3, st3, e3, i3⟩, fun x H3 hy => ?_⟩
    obtain ⟨rfl, hz⟩ := hy
    have := hz _ (SqL.of h3)
    rw [hx0] at this
    cases this
    obtain ⟨D', us, B', hv, hDl, hacc, stU, back⟩ := st'.under
    cases hv
    refine ⟨B', c', G', ys[i], _, stU, dx, turn i ys[i] acc c' (List.getElem?_eq_getElem hlt) hI, fun c3 s3 st3 but q3 => ⟨But.wipe but hj, ?_⟩⟩
    have hw : L2.wipe s3 vs = L2.wipe s vs := But.wipe but hj
    refine ⟨B', c3, G', _, st3, q3, fun b c4 G4 H4 st4 e4 q4 => ?_⟩
    cases b with
    | false =>
      rw [if_neg Bool.false_ne_true] at q4 ⊢
      obtain ⟨e5, _, st5, _⟩ := back _ _ _ _ (st4.wipe vs)
      rw [hw] at st5
      exact ⟨acc, _, G4, st5, e'.trans e5, q4⟩
    | true =>
      rw [if_pos rfl] at q4 ⊢
      refine ⟨B', c4, G4, _, st4, q4, fun z d c5 G5 H5 st5 e5 dz q5 => ?_⟩
      obtain ⟨e6, hD6, _, up6⟩ := back _ _ _ _ (st5.wipe vs)
      have hl := dpa_len hacc
      have st7 := up6 (us ++ [z]) (acc ++ [d]) (dpa_app (dpa_mono e6 _ _ hacc) (.cons dz .nil))
      rw [hw] at st7
      exact ⟨us, hD6, by rw [hl]; exact q5.1, acc ++ [d], _, G5, st7, e'.trans e6, q5.2⟩
  · have e : i = ys.length := by omega
    subst e
    refine .inl ⟨⟨_, SqL.of h3, by omega⟩, ?_⟩
    exact k (.ref D) (.lst acc) _ G' H2 (Stt.rest st e' (Stt.unwipe st')) e' (fin acc c' hI)
variable {elt tg : Expr} {ifs : List Expr} {scope : Scope} {pos px : Pos} {g : TGd} {tt : TB} {te : TD} {js : List Nat} {x : Str}
theorem o_lcN (j : Nat) (own : List (Str × Nat)) (hc : X.calm = true) (hN : X.N.Nodup) (ok : blkC X.N X.env.scope scope own = true)
    (hg : ∀ (s : Shared) (H : Hp) (C : Addr) (cl : List (Str × Addr)) (fp : List Addr), DG (X.blk s H scope (compEnvC scope cl C X.env) fp) tg js g) (ht : ∀ (s : Shared) (H : Hp) (C : Addr) (cl : List (Str × Addr)) (fp : List Addr), DTs (X.blk s H scope (compEnvC scope cl C X.env) fp) ifs tt)
    (he : ∀ (s : Shared) (H : Hp) (C : Addr) (cl : List (Str × Addr)) (fp : List Addr), DE (X.blk s H scope (compEnvC scope cl C X.env) fp) elt te) (hj : ∀ j ∈ js, j ∈ own.map (·.2)) (hjv : j ∉ own.map (·.2) := by decide)
    (hNj : X.N[j]? = some x := by rfl) (hv : Vis X.env.scope x := by first | exact Or.inl rfl | exact Or.inr (Or.inl rfl) | exact Or.inr (Or.inr rfl)) (hd : (x == ("__debug__" : Str)) = false := by decide)
    (hcd : (x == ("__classdict__" : Str)) = false := by decide) (hs : ∀ z, foldedSetIterable (.Name x px) X.env z = pure z := by intro _; rfl) :
    DO X (.ListComp elt [⟨tg, .Name x px, ifs, 0⟩] scope pos) (oLcN j (own.map (·.2)) g tt te) :=
  ⟨_, pe_lc (g := rdG X.K js g) (tt := rdT X.K tt) (te := rdE X.K te) hc hN (pi_listN (pe_var hNj hv hd hcd)) (blkOk_by ok) (fun s H C cl fp => (hg s H C cl fp).pg) (fun s H C cl fp => (ht s H C cl fp).pt) (fun s H C cl fp => (he s H C cl fp).pe) hs, lc_vN (fun _ _ _ v e r => ⟨v, e, r⟩) hj hjv⟩
theorem compJ_mm {α : Type} {f0 : α → PyData} {zs : List α} {j : Nat} {w : Option Lt} {vs : List Nat} {tg : TGd} {te : TD} {c1 : Ctx} {Q : List PyData → Ctx → Prop} (f : α → PyData) (hl : zs.length ≤ sizeLine) (hjc : (clr vs c1)[j]? = some (.o w (.lst (zs.map f0))))
    (h : ∀ z ∈ zs, ∀ (N : PyData → Ctx → Prop), (∀ c, clr vs c = clr vs c1 → N (f z) c) → tg (f0 z) (clr vs c1) fun c2 => te c2 N)
    (q : Q (zs.map f) (Dl.rest c1 vs (clr2 vs (clr vs c1)))) : zCompJ j w vs tg bYes te (zs.map f0) c1 Q := by
  refine ⟨fun i acc c => c = clr vs c1 ∧ acc = (zs.take i).map f, ⟨rfl, by simp⟩, fun i acc c hI => by rw [hI.1]; exact hjc, fun i y acc c hy hI => ?_, fun acc c hI => ?_⟩
  · obtain ⟨rfl, rfl⟩ := hI
    obtain ⟨z, hz, rfl⟩ := map_get hy
    have hi := get_lt hz
    refine h z (get_mem hz) (fun x c4 => ((zs.take i).map f).length < sizeLine ∧ (clr vs c4 = clr vs c1 ∧ (zs.take i).map f ++ [x] = (zs.take (i + 1)).map f)) fun c hc => ⟨?_, hc, ?_⟩
    · rw [List.length_map, List.length_take]; omega
    · exact (take_map hz).symm
  · obtain ⟨rfl, rfl⟩ := hI
    rw [List.length_map, List.take_length]
    exact q
end
end Dl

/-! sorted of tuples of numbers and texts that differ where their kinds do. -/
namespace SrtT
open PySem PySem.Spec PyProof.Rows SrtO PySem.W
abbrev Tk := Int ⊕ List Nat
abbrev lexB (a b : List Tk) : Bool := PyProof.Rows.lexLt itemOrd a b
def vTk : Value → Tk
  | .int n _ => .inl n
  | .str x _ => .inr x.cps.toList
  | _ => .inl 0
def isA : Value → Value → Prop
  | .int _ _, .int _ _ => True
  | .str _ _, .str _ _ => True
  | _, _ => False
def okv : List Value → List Value → Prop
  | x :: xs, y :: ys => isA x y ∧ (vTk x = vTk y → okv xs ys)
  | _, _ => True
section
variable {prog : Program} {w : World} {A : Around} {E : Value → Shared → Prop} {s : Shared}
theorem lexU {b fin : Bool} {Q : Bool → Shared → Prop} : ∀ (ps qs : List Value) (i : Nat), okv ps qs → fin = decide (ps.length < qs.length) → Q (lexB (ps.map vTk) (qs.map vTk)) s → KatLex prog w A b fin Q (ps.zip qs) i s
  | [], [], i, _, hf, h => by
    have e : fin = false := by rw [hf]; rfl
    subst e
    exact kat_nil h
  | [], q :: qs, i, _, hf, h => by
    have e : fin = true := by rw [hf]; exact decide_eq_true (Nat.succ_pos _)
    subst e
    exact kat_nil h
  | p :: ps, [], i, _, hf, h => by
    have e : fin = false := by rw [hf]; exact decide_eq_false (Nat.not_lt_zero _)
    subst e
    exact kat_nil h
  | p :: ps, q :: qs, i, hk, hf, h => by
    have hf' : fin = decide (ps.length < qs.length) := by
      rw [hf]; simp only [List.length_cons, Nat.add_lt_add_iff_right]
    obtain ⟨ha, hr⟩ := hk
    have h : Q (lexB (vTk p :: ps.map vTk) (vTk q :: qs.map vTk)) s := h
    match p, q, ha with
    | .int n t, .int m u, _ =>
      refine kat_cons (wpAny_eqBool_int ?_)
      refine kat_go (fun e => kat_yes ?_) (fun e => kat_no ?_)
      · have hnm : n = m := by simpa using e
        subst hnm
        rw [lexB, show vTk (.int n t) = .inl n from rfl, show vTk (.int n u) = .inl n from rfl, lex_self] at h
        exact lexU ps qs (i + 1) (hr rfl) hf' h
      · have hnm : ¬ n = m := by simpa using e
        rw [lexB, lex_diff (fun x => hnm (Sum.inl.inj x))] at h
        exact oneLt_any_int h
    | .str x t, .str y u, _ =>
      refine kat_cons (wpAny_eqBool_str ?_)
      refine kat_go (fun e => kat_yes ?_) (fun e => kat_no ?_)
      · have hxy : x = y := of_decide_eq_true e
        subst hxy
        rw [lexB, show vTk (.str x t) = .inr x.cps.toList from rfl, show vTk (.str x u) = .inr x.cps.toList from rfl, lex_self] at h
        exact lexU ps qs (i + 1) (hr rfl) hf' h
      · have hxy : ¬ x = y := of_decide_eq_false e
        have hne : x.cps.toList ≠ y.cps.toList := fun hl => hxy (str_of_cps hl)
        rw [lexB, lex_diff (fun z => hne (Sum.inr.inj z))] at h
        exact oneLt_any_str h
/-- a tuple of the heap -/
def TupAt (h : Heap) (v : Value) (xs : List Value) : Prop := ∃ a o its n, v = .ref a ∧ h.get? a = some o ∧ o.cls = .type "tuple" ∧ o.data = .seq its n ∧ its.toList = xs
theorem TupAt.keeps {h h' : Heap} {v : Value} {xs : List Value} (p : TupAt h v xs) (k : ∀ b o, h.get? b = some o → o.cls = .type "tuple" → h'.get? b = some o) : TupAt h' v xs := by
  obtain ⟨a, o, its, n, e, ho, hc, hd, hx⟩ := p
  exact ⟨a, o, its, n, e, k _ _ ho hc, hc, hd, hx⟩
theorem cmpU {vs : List Value} {k : Value → List Tk} (hp : ∀ v ∈ vs, ∀ u ∈ vs, ∃ xs ys, TupAt s.heap v xs ∧ TupAt s.heap u ys ∧ k v = xs.map vTk ∧ k u = ys.map vTk ∧ okv xs ys) :
    Cmp prog w A s (tuples' true) (fun p => p.1 ∈ vs) (lt2 fun v u => lexB (k v) (k u)) := by
  intro p q hm hm'
  obtain ⟨xs, ys, ⟨a, o, its, n, e, ho, hc, hd, rfl⟩, ⟨a', o', its', n', e', ho', hc', hd', rfl⟩, k1, k2, hk⟩ := hp _ hm _ hm'
  show wpAny (model prog w) A (keyLt' (tuples' true) p.1 q.1) (fun r s' => s' = s ∧ r = lexB (k p.1) (k q.1)) (fun _ _ => False) s
  rw [k1, k2, e, e']
  exact kat_lt ho hd ho' hd' (lexU _ _ 0 hk (by rw [Array.length_toList, Array.length_toList]) ⟨rfl, rfl⟩)
theorem firstsU {h : Heap} {f0 : Value} : ∀ {vs : List Value}, (∀ v ∈ vs, ∃ x xs, TupAt h v (x :: xs) ∧ isA f0 x) → ∃ fs, KatTups h vs fs ∧ fs.length = vs.length ∧ ∀ f ∈ fs, isA f0 f
  | [], _ => ⟨[], KatTups.nil, rfl, fun _ hm => by simp at hm⟩
  | v :: vs, hp => by
    obtain ⟨fs, h1, h2, h3⟩ := firstsU (vs := vs) fun v' hm => hp v' (List.mem_cons_of_mem _ hm)
    obtain ⟨x, xs, ⟨a, o, its, n, e, ho, hc, hd, hx⟩, hi⟩ := hp v List.mem_cons_self
    subst e
    refine ⟨x :: fs, KatTups.cons ho hc hd (by rw [← Array.getElem?_toList, hx]; rfl) h1, by rw [List.length_cons, List.length_cons, h2], fun f hm => ?_⟩
    rcases List.mem_cons.mp hm with rfl | hm
    · exact hi
    · exact h3 f hm
theorem okv_first {x y : Value} {xs ys : List Value} (h : okv (x :: xs) (y :: ys)) : isA x y := h.1
theorem sortableU {a : Addr} {vs : List Value} {k : Value → List Tk} (h0 : 0 < vs.length) (hn : ∀ v ∈ vs, ∃ x xs, TupAt s.heap v (x :: xs)) (hp : ∀ v ∈ vs, ∀ u ∈ vs, ∃ xs ys, TupAt s.heap v xs ∧ TupAt s.heap u ys ∧ k v = xs.map vTk ∧ k u = ys.map vTk ∧ okv xs ys)
    (ha : ∀ o, s.heap.get? a = some o → o.cls ≠ .type "tuple") : SortableO prog w A s a vs fun v u => lexB (k v) (k u) := by
  intro h' keep
  have kp : ∀ b o, s.heap.get? b = some o → o.cls = .type "tuple" → h'.get? b = some o := fun b o e c => keep b o (fun z => by subst z; exact ha o e c) e
  have uniq : ∀ {v xs ys}, TupAt s.heap v xs → TupAt s.heap v ys → xs = ys := by
    rintro v xs ys ⟨a, o, its, n, e, ho, hc, hd, hx⟩ ⟨a', o', its', n', e', ho', hc', hd', hx'⟩
    rw [e] at e'
    cases e'
    rw [ho] at ho'
    cases ho'
    rw [hd] at hd'
    cases hd'
    exact hx.symm.trans hx'
  obtain ⟨v0, hv0⟩ : ∃ v, v ∈ vs := List.exists_mem_of_length_pos h0
  obtain ⟨f0, r0, t0⟩ := hn v0 hv0
  obtain ⟨fs, h1, h2, h3⟩ := firstsU (h := h') (f0 := f0) (vs := vs) fun v hv => by
    obtain ⟨x, xs, t1⟩ := hn v hv
    obtain ⟨as, bs, q1, q2, _, _, q3⟩ := hp v0 hv0 v hv
    rw [uniq q1 t0, uniq q2 t1] at q3
    exact ⟨x, xs, t1.keeps kp, okv_first q3⟩
  refine ⟨tuples' true, fun Q E hq => ?_, cmpU fun v hv u hu => by
    obtain ⟨xs, ys, q1, q2, q3⟩ := hp v hv u hu
    exact ⟨xs, ys, q1.keeps kp, q2.keeps kp, q3⟩⟩
  obtain ⟨f1, hf1⟩ : ∃ f, f ∈ fs := List.exists_mem_of_length_pos (by omega)
  cases f0 with
  | int n t =>
    have e : (Value.type "int" != Value.type "tuple") = true := by first | decide +kernel | rfl | decide
    refine kat_kind (T := .type "int") h1 (by omega) (fun f hm => ?_) (by rfl) (by rw [e]; exact hq)
    have := h3 f hm
    cases f with
    | int m u => exact PySem.W.Looks.now
    | _ => exact this.elim
  | str x t =>
    have e : (Value.type "str" != Value.type "tuple") = true := by first | decide +kernel | rfl | decide
    refine kat_kind (T := .type "str") h1 (by omega) (fun f hm => ?_) (by rfl) (by rw [e]; exact hq)
    have := h3 f hm
    cases f with
    | str m u => exact PySem.W.Looks.now
    | _ => exact this.elim
  | _ => exact (h3 f1 hf1).elim
theorem swo_lexB (k : Value → List Tk) : Swo fun v u => lexB (k v) (k u) where
  asym x y h := by
    cases e : lexB (k y) (k x) with
    | false => rfl
    | true =>
      have := lex_trans (O := itemOrd) _ _ _ h e
      rw [lex_irrefl] at this
      cases this
  tr x y z h1 h2 := by
    cases e : lexB (k z) (k x) with
    | false => rfl
    | true =>
      rcases lex_negTrans (O := itemOrd) (k z) (k y) (k x) e with q | q
      · have h2 : lexB (k z) (k y) = false := h2
        rw [show lexB (k z) (k y) = true from q] at h2; cases h2
      · have h1 : lexB (k y) (k x) = false := h1
        rw [show lexB (k y) (k x) = true from q] at h1; cases h1
theorem sortedU {l : Addr} {vs : List Value} {k : Value → List Tk} {Q : Value → Shared → Prop} (hl : s.heap.IsList l vs.toArray) (hz : vs.length ≤ sizeLine) (hn : ∀ v ∈ vs, ∃ x xs, TupAt s.heap v (x :: xs))
    (hp : ∀ v ∈ vs, ∀ u ∈ vs, ∃ xs ys, TupAt s.heap v xs ∧ TupAt s.heap u ys ∧ k v = xs.map vTk ∧ k u = ys.map vTk ∧ okv xs ys)
    (h : ∀ (h' : Heap) (d : Addr) (out : List Value), Srtd (fun v u => lexB (k v) (k u)) out → Stb (fun v u => lexB (k v) (k u)) out vs → (∀ b o, s.heap.get? b = some o → h'.get? b = some o) → s.heap.objs.size ≤ d → (∃ n, h'.get? d = some (seqObj "list" out.toArray n)) → Q (.ref d) { s with heap := h' }) :
    wpAny (model prog w) A (call (.builtin "sorted") [.ref l]) Q E s := by
  refine sorted_ord (swo_lexB k) hl hz (fun h2 h₁ a ha kk => ?_) fun out hs hb => ?_
  · have kp : ∀ b o, s.heap.get? b = some o → o.cls = .type "tuple" → h₁.get? b = some o := fun b o e _ => (kk b o e).2
    refine sortableU (s := { s with heap := h₁ }) (by omega) (fun v hv => ?_) (fun v hv u hu => ?_) fun o e => ?_
    · obtain ⟨x, xs, t⟩ := hn v hv
      exact ⟨x, xs, t.keeps kp⟩
    · obtain ⟨xs, ys, q1, q2, q3⟩ := hp v hv u hu
      exact ⟨xs, ys, q1.keeps kp, q2.keeps kp, q3⟩
    have e' : some o = some (seqObj "list" vs.toArray 0) := e.symm.trans ha
    cases e'
    intro c
    exact absurd (Value.type.inj c) (by decide)
  · exact h _ _ out hs hb (fun b o e => sortedAll_old e) (Nat.le_succ _) (sortedAll_at s.heap vs out.toArray)
end
end SrtT
namespace Dl
open PySem PySem.Spec PyProof.Rows L2
/-- a number or a text -/
def isAt : PyData → Prop
  | .int _ => True
  | .str _ => True
  | _ => False
def atomK : PyData → SrtT.Tk
  | .int n => .inl n
  | .str x => .inr x.cps.toList
  | _ => .inl 0
def vAt : PyData → V
  | .int n => .int n
  | .str x => .str x
  | _ => .non
def likeA : PyData → PyData → Prop
  | .int _, .int _ => True
  | .str _, .str _ => True
  | _, _ => False
/-- places of one kind, as far as they are the same -/
def okc : List PyData → List PyData → Prop
  | x :: xs, y :: ys => likeA x y ∧ (x = y → okc xs ys)
  | _, _ => True
def flatT : PyData → Prop
  | .tuple es => es ≠ [] ∧ ∀ e ∈ es, isAt e
  | _ => False
def flatK : PyData → List SrtT.Tk
  | .tuple es => es.map atomK
  | _ => []
def okD : PyData → PyData → Prop
  | .tuple xs, .tuple ys => okc xs ys
  | _, _ => False
def ltT (x y : PyData) : Bool := SrtT.lexB (flatK x) (flatK y)
theorem atomK_in {x y : PyData} (h : isAt x) (h' : isAt y) (e : atomK x = atomK y) : x = y := by
  cases x with
  | int n => cases y with
    | int m => rw [Sum.inl.inj e]
    | str m => cases e
    | _ => exact h'.elim
  | str n => cases y with
    | str m => rw [PySem.W.str_of_cps (Sum.inr.inj e)]
    | int m => cases e
    | _ => exact h'.elim
  | _ => exact h.elim
theorem atomKs_in : ∀ {xs ys : List PyData}, (∀ e ∈ xs, isAt e) → (∀ e ∈ ys, isAt e) → xs.map atomK = ys.map atomK → xs = ys
  | [], [], _, _, _ => rfl
  | [], _ :: _, _, _, e => by cases e
  | _ :: _, [], _, _, e => by cases e
  | x :: xs, y :: ys, h1, h2, e => by
    rw [List.map_cons, List.map_cons] at e
    injection e with e1 e2
    rw [atomK_in (h1 x List.mem_cons_self) (h2 y List.mem_cons_self) e1, atomKs_in (fun z hz => h1 z (List.mem_cons_of_mem _ hz)) (fun z hz => h2 z (List.mem_cons_of_mem _ hz)) e2]
theorem flatK_in {x y : PyData} (h : flatT x) (h' : flatT y) (e : flatK x = flatK y) : x = y := by
  cases x with
  | tuple xs => cases y with
    | tuple ys => rw [atomKs_in h.2 h'.2 e]
    | _ => exact h'.elim
  | _ => exact h.elim
/-- sorted lists of the same flat tuples are one -/
theorem sorted_uniq : ∀ {l m : List PyData}, l.Perm m → (l.Pairwise fun d e => ltT e d = false) → (m.Pairwise fun d e => ltT e d = false) → (∀ d ∈ l, flatT d) → l = m
  | [], m, p, _, _, _ => (List.Perm.eq_nil p.symm).symm
  | x :: l, [], p, _, _, _ => absurd p.length_eq (by simp)
  | x :: l, y :: m, p, hl, hm, hf => by
    have ir : ∀ z, ltT z z = false := fun z => lex_irrefl (O := itemOrd) _
    have h1 : ltT x y = false := by
      rcases List.mem_cons.mp (p.mem_iff.mp (List.mem_cons_self (a := x) (l := l))) with e | hx
      · rw [e]; exact ir y
      · exact (List.pairwise_cons.mp hm).1 x hx
    have h2 : ltT y x = false := by
      rcases List.mem_cons.mp (p.mem_iff.mpr (List.mem_cons_self (a := y) (l := m))) with e | hy
      · rw [e]; exact ir x
      · exact (List.pairwise_cons.mp hl).1 y hy
    have e : x = y := flatK_in (hf x List.mem_cons_self) (hf y (p.mem_iff.mpr List.mem_cons_self)) (lex_total (O := itemOrd) _ _ h1 h2)
    subst e
    rw [sorted_uniq p.cons_inv (List.pairwise_cons.mp hl).2 (List.pairwise_cons.mp hm).2 fun d hd => hf d (List.mem_cons_of_mem _ hd)]
/-- a flat tuple of the heap -/
def RdT (K : PySem.W.Frag) (H : Hp) (x : V) (d : PyData) : Prop := ∃ t es, x = .ref t ∧ d = .tuple es ∧ flatT d ∧ SqT K H t (es.map vAt)
def rSortT (K : PySem.W.Frag) : List V → Hp → VK → Prop := fun vs H Q => ∃ (a : Addr) (xs : List V), vs = [V.ref a] ∧ SqL K H a xs ∧ (∀ x ∈ xs, ∃ d, RdT K H x d) ∧ (∀ x ∈ xs, ∀ y ∈ xs, ∃ d e, RdT K H x d ∧ RdT K H y e ∧ okD d e) ∧
  ∀ ys p, ys.Perm xs → (ys.Pairwise fun x y => ∀ d e, RdT K H x d → RdT K H y e → ltT e d = false) → H p = none → Q (.ref p) (upd H p (.lst ys))
theorem vals_at : ∀ {es : List PyData} {us : List Value}, (∀ e ∈ es, isAt e) → Vals (es.map vAt) us → us.map SrtT.vTk = es.map atomK
  | [], _, _, r => by cases r; rfl
  | e :: es, us, h, r => by
    cases r with
    | cons r1 r2 =>
      rw [List.map_cons, List.map_cons, vals_at (fun z hz => h z (List.mem_cons_of_mem _ hz)) r2]
      have := h e List.mem_cons_self
      cases e with
      | int n => obtain ⟨t, rfl⟩ := r1; rfl
      | str n => obtain ⟨t, rfl⟩ := r1; rfl
      | _ => exact this.elim
theorem okc_v : ∀ {es fs : List PyData} {us ws : List Value}, (∀ e ∈ es, isAt e) → (∀ e ∈ fs, isAt e) → Vals (es.map vAt) us → Vals (fs.map vAt) ws → okc es fs → SrtT.okv us ws
  | [], _, _, _, _, _, r, _, _ => by cases r; trivial
  | e :: es, [], us, ws, _, _, r, r', _ => by
    cases r'
    cases us <;> trivial
  | e :: es, f :: fs, us, ws, h, h', r, r', k => by
    cases r with
    | cons r1 r2 =>
    cases r' with
    | cons r3 r4 =>
      have ha := h e List.mem_cons_self
      have hb := h' f List.mem_cons_self
      have ih := okc_v (fun z hz => h z (List.mem_cons_of_mem _ hz)) (fun z hz => h' z (List.mem_cons_of_mem _ hz)) r2 r4
      obtain ⟨k1, k2⟩ := k
      cases e with
      | int n => cases f with
        | int m =>
          obtain ⟨t, rfl⟩ := r1
          obtain ⟨u, rfl⟩ := r3
          exact ⟨trivial, fun z => ih (k2 (by rw [Sum.inl.inj z]))⟩
        | _ => exact k1.elim
      | str n => cases f with
        | str m =>
          obtain ⟨t, rfl⟩ := r1
          obtain ⟨u, rfl⟩ := r3
          exact ⟨trivial, fun z => ih (k2 (by rw [PySem.W.str_of_cps (Sum.inr.inj z)]))⟩
        | _ => exact k1.elim
      | _ => exact ha.elim
theorem cr_sortT {X : Cx} : CallR X (.builtin "sorted") (rSortT X.K) := by
  classical
  intro pins s σ H vs us Q I r h
  obtain ⟨a, xs, rfl, hs, hx, hk, q⟩ := h
  obtain ⟨its, rv, hl, hz⟩ := I.list hs
  obtain ⟨u, rfl, ru⟩ := vals1 r
  obtain rfl : u = Value.ref a := ru
  have rt : ∀ {x d}, RdT X.K H x d → ∃ t es us, x = V.ref t ∧ d = .tuple es ∧ flatT d ∧ Vals (es.map vAt) us ∧ SrtT.TupAt s.heap (.ref t) us := by
    rintro x d ⟨t, es, rfl, rfl, hf, ht⟩
    obtain ⟨us, r2, ⟨o, ho, hc, n, hd⟩, _⟩ := I.tuple ht
    exact ⟨t, es, us, rfl, rfl, hf, r2, t, o, _, n, rfl, ho, hc, hd, rfl⟩
  obtain ⟨e1, e2⟩ := refs_back rv fun x m => by
    obtain ⟨d, t, es, e, _⟩ := hx x m
    exact ⟨t, e⟩
  let k : Value → List SrtT.Tk := fun v => if h : ∃ xs, SrtT.TupAt s.heap v xs then h.choose.map SrtT.vTk else []
  have uniq : ∀ {v xs ys}, SrtT.TupAt s.heap v xs → SrtT.TupAt s.heap v ys → xs = ys := by
    rintro v xs ys ⟨a, o, its, n, e, ho, hc, hd, hx⟩ ⟨a', o', its', n', e', ho', hc', hd', hx'⟩
    rw [e] at e'
    cases e'
    rw [ho] at ho'
    cases ho'
    rw [hd] at hd'
    cases hd'
    exact hx.symm.trans hx'
  have hkv : ∀ {v xs}, SrtT.TupAt s.heap v xs → k v = xs.map SrtT.vTk := fun {v xs} t => by
    have h : ∃ xs, SrtT.TupAt s.heap v xs := ⟨xs, t⟩
    have e : k v = h.choose.map SrtT.vTk := dif_pos h
    rw [e, uniq h.choose_spec t]
  have inx : ∀ {t}, Value.ref t ∈ its → V.ref t ∈ xs := fun {t} hv => by rw [e1]; exact List.mem_map.mpr ⟨_, hv, rfl⟩
  refine SrtT.sortedU (k := k) hl.isList (by rw [← rv.length]; exact hz) (fun v hv => ?_) (fun v hv u hu => ?_) fun h' d out h1 h2 kp hd hn => ?_
  · obtain ⟨t, rfl⟩ := e2 v hv
    obtain ⟨d, hd⟩ := hx _ (inx hv)
    obtain ⟨t', es, us, e, rfl, hf, r2, ta⟩ := rt hd
    cases e
    cases es with
    | nil => exact absurd rfl hf.1
    | cons e es => cases r2 with
      | cons _ _ => exact ⟨_, _, ta⟩
  · obtain ⟨t, rfl⟩ := e2 v hv
    obtain ⟨t', rfl⟩ := e2 u hu
    obtain ⟨d, e, q1, q2, q3⟩ := hk _ (inx hv) _ (inx hu)
    obtain ⟨_, es, us, z1, rfl, hf, r2, ta⟩ := rt q1
    obtain ⟨_, fs, ws, z2, rfl, hf', r2', ta'⟩ := rt q2
    cases z1
    cases z2
    exact ⟨us, ws, ta, ta', hkv ta, hkv ta', okc_v hf.2 hf'.2 r2 r2' q3⟩
  · have h3 : ∀ u ∈ out, ∃ a, u = Value.ref a := fun u hu => e2 u (h2.perm.mem_iff.mp hu)
    obtain ⟨n, hn⟩ := hn
    refine ⟨.ref d, upd H d (.lst (out.map backV)), I.laid (t' := s.toks) kp hd ⟨?_, out, n, vals_back h3, hn⟩, rfl, q _ d ?_ ?_ (I.hok.fresh hd)⟩
    · rw [List.length_map, h2.len, ← rv.length]; exact hz
    · rw [e1]; exact h2.perm.map backV
    · rw [List.pairwise_map]
      refine List.Pairwise.imp_of_mem ?_ h1
      intro v u hv hu hlt d e q1 q2
      obtain ⟨t, rfl⟩ := h3 v hv
      obtain ⟨t', rfl⟩ := h3 u hu
      obtain ⟨_, es, us, z1, rfl, hf, r2, ta⟩ := rt q1
      obtain ⟨_, fs, ws, z2, rfl, hf', r2', ta'⟩ := rt q2
      cases z1
      cases z2
      have hlt : SrtT.lexB (k (.ref t')) (k (.ref t)) = false := hlt
      rw [hkv ta, hkv ta', vals_at hf.2 r2, vals_at hf'.2 r2'] at hlt
      exact hlt
section
variable {X : Cx} {a : Expr} {ta : TD} {p pos : Pos}
theorem dpa_at {K : PySem.W.Frag} {G : Hp} : ∀ {es : List PyData} {vs : List V}, (∀ e ∈ es, isAt e) → DpAll K G vs es → vs = es.map vAt
  | [], _, _, h => by cases h; rfl
  | e :: es, _, ha, h => by
    cases h with
    | cons h1 h2 =>
      have := ha e List.mem_cons_self
      rw [dpa_at (fun z hz => ha z (List.mem_cons_of_mem _ hz)) h2]
      cases e with
      | int n => rw [dp_int h1]; rfl
      | str n => rw [dp_str h1]; rfl
      | _ => exact this.elim
theorem dp_flat {K : PySem.W.Frag} {G H : Hp} (e : Same G H) {v : V} {d : PyData} (h : Dp K G v d) (hf : flatT d) : RdT K H v d := by
  cases d with
  | tuple es =>
    obtain ⟨t, us, rfl, g1, g2⟩ := dp_tup h
    rw [dpa_at hf.2 g2] at g1
    exact ⟨t, es, rfl, rfl, hf, same_t e g1⟩
  | _ => exact hf.elim
def fSortT : PyData → (Res → Prop) → Prop := fun x Q => asL x fun ds => (∀ d ∈ ds, flatT d) ∧ (∀ d ∈ ds, ∀ e ∈ ds, okD d e) ∧ ∀ ds' : List PyData, ds'.Perm ds → (ds'.Pairwise fun d e => ltT e d = false) → Q (.lst ds')
theorem o_sortT (hm : X.mg "sorted" = none) (ha : DV X a ta) (hg : Gl X "sorted" := by rfl) (he : starEach [a] X.env = (false, eval a X.env) :: starEach [] X.env := by rfl) (hpl : (backTo pos (starEach [] X.env)).any (·.1) = false := by rfl) : DO X (.Call (.Name "sorted" p) [a] [] pos) (o1 fSortT ta) := by
  refine o_oneB cr_sortT (fun B0 c s G H v x Q R st d h k => ?_) hm (by decide +kernel) ha hg (by decide) (by decide) he hpl
  obtain ⟨ds, rfl, hp, hk, q⟩ := asL_of h
  obtain ⟨p, vs, rfl, h1, h2⟩ := d.lst st.sub
  have rd : ∀ x ∈ vs, ∃ d ∈ ds, RdT X.K H x d := fun x hx => by
    obtain ⟨i, hi⟩ := List.getElem?_of_mem hx
    obtain ⟨d, hd, dx⟩ := dpa_getv h2 hi
    have hm := List.mem_of_getElem? hd
    exact ⟨d, hm, dp_flat st.sub dx (hp d hm)⟩
  refine ⟨p, vs, rfl, h1, fun x hx => ?_, fun x hx y hy => ?_, fun ys l h3 h4 hn => ?_⟩
  · obtain ⟨d, _, hd⟩ := rd x hx
    exact ⟨d, hd⟩
  · obtain ⟨d, hd, q1⟩ := rd x hx
    obtain ⟨e, he, q2⟩ := rd y hy
    exact ⟨d, e, q1, q2, hk d hd e he⟩
  · obtain ⟨ds', a1, a2⟩ := dpa_perm h3 h2
    refine k _ _ _ _ (st.laidL hn a2) (Same.refl _) (q ds' a1 ?_)
    rw [List.pairwise_iff_getElem]
    intro i j hi hj hij
    have hl := dpa_len a2
    obtain ⟨x, hx, dx⟩ := dpa_get a2 (List.getElem?_eq_getElem hi)
    obtain ⟨y, hy, dy⟩ := dpa_get a2 (List.getElem?_eq_getElem hj)
    have f1 := hp _ (a1.mem_iff.mp (List.getElem_mem hi))
    have f2 := hp _ (a1.mem_iff.mp (List.getElem_mem hj))
    rw [List.pairwise_iff_getElem] at h4
    have := h4 i j (by omega) (by omega) hij
    rw [(List.getElem?_eq_some_iff.mp hx).2, (List.getElem?_eq_some_iff.mp hy).2] at this
    exact this _ _ (dp_flat st.sub dx f1) (dp_flat st.sub dy f2)
end
end Dl

/-! Tuples: one behind another, so many times; a text that the top names. -/
namespace L2
open PySem PySem.Spec PyProof.Rows
theorem tuple_mulW0 (l : Addr) (items : Array Value) (n : Nat) (dd : Option Addr) (sl : Array (Option Value)) (x : Int) (u : Tok) (c0 : (decide (x < -(2 ^ 63)) || decide (x ≥ 2 ^ 63)) = false) (c1 : (items.isEmpty || x == 1) = false) (c2 : (decide (x ≤ 0) || items.isEmpty) = true) :
    Meets (Builtin.«tuple.__mul__» ⟨[.ref l, .int x u], []⟩) (fun _ R s => s.heap.get? l = some { cls := .type "tuple", dict := dd, data := .seq items n, slots := sl } ∧
      R (.ok (.ret (Value.ref s.heap.objs.size))) { s with heap := s.heap.push { cls := Value.type "tuple", data := Data.seq #[] }, toks := s.toks }) :=
  .of_wp fun prog w A R s h => by
    obtain ⟨hp, g, d, tk, os⟩ := s
    obtain ⟨hl, h⟩ := h
    have f1 := AutoSeq1.idx_int
    wp_walk using wpAny_loadPart' hl
    repeat (first
      | (refine wpAny_ite_false (decide_eq_false (by rw [c0]; exact Bool.false_ne_true)) ?_; wp_walk using wpAny_loadPart' hl)
      | (refine wpAny_ite_false (decide_eq_false (by rw [c1]; exact Bool.false_ne_true)) ?_; wp_walk using wpAny_loadPart' hl)
      | (refine wpAny_ite_true (decide_eq_true (by rw [c2])) ?_; wp_walk using wpAny_loadPart' hl)
      | (refine wpAny_ite_false (decide_eq_false (Nat.not_lt.mpr (Nat.zero_le _))) ?_; wp_walk using wpAny_loadPart' hl))
    exact ⟨_, rfl, h⟩
def rRepT0 (K : PySem.W.Frag) : R2 := fun x y H Q => ∃ l k xs, x = .ref l ∧ y = .int k ∧ SqT K H l xs ∧ xs ≠ [] ∧ k = 0 ∧ ∀ p, H p = none → Q (.ref p) (upd H p (.tup []))
section
variable {X : Cx}
theorem op_repT0 : OpR X (binaryOp .Mult) (rRepT0 X.K) := by
  intro pins s σ H x y v u Q I rx ry h
  obtain ⟨l, k, xs, rfl, rfl, hT, hne, h1, q⟩ := h
  cases rx
  obtain ⟨t, rfl⟩ := ry
  obtain ⟨its, r, ⟨⟨cls, dd, data, sl⟩, ho, hc, n, hd⟩, hs⟩ := I.tuple hT
  simp only at hc hd
  subst hc hd
  have hle : its.length = xs.length := r.length.symm
  have hn : its ≠ [] := fun e => hne (by
    rw [e] at hle
    exact List.eq_nil_of_length_eq_zero hle.symm)
  have hi : its.toArray.isEmpty = false := by
    cases its with
    | nil => exact absurd rfl hn
    | cons a b => rfl
  have c0 : (decide (k < -(2 ^ 63)) || decide (k ≥ 2 ^ 63)) = false := by
    rw [decide_eq_false (by omega), decide_eq_false (by omega)] <;> rfl
  have c1 : (its.toArray.isEmpty || k == 1) = false := by
    rw [hi, Bool.false_or]
    exact beq_eq_false_iff_ne.mpr (by omega)
  have c2 : (decide (k ≤ 0) || its.toArray.isEmpty) = true := by
    rw [hi, Bool.or_false]
    exact decide_eq_true (by omega)
  refine wpAny_binaryOp_repeat_ref (T := "tuple") (U := "int") (by decide) ⟨_, ho, rfl⟩ (fun s' => typeIs_int s' k t) noFill_tuple_mul F.fills_int_mul F.slot_int_rmul repeat_tuple F.slot_int_index.lookup
    (call_meets F.slot_int_rmul (typeIs_int s k t) F.entry_int_rmul (F.args_int_rmul_2 _ _) (int_rmul_tuple k t l its.toArray n dd sl)
      ⟨ho, rfl, ⟨_, ho, rfl⟩, call_meets F.slot_tuple_mul ⟨_, ho, rfl⟩ F.entry_tuple_mul (F.args_tuple_mul_2 _ _) (tuple_mulW0 l its.toArray n dd sl k t c0 c1 c2) ⟨ho, ?_⟩⟩)
  refine ⟨.ref s.heap.objs.size, _, I.laid (t' := s.toks) (o := .tup []) (fun b ob q => Heap.get?_push_of_some _ q) (Nat.le_refl _) ?_, rfl, q _ (I.hok.fresh (Nat.le_refl _))⟩
  exact ⟨Nat.zero_le _, [], .nil, IsTup.new _ _⟩
end
end L2
namespace Dl
open PySem PySem.Spec PyProof.Rows L2
section
variable {X : Cx} {a b : Expr} {ta tb : TD} {pos : Pos} {x : Str}
/-- + of numbers, of texts, of tuples -/
def fAddA : PyData → PyData → (PyData → Prop) → Prop := fun x y Q => match x with
  | .int i => asI y fun j => Q (.int (i + j))
  | .str i => asS y fun j => i.length + j.length ≤ sizeLine ∧ Q (.str (i ++ j))
  | .tuple ds => asT y fun es => ds.length + es.length ≤ sizeLine ∧ Q (.tuple (ds ++ es))
  | _ => False
theorem fAddA_i {i j : Int} {Q : PyData → Prop} : fAddA (.int i) (.int j) Q = Q (.int (i + j)) := id rfl
theorem fAddA_s {i j : Str} {Q : PyData → Prop} : fAddA (.str i) (.str j) Q = (i.length + j.length ≤ sizeLine ∧ Q (.str (i ++ j))) := id rfl
theorem fAddA_t {i j : List PyData} {Q : PyData → Prop} : fAddA (.tuple i) (.tuple j) Q = (i.length + j.length ≤ sizeLine ∧ Q (.tuple (i ++ j))) := id rfl
theorem d_addA (ha : DE X a ta) (hb : DE X b tb) : DE X (.BinOp a .Add b pos) (u2 fAddA ta tb) := by
  refine d_op (OpR.or2 (OpR.or2 op_add op_add_str) op_catA) (fun B c s G H x y a b Q R st dx dy h k => ?_) ha hb
  cases a with
  | int i =>
    obtain ⟨j, rfl, q⟩ := asI_of h
    exact .inl (.inl ⟨i, j, dp_int dx, dp_int dy, k _ _ G H st (Same.refl _) (.int _) q⟩)
  | str i =>
    obtain ⟨j, rfl, hl, q⟩ := asS_of h
    exact .inl (.inr ⟨i, j, dp_str dx, dp_str dy, hl, k _ _ G H st (Same.refl _) (.str _) q⟩)
  | tuple ds =>
    obtain ⟨es, rfl, hl, q⟩ := asT_of h
    obtain ⟨t, vs, rfl, g1, g2⟩ := dp_tup dx
    obtain ⟨u, ws, rfl, g3, g4⟩ := dp_tup dy
    have l1 := dpa_len g2
    have l2 := dpa_len g4
    refine .inr ⟨t, u, vs, ws, rfl, rfl, same_t st.sub g1, same_t st.sub g3, by omega, fun z => ?_, fun _ z => ?_, fun _ _ p hp => ?_⟩
    · subst z
      have : ds = [] := List.eq_nil_of_length_eq_zero l1.symm
      subst this
      exact k _ _ G H st (Same.refl _) dy q
    · subst z
      have : es = [] := List.eq_nil_of_length_eq_zero l2.symm
      subst this
      rw [List.append_nil] at q
      exact k _ _ G H st (Same.refl _) dx q
    · obtain ⟨st2, e2⟩ := st.laid (o := .tup (vs ++ ws)) hp
      exact k _ _ _ _ st2 e2 (.tup (.inl (.inl upd_same)) (dpa_mono e2 _ _ (dpa_app g2 g4))) q
  | none => exact h.elim
  | bool _ => exact h.elim
  | list _ => exact h.elim
  | dict _ => exact h.elim
/-- a tuple twice and more, or not at all -/
def fRepT : PyData → PyData → (PyData → Prop) → Prop := fun x y Q => asT x fun ds => asI y fun k => ds ≠ [] ∧ ds.length ≤ 1000 ∧ (k = 0 ∨ (2 ≤ k ∧ k ≤ 1000)) ∧ Q (.tuple (List.replicate k.toNat ds).flatten)
theorem d_repT (ha : DE X a ta) (hb : DE X b tb) : DE X (.BinOp a .Mult b pos) (u2 fRepT ta tb) := by
  refine d_op (OpR.or2 op_repT op_repT0) (fun B c s G H x y a b Q R st dx dy h k => ?_) ha hb
  obtain ⟨ds, rfl, h⟩ := asT_of h
  obtain ⟨i, rfl, hn, hl, hi, q⟩ := asI_of h
  obtain ⟨t, vs, rfl, g1, g2⟩ := dp_tup dx
  have l1 := dpa_len g2
  have hv : vs ≠ [] := fun z => hn (List.eq_nil_of_length_eq_zero (by rw [← l1, z]; rfl))
  rcases hi with rfl | ⟨h1, h2⟩
  · refine .inr ⟨t, 0, vs, rfl, dp_int dy, same_t st.sub g1, hv, rfl, fun p hp => ?_⟩
    obtain ⟨st2, e2⟩ := st.laid (o := .tup []) hp
    exact k _ _ _ _ st2 e2 (.tup (.inl (.inl upd_same)) .nil) q
  · refine .inl ⟨t, i, vs, rfl, dp_int dy, same_t st.sub g1, hv, h1, h2, by omega, fun p hp => ?_⟩
    obtain ⟨st2, e2⟩ := st.laid (o := .tup (List.replicate i.toNat vs).flatten) hp
    exact k _ _ _ _ st2 e2 (.tup (.inl (.inl upd_same)) (dpa_mono e2 _ _ (dpa_flat g2 _))) q
/-- a text that the top names -/
theorem d_globS {z : Str} (hc : ∃ t, X.mg x = some (.str z t)) (hg : Gl X x := by rfl) (hd : (x == ("__debug__" : Str)) = false := by decide) : DE X (.Name x pos) (uC (.str z)) := by
  obtain ⟨t, hc⟩ := hc
  exact ⟨_, pe_glob (v := .str z) hg hc ⟨t, rfl⟩ hd, fun _ c _ G H _ _ st h k => k _ _ c G H st (Same.refl _) (.str z) h⟩
end
end Dl

/-! Defs that raise classes of the text; try around a call; the head's further facts. -/
namespace Dl
open PySem PySem.Spec PyProof.Rows L2
/-! ### further facts of the head -/
abbrev AlX : Type := He.AlD × List Bool
def obsX (fa : List He.Fa) (fn : List He.DefD) (xs : List (PySem.W.Frag → Bool)) (K : PySem.W.Frag) : AlX := (He.obsD fa fn K, xs.map fun t => t K)
def valX (fn : List He.DefD) (xs : List (PySem.W.Frag → Bool)) : AlX := (He.valD fn, xs.map fun _ => true)
def obsXG (n : Nat) (fa : List He.Fa) (fn : List He.DefD) (xs : List (PySem.W.Frag → Bool)) (g : Addr → Option Obj) : AlX := obsX fa fn xs (He.frG g (He.asD g n))
def SaysX (fa : List He.Fa) (fn : List He.DefD) (xs : List (PySem.W.Frag → Bool)) (K : PySem.W.Frag) : Prop := obsX fa fn xs K = valX fn xs
def hookX (n : Nat) (fa : List He.Fa) (fn : List He.DefD) (xs : List (PySem.W.Frag → Bool)) : PySem.W.Hook where
  α := AlX
  obs := fun s => obsXG n fa fn xs s.heap.get?
  val := fun _ => valX fn xs
  says := fun _ h => ∃ K : PySem.W.Frag, K.In h ∧ SaysX fa fn xs K
  of := fun _ _ e => ⟨_, He.frG_in, e⟩
  keeps := fun _ _ _ ⟨K, hK, c⟩ k => ⟨K, PySem.W.Frag.In.keeps hK k, c⟩
theorem obsXG_eq {n : Nat} {fa : List He.Fa} {fn : List He.DefD} {xs : List (PySem.W.Frag → Bool)} {g : Addr → Option Obj} {s : Shared} (h : ∀ a, g a = s.heap.get? a) : obsXG n fa fn xs g = (hookX n fa fn xs).obs s := by
  have e : g = s.heap.get? := funext h
  rw [e] <;> rfl
section
variable {fa : List He.Fa} {fn : List He.DefD} {xs : List (PySem.W.Frag → Bool)} {K : PySem.W.Frag}
theorem SaysX.d (c : SaysX fa fn xs K) : He.SaysD fa fn K := congrArg (fun z : AlX => z.1) c
theorem SaysX.x (c : SaysX fa fn xs K) (i : Nat) {t : PySem.W.Frag → Bool} (h : xs[i]? = some t := by rfl) : t K = true := by
  have e : xs.map (fun t => t K) = xs.map fun _ => true := congrArg (fun z : AlX => z.2) c
  have e2 : (xs.map fun t => t K)[i]? = (xs.map fun _ => true)[i]? := by rw [e]
  rw [List.getElem?_map, List.getElem?_map, h] at e2
  exact Option.some.inj e2
end
/-- the class x is one whose instances isinstance asks rightly -/
def excB (x : Str) (K : PySem.W.Frag) : Bool :=
  decide (PySem.W.findIn K (.ref (He.ga K x)) "__getattribute__" = some (some (.builtin "BaseException.__getattribute__"))) && (decide (PySem.W.findIn K (.ref (He.ga K x)) "__getattr__" = some none) && (decide (PySem.W.subIn K (.ref (He.ga K x)) (.type "BaseException") = some true) && (PySem.W.hasDictIn K (He.ga K x) &&
  (decide (PySem.W.findIn K (.ref (He.ga K x)) "__class__" = some (some (.builtin "object.__class__"))) && (decide (PySem.W.specialIn K (.builtin "object.__class__") "__get__" = some (some (.builtin "getset_descriptor.__get__"))) && (decide (PySem.W.takesIn K (.builtin "object.__class__") = some true) && decide (PySem.W.mroIn K (He.ga K x) (.type "object") = some true)))))))
theorem excB_ok {x : Str} {K : PySem.W.Frag} (h : excB x K = true) : ExcC K (He.ga K x) := by
  unfold excB at h
  simp only [Bool.and_eq_true, decide_eq_true_eq] at h
  obtain ⟨h1, h2, h3, h4, h5, h6, h7, h8⟩ := h
  exact ⟨h1, h2, h3, h4, h5, h6, h7, h8⟩
/-- an instance of x is one of y -/
def kitB (x y : Str) (b : Bool) (K : PySem.W.Frag) : Bool := decide (PySem.W.kitOne K (.ref (He.ga K x)) (.ref (He.ga K y)) = some b)
def kitT (x : Str) (y : String) (b : Bool) (K : PySem.W.Frag) : Bool := decide (PySem.W.kitOne K (.ref (He.ga K x)) (.type y) = some b)
/-- what the text's class x is to a raise -/
structure ExF (K : PySem.W.Frag) (mg : Str → Option Value) (x : Str) : Prop where
  q : PySem.W.excIn K (He.ga K x) He.veBase "ValueError.__new__" = true
  g : mg x = some (.ref (He.ga K x))
  k : PySem.W.keepIn K (.ref (He.ga K x)) = true
  s : PySem.W.subIn K (.ref (He.ga K x)) (.type "BaseException") = some true
  t : PySem.W.typeIn K (.ref (He.ga K x)) = some (.type "type")
theorem exF_of {K : PySem.W.Frag} {h : Heap} {mg : Str → Option Value} (X : K.In h) (G : h.Ns mainGlobals mg) {x : Str} (c1 : (He.Fa.glo x).ok K = true) (c2 : (He.Fa.exc x).ok K = true) : ExF K mg x := by
  obtain ⟨h1, h2, h3, h4⟩ := He.exc_ok c2
  exact ⟨h1, He.glo_ok X G c1, h2, h3, h4⟩
/-! ### defs that raise -/
abbrev TFX := Ctx → (S → Ctx → Prop) → (Str → Prop) → Prop
def SpX (K : PySem.W.Frag) (T : TFX) : Sp := fun vs H Q E => ∃ (G : Hp) (io : List Addr) (a : Ctx) (Q1 : S → Ctx → Prop) (E1 : Str → Prop), Stt K ⟨H, G, io⟩ a (vs.map some) G H ∧ T a Q1 E1 ∧
  (∀ r c v s G' H', Stt K ⟨H, G, io⟩ (r :: c) (some v :: s) G' H' → Q1 r c → Q v H') ∧ (∀ x c s G' H', Stt K ⟨H, G, io⟩ c s G' H' → E1 x → E (.ref (He.ga K x)) none H')
abbrev TSX := (Str → Prop) → TSd
def DSvX (K : PySem.W.Frag) (Ex : XK) (ts : TS) (t : TSX) : Prop := ∀ (B : Base) (c : Ctx) (s : L2.St) (G H : Hp) (D : Ends) (E : De) (E1 : Str → Prop), Stt K B c s G H → Conn K B G D E →
  (∀ x c s G' H', Stt K B c s G' H' → Same G G' → E1 x → Ex (.ref (He.ga K x)) none H') → t E1 E c → ts D s H
structure DSX (X : Cx) (Ex : XK) (st : Stmt) (t : TSX) : Prop where
  ex : ∃ ts, PS X st ts ∧ DSvX X.K Ex ts t
structure DSsX (X : Cx) (Ex : XK) (st : List Stmt) (t : TSX) : Prop where
  ex : ∃ ts, PSs X st ts ∧ DSvX X.K Ex ts t
section
variable {X : Cx} {Ex : XK} {st : Stmt} {rest : List Stmt} {t u : TSX} {td : TSd} {e : Expr} {tb : TB} {pos : Pos}
theorem x_of (h : DS X st td) : DSX X Ex st (fun _ => td) := by
  obtain ⟨ts, p, v⟩ := h.ex
  exact ⟨ts, p, fun B c s G H D E E1 st k _ q => v B c s G H D E st k q⟩
theorem xs_of {l : List Stmt} (h : DSs X l td) : DSsX X Ex l (fun _ => td) := by
  obtain ⟨ts, p, v⟩ := h.ex
  exact ⟨ts, p, fun B c s G H D E E1 st k _ q => v B c s G H D E st k q⟩
def zSeqX (t u : TSX) : TSX := fun E1 => zSeq (t E1) (u E1)
theorem qx_one (h : DSX X Ex st t) : DSsX X Ex [st] t := let ⟨ts, p, v⟩ := h.ex; ⟨ts, pss_one p, v⟩
theorem qx_cons (h : DSX X Ex st t) (h2 : DSsX X Ex rest u) : DSsX X Ex (st :: rest) (zSeqX t u) := by
  obtain ⟨ts, p, v⟩ := h.ex
  obtain ⟨ts2, p2, v2⟩ := h2.ex
  exact ⟨_, pss_cons p p2, fun B c s G H D E E1 st k hx q => v B c s G H _ { E with nx := u E1 E } E1 st ⟨fun c' s' G' H' st' e' q' => v2 B c' s' G' H' D E E1 st' (k.mono e') (fun x c s G2 H2 st2 e2 => hx x c s G2 H2 st2 (e'.trans e2)) q', k.rt, k.bk, k.ct⟩ hx q⟩
def zIfX (tb : TB) (t u : TSX) : TSX := fun E1 => zIf tb (t E1) (u E1)
theorem s_ifX {a b : List Stmt} (hc : DT X e tb) (ha : DSsX X Ex a t) (hb : DSsX X Ex b u) : DSX X Ex (.If e a b pos) (zIfX tb t u) := by
  obtain ⟨tp, p, v⟩ := hc.ex
  obtain ⟨t1, p1, v1⟩ := ha.ex
  obtain ⟨t2, p2, v2⟩ := hb.ex
  refine ⟨_, ps_if p p1 p2, fun B c s G H D E E1 st k hx q => v B c s G H _ _ st q fun b c1 G1 H1 st1 e1 q1 => ?_⟩
  have hx1 : ∀ x c s G' H', Stt X.K B c s G' H' → Same G1 G' → E1 x → Ex (.ref (He.ga X.K x)) none H' := fun x c s G2 H2 st2 e2 => hx x c s G2 H2 st2 (e1.trans e2)
  cases b with
  | true =>
    rw [if_pos rfl] at q1 ⊢
    exact v1 B c1 s G1 H1 D E E1 st1 (k.mono e1) hx1 q1
  | false =>
    rw [if_neg Bool.false_ne_true] at q1 ⊢
    exact v2 B c1 s G1 H1 D E E1 st1 (k.mono e1) hx1 q1
/-- raise x('m') -/
def zRaise (x : Str) : TSX := fun E1 _ _ => E1 x
theorem s_raise {x m : Str} {j : Nat} {p p2 pos' : Pos} (hc : X.calm = true) (tk : Takes X fun cls d _ H => Ex cls d H) (F : ExF X.K X.mg x) (hg : Gl X x := by rfl) (hdb : (x == ("__debug__" : Str)) = false := by decide) :
    DSX X Ex (.Raise (some (.Call (.Name x p) [.Constant (.str m) j p2] [] pos)) none pos') (zRaise x) :=
  ⟨_, ps_raise hc tk (pmk_own PySem.F.excBase_ValueError F.q F.g F.k (raises_own F.s F.t) hg hdb), fun B c s G H D E E1 st k hx q => hx x c s G H st (Same.refl _) q⟩
end

/-- THE RULE for a def that may raise -/
theorem fn_dX {P : Program} {w : World} {K : PySem.W.Frag} {mg : Str → Option Value} {base : Heap} {x qual : Str} {st : Stmt} {f : Addr} {fd : FuncData} {N ps : List Str} {k : Nat} {T : TFX} {t : TSX} (F : Fun K x qual st f fd) (sc : FnScope N ps (defScope st))
    (hT : ∀ a Q E1, T a Q E1 → a.length = ps.length ∧ t E1 { nx := fun c => Q (.d .none) c, rt := Q } (a ++ List.replicate (N.length - ps.length) .no))
    (body : ∀ (cdv : Value) (A : Around) (outer : List Env) (s : Shared) (H : Hp) (E : XK), Room k (A.deeper (envOfC qual (defScope st) s.heap.objs.size f cdv)) →
      Takes (cxOf (L2.CX P w) P w K mg base N qual (defScope st) f cdv A outer s H E) (fun cls d _ H => E cls d H) → DSsX (cxOf (L2.CX P w) P w K mg base N qual (defScope st) f cdv A outer s H E) E (defBody st) t) : FnOk P w K mg base (L2.CX P w) (k + 1) f fd ps (SpX K T) := by
  have hl : ∀ vs H Q E, SpX K T vs H Q E → vs.length = ps.length := fun vs H Q E h => by
    obtain ⟨G, io, a, Q1, E1, ⟨A, r, _⟩, h2, _⟩ := h
    have := r.len
    rw [List.length_map] at this
    rw [this]
    exact (hT a Q1 E1 h2).1
  refine F.okX sc hl (fun cdv A outer s H vs Q E hr h => ?_)
  obtain ⟨ts, p, v⟩ := (body cdv A outer s H E hr (takes_of rfl rfl rfl rfl)).ex
  refine ⟨ts, p, ?_⟩
  have lv := hl _ _ _ _ h
  obtain ⟨G, io, a, Q1, E1, ⟨A1, r, wd⟩, h2, h3, h4⟩ := h
  have st0 : Stt K ⟨H, G, io⟩ (a ++ List.replicate (N.length - ps.length) .no) (L2.start N vs) G H := by
    refine ⟨A1, ?_, wd⟩
    unfold L2.start
    rw [lv]
    exact reps_more r _
  exact v ⟨H, G, io⟩ _ _ G H _ { nx := fun c => Q1 (.d .none) c, rt := Q1 } E1 st0 ⟨fun c s' G' H' st' _ q => h3 (.d .none) c .non s' G' H' (st'.push_d .non) q, fun r c v s' G' H' st' _ q => h3 r c v s' G' H' st' q, fun _ _ _ _ _ _ q => q.elim, fun _ _ _ _ _ _ q => q.elim⟩ (fun x c s G' H' st' _ q => h4 x c s G' H' st' q) (hT a Q1 E1 h2).2
/-- a def of the text that keeps its promise, and may raise -/
structure CalX (P : Program) (w : World) (K : PySem.W.Frag) (mg : Str → Option Value) (base : Heap) (x : Str) (k : Nat) (ps : List Str) (T : TFX) : Prop where
  ex : ∃ f fd, FnOk P w K mg base (L2.CX P w) k f fd ps (SpX K T) ∧ mg x = some (.ref f) ∧ PySem.W.keepIn K (.ref f) = true ∧ Binds K fd ps []
/-- .. called where it raises nothing -/
theorem CalX.cal {P : Program} {w : World} {K : PySem.W.Frag} {mg : Str → Option Value} {base : Heap} {x : Str} {k : Nat} {ps : List Str} {T : TFX} (C : CalX P w K mg base x k ps T) : Cal P w K mg base x k ps (fun a Q => T a Q fun _ => False) := by
  obtain ⟨f, fd, F, h2, h3, h4⟩ := C.ex
  have up : ∀ vs H Q E, SpD K (fun a Q => T a Q fun _ => False) vs H Q E → SpX K T vs H Q fun _ _ _ => False := fun vs H Q E h => by
    obtain ⟨G, io, a, Q1, st, hT, q⟩ := h
    exact ⟨G, io, a, Q1, _, st, hT, q, fun _ _ _ _ _ _ z => z⟩
  refine ⟨f, fd, ⟨fun vs H Q E h => F.len _ _ _ _ (up vs H Q E h), fun A outer s H args us vs Q E hr e0 hb hv h => ?_⟩, h2, h3, h4⟩
  refine codeAny_mono (F.run A outer s H args us vs Q _ hr e0 hb hv (up vs H Q E h)) fun r s' hq => ?_
  cases r with
  | error e =>
    obtain ⟨_, _, _, _, _, _, _, _, _, _, _, _, z⟩ := hq
    exact z.elim
  | ok fl => cases fl <;> exact hq
/-- the address a -/
def isRef (a : Addr) : FrG := ⟨fun _ _ v => v = .ref a, fun _ _ _ _ h _ => h⟩
theorem Reps.set_f {K : PySem.W.Frag} {B : Base} {G H : Hp} {c : Ctx} {s : L2.St} {A : List Addr} {v : V} {F : FrG} (hx : F.P K G v) (h : Reps K B G H c s A) : ∀ (j : Nat), ∃ A', Reps K B G H (c.set j (.f F)) (s.set j (some v)) A' ∧ A'.Sublist A := by
  induction h with
  | nil => intro j; exact ⟨[], by simpa using .nil, List.Sublist.refl _⟩
  | no h ih =>
    intro j
    cases j with
    | zero => exact ⟨_, .f hx h, List.Sublist.refl _⟩
    | succ j =>
      obtain ⟨A', r, q⟩ := ih j
      exact ⟨A', .no r, q⟩
  | d hd h ih =>
    intro j
    cases j with
    | zero => exact ⟨_, .f hx h, List.Sublist.refl _⟩
    | succ j =>
      obtain ⟨A', r, q⟩ := ih j
      exact ⟨A', .d hd r, q⟩
  | f hd h ih =>
    intro j
    cases j with
    | zero => exact ⟨_, .f hx h, List.Sublist.refl _⟩
    | succ j =>
      obtain ⟨A', r, q⟩ := ih j
      exact ⟨A', .f hd r, q⟩
  | o ho w h ih =>
    intro j
    cases j with
    | zero => exact ⟨_, .f hx h, List.sublist_append_right _ _⟩
    | succ j =>
      obtain ⟨A', r, q⟩ := ih j
      exact ⟨_, .o ho w r, List.Sublist.append (List.Sublist.refl _) q⟩
theorem Stt.set_f {K : PySem.W.Frag} {B : Base} {G H : Hp} {c : Ctx} {s : L2.St} (h : Stt K B c s G H) (j : Nat) {v : V} {F : FrG} (hx : F.P K G v) : Stt K B (c.set j (.f F)) (s.set j (some v)) G H := by
  obtain ⟨A, r, w⟩ := h.ex
  obtain ⟨A', r', q⟩ := r.set_f hx j
  exact ⟨A', r', w.sub_of q⟩
theorem Reps.get_f {K : PySem.W.Frag} {B : Base} {G H : Hp} {c : Ctx} {s : L2.St} {A : List Addr} (h : Reps K B G H c s A) : ∀ {i : Nat} {F : FrG}, c[i]? = some (.f F) → ∃ v, s[i]? = some (some v) ∧ F.P K G v := by
  induction h with
  | nil => intro i x e; simp at e
  | no _ ih =>
    intro i x e
    cases i with
    | zero => simp at e
    | succ i => simpa using ih (by simpa using e)
  | d h _ ih =>
    intro i x e
    cases i with
    | zero => simp at e
    | succ i => simpa using ih (by simpa using e)
  | f h _ ih =>
    intro i x e
    cases i with
    | zero => simp at e; subst e; exact ⟨_, rfl, h⟩
    | succ i => simpa using ih (by simpa using e)
  | o h w _ ih =>
    intro i x e
    cases i with
    | zero => simp at e
    | succ i => simpa using ih (by simpa using e)
/-- try: g(..), except x as n: suite; ys: the classes of the text that come -/
def zTry (T : TFX) (tl : TL) (i : Nat) (ys : List Str) (ts : Addr → TSd) : TSd := fun E c => tl c fun xs c1 => T (xs.map S.d) (fun _ _ => E.nx c1) fun y => y ∈ ys ∧ ∀ a, ts a { nx := fun c' => E.nx (c'.set i .no), rt := E.rt, bk := fun c' => E.bk (c'.set i .no), ct := fun c' => E.ct (c'.set i .no) } (c1.set i (.f (isRef a)))
section
variable {X : Cx} {T : TFX} {e : Expr} {es : List Expr} {tl : TL} {i k : Nat} {n x g : Str} {ps : List Str} {ys : List Str} {ts : Addr → TSd} {b₀ : Stmt} {suite : List Stmt} {gp cpos epos np pos pos' : Pos}
theorem s_try (hs : X.stack = X.env :: X.outer) (hf : X.env.frame = some X.env.locals) (hN : X.N.Nodup) (hx : X.mg x = some (.ref (He.ga X.K x))) (C : CalX X.prog X.w X.K X.mg X.base g k ps T) (hr : Room k X.A) (hk : ∀ y, y ∈ ys → PySem.W.exmOne X.K (.ref (He.ga X.K y)) (.ref (He.ga X.K x)) = some true)
    (ha : ∀ pn xe, DA (X.tr pn xe) (e :: es) tl)
    (hsu : ∀ y, y ∈ ys → ∀ (a : Addr) (oe : Obj) (pn : List (Addr × Obj)), Zc (.ref (He.ga X.K y)) none oe → (∃ vs, oe.data = .fields vs) → DSs (X.suite a ((a, oe) :: pn)) (b₀ :: suite) (ts a))
    (hi : X.N[i]? = some n := by rfl) (hln : X.env.kindOf n = some .local := by rfl) (hgx : Gl X x := by rfl) (hdx : (x == ("__debug__" : Str)) = false := by decide) (hg : Gl X g := by rfl)
    (hdb : (g == ("__debug__" : Str)) = false := by decide) (he : starEach (e :: es) X.env = (false, eval e X.env) :: starEach es X.env := by rfl) (hpl : (backTo cpos (starEach es X.env)).any (·.1) = false := by rfl)
    (hsw : swapsWith (.Call (.Name g gp) (e :: es) [] cpos) none epos.line X.env = pure false := by rfl) :
    DS X (.Try [.Expr (.Call (.Name g gp) (e :: es) [] cpos) epos] [.ExceptHandler (some (.Name x np)) (some n) (b₀ :: suite) pos'] [] [] pos) (zTry T tl i ys ts) := by
  obtain ⟨f, fd, F, h2, h3, h4⟩ := C.ex
  let tb : WX → TS := fun W D σ H => ∀ ta : TA, DAv X.K ta tl → tCallS (SpX X.K T) (WE W) ta σ H fun _ H1 => D.nx σ H1
  let tsA : Addr → Value → Option Addr → TS := fun a cls d D σ H => ∃ y, y ∈ ys ∧ cls = .ref (He.ga X.K y) ∧ d = none ∧ ∀ ts0 : TS, DSv X.K ts0 (ts a) → ts0 D σ H
  refine ⟨_, ps_try_as (tb := tb) (ts := tsA) (Wout := fun _ _ _ _ => False) hs hf hN hi hln ⟨hgx, hdx, .inl hx⟩ (fun u s' ⟨_, _, _, _, _, _, _, _, _, _, _, _, _, _, _, _, w⟩ => w.elim) (fun W pn xe tk _ => ?_) (fun a oe cls d pn hz hfl => ?_), fun B c s G H D E st kk q => ?_⟩
  · obtain ⟨ta, pa, va⟩ := (ha pn xe).ex
    have P := pss_one (ps_expr (pos := epos) (pe_callS (X := X.tr pn xe) (k := k) F hr hg h2 h3 h4 (passAt tk) pa hdb he hpl) hsw)
    exact ⟨fun pins s σ H D I h => P.run pins s σ H D I (h ta va)⟩
  · refine ⟨fun pins s σ H D I h => ?_⟩
    obtain ⟨y, hy, rfl, rfl, h⟩ := h
    obtain ⟨ts0, p, v⟩ := (hsu y hy a oe pn hz hfl).ex
    exact p.run pins s σ H D I (h ts0 v)
  · intro ta va
    refine va B c s G H _ _ st q fun vs xs c1 G1 H1 st1 e1 d1 q1 => ⟨G1, [], xs.map S.d, _, _, stt_data st1.sub d1, q1, fun r c' v s' G' H' st' q2 => ?_, fun y c' s' G' H' st' hy => ?_⟩
    · obtain ⟨st2, e2⟩ := after0 st1 st'
      exact kk.nx c1 s G' H' st2 (e1.trans e2) q2
    · obtain ⟨st2, e2⟩ := after0 st1 st'
      refine ⟨true, hk y hy.1, fun _ a _ => ⟨y, hy.1, rfl, rfl, fun ts0 v0 => ?_⟩, fun z => nomatch z⟩
      exact v0 B (c1.set i (.f (isRef a))) _ G' H' _ { nx := fun c' => E.nx (c'.set i .no), rt := E.rt, bk := fun c' => E.bk (c'.set i .no), ct := fun c' => E.ct (c'.set i .no) } (st2.set_f i (v := .ref a) rfl) ⟨fun c s G2 H2 st3 e3 q3 => kk.nx _ _ G2 H2 (st3.set_no i none) ((e1.trans e2).trans e3) q3, fun r c v s G2 H2 st3 e3 q3 => kk.rt r c v s G2 H2 st3 ((e1.trans e2).trans e3) q3,
        fun c s G2 H2 st3 e3 q3 => kk.bk _ _ G2 H2 (st3.set_no i none) ((e1.trans e2).trans e3) q3, fun c s G2 H2 st3 e3 q3 => kk.ct _ _ G2 H2 (st3.set_no i none) ((e1.trans e2).trans e3) q3⟩ (hy.2 a)
/-- isinstance(e, y), e the exception in hand -/
def uIsE (j : Nat) (a : Addr) (b : Bool) : TD := fun c Q => c[j]? = some (.f (isRef a)) ∧ Q (.bool b) c
theorem d_isE {a : Addr} {oe : Obj} {pn : List (Addr × Obj)} {D : Addr} {b : Bool} {y2 : Str} {p p1 p2 : Pos} (j : Nat) (C : ExcC X.K D) (hz : Zc (.ref D) none oe) (hfl : ∃ vs, oe.data = .fields vs) (hm : X.mg "isinstance" = none) (hy : X.mg y2 = some (.ref (He.ga X.K y2))) (hb : PySem.W.kitOne X.K (.ref D) (.ref (He.ga X.K y2)) = some b)
    (hN : X.N[j]? = some n := by rfl) (hv : Vis X.env.scope n := by first | exact Or.inl rfl | exact Or.inr (Or.inl rfl) | exact Or.inr (Or.inr rfl)) (hd : (n == ("__debug__" : Str)) = false := by decide) (hcd : (n == ("__classdict__" : Str)) = false := by decide)
    (hg : Gl X "isinstance" := by rfl) (hg2 : Gl X y2 := by rfl) (h2 : (y2 == ("__debug__" : Str)) = false := by decide) (he : starEach ((.Name n p1) :: [.Name y2 p2]) X.env = (false, eval (.Name n p1) X.env) :: starEach [.Name y2 p2] X.env := by rfl) (hpl : (backTo pos (starEach [.Name y2 p2] X.env)).any (·.1) = false := by rfl) :
    DE (X.suite a ((a, oe) :: pn)) (.Call (.Name "isinstance" p) [.Name n p1, .Name y2 p2] [] pos) (uIsE j a b) := by
  refine ⟨_, pe_callB (X := X.suite a ((a, oe) :: pn)) (call_isE C hz hfl) hg hm (by decide +kernel) (pa_cons (pe_var (i := j) hN hv hd hcd) (pa_cons (pe_glob (v := .ref (He.ga X.K y2)) hg2 hy rfl h2) pa_nil) he) (by decide) (by decide) he hpl, fun B c s G H Q R st q k => ?_⟩
  obtain ⟨A, r, _⟩ := st.ex
  obtain ⟨v, h1, rfl⟩ := r.get_f q.1
  exact ⟨.ref a, h1, .ref (He.ga X.K y2), _, b, rfl, fun u h => h, hb, k _ _ c G H st (Same.refl _) (.bl b) q.2⟩
theorem d_isEB {a : Addr} {oe : Obj} {pn : List (Addr × Obj)} {D : Addr} {b : Bool} {y2 : Str} {ty : String} {p p1 p2 : Pos} (j : Nat) (C : ExcC X.K D) (hz : Zc (.ref D) none oe) (hfl : ∃ vs, oe.data = .fields vs) (hm : X.mg "isinstance" = none) (hy : X.mg y2 = none) (hvb : bootBuiltins y2 = some (.type ty)) (hb : PySem.W.kitOne X.K (.ref D) (.type ty) = some b)
    (hN : X.N[j]? = some n := by rfl) (hv : Vis X.env.scope n := by first | exact Or.inl rfl | exact Or.inr (Or.inl rfl) | exact Or.inr (Or.inr rfl)) (hd : (n == ("__debug__" : Str)) = false := by decide) (hcd : (n == ("__classdict__" : Str)) = false := by decide)
    (hg : Gl X "isinstance" := by rfl) (hg2 : Gl X y2 := by rfl) (h1 : y2 ≠ "__name__" := by decide) (h2 : (y2 == ("__debug__" : Str)) = false := by decide) (he : starEach ((.Name n p1) :: [.Name y2 p2]) X.env = (false, eval (.Name n p1) X.env) :: starEach [.Name y2 p2] X.env := by rfl) (hpl : (backTo pos (starEach [.Name y2 p2] X.env)).any (·.1) = false := by rfl) :
    DE (X.suite a ((a, oe) :: pn)) (.Call (.Name "isinstance" p) [.Name n p1, .Name y2 p2] [] pos) (uIsE j a b) := by
  refine ⟨_, pe_callB (X := X.suite a ((a, oe) :: pn)) (call_isE C hz hfl) hg hm (by decide +kernel) (pa_cons (pe_var (i := j) hN hv hd hcd) (pa_cons (pe_bltn (v := .ty ty) hg2 hy hvb rfl h1 h2) pa_nil) he) (by decide) (by decide) he hpl, fun B c s G H Q R st q k => ?_⟩
  obtain ⟨A, r, _⟩ := st.ex
  obtain ⟨v, h3, rfl⟩ := r.get_f q.1
  exact ⟨.ref a, h3, .ty ty, _, b, rfl, fun u h => h, hb, k _ _ c G H st (Same.refl _) (.bl b) q.2⟩
end
/-! ### split -/
def oSplit (ta tb : TD) : TR := fun c Q => ta c fun x c1 => asS x fun z => tb c1 fun y c2 => asS y fun w => w.length ≠ 0 ∧ z.length + 2 ≤ sizeLine ∧ Q (.lst ((Txt.split z w).map PyData.str)) c2
theorem o_split {X : Cx} {a b : Expr} {ta tb : TD} {apos pos : Pos} (ha : DE X a ta) (hb : DE X b tb) (hs : starEach [b] X.env = [(false, eval b X.env)] := by rfl) (hbase : attributeBase a "split" X.env (eval a X.env) = eval a X.env := by rfl) (hline : (apos.endLine == pos.line) = true := by rfl) :
    DO X (.Call (.Attribute a "split" apos) [b] [] pos) (oSplit ta tb) := by
  obtain ⟨tea, pa, va⟩ := ha.ex
  obtain ⟨teb, pb, vb⟩ := hb.ex
  refine ⟨_, pe_split pa pb hs hbase hline, fun B c s G H Q R st q k => va B c s G H _ _ st q fun v x c1 G1 H1 st1 e1 d1 q1 => ?_⟩
  obtain ⟨z, rfl, q1⟩ := asS_of q1
  refine ⟨⟨z, dp_str d1⟩, vb B c1 s G1 H1 _ _ st1 q1 fun w y c2 G2 H2 st2 e2 d2 q2 => ?_⟩
  obtain ⟨u, rfl, h1, h2, q2⟩ := asS_of q2
  exact ⟨z, u, dp_str d1, by rw [dp_str d2], by rw [beq_eq_false_iff_ne]; exact h1, h2, fun p hp => k _ _ c2 _ _ (st2.laidL hp (dpa_strs _)) (e1.trans e2) q2⟩
/-! ### a new owned thing lent as the first argument, and forgotten behind the call -/
def uLendT (T : TF) (to : TR) (t : TL) : TD := fun c Q => to c fun R c1 => t c1 fun xs c2 => ∀ v : Lt, T (.o (some v) R :: xs.map S.d) (kL v fun x _ => Q x c2)
theorem d_lendT {X : Cx} {e0 : Expr} {es : List Expr} {to : TR} {tl : TL} {x : Str} {p pos : Pos} {k : Nat} {ps : List Str} {T : TF} (C : Cal X.prog X.w X.K X.mg X.base x k ps T) (hr : Room k X.A) (ho : DO X e0 to) (ha : DA X es tl) (hg : Gl X x := by rfl)
    (hdb : (x == ("__debug__" : Str)) = false := by decide) (he : starEach (e0 :: es) X.env = (false, eval e0 X.env) :: starEach es X.env := by rfl) (hpl : (backTo pos (starEach es X.env)).any (·.1) = false := by rfl) : DE X (.Call (.Name x p) (e0 :: es) [] pos) (uLendT T to tl) := by
  obtain ⟨f, fd, F, hm, hk, hb⟩ := C.ex
  obtain ⟨teo, po, vo⟩ := ho.ex
  obtain ⟨ta, pa, va⟩ := ha.ex
  refine ⟨_, pe_call F hr hg hm hk hb .nil pass0 (pa_cons po pa he) hdb he hpl, fun B c s G H Q R st q k => vo B c s G H _ _ st q fun v0 R0 c0 G0 H0 st0 e0 q0 => ?_⟩
  obtain ⟨A1, B', hR, stU, back⟩ := st0.underR
  refine va B' c0 s G0 H0 _ _ stU q0 fun vs xs c1 G1 H1 st1 e1 d1 q1 => ?_
  obtain ⟨e2, _, st2⟩ := back _ _ _ _ st1
  obtain ⟨v, lx, _, hv1, ent, aft⟩ := lend1 (j := 0) st2 rfl
  have hv1 : some v0 = some v := Option.some.inj hv1
  cases hv1
  rw [List.append_nil]
  refine ⟨G1, lx.al, _, _, ent d1, q1 lx, fun r c' vr s' G' H' st' q2 => ?_⟩
  obtain ⟨R', g2, q2⟩ := q2
  obtain ⟨e3, h1, h2⟩ := aft st' g2
  have e4 := e0.trans (e2.trans e3)
  cases r with
  | d y =>
    obtain ⟨hd, st3⟩ := h1 y rfl
    exact k vr y _ G' H' st3.pop e4 hd q2
  | o w R2 =>
    cases w with
    | none =>
      obtain ⟨G2, d, a1, a2, a3, a4⟩ := (h2 R2 rfl).frzR q2
      exact k vr d _ G2 H' a1.pop (e4.trans a2) a3 a4
    | some _ => exact q2.elim
  | no => exact q2.elim
  | f _ => exact q2.elim
end Dl

/-! What is read in lists of one's own, as data; names of inner lists; displays of lists of one's own. -/
namespace Dl
open PySem PySem.Spec PyProof.Rows L2
/-- what is seen of a slot -/
def bare : S → S
  | .d x => .d x
  | .o _ (.lst ds) => .d (.list ds)
  | .o _ (.lls dss) => .d (.list (dss.map PyData.list))
  | _ => .no
section
variable {x : PyData} {w : Option Lt} {ds : List PyData} {dss : List (List PyData)} {F : FrG} {R : ResG} {P : List PyData → Prop} {kvs : List (PyData × PyData)}
theorem bare_d : bare (.d x) = .d x := id rfl
theorem bare_o : bare (.o w (.lst ds)) = .d (.list ds) := id rfl
theorem bare_l : bare (.o w (.lls dss)) = .d (.list (dss.map PyData.list)) := id rfl
theorem bare_no : bare .no = .no := id rfl
theorem bare_f : bare (.f F) = .no := id rfl
theorem bare_g : bare (.o w (.gen R)) = .no := id rfl
theorem bare_P : bare (.o w (.lstP P)) = .no := id rfl
theorem bare_dic : bare (.o w (.dic kvs)) = .no := id rfl
end
section
variable {K : PySem.W.Frag} {B : Base} {G H : Hp} {c : Ctx} {s : L2.St} {A : List Addr}
theorem reps_bare (e : Same G H) (h : Reps K B G H c s A) : Reps K ⟨H, H, []⟩ H H (c.map bare) s [] := by
  induction h with
  | nil => exact .nil
  | no _ ih => exact .no ih
  | d h _ ih => exact .d (dp_mono e _ _ h) ih
  | f _ _ ih => exact .no ih
  | @o w v R c s A A' h _ _ ih =>
    cases R with
    | lst ds =>
      obtain ⟨p, vs, rfl, rfl, h1, h2⟩ := h
      exact .d (.lst (SqL.of h1) (dpa_mono e _ _ h2)) ih
    | lls dss =>
      obtain ⟨p, ps, rfl, rfl, h1, h2⟩ := h
      exact .d (.lst (SqL.of h1) (ownLs_dp e h2)) ih
    | lstP P => exact .no ih
    | gen R => exact .no ih
    | dic _ => exact .no ih
theorem Stt.bare (st : Stt K B c s G H) : Stt K ⟨H, H, []⟩ (c.map bare) s H H := by
  obtain ⟨A, r, w⟩ := st.ex
  exact ⟨[], reps_bare w.sub r, Same.refl _, List.nodup_nil, by simp, Same.refl _, fun a o h _ => h, fun a h => h, fun a _ => rfl, by simp⟩
theorem Stt.unsee (st : Stt K B c s G H) {c' : Ctx} {s' : L2.St} {G' H' : Hp} (st' : Stt K ⟨H, H, []⟩ c' s' G' H') : Stt K B c s G H' := by
  obtain ⟨A', r', w⟩ := st'.ex
  obtain ⟨A, r0, w0⟩ := st.ex
  have up : Same H H' := w.old.trans w.sub
  have kp : ∀ a ∈ A, H' a = H a := fun a ha => by
    cases q : H a with
    | none => exact absurd q (r0.here a ha)
    | some o => exact up a o q
  refine ⟨A, r0.mono (Same.refl _) kp, w0.sub.trans up, w0.nd, w0.out, w0.old, fun a o h1 h2 => up a o (w0.stay a o h1 h2), fun a h => w0.dom a ?_, w0.newG, w0.lim⟩
  cases q : H a with
  | none => rfl
  | some o => rw [up a o q] at h; cases h
end
/-- more that is seen -/
def SeenAt (c : Ctx) (i : Nat) (x : PyData) : Prop := ∀ (K : PySem.W.Frag) (B : Base) (s : L2.St) (G H : Hp), Stt K B c s G H → ∃ v, s[i]? = some (some v) ∧ Dp K H v x
def layS : Ctx → List (Nat × PyData) → Ctx
  | c, [] => c
  | c, (i, x) :: l => layS (c.set i (.d x)) l
theorem layS_n {c : Ctx} : layS c [] = c := id rfl
theorem layS_c {c : Ctx} {i : Nat} {x : PyData} {l : List (Nat × PyData)} : layS c ((i, x) :: l) = layS (c.set i (.d x)) l := id rfl
theorem Stt.lay {K : PySem.W.Frag} {H : Hp} {s : L2.St} : ∀ {l : List (Nat × PyData)} {c : Ctx}, Stt K ⟨H, H, []⟩ c s H H → (∀ z ∈ l, ∃ v, s[z.1]? = some (some v) ∧ Dp K H v z.2) → Stt K ⟨H, H, []⟩ (layS c l) s H H
  | [], _, st, _ => st
  | (i, x) :: l, c, st, h => by
    obtain ⟨v, e, d⟩ := h (i, x) List.mem_cons_self
    have st2 := st.set_d i d
    rw [set_same e] at st2
    exact Stt.lay (l := l) (c := c.set i (.d x)) st2 fun z hz => h z (List.mem_cons_of_mem _ hz)
def uSee (t : TD) : TD := fun c Q => t (c.map bare) fun x _ => scal x = true ∧ Q x c
def bSee (t : TB) : TB := fun c Q => t (c.map bare) fun b _ => Q b c
def uSeeA (t : TD) : TD := fun c Q => ∃ l : List (Nat × PyData), (∀ z ∈ l, SeenAt c z.1 z.2) ∧ t (layS (c.map bare) l) fun x _ => scal x = true ∧ Q x c
def bSeeA (t : TB) : TB := fun c Q => ∃ l : List (Nat × PyData), (∀ z ∈ l, SeenAt c z.1 z.2) ∧ t (layS (c.map bare) l) fun b _ => Q b c
section
variable {X : Cx} {a : Expr} {ta : TD} {tb : TB}
theorem d_see (ha : DE X a ta) : DE X a (uSee ta) := by
  obtain ⟨te, p, v⟩ := ha.ex
  exact ⟨te, p, fun B c s G H Q R st q k => v _ _ s H H _ _ st.bare q fun u x c1 G1 H1 st1 e1 d1 q1 => k u x c G H1 (st.unsee st1) (Same.refl _) (dp_scal d1 q1.1) q1.2⟩
theorem t_see (ha : DT X a tb) : DT X a (bSee tb) := by
  obtain ⟨te, p, v⟩ := ha.ex
  exact ⟨te, p, fun B c s G H Q R st q k => v _ _ s H H _ _ st.bare q fun b c1 G1 H1 st1 e1 q1 => k b c G H1 (st.unsee st1) (Same.refl _) q1⟩
theorem d_seeA (ha : DE X a ta) : DE X a (uSeeA ta) := by
  obtain ⟨te, p, v⟩ := ha.ex
  refine ⟨te, p, fun B c s G H Q R st q k => ?_⟩
  obtain ⟨l, hl, q⟩ := q
  exact v _ _ s H H _ _ (st.bare.lay fun z hz => hl z hz _ _ _ _ _ st) q fun u x c1 G1 H1 st1 e1 d1 q1 => k u x c G H1 (st.unsee st1) (Same.refl _) (dp_scal d1 q1.1) q1.2
theorem t_seeA (ha : DT X a tb) : DT X a (bSeeA tb) := by
  obtain ⟨te, p, v⟩ := ha.ex
  refine ⟨te, p, fun B c s G H Q R st q k => ?_⟩
  obtain ⟨l, hl, q⟩ := q
  exact v _ _ s H H _ _ (st.bare.lay fun z hz => hl z hz _ _ _ _ _ st) q fun b c1 G1 H1 st1 e1 q1 => k b c G H1 (st.unsee st1) (Same.refl _) q1
end
/-! ### inner lists by their addresses -/
def llP (p : Addr) (ps : List Addr) (dss : List (List PyData)) : ResG where
  P K G H v A := v = .ref p ∧ A = p :: ps ∧ H p = some (.lst (ps.map V.ref)) ∧ OwnLs K G H ps dss
  grow _ _ _ _ _ _ h e := ⟨h.1, h.2.1, h.2.2.1, ownLs_mono h.2.2.2 e fun _ _ => rfl⟩
  loc _ _ _ _ _ _ h k := by
    obtain ⟨rfl, rfl, h1, h2⟩ := h
    exact ⟨rfl, rfl, (k p List.mem_cons_self).trans h1, ownLs_mono h2 (Same.refl _) fun a ha => k a (List.mem_cons_of_mem _ ha)⟩
  here _ _ _ _ _ h := by
    obtain ⟨rfl, rfl, h1, h2⟩ := h
    intro a ha
    rcases List.mem_cons.mp ha with rfl | z
    · rw [h1]; exact fun z => nomatch z
    · exact ownLs_here h2 a z
def asLP (R : Res) (Q : Addr → List Addr → List (List PyData) → Prop) : Prop := ∃ p ps dss, R = .gen (llP p ps dss) ∧ Q p ps dss
theorem asLP_in {p : Addr} {ps : List Addr} {dss : List (List PyData)} {Q : Addr → List Addr → List (List PyData) → Prop} (h : Q p ps dss) : asLP (.gen (llP p ps dss)) Q := ⟨p, ps, dss, rfl, h⟩
section
variable {K : PySem.W.Frag} {B : Base} {G H : Hp} {c : Ctx} {s : L2.St}
theorem Stt.toP (st : Stt K B c s G H) {j : Nat} {w : Option Lt} {dss : List (List PyData)} (e : c[j]? = some (.o w (.lls dss))) : ∃ p ps, s[j]? = some (some (.ref p)) ∧ H p = some (.lst (ps.map V.ref)) ∧ OwnLs K G H ps dss ∧ Stt K B (c.set j (.o w (.gen (llP p ps dss)))) s G H := by
  obtain ⟨v, A1, g1, ⟨p, ps, rfl, rfl, h1, h2⟩, nd, wr⟩ := st.foc e
  refine ⟨p, ps, g1, h1, h2, wr H (.gen (llP p ps dss)) (p :: ps) (fun _ _ => rfl) (fun a ha => .inl ha) (fun a ha => ?_) nd ⟨rfl, rfl, h1, h2⟩⟩
  rcases List.mem_cons.mp ha with rfl | z
  · rw [h1]; exact fun z => nomatch z
  · exact ownLs_here h2 a z
theorem Stt.ofP (st : Stt K B c s G H) {j : Nat} {w : Option Lt} {p : Addr} {ps : List Addr} {dss : List (List PyData)} (e : c[j]? = some (.o w (.gen (llP p ps dss)))) : s[j]? = some (some (.ref p)) ∧ H p = some (.lst (ps.map V.ref)) ∧ OwnLs K G H ps dss ∧ Stt K B (c.set j (.o w (.lls dss))) s G H := by
  obtain ⟨v, A1, g1, ⟨rfl, rfl, h1, h2⟩, nd, wr⟩ := st.foc e
  refine ⟨g1, h1, h2, wr H (.lls dss) (p :: ps) (fun _ _ => rfl) (fun a ha => .inl ha) (fun a ha => ?_) nd ⟨p, ps, rfl, rfl, h1, h2⟩⟩
  rcases List.mem_cons.mp ha with rfl | z
  · rw [h1]; exact fun z => nomatch z
  · exact ownLs_here h2 a z
end
theorem seen_al {c : Ctx} {i j k : Nat} {w : Option Lt} {p q : Addr} {ps : List Addr} {dss : List (List PyData)} {ds : List PyData} (h1 : c[i]? = some (.f (isRef q))) (h2 : c[j]? = some (.o w (.gen (llP p ps dss)))) (h3 : ps[k]? = some q) (h4 : dss[k]? = some ds) : SeenAt c i (.list ds) := fun K B s G H st => by
  obtain ⟨A, r, _⟩ := st.ex
  obtain ⟨v, e, rfl⟩ := r.get_f h1
  obtain ⟨_, _, h5, _⟩ := st.ofP h2
  obtain ⟨q', vs, a1, a2, a3⟩ := ownLs_get h5 h4
  rw [h3] at a1
  cases a1
  exact ⟨_, e, .lst (SqL.of a2) (dpa_mono st.sub _ _ a3)⟩
theorem seen_lp {c : Ctx} {j : Nat} {w : Option Lt} {p : Addr} {ps : List Addr} {dss : List (List PyData)} (h2 : c[j]? = some (.o w (.gen (llP p ps dss)))) : SeenAt c j (.list (dss.map PyData.list)) := fun K B s G H st => by
  obtain ⟨e, h1, h5, _⟩ := st.ofP h2
  exact ⟨_, e, .lst (SqL.of h1) (ownLs_dp st.sub h5)⟩
section
variable {X : Cx} {a e : Expr} {ta : TD} {pos cpos apos p pn : Pos} {x y : Str}
/-- y = xss[k] -/
def zAl (j i k : Nat) : TSd := fun E c => slO c j fun w R => asLL R fun dss => k < dss.length ∧ ∀ p ps q, ps.length = dss.length → ps[k]? = some q → E.nx ((c.set j (.o w (.gen (llP p ps dss)))).set i (.f (isRef q)))
theorem s_al (j i k : Nat) {py pc : Pos} {jj : Nat} (hnd : X.N.Nodup)
    (hN : X.N[j]? = some x := by rfl) (hv : Vis X.env.scope x := by first | exact Or.inl rfl | exact Or.inr (Or.inl rfl) | exact Or.inr (Or.inr rfl)) (hd : (x == ("__debug__" : Str)) = false := by decide)
    (hcd : (x == ("__classdict__" : Str)) = false := by decide) (hix : PlainIx (.Constant (.int (k : Int)) jj pc) := by exact fun _ _ => rfl)
    (hi : X.N[i]? = some y := by rfl) (hx : Loc X.env.scope y := by first | exact Or.inl rfl | exact Or.inr rfl) (hs : swapsWith (.Subscript (.Name x pn) (.Constant (.int (k : Int)) jj pc) p) (some (.Name y py)) pos.line X.env = pure false := by rfl) (hf : X.fn y = true ∨ X.env.scope.names.lookup y = some .local := by first | exact .inl rfl | exact .inr rfl | assumption) :
    DS X (.Assign [.Name y py] (.Subscript (.Name x pn) (.Constant (.int (k : Int)) jj pc) p) pos) (zAl j i k) := by
  refine ⟨_, ps_set hnd hi hx (pe_ix ix_seq (pe_var hN hv hd hcd) pe_int hix) hs hf, fun B c s G H D E st kk q => ?_⟩
  obtain ⟨w, R0, e0, q⟩ := slO_of q
  obtain ⟨dss, rfl, hk, q⟩ := asLL_of q
  obtain ⟨p, ps, g1, h1, h2, st2⟩ := st.toP e0
  have lps := ownLs_len h2
  obtain ⟨q0, hq⟩ : ∃ q0, ps[k]? = some q0 := ⟨_, List.getElem?_eq_getElem (by omega)⟩
  have hm : (ps.map V.ref)[k]? = some (.ref q0) := by rw [List.getElem?_map, hq]; rfl
  refine ⟨_, g1, .inl ⟨p, ps.map V.ref, k, .ref q0, rfl, rfl, SqL.of h1, atI_nat hm, ?_⟩⟩
  exact kk.nx _ _ G H (st2.set_f i (v := .ref q0) rfl) (Same.refl _) (q p ps q0 lps hq)
/-- xss.insert(0, xs), xs of one's own -/
def zInsLL (j i : Nat) : TSd := fun E c => slO c i fun wi Ri => wi = none ∧ asR Ri fun ds => slO (c.set i .no) j fun w R => w = none ∧ asLP R fun _ _ dss => dss.length < sizeLine ∧ E.nx ((c.set i .no).set j (.o none (.lls (ds :: dss))))
theorem s_insLL (j i : Nat) {py pc : Pos} {jj : Nat}
    (hN : X.N[j]? = some x := by rfl) (hv : Vis X.env.scope x := by first | exact Or.inl rfl | exact Or.inr (Or.inl rfl) | exact Or.inr (Or.inr rfl)) (hd : (x == ("__debug__" : Str)) = false := by decide)
    (hcd : (x == ("__classdict__" : Str)) = false := by decide)
    (hNy : X.N[i]? = some y := by rfl) (hvy : Vis X.env.scope y := by first | exact Or.inl rfl | exact Or.inr (Or.inl rfl) | exact Or.inr (Or.inr rfl)) (hdy : (y == ("__debug__" : Str)) = false := by decide)
    (hcdy : (y == ("__classdict__" : Str)) = false := by decide)
    (hbase : attributeBase (.Name x p) "insert" X.env (eval (.Name x p) X.env) = eval (.Name x p) X.env := by rfl)
    (hfew : ((backTo cpos (starEach [.Constant (.int 0) jj pc, .Name y py] X.env)).all (fun x => !x.1) && (backToKw cpos (keywordEach [] X.env)).all (fun x => x.1.isSome)
      && decide ([Expr.Constant (.int 0) jj pc, .Name y py].length + ([] : List Keyword).length + (if ([] : List Keyword).isEmpty then 0 else 1) < 30)) = true := by rfl)
    (hline : (apos.endLine == cpos.line) = true := by rfl) (hs : starEach [.Constant (.int 0) jj pc, .Name y py] X.env = (false, eval (.Constant (.int 0) jj pc) X.env) :: starEach [.Name y py] X.env := by rfl) (hs2 : starEach [.Name y py] X.env = (false, eval (.Name y py) X.env) :: starEach [] X.env := by rfl) (hplain : (backTo cpos (starEach [.Name y py] X.env)).any (·.1) = false := by rfl)
    (hsw : swapsWith (.Call (.Attribute (.Name x p) "insert" apos) [.Constant (.int 0) jj pc, .Name y py] [] cpos) none pos.line X.env = pure false := by rfl) : DS X (.Expr (.Call (.Attribute (.Name x p) "insert" apos) [.Constant (.int 0) jj pc, .Name y py] [] cpos) pos) (zInsLL j i) := by
  refine ⟨_, ps_expr (pe_bm F.plainAttrs_list F.slot_list_insert F.type_list_insert mt_insert (pe_var hN hv hd hcd) (pa_cons pe_int (pa_cons (pe_var hNy hvy hdy hcdy) pa_nil hs2) hs) hbase hfew hline hs hplain) hsw, fun B c s G H D E st k q => ?_⟩
  obtain ⟨wi, Ri, ei, rfl, q⟩ := slO_of q
  obtain ⟨ds, rfl, q⟩ := asR_of q
  obtain ⟨w, R, ej, rfl, p0, ps, dss, rfl, hl, q⟩ := slO_of q
  obtain ⟨vi, gi, stT⟩ := st.take_o ei
  obtain ⟨v1, A1, At, g1, ⟨rfl, rfl, h1, h2⟩, ⟨q0, vs, rfl, rfl, t1, t2⟩, nd, wr⟩ := stT.foc2 ej
  obtain ⟨n1, n2, n3⟩ := List.nodup_append.mp nd
  obtain ⟨m1, m2⟩ := List.nodup_cons.mp n1
  have lps := ownLs_len h2
  have ne : q0 ≠ p0 := fun z => n3 p0 List.mem_cons_self q0 (by simp) z.symm
  have nq : ∀ a ∈ ps, a ≠ q0 := fun a ha z => n3 a (List.mem_cons_of_mem _ ha) q0 (by simp) z
  have np : ∀ a ∈ ps, a ≠ p0 := fun a ha z => m1 (z ▸ ha)
  refine ⟨_, g1, .inl ⟨rfl, _, SqL.of h1⟩, _, gi, ?_⟩
  refine ⟨p0, ps.map V.ref, 0, .ref q0, rfl, rfl, h1, by rw [List.length_map]; omega, by decide, by decide, ?_⟩
  refine k.nx _ _ G _ (wr _ (.lls (ds :: dss)) (p0 :: q0 :: ps) (fun a ha => ?_) (fun a ha => ?_) (fun a ha => ?_) ?_ ?_) (Same.refl _) q
  · simp at ha
    rw [upd_ne ha.1]
  · simp at ha
    rcases ha with rfl | rfl | z
    · exact .inl List.mem_cons_self
    · exact .inr (.inl (by simp))
    · exact .inl (List.mem_cons_of_mem _ z)
  · by_cases hp : a = p0
    · rw [hp, upd_same]; exact fun z => nomatch z
    · rw [upd_ne hp]
      simp [hp] at ha
      rcases ha with rfl | z
      · rw [t1]; exact fun z => nomatch z
      · exact ownLs_here h2 a z
  · refine List.nodup_cons.mpr ⟨fun z => ?_, List.nodup_cons.mpr ⟨fun z => nq _ z rfl, m2⟩⟩
    rcases List.mem_cons.mp z with y | y
    · exact ne y.symm
    · exact m1 y
  · refine ⟨p0, q0 :: ps, rfl, rfl, ?_, .cons (vs := vs) (by rw [upd_ne ne]; exact t1) t2 (ownLs_mono h2 (Same.refl _) fun a ha => upd_ne (np a ha))⟩
    rw [upd_same]; rfl
/-- for y in xss, which stays as it is -/
def zForAl (j i : Nat) (tb : TSd) : TSd := fun E c => slO c j fun w R => w = none ∧ asLL R fun dss => ∀ p ps, ps.length = dss.length → ∃ I : Nat → Ctx → Prop, I 0 (c.set j (.o none (.gen (llP p ps dss)))) ∧ (∀ n c', I n c' → c'[j]? = some (.o none (.gen (llP p ps dss)))) ∧
  (∀ n q c', ps[n]? = some q → n < dss.length → I n c' → tb { E with nx := I (n + 1), ct := I (n + 1), bk := fun c' => c'[j]? = some (.o none (.gen (llP p ps dss))) ∧ E.nx (c'.set j (.o none (.lls dss))) } (c'.set i (.f (isRef q)))) ∧ ∀ c', I dss.length c' → E.nx (c'.set j (.o none (.lls dss)))
theorem s_forAl (j i : Nat) {yp : Pos} {body : List Stmt} {tb : TSd} (hp : PassesOwn (model X.prog X.w) X.A X.env X.xe) (hc : X.calm = true) (hnd : X.N.Nodup) (hb : DSs X body tb)
    (hN : X.N[j]? = some x := by rfl) (hv : Vis X.env.scope x := by first | exact Or.inl rfl | exact Or.inr (Or.inl rfl) | exact Or.inr (Or.inr rfl)) (hd : (x == ("__debug__" : Str)) = false := by decide)
    (hcd : (x == ("__classdict__" : Str)) = false := by decide)
    (hNy : X.N[i]? = some y := by rfl) (hx : Loc X.env.scope y := by first | exact Or.inl rfl | exact Or.inr rfl) (hf : X.fn y = true ∨ X.env.scope.names.lookup y = some .local := by first | exact .inl rfl | exact .inr rfl | assumption)
    (hs : ∀ z, foldedSetIterable (.Name x p) X.env z = pure z := by intro _; rfl) : DS X (.For (.Name y yp) (.Name x p) body [] pos) (zForAl j i tb) := by
  obtain ⟨ts, pb, vb⟩ := hb.ex
  refine ⟨_, ps_for hp hc (pi_listN (pe_var hN hv hd hcd)) (pg_name hnd hNy hx hf) pb hs, fun B c s G H D E st k q => ?_⟩
  obtain ⟨w, R, e0, rfl, q⟩ := slO_of q
  obtain ⟨dss, rfl, q⟩ := asLL_of q
  obtain ⟨p, ps, g1, h1, h2, st0⟩ := st.toP e0
  have lps := ownLs_len h2
  obtain ⟨I, i0, hj, turn, fin⟩ := q p ps lps
  refine ⟨.ref p, g1, p, rfl, ⟨_, SqL.of h1⟩, ?_⟩
  refine ⟨fun n m s' H' => m = dss.length - n ∧ n ≤ dss.length ∧ ∃ c' G', Stt X.K B c' s' G' H' ∧ Same G G' ∧ I n c', ⟨dss.length, rfl, Nat.zero_le _, _, G, st0, Same.refl _, i0⟩, ?_⟩
  rintro n m s' H' ⟨rfl, hn, c', G', st', e', hI⟩
  have ej := hj n c' hI
  obtain ⟨_, hp0, h3, st3⟩ := st'.ofP ej
  by_cases hlt : n < dss.length
  · obtain ⟨q0, hq0⟩ : ∃ q0, ps[n]? = some q0 := ⟨_, List.getElem?_eq_getElem (by omega)⟩
    have hit : (ps.map V.ref)[n]? = some (.ref q0) := by rw [List.getElem?_map, hq0]; rfl
    refine .inr ⟨⟨_, .ref q0, SqL.of hp0, hit⟩, fun s2 H2 => ∃ c2 G2, Stt X.K B c2 s2 G2 H2 ∧ Same G G2 ∧ I (n + 1) c2, fun s2 H2 ⟨c2, G2, st2, e2, hI2⟩ => ⟨dss.length - (n + 1), by omega, rfl, hlt, c2, G2, st2, e2, hI2⟩, fun z H2 hy => ?_⟩
    obtain ⟨rfl, hz⟩ := hy
    have := hz _ (SqL.of hp0)
    rw [hit] at this
    cases this
    refine vb B _ _ G' H2 _ { E with nx := I (n + 1), ct := I (n + 1), bk := fun c' => c'[j]? = some (.o none (.gen (llP p ps dss))) ∧ E.nx (c'.set j (.o none (.lls dss))) } (st'.set_f i (v := .ref q0) rfl) ⟨fun c4 s4 G4 H4 st4 e4 q4 => ⟨c4, G4, st4, e'.trans e4, q4⟩, fun r c4 v s4 G4 H4 st4 e4 q4 => k.rt r c4 v s4 G4 H4 st4 (e'.trans e4) q4, fun c4 s4 G4 H4 st4 e4 q4 => ?_, fun c4 s4 G4 H4 st4 e4 q4 => ⟨c4, G4, st4, e'.trans e4, q4⟩⟩ (turn n q0 c' hq0 hlt hI)
    obtain ⟨_, _, _, st5⟩ := st4.ofP q4.1
    exact k.nx _ s4 G4 H4 st5 (e'.trans e4) q4.2
  · have e : n = dss.length := by omega
    subst e
    exact .inl ⟨⟨_, SqL.of hp0, by rw [List.length_map]; omega⟩, k.nx _ s' G' H' st3 e' (fin c' hI)⟩
end
/-! ### displays of lists of one's own -/
def lsP (ps : List Addr) (dss : List (List PyData)) : ResG where
  P K G H _ A := A = ps ∧ OwnLs K G H ps dss
  grow _ _ _ _ _ _ h e := ⟨h.1, ownLs_mono h.2 e fun _ _ => rfl⟩
  loc _ _ _ _ _ _ h k := by
    obtain ⟨rfl, h2⟩ := h
    exact ⟨rfl, ownLs_mono h2 (Same.refl _) k⟩
  here _ _ _ _ _ h := by
    obtain ⟨rfl, h2⟩ := h
    exact ownLs_here h2
def hdP (p : Addr) (ps : List Addr) : ResG where
  P _ _ H v A := v = .ref p ∧ A = [p] ∧ H p = some (.lst (ps.map V.ref))
  grow _ _ _ _ _ _ h e := h
  loc _ _ _ _ _ _ h k := by
    obtain ⟨rfl, rfl, h1⟩ := h
    exact ⟨rfl, rfl, (k p List.mem_cons_self).trans h1⟩
  here _ _ _ _ _ h := by
    obtain ⟨rfl, rfl, h1⟩ := h
    intro a ha
    obtain rfl : a = p := by simpa using ha
    rw [h1]; exact fun z => nomatch z
theorem Stt.merge {K : PySem.W.Frag} {B : Base} {G H : Hp} {c : Ctx} {s : L2.St} {R1 R2 R : Res} {v1 v2 : V} (st : Stt K B (.o none R1 :: .o none R2 :: c) (some v1 :: some v2 :: s) G H) (v : V) (h : ∀ A1 A2, R1.P K G H v1 A1 → R2.P K G H v2 A2 → R.P K G H v (A1 ++ A2)) : Stt K B (.o none R :: c) (some v :: s) G H := by
  obtain ⟨A, r, w⟩ := st.ex
  cases r with
  | @o _ _ _ _ _ A1 _ h1 w1 r =>
    cases r with
    | @o _ _ _ _ _ A2 A3 h2 w2 r =>
      have w1 : ∀ a ∈ A1, B.H0 a = none := w1
      have w2 : ∀ a ∈ A2, B.H0 a = none := w2
      refine ⟨(A1 ++ A2) ++ A3, .o (h _ _ h1 h2) (fun a ha => ?_) r, by rw [List.append_assoc]; exact w⟩
      rcases List.mem_append.mp ha with z | z
      · exact w1 a z
      · exact w2 a z
abbrev TLL := Ctx → (List (List PyData) → Ctx → Prop) → Prop
def DOsv (K : PySem.W.Frag) (te : TA) (t : TLL) : Prop := ∀ (B : Base) (c : Ctx) (s : L2.St) (G H : Hp) (Q : List (List PyData) → Ctx → Prop) (R : List V → Hp → Prop), Stt K B c s G H → t c Q →
  (∀ ps dss c' G' H', Stt K B (.o none (.gen (lsP ps dss)) :: c') (some (.ref 0) :: s) G' H' → Same G G' → ps.length = dss.length → Q dss c' → R (ps.map V.ref) H') → te s H R
structure DOs (X : Cx) (es : List Expr) (t : TLL) : Prop where
  ex : ∃ te, PA X es te ∧ DOsv X.K te t
def osNil : TLL := fun c Q => Q [] c
def osCons (to : TR) (t : TLL) : TLL := fun c Q => to c fun R c1 => asR R fun ds => t c1 fun dss c2 => Q (ds :: dss) c2
def oDisp (t : TLL) : TR := fun c Q => t c fun dss c1 => dss.length ≤ sizeLine ∧ Q (.lls dss) c1
section
variable {X : Cx} {e : Expr} {es : List Expr} {to : TR} {t : TLL} {pos : Pos}
theorem os_nil : DOs X [] osNil := ⟨_, pa_nil, fun B c s G H Q R st q k => by
  obtain ⟨A, r, w⟩ := st.ex
  exact k [] [] c G H ⟨[] ++ A, .o (R := .gen (lsP [] [])) ⟨rfl, .nil⟩ (fun a ha => by simp at ha) r, w⟩ (Same.refl _) rfl q⟩
theorem os_cons (he : DO X e to) (h : DOs X es t) (hs : starEach (e :: es) X.env = (false, eval e X.env) :: starEach es X.env := by rfl) : DOs X (e :: es) (osCons to t) := by
  obtain ⟨te, pe, ve⟩ := he.ex
  obtain ⟨tr, pr, vr⟩ := h.ex
  refine ⟨_, pa_cons pe pr hs, fun B c s G H Q R st q k => ve B c s G H _ _ st q fun v R1 c1 G1 H1 st1 e1 q1 => ?_⟩
  obtain ⟨ds, rfl, q1⟩ := asR_of q1
  obtain ⟨A1, B', ⟨p, vs, rfl, rfl, h1, h2⟩, stU, back⟩ := st1.underR
  refine vr B' c1 s G1 H1 _ _ stU q1 fun ps dss c2 G2 H2 st2 e2 hl q2 => ?_
  obtain ⟨e3, hk, st3⟩ := back _ _ _ _ st2
  have st4 := st3.merge (R := .gen (lsP (p :: ps) (ds :: dss))) (.ref 0) fun A1 A2 ha hb => by
    obtain ⟨p', vs', ep, rfl, k1, k2⟩ := ha
    obtain ⟨rfl, k3⟩ := hb
    cases ep
    exact ⟨rfl, .cons k1 k2 k3⟩
  exact k (p :: ps) (ds :: dss) c2 G2 H2 st4 (e1.trans e3) (by simp [hl]) q2
theorem o_disp (h : DOs X es t) : DO X (.List es pos) (oDisp t) := by
  obtain ⟨tr, pr, vr⟩ := h.ex
  refine ⟨_, pe_lst pr, fun B c s G H Q R st q k => vr B c s G H _ _ st q fun ps dss c1 G1 H1 st1 e1 hl q1 => ?_⟩
  refine ⟨by rw [List.length_map, hl]; exact q1.1, fun p hp => ?_⟩
  have st2 := st1.laidR (H' := upd H1 p (.lst (ps.map V.ref))) (R := .gen (hdP p ps)) (v := .ref p) (A1 := [p]) (fun a ha => upd_ne (by simpa using ha)) (fun a ha => by
    obtain rfl : a = p := by simpa using ha
    exact hp) (fun a ha => by
    obtain rfl : a = p := by simpa using ha
    rw [upd_same]; exact fun z => nomatch z) (by simp) ⟨rfl, rfl, upd_same⟩
  have st3 := st2.merge (R := .lls dss) (.ref p) fun A1 A2 ha hb => by
    obtain ⟨_, rfl, k1⟩ := ha
    obtain ⟨rfl, k3⟩ := hb
    exact ⟨p, A2, rfl, rfl, k1, k3⟩
  exact k _ _ c1 G1 _ st3 e1 q1.2
end
/-! ### inner lists changed, by their numbers -/
section
variable {X : Cx} {a : Expr} {ta : TD} {pos cpos apos pn ps pc : Pos} {x : Str} {jj : Nat}
theorem ownLs_put {K : PySem.W.Frag} {B : Base} {G H : Hp} {c : Ctx} {s : L2.St} (st : Stt K B c s G H) {j k : Nat} {dss : List (List PyData)} {ds : List PyData} (e : c[j]? = some (.o none (.lls dss))) (ek : dss[k]? = some ds) :
    ∃ (p : Addr) (ps : List Addr) (q : Addr) (vs : List V), s[j]? = some (some (.ref p)) ∧ H p = some (.lst (ps.map V.ref)) ∧ ps[k]? = some q ∧ H q = some (.lst vs) ∧ DpAll K G vs ds ∧ ∀ vs' ds', DpAll K G vs' ds' → Stt K B (c.set j (.o none (.lls (dss.set k ds')))) s G (upd H q (.lst vs')) := by
  obtain ⟨v, A1, g1, ⟨p, ps, rfl, rfl, h1, h2⟩, nd, wr⟩ := st.foc e
  obtain ⟨q, vs, a1, a2, a3⟩ := ownLs_get h2 ek
  obtain ⟨n1, n2⟩ := List.nodup_cons.mp nd
  have qm : q ∈ ps := List.mem_of_getElem? a1
  have ne : p ≠ q := fun z => n1 (z ▸ qm)
  refine ⟨p, ps, q, vs, g1, h1, a1, a2, a3, fun vs' ds' d' => wr _ (.lls (dss.set k ds')) (p :: ps) (fun a ha => upd_ne fun z => ha (by rw [z]; exact List.mem_cons_of_mem _ qm)) (fun a ha => .inl ha) (fun a ha => ?_) nd ⟨p, ps, rfl, rfl, by rw [upd_ne ne]; exact h1, ownLs_set d' h2 n2 a1⟩⟩
  by_cases hq : a = q
  · rw [hq, upd_same]; exact fun z => nomatch z
  · rw [upd_ne hq]
    rcases List.mem_cons.mp ha with rfl | z
    · rw [h1]; exact fun z => nomatch z
    · exact ownLs_here h2 a z
/-- xss[k].clear() -/
def zLLclr (j k : Nat) : TSd := fun E c => slO c j fun w R => w = none ∧ asLL R fun dss => ∃ ds, dss[k]? = some ds ∧ E.nx (c.set j (.o none (.lls (dss.set k []))))
theorem s_llclr (j k : Nat) (hN : X.N[j]? = some x := by rfl) (hv : Vis X.env.scope x := by first | exact Or.inl rfl | exact Or.inr (Or.inl rfl) | exact Or.inr (Or.inr rfl)) (hd : (x == ("__debug__" : Str)) = false := by decide)
    (hcd : (x == ("__classdict__" : Str)) = false := by decide) (hix : PlainIx (.Constant (.int (k : Int)) jj pc) := by exact fun _ _ => rfl)
    (hbase : attributeBase (.Subscript (.Name x pn) (.Constant (.int (k : Int)) jj pc) ps) "clear" X.env (eval (.Subscript (.Name x pn) (.Constant (.int (k : Int)) jj pc) ps) X.env) = eval (.Subscript (.Name x pn) (.Constant (.int (k : Int)) jj pc) ps) X.env := by rfl)
    (hline : (apos.endLine == cpos.line) = true := by rfl)
    (hsw : swapsWith (.Call (.Attribute (.Subscript (.Name x pn) (.Constant (.int (k : Int)) jj pc) ps) "clear" apos) [] [] cpos) none pos.line X.env = pure false := by rfl) : DS X (.Expr (.Call (.Attribute (.Subscript (.Name x pn) (.Constant (.int (k : Int)) jj pc) ps) "clear" apos) [] [] cpos) pos) (zLLclr j k) := by
  refine ⟨_, ps_expr (pe_bm0 F.plainAttrs_list F.slot_list_clear F.type_list_clear mt_clear (pe_ix ix_seq (pe_var hN hv hd hcd) pe_int hix) hbase hline) hsw, fun B c s G H D E st kk q => ?_⟩
  obtain ⟨w, R0, e0, rfl, q⟩ := slO_of q
  obtain ⟨dss, rfl, ds, ek, q⟩ := asLL_of q
  obtain ⟨p, qs, q0, vs, g1, h1, a1, a2, a3, put⟩ := ownLs_put st e0 ek
  have hm : (qs.map V.ref)[k]? = some (.ref q0) := by rw [List.getElem?_map, a1]; rfl
  refine ⟨_, g1, .inl ⟨p, qs.map V.ref, k, .ref q0, rfl, rfl, SqL.of h1, atI_nat hm, .inl ⟨rfl, _, SqL.of a2⟩, ?_⟩⟩
  exact ⟨q0, vs, rfl, rfl, a2, kk.nx _ _ _ _ (put [] [] .nil) (Same.refl _) q⟩
/-- xss[k].append(e) -/
def zLLapp (j k : Nat) (ta : TD) : TSd := fun E c => slO c j fun w R => w = none ∧ asLL R fun dss => ∃ ds, dss[k]? = some ds ∧ ds.length < sizeLine ∧ ta (c.set j .no) fun y c1 => E.nx (c1.set j (.o none (.lls (dss.set k (ds ++ [y])))))
theorem s_llapp (j k : Nat) (ha : DE X a ta)
    (hN : X.N[j]? = some x := by rfl) (hv : Vis X.env.scope x := by first | exact Or.inl rfl | exact Or.inr (Or.inl rfl) | exact Or.inr (Or.inr rfl)) (hd : (x == ("__debug__" : Str)) = false := by decide)
    (hcd : (x == ("__classdict__" : Str)) = false := by decide) (hix : PlainIx (.Constant (.int (k : Int)) jj pc) := by exact fun _ _ => rfl)
    (hbase : attributeBase (.Subscript (.Name x pn) (.Constant (.int (k : Int)) jj pc) ps) "append" X.env (eval (.Subscript (.Name x pn) (.Constant (.int (k : Int)) jj pc) ps) X.env) = eval (.Subscript (.Name x pn) (.Constant (.int (k : Int)) jj pc) ps) X.env := by rfl)
    (hfew : ((backTo cpos (starEach [a] X.env)).all (fun x => !x.1) && (backToKw cpos (keywordEach [] X.env)).all (fun x => x.1.isSome)
      && decide ([a].length + ([] : List Keyword).length + (if ([] : List Keyword).isEmpty then 0 else 1) < 30)) = true := by rfl)
    (hline : (apos.endLine == cpos.line) = true := by rfl) (he : starEach [a] X.env = (false, eval a X.env) :: starEach [] X.env := by rfl) (hplain : (backTo cpos (starEach [] X.env)).any (·.1) = false := by rfl)
    (hsw : swapsWith (.Call (.Attribute (.Subscript (.Name x pn) (.Constant (.int (k : Int)) jj pc) ps) "append" apos) [a] [] cpos) none pos.line X.env = pure false := by rfl) :
    DS X (.Expr (.Call (.Attribute (.Subscript (.Name x pn) (.Constant (.int (k : Int)) jj pc) ps) "append" apos) [a] [] cpos) pos) (zLLapp j k ta) := by
  obtain ⟨tea, pa, va⟩ := ha.ex
  refine ⟨_, ps_expr (pe_bm F.plainAttrs_list F.slot_list_append F.type_list_append mt_append (pe_ix ix_seq (pe_var hN hv hd hcd) pe_int hix) (pa_cons pa pa_nil he) hbase hfew hline he hplain) hsw, fun B c s G H D E st kk q => ?_⟩
  obtain ⟨w, R0, e0, rfl, q⟩ := slO_of q
  obtain ⟨dss, rfl, ds, ek, hl, q⟩ := asLL_of q
  obtain ⟨v, g1, stT⟩ := st.take_o e0
  obtain ⟨A1, B', ⟨p, qs, rfl, rfl, h1, h2⟩, stU, back⟩ := stT.underR
  obtain ⟨q0, vs, a1, a2, a3⟩ := ownLs_get h2 ek
  have hm : (qs.map V.ref)[k]? = some (.ref q0) := by rw [List.getElem?_map, a1]; rfl
  refine ⟨_, g1, .inl ⟨p, qs.map V.ref, k, .ref q0, rfl, rfl, SqL.of h1, atI_nat hm, .inl ⟨rfl, _, SqL.of a2⟩, va B' _ s G H _ _ stU q fun v y c1 G1 H1 st1 e1 d1 q1 => ?_⟩⟩
  obtain ⟨e3, hk, st3⟩ := back _ _ _ _ st1
  have hq : H1 q0 = some (.lst vs) := (hk q0 (List.mem_cons_of_mem _ (List.mem_of_getElem? a1))).trans a2
  have hp : H1 p = some (.lst (qs.map V.ref)) := (hk p List.mem_cons_self).trans h1
  obtain ⟨p', qs', q', vs', g1', h1', a1', a2', a3', put⟩ := ownLs_put st3 (j := 0) rfl ek
  have ep : p' = p := by simpa using g1'.symm
  subst ep
  rw [hp] at h1'
  have eqq : qs' = qs := (List.map_inj_right (f := V.ref) (fun x y z => by injection z)).mp (by
    have := Option.some.inj h1'
    injection this with this
    exact this.symm)
  subst eqq
  rw [a1] at a1'
  cases a1'
  rw [hq] at a2'
  cases a2'
  refine ⟨q0, vs, v, rfl, rfl, hq, by rw [dpa_len a3]; exact hl, ?_⟩
  have st4 := put _ _ (dpa_app a3' (.cons d1 .nil))
  have st5 : Stt X.K B (.o none (.lls (dss.set k (ds ++ [y]))) :: c1) (some (.ref p') :: s) G1 (upd H1 q0 (.lst (vs ++ [v]))) := st4
  have st6 := st5.set_o j
  rw [set_same g1] at st6
  exact kk.nx _ _ G1 _ st6 e3 q1
end
end Dl

/-! sorted of a tuple by a def of ours whose answers are whole numbers. -/
namespace PySem.W
open PySem PySem.Calls PyProof.Rows
section
variable {prog : Program} {w : World} {A : Around} {E : Value → Shared → Prop} {s : Shared} {a kS : Addr} {vs : List Value} {keys : Array Value} {e e1 : Nat} {P : PySem.Fin → Shared → Prop}
/-- all but two objects kept -/
def Keep2 (a k : Addr) (h h' : Heap) : Prop := ∀ b o, b ≠ a → b ≠ k → h.get? b = some o → h'.get? b = some o
/-- a heap without one of its objects -/
def hole (h : Heap) (k : Addr) : Heap := h.update k fun o => { o with data := .freed }
theorem hole_at (h : Heap) (k : Addr) : (hole h k).get? k = none := by
  cases h with
  | mk objs l =>
    show (match (objs.modify k fun o => { o with data := .freed })[k]? with
      | some ⟨_, _, .freed, _⟩ => none
      | o => o) = none
    rw [Array.getElem?_modify, if_pos rfl]
    cases objs[k]? <;> rfl
theorem hole_ne {h : Heap} {k b : Addr} (hb : b ≠ k) : (hole h k).get? b = h.get? b := Heap.get?_update_ne _ _ _ _ hb
theorem ints_reads {h : Heap} : ∀ {vs : List Value} {ns : List Int}, IntsAre vs ns → EachIs (fun v d => ∃ as, Reads h v d as) vs (ns.map PyData.int)
  | _, [], hh => by
    cases hh
    exact .nil
  | _, n :: ns, hh => by
    cases hh with
    | cons _ t h2 => exact .cons ⟨[], .int _ _⟩ (ints_reads h2)
theorem ints_more {n : Int} {t : Tok} : ∀ {vs : List Value} {ns : List Int}, IntsAre vs ns → IntsAre (vs ++ [.int n t]) (ns ++ [n])
  | _, _, .nil => .cons _ t .nil
  | _, _, .cons _ u h => .cons _ u (ints_more h)
/-- the keys are told, the list is sorted -/
theorem keyJ_rest {f : Value} {ks : List Int} (hka : kS ≠ a) (hlen : ks.length = vs.length) (hZ : vs.length ≤ sizeLine) (J : Array Value → Shared → Prop)
    (jn : ∀ kA s, J kA s → (∃ e, s.heap.get? kS = some (seqObj "list" kA e)) ∧ s.heap.get? a = some (seqObj "list" #[] e1))
    (jp : ∀ kA s v h', J kA s → (∀ b o, b ≠ kS → s.heap.get? b = some o → h'.get? b = some o) → (∃ c, h'.get? kS = some (seqObj "list" (kA.push v) c)) → J (kA.push v) { s with heap := h' })
    (turn : ∀ (i : Nat) v k kA s, vs[i]? = some v → ks[i]? = some k → J kA s → wpAny (model prog w) A (call f [v]) (fun u s2 => (∃ t, u = .int k t) ∧ J kA s2) (fun _ _ => False) s)
    (j0 : J #[] s) (hu : A.units < cLine)
    (h : ∀ s' kA h' tk out c, J kA s' → Keep2 a kS s'.heap h' → h'.get? a = some (seqObj "list" (List.toArray out) c) → KeyedOut false (ks.map PyData.int) vs out → P (.done (.ret .none)) { s' with heap := h', toks := tk }) :
    wpAny (model prog w) A (ksk_rest a f false vs.toArray e1 (.ref kS)) P E s := by
  unfold ksk_rest
  refine wpAny_bind (wpAny_rule ?_)
  first
    | rw [List.forIn_toArray]
    | (rw [← Array.forIn_toList]; simp only [List.toList_toArray])
    | rw [← Array.forIn_toList]
  refine wpAny_bind (ksk_fold (fun i s' => ∃ kA, J kA s' ∧ IntsAre kA.toList (ks.take i)) vs 0 s ⟨#[], j0, by rw [List.take_zero]; exact .nil⟩ ?step ?done)
  case step =>
    rintro j x s' hx ⟨kA, hJ, hk⟩
    simp only [Nat.zero_add] at hk ⊢
    have hj : j < vs.length := (List.getElem?_eq_some_iff.mp hx).1
    obtain ⟨k, hkj⟩ : ∃ k, ks[j]? = some k := ⟨_, List.getElem?_eq_getElem (by omega)⟩
    have hz : kA.size ≤ vs.length := by
      have h1 := hk.length
      rw [Array.length_toList, List.length_take] at h1
      omega
    refine wpAny_bind (wpAny_attempt (wpAny_mono (turn j x k kA s' hx hkj hJ) (fun v s'' he => ?_) fun _ _ hF => hF.elim))
    obtain ⟨⟨t, rfl⟩, hJ2⟩ := he
    obtain ⟨⟨e2, nk2⟩, na2⟩ := jn _ _ hJ2
    try dsimp only
    have s1 := Heap.SameBut.update s''.heap kS (Obj.mapSeq (·.push (.int k t)))
    obtain ⟨c2, hc2⟩ : ∃ c2, (s''.heap.update kS (Obj.mapSeq (·.push (.int k t)))).get? kS = some (seqObj "list" (kA.push (.int k t)) c2) := ⟨_, get?_update_seq nk2 (·.push (.int k t))⟩
    refine wpAny_bind (listUpdate_at nk2 rfl ?_ (Nat.le_trans hz hZ) (Nat.le_trans (Nat.le_of_eq (Array.size_push ..)) (Nat.succ_le_succ (Nat.le_trans hz hZ))))
    refine wpAny_pure ⟨rfl, kA.push (.int k t), jp kA s'' _ _ hJ2 (fun b o hb q => (s1.2 b hb).trans q) ⟨c2, hc2⟩, ?_⟩
    have ek : ks.take (j + 1) = ks.take j ++ [k] := by rw [List.take_add_one, hkj]; simp
    have ea : (kA.push (Value.int k t)).toList = kA.toList ++ [.int k t] := by simp
    rw [ek, ea]
    exact ints_more hk
  case done =>
    rintro s' ⟨kA, hJ, hk⟩
    obtain ⟨⟨e2, nk⟩, na⟩ := jn _ _ hJ
    have e3 : ks.take (0 + vs.length) = ks := List.take_of_length_le (by omega)
    rw [e3] at hk
    have hk' : EachIs (fun v k => ∃ as, Reads s'.heap v k as) kA.toList (ks.map PyData.int) := ints_reads hk
    have hsz : kA.size = vs.length := by
      have h1 := hk'.length
      rw [Array.length_toList, List.length_map] at h1
      omega
    have hal : AllAlike (ks.map PyData.int) := AllAlike.of fun _ _ => by simp [alike]
    have hsk : Sortable (ks.map PyData.int) := Sortable.others (enc := PyData.int) fun _ => ⟨(fun z => by cases z), fun _ z => by cases z⟩
    try dsimp only
    refine wpAny_bind (listItems_at nk rfl ?_)
    refine keyH_end (κ := dataKind s'.heap (ks.map PyData.int)) (h₁ := hole s'.heap kS) (fun b o hb q => ?_) (hole_at _ _) nk na hka (SortsAt.data hk' hal hsk fun d hd => ?_) hsz hZ fun h3 tk3 c k3 n3 => h s' kA h3 tk3 _ c hJ (fun b o h1 h2 q => k3 b o h1 (by rw [hole_ne h2]; exact q)) n3 ⟨s'.heap, kA.toList, hal, rfl, hk'⟩
    · by_cases hbk : b = kS
      · rw [hbk, hole_at] at q; cases q
      · rw [hole_ne hbk] at q; exact q
    · obtain ⟨n, _, rfl⟩ := List.mem_map.mp hd
      have : (PyData.int n).depth = 0 := by simp [PyData.depth]
      omega
/-- sorted(a tuple, key=f) -/
theorem sorted_keyJ {l f : Addr} {ks : List Int} {Q : Value → Shared → Prop} (hl : s.heap.IsTuple l vs.toArray) (hlen : ks.length = vs.length) (hZ : vs.length ≤ sizeLine) (hu : A.in1.in1.units < cLine)
    (J : Addr → Nat → Addr → Array Value → Shared → Prop)
    (start : ∀ h₁ e1, (∀ b o, s.heap.get? b = some o → h₁.get? b = some o) → h₁.get? (s.heap.objs.size + 1) = some (seqObj "list" #[] e1) → h₁.get? (s.heap.objs.size + 3) = some (seqObj "list" #[] 0) →
      J (s.heap.objs.size + 1) e1 (s.heap.objs.size + 3) #[] { s with heap := h₁ })
    (jn : ∀ a e1 kS kA s, J a e1 kS kA s → (∃ e, s.heap.get? kS = some (seqObj "list" kA e)) ∧ s.heap.get? a = some (seqObj "list" #[] e1))
    (jp : ∀ a e1 kS kA s v h', J a e1 kS kA s → (∀ b o, b ≠ kS → s.heap.get? b = some o → h'.get? b = some o) → (∃ c, h'.get? kS = some (seqObj "list" (kA.push v) c)) → J a e1 kS (kA.push v) { s with heap := h' })
    (turn : ∀ a e1 kS (i : Nat) v k kA s, vs[i]? = some v → ks[i]? = some k → J a e1 kS kA s → wpAny (model prog w) A.in1.in1 (call (.ref f) [v]) (fun u s2 => (∃ t, u = .int k t) ∧ J a e1 kS kA s2) (fun _ _ => False) s)
    (h : ∀ a e1 kS s' kA h' tk out c, a = s.heap.objs.size + 1 → kS = s.heap.objs.size + 3 → J a e1 kS kA s' → Keep2 a kS s'.heap h' → h'.get? a = some (seqObj "list" (List.toArray out) c) → KeyedOut false (ks.map PyData.int) vs out → Q (.ref a) { s' with heap := h', toks := tk }) :
    wpAny (model prog w) A (call (.builtin "sorted") [.ref l] [(Str.ofString "key", .ref f)]) Q E s := by
  refine call_function_entry_kw kind_sorted plain_sorted entry_sorted (ksk_s1 _ _) ?_
  unfold Builtin.«sorted»
  refine wpAny_bind (m := checkCount "sorted" 1 1 _) (wpAny_pure ?_)
  refine wpAny_bind (PyProof.Rows.collect_tuple hl ?_ hZ)
  refine wpAny_bind (wpAny_newList ?_ hZ)
  have hsz : ((s.heap.push (seqObj "list" #[] 0)).update s.heap.objs.size (Obj.mapSeq (· ++ vs.toArray))).objs.size = s.heap.objs.size + 1 := by
    rw [Heap.size_update, size_push']
  have hsz2 : (copyHeap s.heap vs).objs.size = s.heap.objs.size + 2 := by
    show (Heap.push _ _).objs.size = _
    rw [size_push', hsz]
  show wpAny _ _ _ _ _ { s with heap := copyHeap s.heap vs }
  rw [hsz]
  refine wpAny_bind (wpAny_holding (wpAny_call_entry_kw slot_list_sort ⟨_, copyHeap_at s.heap vs, rfl⟩ entry_list_sort ?body (ksk_l1 _ _)))
  case body =>
    show wpAny (model prog w) A.in1.in1 (Builtin.«list.sort» ⟨[.ref (s.heap.objs.size + 1)], [(Str.ofString "key", .ref f)]⟩) _ _ _
    rw [ksk_t1]
    obtain ⟨e1, ho1⟩ : ∃ e1, ((copyHeap s.heap vs).update (s.heap.objs.size + 1) (Obj.mapSeq fun _ => (#[] : Array Value))).get? (s.heap.objs.size + 1) = some (seqObj "list" #[] e1) := ⟨_, get?_update_seq (copyHeap_at s.heap vs) fun _ => #[]⟩
    have hkS : (((copyHeap s.heap vs).update (s.heap.objs.size + 1) (Obj.mapSeq fun _ => (#[] : Array Value))).push (seqObj "tuple" vs.toArray 0)).objs.size = s.heap.objs.size + 3 := by rw [size_push', Heap.size_update, hsz2]
    unfold ksk_tree
    refine wpAny_bind (listItems_at (copyHeap_at s.heap vs) rfl ?_)
    refine wpAny_bind (listUpdate_at (copyHeap_at s.heap vs) rfl ?_ (by rw [List.size_toArray]; exact hZ) (Nat.zero_le _))
    refine wpAny_bind (seqEpoch_at ho1 rfl ?_)
    refine wpAny_bind (wpAny_newTuple ?_ (by show vs.length ≤ _; exact hZ))
    refine wpAny_bind (wpAny_newList ?_ (Nat.zero_le _))
    refine wpAny_holding ?_
    have hold : ∀ b o, s.heap.get? b = some o → (((((copyHeap s.heap vs).update (s.heap.objs.size + 1) (Obj.mapSeq fun _ => (#[] : Array Value))).push (seqObj "tuple" vs.toArray 0)).push (seqObj "list" #[] 0))).get? b = some o := fun b o q => by
      have hlt := Heap.lt_size q
      refine Heap.get?_push_of_some _ (Heap.get?_push_of_some _ ?_)
      rw [Heap.get?_update_ne _ _ _ _ (Nat.ne_of_lt (Nat.lt_succ_of_lt hlt))]
      exact copyHeap_old q
    show wpAny (model prog w) A.in1.in1 (ksk_rest (s.heap.objs.size + 1) (.ref f) false vs.toArray e1 (.ref (((copyHeap s.heap vs).update (s.heap.objs.size + 1) (Obj.mapSeq fun _ => (#[] : Array Value))).push (seqObj "tuple" vs.toArray 0)).objs.size)) _ _ { s with heap := ((((copyHeap s.heap vs).update (s.heap.objs.size + 1) (Obj.mapSeq fun _ => (#[] : Array Value))).push (seqObj "tuple" vs.toArray 0)).push (seqObj "list" #[] 0)) }
    have ho3 := Heap.get?_push_size (((copyHeap s.heap vs).update (s.heap.objs.size + 1) (Obj.mapSeq fun _ => (#[] : Array Value))).push (seqObj "tuple" vs.toArray 0)) (o := seqObj "list" #[] 0) rfl
    rw [hkS] at ho3 ⊢
    refine keyJ_rest (ks := ks) (kS := s.heap.objs.size + 3) (a := s.heap.objs.size + 1) (fun z => absurd (Nat.add_left_cancel z) (by decide)) hlen hZ (J (s.heap.objs.size + 1) e1 (s.heap.objs.size + 3)) (jn _ _ _) (jp _ _ _) (fun i v k kA s0 h1 h2 h3 => turn _ _ _ i v k kA s0 h1 h2 h3) (start _ _ hold (Heap.get?_push_of_some _ (Heap.get?_push_of_some _ ho1)) ho3) hu fun s' kA h' tk out c hJ k2 ha ko => ?_
    exact ⟨_, rfl, wpAny_pure ⟨_, rfl, h _ _ _ s' kA h' tk out c rfl rfl hJ k2 ha ko⟩⟩
end
end PySem.W
namespace L2
open PySem PySem.Spec PyProof.Rows
section
variable {X : Cx} {pins : List (Addr × Obj)} {σ : St} {H H' : Hp} {s : Shared} {h' : Heap} {a k : Addr} {o : HO}
/-- two calls further in, where nothing may be raised -/
def in2 (X : Cx) : Cx := { X with A := X.A.in1.in1, xe := fun _ _ => False }
theorem Cx.Ok.in2 (ok : X.Ok) : (in2 X).Ok :=
  { mod := ok.mod, kind := ok.kind, glob := ok.glob, blt := ok.blt, above := ok.above, inj := ok.inj, has := ok.has, cab := ok.cab, hd := ok.hd, frames := ok.frames, stk := ok.stk, exf := ok.exf, bs := ok.bs, bsz := ok.bsz, noex := ok.noex, exfs := ok.exfs, funs := ok.funs, frf := ok.frf }
theorem Inv.in2 (I : Inv X pins σ H s) : Inv (in2 X) pins σ H s := ⟨I.ok.in2, I.os, I.bare, I.base, I.loc, I.cell, I.free, I.freeC, I.pin, I.hok, I.len⟩
theorem Inv.out2 (ok : X.Ok) (I : Inv (L2.in2 X) pins σ H s) : Inv X pins σ H s := ⟨ok, I.os, I.bare, I.base, I.loc, I.cell, I.free, I.freeC, I.pin, I.hok, I.len⟩
/-- two records turned, the one tracked from here on -/
theorem Inv.keyed {t' : Nat} (I : Inv X pins σ H s) (fa : FpOk X pins H a) (fk : FpOk X pins H k) (k2 : PySem.W.Keep2 a k s.heap h') (new : ObjOk X.prog X.w (upd H a o) h' a o) : Inv X pins σ (upd H a o) { s with heap := h', toks := t' } := by
  have na : ∀ b u, H b = some u → b ≠ a := fun b u e z => by rw [z, fa.1] at e; cases e
  have nk : ∀ b u, H b = some u → b ≠ k := fun b u e z => by rw [z, fk.1] at e; cases e
  have kk : ∀ b o, b ∉ [a, k] → s.heap.get? b = some o → h'.get? b = some o := fun b o hc e => k2 b o (fun z => hc (by simp [z])) (fun z => hc (by simp [z])) e
  refine I.step (g' := s.gens) (d' := s.drawn) (ch := [a, k]) (fun b hb => ?_) (fun b o _ _ hc e _ => kk b o hc e) (fun b o _ _ hc e _ => ⟨o.slots, kk b o hc e⟩) (fun b u hc e n => by rw [upd_ne fun z => hc (by simp [z])]; exact n)
    (fun b u hc e => ⟨u, kk b u hc e⟩) (fun b xs e => by rw [upd_ne (na b _ e)]; exact e) (fun b u v e => by rw [upd_ne (na b _ e)]; exact e) (fun b ps e => ⟨#[], by rw [upd_ne (na b _ e), e]; simp⟩) (fun m hm => ?_) (fun b u e => ?_) I.bare
  · have hb' : b = a ∨ b = k := by simpa using hb
    rcases hb' with rfl | rfl
    · exact ⟨fa.2.2.2.1, fa.2.1, fa.2.2.2.2.1, fa.2.2.2.2.2⟩
    · exact ⟨fk.2.2.2.1, fk.2.1, fk.2.2.2.2.1, fk.2.2.2.2.2⟩
  · obtain ⟨o, es, ep, ho, r⟩ := hm
    exact ⟨o, es, ep, kk _ o (fun z => by
      have hz : X.env.locals = a ∨ X.env.locals = k := by simpa using z
      rcases hz with z | z
      · exact fa.2.1 z.symm
      · exact fk.2.1 z.symm) ho, r⟩
  · by_cases hb : b = a
    · subst hb; rw [upd_same] at e; cases e; exact new
    · rw [upd_ne hb] at e
      refine (I.hok b u e).stay (fun c v hc q => kk c v (fun z => ?_) q) (fun c q => by rw [upd_ne (na c _ q)]; exact q) fun c xs q => by rw [upd_ne (na c _ q)]; exact q
      have hz : c = a ∨ c = k := by simpa using z
      rcases hc with y | y
      · rcases hz with z | z
        · exact hb (y ▸ z)
        · exact nk b u e (y ▸ z)
      · rcases hz with z | z
        · exact na c _ y z
        · exact nk c _ y z
end
end L2
namespace Dl
open PySem PySem.Spec PyProof.Rows L2
def rSortK (K : PySem.W.Frag) (T : TF) (f : Addr) : List V → List V → Hp → VK → Prop := fun vs zs H Q => ∃ (G : Hp) (l : Addr) (xs : List V) (ds : List PyData) (kf : PyData → Int), Same G H ∧ vs = [V.ref l] ∧ zs = [V.ref f] ∧ SqT K H l xs ∧ DpAll K G xs ds ∧
  (∀ d ∈ ds, T [.d d] (kS fun y => y = .int (kf d))) ∧ ∀ (H1 : Hp) (us : List V) (p : Addr), Same H H1 → DpAll K G us (ds.mergeSort fun a b => decide (kf a ≤ kf b)) → H1 p = none → Q (.ref p) (upd H1 p (.lst us))
theorem each_of {K : PySem.W.Frag} {G : Hp} : ∀ {its : List Value} {xs : List V} {ds : List PyData}, Vals xs its → DpAll K G xs ds → PySem.W.EachIs (fun v d => ∃ x, RelV x v ∧ Dp K G x d) its ds
  | _, _, _, .nil, h => by cases h; exact .nil
  | _, _, _, .cons r t, h => by
    cases h with
    | cons h1 h2 => exact .cons ⟨_, r, h1⟩ (each_of t h2)
theorem of_each {K : PySem.W.Frag} {G : Hp} {its : List Value} {ds : List PyData} (h : PySem.W.EachIs (fun v d => ∃ x, RelV x v ∧ Dp K G x d) its ds) : ∃ xs, Vals xs its ∧ DpAll K G xs ds := by
  induction h with
  | nil => exact ⟨[], .nil, .nil⟩
  | cons h1 _ ih =>
    obtain ⟨x, r, d⟩ := h1
    obtain ⟨xs, q1, q2⟩ := ih
    exact ⟨x :: xs, .cons r q1, .cons d q2⟩
theorem Room.in2 {k : Nat} {A : Around} (r : Room (k + 1) A) : Room k A.in1.in1 :=
  ⟨r.hd, by have := r.dp; show A.depth + 3 * k + 5 < _; omega, by have := r.un; show A.units + 1 + 1 + 16 * k + 200 < _; omega⟩
section
variable {X : Cx} {T : TF} {k : Nat} {f : Addr} {fd : FuncData} {ps : List Str}
theorem cr_sortK (F : FnOk X.prog X.w X.K X.mg X.base CX0 k f fd ps (SpD X.K T)) (hb : Binds X.K fd ps []) (hr : Room (k + 1) X.A) : CallRK X (.builtin "sorted") [Str.ofString "key"] (rSortK X.K T f) := by
  intro pins s σ H vs zs us ws Q I r rz h
  obtain ⟨G, l, xs, ds, kf, hGH, rfl, rfl, hs, hd, hT, q⟩ := h
  obtain rfl := Vals.ref1 r
  obtain ⟨w1, rfl, e1⟩ := vals1 rz
  obtain rfl : w1 = Value.ref f := e1
  obtain ⟨its, rv, hl, hz⟩ := I.tuple hs
  have hr2 : Room k X.A.in1.in1 := Room.in2 hr
  have hlen : ds.length = its.length := by rw [← dpa_len hd, rv.length]
  have fa0 : ∀ {H' : Hp} (i : Nat), H' (s.heap.objs.size + i) = none → FpOk X pins H' (s.heap.objs.size + i) := fun i hn => I.fpOk (Nat.le_add_right _ _) hn
  let ob : Addr → Nat → Addr → Array Value → Nat → List (Addr × Obj) := fun a e1 kS kA e => [(a, seqObj "list" #[] e1), (kS, seqObj "list" kA e)]
  have pinOk : ∀ {H' : Hp} {s' : Shared} (I' : Inv (in2 X) pins σ H' s') (i : Nat) (kA : Array Value) (e : Nat), H' (s.heap.objs.size + i) = none → s'.heap.get? (s.heap.objs.size + i) = some (seqObj "list" kA e) →
      s'.heap.get? (s.heap.objs.size + i) = some (seqObj "list" kA e) ∧ H' (s.heap.objs.size + i) = none ∧ s.heap.objs.size + i ≠ X.env.locals ∧ s.heap.objs.size + i ∉ X.fs ∧ ∀ v, (seqObj "list" kA e).data ≠ .cell v := fun I' i kA e hn hg =>
    have f := fa0 i hn
    ⟨hg, hn, f.2.1, f.2.2.1, fun v z => by cases z⟩
  have mk : ∀ {H' : Hp} {s' : Shared} (I' : Inv (in2 X) pins σ H' s') (e1 : Nat) (kA : Array Value) (e : Nat), H' (s.heap.objs.size + 1) = none → H' (s.heap.objs.size + 3) = none → s'.heap.get? (s.heap.objs.size + 1) = some (seqObj "list" #[] e1) → s'.heap.get? (s.heap.objs.size + 3) = some (seqObj "list" kA e) →
      Inv (in2 X) (pins ++ ob (s.heap.objs.size + 1) e1 (s.heap.objs.size + 3) kA e) σ H' s' := fun I' e1 kA e n1 n3 g1 g3 => I'.pins_of fun p hp => by
    rcases List.mem_append.mp hp with z | z
    · exact I'.pin p (List.mem_append_right _ z)
    · have z : p = (s.heap.objs.size + 1, seqObj "list" #[] e1) ∨ p = (s.heap.objs.size + 3, seqObj "list" kA e) := by simpa [ob] using z
      rcases z with rfl | rfl
      · exact pinOk I' 1 _ _ n1 g1
      · exact pinOk I' 3 _ _ n3 g3
  have get1 : ∀ {H' : Hp} {s' : Shared} {a kS : Addr} {e1 : Nat} {kA : Array Value} {e : Nat}, Inv (in2 X) (pins ++ ob a e1 kS kA e) σ H' s' → (s'.heap.get? a = some (seqObj "list" #[] e1) ∧ H' a = none) ∧ s'.heap.get? kS = some (seqObj "list" kA e) ∧ H' kS = none := fun {H' s' a kS e1 kA e} I' =>
    ⟨⟨(I'.pin (a, seqObj "list" #[] e1) (List.mem_append_right _ (List.mem_append_right _ (by simp [ob])))).1, (I'.pin (a, seqObj "list" #[] e1) (List.mem_append_right _ (List.mem_append_right _ (by simp [ob])))).2.1⟩,
      (I'.pin (kS, seqObj "list" kA e) (List.mem_append_right _ (List.mem_append_right _ (by simp [ob])))).1, (I'.pin (kS, seqObj "list" kA e) (List.mem_append_right _ (List.mem_append_right _ (by simp [ob])))).2.1⟩
  refine PySem.W.sorted_keyJ (ks := ds.map kf) hl (by rw [List.length_map]; exact hlen) (by rw [← rv.length]; exact hz) hr2.units0
    (fun a e1 kS kA s' => a = s.heap.objs.size + 1 ∧ kS = s.heap.objs.size + 3 ∧ ∃ H' e, Inv (in2 X) (pins ++ ob a e1 kS kA e) σ H' s' ∧ Same H H') ?_ ?_ ?_ ?_ ?_
  · intro h₁ e1 hk g1 g3
    exact ⟨rfl, rfl, H, 0, mk (I.kept (t' := s.toks) hk).in2 e1 #[] 0 (I.hok.fresh (Nat.le_add_right _ _)) (I.hok.fresh (Nat.le_add_right _ _)) g1 g3, Same.refl _⟩
  · rintro a e1 kS kA s' ⟨rfl, rfl, H', e, I', _⟩
    exact ⟨⟨e, (get1 I').2.1⟩, (get1 I').1.1⟩
  · rintro a e1 kS kA s' v h' ⟨rfl, rfl, H', e, I', hS⟩ hk ⟨c, hc⟩
    obtain ⟨⟨g1, n1⟩, g3, n3⟩ := get1 I'
    have f3 := fa0 3 n3
    have I1 : Inv (in2 X) pins σ H' s' := I'.unpinned
    have I2 : Inv (in2 X) pins σ H' { s' with heap := h', toks := s'.toks } := I1.turned (it := s.heap.objs.size + 3) hk n3 f3.2.1 f3.2.2.2.1 f3.2.2.2.2.1 f3.2.2.2.2.2
    exact ⟨rfl, rfl, H', c, mk I2 e1 _ c n1 n3 (hk _ _ (fun z => absurd (Nat.add_left_cancel z) (by decide)) g1) hc, hS⟩
  · rintro a e1 kS i v n kA s' hv hn ⟨rfl, rfl, H', e, I', hS⟩
    rw [List.getElem?_map] at hn
    obtain ⟨d, hd1, rfl⟩ := Option.map_eq_some_iff.mp hn
    obtain ⟨x, hx, dx⟩ := dpa_get hd hd1
    obtain ⟨u, hu, rx⟩ := rv.get hx
    rw [hv] at hu
    cases hu
    have dx' : Dp X.K H' x d := dp_mono (hGH.trans hS) _ _ dx
    refine wpAny_mono (run_fn (X := in2 X) (k := k) (E := fun _ _ _ => False) (Q := fun y H2 => y = .int (kf d) ∧ Same H' H2) F hr2 hb .nil pass0 I' (.cons rx .nil) ?_) (fun u2 s2 z => ?_) fun _ _ z => z
    · refine ⟨H', [], [.d d], _, stt_data (vs := [x]) (xs := [d]) (Same.refl H') (.cons dx' .nil), hT d (List.mem_of_getElem? hd1), fun r c' vr s3 G3 H3 st3 q3 => ?_⟩
      cases r with
      | d y =>
        obtain ⟨_, rfl⟩ := q3
        obtain ⟨A3, r3, w3⟩ := st3.ex
        cases r3 with
        | d hd3 _ => exact ⟨dp_int hd3, w3.old.trans w3.sub⟩
      | o w R2 => exact q3.elim
      | no => exact q3.elim
      | f _ => exact q3.elim
    · obtain ⟨y, H2, I2, ry, rfl, hS2⟩ := z
      exact ⟨ry, rfl, rfl, H2, e, I2, hS.trans hS2⟩
  · rintro a e1 kS s' kA h' tk out c rfl rfl ⟨_, _, H', e, I', hS⟩ k2 ha ko
    obtain ⟨⟨g1, n1⟩, g3, n3⟩ := get1 I'
    have I1 : Inv X pins σ H' s' := (I'.unpinned).out2 I.ok
    rw [List.map_map] at ko
    have eo := PySem.W.keyedOut_each (fun d => PyData.int (kf d)) ko (each_of rv hd)
    rw [PySem.W.dataLe_int] at eo
    obtain ⟨ys, ry, dy⟩ := of_each eo
    have hl2 : ys.length ≤ sizeLine := by
      rw [dpa_len dy, (List.mergeSort_perm _ _).length_eq, ← dpa_len hd]; exact hz
    refine ⟨.ref _, upd H' (s.heap.objs.size + 1) (.lst ys), I1.keyed (t' := tk) (fa0 1 n1) (fa0 3 n3) k2 ⟨hl2, out, c, ry, ha⟩, rfl, q H' ys _ hS dy n1⟩
end
section
variable {K : PySem.W.Frag} {B : Base} {G H H1 : Hp} {c : Ctx} {s : L2.St}
theorem Stt.upto (st : Stt K B c s G H) (up : Same H H1) : Stt K B c s G H1 := by
  obtain ⟨A, r0, w0⟩ := st.ex
  have kp : ∀ a ∈ A, H1 a = H a := fun a ha => by
    cases q : H a with
    | none => exact absurd q (r0.here a ha)
    | some o => exact up a o q
  refine ⟨A, r0.mono (Same.refl _) kp, w0.sub.trans up, w0.nd, w0.out, w0.old, fun a o h1 h2 => up a o (w0.stay a o h1 h2), fun a h => w0.dom a ?_, w0.newG, w0.lim⟩
  cases q : H a with
  | none => rfl
  | some o => rw [up a o q] at h; cases h
end
def oSortK (T : TF) (ta : TD) : TR := fun c Q => ta c fun x c1 => asT x fun ds => ∃ kf : PyData → Int, (∀ d ∈ ds, T [.d d] (kS fun y => y = .int (kf d))) ∧ Q (.lst (ds.mergeSort fun a b => decide (kf a ≤ kf b))) c1
section
variable {X : Cx} {T : TF} {k : Nat} {ps : List Str} {a : Expr} {ta : TD} {y : Str} {p py kp pos : Pos}
theorem o_sortK (C : Cal X.prog X.w X.K X.mg X.base y k ps T) (hr : Room (k + 1) X.A) (hm : X.mg "sorted" = none) (ha : DE X a ta) (hg : Gl X "sorted" := by rfl) (hgy : Gl X y := by rfl) (hdy : (y == ("__debug__" : Str)) = false := by decide) (hst : starEach [a] X.env = (false, eval a X.env) :: starEach [] X.env := by rfl)
    (he : backTo pos (starEach [a] X.env) = (false, eval a X.env) :: backTo pos (starEach [] X.env) := by rfl) (hpl : (backTo pos (starEach [a] X.env)).any (·.1) = false := by rfl)
    (hall : (backToKw pos (keywordEach [⟨some "key", .Name y py, kp⟩] X.env)).all (·.1.isSome) = true := by rfl) (hnone : (backToKw pos (keywordEach [⟨some "key", .Name y py, kp⟩] X.env)).any (·.1.isNone) = false := by rfl) (hks : (backToKw pos (keywordEach [⟨some "key", .Name y py, kp⟩] X.env)).filterMap (·.1) = [Str.ofString "key"] := by rfl) :
    DO X (.Call (.Name "sorted" p) [a] [⟨some "key", .Name y py, kp⟩] pos) (oSortK T ta) := by
  obtain ⟨f, fd, h1, h2, h3, h4⟩ := C.ex
  obtain ⟨tea, pa, va⟩ := ha.ex
  refine ⟨_, pe_callBK (cr_sortK h1 h4 hr) hg hm (by decide +kernel) (pa_cons pa pa_nil hst) (pk_cons (pe_glob (v := .ref f) hgy h2 rfl hdy) pk_nil) (by decide) (by decide) he hpl hall hnone hks, fun B c s G H Q R st q k => va B c s G H _ _ st q fun v x c1 G1 H1 st1 e1 d1 q1 => ?_⟩
  obtain ⟨ds, rfl, kf, hT, q1⟩ := asT_of q1
  obtain ⟨l, xs, rfl, h1, h2⟩ := dp_tup d1
  refine ⟨G1, l, xs, ds, kf, st1.sub, rfl, rfl, same_t st1.sub h1, h2, hT, fun H2 us p hS dy hn => ?_⟩
  exact k _ _ c1 G1 _ ((st1.upto hS).laidL hn dy) e1 q1
end
end Dl

namespace Bores
open PySem PySem.Spec PyProof.Rows L2 Dl
def topS (i : Nat) : Stmt := PySem.Challenge.pw_bores_k05_layers_and_depths.main.body.getD i (.Pass ⟨0, 0, 0, 0⟩)
local macro_rules | `(tactic| walk_at "wp") => `(tactic| simp (maxSteps := 1000000) only [↓reduceIte, ↓retA_kO, ↓retA_kD, ↓retA_kDo, ↓retA_kS, ↓asIs_m, ↓asBs_m, ↓asSs_m, fSum, fMin, fMax, fAll, fAny, fSortI, fMin2, fMax2, fStr, ↓fIntS_i, ↓fIntS_b, ↓fIntS_s, oLcN, fSortST, fSortT, zSeqX, zIfX, zRaise, zTry, ↓bare_d, ↓bare_o, ↓bare_l, ↓bare_no, ↓bare_f, ↓bare_g, ↓bare_P, ↓bare_dic, uSee, bSee, uSeeA, bSeeA, zAl, zInsLL, zForAl, osNil, osCons, oDisp, zLLclr, zLLapp, oSortK, uIsE, oSplit, uLendT, S.f.injEq, eq_self, ↓fAddA_i, ↓fAddA_s, ↓fAddA_t, fRepT, oRg1, uChain, ↓slWL_d, ↓slWL_o, ↓slWL_l, ↓slWL_s, ↓seeL_n, ↓seeL_d, ↓seeL_s, uCallSL, zLLfor, gTL, iZpA, ↓as2_l, ↓as2_t, ↓isLL_l, zLLo, uLLix, zLLput, oRep, fJoin, uV2, fSortS, fSortP, oLLe, iZp, iEn, iRv, iRr1, ↓slW_d, ↓slW_o, ↓slW_P, ↓slW_s, ↓hasS_d, ↓hasS_o, ↓hasS_f, ↓hasS_s, uV, uN, u1, o1, o2, oN, ↓fIn_l, ↓fIn_s, fCat, ↓fList_l, ↓fList_t, ↓fTup_l, ↓fTup_t, ↓fInt1_i, ↓fInt1_b, ↓lstR_l, ↓lstR_P, zM1, zM0, fApp, ↓fExt_l, ↓fExt_t, fRev, fClr, zIns, uPop, uPopI, ↓slF_d, ↓slF_o, ↓slF_s, uVf, pNo, pSo, ↓fSl_s, ↓fSl_t, uSl, oSl, oSlN, ↓scal_n, ↓scal_b, ↓scal_i, ↓scal_s, ↓kS_d, ↓ret_S, ↓see_n, ↓see_d, ↓see_s, rV, uCallS, rNil, rD, rS, uCallA, oCallA, ↓toS_d, ↓toS_f, ↓toS_s, ↓slS_0, ↓slS_s, ↓retA_d, ↓retA_o, ↓retA_O, ↓backL_n, ↓backL_s, ↓backL_d, ↓backL_f, ↓lok_n, ↓lok_s, ↓lok_d, ↓lok_f, ↓lent_n, ↓lent_s, ↓lent_d, ↓lent_f, bYes, oLc, ↓clr_n, ↓clr_c, ↓clr2_n, ↓clr2_c, ↓rest_n, ↓rest_c, ↓keep1_d, ↓keep1_o, ↓keep1_f, ↓keep1_no, ↓keep1_s, ↓asLL_l, oLL0, zLLn, zLLa, uLLlen, List.mem_cons, List.not_mem_nil, Nat.reduceEqDiff, eqv_list, eqv_tuple, eqv_none, ↓asI_i, ↓asB_b, ↓asS_s, ↓asL_l, ↓asT_t, ↓slD_0, ↓slD_s, ↓slO_0, ↓slO_s, ↓asR_l, ↓fAdd_i, ↓fAdd_s, ↓ixbo_0, ↓ixbo_1, ↓ixbo_2, ↓ixbo_3, ↓ixD_l, ↓ixD_t, ↓ixD_s, ↓arg1_1, ↓arg2_2, ↓fLen1_l, ↓fLen1_t, ↓fLen1_s, ↓asC_c, ↓asQ_l, ↓asQ_t, ↓asQ_s, ↓kD_d, ↓kD_o, ↓kO_o, ↓fz_l, ↓fz_P, ↓fz_ll, ↓ret_d, ↓ret_o, ↓ret_O, ↓retL_d, ↓retL_o, ↓retL_O, ↓atD_0, ↓atD_1, ↓atD_2, ↓atD_3, ↓atD_b1, ↓atD_b2, ↓atD_b3, ↓ixP_30, ↓ixP_31, ↓ixP_32, ↓if_true, ↓if_false, zNext, zSeq, zSet, zSetO, zDrop, zRet, zRetO, zRetP, zRetN, zIf, zPar, zAsg, zPut, gN, gsNil, gsCons, gT, uVar, uC, uFz, u2, fI, fI0, fEq, fLtD, uIxO, uOwn, uCB, oCB, fLen, fLenO, fAbs, wB, wNot, wAnd, wOr, uAnd, uOr, uNot, uIf, aNil, aCons, uTup, oLst, fIx, oVar, iSeq, iR1, iR2, uCall, oCall, uLend, oLend, shaped_iff, sh_non, sh_int, sh_bool, sh_str, eqv_int, eqv_str, eqv_bool, ixN_30, ixN_31, ixN_32, ixN_20, ixN_21, atI_0, atI_1, atI_2, atI_3, atI_b1, atI_b2, atI_b3, List.length_map, Int.reduceEq, forall_const, implies_true, and_assoc, sz_0, sz_1, sz_2, sz_3, sz_4, sz_5, sz_6, sz_7, sz_8, Bool.not_eq_true', beq_eq_false_iff_ne, beq_iff_eq, ne_eq, Bool.and_eq_true, Bool.or_eq_true, decide_eq_false_iff_not, not_false_eq_true, not_true_eq_false, Bool.not_true, Bool.not_false, isI_n, isI_b, isI_i, isI_s, isI_l, isI_t, isB_n, isB_b, isB_i, isB_s, isB_l, isB_t, isS_n, isS_b, isS_i, isS_s, isS_l, isS_t, isL_n, isL_b, isL_i, isL_s, isL_l, isL_t, isT_n, isT_b, isT_i, isT_s, isT_l, isT_t, isN_n, isN_b, isN_i, isN_s, isN_l, isN_t, ca_0, ca_1, ca_2, ca_3, ca_4, ca_5, ca_6, Int.reduceToNat, Int.toNat_natCast, Int.reducePow, Int.reduceMul, Int.reduceLT, Int.reduceLE, Int.reduceNeg, zFor,
  List.replicate, List.length_cons, List.length_nil, List.nil_append, List.cons_append, List.append_nil, List.map_cons, List.map_nil, List.set_cons_zero, List.set_cons_succ, List.getElem?_cons_zero, List.getElem?_cons_succ, Option.some.injEq, S.d.injEq, S.o.injEq, Res.lst.injEq, Res.lstP.injEq, PyData.int.injEq, PyData.str.injEq, PyData.bool.injEq, PyData.list.injEq, PyData.tuple.injEq, List.cons.injEq, reduceCtorEq,
  exists_eq_left', exists_eq_left, exists_eq_right, exists_eq_right', true_and, and_true, false_and, and_false, exists_false, false_or, or_false, exists_and_left, exists_and_right, exists_eq', exists_eq, exists_const, Bool.false_eq_true, ite_true, ite_false, decide_eq_true_eq, Nat.sub_self, Nat.zero_add, Nat.add_sub_cancel, Nat.reduceSub, Nat.reduceAdd])
structure Bi (K : PySem.W.Frag) (mg : Str → Option Value) : Prop where
  all : mg "all" = none
  bool : mg "bool" = none
  int : mg "int" = none
  isinstance : mg "isinstance" = none
  len : mg "len" = none
  list : mg "list" = none
  range : mg "range" = none
  sorted : mg "sorted" = none
  sum : mg "sum" = none
  tuple : mg "tuple" = none
def T_layers_of : TF := fun a Q => ∃ (b : Bo), a = [.d (boD b)] ∧ b.bl.flatten.length ≤ 1000 ∧ ret Q (.o none (.lst (b.lays.map lyD)))
theorem TE_layers_of {b : Bo} {Q : S → Dl.Ctx → Prop} : T_layers_of [.d (boD b)] Q = (b.lays.length ≤ 1000 ∧ ret Q (.o none (.lst (b.lays.map lyD)))) := propext ⟨fun ⟨b', e, q⟩ => by
  have e2 : boD b = boD b' := by simpa using e
  have := boD_inj e2
  rw [this]
  exact q, fun q => ⟨_, rfl, q⟩⟩
theorem sc_layers_of : FnScope ["bore", "told", "block"] ["bore"] (defScope (topS 1)) := ⟨rfl, rfl, rfl, by decide +kernel, rfl, by decide +kernel, by decide +kernel⟩
local macro_rules | `(tactic| walk_at "wpt") => `(tactic| simp (maxSteps := 1000000) only [↓reduceIte, ↓retA_kO, ↓retA_kD, ↓retA_kDo, ↓retA_kS, ↓asIs_m, ↓asBs_m, ↓asSs_m, fSum, fMin, fMax, fAll, fAny, fSortI, fMin2, fMax2, fStr, ↓fIntS_i, ↓fIntS_b, ↓fIntS_s, oLcN, fSortST, fSortT, zSeqX, zIfX, zRaise, zTry, ↓bare_d, ↓bare_o, ↓bare_l, ↓bare_no, ↓bare_f, ↓bare_g, ↓bare_P, ↓bare_dic, uSee, bSee, uSeeA, bSeeA, zAl, zInsLL, zForAl, osNil, osCons, oDisp, zLLclr, zLLapp, oSortK, uIsE, oSplit, uLendT, S.f.injEq, eq_self, ↓fAddA_i, ↓fAddA_s, ↓fAddA_t, fRepT, oRg1, uChain, ↓slWL_d, ↓slWL_o, ↓slWL_l, ↓slWL_s, ↓seeL_n, ↓seeL_d, ↓seeL_s, uCallSL, zLLfor, gTL, iZpA, ↓as2_l, ↓as2_t, ↓isLL_l, zLLo, uLLix, zLLput, oRep, fJoin, uV2, fSortS, fSortP, oLLe, iZp, iEn, iRv, iRr1, ↓slW_d, ↓slW_o, ↓slW_P, ↓slW_s, ↓hasS_d, ↓hasS_o, ↓hasS_f, ↓hasS_s, uV, uN, u1, o1, o2, oN, ↓fIn_l, ↓fIn_s, fCat, ↓fList_l, ↓fList_t, ↓fTup_l, ↓fTup_t, ↓fInt1_i, ↓fInt1_b, ↓lstR_l, ↓lstR_P, zM1, zM0, fApp, ↓fExt_l, ↓fExt_t, fRev, fClr, zIns, uPop, uPopI, ↓slF_d, ↓slF_o, ↓slF_s, uVf, pNo, pSo, ↓fSl_s, ↓fSl_t, uSl, oSl, oSlN, ↓scal_n, ↓scal_b, ↓scal_i, ↓scal_s, ↓kS_d, ↓ret_S, ↓see_n, ↓see_d, ↓see_s, rV, uCallS, rNil, rD, rS, uCallA, oCallA, ↓toS_d, ↓toS_f, ↓toS_s, ↓slS_0, ↓slS_s, ↓retA_d, ↓retA_o, ↓retA_O, ↓backL_n, ↓backL_s, ↓backL_d, ↓backL_f, ↓lok_n, ↓lok_s, ↓lok_d, ↓lok_f, ↓lent_n, ↓lent_s, ↓lent_d, ↓lent_f, bYes, oLc, ↓clr_n, ↓clr_c, ↓clr2_n, ↓clr2_c, ↓rest_n, ↓rest_c, ↓keep1_d, ↓keep1_o, ↓keep1_f, ↓keep1_no, ↓keep1_s, ↓asLL_l, oLL0, zLLn, zLLa, uLLlen, List.mem_cons, List.not_mem_nil, Nat.reduceEqDiff, eqv_list, eqv_tuple, eqv_none, ↓asI_i, ↓asB_b, ↓asS_s, ↓asL_l, ↓asT_t, ↓slD_0, ↓slD_s, ↓slO_0, ↓slO_s, ↓asR_l, ↓fAdd_i, ↓fAdd_s, ↓ixbo_0, ↓ixbo_1, ↓ixbo_2, ↓ixbo_3, ↓ixD_l, ↓ixD_t, ↓ixD_s, ↓arg1_1, ↓arg2_2, ↓fLen1_l, ↓fLen1_t, ↓fLen1_s, ↓asC_c, ↓asQ_l, ↓asQ_t, ↓asQ_s, ↓kD_d, ↓kD_o, ↓kO_o, ↓fz_l, ↓fz_P, ↓fz_ll, ↓ret_d, ↓ret_o, ↓ret_O, ↓retL_d, ↓retL_o, ↓retL_O, ↓atD_0, ↓atD_1, ↓atD_2, ↓atD_3, ↓atD_b1, ↓atD_b2, ↓atD_b3, ↓ixP_30, ↓ixP_31, ↓ixP_32, ↓if_true, ↓if_false, zNext, zSeq, zSet, zSetO, zDrop, zRet, zRetO, zRetP, zRetN, zIf, zPar, zAsg, zPut, gN, gsNil, gsCons, gT, uVar, uC, uFz, u2, fI, fI0, fEq, fLtD, uIxO, uOwn, uCB, oCB, fLen, fLenO, fAbs, wB, wNot, wAnd, wOr, uAnd, uOr, uNot, uIf, aNil, aCons, uTup, oLst, fIx, oVar, iSeq, iR1, iR2, uCall, oCall, uLend, oLend, shaped_iff, sh_non, sh_int, sh_bool, sh_str, eqv_int, eqv_str, eqv_bool, ixN_30, ixN_31, ixN_32, ixN_20, ixN_21, atI_0, atI_1, atI_2, atI_3, atI_b1, atI_b2, atI_b3, List.length_map, Int.reduceEq, forall_const, implies_true, and_assoc, sz_0, sz_1, sz_2, sz_3, sz_4, sz_5, sz_6, sz_7, sz_8, Bool.not_eq_true', beq_eq_false_iff_ne, beq_iff_eq, ne_eq, Bool.and_eq_true, Bool.or_eq_true, decide_eq_false_iff_not, not_false_eq_true, not_true_eq_false, Bool.not_true, Bool.not_false, isI_n, isI_b, isI_i, isI_s, isI_l, isI_t, isB_n, isB_b, isB_i, isB_s, isB_l, isB_t, isS_n, isS_b, isS_i, isS_s, isS_l, isS_t, isL_n, isL_b, isL_i, isL_s, isL_l, isL_t, isT_n, isT_b, isT_i, isT_s, isT_l, isT_t, isN_n, isN_b, isN_i, isN_s, isN_l, isN_t, ca_0, ca_1, ca_2, ca_3, ca_4, ca_5, ca_6, Int.reduceToNat, Int.toNat_natCast, Int.reducePow, Int.reduceMul, Int.reduceLT, Int.reduceLE, Int.reduceNeg, zFor,   List.replicate, List.length_cons, List.length_nil, List.nil_append, List.cons_append, List.append_nil, List.map_cons, List.map_nil, List.set_cons_zero, List.set_cons_succ, List.getElem?_cons_zero, List.getElem?_cons_succ, Option.some.injEq, S.d.injEq, S.o.injEq, Res.lst.injEq, Res.lstP.injEq, PyData.int.injEq, PyData.str.injEq, PyData.bool.injEq, PyData.list.injEq, PyData.tuple.injEq, List.cons.injEq, reduceCtorEq,   exists_eq_left', exists_eq_left, exists_eq_right, exists_eq_right', true_and, and_true, false_and, and_false, exists_false, false_or, or_false, exists_and_left, exists_and_right, exists_eq', exists_eq, exists_const, Bool.false_eq_true, ite_true, ite_false, decide_eq_true_eq, Nat.sub_self, Nat.zero_add, Nat.add_sub_cancel, Nat.reduceSub, Nat.reduceAdd])
local macro_rules | `(tactic| walk_at "st") => `(tactic| simp (maxSteps := 1000000) only [true_and, ↓reduceIte, ↓retA_kO, ↓retA_kD, ↓retA_kDo, ↓retA_kS, ↓asIs_m, ↓asBs_m, ↓asSs_m, fSum, fMin, fMax, fAll, fAny, fSortI, fMin2, fMax2, fStr, ↓fIntS_i, ↓fIntS_b, ↓fIntS_s, oLcN, fSortST, fSortT, zSeqX, zIfX, zRaise, zTry, ↓bare_d, ↓bare_o, ↓bare_l, ↓bare_no, ↓bare_f, ↓bare_g, ↓bare_P, ↓bare_dic, uSee, bSee, uSeeA, bSeeA, zAl, zInsLL, zForAl, osNil, osCons, oDisp, zLLclr, zLLapp, oSortK, uIsE, oSplit, uLendT, S.f.injEq, eq_self, ↓fAddA_i, ↓fAddA_s, ↓fAddA_t, fRepT, oRg1, uChain, ↓slWL_d, ↓slWL_o, ↓slWL_l, ↓slWL_s, ↓seeL_n, ↓seeL_d, ↓seeL_s, uCallSL, zLLfor, gTL, iZpA, ↓as2_l, ↓as2_t, ↓isLL_l, zLLo, uLLix, zLLput, oRep, fJoin, uV2, fSortS, fSortP, oLLe, iZp, iEn, iRv, iRr1, ↓slW_d, ↓slW_o, ↓slW_P, ↓slW_s, ↓hasS_d, ↓hasS_o, ↓hasS_f, ↓hasS_s, uV, uN, u1, o1, o2, oN, ↓fIn_l, ↓fIn_s, fCat, ↓fList_l, ↓fList_t, ↓fTup_l, ↓fTup_t, ↓fInt1_i, ↓fInt1_b, ↓lstR_l, ↓lstR_P, zM1, zM0, fApp, ↓fExt_l, ↓fExt_t, fRev, fClr, zIns, uPop, uPopI, ↓slF_d, ↓slF_o, ↓slF_s, uVf, pNo, pSo, ↓fSl_s, ↓fSl_t, uSl, oSl, oSlN, ↓scal_n, ↓scal_b, ↓scal_i, ↓scal_s, ↓kS_d, ↓ret_S, ↓see_n, ↓see_d, ↓see_s, rV, uCallS, rNil, rD, rS, uCallA, oCallA, ↓toS_d, ↓toS_f, ↓toS_s, ↓slS_0, ↓slS_s, ↓retA_d, ↓retA_o, ↓retA_O, ↓backL_n, ↓backL_s, ↓backL_d, ↓backL_f, ↓lok_n, ↓lok_s, ↓lok_d, ↓lok_f, ↓lent_n, ↓lent_s, ↓lent_d, ↓lent_f, bYes, oLc, ↓clr_n, ↓clr_c, ↓clr2_n, ↓clr2_c, ↓rest_n, ↓rest_c, ↓keep1_d, ↓keep1_o, ↓keep1_f, ↓keep1_no, ↓keep1_s, ↓asLL_l, oLL0, zLLn, zLLa, uLLlen, List.mem_cons, List.not_mem_nil, Nat.reduceEqDiff, eqv_list, eqv_tuple, eqv_none, ↓asI_i, ↓asB_b, ↓asS_s, ↓asL_l, ↓asT_t, ↓slD_0, ↓slD_s, ↓slO_0, ↓slO_s, ↓asR_l, ↓fAdd_i, ↓fAdd_s, ↓ixbo_0, ↓ixbo_1, ↓ixbo_2, ↓ixbo_3, ↓ixD_l, ↓ixD_t, ↓ixD_s, ↓arg1_1, ↓arg2_2, ↓fLen1_l, ↓fLen1_t, ↓fLen1_s, ↓asC_c, ↓asQ_l, ↓asQ_t, ↓asQ_s, ↓kD_d, ↓kD_o, ↓kO_o, ↓fz_l, ↓fz_P, ↓fz_ll, ↓ret_d, ↓ret_o, ↓ret_O, ↓retL_d, ↓retL_o, ↓retL_O, ↓atD_0, ↓atD_1, ↓atD_2, ↓atD_3, ↓atD_b1, ↓atD_b2, ↓atD_b3, ↓ixP_30, ↓ixP_31, ↓ixP_32, ↓if_true, ↓if_false, zNext, zSet, zSetO, zDrop, zRet, zRetO, zRetP, zRetN, zIf, zPar, zAsg, zPut, gN, gsNil, gsCons, gT, uVar, uC, uFz, u2, fI, fI0, fEq, fLtD, uIxO, uOwn, uCB, oCB, fLen, fLenO, fAbs, wB, wNot, wAnd, wOr, uAnd, uOr, uNot, uIf, aNil, aCons, uTup, oLst, fIx, oVar, iSeq, iR1, iR2, uCall, oCall, uLend, oLend, shaped_iff, sh_non, sh_int, sh_bool, sh_str, eqv_int, eqv_str, eqv_bool, ixN_30, ixN_31, ixN_32, ixN_20, ixN_21, atI_0, atI_1, atI_2, atI_3, atI_b1, atI_b2, atI_b3, List.length_map, Int.reduceEq, forall_const, implies_true, and_assoc, sz_0, sz_1, sz_2, sz_3, sz_4, sz_5, sz_6, sz_7, sz_8, Bool.not_eq_true', beq_eq_false_iff_ne, beq_iff_eq, ne_eq, Bool.and_eq_true, Bool.or_eq_true, decide_eq_false_iff_not, not_false_eq_true, not_true_eq_false, Bool.not_true, Bool.not_false, isI_n, isI_b, isI_i, isI_s, isI_l, isI_t, isB_n, isB_b, isB_i, isB_s, isB_l, isB_t, isS_n, isS_b, isS_i, isS_s, isS_l, isS_t, isL_n, isL_b, isL_i, isL_s, isL_l, isL_t, isT_n, isT_b, isT_i, isT_s, isT_l, isT_t, isN_n, isN_b, isN_i, isN_s, isN_l, isN_t, ca_0, ca_1, ca_2, ca_3, ca_4, ca_5, ca_6, Int.reduceToNat, Int.toNat_natCast, Int.reducePow, Int.reduceMul, Int.reduceLT, Int.reduceLE, Int.reduceNeg, zFor,   List.replicate, List.length_cons, List.length_nil, List.nil_append, List.cons_append, List.append_nil, List.map_cons, List.map_nil, List.set_cons_zero, List.set_cons_succ, List.getElem?_cons_zero, List.getElem?_cons_succ, Option.some.injEq, S.d.injEq, S.o.injEq, Res.lst.injEq, Res.lstP.injEq, PyData.int.injEq, PyData.str.injEq, PyData.bool.injEq, PyData.list.injEq, PyData.tuple.injEq, List.cons.injEq, reduceCtorEq,   exists_eq_left', exists_eq_left, exists_eq_right, exists_eq_right', true_and, and_true, false_and, and_false, exists_false, false_or, or_false, exists_and_left, exists_and_right, exists_eq', exists_eq, exists_const, Bool.false_eq_true, ite_true, ite_false, decide_eq_true_eq, Nat.sub_self, Nat.zero_add, Nat.add_sub_cancel, Nat.reduceSub, Nat.reduceAdd])
theorem c_layers_of {P : Program} {w : World} {K : PySem.W.Frag} {mg : Str → Option Value} {base : Heap} (hb : Bi K mg) (D : Df K mg "layers_of" (topS 1) ["bore"])  : Cal P w K mg base "layers_of" 1 ["bore"] T_layers_of := by
  obtain ⟨f, fd, F, hm, hB⟩ := D
  refine ⟨f, fd, fn_d (k := 0) F sc_layers_of ?hT (fun cdv A outer s H E hr => (q_cons (s_setO (j := 1) sc_layers_of.nd (o_lst a_nil))
 (q_cons (s_for PassesOwn.never rfl (i_seq (d_ixN 0 (fun _ _ => rfl) d_int)) (g_name 2 sc_layers_of.nd)
 (q_one (s_ext 1 (vv 2))))
 (q_one (s_retO (o_var 1)))))), hm, F.kp, hB⟩
  case hT =>
    intro a Q h
    obtain ⟨b, rfl, hl, q⟩ := h
    refine ⟨rfl, ?_⟩
    unfold boD
    walk_at "wpt"
    refine loop_by (fun i c => ∃ (x2 : S), c = [.d (boD b), .o none (.lst ((b.bl.take i).flatten.map lyD)), x2]) ⟨_, rfl⟩ ?_ ?_
    · rintro i y c N hy ⟨x2, rfl⟩ hN
      obtain ⟨k, hk, rfl⟩ : ∃ k, b.bl[i]? = some k ∧ blD k = y := by
        rw [List.getElem?_map] at hy
        cases h : b.bl[i]? with
        | none => rw [h] at hy; cases hy
        | some k => rw [h] at hy; exact ⟨k, rfl, Option.some.inj hy⟩
      unfold blD
      walk_at "wpt"
      have e : b.bl.take (i + 1) = b.bl.take i ++ [k] := by rw [List.take_add_one, hk]; rfl
      have hle : (b.bl.take (i + 1)).flatten.length ≤ b.bl.flatten.length := by
        conv => rhs; rw [← List.take_append_drop (i + 1) b.bl, List.flatten_append, List.length_append]
        omega
      rw [e, List.flatten_append, List.length_append] at hle
      simp only [List.flatten_cons, List.flatten_nil, List.append_nil] at hle
      have := sizeLine_eq
      refine ⟨by omega, hN _ ⟨.d (.tuple (k.map lyD)), ?_⟩⟩
      rw [e, List.flatten_append, List.map_append]
      simp
    · rintro c ⟨x2, rfl⟩
      rw [List.length_map, List.take_length]
      walk_at "wpt"
      exact q _

/-- the layers of the first k blocks -/
def fN {α : Type} (bl : List (List α)) (k : Nat) : Nat := (bl.take k).flatten.length
theorem fN_0 {α : Type} {bl : List (List α)} : fN bl 0 = 0 := rfl
theorem fN_more {α : Type} {bl : List (List α)} {k : Nat} {x : List α} (h : bl[k]? = some x) : fN bl (k + 1) = fN bl k + x.length := by
  unfold fN
  rw [List.take_add_one, h, List.flatten_append, List.length_append]; simp
theorem fN_le {α : Type} {bl : List (List α)} {k : Nat} : fN bl k ≤ bl.flatten.length := by
  unfold fN
  conv => rhs; rw [← List.take_append_drop k bl, List.flatten_append, List.length_append]
  omega
theorem len_flat {α : Type} : ∀ l : List (List α), (∀ k ∈ l, k ≠ []) → l.length ≤ l.flatten.length
  | [], _ => Nat.zero_le _
  | x :: l, h => by
    have h1 := len_flat l fun k hk => h k (List.mem_cons_of_mem _ hk)
    have h2 : 0 < x.length := List.length_pos_iff.mpr (h x List.mem_cons_self)
    rw [List.flatten_cons, List.length_append, List.length_cons]
    omega
theorem fN_cut {α : Type} {bl : List (List α)} {k : Nat} {x : List α} (h : bl[k]? = some x) : (bl.flatten.drop (fN bl k)).take (fN bl (k + 1) - fN bl k) = x := by
  have e : bl.flatten = (bl.take k).flatten ++ (x ++ (bl.drop (k + 1)).flatten) := by
    conv => lhs; rw [← List.take_append_drop k bl, List.flatten_append]
    have hk := get_lt h
    rw [List.drop_eq_getElem_cons hk, (List.getElem?_eq_some_iff.mp h).2, List.flatten_cons]
  rw [fN_more h, Nat.add_sub_cancel_left, e]
  show (((bl.take k).flatten ++ (x ++ (bl.drop (k + 1)).flatten)).drop ((bl.take k).flatten.length)).take _ = _
  rw [List.drop_left, List.take_left]
theorem fN_in {α : Type} {bl : List (List α)} {k : Nat} {x : List α} (h : bl[k]? = some x) : x.length ≤ bl.flatten.length := by
  have := fN_more h
  have := fN_le (bl := bl) (k := k + 1)
  omega
def endsD (bl : List (List (Str × Int))) (n : Nat) : List PyData := (List.range n).map fun i => PyData.int ((fN bl (i + 1) : Int) - 1)
theorem endsD_get {bl : List (List (Str × Int))} {n i : Nat} (h : i < n) : (endsD bl n)[i]? = some (.int ((fN bl (i + 1) : Int) - 1)) := by
  unfold endsD
  rw [List.getElem?_map, List.getElem?_range h]; rfl
theorem endsD_len {bl : List (List (Str × Int))} {n : Nat} : (endsD bl n).length = n := by unfold endsD; rw [List.length_map, List.length_range]
def T_block_ends : TF := fun a Q => ∃ (b : Bo), a = [.d (boD b)] ∧ (b.bl.length ≤ 1000 ∧ ret Q (.o none (.lst (endsD b.bl b.bl.length))))
theorem TE_block_ends {b : Bo} {Q : S → Dl.Ctx → Prop} : T_block_ends [.d (boD b)] Q = (b.bl.length ≤ 1000 ∧ ret Q (.o none (.lst (endsD b.bl b.bl.length)))) := propext ⟨fun ⟨_, e_, q_⟩ => by
  simp only [and_assoc, List.cons.injEq, S.d.injEq, S.o.injEq, Option.some.injEq, Res.lst.injEq, Res.lstP.injEq, Res.lls.injEq, PyData.int.injEq, PyData.str.injEq, PyData.bool.injEq, PyData.list.injEq, PyData.tuple.injEq, and_true, true_and, Int.natCast_inj, strs_iff, ints_iff, lys_iff, bls_iff, boD_iff, bos_iff, pps_iff, shs_iff, onD_iff] at e_
  repeat (obtain ⟨_, e_⟩ := e_)
  subst_vars
  exact q_, fun q_ => ⟨_, rfl, q_⟩⟩
theorem sc_block_ends : FnScope ["bore", "told", "many", "block"] ["bore"] (defScope (topS 2)) := ⟨rfl, rfl, rfl, by decide +kernel, rfl, by decide +kernel, by decide +kernel⟩
local macro_rules | `(tactic| walk_at "wpt") => `(tactic| simp (maxSteps := 1000000) only [↓reduceIte, ↓retA_kO, ↓retA_kD, ↓retA_kDo, ↓retA_kS, ↓asIs_m, ↓asBs_m, ↓asSs_m, fSum, fMin, fMax, fAll, fAny, fSortI, fMin2, fMax2, fStr, ↓fIntS_i, ↓fIntS_b, ↓fIntS_s, oLcN, fSortST, fSortT, zSeqX, zIfX, zRaise, zTry, ↓bare_d, ↓bare_o, ↓bare_l, ↓bare_no, ↓bare_f, ↓bare_g, ↓bare_P, ↓bare_dic, uSee, bSee, uSeeA, bSeeA, zAl, zInsLL, zForAl, osNil, osCons, oDisp, zLLclr, zLLapp, oSortK, uIsE, oSplit, uLendT, S.f.injEq, eq_self, ↓fAddA_i, ↓fAddA_s, ↓fAddA_t, fRepT, oRg1, uChain, ↓slWL_d, ↓slWL_o, ↓slWL_l, ↓slWL_s, ↓seeL_n, ↓seeL_d, ↓seeL_s, uCallSL, zLLfor, gTL, iZpA, ↓as2_l, ↓as2_t, ↓isLL_l, zLLo, uLLix, zLLput, oRep, fJoin, uV2, fSortS, fSortP, oLLe, iZp, iEn, iRv, iRr1, ↓slW_d, ↓slW_o, ↓slW_P, ↓slW_s, ↓hasS_d, ↓hasS_o, ↓hasS_f, ↓hasS_s, uV, uN, u1, o1, o2, oN, ↓fIn_l, ↓fIn_s, fCat, ↓fList_l, ↓fList_t, ↓fTup_l, ↓fTup_t, ↓fInt1_i, ↓fInt1_b, ↓lstR_l, ↓lstR_P, zM1, zM0, fApp, ↓fExt_l, ↓fExt_t, fRev, fClr, zIns, uPop, uPopI, ↓slF_d, ↓slF_o, ↓slF_s, uVf, pNo, pSo, ↓fSl_s, ↓fSl_t, uSl, oSl, oSlN, ↓scal_n, ↓scal_b, ↓scal_i, ↓scal_s, ↓kS_d, ↓ret_S, ↓see_n, ↓see_d, ↓see_s, rV, uCallS, rNil, rD, rS, uCallA, oCallA, ↓toS_d, ↓toS_f, ↓toS_s, ↓slS_0, ↓slS_s, ↓retA_d, ↓retA_o, ↓retA_O, ↓backL_n, ↓backL_s, ↓backL_d, ↓backL_f, ↓lok_n, ↓lok_s, ↓lok_d, ↓lok_f, ↓lent_n, ↓lent_s, ↓lent_d, ↓lent_f, bYes, oLc, ↓clr_n, ↓clr_c, ↓clr2_n, ↓clr2_c, ↓rest_n, ↓rest_c, ↓keep1_d, ↓keep1_o, ↓keep1_f, ↓keep1_no, ↓keep1_s, ↓asLL_l, oLL0, zLLn, zLLa, uLLlen, List.mem_cons, List.not_mem_nil, Nat.reduceEqDiff, eqv_list, eqv_tuple, eqv_none, ↓asI_i, ↓asB_b, ↓asS_s, ↓asL_l, ↓asT_t, ↓slD_0, ↓slD_s, ↓slO_0, ↓slO_s, ↓asR_l, ↓fAdd_i, ↓fAdd_s, ↓ixbo_0, ↓ixbo_1, ↓ixbo_2, ↓ixbo_3, ↓ixD_l, ↓ixD_t, ↓ixD_s, ↓arg1_1, ↓arg2_2, ↓fLen1_l, ↓fLen1_t, ↓fLen1_s, ↓asC_c, ↓asQ_l, ↓asQ_t, ↓asQ_s, ↓kD_d, ↓kD_o, ↓kO_o, ↓fz_l, ↓fz_P, ↓fz_ll, ↓ret_d, ↓ret_o, ↓ret_O, ↓retL_d, ↓retL_o, ↓retL_O, ↓atD_0, ↓atD_1, ↓atD_2, ↓atD_3, ↓atD_b1, ↓atD_b2, ↓atD_b3, ↓ixP_30, ↓ixP_31, ↓ixP_32, ↓if_true, ↓if_false, zNext, zSeq, zSet, zSetO, zDrop, zRet, zRetO, zRetP, zRetN, zIf, zPar, zAsg, zPut, gN, gsNil, gsCons, gT, uVar, uC, uFz, u2, fI, fI0, fEq, fLtD, uIxO, uOwn, uCB, oCB, fLen, fLenO, fAbs, wB, wNot, wAnd, wOr, uAnd, uOr, uNot, uIf, aNil, aCons, uTup, oLst, fIx, oVar, iSeq, iR1, iR2, uCall, oCall, uLend, oLend, shaped_iff, sh_non, sh_int, sh_bool, sh_str, eqv_int, eqv_str, eqv_bool, ixN_30, ixN_31, ixN_32, ixN_20, ixN_21, atI_0, atI_1, atI_2, atI_3, atI_b1, atI_b2, atI_b3, List.length_map, Int.reduceEq, forall_const, implies_true, and_assoc, sz_0, sz_1, sz_2, sz_3, sz_4, sz_5, sz_6, sz_7, sz_8, Bool.not_eq_true', beq_eq_false_iff_ne, beq_iff_eq, ne_eq, Bool.and_eq_true, Bool.or_eq_true, decide_eq_false_iff_not, not_false_eq_true, not_true_eq_false, Bool.not_true, Bool.not_false, isI_n, isI_b, isI_i, isI_s, isI_l, isI_t, isB_n, isB_b, isB_i, isB_s, isB_l, isB_t, isS_n, isS_b, isS_i, isS_s, isS_l, isS_t, isL_n, isL_b, isL_i, isL_s, isL_l, isL_t, isT_n, isT_b, isT_i, isT_s, isT_l, isT_t, isN_n, isN_b, isN_i, isN_s, isN_l, isN_t, ca_0, ca_1, ca_2, ca_3, ca_4, ca_5, ca_6, Int.reduceToNat, Int.toNat_natCast, Int.reducePow, Int.reduceMul, Int.reduceLT, Int.reduceLE, Int.reduceNeg, zFor,   List.replicate, List.length_cons, List.length_nil, List.nil_append, List.cons_append, List.append_nil, List.map_cons, List.map_nil, List.set_cons_zero, List.set_cons_succ, List.getElem?_cons_zero, List.getElem?_cons_succ, Option.some.injEq, S.d.injEq, S.o.injEq, Res.lst.injEq, Res.lstP.injEq, PyData.int.injEq, PyData.str.injEq, PyData.bool.injEq, PyData.list.injEq, PyData.tuple.injEq, List.cons.injEq, reduceCtorEq,   exists_eq_left', exists_eq_left, exists_eq_right, exists_eq_right', true_and, and_true, false_and, and_false, exists_false, false_or, or_false, exists_and_left, exists_and_right, exists_eq', exists_eq, exists_const, Bool.false_eq_true, ite_true, ite_false, decide_eq_true_eq, Nat.sub_self, Nat.zero_add, Nat.add_sub_cancel, Nat.reduceSub, Nat.reduceAdd])
local macro_rules | `(tactic| walk_at "st") => `(tactic| simp (maxSteps := 1000000) only [true_and, ↓reduceIte, ↓retA_kO, ↓retA_kD, ↓retA_kDo, ↓retA_kS, ↓asIs_m, ↓asBs_m, ↓asSs_m, fSum, fMin, fMax, fAll, fAny, fSortI, fMin2, fMax2, fStr, ↓fIntS_i, ↓fIntS_b, ↓fIntS_s, oLcN, fSortST, fSortT, zSeqX, zIfX, zRaise, zTry, ↓bare_d, ↓bare_o, ↓bare_l, ↓bare_no, ↓bare_f, ↓bare_g, ↓bare_P, ↓bare_dic, uSee, bSee, uSeeA, bSeeA, zAl, zInsLL, zForAl, osNil, osCons, oDisp, zLLclr, zLLapp, oSortK, uIsE, oSplit, uLendT, S.f.injEq, eq_self, ↓fAddA_i, ↓fAddA_s, ↓fAddA_t, fRepT, oRg1, uChain, ↓slWL_d, ↓slWL_o, ↓slWL_l, ↓slWL_s, ↓seeL_n, ↓seeL_d, ↓seeL_s, uCallSL, zLLfor, gTL, iZpA, ↓as2_l, ↓as2_t, ↓isLL_l, zLLo, uLLix, zLLput, oRep, fJoin, uV2, fSortS, fSortP, oLLe, iZp, iEn, iRv, iRr1, ↓slW_d, ↓slW_o, ↓slW_P, ↓slW_s, ↓hasS_d, ↓hasS_o, ↓hasS_f, ↓hasS_s, uV, uN, u1, o1, o2, oN, ↓fIn_l, ↓fIn_s, fCat, ↓fList_l, ↓fList_t, ↓fTup_l, ↓fTup_t, ↓fInt1_i, ↓fInt1_b, ↓lstR_l, ↓lstR_P, zM1, zM0, fApp, ↓fExt_l, ↓fExt_t, fRev, fClr, zIns, uPop, uPopI, ↓slF_d, ↓slF_o, ↓slF_s, uVf, pNo, pSo, ↓fSl_s, ↓fSl_t, uSl, oSl, oSlN, ↓scal_n, ↓scal_b, ↓scal_i, ↓scal_s, ↓kS_d, ↓ret_S, ↓see_n, ↓see_d, ↓see_s, rV, uCallS, rNil, rD, rS, uCallA, oCallA, ↓toS_d, ↓toS_f, ↓toS_s, ↓slS_0, ↓slS_s, ↓retA_d, ↓retA_o, ↓retA_O, ↓backL_n, ↓backL_s, ↓backL_d, ↓backL_f, ↓lok_n, ↓lok_s, ↓lok_d, ↓lok_f, ↓lent_n, ↓lent_s, ↓lent_d, ↓lent_f, bYes, oLc, ↓clr_n, ↓clr_c, ↓clr2_n, ↓clr2_c, ↓rest_n, ↓rest_c, ↓keep1_d, ↓keep1_o, ↓keep1_f, ↓keep1_no, ↓keep1_s, ↓asLL_l, oLL0, zLLn, zLLa, uLLlen, List.mem_cons, List.not_mem_nil, Nat.reduceEqDiff, eqv_list, eqv_tuple, eqv_none, ↓asI_i, ↓asB_b, ↓asS_s, ↓asL_l, ↓asT_t, ↓slD_0, ↓slD_s, ↓slO_0, ↓slO_s, ↓asR_l, ↓fAdd_i, ↓fAdd_s, ↓ixbo_0, ↓ixbo_1, ↓ixbo_2, ↓ixbo_3, ↓ixD_l, ↓ixD_t, ↓ixD_s, ↓arg1_1, ↓arg2_2, ↓fLen1_l, ↓fLen1_t, ↓fLen1_s, ↓asC_c, ↓asQ_l, ↓asQ_t, ↓asQ_s, ↓kD_d, ↓kD_o, ↓kO_o, ↓fz_l, ↓fz_P, ↓fz_ll, ↓ret_d, ↓ret_o, ↓ret_O, ↓retL_d, ↓retL_o, ↓retL_O, ↓atD_0, ↓atD_1, ↓atD_2, ↓atD_3, ↓atD_b1, ↓atD_b2, ↓atD_b3, ↓ixP_30, ↓ixP_31, ↓ixP_32, ↓if_true, ↓if_false, zNext, zSet, zSetO, zDrop, zRet, zRetO, zRetP, zRetN, zIf, zPar, zAsg, zPut, gN, gsNil, gsCons, gT, uVar, uC, uFz, u2, fI, fI0, fEq, fLtD, uIxO, uOwn, uCB, oCB, fLen, fLenO, fAbs, wB, wNot, wAnd, wOr, uAnd, uOr, uNot, uIf, aNil, aCons, uTup, oLst, fIx, oVar, iSeq, iR1, iR2, uCall, oCall, uLend, oLend, shaped_iff, sh_non, sh_int, sh_bool, sh_str, eqv_int, eqv_str, eqv_bool, ixN_30, ixN_31, ixN_32, ixN_20, ixN_21, atI_0, atI_1, atI_2, atI_3, atI_b1, atI_b2, atI_b3, List.length_map, Int.reduceEq, forall_const, implies_true, and_assoc, sz_0, sz_1, sz_2, sz_3, sz_4, sz_5, sz_6, sz_7, sz_8, Bool.not_eq_true', beq_eq_false_iff_ne, beq_iff_eq, ne_eq, Bool.and_eq_true, Bool.or_eq_true, decide_eq_false_iff_not, not_false_eq_true, not_true_eq_false, Bool.not_true, Bool.not_false, isI_n, isI_b, isI_i, isI_s, isI_l, isI_t, isB_n, isB_b, isB_i, isB_s, isB_l, isB_t, isS_n, isS_b, isS_i, isS_s, isS_l, isS_t, isL_n, isL_b, isL_i, isL_s, isL_l, isL_t, isT_n, isT_b, isT_i, isT_s, isT_l, isT_t, isN_n, isN_b, isN_i, isN_s, isN_l, isN_t, ca_0, ca_1, ca_2, ca_3, ca_4, ca_5, ca_6, Int.reduceToNat, Int.toNat_natCast, Int.reducePow, Int.reduceMul, Int.reduceLT, Int.reduceLE, Int.reduceNeg, zFor,   List.replicate, List.length_cons, List.length_nil, List.nil_append, List.cons_append, List.append_nil, List.map_cons, List.map_nil, List.set_cons_zero, List.set_cons_succ, List.getElem?_cons_zero, List.getElem?_cons_succ, Option.some.injEq, S.d.injEq, S.o.injEq, Res.lst.injEq, Res.lstP.injEq, PyData.int.injEq, PyData.str.injEq, PyData.bool.injEq, PyData.list.injEq, PyData.tuple.injEq, List.cons.injEq, reduceCtorEq,   exists_eq_left', exists_eq_left, exists_eq_right, exists_eq_right', true_and, and_true, false_and, and_false, exists_false, false_or, or_false, exists_and_left, exists_and_right, exists_eq', exists_eq, exists_const, Bool.false_eq_true, ite_true, ite_false, decide_eq_true_eq, Nat.sub_self, Nat.zero_add, Nat.add_sub_cancel, Nat.reduceSub, Nat.reduceAdd])
theorem c_block_ends {P : Program} {w : World} {K : PySem.W.Frag} {mg : Str → Option Value} {base : Heap} (hb : Bi K mg) (D : Df K mg "block_ends" (topS 2) ["bore"])  : Cal P w K mg base "block_ends" 1 ["bore"] T_block_ends := by
  obtain ⟨f, fd, F, hm, hB⟩ := D
  refine ⟨f, fd, fn_d (k := 0) F sc_block_ends ?hT (fun cdv A outer s H E hr => (q_cons (s_setO (j := 1) sc_block_ends.nd (o_lst a_nil))
 (q_cons (s_set (j := 2) sc_block_ends.nd d_int)
 (q_cons (s_for PassesOwn.never rfl (i_seq (d_ixN 0 (fun _ _ => rfl) d_int)) (g_name 3 sc_block_ends.nd)
 (q_cons (s_set (j := 2) sc_block_ends.nd (d_add (dv 2) (d_lenV hb.len (vv 3))))
 (q_one (s_app 1 (d_sub (dv 2) d_int)))))
 (q_one (s_retO (o_var 1))))))), hm, F.kp, hB⟩
  case hT =>
    intro a Q h
    obtain ⟨b, rfl, hl, q⟩ := h
    refine ⟨rfl, ?_⟩
    have hsz := sizeLine_eq
    unfold boD
    (repeat (refine seq_gen fun Nx hS => ?_; walk_at "st"; refine hS _ ?_; clear hS))
    (refine seq_gen fun Nx hS => ?_; walk_at "st")
    refine loop_by (fun i c => ∃ (x3 : S), c = [.d (.tuple [.str b.nm, .int b.at_, .int b.top, .tuple (b.bl.map blD)]), .o none (.lst (endsD b.bl i)), .d (.int (fN b.bl i : Nat)), x3] ∧ i ≤ b.bl.length) ⟨_, rfl, Nat.zero_le _⟩ ?_ ?_
    · rintro i y c N hy ⟨x3, rfl, hi⟩ hN
      obtain ⟨k, hk, rfl⟩ := map_get hy
      have hi2 := get_lt hk
      unfold blD
      (try walk_at "wpt")
      have e : ((fN b.bl i : Nat) : Int) + (k.length : Int) = ((fN b.bl (i + 1) : Nat) : Int) := by rw [fN_more hk]; omega
      rw [e]
      refine ⟨by rw [endsD_len]; omega, ?_⟩
      rw [show endsD b.bl i ++ [PyData.int (((fN b.bl (i + 1) : Nat) : Int) - 1)] = endsD b.bl (i + 1) by
        unfold endsD
        rw [List.range_succ, List.map_append]; rfl]
      exact hN _ ⟨_, rfl, by omega⟩
    · rintro c ⟨x3, rfl, hi⟩
      rw [List.length_map]
      (refine hS _ ?_; try clear hS; (repeat (refine seq_gen fun Nx hS => ?_; walk_at "st"; refine hS _ ?_; clear hS)))
      (try walk_at "wpt")
      exact q _

/-- how deep the first layers are -/
def upN (ls : List (Str × Int)) (i : Nat) : Int := ((ls.take i).map fun x => x.2).sum
theorem upN_more {ls : List (Str × Int)} {i : Nat} {x : Str × Int} (h : ls[i]? = some x) : upN ls (i + 1) = upN ls i + x.2 := by
  unfold upN
  rw [List.take_add_one, h, List.map_append, List.sum_append]; simp
theorem upN_all {ls : List (Str × Int)} : upN ls ls.length = (ls.map fun x => x.2).sum := by unfold upN; rw [List.take_length]
def dpsD (ls : List (Str × Int)) (n : Nat) : List PyData := (List.range n).map fun i => .tuple [.int (upN ls i), .int (upN ls (i + 1))]
theorem dpsD_more {ls : List (Str × Int)} {n : Nat} : dpsD ls n ++ [.tuple [.int (upN ls n), .int (upN ls (n + 1))]] = dpsD ls (n + 1) := by
  unfold dpsD
  rw [List.range_succ, List.map_append]; rfl
theorem dpsD_len {ls : List (Str × Int)} {n : Nat} : (dpsD ls n).length = n := by unfold dpsD; rw [List.length_map, List.length_range]
def T_depths : TF := fun a Q => ∃ (b : Bo), a = [.d (boD b)] ∧ (b.lays.length ≤ 1000 ∧ ret Q (.o none (.lst (dpsD b.lays b.lays.length))))
theorem TE_depths {b : Bo} {Q : S → Dl.Ctx → Prop} : T_depths [.d (boD b)] Q = (b.lays.length ≤ 1000 ∧ ret Q (.o none (.lst (dpsD b.lays b.lays.length)))) := propext ⟨fun ⟨_, e_, q_⟩ => by
  simp only [and_assoc, List.cons.injEq, S.d.injEq, S.o.injEq, Option.some.injEq, Res.lst.injEq, Res.lstP.injEq, Res.lls.injEq, PyData.int.injEq, PyData.str.injEq, PyData.bool.injEq, PyData.list.injEq, PyData.tuple.injEq, and_true, true_and, Int.natCast_inj, strs_iff, ints_iff, lys_iff, bls_iff, boD_iff, bos_iff, pps_iff, shs_iff, onD_iff] at e_
  repeat (obtain ⟨_, e_⟩ := e_)
  subst_vars
  exact q_, fun q_ => ⟨_, rfl, q_⟩⟩
theorem sc_depths : FnScope ["bore", "told", "upper", "mark", "thick"] ["bore"] (defScope (topS 3)) := ⟨rfl, rfl, rfl, by decide +kernel, rfl, by decide +kernel, by decide +kernel⟩
local macro_rules | `(tactic| walk_at "wpt") => `(tactic| simp (maxSteps := 1000000) only [↓TE_layers_of, ↓reduceIte, ↓retA_kO, ↓retA_kD, ↓retA_kDo, ↓retA_kS, ↓asIs_m, ↓asBs_m, ↓asSs_m, fSum, fMin, fMax, fAll, fAny, fSortI, fMin2, fMax2, fStr, ↓fIntS_i, ↓fIntS_b, ↓fIntS_s, oLcN, fSortST, fSortT, zSeqX, zIfX, zRaise, zTry, ↓bare_d, ↓bare_o, ↓bare_l, ↓bare_no, ↓bare_f, ↓bare_g, ↓bare_P, ↓bare_dic, uSee, bSee, uSeeA, bSeeA, zAl, zInsLL, zForAl, osNil, osCons, oDisp, zLLclr, zLLapp, oSortK, uIsE, oSplit, uLendT, S.f.injEq, eq_self, ↓fAddA_i, ↓fAddA_s, ↓fAddA_t, fRepT, oRg1, uChain, ↓slWL_d, ↓slWL_o, ↓slWL_l, ↓slWL_s, ↓seeL_n, ↓seeL_d, ↓seeL_s, uCallSL, zLLfor, gTL, iZpA, ↓as2_l, ↓as2_t, ↓isLL_l, zLLo, uLLix, zLLput, oRep, fJoin, uV2, fSortS, fSortP, oLLe, iZp, iEn, iRv, iRr1, ↓slW_d, ↓slW_o, ↓slW_P, ↓slW_s, ↓hasS_d, ↓hasS_o, ↓hasS_f, ↓hasS_s, uV, uN, u1, o1, o2, oN, ↓fIn_l, ↓fIn_s, fCat, ↓fList_l, ↓fList_t, ↓fTup_l, ↓fTup_t, ↓fInt1_i, ↓fInt1_b, ↓lstR_l, ↓lstR_P, zM1, zM0, fApp, ↓fExt_l, ↓fExt_t, fRev, fClr, zIns, uPop, uPopI, ↓slF_d, ↓slF_o, ↓slF_s, uVf, pNo, pSo, ↓fSl_s, ↓fSl_t, uSl, oSl, oSlN, ↓scal_n, ↓scal_b, ↓scal_i, ↓scal_s, ↓kS_d, ↓ret_S, ↓see_n, ↓see_d, ↓see_s, rV, uCallS, rNil, rD, rS, uCallA, oCallA, ↓toS_d, ↓toS_f, ↓toS_s, ↓slS_0, ↓slS_s, ↓retA_d, ↓retA_o, ↓retA_O, ↓backL_n, ↓backL_s, ↓backL_d, ↓backL_f, ↓lok_n, ↓lok_s, ↓lok_d, ↓lok_f, ↓lent_n, ↓lent_s, ↓lent_d, ↓lent_f, bYes, oLc, ↓clr_n, ↓clr_c, ↓clr2_n, ↓clr2_c, ↓rest_n, ↓rest_c, ↓keep1_d, ↓keep1_o, ↓keep1_f, ↓keep1_no, ↓keep1_s, ↓asLL_l, oLL0, zLLn, zLLa, uLLlen, List.mem_cons, List.not_mem_nil, Nat.reduceEqDiff, eqv_list, eqv_tuple, eqv_none, ↓asI_i, ↓asB_b, ↓asS_s, ↓asL_l, ↓asT_t, ↓slD_0, ↓slD_s, ↓slO_0, ↓slO_s, ↓asR_l, ↓fAdd_i, ↓fAdd_s, ↓ixbo_0, ↓ixbo_1, ↓ixbo_2, ↓ixbo_3, ↓ixD_l, ↓ixD_t, ↓ixD_s, ↓arg1_1, ↓arg2_2, ↓fLen1_l, ↓fLen1_t, ↓fLen1_s, ↓asC_c, ↓asQ_l, ↓asQ_t, ↓asQ_s, ↓kD_d, ↓kD_o, ↓kO_o, ↓fz_l, ↓fz_P, ↓fz_ll, ↓ret_d, ↓ret_o, ↓ret_O, ↓retL_d, ↓retL_o, ↓retL_O, ↓atD_0, ↓atD_1, ↓atD_2, ↓atD_3, ↓atD_b1, ↓atD_b2, ↓atD_b3, ↓ixP_30, ↓ixP_31, ↓ixP_32, ↓if_true, ↓if_false, zNext, zSeq, zSet, zSetO, zDrop, zRet, zRetO, zRetP, zRetN, zIf, zPar, zAsg, zPut, gN, gsNil, gsCons, gT, uVar, uC, uFz, u2, fI, fI0, fEq, fLtD, uIxO, uOwn, uCB, oCB, fLen, fLenO, fAbs, wB, wNot, wAnd, wOr, uAnd, uOr, uNot, uIf, aNil, aCons, uTup, oLst, fIx, oVar, iSeq, iR1, iR2, uCall, oCall, uLend, oLend, shaped_iff, sh_non, sh_int, sh_bool, sh_str, eqv_int, eqv_str, eqv_bool, ixN_30, ixN_31, ixN_32, ixN_20, ixN_21, atI_0, atI_1, atI_2, atI_3, atI_b1, atI_b2, atI_b3, List.length_map, Int.reduceEq, forall_const, implies_true, and_assoc, sz_0, sz_1, sz_2, sz_3, sz_4, sz_5, sz_6, sz_7, sz_8, Bool.not_eq_true', beq_eq_false_iff_ne, beq_iff_eq, ne_eq, Bool.and_eq_true, Bool.or_eq_true, decide_eq_false_iff_not, not_false_eq_true, not_true_eq_false, Bool.not_true, Bool.not_false, isI_n, isI_b, isI_i, isI_s, isI_l, isI_t, isB_n, isB_b, isB_i, isB_s, isB_l, isB_t, isS_n, isS_b, isS_i, isS_s, isS_l, isS_t, isL_n, isL_b, isL_i, isL_s, isL_l, isL_t, isT_n, isT_b, isT_i, isT_s, isT_l, isT_t, isN_n, isN_b, isN_i, isN_s, isN_l, isN_t, ca_0, ca_1, ca_2, ca_3, ca_4, ca_5, ca_6, Int.reduceToNat, Int.toNat_natCast, Int.reducePow, Int.reduceMul, Int.reduceLT, Int.reduceLE, Int.reduceNeg, zFor,   List.replicate, List.length_cons, List.length_nil, List.nil_append, List.cons_append, List.append_nil, List.map_cons, List.map_nil, List.set_cons_zero, List.set_cons_succ, List.getElem?_cons_zero, List.getElem?_cons_succ, Option.some.injEq, S.d.injEq, S.o.injEq, Res.lst.injEq, Res.lstP.injEq, PyData.int.injEq, PyData.str.injEq, PyData.bool.injEq, PyData.list.injEq, PyData.tuple.injEq, List.cons.injEq, reduceCtorEq,   exists_eq_left', exists_eq_left, exists_eq_right, exists_eq_right', true_and, and_true, false_and, and_false, exists_false, false_or, or_false, exists_and_left, exists_and_right, exists_eq', exists_eq, exists_const, Bool.false_eq_true, ite_true, ite_false, decide_eq_true_eq, Nat.sub_self, Nat.zero_add, Nat.add_sub_cancel, Nat.reduceSub, Nat.reduceAdd])
local macro_rules | `(tactic| walk_at "st") => `(tactic| simp (maxSteps := 1000000) only [↓TE_layers_of, ↓reduceIte, ↓retA_kO, ↓retA_kD, ↓retA_kDo, ↓retA_kS, ↓asIs_m, ↓asBs_m, ↓asSs_m, fSum, fMin, fMax, fAll, fAny, fSortI, fMin2, fMax2, fStr, ↓fIntS_i, ↓fIntS_b, ↓fIntS_s, oLcN, fSortST, fSortT, zSeqX, zIfX, zRaise, zTry, ↓bare_d, ↓bare_o, ↓bare_l, ↓bare_no, ↓bare_f, ↓bare_g, ↓bare_P, ↓bare_dic, uSee, bSee, uSeeA, bSeeA, zAl, zInsLL, zForAl, osNil, osCons, oDisp, zLLclr, zLLapp, oSortK, uIsE, oSplit, uLendT, S.f.injEq, eq_self, ↓fAddA_i, ↓fAddA_s, ↓fAddA_t, fRepT, oRg1, uChain, ↓slWL_d, ↓slWL_o, ↓slWL_l, ↓slWL_s, ↓seeL_n, ↓seeL_d, ↓seeL_s, uCallSL, zLLfor, gTL, iZpA, ↓as2_l, ↓as2_t, ↓isLL_l, zLLo, uLLix, zLLput, oRep, fJoin, uV2, fSortS, fSortP, oLLe, iZp, iEn, iRv, iRr1, ↓slW_d, ↓slW_o, ↓slW_P, ↓slW_s, ↓hasS_d, ↓hasS_o, ↓hasS_f, ↓hasS_s, uV, uN, u1, o1, o2, oN, ↓fIn_l, ↓fIn_s, fCat, ↓fList_l, ↓fList_t, ↓fTup_l, ↓fTup_t, ↓fInt1_i, ↓fInt1_b, ↓lstR_l, ↓lstR_P, zM1, zM0, fApp, ↓fExt_l, ↓fExt_t, fRev, fClr, zIns, uPop, uPopI, ↓slF_d, ↓slF_o, ↓slF_s, uVf, pNo, pSo, ↓fSl_s, ↓fSl_t, uSl, oSl, oSlN, ↓scal_n, ↓scal_b, ↓scal_i, ↓scal_s, ↓kS_d, ↓ret_S, ↓see_n, ↓see_d, ↓see_s, rV, uCallS, rNil, rD, rS, uCallA, oCallA, ↓toS_d, ↓toS_f, ↓toS_s, ↓slS_0, ↓slS_s, ↓retA_d, ↓retA_o, ↓retA_O, ↓backL_n, ↓backL_s, ↓backL_d, ↓backL_f, ↓lok_n, ↓lok_s, ↓lok_d, ↓lok_f, ↓lent_n, ↓lent_s, ↓lent_d, ↓lent_f, bYes, oLc, ↓clr_n, ↓clr_c, ↓clr2_n, ↓clr2_c, ↓rest_n, ↓rest_c, ↓keep1_d, ↓keep1_o, ↓keep1_f, ↓keep1_no, ↓keep1_s, ↓asLL_l, oLL0, zLLn, zLLa, uLLlen, List.mem_cons, List.not_mem_nil, Nat.reduceEqDiff, eqv_list, eqv_tuple, eqv_none, ↓asI_i, ↓asB_b, ↓asS_s, ↓asL_l, ↓asT_t, ↓slD_0, ↓slD_s, ↓slO_0, ↓slO_s, ↓asR_l, ↓fAdd_i, ↓fAdd_s, ↓ixbo_0, ↓ixbo_1, ↓ixbo_2, ↓ixbo_3, ↓ixD_l, ↓ixD_t, ↓ixD_s, ↓arg1_1, ↓arg2_2, ↓fLen1_l, ↓fLen1_t, ↓fLen1_s, ↓asC_c, ↓asQ_l, ↓asQ_t, ↓asQ_s, ↓kD_d, ↓kD_o, ↓kO_o, ↓fz_l, ↓fz_P, ↓fz_ll, ↓ret_d, ↓ret_o, ↓ret_O, ↓retL_d, ↓retL_o, ↓retL_O, ↓atD_0, ↓atD_1, ↓atD_2, ↓atD_3, ↓atD_b1, ↓atD_b2, ↓atD_b3, ↓ixP_30, ↓ixP_31, ↓ixP_32, ↓if_true, ↓if_false, zNext, zSet, zSetO, zDrop, zRet, zRetO, zRetP, zRetN, zIf, zPar, zAsg, zPut, gN, gsNil, gsCons, gT, uVar, uC, uFz, u2, fI, fI0, fEq, fLtD, uIxO, uOwn, uCB, oCB, fLen, fLenO, fAbs, wB, wNot, wAnd, wOr, uAnd, uOr, uNot, uIf, aNil, aCons, uTup, oLst, fIx, oVar, iSeq, iR1, iR2, uCall, oCall, uLend, oLend, shaped_iff, sh_non, sh_int, sh_bool, sh_str, eqv_int, eqv_str, eqv_bool, ixN_30, ixN_31, ixN_32, ixN_20, ixN_21, atI_0, atI_1, atI_2, atI_3, atI_b1, atI_b2, atI_b3, List.length_map, Int.reduceEq, forall_const, implies_true, and_assoc, sz_0, sz_1, sz_2, sz_3, sz_4, sz_5, sz_6, sz_7, sz_8, Bool.not_eq_true', beq_eq_false_iff_ne, beq_iff_eq, ne_eq, Bool.and_eq_true, Bool.or_eq_true, decide_eq_false_iff_not, not_false_eq_true, not_true_eq_false, Bool.not_true, Bool.not_false, isI_n, isI_b, isI_i, isI_s, isI_l, isI_t, isB_n, isB_b, isB_i, isB_s, isB_l, isB_t, isS_n, isS_b, isS_i, isS_s, isS_l, isS_t, isL_n, isL_b, isL_i, isL_s, isL_l, isL_t, isT_n, isT_b, isT_i, isT_s, isT_l, isT_t, isN_n, isN_b, isN_i, isN_s, isN_l, isN_t, ca_0, ca_1, ca_2, ca_3, ca_4, ca_5, ca_6, Int.reduceToNat, Int.toNat_natCast, Int.reducePow, Int.reduceMul, Int.reduceLT, Int.reduceLE, Int.reduceNeg, zFor,   List.replicate, List.length_cons, List.length_nil, List.nil_append, List.cons_append, List.append_nil, List.map_cons, List.map_nil, List.set_cons_zero, List.set_cons_succ, List.getElem?_cons_zero, List.getElem?_cons_succ, Option.some.injEq, S.d.injEq, S.o.injEq, Res.lst.injEq, Res.lstP.injEq, PyData.int.injEq, PyData.str.injEq, PyData.bool.injEq, PyData.list.injEq, PyData.tuple.injEq, List.cons.injEq, reduceCtorEq,   exists_eq_left', exists_eq_left, exists_eq_right, exists_eq_right', true_and, and_true, false_and, and_false, exists_false, false_or, or_false, exists_and_left, exists_and_right, exists_eq', exists_eq, exists_const, Bool.false_eq_true, ite_true, ite_false, decide_eq_true_eq, Nat.sub_self, Nat.zero_add, Nat.add_sub_cancel, Nat.reduceSub, Nat.reduceAdd])
theorem c_depths {P : Program} {w : World} {K : PySem.W.Frag} {mg : Str → Option Value} {base : Heap} (hb : Bi K mg) (D : Df K mg "depths" (topS 3) ["bore"]) (C_layers_of : Cal P w K mg base "layers_of" 1 ["bore"] T_layers_of) : Cal P w K mg base "depths" 2 ["bore"] T_depths := by
  obtain ⟨f, fd, F, hm, hB⟩ := D
  refine ⟨f, fd, fn_d (k := 1) F sc_depths ?hT (fun cdv A outer s H E hr => (q_cons (s_setO (j := 1) sc_depths.nd (o_lst a_nil))
 (q_cons (s_set (j := 2) sc_depths.nd d_int)
 (q_cons (s_for PassesOwn.never rfl (i_seq (d_fz (o_callC C_layers_of (hr.mono (by decide)) (a_cons (dv 0) a_nil)))) (g_tup (n := 2) rfl (gs_cons (g_name 3 sc_depths.nd) (gs_cons (g_name 4 sc_depths.nd) gs_nil)))
 (q_cons (s_app 1 (d_tup (a_cons (dv 2) (a_cons (d_add (dv 2) (dv 4)) a_nil))))
 (q_one (s_set (j := 2) sc_depths.nd (d_add (dv 2) (dv 4))))))
 (q_one (s_retO (o_var 1))))))), hm, F.kp, hB⟩
  case hT =>
    intro a Q h
    obtain ⟨b, rfl, hl, q⟩ := h
    refine ⟨rfl, ?_⟩
    have hsz := sizeLine_eq
    (repeat (refine seq_gen fun Nx hS => ?_; walk_at "st"; refine hS _ ?_; clear hS))
    (refine seq_gen fun Nx hS => ?_; walk_at "st")
    refine ⟨hl, ?_⟩
    refine loop_by (fun i c => ∃ (x3 x4 : S), c = [.d (boD b), .o none (.lst (dpsD b.lays i)), .d (.int (upN b.lays i)), x3, x4] ∧ i ≤ b.lays.length) ⟨_, _, rfl, Nat.zero_le _⟩ ?_ ?_
    · rintro i y c N hy ⟨x3, x4, rfl, hi⟩ hN
      obtain ⟨k, hk, rfl⟩ := map_get hy
      have hi2 := get_lt hk
      have e := upN_more hk
      unfold lyD
      simp only [↓asT_t, ↓asC_c, gT, gsCons, gsNil, gN, List.length_cons, List.length_nil, List.set_cons_zero, List.set_cons_succ, Nat.zero_add, Nat.reduceAdd, true_and]
      (try walk_at "wpt")
      rw [← e]
      refine ⟨by rw [dpsD_len]; omega, ?_⟩
      rw [dpsD_more]
      exact hN _ ⟨_, _, rfl, by omega⟩
    · rintro c ⟨x3, x4, rfl, hi⟩
      rw [List.length_map]
      (refine hS _ ?_; try clear hS; (repeat (refine seq_gen fun Nx hS => ?_; walk_at "st"; refine hS _ ?_; clear hS)))
      (try walk_at "wpt")
      exact q _

/-- how thick a bore is -/
def whN (b : Bo) : Int := (b.lays.map fun x => x.2).sum
def T_whole : TF := fun a Q => ∃ (b : Bo), a = [.d (boD b)] ∧ (b.lays.length ≤ 1000 ∧ ret Q (.d (.int (whN b))))
theorem TE_whole {b : Bo} {Q : S → Dl.Ctx → Prop} : T_whole [.d (boD b)] Q = (b.lays.length ≤ 1000 ∧ ret Q (.d (.int (whN b)))) := propext ⟨fun ⟨_, e_, q_⟩ => by
  simp only [and_assoc, List.cons.injEq, S.d.injEq, S.o.injEq, Option.some.injEq, Res.lst.injEq, Res.lstP.injEq, Res.lls.injEq, PyData.int.injEq, PyData.str.injEq, PyData.bool.injEq, PyData.list.injEq, PyData.tuple.injEq, and_true, true_and, Int.natCast_inj, strs_iff, ints_iff, lys_iff, bls_iff, boD_iff, bos_iff, pps_iff, shs_iff, onD_iff] at e_
  repeat (obtain ⟨_, e_⟩ := e_)
  subst_vars
  exact q_, fun q_ => ⟨_, rfl, q_⟩⟩
theorem sc_whole : FnScope ["bore", "layer"] ["bore"] (defScope (topS 4)) := ⟨rfl, rfl, rfl, by decide +kernel, rfl, by decide +kernel, by decide +kernel⟩
local macro_rules | `(tactic| walk_at "wpt") => `(tactic| simp (maxSteps := 1000000) only [↓TE_layers_of, ↓reduceIte, ↓retA_kO, ↓retA_kD, ↓retA_kDo, ↓retA_kS, ↓asIs_m, ↓asBs_m, ↓asSs_m, fSum, fMin, fMax, fAll, fAny, fSortI, fMin2, fMax2, fStr, ↓fIntS_i, ↓fIntS_b, ↓fIntS_s, oLcN, fSortST, fSortT, zSeqX, zIfX, zRaise, zTry, ↓bare_d, ↓bare_o, ↓bare_l, ↓bare_no, ↓bare_f, ↓bare_g, ↓bare_P, ↓bare_dic, uSee, bSee, uSeeA, bSeeA, zAl, zInsLL, zForAl, osNil, osCons, oDisp, zLLclr, zLLapp, oSortK, uIsE, oSplit, uLendT, S.f.injEq, eq_self, ↓fAddA_i, ↓fAddA_s, ↓fAddA_t, fRepT, oRg1, uChain, ↓slWL_d, ↓slWL_o, ↓slWL_l, ↓slWL_s, ↓seeL_n, ↓seeL_d, ↓seeL_s, uCallSL, zLLfor, gTL, iZpA, ↓as2_l, ↓as2_t, ↓isLL_l, zLLo, uLLix, zLLput, oRep, fJoin, uV2, fSortS, fSortP, oLLe, iZp, iEn, iRv, iRr1, ↓slW_d, ↓slW_o, ↓slW_P, ↓slW_s, ↓hasS_d, ↓hasS_o, ↓hasS_f, ↓hasS_s, uV, uN, u1, o1, o2, oN, ↓fIn_l, ↓fIn_s, fCat, ↓fList_l, ↓fList_t, ↓fTup_l, ↓fTup_t, ↓fInt1_i, ↓fInt1_b, ↓lstR_l, ↓lstR_P, zM1, zM0, fApp, ↓fExt_l, ↓fExt_t, fRev, fClr, zIns, uPop, uPopI, ↓slF_d, ↓slF_o, ↓slF_s, uVf, pNo, pSo, ↓fSl_s, ↓fSl_t, uSl, oSl, oSlN, ↓scal_n, ↓scal_b, ↓scal_i, ↓scal_s, ↓kS_d, ↓ret_S, ↓see_n, ↓see_d, ↓see_s, rV, uCallS, rNil, rD, rS, uCallA, oCallA, ↓toS_d, ↓toS_f, ↓toS_s, ↓slS_0, ↓slS_s, ↓retA_d, ↓retA_o, ↓retA_O, ↓backL_n, ↓backL_s, ↓backL_d, ↓backL_f, ↓lok_n, ↓lok_s, ↓lok_d, ↓lok_f, ↓lent_n, ↓lent_s, ↓lent_d, ↓lent_f, bYes, oLc, ↓clr_n, ↓clr_c, ↓clr2_n, ↓clr2_c, ↓rest_n, ↓rest_c, ↓keep1_d, ↓keep1_o, ↓keep1_f, ↓keep1_no, ↓keep1_s, ↓asLL_l, oLL0, zLLn, zLLa, uLLlen, List.mem_cons, List.not_mem_nil, Nat.reduceEqDiff, eqv_list, eqv_tuple, eqv_none, ↓asI_i, ↓asB_b, ↓asS_s, ↓asL_l, ↓asT_t, ↓slD_0, ↓slD_s, ↓slO_0, ↓slO_s, ↓asR_l, ↓fAdd_i, ↓fAdd_s, ↓ixbo_0, ↓ixbo_1, ↓ixbo_2, ↓ixbo_3, ↓ixD_l, ↓ixD_t, ↓ixD_s, ↓arg1_1, ↓arg2_2, ↓fLen1_l, ↓fLen1_t, ↓fLen1_s, ↓asC_c, ↓asQ_l, ↓asQ_t, ↓asQ_s, ↓kD_d, ↓kD_o, ↓kO_o, ↓fz_l, ↓fz_P, ↓fz_ll, ↓ret_d, ↓ret_o, ↓ret_O, ↓retL_d, ↓retL_o, ↓retL_O, ↓atD_0, ↓atD_1, ↓atD_2, ↓atD_3, ↓atD_b1, ↓atD_b2, ↓atD_b3, ↓ixP_30, ↓ixP_31, ↓ixP_32, ↓if_true, ↓if_false, zNext, zSeq, zSet, zSetO, zDrop, zRet, zRetO, zRetP, zRetN, zIf, zPar, zAsg, zPut, gN, gsNil, gsCons, gT, uVar, uC, uFz, u2, fI, fI0, fEq, fLtD, uIxO, uOwn, uCB, oCB, fLen, fLenO, fAbs, wB, wNot, wAnd, wOr, uAnd, uOr, uNot, uIf, aNil, aCons, uTup, oLst, fIx, oVar, iSeq, iR1, iR2, uCall, oCall, uLend, oLend, shaped_iff, sh_non, sh_int, sh_bool, sh_str, eqv_int, eqv_str, eqv_bool, ixN_30, ixN_31, ixN_32, ixN_20, ixN_21, atI_0, atI_1, atI_2, atI_3, atI_b1, atI_b2, atI_b3, List.length_map, Int.reduceEq, forall_const, implies_true, and_assoc, sz_0, sz_1, sz_2, sz_3, sz_4, sz_5, sz_6, sz_7, sz_8, Bool.not_eq_true', beq_eq_false_iff_ne, beq_iff_eq, ne_eq, Bool.and_eq_true, Bool.or_eq_true, decide_eq_false_iff_not, not_false_eq_true, not_true_eq_false, Bool.not_true, Bool.not_false, isI_n, isI_b, isI_i, isI_s, isI_l, isI_t, isB_n, isB_b, isB_i, isB_s, isB_l, isB_t, isS_n, isS_b, isS_i, isS_s, isS_l, isS_t, isL_n, isL_b, isL_i, isL_s, isL_l, isL_t, isT_n, isT_b, isT_i, isT_s, isT_l, isT_t, isN_n, isN_b, isN_i, isN_s, isN_l, isN_t, ca_0, ca_1, ca_2, ca_3, ca_4, ca_5, ca_6, Int.reduceToNat, Int.toNat_natCast, Int.reducePow, Int.reduceMul, Int.reduceLT, Int.reduceLE, Int.reduceNeg, zFor,   List.replicate, List.length_cons, List.length_nil, List.nil_append, List.cons_append, List.append_nil, List.map_cons, List.map_nil, List.set_cons_zero, List.set_cons_succ, List.getElem?_cons_zero, List.getElem?_cons_succ, Option.some.injEq, S.d.injEq, S.o.injEq, Res.lst.injEq, Res.lstP.injEq, PyData.int.injEq, PyData.str.injEq, PyData.bool.injEq, PyData.list.injEq, PyData.tuple.injEq, List.cons.injEq, reduceCtorEq,   exists_eq_left', exists_eq_left, exists_eq_right, exists_eq_right', true_and, and_true, false_and, and_false, exists_false, false_or, or_false, exists_and_left, exists_and_right, exists_eq', exists_eq, exists_const, Bool.false_eq_true, ite_true, ite_false, decide_eq_true_eq, Nat.sub_self, Nat.zero_add, Nat.add_sub_cancel, Nat.reduceSub, Nat.reduceAdd])
local macro_rules | `(tactic| walk_at "st") => `(tactic| simp (maxSteps := 1000000) only [↓TE_layers_of, ↓reduceIte, ↓retA_kO, ↓retA_kD, ↓retA_kDo, ↓retA_kS, ↓asIs_m, ↓asBs_m, ↓asSs_m, fSum, fMin, fMax, fAll, fAny, fSortI, fMin2, fMax2, fStr, ↓fIntS_i, ↓fIntS_b, ↓fIntS_s, oLcN, fSortST, fSortT, zSeqX, zIfX, zRaise, zTry, ↓bare_d, ↓bare_o, ↓bare_l, ↓bare_no, ↓bare_f, ↓bare_g, ↓bare_P, ↓bare_dic, uSee, bSee, uSeeA, bSeeA, zAl, zInsLL, zForAl, osNil, osCons, oDisp, zLLclr, zLLapp, oSortK, uIsE, oSplit, uLendT, S.f.injEq, eq_self, ↓fAddA_i, ↓fAddA_s, ↓fAddA_t, fRepT, oRg1, uChain, ↓slWL_d, ↓slWL_o, ↓slWL_l, ↓slWL_s, ↓seeL_n, ↓seeL_d, ↓seeL_s, uCallSL, zLLfor, gTL, iZpA, ↓as2_l, ↓as2_t, ↓isLL_l, zLLo, uLLix, zLLput, oRep, fJoin, uV2, fSortS, fSortP, oLLe, iZp, iEn, iRv, iRr1, ↓slW_d, ↓slW_o, ↓slW_P, ↓slW_s, ↓hasS_d, ↓hasS_o, ↓hasS_f, ↓hasS_s, uV, uN, u1, o1, o2, oN, ↓fIn_l, ↓fIn_s, fCat, ↓fList_l, ↓fList_t, ↓fTup_l, ↓fTup_t, ↓fInt1_i, ↓fInt1_b, ↓lstR_l, ↓lstR_P, zM1, zM0, fApp, ↓fExt_l, ↓fExt_t, fRev, fClr, zIns, uPop, uPopI, ↓slF_d, ↓slF_o, ↓slF_s, uVf, pNo, pSo, ↓fSl_s, ↓fSl_t, uSl, oSl, oSlN, ↓scal_n, ↓scal_b, ↓scal_i, ↓scal_s, ↓kS_d, ↓ret_S, ↓see_n, ↓see_d, ↓see_s, rV, uCallS, rNil, rD, rS, uCallA, oCallA, ↓toS_d, ↓toS_f, ↓toS_s, ↓slS_0, ↓slS_s, ↓retA_d, ↓retA_o, ↓retA_O, ↓backL_n, ↓backL_s, ↓backL_d, ↓backL_f, ↓lok_n, ↓lok_s, ↓lok_d, ↓lok_f, ↓lent_n, ↓lent_s, ↓lent_d, ↓lent_f, bYes, oLc, ↓clr_n, ↓clr_c, ↓clr2_n, ↓clr2_c, ↓rest_n, ↓rest_c, ↓keep1_d, ↓keep1_o, ↓keep1_f, ↓keep1_no, ↓keep1_s, ↓asLL_l, oLL0, zLLn, zLLa, uLLlen, List.mem_cons, List.not_mem_nil, Nat.reduceEqDiff, eqv_list, eqv_tuple, eqv_none, ↓asI_i, ↓asB_b, ↓asS_s, ↓asL_l, ↓asT_t, ↓slD_0, ↓slD_s, ↓slO_0, ↓slO_s, ↓asR_l, ↓fAdd_i, ↓fAdd_s, ↓ixbo_0, ↓ixbo_1, ↓ixbo_2, ↓ixbo_3, ↓ixD_l, ↓ixD_t, ↓ixD_s, ↓arg1_1, ↓arg2_2, ↓fLen1_l, ↓fLen1_t, ↓fLen1_s, ↓asC_c, ↓asQ_l, ↓asQ_t, ↓asQ_s, ↓kD_d, ↓kD_o, ↓kO_o, ↓fz_l, ↓fz_P, ↓fz_ll, ↓ret_d, ↓ret_o, ↓ret_O, ↓retL_d, ↓retL_o, ↓retL_O, ↓atD_0, ↓atD_1, ↓atD_2, ↓atD_3, ↓atD_b1, ↓atD_b2, ↓atD_b3, ↓ixP_30, ↓ixP_31, ↓ixP_32, ↓if_true, ↓if_false, zNext, zSet, zSetO, zDrop, zRet, zRetO, zRetP, zRetN, zIf, zPar, zAsg, zPut, gN, gsNil, gsCons, gT, uVar, uC, uFz, u2, fI, fI0, fEq, fLtD, uIxO, uOwn, uCB, oCB, fLen, fLenO, fAbs, wB, wNot, wAnd, wOr, uAnd, uOr, uNot, uIf, aNil, aCons, uTup, oLst, fIx, oVar, iSeq, iR1, iR2, uCall, oCall, uLend, oLend, shaped_iff, sh_non, sh_int, sh_bool, sh_str, eqv_int, eqv_str, eqv_bool, ixN_30, ixN_31, ixN_32, ixN_20, ixN_21, atI_0, atI_1, atI_2, atI_3, atI_b1, atI_b2, atI_b3, List.length_map, Int.reduceEq, forall_const, implies_true, and_assoc, sz_0, sz_1, sz_2, sz_3, sz_4, sz_5, sz_6, sz_7, sz_8, Bool.not_eq_true', beq_eq_false_iff_ne, beq_iff_eq, ne_eq, Bool.and_eq_true, Bool.or_eq_true, decide_eq_false_iff_not, not_false_eq_true, not_true_eq_false, Bool.not_true, Bool.not_false, isI_n, isI_b, isI_i, isI_s, isI_l, isI_t, isB_n, isB_b, isB_i, isB_s, isB_l, isB_t, isS_n, isS_b, isS_i, isS_s, isS_l, isS_t, isL_n, isL_b, isL_i, isL_s, isL_l, isL_t, isT_n, isT_b, isT_i, isT_s, isT_l, isT_t, isN_n, isN_b, isN_i, isN_s, isN_l, isN_t, ca_0, ca_1, ca_2, ca_3, ca_4, ca_5, ca_6, Int.reduceToNat, Int.toNat_natCast, Int.reducePow, Int.reduceMul, Int.reduceLT, Int.reduceLE, Int.reduceNeg, zFor,   List.replicate, List.length_cons, List.length_nil, List.nil_append, List.cons_append, List.append_nil, List.map_cons, List.map_nil, List.set_cons_zero, List.set_cons_succ, List.getElem?_cons_zero, List.getElem?_cons_succ, Option.some.injEq, S.d.injEq, S.o.injEq, Res.lst.injEq, Res.lstP.injEq, PyData.int.injEq, PyData.str.injEq, PyData.bool.injEq, PyData.list.injEq, PyData.tuple.injEq, List.cons.injEq, reduceCtorEq,   exists_eq_left', exists_eq_left, exists_eq_right, exists_eq_right', true_and, and_true, false_and, and_false, exists_false, false_or, or_false, exists_and_left, exists_and_right, exists_eq', exists_eq, exists_const, Bool.false_eq_true, ite_true, ite_false, decide_eq_true_eq, Nat.sub_self, Nat.zero_add, Nat.add_sub_cancel, Nat.reduceSub, Nat.reduceAdd])
theorem c_whole {P : Program} {w : World} {K : PySem.W.Frag} {mg : Str → Option Value} {base : Heap} (hb : Bi K mg) (D : Df K mg "whole" (topS 4) ["bore"]) (C_layers_of : Cal P w K mg base "layers_of" 1 ["bore"] T_layers_of) : Cal P w K mg base "whole" 2 ["bore"] T_whole := by
  obtain ⟨f, fd, F, hm, hB⟩ := D
  refine ⟨f, fd, fn_d (k := 1) F sc_whole ?hT (fun cdv A outer s H E hr => (q_one (s_ret (d_sum rfl hb.sum (DE.dv (d_fz (o_lc [("layer", 1)] rfl sc_whole.nd (i_seq (d_fz (o_callC C_layers_of (hr.mono (by decide)) (a_cons (dv 0) a_nil)))) (by show blkC ["bore", "layer"] (defScope (topS 4)) _ _ = true; decide +kernel) (fun _ _ _ _ _ => (g_name 1 sc_whole.nd)) (fun _ _ _ _ _ => b_yes) (fun _ _ _ _ _ => (d_ixN 1 (fun _ _ => rfl) d_int)) (by decide)))))))), hm, F.kp, hB⟩
  case hT =>
    intro a Q h
    obtain ⟨b, rfl, hl, q⟩ := h
    refine ⟨rfl, ?_⟩
    (try walk_at "wpt")
    refine ⟨hl, ?_⟩
    refine comp_mm (fun x => .int x.2) (by (have := sizeLine_eq; omega)) (fun x hx N hN => ?_) ?_
    · unfold lyD
      (try walk_at "wpt")
      exact hN _ rfl
    (try walk_at "wpt")
    rw [asIs_f]
    exact q _

def T_place_of : TF := fun a Q => ∃ (b : Bo), a = [.d (boD b)] ∧ (ret Q (.d (.int b.at_)))
theorem TE_place_of {b : Bo} {Q : S → Dl.Ctx → Prop} : T_place_of [.d (boD b)] Q = (ret Q (.d (.int b.at_))) := propext ⟨fun ⟨_, e_, q_⟩ => by
  simp only [and_assoc, List.cons.injEq, S.d.injEq, S.o.injEq, Option.some.injEq, Res.lst.injEq, Res.lstP.injEq, Res.lls.injEq, PyData.int.injEq, PyData.str.injEq, PyData.bool.injEq, PyData.list.injEq, PyData.tuple.injEq, and_true, true_and, Int.natCast_inj, strs_iff, ints_iff, lys_iff, bls_iff, boD_iff, bos_iff, pps_iff, shs_iff, onD_iff] at e_
  repeat (obtain ⟨_, e_⟩ := e_)
  subst_vars
  exact q_, fun q_ => ⟨_, rfl, q_⟩⟩
theorem sc_place_of : FnScope ["bore"] ["bore"] (defScope (topS 5)) := ⟨rfl, rfl, rfl, by decide +kernel, rfl, by decide +kernel, by decide +kernel⟩
local macro_rules | `(tactic| walk_at "wpt") => `(tactic| simp (maxSteps := 1000000) only [↓reduceIte, ↓retA_kO, ↓retA_kD, ↓retA_kDo, ↓retA_kS, ↓asIs_m, ↓asBs_m, ↓asSs_m, fSum, fMin, fMax, fAll, fAny, fSortI, fMin2, fMax2, fStr, ↓fIntS_i, ↓fIntS_b, ↓fIntS_s, oLcN, fSortST, fSortT, zSeqX, zIfX, zRaise, zTry, ↓bare_d, ↓bare_o, ↓bare_l, ↓bare_no, ↓bare_f, ↓bare_g, ↓bare_P, ↓bare_dic, uSee, bSee, uSeeA, bSeeA, zAl, zInsLL, zForAl, osNil, osCons, oDisp, zLLclr, zLLapp, oSortK, uIsE, oSplit, uLendT, S.f.injEq, eq_self, ↓fAddA_i, ↓fAddA_s, ↓fAddA_t, fRepT, oRg1, uChain, ↓slWL_d, ↓slWL_o, ↓slWL_l, ↓slWL_s, ↓seeL_n, ↓seeL_d, ↓seeL_s, uCallSL, zLLfor, gTL, iZpA, ↓as2_l, ↓as2_t, ↓isLL_l, zLLo, uLLix, zLLput, oRep, fJoin, uV2, fSortS, fSortP, oLLe, iZp, iEn, iRv, iRr1, ↓slW_d, ↓slW_o, ↓slW_P, ↓slW_s, ↓hasS_d, ↓hasS_o, ↓hasS_f, ↓hasS_s, uV, uN, u1, o1, o2, oN, ↓fIn_l, ↓fIn_s, fCat, ↓fList_l, ↓fList_t, ↓fTup_l, ↓fTup_t, ↓fInt1_i, ↓fInt1_b, ↓lstR_l, ↓lstR_P, zM1, zM0, fApp, ↓fExt_l, ↓fExt_t, fRev, fClr, zIns, uPop, uPopI, ↓slF_d, ↓slF_o, ↓slF_s, uVf, pNo, pSo, ↓fSl_s, ↓fSl_t, uSl, oSl, oSlN, ↓scal_n, ↓scal_b, ↓scal_i, ↓scal_s, ↓kS_d, ↓ret_S, ↓see_n, ↓see_d, ↓see_s, rV, uCallS, rNil, rD, rS, uCallA, oCallA, ↓toS_d, ↓toS_f, ↓toS_s, ↓slS_0, ↓slS_s, ↓retA_d, ↓retA_o, ↓retA_O, ↓backL_n, ↓backL_s, ↓backL_d, ↓backL_f, ↓lok_n, ↓lok_s, ↓lok_d, ↓lok_f, ↓lent_n, ↓lent_s, ↓lent_d, ↓lent_f, bYes, oLc, ↓clr_n, ↓clr_c, ↓clr2_n, ↓clr2_c, ↓rest_n, ↓rest_c, ↓keep1_d, ↓keep1_o, ↓keep1_f, ↓keep1_no, ↓keep1_s, ↓asLL_l, oLL0, zLLn, zLLa, uLLlen, List.mem_cons, List.not_mem_nil, Nat.reduceEqDiff, eqv_list, eqv_tuple, eqv_none, ↓asI_i, ↓asB_b, ↓asS_s, ↓asL_l, ↓asT_t, ↓slD_0, ↓slD_s, ↓slO_0, ↓slO_s, ↓asR_l, ↓fAdd_i, ↓fAdd_s, ↓ixbo_0, ↓ixbo_1, ↓ixbo_2, ↓ixbo_3, ↓ixD_l, ↓ixD_t, ↓ixD_s, ↓arg1_1, ↓arg2_2, ↓fLen1_l, ↓fLen1_t, ↓fLen1_s, ↓asC_c, ↓asQ_l, ↓asQ_t, ↓asQ_s, ↓kD_d, ↓kD_o, ↓kO_o, ↓fz_l, ↓fz_P, ↓fz_ll, ↓ret_d, ↓ret_o, ↓ret_O, ↓retL_d, ↓retL_o, ↓retL_O, ↓atD_0, ↓atD_1, ↓atD_2, ↓atD_3, ↓atD_b1, ↓atD_b2, ↓atD_b3, ↓ixP_30, ↓ixP_31, ↓ixP_32, ↓if_true, ↓if_false, zNext, zSeq, zSet, zSetO, zDrop, zRet, zRetO, zRetP, zRetN, zIf, zPar, zAsg, zPut, gN, gsNil, gsCons, gT, uVar, uC, uFz, u2, fI, fI0, fEq, fLtD, uIxO, uOwn, uCB, oCB, fLen, fLenO, fAbs, wB, wNot, wAnd, wOr, uAnd, uOr, uNot, uIf, aNil, aCons, uTup, oLst, fIx, oVar, iSeq, iR1, iR2, uCall, oCall, uLend, oLend, shaped_iff, sh_non, sh_int, sh_bool, sh_str, eqv_int, eqv_str, eqv_bool, ixN_30, ixN_31, ixN_32, ixN_20, ixN_21, atI_0, atI_1, atI_2, atI_3, atI_b1, atI_b2, atI_b3, List.length_map, Int.reduceEq, forall_const, implies_true, and_assoc, sz_0, sz_1, sz_2, sz_3, sz_4, sz_5, sz_6, sz_7, sz_8, Bool.not_eq_true', beq_eq_false_iff_ne, beq_iff_eq, ne_eq, Bool.and_eq_true, Bool.or_eq_true, decide_eq_false_iff_not, not_false_eq_true, not_true_eq_false, Bool.not_true, Bool.not_false, isI_n, isI_b, isI_i, isI_s, isI_l, isI_t, isB_n, isB_b, isB_i, isB_s, isB_l, isB_t, isS_n, isS_b, isS_i, isS_s, isS_l, isS_t, isL_n, isL_b, isL_i, isL_s, isL_l, isL_t, isT_n, isT_b, isT_i, isT_s, isT_l, isT_t, isN_n, isN_b, isN_i, isN_s, isN_l, isN_t, ca_0, ca_1, ca_2, ca_3, ca_4, ca_5, ca_6, Int.reduceToNat, Int.toNat_natCast, Int.reducePow, Int.reduceMul, Int.reduceLT, Int.reduceLE, Int.reduceNeg, zFor,   List.replicate, List.length_cons, List.length_nil, List.nil_append, List.cons_append, List.append_nil, List.map_cons, List.map_nil, List.set_cons_zero, List.set_cons_succ, List.getElem?_cons_zero, List.getElem?_cons_succ, Option.some.injEq, S.d.injEq, S.o.injEq, Res.lst.injEq, Res.lstP.injEq, PyData.int.injEq, PyData.str.injEq, PyData.bool.injEq, PyData.list.injEq, PyData.tuple.injEq, List.cons.injEq, reduceCtorEq,   exists_eq_left', exists_eq_left, exists_eq_right, exists_eq_right', true_and, and_true, false_and, and_false, exists_false, false_or, or_false, exists_and_left, exists_and_right, exists_eq', exists_eq, exists_const, Bool.false_eq_true, ite_true, ite_false, decide_eq_true_eq, Nat.sub_self, Nat.zero_add, Nat.add_sub_cancel, Nat.reduceSub, Nat.reduceAdd])
local macro_rules | `(tactic| walk_at "st") => `(tactic| simp (maxSteps := 1000000) only [true_and, ↓reduceIte, ↓retA_kO, ↓retA_kD, ↓retA_kDo, ↓retA_kS, ↓asIs_m, ↓asBs_m, ↓asSs_m, fSum, fMin, fMax, fAll, fAny, fSortI, fMin2, fMax2, fStr, ↓fIntS_i, ↓fIntS_b, ↓fIntS_s, oLcN, fSortST, fSortT, zSeqX, zIfX, zRaise, zTry, ↓bare_d, ↓bare_o, ↓bare_l, ↓bare_no, ↓bare_f, ↓bare_g, ↓bare_P, ↓bare_dic, uSee, bSee, uSeeA, bSeeA, zAl, zInsLL, zForAl, osNil, osCons, oDisp, zLLclr, zLLapp, oSortK, uIsE, oSplit, uLendT, S.f.injEq, eq_self, ↓fAddA_i, ↓fAddA_s, ↓fAddA_t, fRepT, oRg1, uChain, ↓slWL_d, ↓slWL_o, ↓slWL_l, ↓slWL_s, ↓seeL_n, ↓seeL_d, ↓seeL_s, uCallSL, zLLfor, gTL, iZpA, ↓as2_l, ↓as2_t, ↓isLL_l, zLLo, uLLix, zLLput, oRep, fJoin, uV2, fSortS, fSortP, oLLe, iZp, iEn, iRv, iRr1, ↓slW_d, ↓slW_o, ↓slW_P, ↓slW_s, ↓hasS_d, ↓hasS_o, ↓hasS_f, ↓hasS_s, uV, uN, u1, o1, o2, oN, ↓fIn_l, ↓fIn_s, fCat, ↓fList_l, ↓fList_t, ↓fTup_l, ↓fTup_t, ↓fInt1_i, ↓fInt1_b, ↓lstR_l, ↓lstR_P, zM1, zM0, fApp, ↓fExt_l, ↓fExt_t, fRev, fClr, zIns, uPop, uPopI, ↓slF_d, ↓slF_o, ↓slF_s, uVf, pNo, pSo, ↓fSl_s, ↓fSl_t, uSl, oSl, oSlN, ↓scal_n, ↓scal_b, ↓scal_i, ↓scal_s, ↓kS_d, ↓ret_S, ↓see_n, ↓see_d, ↓see_s, rV, uCallS, rNil, rD, rS, uCallA, oCallA, ↓toS_d, ↓toS_f, ↓toS_s, ↓slS_0, ↓slS_s, ↓retA_d, ↓retA_o, ↓retA_O, ↓backL_n, ↓backL_s, ↓backL_d, ↓backL_f, ↓lok_n, ↓lok_s, ↓lok_d, ↓lok_f, ↓lent_n, ↓lent_s, ↓lent_d, ↓lent_f, bYes, oLc, ↓clr_n, ↓clr_c, ↓clr2_n, ↓clr2_c, ↓rest_n, ↓rest_c, ↓keep1_d, ↓keep1_o, ↓keep1_f, ↓keep1_no, ↓keep1_s, ↓asLL_l, oLL0, zLLn, zLLa, uLLlen, List.mem_cons, List.not_mem_nil, Nat.reduceEqDiff, eqv_list, eqv_tuple, eqv_none, ↓asI_i, ↓asB_b, ↓asS_s, ↓asL_l, ↓asT_t, ↓slD_0, ↓slD_s, ↓slO_0, ↓slO_s, ↓asR_l, ↓fAdd_i, ↓fAdd_s, ↓ixbo_0, ↓ixbo_1, ↓ixbo_2, ↓ixbo_3, ↓ixD_l, ↓ixD_t, ↓ixD_s, ↓arg1_1, ↓arg2_2, ↓fLen1_l, ↓fLen1_t, ↓fLen1_s, ↓asC_c, ↓asQ_l, ↓asQ_t, ↓asQ_s, ↓kD_d, ↓kD_o, ↓kO_o, ↓fz_l, ↓fz_P, ↓fz_ll, ↓ret_d, ↓ret_o, ↓ret_O, ↓retL_d, ↓retL_o, ↓retL_O, ↓atD_0, ↓atD_1, ↓atD_2, ↓atD_3, ↓atD_b1, ↓atD_b2, ↓atD_b3, ↓ixP_30, ↓ixP_31, ↓ixP_32, ↓if_true, ↓if_false, zNext, zSet, zSetO, zDrop, zRet, zRetO, zRetP, zRetN, zIf, zPar, zAsg, zPut, gN, gsNil, gsCons, gT, uVar, uC, uFz, u2, fI, fI0, fEq, fLtD, uIxO, uOwn, uCB, oCB, fLen, fLenO, fAbs, wB, wNot, wAnd, wOr, uAnd, uOr, uNot, uIf, aNil, aCons, uTup, oLst, fIx, oVar, iSeq, iR1, iR2, uCall, oCall, uLend, oLend, shaped_iff, sh_non, sh_int, sh_bool, sh_str, eqv_int, eqv_str, eqv_bool, ixN_30, ixN_31, ixN_32, ixN_20, ixN_21, atI_0, atI_1, atI_2, atI_3, atI_b1, atI_b2, atI_b3, List.length_map, Int.reduceEq, forall_const, implies_true, and_assoc, sz_0, sz_1, sz_2, sz_3, sz_4, sz_5, sz_6, sz_7, sz_8, Bool.not_eq_true', beq_eq_false_iff_ne, beq_iff_eq, ne_eq, Bool.and_eq_true, Bool.or_eq_true, decide_eq_false_iff_not, not_false_eq_true, not_true_eq_false, Bool.not_true, Bool.not_false, isI_n, isI_b, isI_i, isI_s, isI_l, isI_t, isB_n, isB_b, isB_i, isB_s, isB_l, isB_t, isS_n, isS_b, isS_i, isS_s, isS_l, isS_t, isL_n, isL_b, isL_i, isL_s, isL_l, isL_t, isT_n, isT_b, isT_i, isT_s, isT_l, isT_t, isN_n, isN_b, isN_i, isN_s, isN_l, isN_t, ca_0, ca_1, ca_2, ca_3, ca_4, ca_5, ca_6, Int.reduceToNat, Int.toNat_natCast, Int.reducePow, Int.reduceMul, Int.reduceLT, Int.reduceLE, Int.reduceNeg, zFor,   List.replicate, List.length_cons, List.length_nil, List.nil_append, List.cons_append, List.append_nil, List.map_cons, List.map_nil, List.set_cons_zero, List.set_cons_succ, List.getElem?_cons_zero, List.getElem?_cons_succ, Option.some.injEq, S.d.injEq, S.o.injEq, Res.lst.injEq, Res.lstP.injEq, PyData.int.injEq, PyData.str.injEq, PyData.bool.injEq, PyData.list.injEq, PyData.tuple.injEq, List.cons.injEq, reduceCtorEq,   exists_eq_left', exists_eq_left, exists_eq_right, exists_eq_right', true_and, and_true, false_and, and_false, exists_false, false_or, or_false, exists_and_left, exists_and_right, exists_eq', exists_eq, exists_const, Bool.false_eq_true, ite_true, ite_false, decide_eq_true_eq, Nat.sub_self, Nat.zero_add, Nat.add_sub_cancel, Nat.reduceSub, Nat.reduceAdd])
theorem c_place_of {P : Program} {w : World} {K : PySem.W.Frag} {mg : Str → Option Value} {base : Heap} (hb : Bi K mg) (D : Df K mg "place_of" (topS 5) ["bore"])  : Cal P w K mg base "place_of" 1 ["bore"] T_place_of := by
  obtain ⟨f, fd, F, hm, hB⟩ := D
  refine ⟨f, fd, fn_d (k := 0) F sc_place_of ?hT (fun cdv A outer s H E hr => (q_one (s_ret (d_ixN 0 (fun _ _ => rfl) d_int)))), hm, F.kp, hB⟩
  case hT =>
    intro a Q h
    obtain ⟨b, rfl, q⟩ := h
    refine ⟨rfl, ?_⟩
    unfold boD
    (try walk_at "wpt")
    exact q _

def atK : PyData → Int
  | .tuple (_ :: .int i :: _) => i
  | _ => 0
theorem atK_bo {b : Bo} : atK (boD b) = b.at_ := rfl
/-- the bores by place -/
def byP (bs : List Bo) : List Bo := bs.mergeSort fun a b => decide (a.at_ ≤ b.at_)
theorem byP_map {bs : List Bo} : (bs.map boD).mergeSort (fun a b => decide (atK a ≤ atK b)) = (byP bs).map boD := by
  unfold byP
  rw [List.map_mergeSort]
  intro a _ b _
  rfl
def T_by_place : TF := fun a Q => ∃ (bs : List Bo) (x : PyData), a = [.d (.tuple [.tuple (bs.map boD), x])] ∧ (ret Q (.o none (.lst ((byP bs).map boD))))
theorem TE_by_place {bs : List Bo} {x : PyData} {Q : S → Dl.Ctx → Prop} : T_by_place [.d (.tuple [.tuple (bs.map boD), x])] Q = (ret Q (.o none (.lst ((byP bs).map boD)))) := propext ⟨fun ⟨_, _, e_, q_⟩ => by
  simp only [and_assoc, List.cons.injEq, S.d.injEq, S.o.injEq, Option.some.injEq, Res.lst.injEq, Res.lstP.injEq, Res.lls.injEq, PyData.int.injEq, PyData.str.injEq, PyData.bool.injEq, PyData.list.injEq, PyData.tuple.injEq, and_true, true_and, Int.natCast_inj, strs_iff, ints_iff, lys_iff, bls_iff, boD_iff, bos_iff, pps_iff, shs_iff, onD_iff] at e_
  repeat (obtain ⟨_, e_⟩ := e_)
  subst_vars
  exact q_, fun q_ => ⟨_, _, rfl, q_⟩⟩
theorem sc_by_place : FnScope ["field"] ["field"] (defScope (topS 6)) := ⟨rfl, rfl, rfl, by decide +kernel, rfl, by decide +kernel, by decide +kernel⟩
local macro_rules | `(tactic| walk_at "wpt") => `(tactic| simp (maxSteps := 1000000) only [↓TE_place_of, ↓reduceIte, ↓retA_kO, ↓retA_kD, ↓retA_kDo, ↓retA_kS, ↓asIs_m, ↓asBs_m, ↓asSs_m, fSum, fMin, fMax, fAll, fAny, fSortI, fMin2, fMax2, fStr, ↓fIntS_i, ↓fIntS_b, ↓fIntS_s, oLcN, fSortST, fSortT, zSeqX, zIfX, zRaise, zTry, ↓bare_d, ↓bare_o, ↓bare_l, ↓bare_no, ↓bare_f, ↓bare_g, ↓bare_P, ↓bare_dic, uSee, bSee, uSeeA, bSeeA, zAl, zInsLL, zForAl, osNil, osCons, oDisp, zLLclr, zLLapp, oSortK, uIsE, oSplit, uLendT, S.f.injEq, eq_self, ↓fAddA_i, ↓fAddA_s, ↓fAddA_t, fRepT, oRg1, uChain, ↓slWL_d, ↓slWL_o, ↓slWL_l, ↓slWL_s, ↓seeL_n, ↓seeL_d, ↓seeL_s, uCallSL, zLLfor, gTL, iZpA, ↓as2_l, ↓as2_t, ↓isLL_l, zLLo, uLLix, zLLput, oRep, fJoin, uV2, fSortS, fSortP, oLLe, iZp, iEn, iRv, iRr1, ↓slW_d, ↓slW_o, ↓slW_P, ↓slW_s, ↓hasS_d, ↓hasS_o, ↓hasS_f, ↓hasS_s, uV, uN, u1, o1, o2, oN, ↓fIn_l, ↓fIn_s, fCat, ↓fList_l, ↓fList_t, ↓fTup_l, ↓fTup_t, ↓fInt1_i, ↓fInt1_b, ↓lstR_l, ↓lstR_P, zM1, zM0, fApp, ↓fExt_l, ↓fExt_t, fRev, fClr, zIns, uPop, uPopI, ↓slF_d, ↓slF_o, ↓slF_s, uVf, pNo, pSo, ↓fSl_s, ↓fSl_t, uSl, oSl, oSlN, ↓scal_n, ↓scal_b, ↓scal_i, ↓scal_s, ↓kS_d, ↓ret_S, ↓see_n, ↓see_d, ↓see_s, rV, uCallS, rNil, rD, rS, uCallA, oCallA, ↓toS_d, ↓toS_f, ↓toS_s, ↓slS_0, ↓slS_s, ↓retA_d, ↓retA_o, ↓retA_O, ↓backL_n, ↓backL_s, ↓backL_d, ↓backL_f, ↓lok_n, ↓lok_s, ↓lok_d, ↓lok_f, ↓lent_n, ↓lent_s, ↓lent_d, ↓lent_f, bYes, oLc, ↓clr_n, ↓clr_c, ↓clr2_n, ↓clr2_c, ↓rest_n, ↓rest_c, ↓keep1_d, ↓keep1_o, ↓keep1_f, ↓keep1_no, ↓keep1_s, ↓asLL_l, oLL0, zLLn, zLLa, uLLlen, List.mem_cons, List.not_mem_nil, Nat.reduceEqDiff, eqv_list, eqv_tuple, eqv_none, ↓asI_i, ↓asB_b, ↓asS_s, ↓asL_l, ↓asT_t, ↓slD_0, ↓slD_s, ↓slO_0, ↓slO_s, ↓asR_l, ↓fAdd_i, ↓fAdd_s, ↓ixbo_0, ↓ixbo_1, ↓ixbo_2, ↓ixbo_3, ↓ixD_l, ↓ixD_t, ↓ixD_s, ↓arg1_1, ↓arg2_2, ↓fLen1_l, ↓fLen1_t, ↓fLen1_s, ↓asC_c, ↓asQ_l, ↓asQ_t, ↓asQ_s, ↓kD_d, ↓kD_o, ↓kO_o, ↓fz_l, ↓fz_P, ↓fz_ll, ↓ret_d, ↓ret_o, ↓ret_O, ↓retL_d, ↓retL_o, ↓retL_O, ↓atD_0, ↓atD_1, ↓atD_2, ↓atD_3, ↓atD_b1, ↓atD_b2, ↓atD_b3, ↓ixP_30, ↓ixP_31, ↓ixP_32, ↓if_true, ↓if_false, zNext, zSeq, zSet, zSetO, zDrop, zRet, zRetO, zRetP, zRetN, zIf, zPar, zAsg, zPut, gN, gsNil, gsCons, gT, uVar, uC, uFz, u2, fI, fI0, fEq, fLtD, uIxO, uOwn, uCB, oCB, fLen, fLenO, fAbs, wB, wNot, wAnd, wOr, uAnd, uOr, uNot, uIf, aNil, aCons, uTup, oLst, fIx, oVar, iSeq, iR1, iR2, uCall, oCall, uLend, oLend, shaped_iff, sh_non, sh_int, sh_bool, sh_str, eqv_int, eqv_str, eqv_bool, ixN_30, ixN_31, ixN_32, ixN_20, ixN_21, atI_0, atI_1, atI_2, atI_3, atI_b1, atI_b2, atI_b3, List.length_map, Int.reduceEq, forall_const, implies_true, and_assoc, sz_0, sz_1, sz_2, sz_3, sz_4, sz_5, sz_6, sz_7, sz_8, Bool.not_eq_true', beq_eq_false_iff_ne, beq_iff_eq, ne_eq, Bool.and_eq_true, Bool.or_eq_true, decide_eq_false_iff_not, not_false_eq_true, not_true_eq_false, Bool.not_true, Bool.not_false, isI_n, isI_b, isI_i, isI_s, isI_l, isI_t, isB_n, isB_b, isB_i, isB_s, isB_l, isB_t, isS_n, isS_b, isS_i, isS_s, isS_l, isS_t, isL_n, isL_b, isL_i, isL_s, isL_l, isL_t, isT_n, isT_b, isT_i, isT_s, isT_l, isT_t, isN_n, isN_b, isN_i, isN_s, isN_l, isN_t, ca_0, ca_1, ca_2, ca_3, ca_4, ca_5, ca_6, Int.reduceToNat, Int.toNat_natCast, Int.reducePow, Int.reduceMul, Int.reduceLT, Int.reduceLE, Int.reduceNeg, zFor,   List.replicate, List.length_cons, List.length_nil, List.nil_append, List.cons_append, List.append_nil, List.map_cons, List.map_nil, List.set_cons_zero, List.set_cons_succ, List.getElem?_cons_zero, List.getElem?_cons_succ, Option.some.injEq, S.d.injEq, S.o.injEq, Res.lst.injEq, Res.lstP.injEq, PyData.int.injEq, PyData.str.injEq, PyData.bool.injEq, PyData.list.injEq, PyData.tuple.injEq, List.cons.injEq, reduceCtorEq,   exists_eq_left', exists_eq_left, exists_eq_right, exists_eq_right', true_and, and_true, false_and, and_false, exists_false, false_or, or_false, exists_and_left, exists_and_right, exists_eq', exists_eq, exists_const, Bool.false_eq_true, ite_true, ite_false, decide_eq_true_eq, Nat.sub_self, Nat.zero_add, Nat.add_sub_cancel, Nat.reduceSub, Nat.reduceAdd])
local macro_rules | `(tactic| walk_at "st") => `(tactic| simp (maxSteps := 1000000) only [↓TE_place_of, ↓reduceIte, ↓retA_kO, ↓retA_kD, ↓retA_kDo, ↓retA_kS, ↓asIs_m, ↓asBs_m, ↓asSs_m, fSum, fMin, fMax, fAll, fAny, fSortI, fMin2, fMax2, fStr, ↓fIntS_i, ↓fIntS_b, ↓fIntS_s, oLcN, fSortST, fSortT, zSeqX, zIfX, zRaise, zTry, ↓bare_d, ↓bare_o, ↓bare_l, ↓bare_no, ↓bare_f, ↓bare_g, ↓bare_P, ↓bare_dic, uSee, bSee, uSeeA, bSeeA, zAl, zInsLL, zForAl, osNil, osCons, oDisp, zLLclr, zLLapp, oSortK, uIsE, oSplit, uLendT, S.f.injEq, eq_self, ↓fAddA_i, ↓fAddA_s, ↓fAddA_t, fRepT, oRg1, uChain, ↓slWL_d, ↓slWL_o, ↓slWL_l, ↓slWL_s, ↓seeL_n, ↓seeL_d, ↓seeL_s, uCallSL, zLLfor, gTL, iZpA, ↓as2_l, ↓as2_t, ↓isLL_l, zLLo, uLLix, zLLput, oRep, fJoin, uV2, fSortS, fSortP, oLLe, iZp, iEn, iRv, iRr1, ↓slW_d, ↓slW_o, ↓slW_P, ↓slW_s, ↓hasS_d, ↓hasS_o, ↓hasS_f, ↓hasS_s, uV, uN, u1, o1, o2, oN, ↓fIn_l, ↓fIn_s, fCat, ↓fList_l, ↓fList_t, ↓fTup_l, ↓fTup_t, ↓fInt1_i, ↓fInt1_b, ↓lstR_l, ↓lstR_P, zM1, zM0, fApp, ↓fExt_l, ↓fExt_t, fRev, fClr, zIns, uPop, uPopI, ↓slF_d, ↓slF_o, ↓slF_s, uVf, pNo, pSo, ↓fSl_s, ↓fSl_t, uSl, oSl, oSlN, ↓scal_n, ↓scal_b, ↓scal_i, ↓scal_s, ↓kS_d, ↓ret_S, ↓see_n, ↓see_d, ↓see_s, rV, uCallS, rNil, rD, rS, uCallA, oCallA, ↓toS_d, ↓toS_f, ↓toS_s, ↓slS_0, ↓slS_s, ↓retA_d, ↓retA_o, ↓retA_O, ↓backL_n, ↓backL_s, ↓backL_d, ↓backL_f, ↓lok_n, ↓lok_s, ↓lok_d, ↓lok_f, ↓lent_n, ↓lent_s, ↓lent_d, ↓lent_f, bYes, oLc, ↓clr_n, ↓clr_c, ↓clr2_n, ↓clr2_c, ↓rest_n, ↓rest_c, ↓keep1_d, ↓keep1_o, ↓keep1_f, ↓keep1_no, ↓keep1_s, ↓asLL_l, oLL0, zLLn, zLLa, uLLlen, List.mem_cons, List.not_mem_nil, Nat.reduceEqDiff, eqv_list, eqv_tuple, eqv_none, ↓asI_i, ↓asB_b, ↓asS_s, ↓asL_l, ↓asT_t, ↓slD_0, ↓slD_s, ↓slO_0, ↓slO_s, ↓asR_l, ↓fAdd_i, ↓fAdd_s, ↓ixbo_0, ↓ixbo_1, ↓ixbo_2, ↓ixbo_3, ↓ixD_l, ↓ixD_t, ↓ixD_s, ↓arg1_1, ↓arg2_2, ↓fLen1_l, ↓fLen1_t, ↓fLen1_s, ↓asC_c, ↓asQ_l, ↓asQ_t, ↓asQ_s, ↓kD_d, ↓kD_o, ↓kO_o, ↓fz_l, ↓fz_P, ↓fz_ll, ↓ret_d, ↓ret_o, ↓ret_O, ↓retL_d, ↓retL_o, ↓retL_O, ↓atD_0, ↓atD_1, ↓atD_2, ↓atD_3, ↓atD_b1, ↓atD_b2, ↓atD_b3, ↓ixP_30, ↓ixP_31, ↓ixP_32, ↓if_true, ↓if_false, zNext, zSet, zSetO, zDrop, zRet, zRetO, zRetP, zRetN, zIf, zPar, zAsg, zPut, gN, gsNil, gsCons, gT, uVar, uC, uFz, u2, fI, fI0, fEq, fLtD, uIxO, uOwn, uCB, oCB, fLen, fLenO, fAbs, wB, wNot, wAnd, wOr, uAnd, uOr, uNot, uIf, aNil, aCons, uTup, oLst, fIx, oVar, iSeq, iR1, iR2, uCall, oCall, uLend, oLend, shaped_iff, sh_non, sh_int, sh_bool, sh_str, eqv_int, eqv_str, eqv_bool, ixN_30, ixN_31, ixN_32, ixN_20, ixN_21, atI_0, atI_1, atI_2, atI_3, atI_b1, atI_b2, atI_b3, List.length_map, Int.reduceEq, forall_const, implies_true, and_assoc, sz_0, sz_1, sz_2, sz_3, sz_4, sz_5, sz_6, sz_7, sz_8, Bool.not_eq_true', beq_eq_false_iff_ne, beq_iff_eq, ne_eq, Bool.and_eq_true, Bool.or_eq_true, decide_eq_false_iff_not, not_false_eq_true, not_true_eq_false, Bool.not_true, Bool.not_false, isI_n, isI_b, isI_i, isI_s, isI_l, isI_t, isB_n, isB_b, isB_i, isB_s, isB_l, isB_t, isS_n, isS_b, isS_i, isS_s, isS_l, isS_t, isL_n, isL_b, isL_i, isL_s, isL_l, isL_t, isT_n, isT_b, isT_i, isT_s, isT_l, isT_t, isN_n, isN_b, isN_i, isN_s, isN_l, isN_t, ca_0, ca_1, ca_2, ca_3, ca_4, ca_5, ca_6, Int.reduceToNat, Int.toNat_natCast, Int.reducePow, Int.reduceMul, Int.reduceLT, Int.reduceLE, Int.reduceNeg, zFor,   List.replicate, List.length_cons, List.length_nil, List.nil_append, List.cons_append, List.append_nil, List.map_cons, List.map_nil, List.set_cons_zero, List.set_cons_succ, List.getElem?_cons_zero, List.getElem?_cons_succ, Option.some.injEq, S.d.injEq, S.o.injEq, Res.lst.injEq, Res.lstP.injEq, PyData.int.injEq, PyData.str.injEq, PyData.bool.injEq, PyData.list.injEq, PyData.tuple.injEq, List.cons.injEq, reduceCtorEq,   exists_eq_left', exists_eq_left, exists_eq_right, exists_eq_right', true_and, and_true, false_and, and_false, exists_false, false_or, or_false, exists_and_left, exists_and_right, exists_eq', exists_eq, exists_const, Bool.false_eq_true, ite_true, ite_false, decide_eq_true_eq, Nat.sub_self, Nat.zero_add, Nat.add_sub_cancel, Nat.reduceSub, Nat.reduceAdd])
theorem c_by_place {P : Program} {w : World} {K : PySem.W.Frag} {mg : Str → Option Value} {base : Heap} (hb : Bi K mg) (D : Df K mg "by_place" (topS 6) ["field"]) (C_place_of : Cal P w K mg base "place_of" 1 ["bore"] T_place_of) : Cal P w K mg base "by_place" 3 ["field"] T_by_place := by
  obtain ⟨f, fd, F, hm, hB⟩ := D
  refine ⟨f, fd, fn_d (k := 2) F sc_by_place ?hT (fun cdv A outer s H E hr => (q_one (s_retO (o_sortK C_place_of (hr.mono (by decide)) hb.sorted (d_ixN 0 (fun _ _ => rfl) d_int))))), hm, F.kp, hB⟩
  case hT =>
    intro a Q h
    obtain ⟨bs, x, rfl, q⟩ := h
    refine ⟨rfl, ?_⟩
    (try walk_at "wpt")
    refine ⟨atK, fun d hd => ?_, ?_⟩
    · obtain ⟨b, _, rfl⟩ := List.mem_map.mp hd
      (try walk_at "wpt")
      rfl
    rw [byP_map]
    exact q _

def T_law_draw : TF := fun a Q => ∃ (ns : List Int) (k many : Int), a = [.d (.list (ns.map PyData.int)), .d (.int k), .d (.int many)] ∧ 0 < many ∧ ∀ r, 0 ≤ r → r < many → ret Q (.d (.int r))
theorem TE_law_draw {ns : List Int} {k many : Int} {Q : S → Dl.Ctx → Prop} : T_law_draw [.d (.list (ns.map PyData.int)), .d (.int k), .d (.int many)] Q = (0 < many ∧ ∀ r, 0 ≤ r → r < many → ret Q (.d (.int r))) :=
  propext ⟨fun ⟨_, _, _, e, q⟩ => by
    simp only [List.cons.injEq, S.d.injEq, PyData.int.injEq, and_true] at e
    obtain ⟨_, rfl, rfl⟩ := e
    exact q, fun q => ⟨_, _, _, rfl, q⟩⟩
theorem sc_law_draw : FnScope ["script", "k", "many", "cell", "seed"] ["script", "k", "many"] (defScope (topS 8)) := ⟨rfl, rfl, rfl, by decide +kernel, rfl, by decide +kernel, by decide +kernel⟩
local macro_rules | `(tactic| walk_at "wpt") => `(tactic| simp (maxSteps := 1000000) only [↓reduceIte, ↓retA_kO, ↓retA_kD, ↓retA_kDo, ↓retA_kS, ↓asIs_m, ↓asBs_m, ↓asSs_m, fSum, fMin, fMax, fAll, fAny, fSortI, fMin2, fMax2, fStr, ↓fIntS_i, ↓fIntS_b, ↓fIntS_s, oLcN, fSortST, fSortT, zSeqX, zIfX, zRaise, zTry, ↓bare_d, ↓bare_o, ↓bare_l, ↓bare_no, ↓bare_f, ↓bare_g, ↓bare_P, ↓bare_dic, uSee, bSee, uSeeA, bSeeA, zAl, zInsLL, zForAl, osNil, osCons, oDisp, zLLclr, zLLapp, oSortK, uIsE, oSplit, uLendT, S.f.injEq, eq_self, ↓fAddA_i, ↓fAddA_s, ↓fAddA_t, fRepT, oRg1, uChain, ↓slWL_d, ↓slWL_o, ↓slWL_l, ↓slWL_s, ↓seeL_n, ↓seeL_d, ↓seeL_s, uCallSL, zLLfor, gTL, iZpA, ↓as2_l, ↓as2_t, ↓isLL_l, zLLo, uLLix, zLLput, oRep, fJoin, uV2, fSortS, fSortP, oLLe, iZp, iEn, iRv, iRr1, ↓slW_d, ↓slW_o, ↓slW_P, ↓slW_s, ↓hasS_d, ↓hasS_o, ↓hasS_f, ↓hasS_s, uV, uN, u1, o1, o2, oN, ↓fIn_l, ↓fIn_s, fCat, ↓fList_l, ↓fList_t, ↓fTup_l, ↓fTup_t, ↓fInt1_i, ↓fInt1_b, ↓lstR_l, ↓lstR_P, zM1, zM0, fApp, ↓fExt_l, ↓fExt_t, fRev, fClr, zIns, uPop, uPopI, ↓slF_d, ↓slF_o, ↓slF_s, uVf, pNo, pSo, ↓fSl_s, ↓fSl_t, uSl, oSl, oSlN, ↓scal_n, ↓scal_b, ↓scal_i, ↓scal_s, ↓kS_d, ↓ret_S, ↓see_n, ↓see_d, ↓see_s, rV, uCallS, rNil, rD, rS, uCallA, oCallA, ↓toS_d, ↓toS_f, ↓toS_s, ↓slS_0, ↓slS_s, ↓retA_d, ↓retA_o, ↓retA_O, ↓backL_n, ↓backL_s, ↓backL_d, ↓backL_f, ↓lok_n, ↓lok_s, ↓lok_d, ↓lok_f, ↓lent_n, ↓lent_s, ↓lent_d, ↓lent_f, bYes, oLc, ↓clr_n, ↓clr_c, ↓clr2_n, ↓clr2_c, ↓rest_n, ↓rest_c, ↓keep1_d, ↓keep1_o, ↓keep1_f, ↓keep1_no, ↓keep1_s, ↓asLL_l, oLL0, zLLn, zLLa, uLLlen, List.mem_cons, List.not_mem_nil, Nat.reduceEqDiff, eqv_list, eqv_tuple, eqv_none, ↓asI_i, ↓asB_b, ↓asS_s, ↓asL_l, ↓asT_t, ↓slD_0, ↓slD_s, ↓slO_0, ↓slO_s, ↓asR_l, ↓fAdd_i, ↓fAdd_s, ↓ixbo_0, ↓ixbo_1, ↓ixbo_2, ↓ixbo_3, ↓ixD_l, ↓ixD_t, ↓ixD_s, ↓arg1_1, ↓arg2_2, ↓fLen1_l, ↓fLen1_t, ↓fLen1_s, ↓asC_c, ↓asQ_l, ↓asQ_t, ↓asQ_s, ↓kD_d, ↓kD_o, ↓kO_o, ↓fz_l, ↓fz_P, ↓fz_ll, ↓ret_d, ↓ret_o, ↓ret_O, ↓retL_d, ↓retL_o, ↓retL_O, ↓atD_0, ↓atD_1, ↓atD_2, ↓atD_3, ↓atD_b1, ↓atD_b2, ↓atD_b3, ↓ixP_30, ↓ixP_31, ↓ixP_32, ↓if_true, ↓if_false, zNext, zSeq, zSet, zSetO, zDrop, zRet, zRetO, zRetP, zRetN, zIf, zPar, zAsg, zPut, gN, gsNil, gsCons, gT, uVar, uC, uFz, u2, fI, fI0, fEq, fLtD, uIxO, uOwn, uCB, oCB, fLen, fLenO, fAbs, wB, wNot, wAnd, wOr, uAnd, uOr, uNot, uIf, aNil, aCons, uTup, oLst, fIx, oVar, iSeq, iR1, iR2, uCall, oCall, uLend, oLend, shaped_iff, sh_non, sh_int, sh_bool, sh_str, eqv_int, eqv_str, eqv_bool, ixN_30, ixN_31, ixN_32, ixN_20, ixN_21, atI_0, atI_1, atI_2, atI_3, atI_b1, atI_b2, atI_b3, List.length_map, Int.reduceEq, forall_const, implies_true, and_assoc, sz_0, sz_1, sz_2, sz_3, sz_4, sz_5, sz_6, sz_7, sz_8, Bool.not_eq_true', beq_eq_false_iff_ne, beq_iff_eq, ne_eq, Bool.and_eq_true, Bool.or_eq_true, decide_eq_false_iff_not, not_false_eq_true, not_true_eq_false, Bool.not_true, Bool.not_false, isI_n, isI_b, isI_i, isI_s, isI_l, isI_t, isB_n, isB_b, isB_i, isB_s, isB_l, isB_t, isS_n, isS_b, isS_i, isS_s, isS_l, isS_t, isL_n, isL_b, isL_i, isL_s, isL_l, isL_t, isT_n, isT_b, isT_i, isT_s, isT_l, isT_t, isN_n, isN_b, isN_i, isN_s, isN_l, isN_t, ca_0, ca_1, ca_2, ca_3, ca_4, ca_5, ca_6, Int.reduceToNat, Int.toNat_natCast, Int.reducePow, Int.reduceMul, Int.reduceLT, Int.reduceLE, Int.reduceNeg, zFor,   List.replicate, List.length_cons, List.length_nil, List.nil_append, List.cons_append, List.append_nil, List.map_cons, List.map_nil, List.set_cons_zero, List.set_cons_succ, List.getElem?_cons_zero, List.getElem?_cons_succ, Option.some.injEq, S.d.injEq, S.o.injEq, Res.lst.injEq, Res.lstP.injEq, PyData.int.injEq, PyData.str.injEq, PyData.bool.injEq, PyData.list.injEq, PyData.tuple.injEq, List.cons.injEq, reduceCtorEq,   exists_eq_left', exists_eq_left, exists_eq_right, exists_eq_right', true_and, and_true, false_and, and_false, exists_false, false_or, or_false, exists_and_left, exists_and_right, exists_eq', exists_eq, exists_const, Bool.false_eq_true, ite_true, ite_false, decide_eq_true_eq, Nat.sub_self, Nat.zero_add, Nat.add_sub_cancel, Nat.reduceSub, Nat.reduceAdd])
local macro_rules | `(tactic| walk_at "st") => `(tactic| simp (maxSteps := 1000000) only [true_and, ↓reduceIte, ↓retA_kO, ↓retA_kD, ↓retA_kDo, ↓retA_kS, ↓asIs_m, ↓asBs_m, ↓asSs_m, fSum, fMin, fMax, fAll, fAny, fSortI, fMin2, fMax2, fStr, ↓fIntS_i, ↓fIntS_b, ↓fIntS_s, oLcN, fSortST, fSortT, zSeqX, zIfX, zRaise, zTry, ↓bare_d, ↓bare_o, ↓bare_l, ↓bare_no, ↓bare_f, ↓bare_g, ↓bare_P, ↓bare_dic, uSee, bSee, uSeeA, bSeeA, zAl, zInsLL, zForAl, osNil, osCons, oDisp, zLLclr, zLLapp, oSortK, uIsE, oSplit, uLendT, S.f.injEq, eq_self, ↓fAddA_i, ↓fAddA_s, ↓fAddA_t, fRepT, oRg1, uChain, ↓slWL_d, ↓slWL_o, ↓slWL_l, ↓slWL_s, ↓seeL_n, ↓seeL_d, ↓seeL_s, uCallSL, zLLfor, gTL, iZpA, ↓as2_l, ↓as2_t, ↓isLL_l, zLLo, uLLix, zLLput, oRep, fJoin, uV2, fSortS, fSortP, oLLe, iZp, iEn, iRv, iRr1, ↓slW_d, ↓slW_o, ↓slW_P, ↓slW_s, ↓hasS_d, ↓hasS_o, ↓hasS_f, ↓hasS_s, uV, uN, u1, o1, o2, oN, ↓fIn_l, ↓fIn_s, fCat, ↓fList_l, ↓fList_t, ↓fTup_l, ↓fTup_t, ↓fInt1_i, ↓fInt1_b, ↓lstR_l, ↓lstR_P, zM1, zM0, fApp, ↓fExt_l, ↓fExt_t, fRev, fClr, zIns, uPop, uPopI, ↓slF_d, ↓slF_o, ↓slF_s, uVf, pNo, pSo, ↓fSl_s, ↓fSl_t, uSl, oSl, oSlN, ↓scal_n, ↓scal_b, ↓scal_i, ↓scal_s, ↓kS_d, ↓ret_S, ↓see_n, ↓see_d, ↓see_s, rV, uCallS, rNil, rD, rS, uCallA, oCallA, ↓toS_d, ↓toS_f, ↓toS_s, ↓slS_0, ↓slS_s, ↓retA_d, ↓retA_o, ↓retA_O, ↓backL_n, ↓backL_s, ↓backL_d, ↓backL_f, ↓lok_n, ↓lok_s, ↓lok_d, ↓lok_f, ↓lent_n, ↓lent_s, ↓lent_d, ↓lent_f, bYes, oLc, ↓clr_n, ↓clr_c, ↓clr2_n, ↓clr2_c, ↓rest_n, ↓rest_c, ↓keep1_d, ↓keep1_o, ↓keep1_f, ↓keep1_no, ↓keep1_s, ↓asLL_l, oLL0, zLLn, zLLa, uLLlen, List.mem_cons, List.not_mem_nil, Nat.reduceEqDiff, eqv_list, eqv_tuple, eqv_none, ↓asI_i, ↓asB_b, ↓asS_s, ↓asL_l, ↓asT_t, ↓slD_0, ↓slD_s, ↓slO_0, ↓slO_s, ↓asR_l, ↓fAdd_i, ↓fAdd_s, ↓ixbo_0, ↓ixbo_1, ↓ixbo_2, ↓ixbo_3, ↓ixD_l, ↓ixD_t, ↓ixD_s, ↓arg1_1, ↓arg2_2, ↓fLen1_l, ↓fLen1_t, ↓fLen1_s, ↓asC_c, ↓asQ_l, ↓asQ_t, ↓asQ_s, ↓kD_d, ↓kD_o, ↓kO_o, ↓fz_l, ↓fz_P, ↓fz_ll, ↓ret_d, ↓ret_o, ↓ret_O, ↓retL_d, ↓retL_o, ↓retL_O, ↓atD_0, ↓atD_1, ↓atD_2, ↓atD_3, ↓atD_b1, ↓atD_b2, ↓atD_b3, ↓ixP_30, ↓ixP_31, ↓ixP_32, ↓if_true, ↓if_false, zNext, zSet, zSetO, zDrop, zRet, zRetO, zRetP, zRetN, zIf, zPar, zAsg, zPut, gN, gsNil, gsCons, gT, uVar, uC, uFz, u2, fI, fI0, fEq, fLtD, uIxO, uOwn, uCB, oCB, fLen, fLenO, fAbs, wB, wNot, wAnd, wOr, uAnd, uOr, uNot, uIf, aNil, aCons, uTup, oLst, fIx, oVar, iSeq, iR1, iR2, uCall, oCall, uLend, oLend, shaped_iff, sh_non, sh_int, sh_bool, sh_str, eqv_int, eqv_str, eqv_bool, ixN_30, ixN_31, ixN_32, ixN_20, ixN_21, atI_0, atI_1, atI_2, atI_3, atI_b1, atI_b2, atI_b3, List.length_map, Int.reduceEq, forall_const, implies_true, and_assoc, sz_0, sz_1, sz_2, sz_3, sz_4, sz_5, sz_6, sz_7, sz_8, Bool.not_eq_true', beq_eq_false_iff_ne, beq_iff_eq, ne_eq, Bool.and_eq_true, Bool.or_eq_true, decide_eq_false_iff_not, not_false_eq_true, not_true_eq_false, Bool.not_true, Bool.not_false, isI_n, isI_b, isI_i, isI_s, isI_l, isI_t, isB_n, isB_b, isB_i, isB_s, isB_l, isB_t, isS_n, isS_b, isS_i, isS_s, isS_l, isS_t, isL_n, isL_b, isL_i, isL_s, isL_l, isL_t, isT_n, isT_b, isT_i, isT_s, isT_l, isT_t, isN_n, isN_b, isN_i, isN_s, isN_l, isN_t, ca_0, ca_1, ca_2, ca_3, ca_4, ca_5, ca_6, Int.reduceToNat, Int.toNat_natCast, Int.reducePow, Int.reduceMul, Int.reduceLT, Int.reduceLE, Int.reduceNeg, zFor,   List.replicate, List.length_cons, List.length_nil, List.nil_append, List.cons_append, List.append_nil, List.map_cons, List.map_nil, List.set_cons_zero, List.set_cons_succ, List.getElem?_cons_zero, List.getElem?_cons_succ, Option.some.injEq, S.d.injEq, S.o.injEq, Res.lst.injEq, Res.lstP.injEq, PyData.int.injEq, PyData.str.injEq, PyData.bool.injEq, PyData.list.injEq, PyData.tuple.injEq, List.cons.injEq, reduceCtorEq,   exists_eq_left', exists_eq_left, exists_eq_right, exists_eq_right', true_and, and_true, false_and, and_false, exists_false, false_or, or_false, exists_and_left, exists_and_right, exists_eq', exists_eq, exists_const, Bool.false_eq_true, ite_true, ite_false, decide_eq_true_eq, Nat.sub_self, Nat.zero_add, Nat.add_sub_cancel, Nat.reduceSub, Nat.reduceAdd])
theorem c_law_draw {P : Program} {w : World} {K : PySem.W.Frag} {mg : Str → Option Value} {base : Heap} (hb : Bi K mg) (D : Df K mg "_law_draw" (topS 8) ["script", "k", "many"])  : Cal P w K mg base "_law_draw" 1 ["script", "k", "many"] T_law_draw := by
  obtain ⟨f, fd, F, hm, hB⟩ := D
  refine ⟨f, fd, fn_d (k := 0) F sc_law_draw ?hT (fun cdv A outer s H E hr => (q_cons (s_set (j := 3) sc_law_draw.nd d_int)
 (q_cons (s_if (t_gt (d_lenV hb.len (vv 0)) d_int)
 (q_one (s_set (j := 3) sc_law_draw.nd (d_ixN 0 (fun _ _ => rfl) (d_mod (dv 1) (d_lenV hb.len (vv 0)))))) q_nil)
 (q_cons (s_set (j := 4) sc_law_draw.nd (d_mod (d_mul (d_add (d_add (d_mod (dv 3) d_int) (d_mul d_int (dv 1))) d_int) d_int) d_int))
 (q_one (s_ret (d_mod (d_mod (d_mul (d_mod (d_add (d_mul (dv 4) d_int) (dv 1)) d_int) d_int) d_int) (dv 2)))))))), hm, F.kp, hB⟩
  case hT =>
    intro a Q h
    obtain ⟨ns, k, many, rfl, hm, q⟩ := h
    refine ⟨rfl, ?_⟩
    walk_at "wpt"
    have hm0 : ¬ many = 0 := by omega
    have fin : ∀ (x : Int) (c : Dl.Ctx), Q (.d (.int (x.fmod many))) c := fun x c => q _ (fmod_pos hm).1 (fmod_pos hm).2 c
    split
    · rename_i hl
      obtain ⟨n, _, hn⟩ := atI_ints (ns := ns) (i := k.fmod ns.length) (fmod_pos hl).1 (fmod_pos hl).2
      refine ⟨by omega, _, hn, ?_⟩
      walk_at "wpt"
      exact ⟨mulA_l (by decide) (by decide), mulA_r (by decide) (by decide), mulA_r (by decide) (by decide), mulA_r (by decide) (by decide), hm0, fin _ _⟩
    · exact ⟨mulA_l (by decide) (by decide), mulA_r (by decide) (by decide), mulA_r (by decide) (by decide), mulA_r (by decide) (by decide), hm0, fin _ _⟩

def T_law_feed : TF := fun a Q => ∃ (ns : List Int) (k : Int), a = [.d (.list (ns.map PyData.int)), .d (.int k)] ∧ 0 ≤ k ∧ ret Q (.o none (.lstP FeedP))
theorem TE_law_feed {ns : List Int} {k : Int} {Q : S → Dl.Ctx → Prop} : T_law_feed [.d (.list (ns.map PyData.int)), .d (.int k)] Q = (0 ≤ k ∧ ret Q (.o none (.lstP FeedP))) :=
  propext ⟨fun ⟨_, _, e, q⟩ => by
    simp only [List.cons.injEq, S.d.injEq, PyData.int.injEq, and_true] at e
    obtain ⟨_, rfl⟩ := e
    exact q, fun q => ⟨_, _, rfl, q⟩⟩
theorem sc_law_feed : FnScope ["script", "k", "cell"] ["script", "k"] (defScope (topS 9)) := ⟨rfl, rfl, rfl, by decide +kernel, rfl, by decide +kernel, by decide +kernel⟩
local macro_rules | `(tactic| walk_at "wpt") => `(tactic| simp (maxSteps := 1000000) only [↓reduceIte, ↓retA_kO, ↓retA_kD, ↓retA_kDo, ↓retA_kS, ↓asIs_m, ↓asBs_m, ↓asSs_m, fSum, fMin, fMax, fAll, fAny, fSortI, fMin2, fMax2, fStr, ↓fIntS_i, ↓fIntS_b, ↓fIntS_s, oLcN, fSortST, fSortT, zSeqX, zIfX, zRaise, zTry, ↓bare_d, ↓bare_o, ↓bare_l, ↓bare_no, ↓bare_f, ↓bare_g, ↓bare_P, ↓bare_dic, uSee, bSee, uSeeA, bSeeA, zAl, zInsLL, zForAl, osNil, osCons, oDisp, zLLclr, zLLapp, oSortK, uIsE, oSplit, uLendT, S.f.injEq, eq_self, ↓fAddA_i, ↓fAddA_s, ↓fAddA_t, fRepT, oRg1, uChain, ↓slWL_d, ↓slWL_o, ↓slWL_l, ↓slWL_s, ↓seeL_n, ↓seeL_d, ↓seeL_s, uCallSL, zLLfor, gTL, iZpA, ↓as2_l, ↓as2_t, ↓isLL_l, zLLo, uLLix, zLLput, oRep, fJoin, uV2, fSortS, fSortP, oLLe, iZp, iEn, iRv, iRr1, ↓slW_d, ↓slW_o, ↓slW_P, ↓slW_s, ↓hasS_d, ↓hasS_o, ↓hasS_f, ↓hasS_s, uV, uN, u1, o1, o2, oN, ↓fIn_l, ↓fIn_s, fCat, ↓fList_l, ↓fList_t, ↓fTup_l, ↓fTup_t, ↓fInt1_i, ↓fInt1_b, ↓lstR_l, ↓lstR_P, zM1, zM0, fApp, ↓fExt_l, ↓fExt_t, fRev, fClr, zIns, uPop, uPopI, ↓slF_d, ↓slF_o, ↓slF_s, uVf, pNo, pSo, ↓fSl_s, ↓fSl_t, uSl, oSl, oSlN, ↓scal_n, ↓scal_b, ↓scal_i, ↓scal_s, ↓kS_d, ↓ret_S, ↓see_n, ↓see_d, ↓see_s, rV, uCallS, rNil, rD, rS, uCallA, oCallA, ↓toS_d, ↓toS_f, ↓toS_s, ↓slS_0, ↓slS_s, ↓retA_d, ↓retA_o, ↓retA_O, ↓backL_n, ↓backL_s, ↓backL_d, ↓backL_f, ↓lok_n, ↓lok_s, ↓lok_d, ↓lok_f, ↓lent_n, ↓lent_s, ↓lent_d, ↓lent_f, bYes, oLc, ↓clr_n, ↓clr_c, ↓clr2_n, ↓clr2_c, ↓rest_n, ↓rest_c, ↓keep1_d, ↓keep1_o, ↓keep1_f, ↓keep1_no, ↓keep1_s, ↓asLL_l, oLL0, zLLn, zLLa, uLLlen, List.mem_cons, List.not_mem_nil, Nat.reduceEqDiff, eqv_list, eqv_tuple, eqv_none, ↓asI_i, ↓asB_b, ↓asS_s, ↓asL_l, ↓asT_t, ↓slD_0, ↓slD_s, ↓slO_0, ↓slO_s, ↓asR_l, ↓fAdd_i, ↓fAdd_s, ↓ixbo_0, ↓ixbo_1, ↓ixbo_2, ↓ixbo_3, ↓ixD_l, ↓ixD_t, ↓ixD_s, ↓arg1_1, ↓arg2_2, ↓fLen1_l, ↓fLen1_t, ↓fLen1_s, ↓asC_c, ↓asQ_l, ↓asQ_t, ↓asQ_s, ↓kD_d, ↓kD_o, ↓kO_o, ↓fz_l, ↓fz_P, ↓fz_ll, ↓ret_d, ↓ret_o, ↓ret_O, ↓retL_d, ↓retL_o, ↓retL_O, ↓atD_0, ↓atD_1, ↓atD_2, ↓atD_3, ↓atD_b1, ↓atD_b2, ↓atD_b3, ↓ixP_30, ↓ixP_31, ↓ixP_32, ↓if_true, ↓if_false, zNext, zSeq, zSet, zSetO, zDrop, zRet, zRetO, zRetP, zRetN, zIf, zPar, zAsg, zPut, gN, gsNil, gsCons, gT, uVar, uC, uFz, u2, fI, fI0, fEq, fLtD, uIxO, uOwn, uCB, oCB, fLen, fLenO, fAbs, wB, wNot, wAnd, wOr, uAnd, uOr, uNot, uIf, aNil, aCons, uTup, oLst, fIx, oVar, iSeq, iR1, iR2, uCall, oCall, uLend, oLend, shaped_iff, sh_non, sh_int, sh_bool, sh_str, eqv_int, eqv_str, eqv_bool, ixN_30, ixN_31, ixN_32, ixN_20, ixN_21, atI_0, atI_1, atI_2, atI_3, atI_b1, atI_b2, atI_b3, List.length_map, Int.reduceEq, forall_const, implies_true, and_assoc, sz_0, sz_1, sz_2, sz_3, sz_4, sz_5, sz_6, sz_7, sz_8, Bool.not_eq_true', beq_eq_false_iff_ne, beq_iff_eq, ne_eq, Bool.and_eq_true, Bool.or_eq_true, decide_eq_false_iff_not, not_false_eq_true, not_true_eq_false, Bool.not_true, Bool.not_false, isI_n, isI_b, isI_i, isI_s, isI_l, isI_t, isB_n, isB_b, isB_i, isB_s, isB_l, isB_t, isS_n, isS_b, isS_i, isS_s, isS_l, isS_t, isL_n, isL_b, isL_i, isL_s, isL_l, isL_t, isT_n, isT_b, isT_i, isT_s, isT_l, isT_t, isN_n, isN_b, isN_i, isN_s, isN_l, isN_t, ca_0, ca_1, ca_2, ca_3, ca_4, ca_5, ca_6, Int.reduceToNat, Int.toNat_natCast, Int.reducePow, Int.reduceMul, Int.reduceLT, Int.reduceLE, Int.reduceNeg, zFor,   List.replicate, List.length_cons, List.length_nil, List.nil_append, List.cons_append, List.append_nil, List.map_cons, List.map_nil, List.set_cons_zero, List.set_cons_succ, List.getElem?_cons_zero, List.getElem?_cons_succ, Option.some.injEq, S.d.injEq, S.o.injEq, Res.lst.injEq, Res.lstP.injEq, PyData.int.injEq, PyData.str.injEq, PyData.bool.injEq, PyData.list.injEq, PyData.tuple.injEq, List.cons.injEq, reduceCtorEq,   exists_eq_left', exists_eq_left, exists_eq_right, exists_eq_right', true_and, and_true, false_and, and_false, exists_false, false_or, or_false, exists_and_left, exists_and_right, exists_eq', exists_eq, exists_const, Bool.false_eq_true, ite_true, ite_false, decide_eq_true_eq, Nat.sub_self, Nat.zero_add, Nat.add_sub_cancel, Nat.reduceSub, Nat.reduceAdd])
local macro_rules | `(tactic| walk_at "st") => `(tactic| simp (maxSteps := 1000000) only [true_and, ↓reduceIte, ↓retA_kO, ↓retA_kD, ↓retA_kDo, ↓retA_kS, ↓asIs_m, ↓asBs_m, ↓asSs_m, fSum, fMin, fMax, fAll, fAny, fSortI, fMin2, fMax2, fStr, ↓fIntS_i, ↓fIntS_b, ↓fIntS_s, oLcN, fSortST, fSortT, zSeqX, zIfX, zRaise, zTry, ↓bare_d, ↓bare_o, ↓bare_l, ↓bare_no, ↓bare_f, ↓bare_g, ↓bare_P, ↓bare_dic, uSee, bSee, uSeeA, bSeeA, zAl, zInsLL, zForAl, osNil, osCons, oDisp, zLLclr, zLLapp, oSortK, uIsE, oSplit, uLendT, S.f.injEq, eq_self, ↓fAddA_i, ↓fAddA_s, ↓fAddA_t, fRepT, oRg1, uChain, ↓slWL_d, ↓slWL_o, ↓slWL_l, ↓slWL_s, ↓seeL_n, ↓seeL_d, ↓seeL_s, uCallSL, zLLfor, gTL, iZpA, ↓as2_l, ↓as2_t, ↓isLL_l, zLLo, uLLix, zLLput, oRep, fJoin, uV2, fSortS, fSortP, oLLe, iZp, iEn, iRv, iRr1, ↓slW_d, ↓slW_o, ↓slW_P, ↓slW_s, ↓hasS_d, ↓hasS_o, ↓hasS_f, ↓hasS_s, uV, uN, u1, o1, o2, oN, ↓fIn_l, ↓fIn_s, fCat, ↓fList_l, ↓fList_t, ↓fTup_l, ↓fTup_t, ↓fInt1_i, ↓fInt1_b, ↓lstR_l, ↓lstR_P, zM1, zM0, fApp, ↓fExt_l, ↓fExt_t, fRev, fClr, zIns, uPop, uPopI, ↓slF_d, ↓slF_o, ↓slF_s, uVf, pNo, pSo, ↓fSl_s, ↓fSl_t, uSl, oSl, oSlN, ↓scal_n, ↓scal_b, ↓scal_i, ↓scal_s, ↓kS_d, ↓ret_S, ↓see_n, ↓see_d, ↓see_s, rV, uCallS, rNil, rD, rS, uCallA, oCallA, ↓toS_d, ↓toS_f, ↓toS_s, ↓slS_0, ↓slS_s, ↓retA_d, ↓retA_o, ↓retA_O, ↓backL_n, ↓backL_s, ↓backL_d, ↓backL_f, ↓lok_n, ↓lok_s, ↓lok_d, ↓lok_f, ↓lent_n, ↓lent_s, ↓lent_d, ↓lent_f, bYes, oLc, ↓clr_n, ↓clr_c, ↓clr2_n, ↓clr2_c, ↓rest_n, ↓rest_c, ↓keep1_d, ↓keep1_o, ↓keep1_f, ↓keep1_no, ↓keep1_s, ↓asLL_l, oLL0, zLLn, zLLa, uLLlen, List.mem_cons, List.not_mem_nil, Nat.reduceEqDiff, eqv_list, eqv_tuple, eqv_none, ↓asI_i, ↓asB_b, ↓asS_s, ↓asL_l, ↓asT_t, ↓slD_0, ↓slD_s, ↓slO_0, ↓slO_s, ↓asR_l, ↓fAdd_i, ↓fAdd_s, ↓ixbo_0, ↓ixbo_1, ↓ixbo_2, ↓ixbo_3, ↓ixD_l, ↓ixD_t, ↓ixD_s, ↓arg1_1, ↓arg2_2, ↓fLen1_l, ↓fLen1_t, ↓fLen1_s, ↓asC_c, ↓asQ_l, ↓asQ_t, ↓asQ_s, ↓kD_d, ↓kD_o, ↓kO_o, ↓fz_l, ↓fz_P, ↓fz_ll, ↓ret_d, ↓ret_o, ↓ret_O, ↓retL_d, ↓retL_o, ↓retL_O, ↓atD_0, ↓atD_1, ↓atD_2, ↓atD_3, ↓atD_b1, ↓atD_b2, ↓atD_b3, ↓ixP_30, ↓ixP_31, ↓ixP_32, ↓if_true, ↓if_false, zNext, zSet, zSetO, zDrop, zRet, zRetO, zRetP, zRetN, zIf, zPar, zAsg, zPut, gN, gsNil, gsCons, gT, uVar, uC, uFz, u2, fI, fI0, fEq, fLtD, uIxO, uOwn, uCB, oCB, fLen, fLenO, fAbs, wB, wNot, wAnd, wOr, uAnd, uOr, uNot, uIf, aNil, aCons, uTup, oLst, fIx, oVar, iSeq, iR1, iR2, uCall, oCall, uLend, oLend, shaped_iff, sh_non, sh_int, sh_bool, sh_str, eqv_int, eqv_str, eqv_bool, ixN_30, ixN_31, ixN_32, ixN_20, ixN_21, atI_0, atI_1, atI_2, atI_3, atI_b1, atI_b2, atI_b3, List.length_map, Int.reduceEq, forall_const, implies_true, and_assoc, sz_0, sz_1, sz_2, sz_3, sz_4, sz_5, sz_6, sz_7, sz_8, Bool.not_eq_true', beq_eq_false_iff_ne, beq_iff_eq, ne_eq, Bool.and_eq_true, Bool.or_eq_true, decide_eq_false_iff_not, not_false_eq_true, not_true_eq_false, Bool.not_true, Bool.not_false, isI_n, isI_b, isI_i, isI_s, isI_l, isI_t, isB_n, isB_b, isB_i, isB_s, isB_l, isB_t, isS_n, isS_b, isS_i, isS_s, isS_l, isS_t, isL_n, isL_b, isL_i, isL_s, isL_l, isL_t, isT_n, isT_b, isT_i, isT_s, isT_l, isT_t, isN_n, isN_b, isN_i, isN_s, isN_l, isN_t, ca_0, ca_1, ca_2, ca_3, ca_4, ca_5, ca_6, Int.reduceToNat, Int.toNat_natCast, Int.reducePow, Int.reduceMul, Int.reduceLT, Int.reduceLE, Int.reduceNeg, zFor,   List.replicate, List.length_cons, List.length_nil, List.nil_append, List.cons_append, List.append_nil, List.map_cons, List.map_nil, List.set_cons_zero, List.set_cons_succ, List.getElem?_cons_zero, List.getElem?_cons_succ, Option.some.injEq, S.d.injEq, S.o.injEq, Res.lst.injEq, Res.lstP.injEq, PyData.int.injEq, PyData.str.injEq, PyData.bool.injEq, PyData.list.injEq, PyData.tuple.injEq, List.cons.injEq, reduceCtorEq,   exists_eq_left', exists_eq_left, exists_eq_right, exists_eq_right', true_and, and_true, false_and, and_false, exists_false, false_or, or_false, exists_and_left, exists_and_right, exists_eq', exists_eq, exists_const, Bool.false_eq_true, ite_true, ite_false, decide_eq_true_eq, Nat.sub_self, Nat.zero_add, Nat.add_sub_cancel, Nat.reduceSub, Nat.reduceAdd])
theorem c_law_feed {P : Program} {w : World} {K : PySem.W.Frag} {mg : Str → Option Value} {base : Heap} (hb : Bi K mg) (D : Df K mg "_law_feed" (topS 9) ["script", "k"])  : Cal P w K mg base "_law_feed" 1 ["script", "k"] T_law_feed := by
  obtain ⟨f, fd, F, hm, hB⟩ := D
  refine ⟨f, fd, fn_d (k := 0) F sc_law_feed ?hT (fun cdv A outer s H E hr => (q_cons (s_set (j := 2) sc_law_feed.nd d_int)
 (q_cons (s_if (t_lt (dv 1) (d_lenV hb.len (vv 0)))
 (q_one (s_set (j := 2) sc_law_feed.nd (d_ixN 0 (fun _ _ => rfl) (dv 1)))) q_nil)
 (q_one (s_retP (FeedP) (o_lst (a_cons (dv 2) (a_cons (d_mul d_int (dv 1)) (a_cons (dv 0) a_nil))))))))), hm, F.kp, hB⟩
  case hT =>
    intro a Q h
    obtain ⟨ns, k, rfl, hk, q⟩ := h
    refine ⟨rfl, ?_⟩
    walk_at "wpt"
    split
    · rename_i hl
      obtain ⟨n, _, hn⟩ := atI_ints (ns := ns) (i := k) hk hl
      refine ⟨_, hn, ?_⟩
      walk_at "wpt"
      exact ⟨mulA_l (by decide) (by decide), ⟨_, _, ns, rfl⟩, q _⟩
    · exact ⟨mulA_l (by decide) (by decide), ⟨_, _, ns, rfl⟩, q _⟩

def T_law_next : TF := fun a Q => ∃ (v : Lt) (many : Int), a = [.o (some v) (.lstP FeedP), .d (.int many)] ∧ 0 < many ∧ Bd 250 many ∧ ∀ r, 0 ≤ r → r < many → retL v (.lstP FeedP) Q (.d (.int r))
theorem TE_law_next {v : Lt} {many : Int} {Q : S → Dl.Ctx → Prop} : T_law_next [.o (some v) (.lstP FeedP), .d (.int many)] Q = (0 < many ∧ Bd 250 many ∧ ∀ r, 0 ≤ r → r < many → retL v (.lstP FeedP) Q (.d (.int r))) := propext ⟨fun ⟨_, _, e, q⟩ => by cases e; exact q, fun q => ⟨_, _, rfl, q⟩⟩
theorem sc_law_next : FnScope ["feed", "many", "digit"] ["feed", "many"] (defScope (topS 10)) := ⟨rfl, rfl, rfl, by decide +kernel, rfl, by decide +kernel, by decide +kernel⟩
local macro_rules | `(tactic| walk_at "wpt") => `(tactic| simp (maxSteps := 1000000) only [↓TE_law_draw, ↓reduceIte, ↓retA_kO, ↓retA_kD, ↓retA_kDo, ↓retA_kS, ↓asIs_m, ↓asBs_m, ↓asSs_m, fSum, fMin, fMax, fAll, fAny, fSortI, fMin2, fMax2, fStr, ↓fIntS_i, ↓fIntS_b, ↓fIntS_s, oLcN, fSortST, fSortT, zSeqX, zIfX, zRaise, zTry, ↓bare_d, ↓bare_o, ↓bare_l, ↓bare_no, ↓bare_f, ↓bare_g, ↓bare_P, ↓bare_dic, uSee, bSee, uSeeA, bSeeA, zAl, zInsLL, zForAl, osNil, osCons, oDisp, zLLclr, zLLapp, oSortK, uIsE, oSplit, uLendT, S.f.injEq, eq_self, ↓fAddA_i, ↓fAddA_s, ↓fAddA_t, fRepT, oRg1, uChain, ↓slWL_d, ↓slWL_o, ↓slWL_l, ↓slWL_s, ↓seeL_n, ↓seeL_d, ↓seeL_s, uCallSL, zLLfor, gTL, iZpA, ↓as2_l, ↓as2_t, ↓isLL_l, zLLo, uLLix, zLLput, oRep, fJoin, uV2, fSortS, fSortP, oLLe, iZp, iEn, iRv, iRr1, ↓slW_d, ↓slW_o, ↓slW_P, ↓slW_s, ↓hasS_d, ↓hasS_o, ↓hasS_f, ↓hasS_s, uV, uN, u1, o1, o2, oN, ↓fIn_l, ↓fIn_s, fCat, ↓fList_l, ↓fList_t, ↓fTup_l, ↓fTup_t, ↓fInt1_i, ↓fInt1_b, ↓lstR_l, ↓lstR_P, zM1, zM0, fApp, ↓fExt_l, ↓fExt_t, fRev, fClr, zIns, uPop, uPopI, ↓slF_d, ↓slF_o, ↓slF_s, uVf, pNo, pSo, ↓fSl_s, ↓fSl_t, uSl, oSl, oSlN, ↓scal_n, ↓scal_b, ↓scal_i, ↓scal_s, ↓kS_d, ↓ret_S, ↓see_n, ↓see_d, ↓see_s, rV, uCallS, rNil, rD, rS, uCallA, oCallA, ↓toS_d, ↓toS_f, ↓toS_s, ↓slS_0, ↓slS_s, ↓retA_d, ↓retA_o, ↓retA_O, ↓backL_n, ↓backL_s, ↓backL_d, ↓backL_f, ↓lok_n, ↓lok_s, ↓lok_d, ↓lok_f, ↓lent_n, ↓lent_s, ↓lent_d, ↓lent_f, bYes, oLc, ↓clr_n, ↓clr_c, ↓clr2_n, ↓clr2_c, ↓rest_n, ↓rest_c, ↓keep1_d, ↓keep1_o, ↓keep1_f, ↓keep1_no, ↓keep1_s, ↓asLL_l, oLL0, zLLn, zLLa, uLLlen, List.mem_cons, List.not_mem_nil, Nat.reduceEqDiff, eqv_list, eqv_tuple, eqv_none, ↓asI_i, ↓asB_b, ↓asS_s, ↓asL_l, ↓asT_t, ↓slD_0, ↓slD_s, ↓slO_0, ↓slO_s, ↓asR_l, ↓fAdd_i, ↓fAdd_s, ↓ixbo_0, ↓ixbo_1, ↓ixbo_2, ↓ixbo_3, ↓ixD_l, ↓ixD_t, ↓ixD_s, ↓arg1_1, ↓arg2_2, ↓fLen1_l, ↓fLen1_t, ↓fLen1_s, ↓asC_c, ↓asQ_l, ↓asQ_t, ↓asQ_s, ↓kD_d, ↓kD_o, ↓kO_o, ↓fz_l, ↓fz_P, ↓fz_ll, ↓ret_d, ↓ret_o, ↓ret_O, ↓retL_d, ↓retL_o, ↓retL_O, ↓atD_0, ↓atD_1, ↓atD_2, ↓atD_3, ↓atD_b1, ↓atD_b2, ↓atD_b3, ↓ixP_30, ↓ixP_31, ↓ixP_32, ↓if_true, ↓if_false, zNext, zSeq, zSet, zSetO, zDrop, zRet, zRetO, zRetP, zRetN, zIf, zPar, zAsg, zPut, gN, gsNil, gsCons, gT, uVar, uC, uFz, u2, fI, fI0, fEq, fLtD, uIxO, uOwn, uCB, oCB, fLen, fLenO, fAbs, wB, wNot, wAnd, wOr, uAnd, uOr, uNot, uIf, aNil, aCons, uTup, oLst, fIx, oVar, iSeq, iR1, iR2, uCall, oCall, uLend, oLend, shaped_iff, sh_non, sh_int, sh_bool, sh_str, eqv_int, eqv_str, eqv_bool, ixN_30, ixN_31, ixN_32, ixN_20, ixN_21, atI_0, atI_1, atI_2, atI_3, atI_b1, atI_b2, atI_b3, List.length_map, Int.reduceEq, forall_const, implies_true, and_assoc, sz_0, sz_1, sz_2, sz_3, sz_4, sz_5, sz_6, sz_7, sz_8, Bool.not_eq_true', beq_eq_false_iff_ne, beq_iff_eq, ne_eq, Bool.and_eq_true, Bool.or_eq_true, decide_eq_false_iff_not, not_false_eq_true, not_true_eq_false, Bool.not_true, Bool.not_false, isI_n, isI_b, isI_i, isI_s, isI_l, isI_t, isB_n, isB_b, isB_i, isB_s, isB_l, isB_t, isS_n, isS_b, isS_i, isS_s, isS_l, isS_t, isL_n, isL_b, isL_i, isL_s, isL_l, isL_t, isT_n, isT_b, isT_i, isT_s, isT_l, isT_t, isN_n, isN_b, isN_i, isN_s, isN_l, isN_t, ca_0, ca_1, ca_2, ca_3, ca_4, ca_5, ca_6, Int.reduceToNat, Int.toNat_natCast, Int.reducePow, Int.reduceMul, Int.reduceLT, Int.reduceLE, Int.reduceNeg, zFor,   List.replicate, List.length_cons, List.length_nil, List.nil_append, List.cons_append, List.append_nil, List.map_cons, List.map_nil, List.set_cons_zero, List.set_cons_succ, List.getElem?_cons_zero, List.getElem?_cons_succ, Option.some.injEq, S.d.injEq, S.o.injEq, Res.lst.injEq, Res.lstP.injEq, PyData.int.injEq, PyData.str.injEq, PyData.bool.injEq, PyData.list.injEq, PyData.tuple.injEq, List.cons.injEq, reduceCtorEq,   exists_eq_left', exists_eq_left, exists_eq_right, exists_eq_right', true_and, and_true, false_and, and_false, exists_false, false_or, or_false, exists_and_left, exists_and_right, exists_eq', exists_eq, exists_const, Bool.false_eq_true, ite_true, ite_false, decide_eq_true_eq, Nat.sub_self, Nat.zero_add, Nat.add_sub_cancel, Nat.reduceSub, Nat.reduceAdd])
local macro_rules | `(tactic| walk_at "st") => `(tactic| simp (maxSteps := 1000000) only [↓TE_law_draw, ↓reduceIte, ↓retA_kO, ↓retA_kD, ↓retA_kDo, ↓retA_kS, ↓asIs_m, ↓asBs_m, ↓asSs_m, fSum, fMin, fMax, fAll, fAny, fSortI, fMin2, fMax2, fStr, ↓fIntS_i, ↓fIntS_b, ↓fIntS_s, oLcN, fSortST, fSortT, zSeqX, zIfX, zRaise, zTry, ↓bare_d, ↓bare_o, ↓bare_l, ↓bare_no, ↓bare_f, ↓bare_g, ↓bare_P, ↓bare_dic, uSee, bSee, uSeeA, bSeeA, zAl, zInsLL, zForAl, osNil, osCons, oDisp, zLLclr, zLLapp, oSortK, uIsE, oSplit, uLendT, S.f.injEq, eq_self, ↓fAddA_i, ↓fAddA_s, ↓fAddA_t, fRepT, oRg1, uChain, ↓slWL_d, ↓slWL_o, ↓slWL_l, ↓slWL_s, ↓seeL_n, ↓seeL_d, ↓seeL_s, uCallSL, zLLfor, gTL, iZpA, ↓as2_l, ↓as2_t, ↓isLL_l, zLLo, uLLix, zLLput, oRep, fJoin, uV2, fSortS, fSortP, oLLe, iZp, iEn, iRv, iRr1, ↓slW_d, ↓slW_o, ↓slW_P, ↓slW_s, ↓hasS_d, ↓hasS_o, ↓hasS_f, ↓hasS_s, uV, uN, u1, o1, o2, oN, ↓fIn_l, ↓fIn_s, fCat, ↓fList_l, ↓fList_t, ↓fTup_l, ↓fTup_t, ↓fInt1_i, ↓fInt1_b, ↓lstR_l, ↓lstR_P, zM1, zM0, fApp, ↓fExt_l, ↓fExt_t, fRev, fClr, zIns, uPop, uPopI, ↓slF_d, ↓slF_o, ↓slF_s, uVf, pNo, pSo, ↓fSl_s, ↓fSl_t, uSl, oSl, oSlN, ↓scal_n, ↓scal_b, ↓scal_i, ↓scal_s, ↓kS_d, ↓ret_S, ↓see_n, ↓see_d, ↓see_s, rV, uCallS, rNil, rD, rS, uCallA, oCallA, ↓toS_d, ↓toS_f, ↓toS_s, ↓slS_0, ↓slS_s, ↓retA_d, ↓retA_o, ↓retA_O, ↓backL_n, ↓backL_s, ↓backL_d, ↓backL_f, ↓lok_n, ↓lok_s, ↓lok_d, ↓lok_f, ↓lent_n, ↓lent_s, ↓lent_d, ↓lent_f, bYes, oLc, ↓clr_n, ↓clr_c, ↓clr2_n, ↓clr2_c, ↓rest_n, ↓rest_c, ↓keep1_d, ↓keep1_o, ↓keep1_f, ↓keep1_no, ↓keep1_s, ↓asLL_l, oLL0, zLLn, zLLa, uLLlen, List.mem_cons, List.not_mem_nil, Nat.reduceEqDiff, eqv_list, eqv_tuple, eqv_none, ↓asI_i, ↓asB_b, ↓asS_s, ↓asL_l, ↓asT_t, ↓slD_0, ↓slD_s, ↓slO_0, ↓slO_s, ↓asR_l, ↓fAdd_i, ↓fAdd_s, ↓ixbo_0, ↓ixbo_1, ↓ixbo_2, ↓ixbo_3, ↓ixD_l, ↓ixD_t, ↓ixD_s, ↓arg1_1, ↓arg2_2, ↓fLen1_l, ↓fLen1_t, ↓fLen1_s, ↓asC_c, ↓asQ_l, ↓asQ_t, ↓asQ_s, ↓kD_d, ↓kD_o, ↓kO_o, ↓fz_l, ↓fz_P, ↓fz_ll, ↓ret_d, ↓ret_o, ↓ret_O, ↓retL_d, ↓retL_o, ↓retL_O, ↓atD_0, ↓atD_1, ↓atD_2, ↓atD_3, ↓atD_b1, ↓atD_b2, ↓atD_b3, ↓ixP_30, ↓ixP_31, ↓ixP_32, ↓if_true, ↓if_false, zNext, zSet, zSetO, zDrop, zRet, zRetO, zRetP, zRetN, zIf, zPar, zAsg, zPut, gN, gsNil, gsCons, gT, uVar, uC, uFz, u2, fI, fI0, fEq, fLtD, uIxO, uOwn, uCB, oCB, fLen, fLenO, fAbs, wB, wNot, wAnd, wOr, uAnd, uOr, uNot, uIf, aNil, aCons, uTup, oLst, fIx, oVar, iSeq, iR1, iR2, uCall, oCall, uLend, oLend, shaped_iff, sh_non, sh_int, sh_bool, sh_str, eqv_int, eqv_str, eqv_bool, ixN_30, ixN_31, ixN_32, ixN_20, ixN_21, atI_0, atI_1, atI_2, atI_3, atI_b1, atI_b2, atI_b3, List.length_map, Int.reduceEq, forall_const, implies_true, and_assoc, sz_0, sz_1, sz_2, sz_3, sz_4, sz_5, sz_6, sz_7, sz_8, Bool.not_eq_true', beq_eq_false_iff_ne, beq_iff_eq, ne_eq, Bool.and_eq_true, Bool.or_eq_true, decide_eq_false_iff_not, not_false_eq_true, not_true_eq_false, Bool.not_true, Bool.not_false, isI_n, isI_b, isI_i, isI_s, isI_l, isI_t, isB_n, isB_b, isB_i, isB_s, isB_l, isB_t, isS_n, isS_b, isS_i, isS_s, isS_l, isS_t, isL_n, isL_b, isL_i, isL_s, isL_l, isL_t, isT_n, isT_b, isT_i, isT_s, isT_l, isT_t, isN_n, isN_b, isN_i, isN_s, isN_l, isN_t, ca_0, ca_1, ca_2, ca_3, ca_4, ca_5, ca_6, Int.reduceToNat, Int.toNat_natCast, Int.reducePow, Int.reduceMul, Int.reduceLT, Int.reduceLE, Int.reduceNeg, zFor,   List.replicate, List.length_cons, List.length_nil, List.nil_append, List.cons_append, List.append_nil, List.map_cons, List.map_nil, List.set_cons_zero, List.set_cons_succ, List.getElem?_cons_zero, List.getElem?_cons_succ, Option.some.injEq, S.d.injEq, S.o.injEq, Res.lst.injEq, Res.lstP.injEq, PyData.int.injEq, PyData.str.injEq, PyData.bool.injEq, PyData.list.injEq, PyData.tuple.injEq, List.cons.injEq, reduceCtorEq,   exists_eq_left', exists_eq_left, exists_eq_right, exists_eq_right', true_and, and_true, false_and, and_false, exists_false, false_or, or_false, exists_and_left, exists_and_right, exists_eq', exists_eq, exists_const, Bool.false_eq_true, ite_true, ite_false, decide_eq_true_eq, Nat.sub_self, Nat.zero_add, Nat.add_sub_cancel, Nat.reduceSub, Nat.reduceAdd])
theorem c_law_next {P : Program} {w : World} {K : PySem.W.Frag} {mg : Str → Option Value} {base : Heap} (hb : Bi K mg) (D : Df K mg "_law_next" (topS 10) ["feed", "many"]) (C__law_draw : Cal P w K mg base "_law_draw" 1 ["script", "k", "many"] T_law_draw) : Cal P w K mg base "_law_next" 2 ["feed", "many"] T_law_next := by
  obtain ⟨f, fd, F, hm, hB⟩ := D
  refine ⟨f, fd, fn_dP (k := 1) F sc_law_next ?hT (fun cdv A outer s H E hr => (q_cons (s_put 0 (d_add (d_ixN 0 (fun _ _ => rfl) d_int) d_int) d_int)
 (q_cons (s_if (DW.dt (w_or (t_eq hr.units (d_lenV hb.len (DE.dv (d_ixN 0 (fun _ _ => rfl) d_int))) d_int) (w_or1 (t_eq hr.units (d_mod (d_ix (fun _ _ => rfl) (d_ixN 0 (fun _ _ => rfl) d_int) d_int) d_int) d_int))))
 (q_one (s_ret (d_callC C__law_draw (hr.mono (by decide)) (a_cons (d_ixN 0 (fun _ _ => rfl) d_int) (a_cons (d_ixN 0 (fun _ _ => rfl) d_int) (a_cons (dv 1) a_nil)))))) q_nil)
 (q_cons (s_set (j := 2) sc_law_next.nd (d_mod (d_ixN 0 (fun _ _ => rfl) d_int) (dv 1)))
 (q_cons (s_put 0 (d_fdiv (d_ixN 0 (fun _ _ => rfl) d_int) (dv 1)) d_int)
 (q_one (s_ret (dv 2)))))))), hm, F.kp, hB⟩
  case hT =>
    intro a Q h
    obtain ⟨v, many, rfl, hm, hb9, q⟩ := h
    refine ⟨rfl, some v, FeedP, rfl, ?_⟩
    rintro ds ⟨c, k, ns, rfl⟩
    walk_at "wpt"
    have hm0 : ¬ many = 0 := by omega
    have fin : ∀ r, 0 ≤ r → r < many → ∀ l, Q (.d (.int r)) (.o (some v) (.lstP FeedP) :: l) := fun r h1 h2 l => q r h1 h2 _ rfl
    split
    · exact ⟨hm, fun r h1 h2 => ⟨⟨_, _, ns, rfl⟩, fin r h1 h2 _⟩⟩
    · rename_i hl
      obtain ⟨n, _, hn⟩ := atI_ints (ns := ns) (i := 0) (by omega) (by omega)
      refine ⟨_, hn, ?_⟩
      walk_at "wpt"
      split
      · exact ⟨hm, fun r h1 h2 => ⟨⟨_, _, ns, rfl⟩, fin r h1 h2 _⟩⟩
      · exact ⟨hm0, divA_b hm0 hb9 (by decide), ⟨_, _, ns, rfl⟩, fin _ (fmod_pos hm).1 (fmod_pos hm).2 _⟩

def T_law_great : TF := fun a Q => ∃ (v : Lt), a = [.o (some v) (.lstP FeedP)] ∧ ∀ r, 0 ≤ r → r < big → retL v (.lstP FeedP) Q (.d (.int r))
theorem TE_law_great {v : Lt} {Q : S → Dl.Ctx → Prop} : T_law_great [.o (some v) (.lstP FeedP)] Q = ∀ r, 0 ≤ r → r < big → retL v (.lstP FeedP) Q (.d (.int r)) := propext ⟨fun ⟨_, e, q⟩ => by cases e; exact q, fun q => ⟨_, rfl, q⟩⟩
theorem sc_law_great : FnScope ["feed"] ["feed"] (defScope (topS 11)) := ⟨rfl, rfl, rfl, by decide +kernel, rfl, by decide +kernel, by decide +kernel⟩
local macro_rules | `(tactic| walk_at "wpt") => `(tactic| simp (maxSteps := 1000000) only [↓TE_law_next, ↓reduceIte, ↓retA_kO, ↓retA_kD, ↓retA_kDo, ↓retA_kS, ↓asIs_m, ↓asBs_m, ↓asSs_m, fSum, fMin, fMax, fAll, fAny, fSortI, fMin2, fMax2, fStr, ↓fIntS_i, ↓fIntS_b, ↓fIntS_s, oLcN, fSortST, fSortT, zSeqX, zIfX, zRaise, zTry, ↓bare_d, ↓bare_o, ↓bare_l, ↓bare_no, ↓bare_f, ↓bare_g, ↓bare_P, ↓bare_dic, uSee, bSee, uSeeA, bSeeA, zAl, zInsLL, zForAl, osNil, osCons, oDisp, zLLclr, zLLapp, oSortK, uIsE, oSplit, uLendT, S.f.injEq, eq_self, ↓fAddA_i, ↓fAddA_s, ↓fAddA_t, fRepT, oRg1, uChain, ↓slWL_d, ↓slWL_o, ↓slWL_l, ↓slWL_s, ↓seeL_n, ↓seeL_d, ↓seeL_s, uCallSL, zLLfor, gTL, iZpA, ↓as2_l, ↓as2_t, ↓isLL_l, zLLo, uLLix, zLLput, oRep, fJoin, uV2, fSortS, fSortP, oLLe, iZp, iEn, iRv, iRr1, ↓slW_d, ↓slW_o, ↓slW_P, ↓slW_s, ↓hasS_d, ↓hasS_o, ↓hasS_f, ↓hasS_s, uV, uN, u1, o1, o2, oN, ↓fIn_l, ↓fIn_s, fCat, ↓fList_l, ↓fList_t, ↓fTup_l, ↓fTup_t, ↓fInt1_i, ↓fInt1_b, ↓lstR_l, ↓lstR_P, zM1, zM0, fApp, ↓fExt_l, ↓fExt_t, fRev, fClr, zIns, uPop, uPopI, ↓slF_d, ↓slF_o, ↓slF_s, uVf, pNo, pSo, ↓fSl_s, ↓fSl_t, uSl, oSl, oSlN, ↓scal_n, ↓scal_b, ↓scal_i, ↓scal_s, ↓kS_d, ↓ret_S, ↓see_n, ↓see_d, ↓see_s, rV, uCallS, rNil, rD, rS, uCallA, oCallA, ↓toS_d, ↓toS_f, ↓toS_s, ↓slS_0, ↓slS_s, ↓retA_d, ↓retA_o, ↓retA_O, ↓backL_n, ↓backL_s, ↓backL_d, ↓backL_f, ↓lok_n, ↓lok_s, ↓lok_d, ↓lok_f, ↓lent_n, ↓lent_s, ↓lent_d, ↓lent_f, bYes, oLc, ↓clr_n, ↓clr_c, ↓clr2_n, ↓clr2_c, ↓rest_n, ↓rest_c, ↓keep1_d, ↓keep1_o, ↓keep1_f, ↓keep1_no, ↓keep1_s, ↓asLL_l, oLL0, zLLn, zLLa, uLLlen, List.mem_cons, List.not_mem_nil, Nat.reduceEqDiff, eqv_list, eqv_tuple, eqv_none, ↓asI_i, ↓asB_b, ↓asS_s, ↓asL_l, ↓asT_t, ↓slD_0, ↓slD_s, ↓slO_0, ↓slO_s, ↓asR_l, ↓fAdd_i, ↓fAdd_s, ↓ixbo_0, ↓ixbo_1, ↓ixbo_2, ↓ixbo_3, ↓ixD_l, ↓ixD_t, ↓ixD_s, ↓arg1_1, ↓arg2_2, ↓fLen1_l, ↓fLen1_t, ↓fLen1_s, ↓asC_c, ↓asQ_l, ↓asQ_t, ↓asQ_s, ↓kD_d, ↓kD_o, ↓kO_o, ↓fz_l, ↓fz_P, ↓fz_ll, ↓ret_d, ↓ret_o, ↓ret_O, ↓retL_d, ↓retL_o, ↓retL_O, ↓atD_0, ↓atD_1, ↓atD_2, ↓atD_3, ↓atD_b1, ↓atD_b2, ↓atD_b3, ↓ixP_30, ↓ixP_31, ↓ixP_32, ↓if_true, ↓if_false, zNext, zSeq, zSet, zSetO, zDrop, zRet, zRetO, zRetP, zRetN, zIf, zPar, zAsg, zPut, gN, gsNil, gsCons, gT, uVar, uC, uFz, u2, fI, fI0, fEq, fLtD, uIxO, uOwn, uCB, oCB, fLen, fLenO, fAbs, wB, wNot, wAnd, wOr, uAnd, uOr, uNot, uIf, aNil, aCons, uTup, oLst, fIx, oVar, iSeq, iR1, iR2, uCall, oCall, uLend, oLend, shaped_iff, sh_non, sh_int, sh_bool, sh_str, eqv_int, eqv_str, eqv_bool, ixN_30, ixN_31, ixN_32, ixN_20, ixN_21, atI_0, atI_1, atI_2, atI_3, atI_b1, atI_b2, atI_b3, List.length_map, Int.reduceEq, forall_const, implies_true, and_assoc, sz_0, sz_1, sz_2, sz_3, sz_4, sz_5, sz_6, sz_7, sz_8, Bool.not_eq_true', beq_eq_false_iff_ne, beq_iff_eq, ne_eq, Bool.and_eq_true, Bool.or_eq_true, decide_eq_false_iff_not, not_false_eq_true, not_true_eq_false, Bool.not_true, Bool.not_false, isI_n, isI_b, isI_i, isI_s, isI_l, isI_t, isB_n, isB_b, isB_i, isB_s, isB_l, isB_t, isS_n, isS_b, isS_i, isS_s, isS_l, isS_t, isL_n, isL_b, isL_i, isL_s, isL_l, isL_t, isT_n, isT_b, isT_i, isT_s, isT_l, isT_t, isN_n, isN_b, isN_i, isN_s, isN_l, isN_t, ca_0, ca_1, ca_2, ca_3, ca_4, ca_5, ca_6, Int.reduceToNat, Int.toNat_natCast, Int.reducePow, Int.reduceMul, Int.reduceLT, Int.reduceLE, Int.reduceNeg, zFor,   List.replicate, List.length_cons, List.length_nil, List.nil_append, List.cons_append, List.append_nil, List.map_cons, List.map_nil, List.set_cons_zero, List.set_cons_succ, List.getElem?_cons_zero, List.getElem?_cons_succ, Option.some.injEq, S.d.injEq, S.o.injEq, Res.lst.injEq, Res.lstP.injEq, PyData.int.injEq, PyData.str.injEq, PyData.bool.injEq, PyData.list.injEq, PyData.tuple.injEq, List.cons.injEq, reduceCtorEq,   exists_eq_left', exists_eq_left, exists_eq_right, exists_eq_right', true_and, and_true, false_and, and_false, exists_false, false_or, or_false, exists_and_left, exists_and_right, exists_eq', exists_eq, exists_const, Bool.false_eq_true, ite_true, ite_false, decide_eq_true_eq, Nat.sub_self, Nat.zero_add, Nat.add_sub_cancel, Nat.reduceSub, Nat.reduceAdd])
local macro_rules | `(tactic| walk_at "st") => `(tactic| simp (maxSteps := 1000000) only [↓TE_law_next, ↓reduceIte, ↓retA_kO, ↓retA_kD, ↓retA_kDo, ↓retA_kS, ↓asIs_m, ↓asBs_m, ↓asSs_m, fSum, fMin, fMax, fAll, fAny, fSortI, fMin2, fMax2, fStr, ↓fIntS_i, ↓fIntS_b, ↓fIntS_s, oLcN, fSortST, fSortT, zSeqX, zIfX, zRaise, zTry, ↓bare_d, ↓bare_o, ↓bare_l, ↓bare_no, ↓bare_f, ↓bare_g, ↓bare_P, ↓bare_dic, uSee, bSee, uSeeA, bSeeA, zAl, zInsLL, zForAl, osNil, osCons, oDisp, zLLclr, zLLapp, oSortK, uIsE, oSplit, uLendT, S.f.injEq, eq_self, ↓fAddA_i, ↓fAddA_s, ↓fAddA_t, fRepT, oRg1, uChain, ↓slWL_d, ↓slWL_o, ↓slWL_l, ↓slWL_s, ↓seeL_n, ↓seeL_d, ↓seeL_s, uCallSL, zLLfor, gTL, iZpA, ↓as2_l, ↓as2_t, ↓isLL_l, zLLo, uLLix, zLLput, oRep, fJoin, uV2, fSortS, fSortP, oLLe, iZp, iEn, iRv, iRr1, ↓slW_d, ↓slW_o, ↓slW_P, ↓slW_s, ↓hasS_d, ↓hasS_o, ↓hasS_f, ↓hasS_s, uV, uN, u1, o1, o2, oN, ↓fIn_l, ↓fIn_s, fCat, ↓fList_l, ↓fList_t, ↓fTup_l, ↓fTup_t, ↓fInt1_i, ↓fInt1_b, ↓lstR_l, ↓lstR_P, zM1, zM0, fApp, ↓fExt_l, ↓fExt_t, fRev, fClr, zIns, uPop, uPopI, ↓slF_d, ↓slF_o, ↓slF_s, uVf, pNo, pSo, ↓fSl_s, ↓fSl_t, uSl, oSl, oSlN, ↓scal_n, ↓scal_b, ↓scal_i, ↓scal_s, ↓kS_d, ↓ret_S, ↓see_n, ↓see_d, ↓see_s, rV, uCallS, rNil, rD, rS, uCallA, oCallA, ↓toS_d, ↓toS_f, ↓toS_s, ↓slS_0, ↓slS_s, ↓retA_d, ↓retA_o, ↓retA_O, ↓backL_n, ↓backL_s, ↓backL_d, ↓backL_f, ↓lok_n, ↓lok_s, ↓lok_d, ↓lok_f, ↓lent_n, ↓lent_s, ↓lent_d, ↓lent_f, bYes, oLc, ↓clr_n, ↓clr_c, ↓clr2_n, ↓clr2_c, ↓rest_n, ↓rest_c, ↓keep1_d, ↓keep1_o, ↓keep1_f, ↓keep1_no, ↓keep1_s, ↓asLL_l, oLL0, zLLn, zLLa, uLLlen, List.mem_cons, List.not_mem_nil, Nat.reduceEqDiff, eqv_list, eqv_tuple, eqv_none, ↓asI_i, ↓asB_b, ↓asS_s, ↓asL_l, ↓asT_t, ↓slD_0, ↓slD_s, ↓slO_0, ↓slO_s, ↓asR_l, ↓fAdd_i, ↓fAdd_s, ↓ixbo_0, ↓ixbo_1, ↓ixbo_2, ↓ixbo_3, ↓ixD_l, ↓ixD_t, ↓ixD_s, ↓arg1_1, ↓arg2_2, ↓fLen1_l, ↓fLen1_t, ↓fLen1_s, ↓asC_c, ↓asQ_l, ↓asQ_t, ↓asQ_s, ↓kD_d, ↓kD_o, ↓kO_o, ↓fz_l, ↓fz_P, ↓fz_ll, ↓ret_d, ↓ret_o, ↓ret_O, ↓retL_d, ↓retL_o, ↓retL_O, ↓atD_0, ↓atD_1, ↓atD_2, ↓atD_3, ↓atD_b1, ↓atD_b2, ↓atD_b3, ↓ixP_30, ↓ixP_31, ↓ixP_32, ↓if_true, ↓if_false, zNext, zSet, zSetO, zDrop, zRet, zRetO, zRetP, zRetN, zIf, zPar, zAsg, zPut, gN, gsNil, gsCons, gT, uVar, uC, uFz, u2, fI, fI0, fEq, fLtD, uIxO, uOwn, uCB, oCB, fLen, fLenO, fAbs, wB, wNot, wAnd, wOr, uAnd, uOr, uNot, uIf, aNil, aCons, uTup, oLst, fIx, oVar, iSeq, iR1, iR2, uCall, oCall, uLend, oLend, shaped_iff, sh_non, sh_int, sh_bool, sh_str, eqv_int, eqv_str, eqv_bool, ixN_30, ixN_31, ixN_32, ixN_20, ixN_21, atI_0, atI_1, atI_2, atI_3, atI_b1, atI_b2, atI_b3, List.length_map, Int.reduceEq, forall_const, implies_true, and_assoc, sz_0, sz_1, sz_2, sz_3, sz_4, sz_5, sz_6, sz_7, sz_8, Bool.not_eq_true', beq_eq_false_iff_ne, beq_iff_eq, ne_eq, Bool.and_eq_true, Bool.or_eq_true, decide_eq_false_iff_not, not_false_eq_true, not_true_eq_false, Bool.not_true, Bool.not_false, isI_n, isI_b, isI_i, isI_s, isI_l, isI_t, isB_n, isB_b, isB_i, isB_s, isB_l, isB_t, isS_n, isS_b, isS_i, isS_s, isS_l, isS_t, isL_n, isL_b, isL_i, isL_s, isL_l, isL_t, isT_n, isT_b, isT_i, isT_s, isT_l, isT_t, isN_n, isN_b, isN_i, isN_s, isN_l, isN_t, ca_0, ca_1, ca_2, ca_3, ca_4, ca_5, ca_6, Int.reduceToNat, Int.toNat_natCast, Int.reducePow, Int.reduceMul, Int.reduceLT, Int.reduceLE, Int.reduceNeg, zFor,   List.replicate, List.length_cons, List.length_nil, List.nil_append, List.cons_append, List.append_nil, List.map_cons, List.map_nil, List.set_cons_zero, List.set_cons_succ, List.getElem?_cons_zero, List.getElem?_cons_succ, Option.some.injEq, S.d.injEq, S.o.injEq, Res.lst.injEq, Res.lstP.injEq, PyData.int.injEq, PyData.str.injEq, PyData.bool.injEq, PyData.list.injEq, PyData.tuple.injEq, List.cons.injEq, reduceCtorEq,   exists_eq_left', exists_eq_left, exists_eq_right, exists_eq_right', true_and, and_true, false_and, and_false, exists_false, false_or, or_false, exists_and_left, exists_and_right, exists_eq', exists_eq, exists_const, Bool.false_eq_true, ite_true, ite_false, decide_eq_true_eq, Nat.sub_self, Nat.zero_add, Nat.add_sub_cancel, Nat.reduceSub, Nat.reduceAdd])
theorem c_law_great {P : Program} {w : World} {K : PySem.W.Frag} {mg : Str → Option Value} {base : Heap} (hb : Bi K mg) (D : Df K mg "_law_great" (topS 11) ["feed"]) (C__law_next : Cal P w K mg base "_law_next" 2 ["feed", "many"] T_law_next) : Cal P w K mg base "_law_great" 3 ["feed"] T_law_great := by
  obtain ⟨f, fd, F, hm, hB⟩ := D
  refine ⟨f, fd, fn_d (k := 2) F sc_law_great ?hT (fun cdv A outer s H E hr => (q_one (s_ret (d_mod (d_add (d_mul (d_lendC 0 C__law_next (hr.mono (by decide)) (a_cons (d_pow d_int d_int) a_nil)) (d_pow d_int d_int)) (d_lendC 0 C__law_next (hr.mono (by decide)) (a_cons (d_pow d_int d_int) a_nil))) (d_pow d_int d_int))))), hm, F.kp, hB⟩
  case hT =>
    intro a Q h
    obtain ⟨v, rfl, q⟩ := h
    refine ⟨rfl, ?_⟩
    walk_at "wpt"
    refine ⟨powA (by decide), by decide, fun x x0 hx => ⟨powA (by decide), ?_⟩⟩
    have bx : Bd 200 x := bd_of (by omega) (Int.lt_trans hx (by decide))
    refine ⟨mulA_b bx (m := 200) (by decide) (by decide), powA (by decide), by decide, fun y y0 hy => ⟨powA (by decide), ?_⟩⟩
    exact q _ (fmod_pos (by decide)).1 (Int.lt_of_lt_of_le (fmod_pos (by decide)).2 (by decide)) _ rfl

def T_law_long : TF := fun a Q => ∃ (v : Lt), a = [.o (some v) (.lstP FeedP)] ∧ ∀ r, 1 ≤ r → r ≤ big → retL v (.lstP FeedP) Q (.d (.int r))
theorem TE_law_long {v : Lt} {Q : S → Dl.Ctx → Prop} : T_law_long [.o (some v) (.lstP FeedP)] Q = ∀ r, 1 ≤ r → r ≤ big → retL v (.lstP FeedP) Q (.d (.int r)) := propext ⟨fun ⟨_, e, q⟩ => by cases e; exact q, fun q => ⟨_, rfl, q⟩⟩
theorem sc_law_long : FnScope ["feed"] ["feed"] (defScope (topS 12)) := ⟨rfl, rfl, rfl, by decide +kernel, rfl, by decide +kernel, by decide +kernel⟩
local macro_rules | `(tactic| walk_at "wpt") => `(tactic| simp (maxSteps := 1000000) only [↓TE_law_great, ↓TE_law_next, ↓reduceIte, ↓retA_kO, ↓retA_kD, ↓retA_kDo, ↓retA_kS, ↓asIs_m, ↓asBs_m, ↓asSs_m, fSum, fMin, fMax, fAll, fAny, fSortI, fMin2, fMax2, fStr, ↓fIntS_i, ↓fIntS_b, ↓fIntS_s, oLcN, fSortST, fSortT, zSeqX, zIfX, zRaise, zTry, ↓bare_d, ↓bare_o, ↓bare_l, ↓bare_no, ↓bare_f, ↓bare_g, ↓bare_P, ↓bare_dic, uSee, bSee, uSeeA, bSeeA, zAl, zInsLL, zForAl, osNil, osCons, oDisp, zLLclr, zLLapp, oSortK, uIsE, oSplit, uLendT, S.f.injEq, eq_self, ↓fAddA_i, ↓fAddA_s, ↓fAddA_t, fRepT, oRg1, uChain, ↓slWL_d, ↓slWL_o, ↓slWL_l, ↓slWL_s, ↓seeL_n, ↓seeL_d, ↓seeL_s, uCallSL, zLLfor, gTL, iZpA, ↓as2_l, ↓as2_t, ↓isLL_l, zLLo, uLLix, zLLput, oRep, fJoin, uV2, fSortS, fSortP, oLLe, iZp, iEn, iRv, iRr1, ↓slW_d, ↓slW_o, ↓slW_P, ↓slW_s, ↓hasS_d, ↓hasS_o, ↓hasS_f, ↓hasS_s, uV, uN, u1, o1, o2, oN, ↓fIn_l, ↓fIn_s, fCat, ↓fList_l, ↓fList_t, ↓fTup_l, ↓fTup_t, ↓fInt1_i, ↓fInt1_b, ↓lstR_l, ↓lstR_P, zM1, zM0, fApp, ↓fExt_l, ↓fExt_t, fRev, fClr, zIns, uPop, uPopI, ↓slF_d, ↓slF_o, ↓slF_s, uVf, pNo, pSo, ↓fSl_s, ↓fSl_t, uSl, oSl, oSlN, ↓scal_n, ↓scal_b, ↓scal_i, ↓scal_s, ↓kS_d, ↓ret_S, ↓see_n, ↓see_d, ↓see_s, rV, uCallS, rNil, rD, rS, uCallA, oCallA, ↓toS_d, ↓toS_f, ↓toS_s, ↓slS_0, ↓slS_s, ↓retA_d, ↓retA_o, ↓retA_O, ↓backL_n, ↓backL_s, ↓backL_d, ↓backL_f, ↓lok_n, ↓lok_s, ↓lok_d, ↓lok_f, ↓lent_n, ↓lent_s, ↓lent_d, ↓lent_f, bYes, oLc, ↓clr_n, ↓clr_c, ↓clr2_n, ↓clr2_c, ↓rest_n, ↓rest_c, ↓keep1_d, ↓keep1_o, ↓keep1_f, ↓keep1_no, ↓keep1_s, ↓asLL_l, oLL0, zLLn, zLLa, uLLlen, List.mem_cons, List.not_mem_nil, Nat.reduceEqDiff, eqv_list, eqv_tuple, eqv_none, ↓asI_i, ↓asB_b, ↓asS_s, ↓asL_l, ↓asT_t, ↓slD_0, ↓slD_s, ↓slO_0, ↓slO_s, ↓asR_l, ↓fAdd_i, ↓fAdd_s, ↓ixbo_0, ↓ixbo_1, ↓ixbo_2, ↓ixbo_3, ↓ixD_l, ↓ixD_t, ↓ixD_s, ↓arg1_1, ↓arg2_2, ↓fLen1_l, ↓fLen1_t, ↓fLen1_s, ↓asC_c, ↓asQ_l, ↓asQ_t, ↓asQ_s, ↓kD_d, ↓kD_o, ↓kO_o, ↓fz_l, ↓fz_P, ↓fz_ll, ↓ret_d, ↓ret_o, ↓ret_O, ↓retL_d, ↓retL_o, ↓retL_O, ↓atD_0, ↓atD_1, ↓atD_2, ↓atD_3, ↓atD_b1, ↓atD_b2, ↓atD_b3, ↓ixP_30, ↓ixP_31, ↓ixP_32, ↓if_true, ↓if_false, zNext, zSeq, zSet, zSetO, zDrop, zRet, zRetO, zRetP, zRetN, zIf, zPar, zAsg, zPut, gN, gsNil, gsCons, gT, uVar, uC, uFz, u2, fI, fI0, fEq, fLtD, uIxO, uOwn, uCB, oCB, fLen, fLenO, fAbs, wB, wNot, wAnd, wOr, uAnd, uOr, uNot, uIf, aNil, aCons, uTup, oLst, fIx, oVar, iSeq, iR1, iR2, uCall, oCall, uLend, oLend, shaped_iff, sh_non, sh_int, sh_bool, sh_str, eqv_int, eqv_str, eqv_bool, ixN_30, ixN_31, ixN_32, ixN_20, ixN_21, atI_0, atI_1, atI_2, atI_3, atI_b1, atI_b2, atI_b3, List.length_map, Int.reduceEq, forall_const, implies_true, and_assoc, sz_0, sz_1, sz_2, sz_3, sz_4, sz_5, sz_6, sz_7, sz_8, Bool.not_eq_true', beq_eq_false_iff_ne, beq_iff_eq, ne_eq, Bool.and_eq_true, Bool.or_eq_true, decide_eq_false_iff_not, not_false_eq_true, not_true_eq_false, Bool.not_true, Bool.not_false, isI_n, isI_b, isI_i, isI_s, isI_l, isI_t, isB_n, isB_b, isB_i, isB_s, isB_l, isB_t, isS_n, isS_b, isS_i, isS_s, isS_l, isS_t, isL_n, isL_b, isL_i, isL_s, isL_l, isL_t, isT_n, isT_b, isT_i, isT_s, isT_l, isT_t, isN_n, isN_b, isN_i, isN_s, isN_l, isN_t, ca_0, ca_1, ca_2, ca_3, ca_4, ca_5, ca_6, Int.reduceToNat, Int.toNat_natCast, Int.reducePow, Int.reduceMul, Int.reduceLT, Int.reduceLE, Int.reduceNeg, zFor,   List.replicate, List.length_cons, List.length_nil, List.nil_append, List.cons_append, List.append_nil, List.map_cons, List.map_nil, List.set_cons_zero, List.set_cons_succ, List.getElem?_cons_zero, List.getElem?_cons_succ, Option.some.injEq, S.d.injEq, S.o.injEq, Res.lst.injEq, Res.lstP.injEq, PyData.int.injEq, PyData.str.injEq, PyData.bool.injEq, PyData.list.injEq, PyData.tuple.injEq, List.cons.injEq, reduceCtorEq,   exists_eq_left', exists_eq_left, exists_eq_right, exists_eq_right', true_and, and_true, false_and, and_false, exists_false, false_or, or_false, exists_and_left, exists_and_right, exists_eq', exists_eq, exists_const, Bool.false_eq_true, ite_true, ite_false, decide_eq_true_eq, Nat.sub_self, Nat.zero_add, Nat.add_sub_cancel, Nat.reduceSub, Nat.reduceAdd])
local macro_rules | `(tactic| walk_at "st") => `(tactic| simp (maxSteps := 1000000) only [↓TE_law_great, ↓TE_law_next, ↓reduceIte, ↓retA_kO, ↓retA_kD, ↓retA_kDo, ↓retA_kS, ↓asIs_m, ↓asBs_m, ↓asSs_m, fSum, fMin, fMax, fAll, fAny, fSortI, fMin2, fMax2, fStr, ↓fIntS_i, ↓fIntS_b, ↓fIntS_s, oLcN, fSortST, fSortT, zSeqX, zIfX, zRaise, zTry, ↓bare_d, ↓bare_o, ↓bare_l, ↓bare_no, ↓bare_f, ↓bare_g, ↓bare_P, ↓bare_dic, uSee, bSee, uSeeA, bSeeA, zAl, zInsLL, zForAl, osNil, osCons, oDisp, zLLclr, zLLapp, oSortK, uIsE, oSplit, uLendT, S.f.injEq, eq_self, ↓fAddA_i, ↓fAddA_s, ↓fAddA_t, fRepT, oRg1, uChain, ↓slWL_d, ↓slWL_o, ↓slWL_l, ↓slWL_s, ↓seeL_n, ↓seeL_d, ↓seeL_s, uCallSL, zLLfor, gTL, iZpA, ↓as2_l, ↓as2_t, ↓isLL_l, zLLo, uLLix, zLLput, oRep, fJoin, uV2, fSortS, fSortP, oLLe, iZp, iEn, iRv, iRr1, ↓slW_d, ↓slW_o, ↓slW_P, ↓slW_s, ↓hasS_d, ↓hasS_o, ↓hasS_f, ↓hasS_s, uV, uN, u1, o1, o2, oN, ↓fIn_l, ↓fIn_s, fCat, ↓fList_l, ↓fList_t, ↓fTup_l, ↓fTup_t, ↓fInt1_i, ↓fInt1_b, ↓lstR_l, ↓lstR_P, zM1, zM0, fApp, ↓fExt_l, ↓fExt_t, fRev, fClr, zIns, uPop, uPopI, ↓slF_d, ↓slF_o, ↓slF_s, uVf, pNo, pSo, ↓fSl_s, ↓fSl_t, uSl, oSl, oSlN, ↓scal_n, ↓scal_b, ↓scal_i, ↓scal_s, ↓kS_d, ↓ret_S, ↓see_n, ↓see_d, ↓see_s, rV, uCallS, rNil, rD, rS, uCallA, oCallA, ↓toS_d, ↓toS_f, ↓toS_s, ↓slS_0, ↓slS_s, ↓retA_d, ↓retA_o, ↓retA_O, ↓backL_n, ↓backL_s, ↓backL_d, ↓backL_f, ↓lok_n, ↓lok_s, ↓lok_d, ↓lok_f, ↓lent_n, ↓lent_s, ↓lent_d, ↓lent_f, bYes, oLc, ↓clr_n, ↓clr_c, ↓clr2_n, ↓clr2_c, ↓rest_n, ↓rest_c, ↓keep1_d, ↓keep1_o, ↓keep1_f, ↓keep1_no, ↓keep1_s, ↓asLL_l, oLL0, zLLn, zLLa, uLLlen, List.mem_cons, List.not_mem_nil, Nat.reduceEqDiff, eqv_list, eqv_tuple, eqv_none, ↓asI_i, ↓asB_b, ↓asS_s, ↓asL_l, ↓asT_t, ↓slD_0, ↓slD_s, ↓slO_0, ↓slO_s, ↓asR_l, ↓fAdd_i, ↓fAdd_s, ↓ixbo_0, ↓ixbo_1, ↓ixbo_2, ↓ixbo_3, ↓ixD_l, ↓ixD_t, ↓ixD_s, ↓arg1_1, ↓arg2_2, ↓fLen1_l, ↓fLen1_t, ↓fLen1_s, ↓asC_c, ↓asQ_l, ↓asQ_t, ↓asQ_s, ↓kD_d, ↓kD_o, ↓kO_o, ↓fz_l, ↓fz_P, ↓fz_ll, ↓ret_d, ↓ret_o, ↓ret_O, ↓retL_d, ↓retL_o, ↓retL_O, ↓atD_0, ↓atD_1, ↓atD_2, ↓atD_3, ↓atD_b1, ↓atD_b2, ↓atD_b3, ↓ixP_30, ↓ixP_31, ↓ixP_32, ↓if_true, ↓if_false, zNext, zSet, zSetO, zDrop, zRet, zRetO, zRetP, zRetN, zIf, zPar, zAsg, zPut, gN, gsNil, gsCons, gT, uVar, uC, uFz, u2, fI, fI0, fEq, fLtD, uIxO, uOwn, uCB, oCB, fLen, fLenO, fAbs, wB, wNot, wAnd, wOr, uAnd, uOr, uNot, uIf, aNil, aCons, uTup, oLst, fIx, oVar, iSeq, iR1, iR2, uCall, oCall, uLend, oLend, shaped_iff, sh_non, sh_int, sh_bool, sh_str, eqv_int, eqv_str, eqv_bool, ixN_30, ixN_31, ixN_32, ixN_20, ixN_21, atI_0, atI_1, atI_2, atI_3, atI_b1, atI_b2, atI_b3, List.length_map, Int.reduceEq, forall_const, implies_true, and_assoc, sz_0, sz_1, sz_2, sz_3, sz_4, sz_5, sz_6, sz_7, sz_8, Bool.not_eq_true', beq_eq_false_iff_ne, beq_iff_eq, ne_eq, Bool.and_eq_true, Bool.or_eq_true, decide_eq_false_iff_not, not_false_eq_true, not_true_eq_false, Bool.not_true, Bool.not_false, isI_n, isI_b, isI_i, isI_s, isI_l, isI_t, isB_n, isB_b, isB_i, isB_s, isB_l, isB_t, isS_n, isS_b, isS_i, isS_s, isS_l, isS_t, isL_n, isL_b, isL_i, isL_s, isL_l, isL_t, isT_n, isT_b, isT_i, isT_s, isT_l, isT_t, isN_n, isN_b, isN_i, isN_s, isN_l, isN_t, ca_0, ca_1, ca_2, ca_3, ca_4, ca_5, ca_6, Int.reduceToNat, Int.toNat_natCast, Int.reducePow, Int.reduceMul, Int.reduceLT, Int.reduceLE, Int.reduceNeg, zFor,   List.replicate, List.length_cons, List.length_nil, List.nil_append, List.cons_append, List.append_nil, List.map_cons, List.map_nil, List.set_cons_zero, List.set_cons_succ, List.getElem?_cons_zero, List.getElem?_cons_succ, Option.some.injEq, S.d.injEq, S.o.injEq, Res.lst.injEq, Res.lstP.injEq, PyData.int.injEq, PyData.str.injEq, PyData.bool.injEq, PyData.list.injEq, PyData.tuple.injEq, List.cons.injEq, reduceCtorEq,   exists_eq_left', exists_eq_left, exists_eq_right, exists_eq_right', true_and, and_true, false_and, and_false, exists_false, false_or, or_false, exists_and_left, exists_and_right, exists_eq', exists_eq, exists_const, Bool.false_eq_true, ite_true, ite_false, decide_eq_true_eq, Nat.sub_self, Nat.zero_add, Nat.add_sub_cancel, Nat.reduceSub, Nat.reduceAdd])
theorem c_law_long {P : Program} {w : World} {K : PySem.W.Frag} {mg : Str → Option Value} {base : Heap} (hb : Bi K mg) (D : Df K mg "_law_long" (topS 12) ["feed"]) (C__law_great : Cal P w K mg base "_law_great" 3 ["feed"] T_law_great) (C__law_next : Cal P w K mg base "_law_next" 2 ["feed", "many"] T_law_next) : Cal P w K mg base "_law_long" 4 ["feed"] T_law_long := by
  obtain ⟨f, fd, F, hm, hB⟩ := D
  refine ⟨f, fd, fn_d (k := 3) F sc_law_long ?hT (fun cdv A outer s H E hr => (q_cons (s_if (t_gt (d_lendC 0 C__law_next (hr.mono (by decide)) (a_cons d_int a_nil)) d_int)
 (q_one (s_ret (d_add d_int (d_lendC 0 C__law_next (hr.mono (by decide)) (a_cons d_int a_nil))))) q_nil)
 (q_one (s_ret (d_add d_int (d_lendC 0 C__law_great (hr.mono (by decide)) a_nil)))))), hm, F.kp, hB⟩
  case hT =>
    intro a Q h
    obtain ⟨v, rfl, q⟩ := h
    refine ⟨rfl, ?_⟩
    walk_at "wpt"
    refine ⟨by decide, fun r r0 hr => ?_⟩
    split
    · exact ⟨by decide, fun x x0 hx => q _ (by omega) (Int.le_trans (show 1 + x ≤ 9 by omega) (by decide)) _ rfl⟩
    · exact fun x x0 hx => q _ (by omega) (by omega) _ rfl

def T_law_name : TF := fun a Q => ∃ (v : Lt) (X : S) (ws : List Str), a = [.o (some v) (.lstP FeedP), X] ∧ Lk X (ws.map PyData.str) ∧ (∀ w ∈ ws, WordOk w) ∧ ws.length < 26 ∧ ∀ w, WordOk w → w ∉ ws → retA [some (v, .lstP FeedP), pat1 X] Q (.d (.str w))
theorem TE_law_name {v u : Lt} {ws : List Str} {Q : S → Dl.Ctx → Prop} : T_law_name [.o (some v) (.lstP FeedP), .o (some u) (.lst (ws.map PyData.str))] Q = ((∀ w ∈ ws, WordOk w) ∧ ws.length < 26 ∧ ∀ w, WordOk w → w ∉ ws → retA [some (v, .lstP FeedP), some (u, .lst (ws.map PyData.str))] Q (.d (.str w))) := propext ⟨fun ⟨v', X, ws', e, h, q⟩ => by
  cases e
  rw [lk_o] at h
  have := str_inj h
  subst this
  exact q, fun q => ⟨_, _, _, rfl, lk_o.mpr rfl, q⟩⟩
def abc : Str := "abcdefghijklmnopqrstuvwxyz"
theorem abc_l : abc.cps.toList.length = 26 ∧ abc.cps.toList.all chOk = true ∧ abc.cps.toList.Nodup := by decide +kernel
/-- one letter more -/
theorem word_more {w : Str} {n : Nat} (h1 : w.cps.size < 8) (h2 : w.cps.toList.all chOk = true) (h3 : chOk n = true) : WordOk (w ++ (⟨#[n]⟩ : Str)) := by
  refine ⟨?_, ?_, ?_⟩
  · show 1 ≤ (w.cps ++ #[n]).size
    simp
  · show (w.cps ++ #[n]).size ≤ 8
    simp; omega
  · show ((w.cps ++ #[n]).toList).all chOk = true
    simp only [Array.toList_append, List.all_append, h2, Bool.true_and]
    simp [h3]
theorem sc_law_name : FnScope ["feed", "names", "letters", "word", "k", "letter"] ["feed", "names"] (defScope (topS 13)) := ⟨rfl, rfl, rfl, by decide +kernel, rfl, by decide +kernel, by decide +kernel⟩
local macro_rules | `(tactic| walk_at "wpt") => `(tactic| simp (maxSteps := 1000000) only [↓TE_law_next, ↓reduceIte, ↓retA_kO, ↓retA_kD, ↓retA_kDo, ↓retA_kS, ↓asIs_m, ↓asBs_m, ↓asSs_m, fSum, fMin, fMax, fAll, fAny, fSortI, fMin2, fMax2, fStr, ↓fIntS_i, ↓fIntS_b, ↓fIntS_s, oLcN, fSortST, fSortT, zSeqX, zIfX, zRaise, zTry, ↓bare_d, ↓bare_o, ↓bare_l, ↓bare_no, ↓bare_f, ↓bare_g, ↓bare_P, ↓bare_dic, uSee, bSee, uSeeA, bSeeA, zAl, zInsLL, zForAl, osNil, osCons, oDisp, zLLclr, zLLapp, oSortK, uIsE, oSplit, uLendT, S.f.injEq, eq_self, ↓fAddA_i, ↓fAddA_s, ↓fAddA_t, fRepT, oRg1, uChain, ↓slWL_d, ↓slWL_o, ↓slWL_l, ↓slWL_s, ↓seeL_n, ↓seeL_d, ↓seeL_s, uCallSL, zLLfor, gTL, iZpA, ↓as2_l, ↓as2_t, ↓isLL_l, zLLo, uLLix, zLLput, oRep, fJoin, uV2, fSortS, fSortP, oLLe, iZp, iEn, iRv, iRr1, ↓slW_d, ↓slW_o, ↓slW_P, ↓slW_s, ↓hasS_d, ↓hasS_o, ↓hasS_f, ↓hasS_s, uV, uN, u1, o1, o2, oN, ↓fIn_l, ↓fIn_s, fCat, ↓fList_l, ↓fList_t, ↓fTup_l, ↓fTup_t, ↓fInt1_i, ↓fInt1_b, ↓lstR_l, ↓lstR_P, zM1, zM0, fApp, ↓fExt_l, ↓fExt_t, fRev, fClr, zIns, uPop, uPopI, ↓slF_d, ↓slF_o, ↓slF_s, uVf, pNo, pSo, ↓fSl_s, ↓fSl_t, uSl, oSl, oSlN, ↓scal_n, ↓scal_b, ↓scal_i, ↓scal_s, ↓kS_d, ↓ret_S, ↓see_n, ↓see_d, ↓see_s, rV, uCallS, rNil, rD, rS, uCallA, oCallA, ↓toS_d, ↓toS_f, ↓toS_s, ↓slS_0, ↓slS_s, ↓retA_d, ↓retA_o, ↓retA_O, ↓backL_n, ↓backL_s, ↓backL_d, ↓backL_f, ↓lok_n, ↓lok_s, ↓lok_d, ↓lok_f, ↓lent_n, ↓lent_s, ↓lent_d, ↓lent_f, bYes, oLc, ↓clr_n, ↓clr_c, ↓clr2_n, ↓clr2_c, ↓rest_n, ↓rest_c, ↓keep1_d, ↓keep1_o, ↓keep1_f, ↓keep1_no, ↓keep1_s, ↓asLL_l, oLL0, zLLn, zLLa, uLLlen, List.mem_cons, List.not_mem_nil, Nat.reduceEqDiff, eqv_list, eqv_tuple, eqv_none, ↓asI_i, ↓asB_b, ↓asS_s, ↓asL_l, ↓asT_t, ↓slD_0, ↓slD_s, ↓slO_0, ↓slO_s, ↓asR_l, ↓fAdd_i, ↓fAdd_s, ↓ixbo_0, ↓ixbo_1, ↓ixbo_2, ↓ixbo_3, ↓ixD_l, ↓ixD_t, ↓ixD_s, ↓arg1_1, ↓arg2_2, ↓fLen1_l, ↓fLen1_t, ↓fLen1_s, ↓asC_c, ↓asQ_l, ↓asQ_t, ↓asQ_s, ↓kD_d, ↓kD_o, ↓kO_o, ↓fz_l, ↓fz_P, ↓fz_ll, ↓ret_d, ↓ret_o, ↓ret_O, ↓retL_d, ↓retL_o, ↓retL_O, ↓atD_0, ↓atD_1, ↓atD_2, ↓atD_3, ↓atD_b1, ↓atD_b2, ↓atD_b3, ↓ixP_30, ↓ixP_31, ↓ixP_32, ↓if_true, ↓if_false, zNext, zSeq, zSet, zSetO, zDrop, zRet, zRetO, zRetP, zRetN, zIf, zPar, zAsg, zPut, gN, gsNil, gsCons, gT, uVar, uC, uFz, u2, fI, fI0, fEq, fLtD, uIxO, uOwn, uCB, oCB, fLen, fLenO, fAbs, wB, wNot, wAnd, wOr, uAnd, uOr, uNot, uIf, aNil, aCons, uTup, oLst, fIx, oVar, iSeq, iR1, iR2, uCall, oCall, uLend, oLend, shaped_iff, sh_non, sh_int, sh_bool, sh_str, eqv_int, eqv_str, eqv_bool, ixN_30, ixN_31, ixN_32, ixN_20, ixN_21, atI_0, atI_1, atI_2, atI_3, atI_b1, atI_b2, atI_b3, List.length_map, Int.reduceEq, forall_const, implies_true, and_assoc, sz_0, sz_1, sz_2, sz_3, sz_4, sz_5, sz_6, sz_7, sz_8, Bool.not_eq_true', beq_eq_false_iff_ne, beq_iff_eq, ne_eq, Bool.and_eq_true, Bool.or_eq_true, decide_eq_false_iff_not, not_false_eq_true, not_true_eq_false, Bool.not_true, Bool.not_false, isI_n, isI_b, isI_i, isI_s, isI_l, isI_t, isB_n, isB_b, isB_i, isB_s, isB_l, isB_t, isS_n, isS_b, isS_i, isS_s, isS_l, isS_t, isL_n, isL_b, isL_i, isL_s, isL_l, isL_t, isT_n, isT_b, isT_i, isT_s, isT_l, isT_t, isN_n, isN_b, isN_i, isN_s, isN_l, isN_t, ca_0, ca_1, ca_2, ca_3, ca_4, ca_5, ca_6, Int.reduceToNat, Int.toNat_natCast, Int.reducePow, Int.reduceMul, Int.reduceLT, Int.reduceLE, Int.reduceNeg, zFor,   List.replicate, List.length_cons, List.length_nil, List.nil_append, List.cons_append, List.append_nil, List.map_cons, List.map_nil, List.set_cons_zero, List.set_cons_succ, List.getElem?_cons_zero, List.getElem?_cons_succ, Option.some.injEq, S.d.injEq, S.o.injEq, Res.lst.injEq, Res.lstP.injEq, PyData.int.injEq, PyData.str.injEq, PyData.bool.injEq, PyData.list.injEq, PyData.tuple.injEq, List.cons.injEq, reduceCtorEq,   exists_eq_left', exists_eq_left, exists_eq_right, exists_eq_right', true_and, and_true, false_and, and_false, exists_false, false_or, or_false, exists_and_left, exists_and_right, exists_eq', exists_eq, exists_const, Bool.false_eq_true, ite_true, ite_false, decide_eq_true_eq, Nat.sub_self, Nat.zero_add, Nat.add_sub_cancel, Nat.reduceSub, Nat.reduceAdd])
local macro_rules | `(tactic| walk_at "st") => `(tactic| simp (maxSteps := 1000000) only [↓TE_law_next, ↓reduceIte, ↓retA_kO, ↓retA_kD, ↓retA_kDo, ↓retA_kS, ↓asIs_m, ↓asBs_m, ↓asSs_m, fSum, fMin, fMax, fAll, fAny, fSortI, fMin2, fMax2, fStr, ↓fIntS_i, ↓fIntS_b, ↓fIntS_s, oLcN, fSortST, fSortT, zSeqX, zIfX, zRaise, zTry, ↓bare_d, ↓bare_o, ↓bare_l, ↓bare_no, ↓bare_f, ↓bare_g, ↓bare_P, ↓bare_dic, uSee, bSee, uSeeA, bSeeA, zAl, zInsLL, zForAl, osNil, osCons, oDisp, zLLclr, zLLapp, oSortK, uIsE, oSplit, uLendT, S.f.injEq, eq_self, ↓fAddA_i, ↓fAddA_s, ↓fAddA_t, fRepT, oRg1, uChain, ↓slWL_d, ↓slWL_o, ↓slWL_l, ↓slWL_s, ↓seeL_n, ↓seeL_d, ↓seeL_s, uCallSL, zLLfor, gTL, iZpA, ↓as2_l, ↓as2_t, ↓isLL_l, zLLo, uLLix, zLLput, oRep, fJoin, uV2, fSortS, fSortP, oLLe, iZp, iEn, iRv, iRr1, ↓slW_d, ↓slW_o, ↓slW_P, ↓slW_s, ↓hasS_d, ↓hasS_o, ↓hasS_f, ↓hasS_s, uV, uN, u1, o1, o2, oN, ↓fIn_l, ↓fIn_s, fCat, ↓fList_l, ↓fList_t, ↓fTup_l, ↓fTup_t, ↓fInt1_i, ↓fInt1_b, ↓lstR_l, ↓lstR_P, zM1, zM0, fApp, ↓fExt_l, ↓fExt_t, fRev, fClr, zIns, uPop, uPopI, ↓slF_d, ↓slF_o, ↓slF_s, uVf, pNo, pSo, ↓fSl_s, ↓fSl_t, uSl, oSl, oSlN, ↓scal_n, ↓scal_b, ↓scal_i, ↓scal_s, ↓kS_d, ↓ret_S, ↓see_n, ↓see_d, ↓see_s, rV, uCallS, rNil, rD, rS, uCallA, oCallA, ↓toS_d, ↓toS_f, ↓toS_s, ↓slS_0, ↓slS_s, ↓retA_d, ↓retA_o, ↓retA_O, ↓backL_n, ↓backL_s, ↓backL_d, ↓backL_f, ↓lok_n, ↓lok_s, ↓lok_d, ↓lok_f, ↓lent_n, ↓lent_s, ↓lent_d, ↓lent_f, bYes, oLc, ↓clr_n, ↓clr_c, ↓clr2_n, ↓clr2_c, ↓rest_n, ↓rest_c, ↓keep1_d, ↓keep1_o, ↓keep1_f, ↓keep1_no, ↓keep1_s, ↓asLL_l, oLL0, zLLn, zLLa, uLLlen, List.mem_cons, List.not_mem_nil, Nat.reduceEqDiff, eqv_list, eqv_tuple, eqv_none, ↓asI_i, ↓asB_b, ↓asS_s, ↓asL_l, ↓asT_t, ↓slD_0, ↓slD_s, ↓slO_0, ↓slO_s, ↓asR_l, ↓fAdd_i, ↓fAdd_s, ↓ixbo_0, ↓ixbo_1, ↓ixbo_2, ↓ixbo_3, ↓ixD_l, ↓ixD_t, ↓ixD_s, ↓arg1_1, ↓arg2_2, ↓fLen1_l, ↓fLen1_t, ↓fLen1_s, ↓asC_c, ↓asQ_l, ↓asQ_t, ↓asQ_s, ↓kD_d, ↓kD_o, ↓kO_o, ↓fz_l, ↓fz_P, ↓fz_ll, ↓ret_d, ↓ret_o, ↓ret_O, ↓retL_d, ↓retL_o, ↓retL_O, ↓atD_0, ↓atD_1, ↓atD_2, ↓atD_3, ↓atD_b1, ↓atD_b2, ↓atD_b3, ↓ixP_30, ↓ixP_31, ↓ixP_32, ↓if_true, ↓if_false, zNext, zSet, zSetO, zDrop, zRet, zRetO, zRetP, zRetN, zIf, zPar, zAsg, zPut, gN, gsNil, gsCons, gT, uVar, uC, uFz, u2, fI, fI0, fEq, fLtD, uIxO, uOwn, uCB, oCB, fLen, fLenO, fAbs, wB, wNot, wAnd, wOr, uAnd, uOr, uNot, uIf, aNil, aCons, uTup, oLst, fIx, oVar, iSeq, iR1, iR2, uCall, oCall, uLend, oLend, shaped_iff, sh_non, sh_int, sh_bool, sh_str, eqv_int, eqv_str, eqv_bool, ixN_30, ixN_31, ixN_32, ixN_20, ixN_21, atI_0, atI_1, atI_2, atI_3, atI_b1, atI_b2, atI_b3, List.length_map, Int.reduceEq, forall_const, implies_true, and_assoc, sz_0, sz_1, sz_2, sz_3, sz_4, sz_5, sz_6, sz_7, sz_8, Bool.not_eq_true', beq_eq_false_iff_ne, beq_iff_eq, ne_eq, Bool.and_eq_true, Bool.or_eq_true, decide_eq_false_iff_not, not_false_eq_true, not_true_eq_false, Bool.not_true, Bool.not_false, isI_n, isI_b, isI_i, isI_s, isI_l, isI_t, isB_n, isB_b, isB_i, isB_s, isB_l, isB_t, isS_n, isS_b, isS_i, isS_s, isS_l, isS_t, isL_n, isL_b, isL_i, isL_s, isL_l, isL_t, isT_n, isT_b, isT_i, isT_s, isT_l, isT_t, isN_n, isN_b, isN_i, isN_s, isN_l, isN_t, ca_0, ca_1, ca_2, ca_3, ca_4, ca_5, ca_6, Int.reduceToNat, Int.toNat_natCast, Int.reducePow, Int.reduceMul, Int.reduceLT, Int.reduceLE, Int.reduceNeg, zFor,   List.replicate, List.length_cons, List.length_nil, List.nil_append, List.cons_append, List.append_nil, List.map_cons, List.map_nil, List.set_cons_zero, List.set_cons_succ, List.getElem?_cons_zero, List.getElem?_cons_succ, Option.some.injEq, S.d.injEq, S.o.injEq, Res.lst.injEq, Res.lstP.injEq, PyData.int.injEq, PyData.str.injEq, PyData.bool.injEq, PyData.list.injEq, PyData.tuple.injEq, List.cons.injEq, reduceCtorEq,   exists_eq_left', exists_eq_left, exists_eq_right, exists_eq_right', true_and, and_true, false_and, and_false, exists_false, false_or, or_false, exists_and_left, exists_and_right, exists_eq', exists_eq, exists_const, Bool.false_eq_true, ite_true, ite_false, decide_eq_true_eq, Nat.sub_self, Nat.zero_add, Nat.add_sub_cancel, Nat.reduceSub, Nat.reduceAdd])
local macro_rules | `(tactic| walk_at "wpx") => do
  let h := Lean.mkIdent `hX
  `(tactic| simp (maxSteps := 1000000) only [↓$h:ident, ↓TE_law_next, ↓reduceIte, ↓retA_kO, ↓retA_kD, ↓retA_kDo, ↓retA_kS, ↓asIs_m, ↓asBs_m, ↓asSs_m, fSum, fMin, fMax, fAll, fAny, fSortI, fMin2, fMax2, fStr, ↓fIntS_i, ↓fIntS_b, ↓fIntS_s, oLcN, fSortST, fSortT, zSeqX, zIfX, zRaise, zTry, ↓bare_d, ↓bare_o, ↓bare_l, ↓bare_no, ↓bare_f, ↓bare_g, ↓bare_P, ↓bare_dic, uSee, bSee, uSeeA, bSeeA, zAl, zInsLL, zForAl, osNil, osCons, oDisp, zLLclr, zLLapp, oSortK, uIsE, oSplit, uLendT, S.f.injEq, eq_self, ↓fAddA_i, ↓fAddA_s, ↓fAddA_t, fRepT, oRg1, uChain, ↓slWL_d, ↓slWL_o, ↓slWL_l, ↓slWL_s, ↓seeL_n, ↓seeL_d, ↓seeL_s, uCallSL, zLLfor, gTL, iZpA, ↓as2_l, ↓as2_t, ↓isLL_l, zLLo, uLLix, zLLput, oRep, fJoin, uV2, fSortS, fSortP, oLLe, iZp, iEn, iRv, iRr1, ↓slW_d, ↓slW_o, ↓slW_P, ↓slW_s, ↓hasS_d, ↓hasS_o, ↓hasS_f, ↓hasS_s, uV, uN, u1, o1, o2, oN, ↓fIn_l, ↓fIn_s, fCat, ↓fList_l, ↓fList_t, ↓fTup_l, ↓fTup_t, ↓fInt1_i, ↓fInt1_b, ↓lstR_l, ↓lstR_P, zM1, zM0, fApp, ↓fExt_l, ↓fExt_t, fRev, fClr, zIns, uPop, uPopI, ↓slF_d, ↓slF_o, ↓slF_s, uVf, pNo, pSo, ↓fSl_s, ↓fSl_t, uSl, oSl, oSlN, ↓scal_n, ↓scal_b, ↓scal_i, ↓scal_s, ↓kS_d, ↓ret_S, ↓see_n, ↓see_d, ↓see_s, rV, uCallS, rNil, rD, rS, uCallA, oCallA, ↓toS_d, ↓toS_f, ↓toS_s, ↓slS_0, ↓slS_s, ↓retA_d, ↓retA_o, ↓retA_O, ↓backL_n, ↓backL_s, ↓backL_d, ↓backL_f, ↓lok_n, ↓lok_s, ↓lok_d, ↓lok_f, ↓lent_n, ↓lent_s, ↓lent_d, ↓lent_f, bYes, oLc, ↓clr_n, ↓clr_c, ↓clr2_n, ↓clr2_c, ↓rest_n, ↓rest_c, ↓keep1_d, ↓keep1_o, ↓keep1_f, ↓keep1_no, ↓keep1_s, ↓asLL_l, oLL0, zLLn, zLLa, uLLlen, List.mem_cons, List.not_mem_nil, Nat.reduceEqDiff, eqv_list, eqv_tuple, eqv_none, ↓asI_i, ↓asB_b, ↓asS_s, ↓asL_l, ↓asT_t, ↓slD_0, ↓slD_s, ↓slO_0, ↓slO_s, ↓asR_l, ↓fAdd_i, ↓fAdd_s, ↓ixbo_0, ↓ixbo_1, ↓ixbo_2, ↓ixbo_3, ↓ixD_l, ↓ixD_t, ↓ixD_s, ↓arg1_1, ↓arg2_2, ↓fLen1_l, ↓fLen1_t, ↓fLen1_s, ↓asC_c, ↓asQ_l, ↓asQ_t, ↓asQ_s, ↓kD_d, ↓kD_o, ↓kO_o, ↓fz_l, ↓fz_P, ↓fz_ll, ↓ret_d, ↓ret_o, ↓ret_O, ↓retL_d, ↓retL_o, ↓retL_O, ↓atD_0, ↓atD_1, ↓atD_2, ↓atD_3, ↓atD_b1, ↓atD_b2, ↓atD_b3, ↓ixP_30, ↓ixP_31, ↓ixP_32, ↓if_true, ↓if_false, zNext, zSeq, zSet, zSetO, zDrop, zRet, zRetO, zRetP, zRetN, zIf, zPar, zAsg, zPut, gN, gsNil, gsCons, gT, uVar, uC, uFz, u2, fI, fI0, fEq, fLtD, uIxO, uOwn, uCB, oCB, fLen, fLenO, fAbs, wB, wNot, wAnd, wOr, uAnd, uOr, uNot, uIf, aNil, aCons, uTup, oLst, fIx, oVar, iSeq, iR1, iR2, uCall, oCall, uLend, oLend, shaped_iff, sh_non, sh_int, sh_bool, sh_str, eqv_int, eqv_str, eqv_bool, ixN_30, ixN_31, ixN_32, ixN_20, ixN_21, atI_0, atI_1, atI_2, atI_3, atI_b1, atI_b2, atI_b3, List.length_map, Int.reduceEq, forall_const, implies_true, and_assoc, sz_0, sz_1, sz_2, sz_3, sz_4, sz_5, sz_6, sz_7, sz_8, Bool.not_eq_true', beq_eq_false_iff_ne, beq_iff_eq, ne_eq, Bool.and_eq_true, Bool.or_eq_true, decide_eq_false_iff_not, not_false_eq_true, not_true_eq_false, Bool.not_true, Bool.not_false, isI_n, isI_b, isI_i, isI_s, isI_l, isI_t, isB_n, isB_b, isB_i, isB_s, isB_l, isB_t, isS_n, isS_b, isS_i, isS_s, isS_l, isS_t, isL_n, isL_b, isL_i, isL_s, isL_l, isL_t, isT_n, isT_b, isT_i, isT_s, isT_l, isT_t, isN_n, isN_b, isN_i, isN_s, isN_l, isN_t, ca_0, ca_1, ca_2, ca_3, ca_4, ca_5, ca_6, Int.reduceToNat, Int.toNat_natCast, Int.reducePow, Int.reduceMul, Int.reduceLT, Int.reduceLE, Int.reduceNeg, zFor,   List.replicate, List.length_cons, List.length_nil, List.nil_append, List.cons_append, List.append_nil, List.map_cons, List.map_nil, List.set_cons_zero, List.set_cons_succ, List.getElem?_cons_zero, List.getElem?_cons_succ, Option.some.injEq, S.d.injEq, S.o.injEq, Res.lst.injEq, Res.lstP.injEq, PyData.int.injEq, PyData.str.injEq, PyData.bool.injEq, PyData.list.injEq, PyData.tuple.injEq, List.cons.injEq, reduceCtorEq,   exists_eq_left', exists_eq_left, exists_eq_right, exists_eq_right', true_and, and_true, false_and, and_false, exists_false, false_or, or_false, exists_and_left, exists_and_right, exists_eq', exists_eq, exists_const, Bool.false_eq_true, ite_true, ite_false, decide_eq_true_eq, Nat.sub_self, Nat.zero_add, Nat.add_sub_cancel, Nat.reduceSub, Nat.reduceAdd])
theorem c_law_name {P : Program} {w : World} {K : PySem.W.Frag} {mg : Str → Option Value} {base : Heap} (hb : Bi K mg) (D : Df K mg "_law_name" (topS 13) ["feed", "names"]) (C__law_next : Cal P w K mg base "_law_next" 2 ["feed", "many"] T_law_next) : Cal P w K mg base "_law_name" 3 ["feed", "names"] T_law_name := by
  obtain ⟨f, fd, F, hm, hB⟩ := D
  refine ⟨f, fd, fn_d (k := 2) F sc_law_name ?hT (fun cdv A outer s H E hr => (q_cons (s_set (j := 2) sc_law_name.nd d_str)
 (q_cons (s_set (j := 3) sc_law_name.nd d_str)
 (q_cut (s_if (DW.dt (w_and (t_gt (d_lenV hb.len (vv 1)) d_int) (w_and1 (t_eq hr.units (d_lendC 0 C__law_next (hr.mono (by decide)) (a_cons d_int a_nil)) d_int))))
 (q_one (s_set (j := 3) sc_law_name.nd (d_sl (d_ixN 1 (fun _ _ => rfl) (d_neg d_int)) p_no (p_so d_int)))) q_nil)
 (q_cons (s_for PassesOwn.never rfl (i_range1 hb.range (d_add d_int (d_lendC 0 C__law_next (hr.mono (by decide)) (a_cons d_int a_nil)))) (g_name 4 sc_law_name.nd)
 (q_cons (s_set (j := 5) sc_law_name.nd (d_ixN 2 (fun _ _ => rfl) (d_lendC 0 C__law_next (hr.mono (by decide)) (a_cons d_int a_nil))))
 (q_one (s_if (t_lt (d_lenV hb.len (vv 3)) d_int)
 (q_one (s_set (j := 3) sc_law_name.nd (d_add (dv 3) (dv 5)))) q_nil))))
 (q_cut (s_if (t_eq hr.units (d_lendC 0 C__law_next (hr.mono (by decide)) (a_cons d_int a_nil)) d_int)
 (q_one (s_set (j := 3) sc_law_name.nd (d_ix (fun _ _ => rfl) (d_fz (o_lst (a_cons d_str (a_cons d_str (a_cons d_str (a_cons d_str (a_cons d_str (a_cons d_str (a_cons d_str a_nil))))))))) (d_lendC 0 C__law_next (hr.mono (by decide)) (a_cons d_int a_nil))))) q_nil)
 (q_cut (s_if (t_cmpN 3 (op_inA (hu65 hr)) opv_in (vv 1) (by rfl))
 (q_one (s_set (j := 3) sc_law_name.nd (d_ix (fun _ _ => rfl) (d_fz (o_lc [("letter", 5)] rfl sc_law_name.nd (i_seq (dv 2)) (by show blkC ["feed", "names", "letters", "word", "k", "letter"] (defScope (topS 13)) _ _ = true; decide +kernel) (fun _ _ _ _ _ => (g_name 5 sc_law_name.nd)) (fun _ _ _ _ _ => (b_one (t_cmpN 5 (op_notInA (hu65 hr)) opv_nin (vv 1) (by rfl)))) (fun _ _ _ _ _ => (dv 5)) (by decide))) d_int))) q_nil)
 (q_one (s_ret (dv 3)))))))))), hm, F.kp, hB⟩
  case hT =>
    intro a Q h
    obtain ⟨v, X, ws, rfl, hLk, hws, hl, q⟩ := h
    refine ⟨rfl, ?_⟩
    have hX := lk_facts hLk
    have stX : ∀ w ∈ ws, PyData.strOk w = true := fun w hw => word_ok (hws w hw)
    walk_at "wpx"
    -- the word's begin
    refine cut_by (fun c => ∃ w : Str, w.cps.size < 8 ∧ w.cps.toList.all chOk = true ∧ c = [.o (some v) (.lstP FeedP), X, .d (.str abc), .d (.str w), .no, .no]) ?_ ?_
    · intro N hN
      walk_at "wpx"
      have h0 : N [.o (some v) (.lstP FeedP), X, .d (.str abc), .d (.str (Str.ofString "")), .no, .no] := hN _ ⟨_, by decide +kernel, by decide +kernel, rfl⟩
      split
      · rename_i hlen
        refine ⟨by decide, fun r _ _ => ?_⟩
        split
        · obtain ⟨ws', w, rfl⟩ : ∃ l x, ws = l ++ [x] := by
            have : ws ≠ [] := fun z => by subst z; simp at hlen
            exact ⟨_, _, (List.dropLast_concat_getLast this).symm⟩
          refine ⟨.str w, by rw [List.map_append]; exact last_atI _ _, ?_⟩
          walk_at "wpx"
          have hw := hws w (by simp)
          have cw := cut_word hw 7 (by decide)
          refine ⟨Nat.le_trans (word_len hw) (by decide), hN _ ⟨_, ?_, cw.2.2, rfl⟩⟩
          exact Nat.lt_of_le_of_lt (cut_few w 7) (by decide)
        · exact h0
      · exact h0
    rintro c ⟨w0, hw8, hwc, rfl⟩
    walk_at "wpx"
    refine ⟨by decide, fun r r0 hr => ⟨by omega, by omega, ?_⟩⟩
    refine loop_by (fun i c => ∃ (w : Str) (x4 x5 : S), c = [.o (some v) (.lstP FeedP), X, .d (.str abc), .d (.str w), x4, x5] ∧ w.cps.size ≤ 8 ∧ w.cps.toList.all chOk = true ∧ (i = 0 → w.cps.size < 8) ∧ (0 < i → WordOk w)) ⟨w0, _, _, rfl, by omega, hwc, fun _ => hw8, fun z => absurd z (by decide)⟩ ?_ ?_
    · rintro i y c N hy ⟨w, x4, x5, rfl, h8, hc, hi0, hi1⟩ hN
      obtain ⟨hi, rfl⟩ := rngD_get hy
      walk_at "wpx"
      refine ⟨by decide, fun n n0 hn => ?_⟩
      obtain ⟨m, hm⟩ : ∃ m, abc.cps.toList[n.toNat]? = some m := ⟨_, List.getElem?_eq_getElem (by rw [abc_l.1]; omega)⟩
      have hch : chOk m = true := List.all_eq_true.mp abc_l.2.1 m (List.mem_of_getElem? hm)
      refine ⟨by decide +kernel, m, by rw [atI_of n0 (by rw [abc_l.1]; omega)]; exact hm, Nat.le_trans h8 (by decide), ?_⟩
      split
      · rename_i hlt
        have hlt' : w.cps.size < 8 := by
          have h : ((w.cps.size : Nat) : Int) < 8 := hlt
          omega
        have hw := word_more hlt' hc hch
        exact ⟨Nat.le_trans (show w.cps.size + 1 ≤ 9 by omega) (by decide), hN _ ⟨_, _, _, rfl, hw.2.1, hw.2.2, fun z => absurd z (by omega), fun _ => hw⟩⟩
      · rename_i hlt
        have hlt' : ¬ w.cps.size < 8 := by
          have h : ¬ ((w.cps.size : Nat) : Int) < 8 := hlt
          omega
        exact hN _ ⟨_, _, _, rfl, h8, hc, fun z => absurd z (by omega), fun _ => ⟨by omega, h8, hc⟩⟩
    rintro c ⟨w, x4, x5, rfl, _, _, _, hw⟩
    have hw := hw (by rw [rngD_len]; omega)
    clear hw8 hwc
    walk_at "wpx"
    refine cut_by (fun c => ∃ (w : Str) (x4 x5 : S), c = [.o (some v) (.lstP FeedP), X, .d (.str abc), .d (.str w), x4, x5] ∧ WordOk w) ?_ ?_
    · intro N hN
      walk_at "wpx"
      refine ⟨by decide, fun r r0 hr => ?_⟩
      split
      · refine ⟨by decide, fun k k0 hk => ?_⟩
        have key : ∀ x ∈ ([Str.ofString "one", Str.ofString "over", Str.ofString "row", Str.ofString "bore", Str.ofString "layer", Str.ofString "fault", Str.ofString "like"] : List Str), WordOk x := by unfold WordOk; decide +kernel
        refine atD_mem k0 (by simpa using hk) fun d hd => ?_
        obtain ⟨x, hx, rfl⟩ : ∃ x ∈ ([Str.ofString "one", Str.ofString "over", Str.ofString "row", Str.ofString "bore", Str.ofString "layer", Str.ofString "fault", Str.ofString "like"] : List Str), .str x = d := List.mem_map.mp (show d ∈ List.map PyData.str [Str.ofString "one", Str.ofString "over", Str.ofString "row", Str.ofString "bore", Str.ofString "layer", Str.ofString "fault", Str.ofString "like"] from hd)
        exact hN _ ⟨_, _, _, rfl, key x hx⟩
      · exact hN _ ⟨_, _, _, rfl, hw⟩
    rintro c ⟨w, x4, x5, rfl, hw⟩
    refine cut_by (fun c => ∃ (w : Str) (x4 x5 : S), c = [.o (some v) (.lstP FeedP), X, .d (.str abc), .d (.str w), x4, x5] ∧ WordOk w ∧ w ∉ ws) ?_ ?_
    · intro N hN
      walk_at "wpx"
      simp only [any_str, decide_eq_true_eq]
      refine ⟨word_ok hw, sh_strs stX, ?_⟩
      split
      · refine comp_fm (fun y => !(ws.map PyData.str).any fun z => PyData.eqv z y) (fun y => y) (by decide +kernel) (fun y hy N2 M2 hN2 hM2 => ?_) ?_
        · obtain ⟨n, hn, rfl⟩ := List.mem_map.mp hy
          have hch : chOk n = true := List.all_eq_true.mp abc_l.2.1 n hn
          walk_at "wpx"
          refine ⟨strOk_of (w := ⟨#[n]⟩) (by simp [hch]), sh_strs stX, ?_⟩
          split
          · rename_i hh
            exact hN2 (by simpa using hh) _ rfl
          · rename_i hh
            exact hM2 (by simpa using hh) _ rfl
        · walk_at "wpx"
          obtain ⟨n, hn, hn2⟩ : ∃ n ∈ abc.cps.toList, (⟨#[n]⟩ : Str) ∉ ws := by
            refine Classical.byContradiction fun hno => ?_
            have hall : ∀ n ∈ abc.cps.toList, (⟨#[n]⟩ : Str) ∈ ws := fun n hn => Classical.byContradiction fun z => hno ⟨n, hn, z⟩
            have h1 : (abc.cps.toList.map fun (n : Nat) => (⟨#[n]⟩ : Str)).Nodup := by decide +kernel
            have h2 := nodup_len h1 (m := ws) fun x hx => by
              obtain ⟨n, hn, rfl⟩ := List.mem_map.mp hx
              exact hall n hn
            rw [List.length_map, abc_l.1] at h2
            omega
          have hin : PyData.str ⟨#[n]⟩ ∈ List.map (fun y => y) (List.filter (fun y => !(ws.map PyData.str).any fun z => PyData.eqv z y) (Dl.signs abc)) := by
            refine List.mem_map.mpr ⟨_, List.mem_filter.mpr ⟨List.mem_map.mpr ⟨n, hn, rfl⟩, ?_⟩, rfl⟩
            rw [any_str, decide_eq_false hn2]; rfl
          refine atD_mem (by decide) (by have := List.length_pos_of_mem hin; simpa using this) fun d hd => ?_
          obtain ⟨y, hy, rfl⟩ := List.mem_map.mp hd
          obtain ⟨hy1, hy2⟩ := List.mem_filter.mp hy
          obtain ⟨m, hm, rfl⟩ := List.mem_map.mp hy1
          rw [any_str] at hy2
          have hch : chOk m = true := List.all_eq_true.mp abc_l.2.1 m hm
          exact hN _ ⟨_, _, _, rfl, ⟨by simp, by simp, by simp [hch]⟩, by simpa using hy2⟩
      · rename_i hn
        exact hN _ ⟨_, _, _, rfl, hw, hn⟩
    rintro c ⟨w, x4, x5, rfl, hw, hn⟩
    walk_at "wpx"
    exact q w hw hn _ (pat_consO (pat_cons pat_nil))

/-- n words, no two alike -/
structure NamesOk (n : Nat) (ws : List Str) : Prop where
  len : ws.length = n
  ok : ∀ w ∈ ws, WordOk w
  nd : ws.Nodup
def T_law_names : TF := fun a Q => ∃ (v : Lt) (many : Int), a = [.o (some v) (.lstP FeedP), .d (.int many)] ∧ 0 ≤ many ∧ many ≤ 20 ∧ ∀ ws, NamesOk many.toNat ws → retL v (.lstP FeedP) Q (.o none (.lst (ws.map PyData.str)))
theorem TE_law_names {v : Lt} {many : Int} {Q : S → Dl.Ctx → Prop} : T_law_names [.o (some v) (.lstP FeedP), .d (.int many)] Q = (0 ≤ many ∧ many ≤ 20 ∧ ∀ ws, NamesOk many.toNat ws → retL v (.lstP FeedP) Q (.o none (.lst (ws.map PyData.str)))) := propext ⟨fun ⟨_, _, e, q⟩ => by cases e; exact q, fun q => ⟨_, _, rfl, q⟩⟩
theorem sc_law_names : FnScope ["feed", "many", "names", "k"] ["feed", "many"] (defScope (topS 14)) := ⟨rfl, rfl, rfl, by decide +kernel, rfl, by decide +kernel, by decide +kernel⟩
local macro_rules | `(tactic| walk_at "wpt") => `(tactic| simp (maxSteps := 1000000) only [↓TE_law_next, ↓TE_law_name, ↓reduceIte, ↓retA_kO, ↓retA_kD, ↓retA_kDo, ↓retA_kS, ↓asIs_m, ↓asBs_m, ↓asSs_m, fSum, fMin, fMax, fAll, fAny, fSortI, fMin2, fMax2, fStr, ↓fIntS_i, ↓fIntS_b, ↓fIntS_s, oLcN, fSortST, fSortT, zSeqX, zIfX, zRaise, zTry, ↓bare_d, ↓bare_o, ↓bare_l, ↓bare_no, ↓bare_f, ↓bare_g, ↓bare_P, ↓bare_dic, uSee, bSee, uSeeA, bSeeA, zAl, zInsLL, zForAl, osNil, osCons, oDisp, zLLclr, zLLapp, oSortK, uIsE, oSplit, uLendT, S.f.injEq, eq_self, ↓fAddA_i, ↓fAddA_s, ↓fAddA_t, fRepT, oRg1, uChain, ↓slWL_d, ↓slWL_o, ↓slWL_l, ↓slWL_s, ↓seeL_n, ↓seeL_d, ↓seeL_s, uCallSL, zLLfor, gTL, iZpA, ↓as2_l, ↓as2_t, ↓isLL_l, zLLo, uLLix, zLLput, oRep, fJoin, uV2, fSortS, fSortP, oLLe, iZp, iEn, iRv, iRr1, ↓slW_d, ↓slW_o, ↓slW_P, ↓slW_s, ↓hasS_d, ↓hasS_o, ↓hasS_f, ↓hasS_s, uV, uN, u1, o1, o2, oN, ↓fIn_l, ↓fIn_s, fCat, ↓fList_l, ↓fList_t, ↓fTup_l, ↓fTup_t, ↓fInt1_i, ↓fInt1_b, ↓lstR_l, ↓lstR_P, zM1, zM0, fApp, ↓fExt_l, ↓fExt_t, fRev, fClr, zIns, uPop, uPopI, ↓slF_d, ↓slF_o, ↓slF_s, uVf, pNo, pSo, ↓fSl_s, ↓fSl_t, uSl, oSl, oSlN, ↓scal_n, ↓scal_b, ↓scal_i, ↓scal_s, ↓kS_d, ↓ret_S, ↓see_n, ↓see_d, ↓see_s, rV, uCallS, rNil, rD, rS, uCallA, oCallA, ↓toS_d, ↓toS_f, ↓toS_s, ↓slS_0, ↓slS_s, ↓retA_d, ↓retA_o, ↓retA_O, ↓backL_n, ↓backL_s, ↓backL_d, ↓backL_f, ↓lok_n, ↓lok_s, ↓lok_d, ↓lok_f, ↓lent_n, ↓lent_s, ↓lent_d, ↓lent_f, bYes, oLc, ↓clr_n, ↓clr_c, ↓clr2_n, ↓clr2_c, ↓rest_n, ↓rest_c, ↓keep1_d, ↓keep1_o, ↓keep1_f, ↓keep1_no, ↓keep1_s, ↓asLL_l, oLL0, zLLn, zLLa, uLLlen, List.mem_cons, List.not_mem_nil, Nat.reduceEqDiff, eqv_list, eqv_tuple, eqv_none, ↓asI_i, ↓asB_b, ↓asS_s, ↓asL_l, ↓asT_t, ↓slD_0, ↓slD_s, ↓slO_0, ↓slO_s, ↓asR_l, ↓fAdd_i, ↓fAdd_s, ↓ixbo_0, ↓ixbo_1, ↓ixbo_2, ↓ixbo_3, ↓ixD_l, ↓ixD_t, ↓ixD_s, ↓arg1_1, ↓arg2_2, ↓fLen1_l, ↓fLen1_t, ↓fLen1_s, ↓asC_c, ↓asQ_l, ↓asQ_t, ↓asQ_s, ↓kD_d, ↓kD_o, ↓kO_o, ↓fz_l, ↓fz_P, ↓fz_ll, ↓ret_d, ↓ret_o, ↓ret_O, ↓retL_d, ↓retL_o, ↓retL_O, ↓atD_0, ↓atD_1, ↓atD_2, ↓atD_3, ↓atD_b1, ↓atD_b2, ↓atD_b3, ↓ixP_30, ↓ixP_31, ↓ixP_32, ↓if_true, ↓if_false, zNext, zSeq, zSet, zSetO, zDrop, zRet, zRetO, zRetP, zRetN, zIf, zPar, zAsg, zPut, gN, gsNil, gsCons, gT, uVar, uC, uFz, u2, fI, fI0, fEq, fLtD, uIxO, uOwn, uCB, oCB, fLen, fLenO, fAbs, wB, wNot, wAnd, wOr, uAnd, uOr, uNot, uIf, aNil, aCons, uTup, oLst, fIx, oVar, iSeq, iR1, iR2, uCall, oCall, uLend, oLend, shaped_iff, sh_non, sh_int, sh_bool, sh_str, eqv_int, eqv_str, eqv_bool, ixN_30, ixN_31, ixN_32, ixN_20, ixN_21, atI_0, atI_1, atI_2, atI_3, atI_b1, atI_b2, atI_b3, List.length_map, Int.reduceEq, forall_const, implies_true, and_assoc, sz_0, sz_1, sz_2, sz_3, sz_4, sz_5, sz_6, sz_7, sz_8, Bool.not_eq_true', beq_eq_false_iff_ne, beq_iff_eq, ne_eq, Bool.and_eq_true, Bool.or_eq_true, decide_eq_false_iff_not, not_false_eq_true, not_true_eq_false, Bool.not_true, Bool.not_false, isI_n, isI_b, isI_i, isI_s, isI_l, isI_t, isB_n, isB_b, isB_i, isB_s, isB_l, isB_t, isS_n, isS_b, isS_i, isS_s, isS_l, isS_t, isL_n, isL_b, isL_i, isL_s, isL_l, isL_t, isT_n, isT_b, isT_i, isT_s, isT_l, isT_t, isN_n, isN_b, isN_i, isN_s, isN_l, isN_t, ca_0, ca_1, ca_2, ca_3, ca_4, ca_5, ca_6, Int.reduceToNat, Int.toNat_natCast, Int.reducePow, Int.reduceMul, Int.reduceLT, Int.reduceLE, Int.reduceNeg, zFor,   List.replicate, List.length_cons, List.length_nil, List.nil_append, List.cons_append, List.append_nil, List.map_cons, List.map_nil, List.set_cons_zero, List.set_cons_succ, List.getElem?_cons_zero, List.getElem?_cons_succ, Option.some.injEq, S.d.injEq, S.o.injEq, Res.lst.injEq, Res.lstP.injEq, PyData.int.injEq, PyData.str.injEq, PyData.bool.injEq, PyData.list.injEq, PyData.tuple.injEq, List.cons.injEq, reduceCtorEq,   exists_eq_left', exists_eq_left, exists_eq_right, exists_eq_right', true_and, and_true, false_and, and_false, exists_false, false_or, or_false, exists_and_left, exists_and_right, exists_eq', exists_eq, exists_const, Bool.false_eq_true, ite_true, ite_false, decide_eq_true_eq, Nat.sub_self, Nat.zero_add, Nat.add_sub_cancel, Nat.reduceSub, Nat.reduceAdd])
local macro_rules | `(tactic| walk_at "st") => `(tactic| simp (maxSteps := 1000000) only [↓TE_law_next, ↓TE_law_name, ↓reduceIte, ↓retA_kO, ↓retA_kD, ↓retA_kDo, ↓retA_kS, ↓asIs_m, ↓asBs_m, ↓asSs_m, fSum, fMin, fMax, fAll, fAny, fSortI, fMin2, fMax2, fStr, ↓fIntS_i, ↓fIntS_b, ↓fIntS_s, oLcN, fSortST, fSortT, zSeqX, zIfX, zRaise, zTry, ↓bare_d, ↓bare_o, ↓bare_l, ↓bare_no, ↓bare_f, ↓bare_g, ↓bare_P, ↓bare_dic, uSee, bSee, uSeeA, bSeeA, zAl, zInsLL, zForAl, osNil, osCons, oDisp, zLLclr, zLLapp, oSortK, uIsE, oSplit, uLendT, S.f.injEq, eq_self, ↓fAddA_i, ↓fAddA_s, ↓fAddA_t, fRepT, oRg1, uChain, ↓slWL_d, ↓slWL_o, ↓slWL_l, ↓slWL_s, ↓seeL_n, ↓seeL_d, ↓seeL_s, uCallSL, zLLfor, gTL, iZpA, ↓as2_l, ↓as2_t, ↓isLL_l, zLLo, uLLix, zLLput, oRep, fJoin, uV2, fSortS, fSortP, oLLe, iZp, iEn, iRv, iRr1, ↓slW_d, ↓slW_o, ↓slW_P, ↓slW_s, ↓hasS_d, ↓hasS_o, ↓hasS_f, ↓hasS_s, uV, uN, u1, o1, o2, oN, ↓fIn_l, ↓fIn_s, fCat, ↓fList_l, ↓fList_t, ↓fTup_l, ↓fTup_t, ↓fInt1_i, ↓fInt1_b, ↓lstR_l, ↓lstR_P, zM1, zM0, fApp, ↓fExt_l, ↓fExt_t, fRev, fClr, zIns, uPop, uPopI, ↓slF_d, ↓slF_o, ↓slF_s, uVf, pNo, pSo, ↓fSl_s, ↓fSl_t, uSl, oSl, oSlN, ↓scal_n, ↓scal_b, ↓scal_i, ↓scal_s, ↓kS_d, ↓ret_S, ↓see_n, ↓see_d, ↓see_s, rV, uCallS, rNil, rD, rS, uCallA, oCallA, ↓toS_d, ↓toS_f, ↓toS_s, ↓slS_0, ↓slS_s, ↓retA_d, ↓retA_o, ↓retA_O, ↓backL_n, ↓backL_s, ↓backL_d, ↓backL_f, ↓lok_n, ↓lok_s, ↓lok_d, ↓lok_f, ↓lent_n, ↓lent_s, ↓lent_d, ↓lent_f, bYes, oLc, ↓clr_n, ↓clr_c, ↓clr2_n, ↓clr2_c, ↓rest_n, ↓rest_c, ↓keep1_d, ↓keep1_o, ↓keep1_f, ↓keep1_no, ↓keep1_s, ↓asLL_l, oLL0, zLLn, zLLa, uLLlen, List.mem_cons, List.not_mem_nil, Nat.reduceEqDiff, eqv_list, eqv_tuple, eqv_none, ↓asI_i, ↓asB_b, ↓asS_s, ↓asL_l, ↓asT_t, ↓slD_0, ↓slD_s, ↓slO_0, ↓slO_s, ↓asR_l, ↓fAdd_i, ↓fAdd_s, ↓ixbo_0, ↓ixbo_1, ↓ixbo_2, ↓ixbo_3, ↓ixD_l, ↓ixD_t, ↓ixD_s, ↓arg1_1, ↓arg2_2, ↓fLen1_l, ↓fLen1_t, ↓fLen1_s, ↓asC_c, ↓asQ_l, ↓asQ_t, ↓asQ_s, ↓kD_d, ↓kD_o, ↓kO_o, ↓fz_l, ↓fz_P, ↓fz_ll, ↓ret_d, ↓ret_o, ↓ret_O, ↓retL_d, ↓retL_o, ↓retL_O, ↓atD_0, ↓atD_1, ↓atD_2, ↓atD_3, ↓atD_b1, ↓atD_b2, ↓atD_b3, ↓ixP_30, ↓ixP_31, ↓ixP_32, ↓if_true, ↓if_false, zNext, zSet, zSetO, zDrop, zRet, zRetO, zRetP, zRetN, zIf, zPar, zAsg, zPut, gN, gsNil, gsCons, gT, uVar, uC, uFz, u2, fI, fI0, fEq, fLtD, uIxO, uOwn, uCB, oCB, fLen, fLenO, fAbs, wB, wNot, wAnd, wOr, uAnd, uOr, uNot, uIf, aNil, aCons, uTup, oLst, fIx, oVar, iSeq, iR1, iR2, uCall, oCall, uLend, oLend, shaped_iff, sh_non, sh_int, sh_bool, sh_str, eqv_int, eqv_str, eqv_bool, ixN_30, ixN_31, ixN_32, ixN_20, ixN_21, atI_0, atI_1, atI_2, atI_3, atI_b1, atI_b2, atI_b3, List.length_map, Int.reduceEq, forall_const, implies_true, and_assoc, sz_0, sz_1, sz_2, sz_3, sz_4, sz_5, sz_6, sz_7, sz_8, Bool.not_eq_true', beq_eq_false_iff_ne, beq_iff_eq, ne_eq, Bool.and_eq_true, Bool.or_eq_true, decide_eq_false_iff_not, not_false_eq_true, not_true_eq_false, Bool.not_true, Bool.not_false, isI_n, isI_b, isI_i, isI_s, isI_l, isI_t, isB_n, isB_b, isB_i, isB_s, isB_l, isB_t, isS_n, isS_b, isS_i, isS_s, isS_l, isS_t, isL_n, isL_b, isL_i, isL_s, isL_l, isL_t, isT_n, isT_b, isT_i, isT_s, isT_l, isT_t, isN_n, isN_b, isN_i, isN_s, isN_l, isN_t, ca_0, ca_1, ca_2, ca_3, ca_4, ca_5, ca_6, Int.reduceToNat, Int.toNat_natCast, Int.reducePow, Int.reduceMul, Int.reduceLT, Int.reduceLE, Int.reduceNeg, zFor,   List.replicate, List.length_cons, List.length_nil, List.nil_append, List.cons_append, List.append_nil, List.map_cons, List.map_nil, List.set_cons_zero, List.set_cons_succ, List.getElem?_cons_zero, List.getElem?_cons_succ, Option.some.injEq, S.d.injEq, S.o.injEq, Res.lst.injEq, Res.lstP.injEq, PyData.int.injEq, PyData.str.injEq, PyData.bool.injEq, PyData.list.injEq, PyData.tuple.injEq, List.cons.injEq, reduceCtorEq,   exists_eq_left', exists_eq_left, exists_eq_right, exists_eq_right', true_and, and_true, false_and, and_false, exists_false, false_or, or_false, exists_and_left, exists_and_right, exists_eq', exists_eq, exists_const, Bool.false_eq_true, ite_true, ite_false, decide_eq_true_eq, Nat.sub_self, Nat.zero_add, Nat.add_sub_cancel, Nat.reduceSub, Nat.reduceAdd])
theorem c_law_names {P : Program} {w : World} {K : PySem.W.Frag} {mg : Str → Option Value} {base : Heap} (hb : Bi K mg) (D : Df K mg "_law_names" (topS 14) ["feed", "many"]) (C__law_next : Cal P w K mg base "_law_next" 2 ["feed", "many"] T_law_next) (C__law_name : Cal P w K mg base "_law_name" 3 ["feed", "names"] T_law_name) : Cal P w K mg base "_law_names" 4 ["feed", "many"] T_law_names := by
  obtain ⟨f, fd, F, hm, hB⟩ := D
  refine ⟨f, fd, fn_d (k := 3) F sc_law_names ?hT (fun cdv A outer s H E hr => (q_cons (s_setO (j := 2) sc_law_names.nd (o_lst a_nil))
 (q_cons (s_for PassesOwn.never rfl (i_range1 hb.range (dv 1)) (g_name 3 sc_law_names.nd)
 (q_one (s_ins 2 (d_lendC 0 C__law_next (hr.mono (by decide)) (a_cons (d_add (d_lenV hb.len (vv 2)) d_int) a_nil)) (d_callA C__law_name (hr.mono (by decide)) (r_s 0 (r_s 2 r_nil))))))
 (q_one (s_retO (o_var 2)))))), hm, F.kp, hB⟩
  case hT =>
    intro a Q h
    obtain ⟨v, many, rfl, h0, h1, q⟩ := h
    refine ⟨rfl, ?_⟩
    walk_at "wpt"
    refine ⟨by omega, by omega, ?_⟩
    refine loop_by (fun i c => ∃ (ws : List Str) (x3 : S), c = [.o (some v) (.lstP FeedP), .d (.int many), .o none (.lst (ws.map PyData.str)), x3] ∧ NamesOk i ws) ⟨[], _, rfl, rfl, by simp, List.nodup_nil⟩ ?_ ?_
    · rintro i y c N hy ⟨ws, x3, rfl, hl, hok, hnd⟩ hN
      obtain ⟨hi, rfl⟩ := rngD_get hy
      walk_at "wpt"
      refine ⟨by omega, bd_of (by omega) (by omega), fun r r0 hr => ⟨hok, by omega, fun w hw hn => ⟨by have := sizeLine_eq; omega, r0, by omega, ?_⟩⟩⟩
      rw [insD_map]
      exact hN _ ⟨_, _, rfl, by rw [len_ins, hl], fun x hx => by
        rcases mem_ins.mp hx with rfl | hx
        · exact hw
        · exact hok x hx, nodup_ins hnd hn⟩
    · rintro c ⟨ws, x3, rfl, hw⟩
      rw [rngD_len] at hw
      walk_at "wpt"
      exact q _ hw _ rfl

def T_law_blocks : TF := fun a Q => ∃ (v : Lt) (ms : List Str), a = [.o (some v) (.lstP FeedP), .d (.list (ms.map PyData.str))] ∧ ms ≠ [] ∧ ms.length ≤ 1000 ∧ ∀ bl, BlOk ms bl → retL v (.lstP FeedP) Q (.d (.tuple (bl.map blD)))
theorem TE_law_blocks {v : Lt} {ms : List Str} {Q : S → Dl.Ctx → Prop} : T_law_blocks [.o (some v) (.lstP FeedP), .d (.list (ms.map PyData.str))] Q = (ms ≠ [] ∧ ms.length ≤ 1000 ∧ ∀ bl, BlOk ms bl → retL v (.lstP FeedP) Q (.d (.tuple (bl.map blD)))) := propext ⟨fun ⟨_, ms', e, q⟩ => by
  simp only [List.cons.injEq, S.o.injEq, Option.some.injEq, S.d.injEq, PyData.list.injEq, and_true, true_and] at e
  obtain ⟨rfl, e⟩ := e
  have := str_inj e
  subst this
  exact q, fun q => ⟨_, _, rfl, q⟩⟩
/-- the blocks on the way: the last one may be empty at the begin -/
def BlAt (ms : List Str) (i : Nat) (l : List (List (Str × Int))) (k : List (Str × Int)) : Prop := (∀ x ∈ l, x ≠ []) ∧ (l.flatten.length + k.length = i) ∧ (0 < i → k ≠ []) ∧ ∀ y ∈ l.flatten ++ k, y.1 ∈ ms ∧ 1 ≤ y.2 ∧ y.2 ≤ big
theorem blAt_more {ms : List Str} {i : Nat} {l : List (List (Str × Int))} {k : List (Str × Int)} (h : BlAt ms i l k) {y : Str × Int} (hy : y.1 ∈ ms ∧ 1 ≤ y.2 ∧ y.2 ≤ big) : BlAt ms (i + 1) l (k ++ [y]) := by
  obtain ⟨h1, h2, h3, h4⟩ := h
  refine ⟨h1, by rw [List.length_append, List.length_singleton]; omega, fun _ => by simp, fun z hz => ?_⟩
  rw [← List.append_assoc, List.mem_append] at hz
  rcases hz with hz | hz
  · exact h4 z hz
  · obtain rfl : z = y := by simpa using hz
    exact hy
theorem blAt_new {ms : List Str} {i : Nat} {l : List (List (Str × Int))} {k : List (Str × Int)} (h : BlAt ms i l k) (hk : k ≠ []) {y : Str × Int} (hy : y.1 ∈ ms ∧ 1 ≤ y.2 ∧ y.2 ≤ big) : BlAt ms (i + 1) (l ++ [k]) [y] := by
  obtain ⟨h1, h2, h3, h4⟩ := h
  refine ⟨fun x hx => ?_, by rw [List.flatten_append, List.length_append]; simp only [List.flatten_cons, List.flatten_nil, List.append_nil, List.length_singleton]; omega, fun _ => by simp, fun z hz => ?_⟩
  · rcases List.mem_append.mp hx with hx | hx
    · exact h1 x hx
    · obtain rfl : x = k := by simpa using hx
      exact hk
  · rw [List.flatten_append, List.mem_append] at hz
    rcases hz with hz | hz
    · exact h4 z (by simpa using hz)
    · obtain rfl : z = y := by simpa using hz
      exact hy
theorem blAt_end {ms : List Str} {i : Nat} {l : List (List (Str × Int))} {k : List (Str × Int)} (h : BlAt ms i l k) (h0 : 0 < i) (h6 : i ≤ 6) : BlOk ms (l ++ [k]) := by
  obtain ⟨h1, h2, h3, h4⟩ := h
  have e : (l ++ [k]).flatten = l.flatten ++ k := by simp
  refine ⟨by simp, fun x hx => ?_, by rw [e, List.length_append]; omega, by rw [e, List.length_append]; omega, by rw [e]; exact h4⟩
  rcases List.mem_append.mp hx with hx | hx
  · exact h1 x hx
  · obtain rfl : x = k := by simpa using hx
    exact h3 h0
theorem flat_few {α : Type} : ∀ {l : List (List α)}, (∀ x ∈ l, x ≠ []) → l.length ≤ l.flatten.length
  | [], _ => Nat.le_refl _
  | x :: l, h => by
    have h1 := flat_few (l := l) fun y hy => h y (List.mem_cons_of_mem _ hy)
    have h2 := List.length_pos_iff.mpr (h x List.mem_cons_self)
    rw [List.flatten_cons, List.length_append, List.length_cons]
    omega
theorem blAt_few {ms : List Str} {i : Nat} {l : List (List (Str × Int))} {k : List (Str × Int)} (h : BlAt ms i l k) : l.length ≤ i := by
  have := flat_few h.1
  have := h.2.1
  omega
theorem last_D {l : List (List (Str × Int))} {k : List (Str × Int)} {Q : List PyData → List (List PyData) → Prop} (h : Q (k.map lyD) (l.map (·.map lyD))) : lastLL ((l ++ [k]).map (·.map lyD)) Q := ⟨_, _, by rw [List.map_append]; rfl, h⟩
theorem sc_law_blocks : FnScope ["feed", "marks", "blocks", "k", "block"] ["feed", "marks"] (defScope (topS 15)) := ⟨rfl, rfl, rfl, by decide +kernel, rfl, by decide +kernel, by decide +kernel⟩
local macro_rules | `(tactic| walk_at "wpt") => `(tactic| simp (maxSteps := 1000000) only [↓TE_law_next, ↓TE_law_long, ↓reduceIte, ↓retA_kO, ↓retA_kD, ↓retA_kDo, ↓retA_kS, ↓asIs_m, ↓asBs_m, ↓asSs_m, fSum, fMin, fMax, fAll, fAny, fSortI, fMin2, fMax2, fStr, ↓fIntS_i, ↓fIntS_b, ↓fIntS_s, oLcN, fSortST, fSortT, zSeqX, zIfX, zRaise, zTry, ↓bare_d, ↓bare_o, ↓bare_l, ↓bare_no, ↓bare_f, ↓bare_g, ↓bare_P, ↓bare_dic, uSee, bSee, uSeeA, bSeeA, zAl, zInsLL, zForAl, osNil, osCons, oDisp, zLLclr, zLLapp, oSortK, uIsE, oSplit, uLendT, S.f.injEq, eq_self, ↓fAddA_i, ↓fAddA_s, ↓fAddA_t, fRepT, oRg1, uChain, ↓slWL_d, ↓slWL_o, ↓slWL_l, ↓slWL_s, ↓seeL_n, ↓seeL_d, ↓seeL_s, uCallSL, zLLfor, gTL, iZpA, ↓as2_l, ↓as2_t, ↓isLL_l, zLLo, uLLix, zLLput, oRep, fJoin, uV2, fSortS, fSortP, oLLe, iZp, iEn, iRv, iRr1, ↓slW_d, ↓slW_o, ↓slW_P, ↓slW_s, ↓hasS_d, ↓hasS_o, ↓hasS_f, ↓hasS_s, uV, uN, u1, o1, o2, oN, ↓fIn_l, ↓fIn_s, fCat, ↓fList_l, ↓fList_t, ↓fTup_l, ↓fTup_t, ↓fInt1_i, ↓fInt1_b, ↓lstR_l, ↓lstR_P, zM1, zM0, fApp, ↓fExt_l, ↓fExt_t, fRev, fClr, zIns, uPop, uPopI, ↓slF_d, ↓slF_o, ↓slF_s, uVf, pNo, pSo, ↓fSl_s, ↓fSl_t, uSl, oSl, oSlN, ↓scal_n, ↓scal_b, ↓scal_i, ↓scal_s, ↓kS_d, ↓ret_S, ↓see_n, ↓see_d, ↓see_s, rV, uCallS, rNil, rD, rS, uCallA, oCallA, ↓toS_d, ↓toS_f, ↓toS_s, ↓slS_0, ↓slS_s, ↓retA_d, ↓retA_o, ↓retA_O, ↓backL_n, ↓backL_s, ↓backL_d, ↓backL_f, ↓lok_n, ↓lok_s, ↓lok_d, ↓lok_f, ↓lent_n, ↓lent_s, ↓lent_d, ↓lent_f, bYes, oLc, ↓clr_n, ↓clr_c, ↓clr2_n, ↓clr2_c, ↓rest_n, ↓rest_c, ↓keep1_d, ↓keep1_o, ↓keep1_f, ↓keep1_no, ↓keep1_s, ↓asLL_l, oLL0, zLLn, zLLa, uLLlen, List.mem_cons, List.not_mem_nil, Nat.reduceEqDiff, eqv_list, eqv_tuple, eqv_none, ↓asI_i, ↓asB_b, ↓asS_s, ↓asL_l, ↓asT_t, ↓slD_0, ↓slD_s, ↓slO_0, ↓slO_s, ↓asR_l, ↓fAdd_i, ↓fAdd_s, ↓ixbo_0, ↓ixbo_1, ↓ixbo_2, ↓ixbo_3, ↓ixD_l, ↓ixD_t, ↓ixD_s, ↓arg1_1, ↓arg2_2, ↓fLen1_l, ↓fLen1_t, ↓fLen1_s, ↓asC_c, ↓asQ_l, ↓asQ_t, ↓asQ_s, ↓kD_d, ↓kD_o, ↓kO_o, ↓fz_l, ↓fz_P, ↓fz_ll, ↓ret_d, ↓ret_o, ↓ret_O, ↓retL_d, ↓retL_o, ↓retL_O, ↓atD_0, ↓atD_1, ↓atD_2, ↓atD_3, ↓atD_b1, ↓atD_b2, ↓atD_b3, ↓ixP_30, ↓ixP_31, ↓ixP_32, ↓if_true, ↓if_false, zNext, zSeq, zSet, zSetO, zDrop, zRet, zRetO, zRetP, zRetN, zIf, zPar, zAsg, zPut, gN, gsNil, gsCons, gT, uVar, uC, uFz, u2, fI, fI0, fEq, fLtD, uIxO, uOwn, uCB, oCB, fLen, fLenO, fAbs, wB, wNot, wAnd, wOr, uAnd, uOr, uNot, uIf, aNil, aCons, uTup, oLst, fIx, oVar, iSeq, iR1, iR2, uCall, oCall, uLend, oLend, shaped_iff, sh_non, sh_int, sh_bool, sh_str, eqv_int, eqv_str, eqv_bool, ixN_30, ixN_31, ixN_32, ixN_20, ixN_21, atI_0, atI_1, atI_2, atI_3, atI_b1, atI_b2, atI_b3, List.length_map, Int.reduceEq, forall_const, implies_true, and_assoc, sz_0, sz_1, sz_2, sz_3, sz_4, sz_5, sz_6, sz_7, sz_8, Bool.not_eq_true', beq_eq_false_iff_ne, beq_iff_eq, ne_eq, Bool.and_eq_true, Bool.or_eq_true, decide_eq_false_iff_not, not_false_eq_true, not_true_eq_false, Bool.not_true, Bool.not_false, isI_n, isI_b, isI_i, isI_s, isI_l, isI_t, isB_n, isB_b, isB_i, isB_s, isB_l, isB_t, isS_n, isS_b, isS_i, isS_s, isS_l, isS_t, isL_n, isL_b, isL_i, isL_s, isL_l, isL_t, isT_n, isT_b, isT_i, isT_s, isT_l, isT_t, isN_n, isN_b, isN_i, isN_s, isN_l, isN_t, ca_0, ca_1, ca_2, ca_3, ca_4, ca_5, ca_6, Int.reduceToNat, Int.toNat_natCast, Int.reducePow, Int.reduceMul, Int.reduceLT, Int.reduceLE, Int.reduceNeg, zFor,   List.replicate, List.length_cons, List.length_nil, List.nil_append, List.cons_append, List.append_nil, List.map_cons, List.map_nil, List.set_cons_zero, List.set_cons_succ, List.getElem?_cons_zero, List.getElem?_cons_succ, Option.some.injEq, S.d.injEq, S.o.injEq, Res.lst.injEq, Res.lstP.injEq, PyData.int.injEq, PyData.str.injEq, PyData.bool.injEq, PyData.list.injEq, PyData.tuple.injEq, List.cons.injEq, reduceCtorEq,   exists_eq_left', exists_eq_left, exists_eq_right, exists_eq_right', true_and, and_true, false_and, and_false, exists_false, false_or, or_false, exists_and_left, exists_and_right, exists_eq', exists_eq, exists_const, Bool.false_eq_true, ite_true, ite_false, decide_eq_true_eq, Nat.sub_self, Nat.zero_add, Nat.add_sub_cancel, Nat.reduceSub, Nat.reduceAdd])
local macro_rules | `(tactic| walk_at "st") => `(tactic| simp (maxSteps := 1000000) only [↓TE_law_next, ↓TE_law_long, ↓reduceIte, ↓retA_kO, ↓retA_kD, ↓retA_kDo, ↓retA_kS, ↓asIs_m, ↓asBs_m, ↓asSs_m, fSum, fMin, fMax, fAll, fAny, fSortI, fMin2, fMax2, fStr, ↓fIntS_i, ↓fIntS_b, ↓fIntS_s, oLcN, fSortST, fSortT, zSeqX, zIfX, zRaise, zTry, ↓bare_d, ↓bare_o, ↓bare_l, ↓bare_no, ↓bare_f, ↓bare_g, ↓bare_P, ↓bare_dic, uSee, bSee, uSeeA, bSeeA, zAl, zInsLL, zForAl, osNil, osCons, oDisp, zLLclr, zLLapp, oSortK, uIsE, oSplit, uLendT, S.f.injEq, eq_self, ↓fAddA_i, ↓fAddA_s, ↓fAddA_t, fRepT, oRg1, uChain, ↓slWL_d, ↓slWL_o, ↓slWL_l, ↓slWL_s, ↓seeL_n, ↓seeL_d, ↓seeL_s, uCallSL, zLLfor, gTL, iZpA, ↓as2_l, ↓as2_t, ↓isLL_l, zLLo, uLLix, zLLput, oRep, fJoin, uV2, fSortS, fSortP, oLLe, iZp, iEn, iRv, iRr1, ↓slW_d, ↓slW_o, ↓slW_P, ↓slW_s, ↓hasS_d, ↓hasS_o, ↓hasS_f, ↓hasS_s, uV, uN, u1, o1, o2, oN, ↓fIn_l, ↓fIn_s, fCat, ↓fList_l, ↓fList_t, ↓fTup_l, ↓fTup_t, ↓fInt1_i, ↓fInt1_b, ↓lstR_l, ↓lstR_P, zM1, zM0, fApp, ↓fExt_l, ↓fExt_t, fRev, fClr, zIns, uPop, uPopI, ↓slF_d, ↓slF_o, ↓slF_s, uVf, pNo, pSo, ↓fSl_s, ↓fSl_t, uSl, oSl, oSlN, ↓scal_n, ↓scal_b, ↓scal_i, ↓scal_s, ↓kS_d, ↓ret_S, ↓see_n, ↓see_d, ↓see_s, rV, uCallS, rNil, rD, rS, uCallA, oCallA, ↓toS_d, ↓toS_f, ↓toS_s, ↓slS_0, ↓slS_s, ↓retA_d, ↓retA_o, ↓retA_O, ↓backL_n, ↓backL_s, ↓backL_d, ↓backL_f, ↓lok_n, ↓lok_s, ↓lok_d, ↓lok_f, ↓lent_n, ↓lent_s, ↓lent_d, ↓lent_f, bYes, oLc, ↓clr_n, ↓clr_c, ↓clr2_n, ↓clr2_c, ↓rest_n, ↓rest_c, ↓keep1_d, ↓keep1_o, ↓keep1_f, ↓keep1_no, ↓keep1_s, ↓asLL_l, oLL0, zLLn, zLLa, uLLlen, List.mem_cons, List.not_mem_nil, Nat.reduceEqDiff, eqv_list, eqv_tuple, eqv_none, ↓asI_i, ↓asB_b, ↓asS_s, ↓asL_l, ↓asT_t, ↓slD_0, ↓slD_s, ↓slO_0, ↓slO_s, ↓asR_l, ↓fAdd_i, ↓fAdd_s, ↓ixbo_0, ↓ixbo_1, ↓ixbo_2, ↓ixbo_3, ↓ixD_l, ↓ixD_t, ↓ixD_s, ↓arg1_1, ↓arg2_2, ↓fLen1_l, ↓fLen1_t, ↓fLen1_s, ↓asC_c, ↓asQ_l, ↓asQ_t, ↓asQ_s, ↓kD_d, ↓kD_o, ↓kO_o, ↓fz_l, ↓fz_P, ↓fz_ll, ↓ret_d, ↓ret_o, ↓ret_O, ↓retL_d, ↓retL_o, ↓retL_O, ↓atD_0, ↓atD_1, ↓atD_2, ↓atD_3, ↓atD_b1, ↓atD_b2, ↓atD_b3, ↓ixP_30, ↓ixP_31, ↓ixP_32, ↓if_true, ↓if_false, zNext, zSet, zSetO, zDrop, zRet, zRetO, zRetP, zRetN, zIf, zPar, zAsg, zPut, gN, gsNil, gsCons, gT, uVar, uC, uFz, u2, fI, fI0, fEq, fLtD, uIxO, uOwn, uCB, oCB, fLen, fLenO, fAbs, wB, wNot, wAnd, wOr, uAnd, uOr, uNot, uIf, aNil, aCons, uTup, oLst, fIx, oVar, iSeq, iR1, iR2, uCall, oCall, uLend, oLend, shaped_iff, sh_non, sh_int, sh_bool, sh_str, eqv_int, eqv_str, eqv_bool, ixN_30, ixN_31, ixN_32, ixN_20, ixN_21, atI_0, atI_1, atI_2, atI_3, atI_b1, atI_b2, atI_b3, List.length_map, Int.reduceEq, forall_const, implies_true, and_assoc, sz_0, sz_1, sz_2, sz_3, sz_4, sz_5, sz_6, sz_7, sz_8, Bool.not_eq_true', beq_eq_false_iff_ne, beq_iff_eq, ne_eq, Bool.and_eq_true, Bool.or_eq_true, decide_eq_false_iff_not, not_false_eq_true, not_true_eq_false, Bool.not_true, Bool.not_false, isI_n, isI_b, isI_i, isI_s, isI_l, isI_t, isB_n, isB_b, isB_i, isB_s, isB_l, isB_t, isS_n, isS_b, isS_i, isS_s, isS_l, isS_t, isL_n, isL_b, isL_i, isL_s, isL_l, isL_t, isT_n, isT_b, isT_i, isT_s, isT_l, isT_t, isN_n, isN_b, isN_i, isN_s, isN_l, isN_t, ca_0, ca_1, ca_2, ca_3, ca_4, ca_5, ca_6, Int.reduceToNat, Int.toNat_natCast, Int.reducePow, Int.reduceMul, Int.reduceLT, Int.reduceLE, Int.reduceNeg, zFor,   List.replicate, List.length_cons, List.length_nil, List.nil_append, List.cons_append, List.append_nil, List.map_cons, List.map_nil, List.set_cons_zero, List.set_cons_succ, List.getElem?_cons_zero, List.getElem?_cons_succ, Option.some.injEq, S.d.injEq, S.o.injEq, Res.lst.injEq, Res.lstP.injEq, PyData.int.injEq, PyData.str.injEq, PyData.bool.injEq, PyData.list.injEq, PyData.tuple.injEq, List.cons.injEq, reduceCtorEq,   exists_eq_left', exists_eq_left, exists_eq_right, exists_eq_right', true_and, and_true, false_and, and_false, exists_false, false_or, or_false, exists_and_left, exists_and_right, exists_eq', exists_eq, exists_const, Bool.false_eq_true, ite_true, ite_false, decide_eq_true_eq, Nat.sub_self, Nat.zero_add, Nat.add_sub_cancel, Nat.reduceSub, Nat.reduceAdd])
theorem c_law_blocks {P : Program} {w : World} {K : PySem.W.Frag} {mg : Str → Option Value} {base : Heap} (hb : Bi K mg) (D : Df K mg "_law_blocks" (topS 15) ["feed", "marks"]) (C__law_next : Cal P w K mg base "_law_next" 2 ["feed", "many"] T_law_next) (C__law_long : Cal P w K mg base "_law_long" 4 ["feed"] T_law_long) : Cal P w K mg base "_law_blocks" 5 ["feed", "marks"] T_law_blocks := by
  obtain ⟨f, fd, F, hm, hB⟩ := D
  refine ⟨f, fd, fn_d (k := 4) F sc_law_blocks ?hT (fun cdv A outer s H E hr => (q_cons (s_setO (j := 2) sc_law_blocks.nd o_ll0)
 (q_cons (s_for PassesOwn.never rfl (i_range1 hb.range (d_add d_int (d_lendC 0 C__law_next (hr.mono (by decide)) (a_cons d_int a_nil)))) (g_name 3 sc_law_blocks.nd)
 (q_cut (s_if (DW.dt (w_and (t_gt (d_lllen 2 hb.len) d_int) (w_and1 (t_eq hr.units (d_lendC 0 C__law_next (hr.mono (by decide)) (a_cons d_int a_nil)) d_int))))
 (q_one (s_lln 2)) q_nil)
 (q_one (s_lla 2 (d_tup (a_cons (d_ixN 1 (fun _ _ => rfl) (d_lendC 0 C__law_next (hr.mono (by decide)) (a_cons (d_lenV hb.len (vv 1)) a_nil))) (a_cons (d_lendC 0 C__law_long (hr.mono (by decide)) a_nil) a_nil)))))))
 (q_one (s_ret (d_tupV hb.tuple (DE.dv (d_fz (o_lc [("block", 4)] rfl sc_law_blocks.nd (i_seq (dvf 2)) (by show blkC ["feed", "marks", "blocks", "k", "block"] (defScope (topS 15)) _ _ = true; decide +kernel) (fun _ _ _ _ _ => (g_name 4 sc_law_blocks.nd)) (fun _ _ _ _ _ => b_yes) (fun _ _ _ _ _ => (d_tupV hb.tuple (vv 4))) (by decide)))))))))), hm, F.kp, hB⟩
  case hT =>
    intro a Q h
    obtain ⟨v, ms, rfl, hms, hml, q⟩ := h
    refine ⟨rfl, ?_⟩
    have mpos : 0 < ms.length := List.length_pos_iff.mpr hms
    walk_at "wpt"
    refine ⟨by decide, fun r r0 hr => ⟨by omega, by omega, ?_⟩⟩
    refine loop_by (fun i c => ∃ (l : List (List (Str × Int))) (k : List (Str × Int)) (x3 : S), c = [.o (some v) (.lstP FeedP), .d (.list (ms.map PyData.str)), .o none (.lls ((l ++ [k]).map (·.map lyD))), x3, .no] ∧ BlAt ms i l k) ⟨[], [], _, rfl, by simp, by simp, by simp, by simp⟩ ?_ ?_
    · rintro i y c N hy ⟨l, k, x3, rfl, hb⟩ hN
      obtain ⟨hi, rfl⟩ := rngD_get hy
      walk_at "wpt"
      refine cut_by (fun c => ∃ (l : List (List (Str × Int))) (k : List (Str × Int)) (x3 : S), c = [.o (some v) (.lstP FeedP), .d (.list (ms.map PyData.str)), .o none (.lls ((l ++ [k]).map (·.map lyD))), x3, .no] ∧ k.length ≤ 6 ∧ ∀ y : Str × Int, (y.1 ∈ ms ∧ 1 ≤ y.2 ∧ y.2 ≤ big) → BlAt ms (i + 1) l (k ++ [y])) ?_ ?_
      · intro M hM
        walk_at "wpt"
        have k6 : k.length ≤ 6 := by
          have := hb.2.1
          omega
        have hM0 : ∀ x3, M [.o (some v) (.lstP FeedP), .d (.list (ms.map PyData.str)), .o none (.lls ((l ++ [k]).map (·.map lyD))), x3, .no] := fun x3 => hM _ ⟨l, k, x3, rfl, k6, fun y hy => blAt_more hb hy⟩
        refine last_D ?_
        walk_at "wpt"
        split
        · rename_i hk
          have hk' : k ≠ [] := fun z => by subst z; simp at hk
          refine ⟨by decide, fun r _ _ => ?_⟩
          split
          · have hl := blAt_few hb
            have := sizeLine_eq
            refine ⟨by rw [List.length_append, List.length_singleton]; omega, ?_⟩
            have := hM _ ⟨l ++ [k], [], .d (.int (0 + i)), rfl, by simp, fun y hy => blAt_new hb hk' hy⟩
            simpa using this
          · exact hM0 _
        · exact hM0 _
      · rintro c ⟨l, k, x3, rfl, k6, hb⟩
        walk_at "wpt"
        refine last_D ⟨?_, by omega, bd_of (by omega) (by omega), fun n n0 hn => atD_mem n0 (by simpa using hn) fun d hd t t1 tb => ?_⟩
        · have := sizeLine_eq
          rw [List.length_map]; omega
        · obtain ⟨m, hm, rfl⟩ := List.mem_map.mp hd
          have := hN _ ⟨l, k ++ [(m, t)], x3, rfl, hb (m, t) ⟨hm, t1, tb⟩⟩
          simpa [lyD] using this
    · rintro c ⟨l, k, x3, rfl, hb⟩
      rw [rngD_len] at hb
      walk_at "wpt"
      have hl := blAt_few hb
      refine comp_map (fun y => match y with | .list ds => .tuple ds | y => y) ?_ (fun y hy N hN => ?_) ?_
      · have := sizeLine_eq
        rw [List.length_map, List.length_map, List.length_append, List.length_singleton]
        omega
      · obtain ⟨ds, _, rfl⟩ := List.mem_map.mp hy
        walk_at "wpt"
        exact hN _ rfl
      · walk_at "wpt"
        have e : List.map (fun y => match y with | .list ds => .tuple ds | y => y) (List.map PyData.list (List.map (fun x => List.map lyD x) (l ++ [k]))) = (l ++ [k]).map blD := by
          rw [List.map_map, List.map_map]; rfl
        rw [e]
        exact q _ (blAt_end hb (by omega) (by omega)) _ rfl

def T_law_bores : TF := fun a Q => ∃ (xs : List Int) (ns ms : List Str), a = [.d (.list (xs.map PyData.int)), .d (.list (ns.map PyData.str)), .d (.list (ms.map PyData.str))] ∧ ns.length ≤ 20 ∧ ms ≠ [] ∧ ms.length ≤ 1000 ∧ ∀ bs, BosOk ns ms bs → ret Q (.o none (.lst (bs.map boD)))
theorem TE_law_bores {xs : List Int} {ns ms : List Str} {Q : S → Dl.Ctx → Prop} : T_law_bores [.d (.list (xs.map PyData.int)), .d (.list (ns.map PyData.str)), .d (.list (ms.map PyData.str))] Q = (ns.length ≤ 20 ∧ ms ≠ [] ∧ ms.length ≤ 1000 ∧ ∀ bs, BosOk ns ms bs → ret Q (.o none (.lst (bs.map boD)))) := propext ⟨fun ⟨_, _, _, e, q⟩ => by
  simp only [List.cons.injEq, S.d.injEq, PyData.list.injEq, and_true] at e
  obtain ⟨_, e1, e2⟩ := e
  have := str_inj e1
  have := str_inj e2
  subst_vars
  exact q, fun q => ⟨_, _, _, rfl, q⟩⟩
theorem TE_law_bores2 {xs : List Int} {n1 n2 : Str} {ms : List Str} {Q : S → Dl.Ctx → Prop} : T_law_bores [.d (.list (xs.map PyData.int)), .d (.list [.str n1, .str n2]), .d (.list (ms.map PyData.str))] Q = (ms ≠ [] ∧ ms.length ≤ 1000 ∧ ∀ bs, BosOk [n1, n2] ms bs → ret Q (.o none (.lst (bs.map boD)))) := by
  have := TE_law_bores (xs := xs) (ns := [n1, n2]) (ms := ms) (Q := Q)
  rw [List.map_cons, List.map_cons, List.map_nil] at this
  rw [this]
  simp
/-- the bores on the way -/
structure BosAt (ns ms : List Str) (i : Nat) (bs : List Bo) (sp : Int) : Prop where
  ok : BosOk (ns.take i) ms bs
  len : bs.length = i
  lo : -1 ≤ sp
  hi : sp ≤ i * big
  far : ∀ b ∈ bs, b.at_ ≤ sp
theorem bosAt_0 (ns ms : List Str) : BosAt ns ms 0 [] (-1) := by
  refine ⟨⟨List.Perm.refl [], fun b hb => absurd hb List.not_mem_nil, List.nodup_nil⟩, rfl, Int.le_refl _, ?_, fun b hb => absurd hb List.not_mem_nil⟩
  rw [Int.natCast_zero, Int.zero_mul]
  decide
theorem bosAt_more {ns ms : List Str} {i : Nat} {bs : List Bo} {sp : Int} (h : BosAt ns ms i bs sp) {z : Str} (hz : ns[i]? = some z) (hi : i < 20) {r t : Int} {bl : List (List (Str × Int))} (r1 : 1 ≤ r) (rb : r ≤ big) (t1 : 1 ≤ t) (tb : t ≤ big) (hb : BlOk ms bl) (k : Nat) :
    BosAt ns ms (i + 1) (bs.take k ++ [⟨z, sp + r, t - 1, bl⟩] ++ bs.drop k) (sp + r) := by
  obtain ⟨⟨b1, b2, b3⟩, hl, h0, h1, hf⟩ := h
  have B0 : 0 < big := big_pos
  obtain ⟨B, hB⟩ : ∃ B, B = big := ⟨_, rfl⟩
  rw [← hB] at rb tb h1 B0
  have e : ns.take (i + 1) = ns.take i ++ [z] := by rw [List.take_add_one, hz]; rfl
  have ib : (i : Int) * B ≤ 19 * B := Int.mul_le_mul_of_nonneg_right (by omega) (Int.le_of_lt B0)
  refine ⟨⟨?_, fun b hb' => ?_, ?_⟩, by rw [len_ins, hl], by omega, ?_, fun b hb' => ?_⟩
  · have h2 := (perm_ins (ws := bs) (n := k) (w := (⟨z, sp + r, t - 1, bl⟩ : Bo))).map Bo.nm
    rw [e]
    exact h2.trans ((b1.cons z).trans (List.perm_append_singleton z _).symm)
  · rcases mem_ins.mp hb' with rfl | hb'
    · exact ⟨hb, show 0 ≤ sp + r by omega, by rw [← hB]; show sp + r ≤ 100 * B; omega, show 0 ≤ t - 1 by omega, by rw [← hB]; show t - 1 ≤ B; omega⟩
    · exact b2 b hb'
  · have h2 := (perm_ins (ws := bs) (n := k) (w := (⟨z, sp + r, t - 1, bl⟩ : Bo))).map Bo.at_
    refine h2.nodup_iff.mpr (List.nodup_cons.mpr ⟨fun hm => ?_, b3⟩)
    obtain ⟨b, hb1, hb2⟩ := List.mem_map.mp hm
    have h3 := hf b hb1
    have h4 : b.at_ = sp + r := hb2
    omega
  · rw [← hB, Int.natCast_add, Int.add_mul]
    have : ((1 : Nat) : Int) * B = B := Int.one_mul B
    omega
  · rcases mem_ins.mp hb' with rfl | hb'
    · exact Int.le_refl _
    · have := hf b hb'
      omega
theorem sc_law_bores : FnScope ["script", "names", "marks", "holes", "spot", "k", "feed", "bore"] ["script", "names", "marks"] (defScope (topS 16)) := ⟨rfl, rfl, rfl, by decide +kernel, rfl, by decide +kernel, by decide +kernel⟩
local macro_rules | `(tactic| walk_at "wpt") => `(tactic| simp (maxSteps := 1000000) only [↓TE_law_next, ↓TE_law_blocks, ↓TE_law_long, ↓TE_law_feed, ↓reduceIte, ↓retA_kO, ↓retA_kD, ↓retA_kDo, ↓retA_kS, ↓asIs_m, ↓asBs_m, ↓asSs_m, fSum, fMin, fMax, fAll, fAny, fSortI, fMin2, fMax2, fStr, ↓fIntS_i, ↓fIntS_b, ↓fIntS_s, oLcN, fSortST, fSortT, zSeqX, zIfX, zRaise, zTry, ↓bare_d, ↓bare_o, ↓bare_l, ↓bare_no, ↓bare_f, ↓bare_g, ↓bare_P, ↓bare_dic, uSee, bSee, uSeeA, bSeeA, zAl, zInsLL, zForAl, osNil, osCons, oDisp, zLLclr, zLLapp, oSortK, uIsE, oSplit, uLendT, S.f.injEq, eq_self, ↓fAddA_i, ↓fAddA_s, ↓fAddA_t, fRepT, oRg1, uChain, ↓slWL_d, ↓slWL_o, ↓slWL_l, ↓slWL_s, ↓seeL_n, ↓seeL_d, ↓seeL_s, uCallSL, zLLfor, gTL, iZpA, ↓as2_l, ↓as2_t, ↓isLL_l, zLLo, uLLix, zLLput, oRep, fJoin, uV2, fSortS, fSortP, oLLe, iZp, iEn, iRv, iRr1, ↓slW_d, ↓slW_o, ↓slW_P, ↓slW_s, ↓hasS_d, ↓hasS_o, ↓hasS_f, ↓hasS_s, uV, uN, u1, o1, o2, oN, ↓fIn_l, ↓fIn_s, fCat, ↓fList_l, ↓fList_t, ↓fTup_l, ↓fTup_t, ↓fInt1_i, ↓fInt1_b, ↓lstR_l, ↓lstR_P, zM1, zM0, fApp, ↓fExt_l, ↓fExt_t, fRev, fClr, zIns, uPop, uPopI, ↓slF_d, ↓slF_o, ↓slF_s, uVf, pNo, pSo, ↓fSl_s, ↓fSl_t, uSl, oSl, oSlN, ↓scal_n, ↓scal_b, ↓scal_i, ↓scal_s, ↓kS_d, ↓ret_S, ↓see_n, ↓see_d, ↓see_s, rV, uCallS, rNil, rD, rS, uCallA, oCallA, ↓toS_d, ↓toS_f, ↓toS_s, ↓slS_0, ↓slS_s, ↓retA_d, ↓retA_o, ↓retA_O, ↓backL_n, ↓backL_s, ↓backL_d, ↓backL_f, ↓lok_n, ↓lok_s, ↓lok_d, ↓lok_f, ↓lent_n, ↓lent_s, ↓lent_d, ↓lent_f, bYes, oLc, ↓clr_n, ↓clr_c, ↓clr2_n, ↓clr2_c, ↓rest_n, ↓rest_c, ↓keep1_d, ↓keep1_o, ↓keep1_f, ↓keep1_no, ↓keep1_s, ↓asLL_l, oLL0, zLLn, zLLa, uLLlen, List.mem_cons, List.not_mem_nil, Nat.reduceEqDiff, eqv_list, eqv_tuple, eqv_none, ↓asI_i, ↓asB_b, ↓asS_s, ↓asL_l, ↓asT_t, ↓slD_0, ↓slD_s, ↓slO_0, ↓slO_s, ↓asR_l, ↓fAdd_i, ↓fAdd_s, ↓ixbo_0, ↓ixbo_1, ↓ixbo_2, ↓ixbo_3, ↓ixD_l, ↓ixD_t, ↓ixD_s, ↓arg1_1, ↓arg2_2, ↓fLen1_l, ↓fLen1_t, ↓fLen1_s, ↓asC_c, ↓asQ_l, ↓asQ_t, ↓asQ_s, ↓kD_d, ↓kD_o, ↓kO_o, ↓fz_l, ↓fz_P, ↓fz_ll, ↓ret_d, ↓ret_o, ↓ret_O, ↓retL_d, ↓retL_o, ↓retL_O, ↓atD_0, ↓atD_1, ↓atD_2, ↓atD_3, ↓atD_b1, ↓atD_b2, ↓atD_b3, ↓ixP_30, ↓ixP_31, ↓ixP_32, ↓if_true, ↓if_false, zNext, zSeq, zSet, zSetO, zDrop, zRet, zRetO, zRetP, zRetN, zIf, zPar, zAsg, zPut, gN, gsNil, gsCons, gT, uVar, uC, uFz, u2, fI, fI0, fEq, fLtD, uIxO, uOwn, uCB, oCB, fLen, fLenO, fAbs, wB, wNot, wAnd, wOr, uAnd, uOr, uNot, uIf, aNil, aCons, uTup, oLst, fIx, oVar, iSeq, iR1, iR2, uCall, oCall, uLend, oLend, shaped_iff, sh_non, sh_int, sh_bool, sh_str, eqv_int, eqv_str, eqv_bool, ixN_30, ixN_31, ixN_32, ixN_20, ixN_21, atI_0, atI_1, atI_2, atI_3, atI_b1, atI_b2, atI_b3, List.length_map, Int.reduceEq, forall_const, implies_true, and_assoc, sz_0, sz_1, sz_2, sz_3, sz_4, sz_5, sz_6, sz_7, sz_8, Bool.not_eq_true', beq_eq_false_iff_ne, beq_iff_eq, ne_eq, Bool.and_eq_true, Bool.or_eq_true, decide_eq_false_iff_not, not_false_eq_true, not_true_eq_false, Bool.not_true, Bool.not_false, isI_n, isI_b, isI_i, isI_s, isI_l, isI_t, isB_n, isB_b, isB_i, isB_s, isB_l, isB_t, isS_n, isS_b, isS_i, isS_s, isS_l, isS_t, isL_n, isL_b, isL_i, isL_s, isL_l, isL_t, isT_n, isT_b, isT_i, isT_s, isT_l, isT_t, isN_n, isN_b, isN_i, isN_s, isN_l, isN_t, ca_0, ca_1, ca_2, ca_3, ca_4, ca_5, ca_6, Int.reduceToNat, Int.toNat_natCast, Int.reducePow, Int.reduceMul, Int.reduceLT, Int.reduceLE, Int.reduceNeg, zFor,   List.replicate, List.length_cons, List.length_nil, List.nil_append, List.cons_append, List.append_nil, List.map_cons, List.map_nil, List.set_cons_zero, List.set_cons_succ, List.getElem?_cons_zero, List.getElem?_cons_succ, Option.some.injEq, S.d.injEq, S.o.injEq, Res.lst.injEq, Res.lstP.injEq, PyData.int.injEq, PyData.str.injEq, PyData.bool.injEq, PyData.list.injEq, PyData.tuple.injEq, List.cons.injEq, reduceCtorEq,   exists_eq_left', exists_eq_left, exists_eq_right, exists_eq_right', true_and, and_true, false_and, and_false, exists_false, false_or, or_false, exists_and_left, exists_and_right, exists_eq', exists_eq, exists_const, Bool.false_eq_true, ite_true, ite_false, decide_eq_true_eq, Nat.sub_self, Nat.zero_add, Nat.add_sub_cancel, Nat.reduceSub, Nat.reduceAdd])
local macro_rules | `(tactic| walk_at "st") => `(tactic| simp (maxSteps := 1000000) only [↓TE_law_next, ↓TE_law_blocks, ↓TE_law_long, ↓TE_law_feed, ↓reduceIte, ↓retA_kO, ↓retA_kD, ↓retA_kDo, ↓retA_kS, ↓asIs_m, ↓asBs_m, ↓asSs_m, fSum, fMin, fMax, fAll, fAny, fSortI, fMin2, fMax2, fStr, ↓fIntS_i, ↓fIntS_b, ↓fIntS_s, oLcN, fSortST, fSortT, zSeqX, zIfX, zRaise, zTry, ↓bare_d, ↓bare_o, ↓bare_l, ↓bare_no, ↓bare_f, ↓bare_g, ↓bare_P, ↓bare_dic, uSee, bSee, uSeeA, bSeeA, zAl, zInsLL, zForAl, osNil, osCons, oDisp, zLLclr, zLLapp, oSortK, uIsE, oSplit, uLendT, S.f.injEq, eq_self, ↓fAddA_i, ↓fAddA_s, ↓fAddA_t, fRepT, oRg1, uChain, ↓slWL_d, ↓slWL_o, ↓slWL_l, ↓slWL_s, ↓seeL_n, ↓seeL_d, ↓seeL_s, uCallSL, zLLfor, gTL, iZpA, ↓as2_l, ↓as2_t, ↓isLL_l, zLLo, uLLix, zLLput, oRep, fJoin, uV2, fSortS, fSortP, oLLe, iZp, iEn, iRv, iRr1, ↓slW_d, ↓slW_o, ↓slW_P, ↓slW_s, ↓hasS_d, ↓hasS_o, ↓hasS_f, ↓hasS_s, uV, uN, u1, o1, o2, oN, ↓fIn_l, ↓fIn_s, fCat, ↓fList_l, ↓fList_t, ↓fTup_l, ↓fTup_t, ↓fInt1_i, ↓fInt1_b, ↓lstR_l, ↓lstR_P, zM1, zM0, fApp, ↓fExt_l, ↓fExt_t, fRev, fClr, zIns, uPop, uPopI, ↓slF_d, ↓slF_o, ↓slF_s, uVf, pNo, pSo, ↓fSl_s, ↓fSl_t, uSl, oSl, oSlN, ↓scal_n, ↓scal_b, ↓scal_i, ↓scal_s, ↓kS_d, ↓ret_S, ↓see_n, ↓see_d, ↓see_s, rV, uCallS, rNil, rD, rS, uCallA, oCallA, ↓toS_d, ↓toS_f, ↓toS_s, ↓slS_0, ↓slS_s, ↓retA_d, ↓retA_o, ↓retA_O, ↓backL_n, ↓backL_s, ↓backL_d, ↓backL_f, ↓lok_n, ↓lok_s, ↓lok_d, ↓lok_f, ↓lent_n, ↓lent_s, ↓lent_d, ↓lent_f, bYes, oLc, ↓clr_n, ↓clr_c, ↓clr2_n, ↓clr2_c, ↓rest_n, ↓rest_c, ↓keep1_d, ↓keep1_o, ↓keep1_f, ↓keep1_no, ↓keep1_s, ↓asLL_l, oLL0, zLLn, zLLa, uLLlen, List.mem_cons, List.not_mem_nil, Nat.reduceEqDiff, eqv_list, eqv_tuple, eqv_none, ↓asI_i, ↓asB_b, ↓asS_s, ↓asL_l, ↓asT_t, ↓slD_0, ↓slD_s, ↓slO_0, ↓slO_s, ↓asR_l, ↓fAdd_i, ↓fAdd_s, ↓ixbo_0, ↓ixbo_1, ↓ixbo_2, ↓ixbo_3, ↓ixD_l, ↓ixD_t, ↓ixD_s, ↓arg1_1, ↓arg2_2, ↓fLen1_l, ↓fLen1_t, ↓fLen1_s, ↓asC_c, ↓asQ_l, ↓asQ_t, ↓asQ_s, ↓kD_d, ↓kD_o, ↓kO_o, ↓fz_l, ↓fz_P, ↓fz_ll, ↓ret_d, ↓ret_o, ↓ret_O, ↓retL_d, ↓retL_o, ↓retL_O, ↓atD_0, ↓atD_1, ↓atD_2, ↓atD_3, ↓atD_b1, ↓atD_b2, ↓atD_b3, ↓ixP_30, ↓ixP_31, ↓ixP_32, ↓if_true, ↓if_false, zNext, zSet, zSetO, zDrop, zRet, zRetO, zRetP, zRetN, zIf, zPar, zAsg, zPut, gN, gsNil, gsCons, gT, uVar, uC, uFz, u2, fI, fI0, fEq, fLtD, uIxO, uOwn, uCB, oCB, fLen, fLenO, fAbs, wB, wNot, wAnd, wOr, uAnd, uOr, uNot, uIf, aNil, aCons, uTup, oLst, fIx, oVar, iSeq, iR1, iR2, uCall, oCall, uLend, oLend, shaped_iff, sh_non, sh_int, sh_bool, sh_str, eqv_int, eqv_str, eqv_bool, ixN_30, ixN_31, ixN_32, ixN_20, ixN_21, atI_0, atI_1, atI_2, atI_3, atI_b1, atI_b2, atI_b3, List.length_map, Int.reduceEq, forall_const, implies_true, and_assoc, sz_0, sz_1, sz_2, sz_3, sz_4, sz_5, sz_6, sz_7, sz_8, Bool.not_eq_true', beq_eq_false_iff_ne, beq_iff_eq, ne_eq, Bool.and_eq_true, Bool.or_eq_true, decide_eq_false_iff_not, not_false_eq_true, not_true_eq_false, Bool.not_true, Bool.not_false, isI_n, isI_b, isI_i, isI_s, isI_l, isI_t, isB_n, isB_b, isB_i, isB_s, isB_l, isB_t, isS_n, isS_b, isS_i, isS_s, isS_l, isS_t, isL_n, isL_b, isL_i, isL_s, isL_l, isL_t, isT_n, isT_b, isT_i, isT_s, isT_l, isT_t, isN_n, isN_b, isN_i, isN_s, isN_l, isN_t, ca_0, ca_1, ca_2, ca_3, ca_4, ca_5, ca_6, Int.reduceToNat, Int.toNat_natCast, Int.reducePow, Int.reduceMul, Int.reduceLT, Int.reduceLE, Int.reduceNeg, zFor,   List.replicate, List.length_cons, List.length_nil, List.nil_append, List.cons_append, List.append_nil, List.map_cons, List.map_nil, List.set_cons_zero, List.set_cons_succ, List.getElem?_cons_zero, List.getElem?_cons_succ, Option.some.injEq, S.d.injEq, S.o.injEq, Res.lst.injEq, Res.lstP.injEq, PyData.int.injEq, PyData.str.injEq, PyData.bool.injEq, PyData.list.injEq, PyData.tuple.injEq, List.cons.injEq, reduceCtorEq,   exists_eq_left', exists_eq_left, exists_eq_right, exists_eq_right', true_and, and_true, false_and, and_false, exists_false, false_or, or_false, exists_and_left, exists_and_right, exists_eq', exists_eq, exists_const, Bool.false_eq_true, ite_true, ite_false, decide_eq_true_eq, Nat.sub_self, Nat.zero_add, Nat.add_sub_cancel, Nat.reduceSub, Nat.reduceAdd])
theorem c_law_bores {P : Program} {w : World} {K : PySem.W.Frag} {mg : Str → Option Value} {base : Heap} (hb : Bi K mg) (D : Df K mg "_law_bores" (topS 16) ["script", "names", "marks"]) (C__law_next : Cal P w K mg base "_law_next" 2 ["feed", "many"] T_law_next) (C__law_blocks : Cal P w K mg base "_law_blocks" 5 ["feed", "marks"] T_law_blocks) (C__law_long : Cal P w K mg base "_law_long" 4 ["feed"] T_law_long) (C__law_feed : Cal P w K mg base "_law_feed" 1 ["script", "k"] T_law_feed) : Cal P w K mg base "_law_bores" 6 ["script", "names", "marks"] T_law_bores := by
  obtain ⟨f, fd, F, hm, hB⟩ := D
  refine ⟨f, fd, fn_d (k := 5) F sc_law_bores ?hT (fun cdv A outer s H E hr => (q_cons (s_setO (j := 3) sc_law_bores.nd (o_lst a_nil))
 (q_cut (s_set (j := 4) sc_law_bores.nd (d_neg d_int))
 (q_cons (s_for PassesOwn.never rfl (i_range1 hb.range (d_lenV hb.len (vv 1))) (g_name 5 sc_law_bores.nd)
 (q_cut (s_setO (j := 6) sc_law_bores.nd (o_callC C__law_feed (hr.mono (by decide)) (a_cons (dv 0) (a_cons (d_add d_int (dv 5)) a_nil))))
 (q_cut (s_set (j := 4) sc_law_bores.nd (d_add (dv 4) (d_lendC 6 C__law_long (hr.mono (by decide)) a_nil)))
 (q_cut (s_set (j := 7) sc_law_bores.nd (d_tup (a_cons (d_ixN 1 (fun _ _ => rfl) (dv 5)) (a_cons (dv 4) (a_cons (d_sub (d_lendC 6 C__law_long (hr.mono (by decide)) a_nil) d_int) (a_cons (d_lendC 6 C__law_blocks (hr.mono (by decide)) (a_cons (dv 2) a_nil)) a_nil))))))
 (q_one (s_ins 3 (d_lendC 6 C__law_next (hr.mono (by decide)) (a_cons (d_add (d_lenV hb.len (vv 3)) d_int) a_nil)) (dv 7)))))))
 (q_one (s_retO (o_var 3))))))), hm, F.kp, hB⟩
  case hT =>
    intro a Q h
    obtain ⟨xs, ns, ms, rfl, hn, hms, hml, q⟩ := h
    refine ⟨rfl, ?_⟩
    have big0 := big_pos
    walk_at "wpt"
    refine cut_by (fun c => c = [.d (.list (xs.map PyData.int)), .d (.list (ns.map PyData.str)), .d (.list (ms.map PyData.str)), .o none (.lst []), .d (.int (-1)), .no, .no, .no]) ?_ ?_
    · intro M hM
      walk_at "wpt"
      exact hM _ rfl
    rintro c rfl
    walk_at "wpt"
    refine ⟨by omega, by omega, ?_⟩
    refine loop_by (fun i c => ∃ (bs : List Bo) (sp : Int) (x5 x6 x7 : S), c = [.d (.list (xs.map PyData.int)), .d (.list (ns.map PyData.str)), .d (.list (ms.map PyData.str)), .o none (.lst (bs.map boD)), .d (.int sp), x5, x6, x7] ∧ BosAt ns ms i bs sp) ⟨[], -1, _, _, _, rfl, bosAt_0 ns ms⟩ ?_ ?_
    · rintro i y c N hy ⟨bs, sp, x5, x6, x7, rfl, hb⟩ hN
      obtain ⟨hi, rfl⟩ := rngD_get hy
      have hi' : i < ns.length := by omega
      have hlen := hb.len
      refine cut_by (fun c => c = [.d (.list (xs.map PyData.int)), .d (.list (ns.map PyData.str)), .d (.list (ms.map PyData.str)), .o none (.lst (bs.map boD)), .d (.int sp), .d (.int (0 + i)), .o none (.lstP FeedP), x7]) ?_ ?_
      · intro M hM
        walk_at "wpt"
        exact ⟨by omega, hM _ rfl⟩
      rintro c rfl
      refine cut_by (fun c => ∃ r, 1 ≤ r ∧ r ≤ big ∧ c = [.d (.list (xs.map PyData.int)), .d (.list (ns.map PyData.str)), .d (.list (ms.map PyData.str)), .o none (.lst (bs.map boD)), .d (.int (sp + r)), .d (.int (0 + i)), .o none (.lstP FeedP), x7]) ?_ ?_
      · intro M hM
        walk_at "wpt"
        exact fun r h1 h2 => hM _ ⟨r, h1, h2, rfl⟩
      rintro c ⟨r, r1, rb, rfl⟩
      refine cut_by (fun c => ∃ (z : Str) (t : Int) (bl : List (List (Str × Int))), ns[i]? = some z ∧ 1 ≤ t ∧ t ≤ big ∧ BlOk ms bl ∧ c = [.d (.list (xs.map PyData.int)), .d (.list (ns.map PyData.str)), .d (.list (ms.map PyData.str)), .o none (.lst (bs.map boD)), .d (.int (sp + r)), .d (.int (0 + i)), .o none (.lstP FeedP), .d (boD ⟨z, sp + r, t - 1, bl⟩)]) ?_ ?_
      · intro M hM
        walk_at "wpt"
        exact atD_get hi' fun z hz t t1 tb => ⟨hms, hml, fun bl hbl => hM _ ⟨z, t, bl, hz, t1, tb, hbl, rfl⟩⟩
      rintro c ⟨z, t, bl, hz, t1, tb, hbl, rfl⟩
      walk_at "wpt"
      refine ⟨by omega, bd_of (by omega) (by omega), fun n n0 hn => ⟨by have := sizeLine_eq; omega, n0, by omega, ?_⟩⟩
      rw [insD_map boD bs n.toNat ⟨z, sp + r, t - 1, bl⟩]
      exact hN _ ⟨_, _, _, _, _, rfl, bosAt_more hb hz (by omega) r1 rb t1 tb hbl _⟩
    · rintro c ⟨bs, sp, x5, x6, x7, rfl, hb⟩
      walk_at "wpt"
      refine q _ ?_ _
      have := hb.ok
      rw [rngD_len] at this
      rw [List.take_of_length_le (by omega)] at this
      exact this

/-- two texts, sorted -/
def sortP (a b : Str) : List Str := if ltCps b.cps.toList a.cps.toList = true then [b, a] else [a, b]
theorem ltc_anti {a b : Str} (h1 : ltCps a.cps.toList b.cps.toList = false) (h2 : ltCps b.cps.toList a.cps.toList = false) : a = b := by
  rw [ltCps_eq, decide_eq_false_iff_not] at h1 h2
  have : a.cps.toList = b.cps.toList := List.le_antisymm (List.not_lt.mp h2) (List.not_lt.mp h1)
  obtain ⟨a⟩ := a
  obtain ⟨b⟩ := b
  have e : a = b := Array.toList_inj.mp this
  rw [e]
theorem sortP_of {a b : Str} {ss : List Str} (h : ss.Perm [a, b]) (hs : sortedS ss = true) : ss = sortP a b := by
  have hl := h.length_eq
  match ss, hl with
  | [x, y], _ =>
    have hs2 : ltCps y.cps.toList x.cps.toList = false := by simpa [sortedS, risingS] using hs
    unfold sortP
    have hx : x ∈ [a, b] := h.mem_iff.mp (by simp)
    simp at hx
    rcases hx with rfl | rfl
    · have : [y].Perm [b] := (List.perm_cons x).mp h
      obtain rfl : y = b := by simpa using this
      rw [hs2]; simp
    · have : [y].Perm [a] := (List.perm_cons x).mp (h.trans (List.Perm.swap _ _ _))
      obtain rfl : y = a := by simpa using this
      by_cases hc : ltCps x.cps.toList y.cps.toList = true
      · rw [if_pos hc]
      · rw [ltc_anti (by simpa using hc) hs2]; simp
theorem sortP_perm (a b : Str) : (sortP a b).Perm [a, b] := by
  unfold sortP
  split
  · exact List.Perm.swap _ _ _
  · exact List.Perm.refl _
theorem ltc_irr (a : Str) : ltCps a.cps.toList a.cps.toList = false := by
  rw [ltCps_eq, decide_eq_false_iff_not]; exact List.lt_irrefl _
theorem sortP_sorted (a b : Str) : sortedS (sortP a b) = true := by
  unfold sortP
  split
  · rename_i h
    have : ltCps a.cps.toList b.cps.toList = false := by
      cases q : ltCps a.cps.toList b.cps.toList with
      | false => rfl
      | true =>
        rw [ltCps_eq, decide_eq_true_eq] at h q
        exact absurd (List.lt_trans h q) (List.lt_irrefl _)
    simpa [sortedS, risingS] using this
  · rename_i h
    simpa [sortedS, risingS] using h
theorem sortP_iff {a b c d : Str} : sortP a b = sortP c d ↔ (a = c ∧ b = d) ∨ (a = d ∧ b = c) := by
  constructor
  · intro h
    have hp : [a, b].Perm [c, d] := (sortP_perm a b).symm.trans (h ▸ sortP_perm c d)
    have ha : a ∈ [c, d] := hp.mem_iff.mp (by simp)
    simp at ha
    rcases ha with rfl | rfl
    · have : [b].Perm [d] := (List.perm_cons a).mp hp
      exact .inl ⟨rfl, by simpa using this⟩
    · have : [b].Perm [c] := (List.perm_cons a).mp (hp.trans (List.Perm.swap _ _ _))
      exact .inr ⟨rfl, by simpa using this⟩
  · rintro (⟨rfl, rfl⟩ | ⟨rfl, rfl⟩)
    · rfl
    · exact sortP_of ((sortP_perm a b).trans (List.Perm.swap _ _ _)) (sortP_sorted a b)
/-- likes of marks, no two of one pair -/
structure LkTo (ms : List Str) (ls : List Lk3) : Prop where
  ok : LksOk ls
  inm : ∀ l ∈ ls, l.1 ∈ ms ∧ l.2.1 ∈ ms
  far : ls.Pairwise fun x y => sortP x.1 x.2.1 ≠ sortP y.1 y.2.1
def T_law_likes : TF := fun a Q => ∃ (v : Lt) (ms : List Str), a = [.o (some v) (.lstP FeedP), .d (.list (ms.map PyData.str))] ∧ 0 < ms.length ∧ ms.length ≤ 1000 ∧ (∀ w ∈ ms, PyData.strOk w = true) ∧ ∀ ls, LkTo ms ls → ls.length ≤ 5 → retL v (.lstP FeedP) Q (.o none (.lst (ls.map lkD)))
theorem TE_law_likes {v : Lt} {ms : List Str} {Q : S → Dl.Ctx → Prop} : T_law_likes [.o (some v) (.lstP FeedP), .d (.list (ms.map PyData.str))] Q = (0 < ms.length ∧ ms.length ≤ 1000 ∧ (∀ w ∈ ms, PyData.strOk w = true) ∧ ∀ ls, LkTo ms ls → ls.length ≤ 5 → retL v (.lstP FeedP) Q (.o none (.lst (ls.map lkD)))) := propext ⟨fun ⟨_, ms', e, q⟩ => by
  simp only [List.cons.injEq, S.o.injEq, Option.some.injEq, S.d.injEq, PyData.list.injEq, and_true, true_and] at e
  obtain ⟨rfl, e⟩ := e
  have := str_inj e
  subst this
  exact q, fun q => ⟨_, _, rfl, q⟩⟩
theorem sc_law_likes : FnScope ["feed", "marks", "likes", "k", "one", "other", "like", "told"] ["feed", "marks"] (defScope (topS 17)) := ⟨rfl, rfl, rfl, by decide +kernel, rfl, by decide +kernel, by decide +kernel⟩
local macro_rules | `(tactic| walk_at "wpt") => `(tactic| simp (maxSteps := 1000000) only [↓TE_law_next, ↓reduceIte, ↓retA_kO, ↓retA_kD, ↓retA_kDo, ↓retA_kS, ↓asIs_m, ↓asBs_m, ↓asSs_m, fSum, fMin, fMax, fAll, fAny, fSortI, fMin2, fMax2, fStr, ↓fIntS_i, ↓fIntS_b, ↓fIntS_s, oLcN, fSortST, fSortT, zSeqX, zIfX, zRaise, zTry, ↓bare_d, ↓bare_o, ↓bare_l, ↓bare_no, ↓bare_f, ↓bare_g, ↓bare_P, ↓bare_dic, uSee, bSee, uSeeA, bSeeA, zAl, zInsLL, zForAl, osNil, osCons, oDisp, zLLclr, zLLapp, oSortK, uIsE, oSplit, uLendT, S.f.injEq, eq_self, ↓fAddA_i, ↓fAddA_s, ↓fAddA_t, fRepT, oRg1, uChain, ↓slWL_d, ↓slWL_o, ↓slWL_l, ↓slWL_s, ↓seeL_n, ↓seeL_d, ↓seeL_s, uCallSL, zLLfor, gTL, iZpA, ↓as2_l, ↓as2_t, ↓isLL_l, zLLo, uLLix, zLLput, oRep, fJoin, uV2, fSortS, fSortP, oLLe, iZp, iEn, iRv, iRr1, ↓slW_d, ↓slW_o, ↓slW_P, ↓slW_s, ↓hasS_d, ↓hasS_o, ↓hasS_f, ↓hasS_s, uV, uN, u1, o1, o2, oN, ↓fIn_l, ↓fIn_s, fCat, ↓fList_l, ↓fList_t, ↓fTup_l, ↓fTup_t, ↓fInt1_i, ↓fInt1_b, ↓lstR_l, ↓lstR_P, zM1, zM0, fApp, ↓fExt_l, ↓fExt_t, fRev, fClr, zIns, uPop, uPopI, ↓slF_d, ↓slF_o, ↓slF_s, uVf, pNo, pSo, ↓fSl_s, ↓fSl_t, uSl, oSl, oSlN, ↓scal_n, ↓scal_b, ↓scal_i, ↓scal_s, ↓kS_d, ↓ret_S, ↓see_n, ↓see_d, ↓see_s, rV, uCallS, rNil, rD, rS, uCallA, oCallA, ↓toS_d, ↓toS_f, ↓toS_s, ↓slS_0, ↓slS_s, ↓retA_d, ↓retA_o, ↓retA_O, ↓backL_n, ↓backL_s, ↓backL_d, ↓backL_f, ↓lok_n, ↓lok_s, ↓lok_d, ↓lok_f, ↓lent_n, ↓lent_s, ↓lent_d, ↓lent_f, bYes, oLc, ↓clr_n, ↓clr_c, ↓clr2_n, ↓clr2_c, ↓rest_n, ↓rest_c, ↓keep1_d, ↓keep1_o, ↓keep1_f, ↓keep1_no, ↓keep1_s, ↓asLL_l, oLL0, zLLn, zLLa, uLLlen, List.mem_cons, List.not_mem_nil, Nat.reduceEqDiff, eqv_list, eqv_tuple, eqv_none, ↓asI_i, ↓asB_b, ↓asS_s, ↓asL_l, ↓asT_t, ↓slD_0, ↓slD_s, ↓slO_0, ↓slO_s, ↓asR_l, ↓fAdd_i, ↓fAdd_s, ↓ixbo_0, ↓ixbo_1, ↓ixbo_2, ↓ixbo_3, ↓ixD_l, ↓ixD_t, ↓ixD_s, ↓arg1_1, ↓arg2_2, ↓fLen1_l, ↓fLen1_t, ↓fLen1_s, ↓asC_c, ↓asQ_l, ↓asQ_t, ↓asQ_s, ↓kD_d, ↓kD_o, ↓kO_o, ↓fz_l, ↓fz_P, ↓fz_ll, ↓ret_d, ↓ret_o, ↓ret_O, ↓retL_d, ↓retL_o, ↓retL_O, ↓atD_0, ↓atD_1, ↓atD_2, ↓atD_3, ↓atD_b1, ↓atD_b2, ↓atD_b3, ↓ixP_30, ↓ixP_31, ↓ixP_32, ↓if_true, ↓if_false, zNext, zSeq, zSet, zSetO, zDrop, zRet, zRetO, zRetP, zRetN, zIf, zPar, zAsg, zPut, gN, gsNil, gsCons, gT, uVar, uC, uFz, u2, fI, fI0, fEq, fLtD, uIxO, uOwn, uCB, oCB, fLen, fLenO, fAbs, wB, wNot, wAnd, wOr, uAnd, uOr, uNot, uIf, aNil, aCons, uTup, oLst, fIx, oVar, iSeq, iR1, iR2, uCall, oCall, uLend, oLend, shaped_iff, sh_non, sh_int, sh_bool, sh_str, eqv_int, eqv_str, eqv_bool, ixN_30, ixN_31, ixN_32, ixN_20, ixN_21, atI_0, atI_1, atI_2, atI_3, atI_b1, atI_b2, atI_b3, List.length_map, Int.reduceEq, forall_const, implies_true, and_assoc, sz_0, sz_1, sz_2, sz_3, sz_4, sz_5, sz_6, sz_7, sz_8, Bool.not_eq_true', beq_eq_false_iff_ne, beq_iff_eq, ne_eq, Bool.and_eq_true, Bool.or_eq_true, decide_eq_false_iff_not, not_false_eq_true, not_true_eq_false, Bool.not_true, Bool.not_false, isI_n, isI_b, isI_i, isI_s, isI_l, isI_t, isB_n, isB_b, isB_i, isB_s, isB_l, isB_t, isS_n, isS_b, isS_i, isS_s, isS_l, isS_t, isL_n, isL_b, isL_i, isL_s, isL_l, isL_t, isT_n, isT_b, isT_i, isT_s, isT_l, isT_t, isN_n, isN_b, isN_i, isN_s, isN_l, isN_t, ca_0, ca_1, ca_2, ca_3, ca_4, ca_5, ca_6, Int.reduceToNat, Int.toNat_natCast, Int.reducePow, Int.reduceMul, Int.reduceLT, Int.reduceLE, Int.reduceNeg, zFor,   List.replicate, List.length_cons, List.length_nil, List.nil_append, List.cons_append, List.append_nil, List.map_cons, List.map_nil, List.set_cons_zero, List.set_cons_succ, List.getElem?_cons_zero, List.getElem?_cons_succ, Option.some.injEq, S.d.injEq, S.o.injEq, Res.lst.injEq, Res.lstP.injEq, PyData.int.injEq, PyData.str.injEq, PyData.bool.injEq, PyData.list.injEq, PyData.tuple.injEq, List.cons.injEq, reduceCtorEq,   exists_eq_left', exists_eq_left, exists_eq_right, exists_eq_right', true_and, and_true, false_and, and_false, exists_false, false_or, or_false, exists_and_left, exists_and_right, exists_eq', exists_eq, exists_const, Bool.false_eq_true, ite_true, ite_false, decide_eq_true_eq, Nat.sub_self, Nat.zero_add, Nat.add_sub_cancel, Nat.reduceSub, Nat.reduceAdd])
local macro_rules | `(tactic| walk_at "st") => `(tactic| simp (maxSteps := 1000000) only [↓TE_law_next, ↓reduceIte, ↓retA_kO, ↓retA_kD, ↓retA_kDo, ↓retA_kS, ↓asIs_m, ↓asBs_m, ↓asSs_m, fSum, fMin, fMax, fAll, fAny, fSortI, fMin2, fMax2, fStr, ↓fIntS_i, ↓fIntS_b, ↓fIntS_s, oLcN, fSortST, fSortT, zSeqX, zIfX, zRaise, zTry, ↓bare_d, ↓bare_o, ↓bare_l, ↓bare_no, ↓bare_f, ↓bare_g, ↓bare_P, ↓bare_dic, uSee, bSee, uSeeA, bSeeA, zAl, zInsLL, zForAl, osNil, osCons, oDisp, zLLclr, zLLapp, oSortK, uIsE, oSplit, uLendT, S.f.injEq, eq_self, ↓fAddA_i, ↓fAddA_s, ↓fAddA_t, fRepT, oRg1, uChain, ↓slWL_d, ↓slWL_o, ↓slWL_l, ↓slWL_s, ↓seeL_n, ↓seeL_d, ↓seeL_s, uCallSL, zLLfor, gTL, iZpA, ↓as2_l, ↓as2_t, ↓isLL_l, zLLo, uLLix, zLLput, oRep, fJoin, uV2, fSortS, fSortP, oLLe, iZp, iEn, iRv, iRr1, ↓slW_d, ↓slW_o, ↓slW_P, ↓slW_s, ↓hasS_d, ↓hasS_o, ↓hasS_f, ↓hasS_s, uV, uN, u1, o1, o2, oN, ↓fIn_l, ↓fIn_s, fCat, ↓fList_l, ↓fList_t, ↓fTup_l, ↓fTup_t, ↓fInt1_i, ↓fInt1_b, ↓lstR_l, ↓lstR_P, zM1, zM0, fApp, ↓fExt_l, ↓fExt_t, fRev, fClr, zIns, uPop, uPopI, ↓slF_d, ↓slF_o, ↓slF_s, uVf, pNo, pSo, ↓fSl_s, ↓fSl_t, uSl, oSl, oSlN, ↓scal_n, ↓scal_b, ↓scal_i, ↓scal_s, ↓kS_d, ↓ret_S, ↓see_n, ↓see_d, ↓see_s, rV, uCallS, rNil, rD, rS, uCallA, oCallA, ↓toS_d, ↓toS_f, ↓toS_s, ↓slS_0, ↓slS_s, ↓retA_d, ↓retA_o, ↓retA_O, ↓backL_n, ↓backL_s, ↓backL_d, ↓backL_f, ↓lok_n, ↓lok_s, ↓lok_d, ↓lok_f, ↓lent_n, ↓lent_s, ↓lent_d, ↓lent_f, bYes, oLc, ↓clr_n, ↓clr_c, ↓clr2_n, ↓clr2_c, ↓rest_n, ↓rest_c, ↓keep1_d, ↓keep1_o, ↓keep1_f, ↓keep1_no, ↓keep1_s, ↓asLL_l, oLL0, zLLn, zLLa, uLLlen, List.mem_cons, List.not_mem_nil, Nat.reduceEqDiff, eqv_list, eqv_tuple, eqv_none, ↓asI_i, ↓asB_b, ↓asS_s, ↓asL_l, ↓asT_t, ↓slD_0, ↓slD_s, ↓slO_0, ↓slO_s, ↓asR_l, ↓fAdd_i, ↓fAdd_s, ↓ixbo_0, ↓ixbo_1, ↓ixbo_2, ↓ixbo_3, ↓ixD_l, ↓ixD_t, ↓ixD_s, ↓arg1_1, ↓arg2_2, ↓fLen1_l, ↓fLen1_t, ↓fLen1_s, ↓asC_c, ↓asQ_l, ↓asQ_t, ↓asQ_s, ↓kD_d, ↓kD_o, ↓kO_o, ↓fz_l, ↓fz_P, ↓fz_ll, ↓ret_d, ↓ret_o, ↓ret_O, ↓retL_d, ↓retL_o, ↓retL_O, ↓atD_0, ↓atD_1, ↓atD_2, ↓atD_3, ↓atD_b1, ↓atD_b2, ↓atD_b3, ↓ixP_30, ↓ixP_31, ↓ixP_32, ↓if_true, ↓if_false, zNext, zSet, zSetO, zDrop, zRet, zRetO, zRetP, zRetN, zIf, zPar, zAsg, zPut, gN, gsNil, gsCons, gT, uVar, uC, uFz, u2, fI, fI0, fEq, fLtD, uIxO, uOwn, uCB, oCB, fLen, fLenO, fAbs, wB, wNot, wAnd, wOr, uAnd, uOr, uNot, uIf, aNil, aCons, uTup, oLst, fIx, oVar, iSeq, iR1, iR2, uCall, oCall, uLend, oLend, shaped_iff, sh_non, sh_int, sh_bool, sh_str, eqv_int, eqv_str, eqv_bool, ixN_30, ixN_31, ixN_32, ixN_20, ixN_21, atI_0, atI_1, atI_2, atI_3, atI_b1, atI_b2, atI_b3, List.length_map, Int.reduceEq, forall_const, implies_true, and_assoc, sz_0, sz_1, sz_2, sz_3, sz_4, sz_5, sz_6, sz_7, sz_8, Bool.not_eq_true', beq_eq_false_iff_ne, beq_iff_eq, ne_eq, Bool.and_eq_true, Bool.or_eq_true, decide_eq_false_iff_not, not_false_eq_true, not_true_eq_false, Bool.not_true, Bool.not_false, isI_n, isI_b, isI_i, isI_s, isI_l, isI_t, isB_n, isB_b, isB_i, isB_s, isB_l, isB_t, isS_n, isS_b, isS_i, isS_s, isS_l, isS_t, isL_n, isL_b, isL_i, isL_s, isL_l, isL_t, isT_n, isT_b, isT_i, isT_s, isT_l, isT_t, isN_n, isN_b, isN_i, isN_s, isN_l, isN_t, ca_0, ca_1, ca_2, ca_3, ca_4, ca_5, ca_6, Int.reduceToNat, Int.toNat_natCast, Int.reducePow, Int.reduceMul, Int.reduceLT, Int.reduceLE, Int.reduceNeg, zFor,   List.replicate, List.length_cons, List.length_nil, List.nil_append, List.cons_append, List.append_nil, List.map_cons, List.map_nil, List.set_cons_zero, List.set_cons_succ, List.getElem?_cons_zero, List.getElem?_cons_succ, Option.some.injEq, S.d.injEq, S.o.injEq, Res.lst.injEq, Res.lstP.injEq, PyData.int.injEq, PyData.str.injEq, PyData.bool.injEq, PyData.list.injEq, PyData.tuple.injEq, List.cons.injEq, reduceCtorEq,   exists_eq_left', exists_eq_left, exists_eq_right, exists_eq_right', true_and, and_true, false_and, and_false, exists_false, false_or, or_false, exists_and_left, exists_and_right, exists_eq', exists_eq, exists_const, Bool.false_eq_true, ite_true, ite_false, decide_eq_true_eq, Nat.sub_self, Nat.zero_add, Nat.add_sub_cancel, Nat.reduceSub, Nat.reduceAdd])
theorem c_law_likes {P : Program} {w : World} {K : PySem.W.Frag} {mg : Str → Option Value} {base : Heap} (hb : Bi K mg) (D : Df K mg "_law_likes" (topS 17) ["feed", "marks"]) (C__law_next : Cal P w K mg base "_law_next" 2 ["feed", "many"] T_law_next) : Cal P w K mg base "_law_likes" 3 ["feed", "marks"] T_law_likes := by
  obtain ⟨f, fd, F, hm, hB⟩ := D
  refine ⟨f, fd, fn_d (k := 2) F sc_law_likes ?hT (fun cdv A outer s H E hr => (q_cons (s_setO (j := 2) sc_law_likes.nd (o_lst a_nil))
 (q_cons (s_for PassesOwn.never rfl (i_range1 hb.range (d_lendC 0 C__law_next (hr.mono (by decide)) (a_cons d_int a_nil))) (g_name 3 sc_law_likes.nd)
 (q_cons (s_set (j := 4) sc_law_likes.nd (d_ixN 1 (fun _ _ => rfl) (d_lendC 0 C__law_next (hr.mono (by decide)) (a_cons (d_lenV hb.len (vv 1)) a_nil))))
 (q_cons (s_set (j := 5) sc_law_likes.nd (d_ixN 1 (fun _ _ => rfl) (d_lendC 0 C__law_next (hr.mono (by decide)) (a_cons (d_lenV hb.len (vv 1)) a_nil))))
 (q_cons (s_set (j := 6) sc_law_likes.nd (d_tup (a_cons (dv 4) (a_cons (dv 5) (a_cons (d_add d_int (d_lendC 0 C__law_next (hr.mono (by decide)) (a_cons d_int a_nil))) a_nil)))))
 (q_one (s_if (t_cmpL (op_notInA (hu65 hr)) opv_nin (d_fz (o_sortS hb.sorted (DE.dv (d_fz (o_lst (a_cons (dv 4) (a_cons (dv 5) a_nil))))))) (DE.dv (d_fz (o_lcN 2 [("told", 7)] rfl sc_law_likes.nd  (by show blkC ["feed", "marks", "likes", "k", "one", "other", "like", "told"] (defScope (topS 17)) _ _ = true; decide +kernel) (fun _ _ _ _ _ => (g_name 7 sc_law_likes.nd)) (fun _ _ _ _ _ => b_yes) (fun _ _ _ _ _ => (d_fz (o_sortST hb.sorted (DE.dv (d_sl (dv 7) p_no (p_so d_int)))))) (by decide)))) (by rfl))
 (q_one (s_ins 2 (d_lendC 0 C__law_next (hr.mono (by decide)) (a_cons (d_add (d_lenV hb.len (vv 2)) d_int) a_nil)) (dv 6))) q_nil))))))
 (q_one (s_retO (o_var 2)))))), hm, F.kp, hB⟩
  case hT =>
    intro a Q h
    obtain ⟨v, ms, rfl, m0, m1, hms, q⟩ := h
    refine ⟨rfl, ?_⟩
    have hsz := sizeLine_eq
    (repeat (refine seq_gen fun Nx hS => ?_; walk_at "st"; refine hS _ ?_; clear hS))
    (refine seq_gen fun Nx hS => ?_; walk_at "st")
    refine ⟨by decide, fun n n0 n1 => ⟨by omega, by omega, ?_⟩⟩
    refine loop_by (fun i c => ∃ (ls : List Lk3) (x3 x4 x5 x6 : S), c = [.o (some v) (.lstP FeedP), .d (.list (ms.map PyData.str)), .o none (.lst (ls.map lkD)), x3, x4, x5, x6, .no] ∧ LkTo ms ls ∧ ls.length ≤ i) ⟨[], _, _, _, _, rfl, ⟨fun l h => by simp at h, fun l h => by simp at h, List.Pairwise.nil⟩, Nat.le_refl _⟩ ?_ ?_
    · rintro i y c N hy ⟨ls, x3, x4, x5, x6, rfl, hL, hl⟩ hN
      obtain ⟨hi, rfl⟩ := rngD_get hy
      have hi5 : i < 5 := by omega
      simp only [↓asT_t, ↓asC_c, gT, gsCons, gsNil, gN, List.length_cons, List.length_nil, List.set_cons_zero, List.set_cons_succ, Nat.zero_add, Nat.reduceAdd, true_and]
      (refine seq_gen fun Nx hS => ?_; walk_at "st")
      refine ⟨by omega, bd_of (by omega) (by omega), fun a a0 a1 => ?_⟩
      obtain ⟨⟨wa, ha, ea⟩, ka⟩ := getD_at (r := ms) a0 a1
      refine ka ?_
      obtain ⟨A, hA⟩ : ∃ A, A = ms.getD a.toNat "" := ⟨_, rfl⟩
      rw [← hA] at ea ⊢
      (refine hS _ ?_; try clear hS; (repeat (refine seq_gen fun Nx hS => ?_; walk_at "st"; refine hS _ ?_; clear hS)))
      (refine seq_gen fun Nx hS => ?_; walk_at "st")
      refine ⟨by omega, bd_of (by omega) (by omega), fun b b0 b1 => ?_⟩
      obtain ⟨⟨wb, hb, eb⟩, kb⟩ := getD_at (r := ms) b0 b1
      refine kb ?_
      obtain ⟨Bq, hB⟩ : ∃ B, B = ms.getD b.toNat "" := ⟨_, rfl⟩
      rw [← hB] at eb ⊢
      (refine hS _ ?_; try clear hS; (repeat (refine seq_gen fun Nx hS => ?_; walk_at "st"; refine hS _ ?_; clear hS)))
      (refine seq_gen fun Nx hS => ?_; walk_at "st")
      refine ⟨by decide, fun p p0 p1 => ?_⟩
      (refine hS _ ?_; try clear hS; (repeat (refine seq_gen fun Nx hS => ?_; walk_at "st"; refine hS _ ?_; clear hS)))
      subst ea eb
      (try walk_at "wpt")
      refine ⟨[wa, wb], rfl, by simp, fun ss hp hs => ?_⟩
      obtain rfl := sortP_of hp hs
      refine compJ_mm (f0 := lkD) (fun l => .list ((sortP l.1 l.2.1).map PyData.str)) (by omega) rfl (fun l hl N hN => ?_) ?_
      · rw [show lkD l = .tuple [.str l.1, .str l.2.1, .int l.2.2] from rfl]
        (try walk_at "wpt")
        rw [show cutL [PyData.str l.1, .str l.2.1, .int l.2.2] none (some 2) = [.str l.1, .str l.2.1] from rfl]
        refine ⟨[l.1, l.2.1], rfl, by simp, fun ss hp hs => ?_⟩
        obtain rfl := sortP_of hp hs
        exact hN _ rfl
      have sok : ∀ {x y : Str}, x ∈ ms → y ∈ ms → ∀ w ∈ sortP x y, PyData.strOk w = true := fun {x y} hx hy w hw => by
        have := (sortP_perm x y).mem_iff.mp hw
        simp at this
        rcases this with rfl | rfl
        · exact hms _ hx
        · exact hms _ hy
      have pls : ∀ {x y : Str}, x ∈ ms → y ∈ ms → Pl 1 (.list ((sortP x y).map PyData.str)) := fun hx hy => pl_map fun w hw => pl_str (sok hx hy w hw)
      (try walk_at "wpt")
      refine ⟨(pls ha hb).sh, sh_list.mpr fun d hd => ?_, ?_⟩
      · obtain ⟨l, hl, rfl⟩ := List.mem_map.mp hd
        exact (pls (hL.inm l hl).1 (hL.inm l hl).2).1.mono (by decide)
      split
      · rename_i hno
        have hno : ∀ l ∈ ls, sortP l.1 l.2.1 ≠ sortP wa wb := fun l hl e => by
          have h1 := List.any_eq_false.mp hno _ (List.mem_map.mpr ⟨l, hl, rfl⟩)
          rw [e, (pls ha hb).self] at h1
          exact h1 rfl
        (try walk_at "wpt")
        refine ⟨by omega, bd_of (by omega) (by omega), fun r r0 r1 => ⟨by omega, r0, by omega, ?_⟩⟩
        rw [show (PyData.tuple [.str wa, .str wb, .int (1 + p)]) = lkD (wa, wb, 1 + p) from rfl, insD_map lkD ls r.toNat (wa, wb, 1 + p)]
        refine hN _ ⟨_, _, _, _, _, rfl, ⟨fun l hl => ?_, fun l hl => ?_, ?_⟩, by rw [len_ins]; omega⟩
        · rcases mem_ins.mp hl with rfl | hl
          · exact ⟨hms _ ha, hms _ hb, by show 1 ≤ 1 + p; omega, by show 1 + p ≤ 9; omega⟩
          · exact hL.ok l hl
        · rcases mem_ins.mp hl with rfl | hl
          · exact ⟨ha, hb⟩
          · exact hL.inm l hl
        · refine (List.Perm.pairwise_iff (R := fun x y : Lk3 => sortP x.1 x.2.1 ≠ sortP y.1 y.2.1) (fun h => h.symm) (perm_ins (w := ((wa, wb, 1 + p) : Lk3)))).mpr (List.pairwise_cons.mpr ⟨fun l hl (e : sortP wa wb = sortP l.1 l.2.1) => hno l hl e.symm, hL.far⟩)
      · (try walk_at "wpt")
        exact hN _ ⟨_, _, _, _, _, rfl, hL, by omega⟩
    · rintro c ⟨ls, x3, x4, x5, x6, rfl, hL, hl⟩
      rw [rngD_len] at hl
      (refine hS _ ?_; try clear hS; (repeat (refine seq_gen fun Nx hS => ?_; walk_at "st"; refine hS _ ?_; clear hS)))
      (try walk_at "wpt")
      exact q ls hL (by omega) _ rfl

def T_law_marks : TF := fun a Q => ∃ (v : Lt) (ns : List Str), a = [.o (some v) (.lstP FeedP), .d (.list (ns.map PyData.str))] ∧ ns.length ≤ 6 ∧ (∀ w ∈ ns, WordOk w) ∧ ∀ ms : List Str, 0 < ms.length → ms.length ≤ 6 → (∀ w ∈ ms, WordOk w) → retL v (.lstP FeedP) Q (.o none (.lst (ms.map PyData.str)))
theorem TE_law_marks {v : Lt} {ns : List Str} {Q : S → Dl.Ctx → Prop} : T_law_marks [.o (some v) (.lstP FeedP), .d (.list (ns.map PyData.str))] Q = (ns.length ≤ 6 ∧ (∀ w ∈ ns, WordOk w) ∧ ∀ ms : List Str, 0 < ms.length → ms.length ≤ 6 → (∀ w ∈ ms, WordOk w) → retL v (.lstP FeedP) Q (.o none (.lst (ms.map PyData.str)))) := propext ⟨fun ⟨_, ms', e, q⟩ => by
  simp only [List.cons.injEq, S.o.injEq, Option.some.injEq, S.d.injEq, PyData.list.injEq, and_true, true_and] at e
  obtain ⟨rfl, e⟩ := e
  have := str_inj e
  subst this
  exact q, fun q => ⟨_, _, rfl, q⟩⟩
theorem sc_law_marks : FnScope ["feed", "names", "marks"] ["feed", "names"] (defScope (topS 18)) := ⟨rfl, rfl, rfl, by decide +kernel, rfl, by decide +kernel, by decide +kernel⟩
local macro_rules | `(tactic| walk_at "wpt") => `(tactic| simp (maxSteps := 1000000) only [↓TE_law_next, ↓TE_law_names, ↓reduceIte, ↓retA_kO, ↓retA_kD, ↓retA_kDo, ↓retA_kS, ↓asIs_m, ↓asBs_m, ↓asSs_m, fSum, fMin, fMax, fAll, fAny, fSortI, fMin2, fMax2, fStr, ↓fIntS_i, ↓fIntS_b, ↓fIntS_s, oLcN, fSortST, fSortT, zSeqX, zIfX, zRaise, zTry, ↓bare_d, ↓bare_o, ↓bare_l, ↓bare_no, ↓bare_f, ↓bare_g, ↓bare_P, ↓bare_dic, uSee, bSee, uSeeA, bSeeA, zAl, zInsLL, zForAl, osNil, osCons, oDisp, zLLclr, zLLapp, oSortK, uIsE, oSplit, uLendT, S.f.injEq, eq_self, ↓fAddA_i, ↓fAddA_s, ↓fAddA_t, fRepT, oRg1, uChain, ↓slWL_d, ↓slWL_o, ↓slWL_l, ↓slWL_s, ↓seeL_n, ↓seeL_d, ↓seeL_s, uCallSL, zLLfor, gTL, iZpA, ↓as2_l, ↓as2_t, ↓isLL_l, zLLo, uLLix, zLLput, oRep, fJoin, uV2, fSortS, fSortP, oLLe, iZp, iEn, iRv, iRr1, ↓slW_d, ↓slW_o, ↓slW_P, ↓slW_s, ↓hasS_d, ↓hasS_o, ↓hasS_f, ↓hasS_s, uV, uN, u1, o1, o2, oN, ↓fIn_l, ↓fIn_s, fCat, ↓fList_l, ↓fList_t, ↓fTup_l, ↓fTup_t, ↓fInt1_i, ↓fInt1_b, ↓lstR_l, ↓lstR_P, zM1, zM0, fApp, ↓fExt_l, ↓fExt_t, fRev, fClr, zIns, uPop, uPopI, ↓slF_d, ↓slF_o, ↓slF_s, uVf, pNo, pSo, ↓fSl_s, ↓fSl_t, uSl, oSl, oSlN, ↓scal_n, ↓scal_b, ↓scal_i, ↓scal_s, ↓kS_d, ↓ret_S, ↓see_n, ↓see_d, ↓see_s, rV, uCallS, rNil, rD, rS, uCallA, oCallA, ↓toS_d, ↓toS_f, ↓toS_s, ↓slS_0, ↓slS_s, ↓retA_d, ↓retA_o, ↓retA_O, ↓backL_n, ↓backL_s, ↓backL_d, ↓backL_f, ↓lok_n, ↓lok_s, ↓lok_d, ↓lok_f, ↓lent_n, ↓lent_s, ↓lent_d, ↓lent_f, bYes, oLc, ↓clr_n, ↓clr_c, ↓clr2_n, ↓clr2_c, ↓rest_n, ↓rest_c, ↓keep1_d, ↓keep1_o, ↓keep1_f, ↓keep1_no, ↓keep1_s, ↓asLL_l, oLL0, zLLn, zLLa, uLLlen, List.mem_cons, List.not_mem_nil, Nat.reduceEqDiff, eqv_list, eqv_tuple, eqv_none, ↓asI_i, ↓asB_b, ↓asS_s, ↓asL_l, ↓asT_t, ↓slD_0, ↓slD_s, ↓slO_0, ↓slO_s, ↓asR_l, ↓fAdd_i, ↓fAdd_s, ↓ixbo_0, ↓ixbo_1, ↓ixbo_2, ↓ixbo_3, ↓ixD_l, ↓ixD_t, ↓ixD_s, ↓arg1_1, ↓arg2_2, ↓fLen1_l, ↓fLen1_t, ↓fLen1_s, ↓asC_c, ↓asQ_l, ↓asQ_t, ↓asQ_s, ↓kD_d, ↓kD_o, ↓kO_o, ↓fz_l, ↓fz_P, ↓fz_ll, ↓ret_d, ↓ret_o, ↓ret_O, ↓retL_d, ↓retL_o, ↓retL_O, ↓atD_0, ↓atD_1, ↓atD_2, ↓atD_3, ↓atD_b1, ↓atD_b2, ↓atD_b3, ↓ixP_30, ↓ixP_31, ↓ixP_32, ↓if_true, ↓if_false, zNext, zSeq, zSet, zSetO, zDrop, zRet, zRetO, zRetP, zRetN, zIf, zPar, zAsg, zPut, gN, gsNil, gsCons, gT, uVar, uC, uFz, u2, fI, fI0, fEq, fLtD, uIxO, uOwn, uCB, oCB, fLen, fLenO, fAbs, wB, wNot, wAnd, wOr, uAnd, uOr, uNot, uIf, aNil, aCons, uTup, oLst, fIx, oVar, iSeq, iR1, iR2, uCall, oCall, uLend, oLend, shaped_iff, sh_non, sh_int, sh_bool, sh_str, eqv_int, eqv_str, eqv_bool, ixN_30, ixN_31, ixN_32, ixN_20, ixN_21, atI_0, atI_1, atI_2, atI_3, atI_b1, atI_b2, atI_b3, List.length_map, Int.reduceEq, forall_const, implies_true, and_assoc, sz_0, sz_1, sz_2, sz_3, sz_4, sz_5, sz_6, sz_7, sz_8, Bool.not_eq_true', beq_eq_false_iff_ne, beq_iff_eq, ne_eq, Bool.and_eq_true, Bool.or_eq_true, decide_eq_false_iff_not, not_false_eq_true, not_true_eq_false, Bool.not_true, Bool.not_false, isI_n, isI_b, isI_i, isI_s, isI_l, isI_t, isB_n, isB_b, isB_i, isB_s, isB_l, isB_t, isS_n, isS_b, isS_i, isS_s, isS_l, isS_t, isL_n, isL_b, isL_i, isL_s, isL_l, isL_t, isT_n, isT_b, isT_i, isT_s, isT_l, isT_t, isN_n, isN_b, isN_i, isN_s, isN_l, isN_t, ca_0, ca_1, ca_2, ca_3, ca_4, ca_5, ca_6, Int.reduceToNat, Int.toNat_natCast, Int.reducePow, Int.reduceMul, Int.reduceLT, Int.reduceLE, Int.reduceNeg, zFor,   List.replicate, List.length_cons, List.length_nil, List.nil_append, List.cons_append, List.append_nil, List.map_cons, List.map_nil, List.set_cons_zero, List.set_cons_succ, List.getElem?_cons_zero, List.getElem?_cons_succ, Option.some.injEq, S.d.injEq, S.o.injEq, Res.lst.injEq, Res.lstP.injEq, PyData.int.injEq, PyData.str.injEq, PyData.bool.injEq, PyData.list.injEq, PyData.tuple.injEq, List.cons.injEq, reduceCtorEq,   exists_eq_left', exists_eq_left, exists_eq_right, exists_eq_right', true_and, and_true, false_and, and_false, exists_false, false_or, or_false, exists_and_left, exists_and_right, exists_eq', exists_eq, exists_const, Bool.false_eq_true, ite_true, ite_false, decide_eq_true_eq, Nat.sub_self, Nat.zero_add, Nat.add_sub_cancel, Nat.reduceSub, Nat.reduceAdd])
local macro_rules | `(tactic| walk_at "st") => `(tactic| simp (maxSteps := 1000000) only [↓TE_law_next, ↓TE_law_names, ↓reduceIte, ↓retA_kO, ↓retA_kD, ↓retA_kDo, ↓retA_kS, ↓asIs_m, ↓asBs_m, ↓asSs_m, fSum, fMin, fMax, fAll, fAny, fSortI, fMin2, fMax2, fStr, ↓fIntS_i, ↓fIntS_b, ↓fIntS_s, oLcN, fSortST, fSortT, zSeqX, zIfX, zRaise, zTry, ↓bare_d, ↓bare_o, ↓bare_l, ↓bare_no, ↓bare_f, ↓bare_g, ↓bare_P, ↓bare_dic, uSee, bSee, uSeeA, bSeeA, zAl, zInsLL, zForAl, osNil, osCons, oDisp, zLLclr, zLLapp, oSortK, uIsE, oSplit, uLendT, S.f.injEq, eq_self, ↓fAddA_i, ↓fAddA_s, ↓fAddA_t, fRepT, oRg1, uChain, ↓slWL_d, ↓slWL_o, ↓slWL_l, ↓slWL_s, ↓seeL_n, ↓seeL_d, ↓seeL_s, uCallSL, zLLfor, gTL, iZpA, ↓as2_l, ↓as2_t, ↓isLL_l, zLLo, uLLix, zLLput, oRep, fJoin, uV2, fSortS, fSortP, oLLe, iZp, iEn, iRv, iRr1, ↓slW_d, ↓slW_o, ↓slW_P, ↓slW_s, ↓hasS_d, ↓hasS_o, ↓hasS_f, ↓hasS_s, uV, uN, u1, o1, o2, oN, ↓fIn_l, ↓fIn_s, fCat, ↓fList_l, ↓fList_t, ↓fTup_l, ↓fTup_t, ↓fInt1_i, ↓fInt1_b, ↓lstR_l, ↓lstR_P, zM1, zM0, fApp, ↓fExt_l, ↓fExt_t, fRev, fClr, zIns, uPop, uPopI, ↓slF_d, ↓slF_o, ↓slF_s, uVf, pNo, pSo, ↓fSl_s, ↓fSl_t, uSl, oSl, oSlN, ↓scal_n, ↓scal_b, ↓scal_i, ↓scal_s, ↓kS_d, ↓ret_S, ↓see_n, ↓see_d, ↓see_s, rV, uCallS, rNil, rD, rS, uCallA, oCallA, ↓toS_d, ↓toS_f, ↓toS_s, ↓slS_0, ↓slS_s, ↓retA_d, ↓retA_o, ↓retA_O, ↓backL_n, ↓backL_s, ↓backL_d, ↓backL_f, ↓lok_n, ↓lok_s, ↓lok_d, ↓lok_f, ↓lent_n, ↓lent_s, ↓lent_d, ↓lent_f, bYes, oLc, ↓clr_n, ↓clr_c, ↓clr2_n, ↓clr2_c, ↓rest_n, ↓rest_c, ↓keep1_d, ↓keep1_o, ↓keep1_f, ↓keep1_no, ↓keep1_s, ↓asLL_l, oLL0, zLLn, zLLa, uLLlen, List.mem_cons, List.not_mem_nil, Nat.reduceEqDiff, eqv_list, eqv_tuple, eqv_none, ↓asI_i, ↓asB_b, ↓asS_s, ↓asL_l, ↓asT_t, ↓slD_0, ↓slD_s, ↓slO_0, ↓slO_s, ↓asR_l, ↓fAdd_i, ↓fAdd_s, ↓ixbo_0, ↓ixbo_1, ↓ixbo_2, ↓ixbo_3, ↓ixD_l, ↓ixD_t, ↓ixD_s, ↓arg1_1, ↓arg2_2, ↓fLen1_l, ↓fLen1_t, ↓fLen1_s, ↓asC_c, ↓asQ_l, ↓asQ_t, ↓asQ_s, ↓kD_d, ↓kD_o, ↓kO_o, ↓fz_l, ↓fz_P, ↓fz_ll, ↓ret_d, ↓ret_o, ↓ret_O, ↓retL_d, ↓retL_o, ↓retL_O, ↓atD_0, ↓atD_1, ↓atD_2, ↓atD_3, ↓atD_b1, ↓atD_b2, ↓atD_b3, ↓ixP_30, ↓ixP_31, ↓ixP_32, ↓if_true, ↓if_false, zNext, zSet, zSetO, zDrop, zRet, zRetO, zRetP, zRetN, zIf, zPar, zAsg, zPut, gN, gsNil, gsCons, gT, uVar, uC, uFz, u2, fI, fI0, fEq, fLtD, uIxO, uOwn, uCB, oCB, fLen, fLenO, fAbs, wB, wNot, wAnd, wOr, uAnd, uOr, uNot, uIf, aNil, aCons, uTup, oLst, fIx, oVar, iSeq, iR1, iR2, uCall, oCall, uLend, oLend, shaped_iff, sh_non, sh_int, sh_bool, sh_str, eqv_int, eqv_str, eqv_bool, ixN_30, ixN_31, ixN_32, ixN_20, ixN_21, atI_0, atI_1, atI_2, atI_3, atI_b1, atI_b2, atI_b3, List.length_map, Int.reduceEq, forall_const, implies_true, and_assoc, sz_0, sz_1, sz_2, sz_3, sz_4, sz_5, sz_6, sz_7, sz_8, Bool.not_eq_true', beq_eq_false_iff_ne, beq_iff_eq, ne_eq, Bool.and_eq_true, Bool.or_eq_true, decide_eq_false_iff_not, not_false_eq_true, not_true_eq_false, Bool.not_true, Bool.not_false, isI_n, isI_b, isI_i, isI_s, isI_l, isI_t, isB_n, isB_b, isB_i, isB_s, isB_l, isB_t, isS_n, isS_b, isS_i, isS_s, isS_l, isS_t, isL_n, isL_b, isL_i, isL_s, isL_l, isL_t, isT_n, isT_b, isT_i, isT_s, isT_l, isT_t, isN_n, isN_b, isN_i, isN_s, isN_l, isN_t, ca_0, ca_1, ca_2, ca_3, ca_4, ca_5, ca_6, Int.reduceToNat, Int.toNat_natCast, Int.reducePow, Int.reduceMul, Int.reduceLT, Int.reduceLE, Int.reduceNeg, zFor,   List.replicate, List.length_cons, List.length_nil, List.nil_append, List.cons_append, List.append_nil, List.map_cons, List.map_nil, List.set_cons_zero, List.set_cons_succ, List.getElem?_cons_zero, List.getElem?_cons_succ, Option.some.injEq, S.d.injEq, S.o.injEq, Res.lst.injEq, Res.lstP.injEq, PyData.int.injEq, PyData.str.injEq, PyData.bool.injEq, PyData.list.injEq, PyData.tuple.injEq, List.cons.injEq, reduceCtorEq,   exists_eq_left', exists_eq_left, exists_eq_right, exists_eq_right', true_and, and_true, false_and, and_false, exists_false, false_or, or_false, exists_and_left, exists_and_right, exists_eq', exists_eq, exists_const, Bool.false_eq_true, ite_true, ite_false, decide_eq_true_eq, Nat.sub_self, Nat.zero_add, Nat.add_sub_cancel, Nat.reduceSub, Nat.reduceAdd])
theorem c_law_marks {P : Program} {w : World} {K : PySem.W.Frag} {mg : Str → Option Value} {base : Heap} (hb : Bi K mg) (D : Df K mg "_law_marks" (topS 18) ["feed", "names"]) (C__law_next : Cal P w K mg base "_law_next" 2 ["feed", "many"] T_law_next) (C__law_names : Cal P w K mg base "_law_names" 4 ["feed", "many"] T_law_names) : Cal P w K mg base "_law_marks" 5 ["feed", "names"] T_law_marks := by
  obtain ⟨f, fd, F, hm, hB⟩ := D
  refine ⟨f, fd, fn_d (k := 4) F sc_law_marks ?hT (fun cdv A outer s H E hr => (q_cons (s_setO (j := 2) sc_law_marks.nd (o_lendC 0 C__law_names (hr.mono (by decide)) (a_cons (d_add d_int (d_lendC 0 C__law_next (hr.mono (by decide)) (a_cons d_int a_nil))) a_nil)))
 (q_cut (s_if (DW.dt (w_and (t_gt (d_lenV hb.len (vv 1)) d_int) (w_and1 (t_eq hr.units (d_lendC 0 C__law_next (hr.mono (by decide)) (a_cons d_int a_nil)) d_int))))
 (q_one (s_setO (j := 2) sc_law_marks.nd (o_listV hb.list (vv 1)))) q_nil)
 (q_one (s_retO (o_var 2)))))), hm, F.kp, hB⟩
  case hT =>
    intro a Q h
    obtain ⟨v, ns, rfl, nl, hns, q⟩ := h
    refine ⟨rfl, ?_⟩
    have hsz := sizeLine_eq
    (refine seq_gen fun Nx hS => ?_; walk_at "st")
    refine ⟨by decide, fun r r0 r1 => ⟨by omega, by omega, fun ws hws => ?_⟩⟩
    have wl := hws.len
    (refine hS _ ?_; try clear hS; (repeat (refine seq_gen fun Nx hS => ?_; walk_at "st"; refine hS _ ?_; clear hS)))
    refine cut_by (fun c => ∃ (ms : List Str), c = [.o (some v) (.lstP FeedP), .d (.list (ns.map PyData.str)), .o none (.lst (ms.map PyData.str))] ∧ 0 < ms.length ∧ ms.length ≤ 6 ∧ ∀ w ∈ ms, WordOk w) ?_ ?_
    · intro M hM
      (try walk_at "wpt")
      split
      · refine ⟨by decide, fun z z0 z1 => ?_⟩
        split
        · exact hM _ ⟨ns, rfl, by omega, by omega, hns⟩
        · exact hM _ ⟨ws, rfl, by omega, by omega, hws.ok⟩
      · exact hM _ ⟨ws, rfl, by omega, by omega, hws.ok⟩
    rintro c ⟨ms, rfl, m0, m6, hms⟩
    (try walk_at "wpt")
    exact q ms m0 m6 hms _ rfl

/-- a field's parts: its bores' names, its marks, its bores, its likes -/
structure FieldTo (ns ms : List Str) (bs : List Bo) (ls : List Lk3) : Prop where
  wm : ∀ w ∈ ms, WordOk w
  m0 : 0 < ms.length
  ml : ms.length ≤ 6
  lk : LkTo ms ls
  ll : ls.length ≤ 5
  bo : BosOk ns ms bs
  wn : ∀ w ∈ ns, WordOk w
  nl : ns.length ≤ 6
  nn : ns.Nodup
theorem FieldTo.few {ns ms : List Str} {bs : List Bo} {ls : List Lk3} (h : FieldTo ns ms bs ls) : bs.length ≤ 6 := by
  have := h.bo.nm.length_eq
  rw [List.length_map] at this
  have := h.nl
  omega
theorem FieldTo.nm {ns ms : List Str} {bs : List Bo} {ls : List Lk3} (h : FieldTo ns ms bs ls) : ∀ b ∈ bs, WordOk b.nm := fun b hb => h.wn b.nm (h.bo.nm.mem_iff.mp (List.mem_map.mpr ⟨b, hb, rfl⟩))
def T_law_field : TF := fun a Q => ∃ (xs : List Int), a = [.d (.list (xs.map PyData.int))] ∧ ∀ (ns ms : List Str) (bs : List Bo) (ls : List Lk3), FieldTo ns ms bs ls → ret Q (.d (.tuple [.tuple (bs.map boD), .tuple (ls.map lkD)]))
theorem TE_law_field {xs : List Int} {Q : S → Dl.Ctx → Prop} : T_law_field [.d (.list (xs.map PyData.int))] Q = (∀ (ns ms : List Str) (bs : List Bo) (ls : List Lk3), FieldTo ns ms bs ls → ret Q (.d (.tuple [.tuple (bs.map boD), .tuple (ls.map lkD)]))) := propext ⟨fun ⟨_, _, q⟩ => q, fun q => ⟨_, rfl, q⟩⟩
theorem sc_law_field : FnScope ["script", "feed", "names", "marks"] ["script"] (defScope (topS 19)) := ⟨rfl, rfl, rfl, by decide +kernel, rfl, by decide +kernel, by decide +kernel⟩
local macro_rules | `(tactic| walk_at "wpt") => `(tactic| simp (maxSteps := 1000000) only [↓TE_law_likes, ↓TE_law_bores, ↓TE_law_bores2, ↓TE_law_marks, ↓TE_law_feed, ↓TE_law_names, ↓TE_law_next, ↓reduceIte, ↓retA_kO, ↓retA_kD, ↓retA_kDo, ↓retA_kS, ↓asIs_m, ↓asBs_m, ↓asSs_m, fSum, fMin, fMax, fAll, fAny, fSortI, fMin2, fMax2, fStr, ↓fIntS_i, ↓fIntS_b, ↓fIntS_s, oLcN, fSortST, fSortT, zSeqX, zIfX, zRaise, zTry, ↓bare_d, ↓bare_o, ↓bare_l, ↓bare_no, ↓bare_f, ↓bare_g, ↓bare_P, ↓bare_dic, uSee, bSee, uSeeA, bSeeA, zAl, zInsLL, zForAl, osNil, osCons, oDisp, zLLclr, zLLapp, oSortK, uIsE, oSplit, uLendT, S.f.injEq, eq_self, ↓fAddA_i, ↓fAddA_s, ↓fAddA_t, fRepT, oRg1, uChain, ↓slWL_d, ↓slWL_o, ↓slWL_l, ↓slWL_s, ↓seeL_n, ↓seeL_d, ↓seeL_s, uCallSL, zLLfor, gTL, iZpA, ↓as2_l, ↓as2_t, ↓isLL_l, zLLo, uLLix, zLLput, oRep, fJoin, uV2, fSortS, fSortP, oLLe, iZp, iEn, iRv, iRr1, ↓slW_d, ↓slW_o, ↓slW_P, ↓slW_s, ↓hasS_d, ↓hasS_o, ↓hasS_f, ↓hasS_s, uV, uN, u1, o1, o2, oN, ↓fIn_l, ↓fIn_s, fCat, ↓fList_l, ↓fList_t, ↓fTup_l, ↓fTup_t, ↓fInt1_i, ↓fInt1_b, ↓lstR_l, ↓lstR_P, zM1, zM0, fApp, ↓fExt_l, ↓fExt_t, fRev, fClr, zIns, uPop, uPopI, ↓slF_d, ↓slF_o, ↓slF_s, uVf, pNo, pSo, ↓fSl_s, ↓fSl_t, uSl, oSl, oSlN, ↓scal_n, ↓scal_b, ↓scal_i, ↓scal_s, ↓kS_d, ↓ret_S, ↓see_n, ↓see_d, ↓see_s, rV, uCallS, rNil, rD, rS, uCallA, oCallA, ↓toS_d, ↓toS_f, ↓toS_s, ↓slS_0, ↓slS_s, ↓retA_d, ↓retA_o, ↓retA_O, ↓backL_n, ↓backL_s, ↓backL_d, ↓backL_f, ↓lok_n, ↓lok_s, ↓lok_d, ↓lok_f, ↓lent_n, ↓lent_s, ↓lent_d, ↓lent_f, bYes, oLc, ↓clr_n, ↓clr_c, ↓clr2_n, ↓clr2_c, ↓rest_n, ↓rest_c, ↓keep1_d, ↓keep1_o, ↓keep1_f, ↓keep1_no, ↓keep1_s, ↓asLL_l, oLL0, zLLn, zLLa, uLLlen, List.mem_cons, List.not_mem_nil, Nat.reduceEqDiff, eqv_list, eqv_tuple, eqv_none, ↓asI_i, ↓asB_b, ↓asS_s, ↓asL_l, ↓asT_t, ↓slD_0, ↓slD_s, ↓slO_0, ↓slO_s, ↓asR_l, ↓fAdd_i, ↓fAdd_s, ↓ixbo_0, ↓ixbo_1, ↓ixbo_2, ↓ixbo_3, ↓ixD_l, ↓ixD_t, ↓ixD_s, ↓arg1_1, ↓arg2_2, ↓fLen1_l, ↓fLen1_t, ↓fLen1_s, ↓asC_c, ↓asQ_l, ↓asQ_t, ↓asQ_s, ↓kD_d, ↓kD_o, ↓kO_o, ↓fz_l, ↓fz_P, ↓fz_ll, ↓ret_d, ↓ret_o, ↓ret_O, ↓retL_d, ↓retL_o, ↓retL_O, ↓atD_0, ↓atD_1, ↓atD_2, ↓atD_3, ↓atD_b1, ↓atD_b2, ↓atD_b3, ↓ixP_30, ↓ixP_31, ↓ixP_32, ↓if_true, ↓if_false, zNext, zSeq, zSet, zSetO, zDrop, zRet, zRetO, zRetP, zRetN, zIf, zPar, zAsg, zPut, gN, gsNil, gsCons, gT, uVar, uC, uFz, u2, fI, fI0, fEq, fLtD, uIxO, uOwn, uCB, oCB, fLen, fLenO, fAbs, wB, wNot, wAnd, wOr, uAnd, uOr, uNot, uIf, aNil, aCons, uTup, oLst, fIx, oVar, iSeq, iR1, iR2, uCall, oCall, uLend, oLend, shaped_iff, sh_non, sh_int, sh_bool, sh_str, eqv_int, eqv_str, eqv_bool, ixN_30, ixN_31, ixN_32, ixN_20, ixN_21, atI_0, atI_1, atI_2, atI_3, atI_b1, atI_b2, atI_b3, List.length_map, Int.reduceEq, forall_const, implies_true, and_assoc, sz_0, sz_1, sz_2, sz_3, sz_4, sz_5, sz_6, sz_7, sz_8, Bool.not_eq_true', beq_eq_false_iff_ne, beq_iff_eq, ne_eq, Bool.and_eq_true, Bool.or_eq_true, decide_eq_false_iff_not, not_false_eq_true, not_true_eq_false, Bool.not_true, Bool.not_false, isI_n, isI_b, isI_i, isI_s, isI_l, isI_t, isB_n, isB_b, isB_i, isB_s, isB_l, isB_t, isS_n, isS_b, isS_i, isS_s, isS_l, isS_t, isL_n, isL_b, isL_i, isL_s, isL_l, isL_t, isT_n, isT_b, isT_i, isT_s, isT_l, isT_t, isN_n, isN_b, isN_i, isN_s, isN_l, isN_t, ca_0, ca_1, ca_2, ca_3, ca_4, ca_5, ca_6, Int.reduceToNat, Int.toNat_natCast, Int.reducePow, Int.reduceMul, Int.reduceLT, Int.reduceLE, Int.reduceNeg, zFor,   List.replicate, List.length_cons, List.length_nil, List.nil_append, List.cons_append, List.append_nil, List.map_cons, List.map_nil, List.set_cons_zero, List.set_cons_succ, List.getElem?_cons_zero, List.getElem?_cons_succ, Option.some.injEq, S.d.injEq, S.o.injEq, Res.lst.injEq, Res.lstP.injEq, PyData.int.injEq, PyData.str.injEq, PyData.bool.injEq, PyData.list.injEq, PyData.tuple.injEq, List.cons.injEq, reduceCtorEq,   exists_eq_left', exists_eq_left, exists_eq_right, exists_eq_right', true_and, and_true, false_and, and_false, exists_false, false_or, or_false, exists_and_left, exists_and_right, exists_eq', exists_eq, exists_const, Bool.false_eq_true, ite_true, ite_false, decide_eq_true_eq, Nat.sub_self, Nat.zero_add, Nat.add_sub_cancel, Nat.reduceSub, Nat.reduceAdd])
local macro_rules | `(tactic| walk_at "st") => `(tactic| simp (maxSteps := 1000000) only [↓TE_law_likes, ↓TE_law_bores, ↓TE_law_bores2, ↓TE_law_marks, ↓TE_law_feed, ↓TE_law_names, ↓TE_law_next, ↓reduceIte, ↓retA_kO, ↓retA_kD, ↓retA_kDo, ↓retA_kS, ↓asIs_m, ↓asBs_m, ↓asSs_m, fSum, fMin, fMax, fAll, fAny, fSortI, fMin2, fMax2, fStr, ↓fIntS_i, ↓fIntS_b, ↓fIntS_s, oLcN, fSortST, fSortT, zSeqX, zIfX, zRaise, zTry, ↓bare_d, ↓bare_o, ↓bare_l, ↓bare_no, ↓bare_f, ↓bare_g, ↓bare_P, ↓bare_dic, uSee, bSee, uSeeA, bSeeA, zAl, zInsLL, zForAl, osNil, osCons, oDisp, zLLclr, zLLapp, oSortK, uIsE, oSplit, uLendT, S.f.injEq, eq_self, ↓fAddA_i, ↓fAddA_s, ↓fAddA_t, fRepT, oRg1, uChain, ↓slWL_d, ↓slWL_o, ↓slWL_l, ↓slWL_s, ↓seeL_n, ↓seeL_d, ↓seeL_s, uCallSL, zLLfor, gTL, iZpA, ↓as2_l, ↓as2_t, ↓isLL_l, zLLo, uLLix, zLLput, oRep, fJoin, uV2, fSortS, fSortP, oLLe, iZp, iEn, iRv, iRr1, ↓slW_d, ↓slW_o, ↓slW_P, ↓slW_s, ↓hasS_d, ↓hasS_o, ↓hasS_f, ↓hasS_s, uV, uN, u1, o1, o2, oN, ↓fIn_l, ↓fIn_s, fCat, ↓fList_l, ↓fList_t, ↓fTup_l, ↓fTup_t, ↓fInt1_i, ↓fInt1_b, ↓lstR_l, ↓lstR_P, zM1, zM0, fApp, ↓fExt_l, ↓fExt_t, fRev, fClr, zIns, uPop, uPopI, ↓slF_d, ↓slF_o, ↓slF_s, uVf, pNo, pSo, ↓fSl_s, ↓fSl_t, uSl, oSl, oSlN, ↓scal_n, ↓scal_b, ↓scal_i, ↓scal_s, ↓kS_d, ↓ret_S, ↓see_n, ↓see_d, ↓see_s, rV, uCallS, rNil, rD, rS, uCallA, oCallA, ↓toS_d, ↓toS_f, ↓toS_s, ↓slS_0, ↓slS_s, ↓retA_d, ↓retA_o, ↓retA_O, ↓backL_n, ↓backL_s, ↓backL_d, ↓backL_f, ↓lok_n, ↓lok_s, ↓lok_d, ↓lok_f, ↓lent_n, ↓lent_s, ↓lent_d, ↓lent_f, bYes, oLc, ↓clr_n, ↓clr_c, ↓clr2_n, ↓clr2_c, ↓rest_n, ↓rest_c, ↓keep1_d, ↓keep1_o, ↓keep1_f, ↓keep1_no, ↓keep1_s, ↓asLL_l, oLL0, zLLn, zLLa, uLLlen, List.mem_cons, List.not_mem_nil, Nat.reduceEqDiff, eqv_list, eqv_tuple, eqv_none, ↓asI_i, ↓asB_b, ↓asS_s, ↓asL_l, ↓asT_t, ↓slD_0, ↓slD_s, ↓slO_0, ↓slO_s, ↓asR_l, ↓fAdd_i, ↓fAdd_s, ↓ixbo_0, ↓ixbo_1, ↓ixbo_2, ↓ixbo_3, ↓ixD_l, ↓ixD_t, ↓ixD_s, ↓arg1_1, ↓arg2_2, ↓fLen1_l, ↓fLen1_t, ↓fLen1_s, ↓asC_c, ↓asQ_l, ↓asQ_t, ↓asQ_s, ↓kD_d, ↓kD_o, ↓kO_o, ↓fz_l, ↓fz_P, ↓fz_ll, ↓ret_d, ↓ret_o, ↓ret_O, ↓retL_d, ↓retL_o, ↓retL_O, ↓atD_0, ↓atD_1, ↓atD_2, ↓atD_3, ↓atD_b1, ↓atD_b2, ↓atD_b3, ↓ixP_30, ↓ixP_31, ↓ixP_32, ↓if_true, ↓if_false, zNext, zSet, zSetO, zDrop, zRet, zRetO, zRetP, zRetN, zIf, zPar, zAsg, zPut, gN, gsNil, gsCons, gT, uVar, uC, uFz, u2, fI, fI0, fEq, fLtD, uIxO, uOwn, uCB, oCB, fLen, fLenO, fAbs, wB, wNot, wAnd, wOr, uAnd, uOr, uNot, uIf, aNil, aCons, uTup, oLst, fIx, oVar, iSeq, iR1, iR2, uCall, oCall, uLend, oLend, shaped_iff, sh_non, sh_int, sh_bool, sh_str, eqv_int, eqv_str, eqv_bool, ixN_30, ixN_31, ixN_32, ixN_20, ixN_21, atI_0, atI_1, atI_2, atI_3, atI_b1, atI_b2, atI_b3, List.length_map, Int.reduceEq, forall_const, implies_true, and_assoc, sz_0, sz_1, sz_2, sz_3, sz_4, sz_5, sz_6, sz_7, sz_8, Bool.not_eq_true', beq_eq_false_iff_ne, beq_iff_eq, ne_eq, Bool.and_eq_true, Bool.or_eq_true, decide_eq_false_iff_not, not_false_eq_true, not_true_eq_false, Bool.not_true, Bool.not_false, isI_n, isI_b, isI_i, isI_s, isI_l, isI_t, isB_n, isB_b, isB_i, isB_s, isB_l, isB_t, isS_n, isS_b, isS_i, isS_s, isS_l, isS_t, isL_n, isL_b, isL_i, isL_s, isL_l, isL_t, isT_n, isT_b, isT_i, isT_s, isT_l, isT_t, isN_n, isN_b, isN_i, isN_s, isN_l, isN_t, ca_0, ca_1, ca_2, ca_3, ca_4, ca_5, ca_6, Int.reduceToNat, Int.toNat_natCast, Int.reducePow, Int.reduceMul, Int.reduceLT, Int.reduceLE, Int.reduceNeg, zFor,   List.replicate, List.length_cons, List.length_nil, List.nil_append, List.cons_append, List.append_nil, List.map_cons, List.map_nil, List.set_cons_zero, List.set_cons_succ, List.getElem?_cons_zero, List.getElem?_cons_succ, Option.some.injEq, S.d.injEq, S.o.injEq, Res.lst.injEq, Res.lstP.injEq, PyData.int.injEq, PyData.str.injEq, PyData.bool.injEq, PyData.list.injEq, PyData.tuple.injEq, List.cons.injEq, reduceCtorEq,   exists_eq_left', exists_eq_left, exists_eq_right, exists_eq_right', true_and, and_true, false_and, and_false, exists_false, false_or, or_false, exists_and_left, exists_and_right, exists_eq', exists_eq, exists_const, Bool.false_eq_true, ite_true, ite_false, decide_eq_true_eq, Nat.sub_self, Nat.zero_add, Nat.add_sub_cancel, Nat.reduceSub, Nat.reduceAdd])
theorem c_law_field {P : Program} {w : World} {K : PySem.W.Frag} {mg : Str → Option Value} {base : Heap} (hb : Bi K mg) (D : Df K mg "_law_field" (topS 19) ["script"]) (C__law_likes : Cal P w K mg base "_law_likes" 3 ["feed", "marks"] T_law_likes) (C__law_bores : Cal P w K mg base "_law_bores" 6 ["script", "names", "marks"] T_law_bores) (C__law_marks : Cal P w K mg base "_law_marks" 5 ["feed", "names"] T_law_marks) (C__law_feed : Cal P w K mg base "_law_feed" 1 ["script", "k"] T_law_feed) (C__law_names : Cal P w K mg base "_law_names" 4 ["feed", "many"] T_law_names) (C__law_next : Cal P w K mg base "_law_next" 2 ["feed", "many"] T_law_next) : Cal P w K mg base "_law_field" 7 ["script"] T_law_field := by
  obtain ⟨f, fd, F, hm, hB⟩ := D
  refine ⟨f, fd, fn_d (k := 6) F sc_law_field ?hT (fun cdv A outer s H E hr => (q_cons (s_setO (j := 1) sc_law_field.nd (o_callC C__law_feed (hr.mono (by decide)) (a_cons (dv 0) (a_cons d_int a_nil))))
 (q_cons (s_setO (j := 2) sc_law_field.nd (o_lendC 1 C__law_names (hr.mono (by decide)) (a_cons (d_ix (fun _ _ => rfl) (d_fz (o_lst (a_cons d_int (a_cons d_int (a_cons d_int (a_cons d_int (a_cons d_int (a_cons d_int (a_cons d_int (a_cons d_int a_nil)))))))))) (d_lendC 1 C__law_next (hr.mono (by decide)) (a_cons d_int a_nil))) a_nil)))
 (q_cons (s_setO (j := 1) sc_law_field.nd (o_callC C__law_feed (hr.mono (by decide)) (a_cons (dv 0) (a_cons d_int a_nil))))
 (q_cons (s_setO (j := 3) sc_law_field.nd (o_lendC 1 C__law_marks (hr.mono (by decide)) (a_cons (dvf 2) a_nil)))
 (q_one (s_ret (d_tup (a_cons (d_tupV hb.tuple (DE.dv (d_fz (o_callC C__law_bores (hr.mono (by decide)) (a_cons (dv 0) (a_cons (dvf 2) (a_cons (dvf 3) a_nil))))))) (a_cons (d_tupV hb.tuple (DE.dv (d_fz (o_lendC 1 C__law_likes (hr.mono (by decide)) (a_cons (dvf 3) a_nil))))) a_nil)))))))))), hm, F.kp, hB⟩
  case hT =>
    intro a Q h
    obtain ⟨xs, rfl, q⟩ := h
    refine ⟨rfl, ?_⟩
    have hsz := sizeLine_eq
    (refine seq_gen fun Nx hS => ?_; walk_at "st")
    (refine hS _ ?_; try clear hS; (repeat (refine seq_gen fun Nx hS => ?_; walk_at "st"; refine hS _ ?_; clear hS)))
    (refine seq_gen fun Nx hS => ?_; walk_at "st")
    refine ⟨by decide, fun r r0 r1 => atD_mem r0 (by simpa using r1) fun z hz => ?_⟩
    obtain ⟨m, rfl, h0, h6⟩ : ∃ m : Int, z = .int m ∧ 0 ≤ m ∧ m ≤ 6 := by
      simp only [List.mem_cons, List.not_mem_nil, or_false] at hz
      rcases hz with rfl | rfl | rfl | rfl | rfl | rfl | rfl | rfl <;> exact ⟨_, rfl, by decide, by decide⟩
    intro v
    (try walk_at "wpt")
    refine ⟨h0, by omega, fun ws hws => ?_⟩
    have wl := hws.len
    (refine hS _ ?_; try clear hS; (repeat (refine seq_gen fun Nx hS => ?_; walk_at "st"; refine hS _ ?_; clear hS)))
    (refine seq_gen fun Nx hS => ?_; walk_at "st")
    refine ⟨by omega, hws.ok, fun ms n0 n6 hms => ?_⟩
    (refine hS _ ?_; try clear hS; (repeat (refine seq_gen fun Nx hS => ?_; walk_at "st"; refine hS _ ?_; clear hS)))
    (try walk_at "wpt")
    refine ⟨by omega, fun e => by rw [e] at n0; simp at n0, by omega, fun bs hbs => ⟨n0, by omega, fun w hw => word_ok (hms w hw), fun ls hL hll => ?_⟩⟩
    exact q ws ms bs ls ⟨hms, n0, n6, hL, hll, hbs, hws.ok, by omega, hws.nd⟩ _

def T_law_whole : TF := fun a Q => ∃ (i : Int), a = [.d (.int i)] ∧ (ret Q (.d (.bool true)))
theorem TE_law_whole {i : Int} {Q : S → Dl.Ctx → Prop} : T_law_whole [.d (.int i)] Q = (ret Q (.d (.bool true))) := propext ⟨fun ⟨_, e_, q_⟩ => by
  simp only [and_assoc, List.cons.injEq, S.d.injEq, S.o.injEq, Option.some.injEq, Res.lst.injEq, Res.lstP.injEq, Res.lls.injEq, PyData.int.injEq, PyData.str.injEq, PyData.bool.injEq, PyData.list.injEq, PyData.tuple.injEq, and_true, true_and, Int.natCast_inj, strs_iff, ints_iff, lys_iff, bls_iff, boD_iff, bos_iff, pps_iff, shs_iff, onD_iff] at e_
  repeat (obtain ⟨_, e_⟩ := e_)
  subst_vars
  exact q_, fun q_ => ⟨_, rfl, q_⟩⟩
theorem sc_law_whole : FnScope ["found"] ["found"] (defScope (topS 20)) := ⟨rfl, rfl, rfl, by decide +kernel, rfl, by decide +kernel, by decide +kernel⟩
local macro_rules | `(tactic| walk_at "wpt") => `(tactic| simp (maxSteps := 1000000) only [↓reduceIte, ↓retA_kO, ↓retA_kD, ↓retA_kDo, ↓retA_kS, ↓asIs_m, ↓asBs_m, ↓asSs_m, fSum, fMin, fMax, fAll, fAny, fSortI, fMin2, fMax2, fStr, ↓fIntS_i, ↓fIntS_b, ↓fIntS_s, oLcN, fSortST, fSortT, zSeqX, zIfX, zRaise, zTry, ↓bare_d, ↓bare_o, ↓bare_l, ↓bare_no, ↓bare_f, ↓bare_g, ↓bare_P, ↓bare_dic, uSee, bSee, uSeeA, bSeeA, zAl, zInsLL, zForAl, osNil, osCons, oDisp, zLLclr, zLLapp, oSortK, uIsE, oSplit, uLendT, S.f.injEq, eq_self, ↓fAddA_i, ↓fAddA_s, ↓fAddA_t, fRepT, oRg1, uChain, ↓slWL_d, ↓slWL_o, ↓slWL_l, ↓slWL_s, ↓seeL_n, ↓seeL_d, ↓seeL_s, uCallSL, zLLfor, gTL, iZpA, ↓as2_l, ↓as2_t, ↓isLL_l, zLLo, uLLix, zLLput, oRep, fJoin, uV2, fSortS, fSortP, oLLe, iZp, iEn, iRv, iRr1, ↓slW_d, ↓slW_o, ↓slW_P, ↓slW_s, ↓hasS_d, ↓hasS_o, ↓hasS_f, ↓hasS_s, uV, uN, u1, o1, o2, oN, ↓fIn_l, ↓fIn_s, fCat, ↓fList_l, ↓fList_t, ↓fTup_l, ↓fTup_t, ↓fInt1_i, ↓fInt1_b, ↓lstR_l, ↓lstR_P, zM1, zM0, fApp, ↓fExt_l, ↓fExt_t, fRev, fClr, zIns, uPop, uPopI, ↓slF_d, ↓slF_o, ↓slF_s, uVf, pNo, pSo, ↓fSl_s, ↓fSl_t, uSl, oSl, oSlN, ↓scal_n, ↓scal_b, ↓scal_i, ↓scal_s, ↓kS_d, ↓ret_S, ↓see_n, ↓see_d, ↓see_s, rV, uCallS, rNil, rD, rS, uCallA, oCallA, ↓toS_d, ↓toS_f, ↓toS_s, ↓slS_0, ↓slS_s, ↓retA_d, ↓retA_o, ↓retA_O, ↓backL_n, ↓backL_s, ↓backL_d, ↓backL_f, ↓lok_n, ↓lok_s, ↓lok_d, ↓lok_f, ↓lent_n, ↓lent_s, ↓lent_d, ↓lent_f, bYes, oLc, ↓clr_n, ↓clr_c, ↓clr2_n, ↓clr2_c, ↓rest_n, ↓rest_c, ↓keep1_d, ↓keep1_o, ↓keep1_f, ↓keep1_no, ↓keep1_s, ↓asLL_l, oLL0, zLLn, zLLa, uLLlen, List.mem_cons, List.not_mem_nil, Nat.reduceEqDiff, eqv_list, eqv_tuple, eqv_none, ↓asI_i, ↓asB_b, ↓asS_s, ↓asL_l, ↓asT_t, ↓slD_0, ↓slD_s, ↓slO_0, ↓slO_s, ↓asR_l, ↓fAdd_i, ↓fAdd_s, ↓ixbo_0, ↓ixbo_1, ↓ixbo_2, ↓ixbo_3, ↓ixD_l, ↓ixD_t, ↓ixD_s, ↓arg1_1, ↓arg2_2, ↓fLen1_l, ↓fLen1_t, ↓fLen1_s, ↓asC_c, ↓asQ_l, ↓asQ_t, ↓asQ_s, ↓kD_d, ↓kD_o, ↓kO_o, ↓fz_l, ↓fz_P, ↓fz_ll, ↓ret_d, ↓ret_o, ↓ret_O, ↓retL_d, ↓retL_o, ↓retL_O, ↓atD_0, ↓atD_1, ↓atD_2, ↓atD_3, ↓atD_b1, ↓atD_b2, ↓atD_b3, ↓ixP_30, ↓ixP_31, ↓ixP_32, ↓if_true, ↓if_false, zNext, zSeq, zSet, zSetO, zDrop, zRet, zRetO, zRetP, zRetN, zIf, zPar, zAsg, zPut, gN, gsNil, gsCons, gT, uVar, uC, uFz, u2, fI, fI0, fEq, fLtD, uIxO, uOwn, uCB, oCB, fLen, fLenO, fAbs, wB, wNot, wAnd, wOr, uAnd, uOr, uNot, uIf, aNil, aCons, uTup, oLst, fIx, oVar, iSeq, iR1, iR2, uCall, oCall, uLend, oLend, shaped_iff, sh_non, sh_int, sh_bool, sh_str, eqv_int, eqv_str, eqv_bool, ixN_30, ixN_31, ixN_32, ixN_20, ixN_21, atI_0, atI_1, atI_2, atI_3, atI_b1, atI_b2, atI_b3, List.length_map, Int.reduceEq, forall_const, implies_true, and_assoc, sz_0, sz_1, sz_2, sz_3, sz_4, sz_5, sz_6, sz_7, sz_8, Bool.not_eq_true', beq_eq_false_iff_ne, beq_iff_eq, ne_eq, Bool.and_eq_true, Bool.or_eq_true, decide_eq_false_iff_not, not_false_eq_true, not_true_eq_false, Bool.not_true, Bool.not_false, isI_n, isI_b, isI_i, isI_s, isI_l, isI_t, isB_n, isB_b, isB_i, isB_s, isB_l, isB_t, isS_n, isS_b, isS_i, isS_s, isS_l, isS_t, isL_n, isL_b, isL_i, isL_s, isL_l, isL_t, isT_n, isT_b, isT_i, isT_s, isT_l, isT_t, isN_n, isN_b, isN_i, isN_s, isN_l, isN_t, ca_0, ca_1, ca_2, ca_3, ca_4, ca_5, ca_6, Int.reduceToNat, Int.toNat_natCast, Int.reducePow, Int.reduceMul, Int.reduceLT, Int.reduceLE, Int.reduceNeg, zFor,   List.replicate, List.length_cons, List.length_nil, List.nil_append, List.cons_append, List.append_nil, List.map_cons, List.map_nil, List.set_cons_zero, List.set_cons_succ, List.getElem?_cons_zero, List.getElem?_cons_succ, Option.some.injEq, S.d.injEq, S.o.injEq, Res.lst.injEq, Res.lstP.injEq, PyData.int.injEq, PyData.str.injEq, PyData.bool.injEq, PyData.list.injEq, PyData.tuple.injEq, List.cons.injEq, reduceCtorEq,   exists_eq_left', exists_eq_left, exists_eq_right, exists_eq_right', true_and, and_true, false_and, and_false, exists_false, false_or, or_false, exists_and_left, exists_and_right, exists_eq', exists_eq, exists_const, Bool.false_eq_true, ite_true, ite_false, decide_eq_true_eq, Nat.sub_self, Nat.zero_add, Nat.add_sub_cancel, Nat.reduceSub, Nat.reduceAdd])
local macro_rules | `(tactic| walk_at "st") => `(tactic| simp (maxSteps := 1000000) only [true_and, ↓reduceIte, ↓retA_kO, ↓retA_kD, ↓retA_kDo, ↓retA_kS, ↓asIs_m, ↓asBs_m, ↓asSs_m, fSum, fMin, fMax, fAll, fAny, fSortI, fMin2, fMax2, fStr, ↓fIntS_i, ↓fIntS_b, ↓fIntS_s, oLcN, fSortST, fSortT, zSeqX, zIfX, zRaise, zTry, ↓bare_d, ↓bare_o, ↓bare_l, ↓bare_no, ↓bare_f, ↓bare_g, ↓bare_P, ↓bare_dic, uSee, bSee, uSeeA, bSeeA, zAl, zInsLL, zForAl, osNil, osCons, oDisp, zLLclr, zLLapp, oSortK, uIsE, oSplit, uLendT, S.f.injEq, eq_self, ↓fAddA_i, ↓fAddA_s, ↓fAddA_t, fRepT, oRg1, uChain, ↓slWL_d, ↓slWL_o, ↓slWL_l, ↓slWL_s, ↓seeL_n, ↓seeL_d, ↓seeL_s, uCallSL, zLLfor, gTL, iZpA, ↓as2_l, ↓as2_t, ↓isLL_l, zLLo, uLLix, zLLput, oRep, fJoin, uV2, fSortS, fSortP, oLLe, iZp, iEn, iRv, iRr1, ↓slW_d, ↓slW_o, ↓slW_P, ↓slW_s, ↓hasS_d, ↓hasS_o, ↓hasS_f, ↓hasS_s, uV, uN, u1, o1, o2, oN, ↓fIn_l, ↓fIn_s, fCat, ↓fList_l, ↓fList_t, ↓fTup_l, ↓fTup_t, ↓fInt1_i, ↓fInt1_b, ↓lstR_l, ↓lstR_P, zM1, zM0, fApp, ↓fExt_l, ↓fExt_t, fRev, fClr, zIns, uPop, uPopI, ↓slF_d, ↓slF_o, ↓slF_s, uVf, pNo, pSo, ↓fSl_s, ↓fSl_t, uSl, oSl, oSlN, ↓scal_n, ↓scal_b, ↓scal_i, ↓scal_s, ↓kS_d, ↓ret_S, ↓see_n, ↓see_d, ↓see_s, rV, uCallS, rNil, rD, rS, uCallA, oCallA, ↓toS_d, ↓toS_f, ↓toS_s, ↓slS_0, ↓slS_s, ↓retA_d, ↓retA_o, ↓retA_O, ↓backL_n, ↓backL_s, ↓backL_d, ↓backL_f, ↓lok_n, ↓lok_s, ↓lok_d, ↓lok_f, ↓lent_n, ↓lent_s, ↓lent_d, ↓lent_f, bYes, oLc, ↓clr_n, ↓clr_c, ↓clr2_n, ↓clr2_c, ↓rest_n, ↓rest_c, ↓keep1_d, ↓keep1_o, ↓keep1_f, ↓keep1_no, ↓keep1_s, ↓asLL_l, oLL0, zLLn, zLLa, uLLlen, List.mem_cons, List.not_mem_nil, Nat.reduceEqDiff, eqv_list, eqv_tuple, eqv_none, ↓asI_i, ↓asB_b, ↓asS_s, ↓asL_l, ↓asT_t, ↓slD_0, ↓slD_s, ↓slO_0, ↓slO_s, ↓asR_l, ↓fAdd_i, ↓fAdd_s, ↓ixbo_0, ↓ixbo_1, ↓ixbo_2, ↓ixbo_3, ↓ixD_l, ↓ixD_t, ↓ixD_s, ↓arg1_1, ↓arg2_2, ↓fLen1_l, ↓fLen1_t, ↓fLen1_s, ↓asC_c, ↓asQ_l, ↓asQ_t, ↓asQ_s, ↓kD_d, ↓kD_o, ↓kO_o, ↓fz_l, ↓fz_P, ↓fz_ll, ↓ret_d, ↓ret_o, ↓ret_O, ↓retL_d, ↓retL_o, ↓retL_O, ↓atD_0, ↓atD_1, ↓atD_2, ↓atD_3, ↓atD_b1, ↓atD_b2, ↓atD_b3, ↓ixP_30, ↓ixP_31, ↓ixP_32, ↓if_true, ↓if_false, zNext, zSet, zSetO, zDrop, zRet, zRetO, zRetP, zRetN, zIf, zPar, zAsg, zPut, gN, gsNil, gsCons, gT, uVar, uC, uFz, u2, fI, fI0, fEq, fLtD, uIxO, uOwn, uCB, oCB, fLen, fLenO, fAbs, wB, wNot, wAnd, wOr, uAnd, uOr, uNot, uIf, aNil, aCons, uTup, oLst, fIx, oVar, iSeq, iR1, iR2, uCall, oCall, uLend, oLend, shaped_iff, sh_non, sh_int, sh_bool, sh_str, eqv_int, eqv_str, eqv_bool, ixN_30, ixN_31, ixN_32, ixN_20, ixN_21, atI_0, atI_1, atI_2, atI_3, atI_b1, atI_b2, atI_b3, List.length_map, Int.reduceEq, forall_const, implies_true, and_assoc, sz_0, sz_1, sz_2, sz_3, sz_4, sz_5, sz_6, sz_7, sz_8, Bool.not_eq_true', beq_eq_false_iff_ne, beq_iff_eq, ne_eq, Bool.and_eq_true, Bool.or_eq_true, decide_eq_false_iff_not, not_false_eq_true, not_true_eq_false, Bool.not_true, Bool.not_false, isI_n, isI_b, isI_i, isI_s, isI_l, isI_t, isB_n, isB_b, isB_i, isB_s, isB_l, isB_t, isS_n, isS_b, isS_i, isS_s, isS_l, isS_t, isL_n, isL_b, isL_i, isL_s, isL_l, isL_t, isT_n, isT_b, isT_i, isT_s, isT_l, isT_t, isN_n, isN_b, isN_i, isN_s, isN_l, isN_t, ca_0, ca_1, ca_2, ca_3, ca_4, ca_5, ca_6, Int.reduceToNat, Int.toNat_natCast, Int.reducePow, Int.reduceMul, Int.reduceLT, Int.reduceLE, Int.reduceNeg, zFor,   List.replicate, List.length_cons, List.length_nil, List.nil_append, List.cons_append, List.append_nil, List.map_cons, List.map_nil, List.set_cons_zero, List.set_cons_succ, List.getElem?_cons_zero, List.getElem?_cons_succ, Option.some.injEq, S.d.injEq, S.o.injEq, Res.lst.injEq, Res.lstP.injEq, PyData.int.injEq, PyData.str.injEq, PyData.bool.injEq, PyData.list.injEq, PyData.tuple.injEq, List.cons.injEq, reduceCtorEq,   exists_eq_left', exists_eq_left, exists_eq_right, exists_eq_right', true_and, and_true, false_and, and_false, exists_false, false_or, or_false, exists_and_left, exists_and_right, exists_eq', exists_eq, exists_const, Bool.false_eq_true, ite_true, ite_false, decide_eq_true_eq, Nat.sub_self, Nat.zero_add, Nat.add_sub_cancel, Nat.reduceSub, Nat.reduceAdd])
theorem c_law_whole {P : Program} {w : World} {K : PySem.W.Frag} {mg : Str → Option Value} {base : Heap} (hb : Bi K mg) (D : Df K mg "_law_whole" (topS 20) ["found"])  : Cal P w K mg base "_law_whole" 1 ["found"] T_law_whole := by
  obtain ⟨f, fd, F, hm, hB⟩ := D
  refine ⟨f, fd, fn_d (k := 0) F sc_law_whole ?hT (fun cdv A outer s H E hr => (q_one (s_ret (d_and (d_isiV (n := "int") hb.isinstance hb.int bb_int (vv 0) kt_int) (d_one (d_not (d_isiV (n := "bool") hb.isinstance hb.bool bb_bool (vv 0) kt_bool))))))), hm, F.kp, hB⟩
  case hT =>
    intro a Q h
    obtain ⟨i, rfl, q⟩ := h
    refine ⟨rfl, ?_⟩
    (try walk_at "wpt")
    exact q _

theorem atD_end {ds : List PyData} {k : Nat} {d : PyData} {Q : PyData → Prop} (hl : ds.length = k + 1) (h : ds[k]? = some d) (q : Q d) : atD ds (-1) Q := by
  obtain ⟨qs, rfl⟩ := snoc_of hl h
  exact ⟨d, last_atI _ _, q⟩
theorem asBs_true {α : Type} {ds : List α} {Q : List Bool → Prop} (q : ∀ ns : List Bool, ns.all id = true → Q ns) : asBs (ds.map fun _ => PyData.bool true) Q := by
  have e : (ds.map fun _ => PyData.bool true) = (ds.map fun _ => true).map PyData.bool := by rw [List.map_map]; rfl
  rw [e, asBs_m]
  exact q _ (by simp)
def T_law_bore : TF := fun a Q => ∃ (b : Bo), a = [.d (boD b)] ∧ (b.lays.length ≤ 1000 ∧ b.bl.length ≤ 1000 ∧ (∀ l ∈ b.lays, PyData.strOk l.1 = true) ∧ ret Q (.d (.bool true)))
theorem TE_law_bore {b : Bo} {Q : S → Dl.Ctx → Prop} : T_law_bore [.d (boD b)] Q = (b.lays.length ≤ 1000 ∧ b.bl.length ≤ 1000 ∧ (∀ l ∈ b.lays, PyData.strOk l.1 = true) ∧ ret Q (.d (.bool true))) := propext ⟨fun ⟨_, e_, q_⟩ => by
  simp only [and_assoc, List.cons.injEq, S.d.injEq, S.o.injEq, Option.some.injEq, Res.lst.injEq, Res.lstP.injEq, Res.lls.injEq, PyData.int.injEq, PyData.str.injEq, PyData.bool.injEq, PyData.list.injEq, PyData.tuple.injEq, and_true, true_and, Int.natCast_inj, strs_iff, ints_iff, lys_iff, bls_iff, boD_iff, bos_iff, pps_iff, shs_iff, onD_iff] at e_
  repeat (obtain ⟨_, e_⟩ := e_)
  subst_vars
  exact q_, fun q_ => ⟨_, rfl, q_⟩⟩
theorem sc_law_bore : FnScope ["bore", "layers", "ends", "block", "deep", "upper", "layer", "turn", "found", "one", "some"] ["bore"] (defScope (topS 21)) := ⟨rfl, rfl, rfl, by decide +kernel, rfl, by decide +kernel, by decide +kernel⟩
local macro_rules | `(tactic| walk_at "wpt") => `(tactic| simp (maxSteps := 1000000) only [↓TE_whole, ↓TE_law_whole, ↓TE_depths, ↓TE_block_ends, ↓TE_layers_of, ↓reduceIte, ↓retA_kO, ↓retA_kD, ↓retA_kDo, ↓retA_kS, ↓asIs_m, ↓asBs_m, ↓asSs_m, fSum, fMin, fMax, fAll, fAny, fSortI, fMin2, fMax2, fStr, ↓fIntS_i, ↓fIntS_b, ↓fIntS_s, oLcN, fSortST, fSortT, zSeqX, zIfX, zRaise, zTry, ↓bare_d, ↓bare_o, ↓bare_l, ↓bare_no, ↓bare_f, ↓bare_g, ↓bare_P, ↓bare_dic, uSee, bSee, uSeeA, bSeeA, zAl, zInsLL, zForAl, osNil, osCons, oDisp, zLLclr, zLLapp, oSortK, uIsE, oSplit, uLendT, S.f.injEq, eq_self, ↓fAddA_i, ↓fAddA_s, ↓fAddA_t, fRepT, oRg1, uChain, ↓slWL_d, ↓slWL_o, ↓slWL_l, ↓slWL_s, ↓seeL_n, ↓seeL_d, ↓seeL_s, uCallSL, zLLfor, gTL, iZpA, ↓as2_l, ↓as2_t, ↓isLL_l, zLLo, uLLix, zLLput, oRep, fJoin, uV2, fSortS, fSortP, oLLe, iZp, iEn, iRv, iRr1, ↓slW_d, ↓slW_o, ↓slW_P, ↓slW_s, ↓hasS_d, ↓hasS_o, ↓hasS_f, ↓hasS_s, uV, uN, u1, o1, o2, oN, ↓fIn_l, ↓fIn_s, fCat, ↓fList_l, ↓fList_t, ↓fTup_l, ↓fTup_t, ↓fInt1_i, ↓fInt1_b, ↓lstR_l, ↓lstR_P, zM1, zM0, fApp, ↓fExt_l, ↓fExt_t, fRev, fClr, zIns, uPop, uPopI, ↓slF_d, ↓slF_o, ↓slF_s, uVf, pNo, pSo, ↓fSl_s, ↓fSl_t, uSl, oSl, oSlN, ↓scal_n, ↓scal_b, ↓scal_i, ↓scal_s, ↓kS_d, ↓ret_S, ↓see_n, ↓see_d, ↓see_s, rV, uCallS, rNil, rD, rS, uCallA, oCallA, ↓toS_d, ↓toS_f, ↓toS_s, ↓slS_0, ↓slS_s, ↓retA_d, ↓retA_o, ↓retA_O, ↓backL_n, ↓backL_s, ↓backL_d, ↓backL_f, ↓lok_n, ↓lok_s, ↓lok_d, ↓lok_f, ↓lent_n, ↓lent_s, ↓lent_d, ↓lent_f, bYes, oLc, ↓clr_n, ↓clr_c, ↓clr2_n, ↓clr2_c, ↓rest_n, ↓rest_c, ↓keep1_d, ↓keep1_o, ↓keep1_f, ↓keep1_no, ↓keep1_s, ↓asLL_l, oLL0, zLLn, zLLa, uLLlen, List.mem_cons, List.not_mem_nil, Nat.reduceEqDiff, eqv_list, eqv_tuple, eqv_none, ↓asI_i, ↓asB_b, ↓asS_s, ↓asL_l, ↓asT_t, ↓slD_0, ↓slD_s, ↓slO_0, ↓slO_s, ↓asR_l, ↓fAdd_i, ↓fAdd_s, ↓ixbo_0, ↓ixbo_1, ↓ixbo_2, ↓ixbo_3, ↓ixD_l, ↓ixD_t, ↓ixD_s, ↓arg1_1, ↓arg2_2, ↓fLen1_l, ↓fLen1_t, ↓fLen1_s, ↓asC_c, ↓asQ_l, ↓asQ_t, ↓asQ_s, ↓kD_d, ↓kD_o, ↓kO_o, ↓fz_l, ↓fz_P, ↓fz_ll, ↓ret_d, ↓ret_o, ↓ret_O, ↓retL_d, ↓retL_o, ↓retL_O, ↓atD_0, ↓atD_1, ↓atD_2, ↓atD_3, ↓atD_b1, ↓atD_b2, ↓atD_b3, ↓ixP_30, ↓ixP_31, ↓ixP_32, ↓if_true, ↓if_false, zNext, zSeq, zSet, zSetO, zDrop, zRet, zRetO, zRetP, zRetN, zIf, zPar, zAsg, zPut, gN, gsNil, gsCons, gT, uVar, uC, uFz, u2, fI, fI0, fEq, fLtD, uIxO, uOwn, uCB, oCB, fLen, fLenO, fAbs, wB, wNot, wAnd, wOr, uAnd, uOr, uNot, uIf, aNil, aCons, uTup, oLst, fIx, oVar, iSeq, iR1, iR2, uCall, oCall, uLend, oLend, shaped_iff, sh_non, sh_int, sh_bool, sh_str, eqv_int, eqv_str, eqv_bool, ixN_30, ixN_31, ixN_32, ixN_20, ixN_21, atI_0, atI_1, atI_2, atI_3, atI_b1, atI_b2, atI_b3, List.length_map, Int.reduceEq, forall_const, implies_true, and_assoc, sz_0, sz_1, sz_2, sz_3, sz_4, sz_5, sz_6, sz_7, sz_8, Bool.not_eq_true', beq_eq_false_iff_ne, beq_iff_eq, ne_eq, Bool.and_eq_true, Bool.or_eq_true, decide_eq_false_iff_not, not_false_eq_true, not_true_eq_false, Bool.not_true, Bool.not_false, isI_n, isI_b, isI_i, isI_s, isI_l, isI_t, isB_n, isB_b, isB_i, isB_s, isB_l, isB_t, isS_n, isS_b, isS_i, isS_s, isS_l, isS_t, isL_n, isL_b, isL_i, isL_s, isL_l, isL_t, isT_n, isT_b, isT_i, isT_s, isT_l, isT_t, isN_n, isN_b, isN_i, isN_s, isN_l, isN_t, ca_0, ca_1, ca_2, ca_3, ca_4, ca_5, ca_6, Int.reduceToNat, Int.toNat_natCast, Int.reducePow, Int.reduceMul, Int.reduceLT, Int.reduceLE, Int.reduceNeg, zFor,   List.replicate, List.length_cons, List.length_nil, List.nil_append, List.cons_append, List.append_nil, List.map_cons, List.map_nil, List.set_cons_zero, List.set_cons_succ, List.getElem?_cons_zero, List.getElem?_cons_succ, Option.some.injEq, S.d.injEq, S.o.injEq, Res.lst.injEq, Res.lstP.injEq, PyData.int.injEq, PyData.str.injEq, PyData.bool.injEq, PyData.list.injEq, PyData.tuple.injEq, List.cons.injEq, reduceCtorEq,   exists_eq_left', exists_eq_left, exists_eq_right, exists_eq_right', true_and, and_true, false_and, and_false, exists_false, false_or, or_false, exists_and_left, exists_and_right, exists_eq', exists_eq, exists_const, Bool.false_eq_true, ite_true, ite_false, decide_eq_true_eq, Nat.sub_self, Nat.zero_add, Nat.add_sub_cancel, Nat.reduceSub, Nat.reduceAdd])
local macro_rules | `(tactic| walk_at "st") => `(tactic| simp (maxSteps := 1000000) only [↓TE_whole, ↓TE_law_whole, ↓TE_depths, ↓TE_block_ends, ↓TE_layers_of, ↓reduceIte, ↓retA_kO, ↓retA_kD, ↓retA_kDo, ↓retA_kS, ↓asIs_m, ↓asBs_m, ↓asSs_m, fSum, fMin, fMax, fAll, fAny, fSortI, fMin2, fMax2, fStr, ↓fIntS_i, ↓fIntS_b, ↓fIntS_s, oLcN, fSortST, fSortT, zSeqX, zIfX, zRaise, zTry, ↓bare_d, ↓bare_o, ↓bare_l, ↓bare_no, ↓bare_f, ↓bare_g, ↓bare_P, ↓bare_dic, uSee, bSee, uSeeA, bSeeA, zAl, zInsLL, zForAl, osNil, osCons, oDisp, zLLclr, zLLapp, oSortK, uIsE, oSplit, uLendT, S.f.injEq, eq_self, ↓fAddA_i, ↓fAddA_s, ↓fAddA_t, fRepT, oRg1, uChain, ↓slWL_d, ↓slWL_o, ↓slWL_l, ↓slWL_s, ↓seeL_n, ↓seeL_d, ↓seeL_s, uCallSL, zLLfor, gTL, iZpA, ↓as2_l, ↓as2_t, ↓isLL_l, zLLo, uLLix, zLLput, oRep, fJoin, uV2, fSortS, fSortP, oLLe, iZp, iEn, iRv, iRr1, ↓slW_d, ↓slW_o, ↓slW_P, ↓slW_s, ↓hasS_d, ↓hasS_o, ↓hasS_f, ↓hasS_s, uV, uN, u1, o1, o2, oN, ↓fIn_l, ↓fIn_s, fCat, ↓fList_l, ↓fList_t, ↓fTup_l, ↓fTup_t, ↓fInt1_i, ↓fInt1_b, ↓lstR_l, ↓lstR_P, zM1, zM0, fApp, ↓fExt_l, ↓fExt_t, fRev, fClr, zIns, uPop, uPopI, ↓slF_d, ↓slF_o, ↓slF_s, uVf, pNo, pSo, ↓fSl_s, ↓fSl_t, uSl, oSl, oSlN, ↓scal_n, ↓scal_b, ↓scal_i, ↓scal_s, ↓kS_d, ↓ret_S, ↓see_n, ↓see_d, ↓see_s, rV, uCallS, rNil, rD, rS, uCallA, oCallA, ↓toS_d, ↓toS_f, ↓toS_s, ↓slS_0, ↓slS_s, ↓retA_d, ↓retA_o, ↓retA_O, ↓backL_n, ↓backL_s, ↓backL_d, ↓backL_f, ↓lok_n, ↓lok_s, ↓lok_d, ↓lok_f, ↓lent_n, ↓lent_s, ↓lent_d, ↓lent_f, bYes, oLc, ↓clr_n, ↓clr_c, ↓clr2_n, ↓clr2_c, ↓rest_n, ↓rest_c, ↓keep1_d, ↓keep1_o, ↓keep1_f, ↓keep1_no, ↓keep1_s, ↓asLL_l, oLL0, zLLn, zLLa, uLLlen, List.mem_cons, List.not_mem_nil, Nat.reduceEqDiff, eqv_list, eqv_tuple, eqv_none, ↓asI_i, ↓asB_b, ↓asS_s, ↓asL_l, ↓asT_t, ↓slD_0, ↓slD_s, ↓slO_0, ↓slO_s, ↓asR_l, ↓fAdd_i, ↓fAdd_s, ↓ixbo_0, ↓ixbo_1, ↓ixbo_2, ↓ixbo_3, ↓ixD_l, ↓ixD_t, ↓ixD_s, ↓arg1_1, ↓arg2_2, ↓fLen1_l, ↓fLen1_t, ↓fLen1_s, ↓asC_c, ↓asQ_l, ↓asQ_t, ↓asQ_s, ↓kD_d, ↓kD_o, ↓kO_o, ↓fz_l, ↓fz_P, ↓fz_ll, ↓ret_d, ↓ret_o, ↓ret_O, ↓retL_d, ↓retL_o, ↓retL_O, ↓atD_0, ↓atD_1, ↓atD_2, ↓atD_3, ↓atD_b1, ↓atD_b2, ↓atD_b3, ↓ixP_30, ↓ixP_31, ↓ixP_32, ↓if_true, ↓if_false, zNext, zSet, zSetO, zDrop, zRet, zRetO, zRetP, zRetN, zIf, zPar, zAsg, zPut, gN, gsNil, gsCons, gT, uVar, uC, uFz, u2, fI, fI0, fEq, fLtD, uIxO, uOwn, uCB, oCB, fLen, fLenO, fAbs, wB, wNot, wAnd, wOr, uAnd, uOr, uNot, uIf, aNil, aCons, uTup, oLst, fIx, oVar, iSeq, iR1, iR2, uCall, oCall, uLend, oLend, shaped_iff, sh_non, sh_int, sh_bool, sh_str, eqv_int, eqv_str, eqv_bool, ixN_30, ixN_31, ixN_32, ixN_20, ixN_21, atI_0, atI_1, atI_2, atI_3, atI_b1, atI_b2, atI_b3, List.length_map, Int.reduceEq, forall_const, implies_true, and_assoc, sz_0, sz_1, sz_2, sz_3, sz_4, sz_5, sz_6, sz_7, sz_8, Bool.not_eq_true', beq_eq_false_iff_ne, beq_iff_eq, ne_eq, Bool.and_eq_true, Bool.or_eq_true, decide_eq_false_iff_not, not_false_eq_true, not_true_eq_false, Bool.not_true, Bool.not_false, isI_n, isI_b, isI_i, isI_s, isI_l, isI_t, isB_n, isB_b, isB_i, isB_s, isB_l, isB_t, isS_n, isS_b, isS_i, isS_s, isS_l, isS_t, isL_n, isL_b, isL_i, isL_s, isL_l, isL_t, isT_n, isT_b, isT_i, isT_s, isT_l, isT_t, isN_n, isN_b, isN_i, isN_s, isN_l, isN_t, ca_0, ca_1, ca_2, ca_3, ca_4, ca_5, ca_6, Int.reduceToNat, Int.toNat_natCast, Int.reducePow, Int.reduceMul, Int.reduceLT, Int.reduceLE, Int.reduceNeg, zFor,   List.replicate, List.length_cons, List.length_nil, List.nil_append, List.cons_append, List.append_nil, List.map_cons, List.map_nil, List.set_cons_zero, List.set_cons_succ, List.getElem?_cons_zero, List.getElem?_cons_succ, Option.some.injEq, S.d.injEq, S.o.injEq, Res.lst.injEq, Res.lstP.injEq, PyData.int.injEq, PyData.str.injEq, PyData.bool.injEq, PyData.list.injEq, PyData.tuple.injEq, List.cons.injEq, reduceCtorEq,   exists_eq_left', exists_eq_left, exists_eq_right, exists_eq_right', true_and, and_true, false_and, and_false, exists_false, false_or, or_false, exists_and_left, exists_and_right, exists_eq', exists_eq, exists_const, Bool.false_eq_true, ite_true, ite_false, decide_eq_true_eq, Nat.sub_self, Nat.zero_add, Nat.add_sub_cancel, Nat.reduceSub, Nat.reduceAdd])
theorem c_law_bore {P : Program} {w : World} {K : PySem.W.Frag} {mg : Str → Option Value} {base : Heap} (hb : Bi K mg) (D : Df K mg "_law_bore" (topS 21) ["bore"]) (C_whole : Cal P w K mg base "whole" 2 ["bore"] T_whole) (C__law_whole : Cal P w K mg base "_law_whole" 1 ["found"] T_law_whole) (C_depths : Cal P w K mg base "depths" 2 ["bore"] T_depths) (C_block_ends : Cal P w K mg base "block_ends" 1 ["bore"] T_block_ends) (C_layers_of : Cal P w K mg base "layers_of" 1 ["bore"] T_layers_of) : Cal P w K mg base "_law_bore" 3 ["bore"] T_law_bore := by
  obtain ⟨f, fd, F, hm, hB⟩ := D
  refine ⟨f, fd, fn_d (k := 2) F sc_law_bore ?hT (fun cdv A outer s H E hr => (q_cons (s_setO (j := 1) sc_law_bore.nd (o_lst a_nil))
 (q_cons (s_setO (j := 2) sc_law_bore.nd (o_lst a_nil))
 (q_cons (s_for PassesOwn.never rfl (i_seq (d_ixN 0 (fun _ _ => rfl) d_int)) (g_name 3 sc_law_bore.nd)
 (q_cons (s_for PassesOwn.never rfl (i_seq (dv 3)) (g_name 6 sc_law_bore.nd)
 (q_one (s_app 1 (dv 6))))
 (q_one (s_app 2 (d_sub (d_lenV hb.len (vv 1)) d_int)))))
 (q_cons (s_setO (j := 4) sc_law_bore.nd (o_lst a_nil))
 (q_cons (s_set (j := 5) sc_law_bore.nd d_int)
 (q_cons (s_for PassesOwn.never rfl (i_seq (dvf 1)) (g_name 6 sc_law_bore.nd)
 (q_cons (s_app 4 (d_tup (a_cons (dv 5) (a_cons (d_add (dv 5) (d_ixN 6 (fun _ _ => rfl) d_int)) a_nil))))
 (q_one (s_set (j := 5) sc_law_bore.nd (d_ix (fun _ _ => rfl) (d_ixN 4 (fun _ _ => rfl) (d_neg d_int)) d_int)))))
 (q_cons (s_for PassesOwn.never rfl (i_range1 hb.range d_int) (g_name 7 sc_law_bore.nd)
 (q_cons (s_setO (j := 8) sc_law_bore.nd (o_disp (os_cons (o_callC C_layers_of (hr.mono (by decide)) (a_cons (dv 0) a_nil)) (os_cons (o_callC C_block_ends (hr.mono (by decide)) (a_cons (dv 0) a_nil)) (os_cons (o_callC C_depths (hr.mono (by decide)) (a_cons (dv 0) a_nil)) os_nil)))))
 (q_cons (s_if (t_see (DW.dt (w_or (t_ne hr.units (dv 8) (d_fz (o_lst (a_cons (dv 1) (a_cons (dv 2) (a_cons (dv 4) a_nil)))))) (w_or1 (t_not (tv (d_all rfl hb.all (DE.dv (d_fz (o_lc [("some", 10)] rfl sc_law_bore.nd (i_seq (dv 8)) (by show blkC ["bore", "layers", "ends", "block", "deep", "upper", "layer", "turn", "found", "one", "some"] (defScope (topS 21)) _ _ = true; decide +kernel) (fun _ _ _ _ _ => (g_name 10 sc_law_bore.nd)) (fun _ _ _ _ _ => b_yes) (fun _ _ _ _ _ => (d_isiV (n := "list") hb.isinstance hb.list bb_list (vv 10) kt_list)) (by decide)))))))))))
 (q_one (s_ret d_bl)) q_nil)
 (q_cons (s_if (t_see (t_not (tv (d_all rfl hb.all (DE.dv (d_fz (o_lc [("one", 9)] rfl sc_law_bore.nd (i_seq (d_fz (o_catL (d_ixN 8 (fun _ _ => rfl) d_int) (DE.dv (d_ixN 8 (fun _ _ => rfl) d_int))))) (by show blkC ["bore", "layers", "ends", "block", "deep", "upper", "layer", "turn", "found", "one", "some"] (defScope (topS 21)) _ _ = true; decide +kernel) (fun _ _ _ _ _ => (g_name 9 sc_law_bore.nd)) (fun _ _ _ _ _ => b_yes) (fun _ _ _ _ _ => (d_isiV (n := "tuple") hb.isinstance hb.tuple bb_tuple (vv 9) kt_tuple)) (by decide))))))))
 (q_one (s_ret d_bl)) q_nil)
 (q_cons (s_if (t_see (t_not (tv (d_all rfl hb.all (DE.dv (d_fz (o_lc [("one", 9)] rfl sc_law_bore.nd (i_seq (d_ixN 8 (fun _ _ => rfl) d_int)) (by show blkC ["bore", "layers", "ends", "block", "deep", "upper", "layer", "turn", "found", "one", "some"] (defScope (topS 21)) _ _ = true; decide +kernel) (fun _ _ _ _ _ => (g_name 9 sc_law_bore.nd)) (fun _ _ _ _ _ => b_yes) (fun _ _ _ _ _ => (d_and (d_callC C__law_whole (hr.mono (by decide)) (a_cons (d_ixN 9 (fun _ _ => rfl) d_int) a_nil)) (d_one (d_callC C__law_whole (hr.mono (by decide)) (a_cons (d_ixN 9 (fun _ _ => rfl) d_int) a_nil))))) (by decide))))))))
 (q_one (s_ret d_bl)) q_nil)
 (q_cons (s_if (t_see (t_not (tv (d_all rfl hb.all (DE.dv (d_fz (o_lc [("one", 9)] rfl sc_law_bore.nd (i_seq (d_ixN 8 (fun _ _ => rfl) d_int)) (by show blkC ["bore", "layers", "ends", "block", "deep", "upper", "layer", "turn", "found", "one", "some"] (defScope (topS 21)) _ _ = true; decide +kernel) (fun _ _ _ _ _ => (g_name 9 sc_law_bore.nd)) (fun _ _ _ _ _ => b_yes) (fun _ _ _ _ _ => (d_callC C__law_whole (hr.mono (by decide)) (a_cons (dv 9) a_nil))) (by decide))))))))
 (q_one (s_ret d_bl)) q_nil)
 (q_cons (s_llclr 8 0)
 (q_cons (s_llapp 8 1 d_int)
 (q_one (s_llapp 8 2 (d_tup (a_cons d_int (a_cons d_int a_nil)))))))))))))
 (q_one (s_ret (d_and (d_callC C__law_whole (hr.mono (by decide)) (a_cons (d_callC C_whole (hr.mono (by decide)) (a_cons (dv 0) a_nil)) a_nil)) (d_one (d_eq hr.units (d_callC C_whole (hr.mono (by decide)) (a_cons (dv 0) a_nil)) (dv 5)))))))))))))), hm, F.kp, hB⟩
  case hT =>
    intro a Q h
    obtain ⟨b, rfl, hl, hb, hw, q⟩ := h
    refine ⟨rfl, ?_⟩
    have hsz := sizeLine_eq
    unfold boD
    (repeat (refine seq_gen fun Nx hS => ?_; walk_at "st"; refine hS _ ?_; clear hS))
    (refine seq_gen fun Nx hS => ?_; walk_at "st")
    refine loop_by (fun i c => ∃ (x3 x6 : S), c = [.d (.tuple [.str b.nm, .int b.at_, .int b.top, .tuple (b.bl.map blD)]), .o none (.lst ((b.bl.take i).flatten.map lyD)), .o none (.lst (endsD b.bl i)), x3, .no, .no, x6, .no, .no, .no, .no] ∧ i ≤ b.bl.length) ⟨_, _, rfl, Nat.zero_le _⟩ ?_ ?_
    · rintro i y c N hy ⟨x3, x6, rfl, hi⟩ hN
      obtain ⟨k, hk, rfl⟩ := map_get hy
      have hi2 := get_lt hk
      have e : b.bl.take (i + 1) = b.bl.take i ++ [k] := by rw [List.take_add_one, hk]; rfl
      have hfl := fN_more hk
      have hle := fN_le (bl := b.bl) (k := i + 1)
      have hll : b.bl.flatten.length ≤ 1000 := hl
      rw [show blD k = .tuple (k.map lyD) from rfl]
      simp only [↓asT_t, ↓asC_c, gT, gsCons, gsNil, gN, List.length_cons, List.length_nil, List.set_cons_zero, List.set_cons_succ, Nat.zero_add, Nat.reduceAdd, true_and]
      
      (refine seq_gen fun Nx hS => ?_; walk_at "st")
      refine loop_by (fun j c => ∃ (x6 : S), c = [.d (.tuple [.str b.nm, .int b.at_, .int b.top, .tuple (b.bl.map blD)]), .o none (.lst (((b.bl.take i).flatten ++ k.take j).map lyD)), .o none (.lst (endsD b.bl i)), .d (.tuple (k.map lyD)), .no, .no, x6, .no, .no, .no, .no] ∧ j ≤ k.length) ⟨_, by rw [List.take_zero, List.append_nil], Nat.zero_le _⟩ ?_ ?_
      · rintro j y c N2 hy2 ⟨x6, rfl, hj⟩ hN2
        obtain ⟨l, hkl, rfl⟩ := map_get hy2
        have hj2 := get_lt hkl
        have e2 : k.take (j + 1) = k.take j ++ [l] := by rw [List.take_add_one, hkl]; rfl
        simp only [↓asT_t, ↓asC_c, gT, gsCons, gsNil, gN, List.length_cons, List.length_nil, List.set_cons_zero, List.set_cons_succ, Nat.zero_add, Nat.reduceAdd, true_and]
        (try walk_at "wpt")
        refine ⟨?_, ?_⟩
        · rw [List.length_append, List.length_take]
          have : (b.bl.take i).flatten.length = fN b.bl i := rfl
          omega
        rw [show ((b.bl.take i).flatten ++ k.take j).map lyD ++ [lyD l] = ((b.bl.take i).flatten ++ k.take (j + 1)).map lyD by
          rw [e2, ← List.append_assoc, List.map_append (l₂ := [l])]; rfl]
        exact hN2 _ ⟨_, rfl, by omega⟩
      · rintro c ⟨x6, rfl, hj⟩
        rw [List.length_map, List.take_length]
        (refine hS _ ?_; try clear hS; (repeat (refine seq_gen fun Nx hS => ?_; walk_at "st"; refine hS _ ?_; clear hS)))
        (try walk_at "wpt")
        refine ⟨by rw [endsD_len]; omega, ?_⟩
        rw [show ((b.bl.take i).flatten ++ k).length = fN b.bl (i + 1) by rw [List.length_append, hfl]; rfl]
        rw [show endsD b.bl i ++ [PyData.int (((fN b.bl (i + 1) : Nat) : Int) - 1)] = endsD b.bl (i + 1) by
          unfold endsD
          rw [List.range_succ, List.map_append]; rfl]
        rw [show (b.bl.take i).flatten ++ k = (b.bl.take (i + 1)).flatten by rw [e, List.flatten_append]; simp]
        exact hN _ ⟨_, _, rfl, by omega⟩
    rintro c ⟨y3, y6, rfl, hi⟩
    rw [List.length_map, List.take_length]
    show Nx ([.d (boD b), .o none (.lst (b.lays.map lyD)), .o none (.lst (endsD b.bl b.bl.length)), y3, .no, .no, y6, .no, .no, .no, .no] : Dl.Ctx)
    (refine hS _ ?_; try clear hS; (repeat (refine seq_gen fun Nx hS => ?_; walk_at "st"; refine hS _ ?_; clear hS)))
    (refine seq_gen fun Nx hS => ?_; walk_at "st")
    refine loop_by (fun i c => ∃ (x6 : S), c = [.d (boD b), .d (.list (b.lays.map lyD)), .o none (.lst (endsD b.bl b.bl.length)), y3, .o none (.lst (dpsD b.lays i)), .d (.int (upN b.lays i)), x6, .no, .no, .no, .no] ∧ i ≤ b.lays.length) ⟨_, rfl, Nat.zero_le _⟩ ?_ ?_
    · rintro i y c N hy ⟨x6, rfl, hi⟩ hN
      obtain ⟨l, hk, rfl⟩ := map_get hy
      have hi2 := get_lt hk
      have e := upN_more hk
      unfold lyD
      simp only [↓asT_t, ↓asC_c, gT, gsCons, gsNil, gN, List.length_cons, List.length_nil, List.set_cons_zero, List.set_cons_succ, Nat.zero_add, Nat.reduceAdd, true_and]
      (try walk_at "wpt")
      rw [← e, dpsD_more]
      refine ⟨by rw [dpsD_len]; omega, ?_⟩
      refine atD_end (k := i) dpsD_len (by unfold dpsD; rw [List.getElem?_map, List.getElem?_range (by omega)]; rfl) ?_
      (try walk_at "wpt")
      exact hN _ ⟨_, rfl, by omega⟩
    rintro c ⟨y6, rfl, hi⟩
    rw [List.length_map]
    (refine hS _ ?_; try clear hS; (repeat (refine seq_gen fun Nx hS => ?_; walk_at "st"; refine hS _ ?_; clear hS)))
    (refine seq_gen fun Nx hS => ?_; walk_at "st")
    refine loop_by (fun i c => ∃ (x7 x8 : S), c = [.d (boD b), .d (.list (b.lays.map lyD)), .o none (.lst (endsD b.bl b.bl.length)), y3, .o none (.lst (dpsD b.lays b.lays.length)), .d (.int (upN b.lays b.lays.length)), y6, x7, x8, .no, .no] ∧ True) ⟨_, _, rfl, trivial⟩ ?_ ?_
    · rintro i y c N hy ⟨x8, x9, rfl, -⟩ hN
      simp only [↓asT_t, ↓asC_c, gT, gsCons, gsNil, gN, List.length_cons, List.length_nil, List.set_cons_zero, List.set_cons_succ, Nat.zero_add, Nat.reduceAdd, true_and]
      
      (refine seq_gen fun Nx hS => ?_; walk_at "st")
      refine ⟨hl, hb, hl, ?_⟩
      obtain ⟨Ls, hLs⟩ : ∃ Ls, Ls = b.lays.map lyD := ⟨_, rfl⟩
      obtain ⟨Es, hEs⟩ : ∃ Es, Es = endsD b.bl b.bl.length := ⟨_, rfl⟩
      obtain ⟨Ds, hDs⟩ : ∃ Ds, Ds = dpsD b.lays b.lays.length := ⟨_, rfl⟩
      have pL : Pl 2 (.list Ls) := by
        rw [hLs]
        exact pl_map fun x hx => pl_t2 (pl_str (hw x hx)) pl_int
      have pE : Pl 1 (.list Es) := by
        rw [hEs]
        exact pl_map fun x hx => pl_int
      have pD : Pl 2 (.list Ds) := by
        rw [hDs]
        exact pl_map fun x hx => pl_t2 pl_int pl_int
      rw [← hLs, ← hEs, ← hDs]
      (refine hS _ ?_; try clear hS; (repeat (refine seq_gen fun Nx hS => ?_; walk_at "st"; refine hS _ ?_; clear hS)))
      (refine seq_gen fun Nx hS => ?_; walk_at "st")
      have p3 : Pl 3 (PyData.list [.list Ls, .list Es, .list Ds]) := pl_list fun d hd => by
        simp at hd
        rcases hd with rfl | rfl | rfl
        · exact pL
        · exact pE.mono (by decide)
        · exact pD
      refine ⟨p3.sh, p3.sh, ?_⟩
      rw [p3.selfL, if_neg (by decide)]
      refine comp_map (fun _ => .bool true) (by show 3 ≤ sizeLine; omega) (fun y hy N hN => ?_) ?_
      · simp at hy
        rcases hy with rfl | rfl | rfl
        all_goals
          (try walk_at "wpt")
          exact hN _ rfl
      refine asBs_true fun ns hns => ?_
      rw [hns, if_neg (by decide)]
      (refine hS _ ?_; try clear hS; (repeat (refine seq_gen fun Nx hS => ?_; walk_at "st"; refine hS _ ?_; clear hS)))
      (refine seq_gen fun Nx hS => ?_; walk_at "st")
      have tL : ∀ y ∈ Ls, ∃ xs, y = .tuple xs := fun y hy => by
        rw [hLs] at hy
        obtain ⟨l, _, rfl⟩ := List.mem_map.mp hy
        exact ⟨_, rfl⟩
      have tD : ∀ y ∈ Ds, ∃ i j : Int, y = .tuple [.int i, .int j] := fun y hy => by
        rw [hDs] at hy
        obtain ⟨l, _, rfl⟩ := List.mem_map.mp hy
        exact ⟨_, _, rfl⟩
      have tE : ∀ y ∈ Es, ∃ i : Int, y = .int i := fun y hy => by
        rw [hEs] at hy
        obtain ⟨l, _, rfl⟩ := List.mem_map.mp hy
        exact ⟨_, rfl⟩
      have lL : Ls.length ≤ 1000 := by rw [hLs, List.length_map]; exact hl
      have lD : Ds.length ≤ 1000 := by rw [hDs, dpsD_len]; exact hl
      have lE : Es.length ≤ 1000 := by rw [hEs, endsD_len]; exact hb
      refine ⟨by omega, ?_⟩
      refine comp_map (fun _ => .bool true) (by rw [List.length_append]; omega) (fun y hy N hN => ?_) ?_
      · obtain ⟨xs, rfl⟩ : ∃ xs, y = .tuple xs := by
          rcases List.mem_append.mp hy with z | z
          · exact tL y z
          · obtain ⟨_, _, e⟩ := tD y z
            exact ⟨_, e⟩
        (try walk_at "wpt")
        exact hN _ rfl
      refine asBs_true fun ns hns => ?_
      rw [hns, if_neg (by decide)]
      (refine hS _ ?_; try clear hS; (repeat (refine seq_gen fun Nx hS => ?_; walk_at "st"; refine hS _ ?_; clear hS)))
      (refine seq_gen fun Nx hS => ?_; walk_at "st")
      refine comp_map (fun _ => .bool true) (by omega) (fun y hy N hN => ?_) ?_
      · obtain ⟨i, j, rfl⟩ := tD y hy
        (try walk_at "wpt")
        exact hN _ rfl
      refine asBs_true fun ns hns => ?_
      rw [hns, if_neg (by decide)]
      (refine hS _ ?_; try clear hS; (repeat (refine seq_gen fun Nx hS => ?_; walk_at "st"; refine hS _ ?_; clear hS)))
      (refine seq_gen fun Nx hS => ?_; walk_at "st")
      refine comp_map (fun _ => .bool true) (by omega) (fun y hy N hN => ?_) ?_
      · obtain ⟨i, rfl⟩ := tE y hy
        (try walk_at "wpt")
        exact hN _ rfl
      refine asBs_true fun ns hns => ?_
      rw [hns, if_neg (by decide)]
      (refine hS _ ?_; try clear hS; (repeat (refine seq_gen fun Nx hS => ?_; walk_at "st"; refine hS _ ?_; clear hS)))
      (refine seq_gen fun Nx hS => ?_; walk_at "st")
      refine ⟨by omega, ?_⟩
      (refine hS _ ?_; try clear hS; (repeat (refine seq_gen fun Nx hS => ?_; walk_at "st"; refine hS _ ?_; clear hS)))
      (try walk_at "wpt")
      refine ⟨by omega, ?_⟩
      exact hN _ ⟨_, _, by rw [hLs, hEs, hDs], trivial⟩
    rintro c ⟨x8, x9, rfl, -⟩
    (refine hS _ ?_; try clear hS; (repeat (refine seq_gen fun Nx hS => ?_; walk_at "st"; refine hS _ ?_; clear hS)))
    (try walk_at "wpt")
    refine ⟨hl, hl, ?_⟩
    (try walk_at "wpt")
    rw [show (whN b == upN b.lays b.lays.length) = true by rw [upN_all]; exact beq_self_eq_true _]
    exact q _

def T_law : TF := fun a Q => ∃ ns : List Int, a = [.d (.list (ns.map PyData.int))] ∧ ret Q (.d (.bool true))
theorem law_ok : TLaw T_law := fun ns Q _ q => ⟨ns, rfl, q⟩
theorem pl_boD {b : Bo} (h1 : PyData.strOk b.nm = true) (h2 : ∀ l ∈ b.lays, PyData.strOk l.1 = true) : Pl 4 (boD b) :=
  pl_t4 (pl_str h1) pl_int pl_int (pl_mapT fun k hk => pl_mapT fun l hl => pl_t2 (pl_str (h2 l (List.mem_flatten.mpr ⟨k, hk, hl⟩))) pl_int)
theorem byp_uniq : ∀ {l m : List Bo}, l.Perm m → (l.Pairwise fun a b => a.at_ ≤ b.at_) → (m.Pairwise fun a b => a.at_ < b.at_) → l = m
  | [], m, p, _, _ => (List.Perm.eq_nil p.symm).symm
  | x :: l, [], p, _, _ => absurd p.length_eq (by simp)
  | x :: l, y :: m, p, hl, hm => by
    have e : x = y := by
      rcases List.mem_cons.mp (p.mem_iff.mp (List.mem_cons_self (a := x) (l := l))) with e | hx
      · exact e
      rcases List.mem_cons.mp (p.mem_iff.mpr (List.mem_cons_self (a := y) (l := m))) with e | hy
      · exact e.symm
      have h1 := (List.pairwise_cons.mp hm).1 x hx
      have h2 := (List.pairwise_cons.mp hl).1 y hy
      omega
    subst e
    rw [byp_uniq (List.Perm.cons_inv p) (List.pairwise_cons.mp hl).2 (List.pairwise_cons.mp hm).2]
theorem byP_eq {bs ds : List Bo} (p : ds.Perm bs) (h : ds.Pairwise fun a b => a.at_ < b.at_) : byP bs = ds := by
  refine byp_uniq ((List.mergeSort_perm _ _).trans p.symm) ?_ h
  have := List.pairwise_mergeSort (le := fun a b : Bo => decide (a.at_ ≤ b.at_)) (fun a b c h1 h2 => by
    have := of_decide_eq_true h1
    have := of_decide_eq_true h2
    exact decide_eq_true (by omega)) (fun a b => by
    by_cases h : a.at_ ≤ b.at_
    · simp [h]
    · simp; omega) bs
  exact this.imp fun h => of_decide_eq_true h
theorem at_split {b : Bo} : ∀ {ds : List Bo}, (ds.Pairwise fun a b => a.at_ < b.at_) → (∀ o ∈ ds, o.at_ ≠ b.at_) → ∃ l r, ds = l ++ r ∧ (∀ o ∈ l, o.at_ < b.at_) ∧ ∀ o ∈ r, b.at_ < o.at_
  | [], _, _ => ⟨[], [], rfl, by simp, by simp⟩
  | d :: ds, h, hn => by
    obtain ⟨h1, h2⟩ := List.pairwise_cons.mp h
    have hd := hn d List.mem_cons_self
    by_cases hlt : d.at_ < b.at_
    · obtain ⟨l, r, rfl, a1, a2⟩ := at_split h2 fun o ho => hn o (List.mem_cons_of_mem _ ho)
      refine ⟨d :: l, r, rfl, fun o ho => ?_, a2⟩
      rcases List.mem_cons.mp ho with rfl | z
      · exact hlt
      · exact a1 o z
    · refine ⟨[], d :: ds, rfl, by simp, fun o ho => ?_⟩
      rcases List.mem_cons.mp ho with rfl | z
      · omega
      · have := h1 o z
        omega
/-- a bore put in by its place -/
def putB (ds : List Bo) (b : Bo) : List Bo := ds.take (ds.filter fun o => decide (o.at_ < b.at_)).length ++ [b] ++ ds.drop (ds.filter fun o => decide (o.at_ < b.at_)).length
theorem putB_ok {ds : List Bo} {b : Bo} (h : ds.Pairwise fun a b => a.at_ < b.at_) (hn : ∀ o ∈ ds, o.at_ ≠ b.at_) : ((putB ds b).Pairwise fun a b => a.at_ < b.at_) ∧ (putB ds b).Perm (ds ++ [b]) := by
  obtain ⟨l, r, rfl, a1, a2⟩ := at_split h hn
  have e : (l ++ r).filter (fun o => decide (o.at_ < b.at_)) = l := by
    rw [List.filter_append, List.filter_eq_self.mpr fun o ho => decide_eq_true (a1 o ho), List.filter_eq_nil_iff.mpr fun o ho => by
      have := a2 o ho
      simp; omega, List.append_nil]
  unfold putB
  rw [e, List.take_left, List.drop_left]
  obtain ⟨p1, p2, p3⟩ := List.pairwise_append.mp h
  refine ⟨?_, ?_⟩
  · refine List.pairwise_append.mpr ⟨List.pairwise_append.mpr ⟨p1, by simp, fun x hx y hy => ?_⟩, p2, fun x hx y hy => ?_⟩
    · obtain rfl := List.mem_singleton.mp hy
      exact a1 x hx
    · rcases List.mem_append.mp hx with z | z
      · exact p3 x z y hy
      · obtain rfl := List.mem_singleton.mp z
        exact a2 y hy
  · rw [List.append_assoc, List.append_assoc]
    exact List.Perm.append_left l List.perm_append_comm
theorem sc_law : FnScope ["script", "field", "bore", "due", "found", "at", "other"] ["script"] (defScope (topS 22)) := ⟨rfl, rfl, rfl, by decide +kernel, rfl, by decide +kernel, by decide +kernel⟩
local macro_rules | `(tactic| walk_at "wpt") => `(tactic| simp (maxSteps := 1000000) only [↓TE_by_place, ↓TE_law_bore, ↓TE_law_field, ↓reduceIte, ↓retA_kO, ↓retA_kD, ↓retA_kDo, ↓retA_kS, ↓asIs_m, ↓asBs_m, ↓asSs_m, fSum, fMin, fMax, fAll, fAny, fSortI, fMin2, fMax2, fStr, ↓fIntS_i, ↓fIntS_b, ↓fIntS_s, oLcN, fSortST, fSortT, zSeqX, zIfX, zRaise, zTry, ↓bare_d, ↓bare_o, ↓bare_l, ↓bare_no, ↓bare_f, ↓bare_g, ↓bare_P, ↓bare_dic, uSee, bSee, uSeeA, bSeeA, zAl, zInsLL, zForAl, osNil, osCons, oDisp, zLLclr, zLLapp, oSortK, uIsE, oSplit, uLendT, S.f.injEq, eq_self, ↓fAddA_i, ↓fAddA_s, ↓fAddA_t, fRepT, oRg1, uChain, ↓slWL_d, ↓slWL_o, ↓slWL_l, ↓slWL_s, ↓seeL_n, ↓seeL_d, ↓seeL_s, uCallSL, zLLfor, gTL, iZpA, ↓as2_l, ↓as2_t, ↓isLL_l, zLLo, uLLix, zLLput, oRep, fJoin, uV2, fSortS, fSortP, oLLe, iZp, iEn, iRv, iRr1, ↓slW_d, ↓slW_o, ↓slW_P, ↓slW_s, ↓hasS_d, ↓hasS_o, ↓hasS_f, ↓hasS_s, uV, uN, u1, o1, o2, oN, ↓fIn_l, ↓fIn_s, fCat, ↓fList_l, ↓fList_t, ↓fTup_l, ↓fTup_t, ↓fInt1_i, ↓fInt1_b, ↓lstR_l, ↓lstR_P, zM1, zM0, fApp, ↓fExt_l, ↓fExt_t, fRev, fClr, zIns, uPop, uPopI, ↓slF_d, ↓slF_o, ↓slF_s, uVf, pNo, pSo, ↓fSl_s, ↓fSl_t, uSl, oSl, oSlN, ↓scal_n, ↓scal_b, ↓scal_i, ↓scal_s, ↓kS_d, ↓ret_S, ↓see_n, ↓see_d, ↓see_s, rV, uCallS, rNil, rD, rS, uCallA, oCallA, ↓toS_d, ↓toS_f, ↓toS_s, ↓slS_0, ↓slS_s, ↓retA_d, ↓retA_o, ↓retA_O, ↓backL_n, ↓backL_s, ↓backL_d, ↓backL_f, ↓lok_n, ↓lok_s, ↓lok_d, ↓lok_f, ↓lent_n, ↓lent_s, ↓lent_d, ↓lent_f, bYes, oLc, ↓clr_n, ↓clr_c, ↓clr2_n, ↓clr2_c, ↓rest_n, ↓rest_c, ↓keep1_d, ↓keep1_o, ↓keep1_f, ↓keep1_no, ↓keep1_s, ↓asLL_l, oLL0, zLLn, zLLa, uLLlen, List.mem_cons, List.not_mem_nil, Nat.reduceEqDiff, eqv_list, eqv_tuple, eqv_none, ↓asI_i, ↓asB_b, ↓asS_s, ↓asL_l, ↓asT_t, ↓slD_0, ↓slD_s, ↓slO_0, ↓slO_s, ↓asR_l, ↓fAdd_i, ↓fAdd_s, ↓ixbo_0, ↓ixbo_1, ↓ixbo_2, ↓ixbo_3, ↓ixD_l, ↓ixD_t, ↓ixD_s, ↓arg1_1, ↓arg2_2, ↓fLen1_l, ↓fLen1_t, ↓fLen1_s, ↓asC_c, ↓asQ_l, ↓asQ_t, ↓asQ_s, ↓kD_d, ↓kD_o, ↓kO_o, ↓fz_l, ↓fz_P, ↓fz_ll, ↓ret_d, ↓ret_o, ↓ret_O, ↓retL_d, ↓retL_o, ↓retL_O, ↓atD_0, ↓atD_1, ↓atD_2, ↓atD_3, ↓atD_b1, ↓atD_b2, ↓atD_b3, ↓ixP_30, ↓ixP_31, ↓ixP_32, ↓if_true, ↓if_false, zNext, zSeq, zSet, zSetO, zDrop, zRet, zRetO, zRetP, zRetN, zIf, zPar, zAsg, zPut, gN, gsNil, gsCons, gT, uVar, uC, uFz, u2, fI, fI0, fEq, fLtD, uIxO, uOwn, uCB, oCB, fLen, fLenO, fAbs, wB, wNot, wAnd, wOr, uAnd, uOr, uNot, uIf, aNil, aCons, uTup, oLst, fIx, oVar, iSeq, iR1, iR2, uCall, oCall, uLend, oLend, shaped_iff, sh_non, sh_int, sh_bool, sh_str, eqv_int, eqv_str, eqv_bool, ixN_30, ixN_31, ixN_32, ixN_20, ixN_21, atI_0, atI_1, atI_2, atI_3, atI_b1, atI_b2, atI_b3, List.length_map, Int.reduceEq, forall_const, implies_true, and_assoc, sz_0, sz_1, sz_2, sz_3, sz_4, sz_5, sz_6, sz_7, sz_8, Bool.not_eq_true', beq_eq_false_iff_ne, beq_iff_eq, ne_eq, Bool.and_eq_true, Bool.or_eq_true, decide_eq_false_iff_not, not_false_eq_true, not_true_eq_false, Bool.not_true, Bool.not_false, isI_n, isI_b, isI_i, isI_s, isI_l, isI_t, isB_n, isB_b, isB_i, isB_s, isB_l, isB_t, isS_n, isS_b, isS_i, isS_s, isS_l, isS_t, isL_n, isL_b, isL_i, isL_s, isL_l, isL_t, isT_n, isT_b, isT_i, isT_s, isT_l, isT_t, isN_n, isN_b, isN_i, isN_s, isN_l, isN_t, ca_0, ca_1, ca_2, ca_3, ca_4, ca_5, ca_6, Int.reduceToNat, Int.toNat_natCast, Int.reducePow, Int.reduceMul, Int.reduceLT, Int.reduceLE, Int.reduceNeg, zFor,   List.replicate, List.length_cons, List.length_nil, List.nil_append, List.cons_append, List.append_nil, List.map_cons, List.map_nil, List.set_cons_zero, List.set_cons_succ, List.getElem?_cons_zero, List.getElem?_cons_succ, Option.some.injEq, S.d.injEq, S.o.injEq, Res.lst.injEq, Res.lstP.injEq, PyData.int.injEq, PyData.str.injEq, PyData.bool.injEq, PyData.list.injEq, PyData.tuple.injEq, List.cons.injEq, reduceCtorEq,   exists_eq_left', exists_eq_left, exists_eq_right, exists_eq_right', true_and, and_true, false_and, and_false, exists_false, false_or, or_false, exists_and_left, exists_and_right, exists_eq', exists_eq, exists_const, Bool.false_eq_true, ite_true, ite_false, decide_eq_true_eq, Nat.sub_self, Nat.zero_add, Nat.add_sub_cancel, Nat.reduceSub, Nat.reduceAdd])
local macro_rules | `(tactic| walk_at "st") => `(tactic| simp (maxSteps := 1000000) only [↓TE_by_place, ↓TE_law_bore, ↓TE_law_field, ↓reduceIte, ↓retA_kO, ↓retA_kD, ↓retA_kDo, ↓retA_kS, ↓asIs_m, ↓asBs_m, ↓asSs_m, fSum, fMin, fMax, fAll, fAny, fSortI, fMin2, fMax2, fStr, ↓fIntS_i, ↓fIntS_b, ↓fIntS_s, oLcN, fSortST, fSortT, zSeqX, zIfX, zRaise, zTry, ↓bare_d, ↓bare_o, ↓bare_l, ↓bare_no, ↓bare_f, ↓bare_g, ↓bare_P, ↓bare_dic, uSee, bSee, uSeeA, bSeeA, zAl, zInsLL, zForAl, osNil, osCons, oDisp, zLLclr, zLLapp, oSortK, uIsE, oSplit, uLendT, S.f.injEq, eq_self, ↓fAddA_i, ↓fAddA_s, ↓fAddA_t, fRepT, oRg1, uChain, ↓slWL_d, ↓slWL_o, ↓slWL_l, ↓slWL_s, ↓seeL_n, ↓seeL_d, ↓seeL_s, uCallSL, zLLfor, gTL, iZpA, ↓as2_l, ↓as2_t, ↓isLL_l, zLLo, uLLix, zLLput, oRep, fJoin, uV2, fSortS, fSortP, oLLe, iZp, iEn, iRv, iRr1, ↓slW_d, ↓slW_o, ↓slW_P, ↓slW_s, ↓hasS_d, ↓hasS_o, ↓hasS_f, ↓hasS_s, uV, uN, u1, o1, o2, oN, ↓fIn_l, ↓fIn_s, fCat, ↓fList_l, ↓fList_t, ↓fTup_l, ↓fTup_t, ↓fInt1_i, ↓fInt1_b, ↓lstR_l, ↓lstR_P, zM1, zM0, fApp, ↓fExt_l, ↓fExt_t, fRev, fClr, zIns, uPop, uPopI, ↓slF_d, ↓slF_o, ↓slF_s, uVf, pNo, pSo, ↓fSl_s, ↓fSl_t, uSl, oSl, oSlN, ↓scal_n, ↓scal_b, ↓scal_i, ↓scal_s, ↓kS_d, ↓ret_S, ↓see_n, ↓see_d, ↓see_s, rV, uCallS, rNil, rD, rS, uCallA, oCallA, ↓toS_d, ↓toS_f, ↓toS_s, ↓slS_0, ↓slS_s, ↓retA_d, ↓retA_o, ↓retA_O, ↓backL_n, ↓backL_s, ↓backL_d, ↓backL_f, ↓lok_n, ↓lok_s, ↓lok_d, ↓lok_f, ↓lent_n, ↓lent_s, ↓lent_d, ↓lent_f, bYes, oLc, ↓clr_n, ↓clr_c, ↓clr2_n, ↓clr2_c, ↓rest_n, ↓rest_c, ↓keep1_d, ↓keep1_o, ↓keep1_f, ↓keep1_no, ↓keep1_s, ↓asLL_l, oLL0, zLLn, zLLa, uLLlen, List.mem_cons, List.not_mem_nil, Nat.reduceEqDiff, eqv_list, eqv_tuple, eqv_none, ↓asI_i, ↓asB_b, ↓asS_s, ↓asL_l, ↓asT_t, ↓slD_0, ↓slD_s, ↓slO_0, ↓slO_s, ↓asR_l, ↓fAdd_i, ↓fAdd_s, ↓ixbo_0, ↓ixbo_1, ↓ixbo_2, ↓ixbo_3, ↓ixD_l, ↓ixD_t, ↓ixD_s, ↓arg1_1, ↓arg2_2, ↓fLen1_l, ↓fLen1_t, ↓fLen1_s, ↓asC_c, ↓asQ_l, ↓asQ_t, ↓asQ_s, ↓kD_d, ↓kD_o, ↓kO_o, ↓fz_l, ↓fz_P, ↓fz_ll, ↓ret_d, ↓ret_o, ↓ret_O, ↓retL_d, ↓retL_o, ↓retL_O, ↓atD_0, ↓atD_1, ↓atD_2, ↓atD_3, ↓atD_b1, ↓atD_b2, ↓atD_b3, ↓ixP_30, ↓ixP_31, ↓ixP_32, ↓if_true, ↓if_false, zNext, zSet, zSetO, zDrop, zRet, zRetO, zRetP, zRetN, zIf, zPar, zAsg, zPut, gN, gsNil, gsCons, gT, uVar, uC, uFz, u2, fI, fI0, fEq, fLtD, uIxO, uOwn, uCB, oCB, fLen, fLenO, fAbs, wB, wNot, wAnd, wOr, uAnd, uOr, uNot, uIf, aNil, aCons, uTup, oLst, fIx, oVar, iSeq, iR1, iR2, uCall, oCall, uLend, oLend, shaped_iff, sh_non, sh_int, sh_bool, sh_str, eqv_int, eqv_str, eqv_bool, ixN_30, ixN_31, ixN_32, ixN_20, ixN_21, atI_0, atI_1, atI_2, atI_3, atI_b1, atI_b2, atI_b3, List.length_map, Int.reduceEq, forall_const, implies_true, and_assoc, sz_0, sz_1, sz_2, sz_3, sz_4, sz_5, sz_6, sz_7, sz_8, Bool.not_eq_true', beq_eq_false_iff_ne, beq_iff_eq, ne_eq, Bool.and_eq_true, Bool.or_eq_true, decide_eq_false_iff_not, not_false_eq_true, not_true_eq_false, Bool.not_true, Bool.not_false, isI_n, isI_b, isI_i, isI_s, isI_l, isI_t, isB_n, isB_b, isB_i, isB_s, isB_l, isB_t, isS_n, isS_b, isS_i, isS_s, isS_l, isS_t, isL_n, isL_b, isL_i, isL_s, isL_l, isL_t, isT_n, isT_b, isT_i, isT_s, isT_l, isT_t, isN_n, isN_b, isN_i, isN_s, isN_l, isN_t, ca_0, ca_1, ca_2, ca_3, ca_4, ca_5, ca_6, Int.reduceToNat, Int.toNat_natCast, Int.reducePow, Int.reduceMul, Int.reduceLT, Int.reduceLE, Int.reduceNeg, zFor,   List.replicate, List.length_cons, List.length_nil, List.nil_append, List.cons_append, List.append_nil, List.map_cons, List.map_nil, List.set_cons_zero, List.set_cons_succ, List.getElem?_cons_zero, List.getElem?_cons_succ, Option.some.injEq, S.d.injEq, S.o.injEq, Res.lst.injEq, Res.lstP.injEq, PyData.int.injEq, PyData.str.injEq, PyData.bool.injEq, PyData.list.injEq, PyData.tuple.injEq, List.cons.injEq, reduceCtorEq,   exists_eq_left', exists_eq_left, exists_eq_right, exists_eq_right', true_and, and_true, false_and, and_false, exists_false, false_or, or_false, exists_and_left, exists_and_right, exists_eq', exists_eq, exists_const, Bool.false_eq_true, ite_true, ite_false, decide_eq_true_eq, Nat.sub_self, Nat.zero_add, Nat.add_sub_cancel, Nat.reduceSub, Nat.reduceAdd])
theorem f_law {P : Program} {w : World} {K : PySem.W.Frag} {mg : Str → Option Value} {base : Heap} {f : Addr} {fd : FuncData} (hb : Bi K mg) (F : Fun K "law" "law" (topS 22) f fd) (C_by_place : Cal P w K mg base "by_place" 3 ["field"] T_by_place) (C__law_bore : Cal P w K mg base "_law_bore" 3 ["bore"] T_law_bore) (C__law_field : Cal P w K mg base "_law_field" 7 ["script"] T_law_field) : FnOk P w K mg base CX0 8 f fd ["script"] (SpD K T_law) := by
  refine fn_d (k := 7) F sc_law ?hT (fun cdv A outer s H E hr => (q_cons (s_set (j := 1) sc_law.nd (d_callC C__law_field (hr.mono (by decide)) (a_cons (dv 0) a_nil)))
 (q_cons (s_for PassesOwn.never rfl (i_seq (d_ixN 1 (fun _ _ => rfl) d_int)) (g_name 2 sc_law.nd)
 (q_one (s_if (t_not (tv (d_callC C__law_bore (hr.mono (by decide)) (a_cons (dv 2) a_nil))))
 (q_one (s_ret d_bl)) q_nil)))
 (q_cons (s_setO (j := 3) sc_law.nd (o_lst a_nil))
 (q_cons (s_for PassesOwn.never rfl (i_seq (d_ixN 1 (fun _ _ => rfl) d_int)) (g_name 2 sc_law.nd)
 (q_cons (s_set (j := 5) sc_law.nd (d_see (d_lenV hb.len (DE.dv (d_fz (o_lc [("other", 6)] rfl sc_law.nd (i_seq (dv 3)) (by show blkC ["script", "field", "bore", "due", "found", "at", "other"] (defScope (topS 22)) _ _ = true; decide +kernel) (fun _ _ _ _ _ => (g_name 6 sc_law.nd)) (fun _ _ _ _ _ => (b_one (t_lt (d_ixN 6 (fun _ _ => rfl) d_int) (d_ixN 2 (fun _ _ => rfl) d_int)))) (fun _ _ _ _ _ => (dv 6)) (by decide)))))))
 (q_one (s_ins 3 (dv 5) (dv 2)))))
 (q_cons (s_setO (j := 4) sc_law.nd (o_callC C_by_place (hr.mono (by decide)) (a_cons (dv 1) a_nil)))
 (q_cons (s_if (t_see (DW.dt (w_or (t_not (tv (d_isiV (n := "list") hb.isinstance hb.list bb_list (vv 4) kt_list))) (w_or1 (t_ne hr.units (dv 4) (dv 3))))))
 (q_one (s_ret d_bl)) q_nil)
 (q_cons (s_clr 4)
 (q_one (s_ret (d_see (d_eq hr.units (d_fz (o_callC C_by_place (hr.mono (by decide)) (a_cons (dv 1) a_nil))) (dv 3)))))))))))))
  case hT =>
    intro a Q h
    obtain ⟨ns, rfl, q⟩ := h
    refine ⟨rfl, ?_⟩
    have hsz := sizeLine_eq
    (refine seq_gen fun Nx hS => ?_; walk_at "st")
    intro nm ms bs ls hF
    (refine hS _ ?_; try clear hS; (repeat (refine seq_gen fun Nx hS => ?_; walk_at "st"; refine hS _ ?_; clear hS)))
    (refine seq_gen fun Nx hS => ?_; walk_at "st")
    have hbo : ∀ b ∈ bs, b.lays.length ≤ 1000 ∧ b.bl.length ≤ 1000 ∧ ∀ l ∈ b.lays, PyData.strOk l.1 = true := fun b hb => by
      have h := (hF.bo.each b hb).bl
      have h1 := h.few
      have h2 := len_flat b.bl h.each
      exact ⟨by unfold Bo.lays; omega, by omega, fun l hl => word_ok (hF.wm _ (h.ly l hl).1)⟩
    have bl := hF.few
    refine loop_by (fun i c => ∃ (x2 : S), c = [.d (.list (ns.map PyData.int)), .d (.tuple [.tuple (bs.map boD), .tuple (ls.map lkD)]), x2, .no, .no, .no, .no] ∧ True) ⟨_, rfl, trivial⟩ ?_ ?_
    · rintro i y c N hy ⟨x2, rfl, -⟩ hN
      obtain ⟨b, hb, rfl⟩ := map_get hy
      obtain ⟨h1, h2, h3⟩ := hbo b (get_mem hb)
      simp only [↓asT_t, ↓asC_c, gT, gsCons, gsNil, gN, List.length_cons, List.length_nil, List.set_cons_zero, List.set_cons_succ, Nat.zero_add, Nat.reduceAdd, true_and]
      (try walk_at "wpt")
      refine ⟨h1, h2, h3, ?_⟩
      (try walk_at "wpt")
      exact hN _ ⟨_, rfl, trivial⟩
    rintro c ⟨x2, rfl, -⟩
    (refine hS _ ?_; try clear hS; (repeat (refine seq_gen fun Nx hS => ?_; walk_at "st"; refine hS _ ?_; clear hS)))
    (refine seq_gen fun Nx hS => ?_; walk_at "st")
    refine loop_by (fun i c => ∃ (ds : List Bo) (x2 x5 : S), c = [.d (.list (ns.map PyData.int)), .d (.tuple [.tuple (bs.map boD), .tuple (ls.map lkD)]), x2, .o none (.lst (ds.map boD)), .no, x5, .no] ∧ ds.Perm (bs.take i) ∧ ds.Pairwise fun a b => a.at_ < b.at_) ⟨[], _, _, rfl, .nil, .nil⟩ ?_ ?_
    · rintro i y c N hy ⟨ds, x2, x4, rfl, hp, hs⟩ hN
      obtain ⟨b, hb, rfl⟩ := map_get hy
      have hi := get_lt hb
      have dl : ds.length ≤ 6 := by
        have := hp.length_eq
        rw [List.length_take] at this
        omega
      simp only [↓asT_t, ↓asC_c, gT, gsCons, gsNil, gN, List.length_cons, List.length_nil, List.set_cons_zero, List.set_cons_succ, Nat.zero_add, Nat.reduceAdd, true_and]
      
      (refine seq_gen fun Nx hS => ?_; walk_at "st")
      refine comp_fmm (g := boD) (xs := ds) (fun o => decide (o.at_ < b.at_)) boD (by omega) (fun o ho N M hN hM => ?_) ?_
      · rw [show boD o = .tuple [.str o.nm, .int o.at_, .int o.top, .tuple (o.bl.map blD)] from rfl, show boD b = .tuple [.str b.nm, .int b.at_, .int b.top, .tuple (b.bl.map blD)] from rfl]
        (try walk_at "wpt")
        split
        · rename_i h
          exact hN (decide_eq_true h) _ rfl
        · rename_i h
          exact hM (decide_eq_false h) _ rfl
      (try walk_at "wpt")
      have fl : (ds.filter fun o => decide (o.at_ < b.at_)).length ≤ ds.length := List.length_filter_le _ _
      (refine hS _ ?_; try clear hS; (repeat (refine seq_gen fun Nx hS => ?_; walk_at "st"; refine hS _ ?_; clear hS)))
      (try walk_at "wpt")
      refine ⟨by omega, by omega, by omega, ?_⟩
      have hnb : ∀ o ∈ ds, o.at_ ≠ b.at_ := fun o ho z => by
        have h1 := hp.mem_iff.mp ho
        have h2 := hF.bo.far
        rw [← List.take_append_drop i bs, List.map_append] at h2
        have h3 := (List.nodup_append.mp h2).2.2 o.at_ (List.mem_map.mpr ⟨o, h1, rfl⟩) b.at_ (List.mem_map.mpr ⟨b, List.mem_of_getElem? (i := 0) (by rw [List.getElem?_drop, Nat.add_zero]; exact hb), rfl⟩)
        exact h3 z
      obtain ⟨k1, k2⟩ := putB_ok hs hnb
      rw [show insD (ds.map boD) (ds.filter fun o => decide (o.at_ < b.at_)).length (boD b) = (putB ds b).map boD by
        unfold insD putB
        rw [List.map_append, List.map_append, List.map_take, List.map_drop]; rfl]
      exact hN _ ⟨_, _, _, rfl, k2.trans (by rw [List.take_add_one, hb]; exact hp.append_right _), k1⟩
    rintro c ⟨ds, x2, x5, rfl, hp, hs⟩
    rw [List.length_map, List.take_length] at hp
    have hby := byP_eq hp hs
    (refine hS _ ?_; try clear hS; (repeat (refine seq_gen fun Nx hS => ?_; walk_at "st"; refine hS _ ?_; clear hS)))
    (refine seq_gen fun Nx hS => ?_; walk_at "st")
    rw [hby]
    have pbs : Pl 5 (.list (ds.map boD)) := pl_map fun b hb => pl_boD (word_ok (hF.nm b (hp.mem_iff.mp hb))) (hbo b (hp.mem_iff.mp hb)).2.2
    refine ⟨pbs.sh, pbs.sh, ?_⟩
    rw [pbs.selfL, if_neg (by decide)]
    (refine hS _ ?_; try clear hS; (repeat (refine seq_gen fun Nx hS => ?_; walk_at "st"; refine hS _ ?_; clear hS)))
    (try walk_at "wpt")
    rw [hby, pbs.selfL]
    exact ⟨pbs.sh, pbs.sh, q _⟩

def fnsL : List He.DefD := [⟨("layers_of", none), "layers_of", "layers_of", defArgs (topS 1), defBody (topS 1), defScope (topS 1), [], []⟩, ⟨("block_ends", none), "block_ends", "block_ends", defArgs (topS 2), defBody (topS 2), defScope (topS 2), [], []⟩, ⟨("depths", none), "depths", "depths", defArgs (topS 3), defBody (topS 3), defScope (topS 3), [], []⟩, ⟨("whole", none), "whole", "whole", defArgs (topS 4), defBody (topS 4), defScope (topS 4), [], []⟩, ⟨("place_of", none), "place_of", "place_of", defArgs (topS 5), defBody (topS 5), defScope (topS 5), [], []⟩, ⟨("by_place", none), "by_place", "by_place", defArgs (topS 6), defBody (topS 6), defScope (topS 6), [], []⟩, ⟨("_law_draw", none), "_law_draw", "_law_draw", defArgs (topS 8), defBody (topS 8), defScope (topS 8), [], []⟩, ⟨("_law_feed", none), "_law_feed", "_law_feed", defArgs (topS 9), defBody (topS 9), defScope (topS 9), [], []⟩, ⟨("_law_next", none), "_law_next", "_law_next", defArgs (topS 10), defBody (topS 10), defScope (topS 10), [], []⟩, ⟨("_law_great", none), "_law_great", "_law_great", defArgs (topS 11), defBody (topS 11), defScope (topS 11), [], []⟩, ⟨("_law_long", none), "_law_long", "_law_long", defArgs (topS 12), defBody (topS 12), defScope (topS 12), [], []⟩, ⟨("_law_name", none), "_law_name", "_law_name", defArgs (topS 13), defBody (topS 13), defScope (topS 13), [], []⟩, ⟨("_law_names", none), "_law_names", "_law_names", defArgs (topS 14), defBody (topS 14), defScope (topS 14), [], []⟩, ⟨("_law_blocks", none), "_law_blocks", "_law_blocks", defArgs (topS 15), defBody (topS 15), defScope (topS 15), [], []⟩, ⟨("_law_bores", none), "_law_bores", "_law_bores", defArgs (topS 16), defBody (topS 16), defScope (topS 16), [], []⟩, ⟨("_law_likes", none), "_law_likes", "_law_likes", defArgs (topS 17), defBody (topS 17), defScope (topS 17), [], []⟩, ⟨("_law_marks", none), "_law_marks", "_law_marks", defArgs (topS 18), defBody (topS 18), defScope (topS 18), [], []⟩, ⟨("_law_field", none), "_law_field", "_law_field", defArgs (topS 19), defBody (topS 19), defScope (topS 19), [], []⟩, ⟨("_law_whole", none), "_law_whole", "_law_whole", defArgs (topS 20), defBody (topS 20), defScope (topS 20), [], []⟩, ⟨("_law_bore", none), "_law_bore", "_law_bore", defArgs (topS 21), defBody (topS 21), defScope (topS 21), [], []⟩, ⟨("law", none), "law", "law", defArgs (topS 22), defBody (topS 22), defScope (topS 22), [], []⟩]
def facL : List He.Fa := [.glo "layers_of", .glo "block_ends", .glo "depths", .glo "whole", .glo "place_of", .glo "by_place", .glo "_law_draw", .glo "_law_feed", .glo "_law_next", .glo "_law_great", .glo "_law_long", .glo "_law_name", .glo "_law_names", .glo "_law_blocks", .glo "_law_bores", .glo "_law_likes", .glo "_law_marks", .glo "_law_field", .glo "_law_whole", .glo "_law_bore", .glo "law", .free "all", .free "bool", .free "int", .free "isinstance", .free "len", .free "list", .free "range", .free "sorted", .free "sum", .free "tuple"]
abbrev rowL : PySem.W.OpenRow := PySem.W.OpenLaw.row PySem.Challenge.rw_bores_k05_layers_and_depths
abbrev hookL : PySem.W.Hook := He.hookD 4 facL fnsL
def obL (s : PySem.W.SharedT) : He.AlD := He.obsDG 4 facL fnsL (HandSHeadRun.getT s)
theorem obL_eq (s : PySem.W.SharedT) : obL s = hookL.obs s.abs := He.obsDG_eq (HandSHeadRun.getT_eq s)
theorem runL (w : World) : HandSHeadRun.RunEq rowL (PySem.W.view rowL.prog [22]) hookL obL 4000 ["layers_of", "block_ends", "depths", "whole", "place_of", "by_place", "_law_draw", "_law_feed", "_law_next", "_law_great", "_law_long", "_law_name", "_law_names", "_law_blocks", "_law_bores", "_law_likes", "_law_marks", "_law_field", "_law_whole", "_law_bore"] w := by
  intro os
  kernel_rfl
theorem factsL {P : Program} {w : World} {K : PySem.W.Frag} {h : Heap} {mg : Str → Option Value} {fa : Addr} (X : K.In h) (G : h.Ns mainGlobals mg) (hfa : mg "law" = some (.ref fa)) (c : He.SaysD facL fnsL K) :
    ∃ (fd : FuncData) (sp : Sp), (∀ (s : Shared) (u : Value), BindsTo s fd ⟨[u], []⟩ [("script", u)]) ∧ (∀ (H : Hp) (a : Addr) (ns : List Int), ns.length ≤ 63 → Only H → SqL K H a (ns.map V.int) → sp [.ref a] H (fun v _ => v = .bl true) fun _ _ _ => False) ∧
      ∀ base : Heap, K.In base → base.Ns mainGlobals mg → FnOk P w K mg base CX0 8 fa fd ["script"] sp := by
  have hb : Bi K mg := ⟨He.free_ok X G (c.fact 21 (f := .free "all") rfl), He.free_ok X G (c.fact 22 (f := .free "bool") rfl), He.free_ok X G (c.fact 23 (f := .free "int") rfl), He.free_ok X G (c.fact 24 (f := .free "isinstance") rfl), He.free_ok X G (c.fact 25 (f := .free "len") rfl), He.free_ok X G (c.fact 26 (f := .free "list") rfl), He.free_ok X G (c.fact 27 (f := .free "range") rfl), He.free_ok X G (c.fact 28 (f := .free "sorted") rfl), He.free_ok X G (c.fact 29 (f := .free "sum") rfl), He.free_ok X G (c.fact 30 (f := .free "tuple") rfl)⟩
  have D_layers_of : Df K mg "layers_of" (topS 1) ["bore"] := df_of X G c 0 0 rfl rfl (fun _ _ _ _ _ _ us hl => match us, hl with | [_], _ => rfl)
  have D_block_ends : Df K mg "block_ends" (topS 2) ["bore"] := df_of X G c 1 1 rfl rfl (fun _ _ _ _ _ _ us hl => match us, hl with | [_], _ => rfl)
  have D_depths : Df K mg "depths" (topS 3) ["bore"] := df_of X G c 2 2 rfl rfl (fun _ _ _ _ _ _ us hl => match us, hl with | [_], _ => rfl)
  have D_whole : Df K mg "whole" (topS 4) ["bore"] := df_of X G c 3 3 rfl rfl (fun _ _ _ _ _ _ us hl => match us, hl with | [_], _ => rfl)
  have D_place_of : Df K mg "place_of" (topS 5) ["bore"] := df_of X G c 4 4 rfl rfl (fun _ _ _ _ _ _ us hl => match us, hl with | [_], _ => rfl)
  have D_by_place : Df K mg "by_place" (topS 6) ["field"] := df_of X G c 5 5 rfl rfl (fun _ _ _ _ _ _ us hl => match us, hl with | [_], _ => rfl)
  have D__law_draw : Df K mg "_law_draw" (topS 8) ["script", "k", "many"] := df_of X G c 6 6 rfl rfl (fun _ _ _ _ _ _ us hl => match us, hl with | [_, _, _], _ => rfl)
  have D__law_feed : Df K mg "_law_feed" (topS 9) ["script", "k"] := df_of X G c 7 7 rfl rfl (fun _ _ _ _ _ _ us hl => match us, hl with | [_, _], _ => rfl)
  have D__law_next : Df K mg "_law_next" (topS 10) ["feed", "many"] := df_of X G c 8 8 rfl rfl (fun _ _ _ _ _ _ us hl => match us, hl with | [_, _], _ => rfl)
  have D__law_great : Df K mg "_law_great" (topS 11) ["feed"] := df_of X G c 9 9 rfl rfl (fun _ _ _ _ _ _ us hl => match us, hl with | [_], _ => rfl)
  have D__law_long : Df K mg "_law_long" (topS 12) ["feed"] := df_of X G c 10 10 rfl rfl (fun _ _ _ _ _ _ us hl => match us, hl with | [_], _ => rfl)
  have D__law_name : Df K mg "_law_name" (topS 13) ["feed", "names"] := df_of X G c 11 11 rfl rfl (fun _ _ _ _ _ _ us hl => match us, hl with | [_, _], _ => rfl)
  have D__law_names : Df K mg "_law_names" (topS 14) ["feed", "many"] := df_of X G c 12 12 rfl rfl (fun _ _ _ _ _ _ us hl => match us, hl with | [_, _], _ => rfl)
  have D__law_blocks : Df K mg "_law_blocks" (topS 15) ["feed", "marks"] := df_of X G c 13 13 rfl rfl (fun _ _ _ _ _ _ us hl => match us, hl with | [_, _], _ => rfl)
  have D__law_bores : Df K mg "_law_bores" (topS 16) ["script", "names", "marks"] := df_of X G c 14 14 rfl rfl (fun _ _ _ _ _ _ us hl => match us, hl with | [_, _, _], _ => rfl)
  have D__law_likes : Df K mg "_law_likes" (topS 17) ["feed", "marks"] := df_of X G c 15 15 rfl rfl (fun _ _ _ _ _ _ us hl => match us, hl with | [_, _], _ => rfl)
  have D__law_marks : Df K mg "_law_marks" (topS 18) ["feed", "names"] := df_of X G c 16 16 rfl rfl (fun _ _ _ _ _ _ us hl => match us, hl with | [_, _], _ => rfl)
  have D__law_field : Df K mg "_law_field" (topS 19) ["script"] := df_of X G c 17 17 rfl rfl (fun _ _ _ _ _ _ us hl => match us, hl with | [_], _ => rfl)
  have D__law_whole : Df K mg "_law_whole" (topS 20) ["found"] := df_of X G c 18 18 rfl rfl (fun _ _ _ _ _ _ us hl => match us, hl with | [_], _ => rfl)
  have D__law_bore : Df K mg "_law_bore" (topS 21) ["bore"] := df_of X G c 19 19 rfl rfl (fun _ _ _ _ _ _ us hl => match us, hl with | [_], _ => rfl)
  have D_law : Df K mg "law" (topS 22) ["script"] := df_of X G c 20 20 rfl rfl (fun _ _ _ _ _ _ us hl => match us, hl with | [_], _ => rfl)
  refine law_end law_ok D_law hfa (fun _ _ _ _ _ _ _ => rfl) fun base hX hG f fd F => ?_
  have C_layers_of := c_layers_of (P := P) (w := w) (base := base) hb D_layers_of 
  have C_block_ends := c_block_ends (P := P) (w := w) (base := base) hb D_block_ends 
  have C_depths := c_depths (P := P) (w := w) (base := base) hb D_depths C_layers_of
  have C_whole := c_whole (P := P) (w := w) (base := base) hb D_whole C_layers_of
  have C_place_of := c_place_of (P := P) (w := w) (base := base) hb D_place_of 
  have C_by_place := c_by_place (P := P) (w := w) (base := base) hb D_by_place C_place_of
  have C__law_draw := c_law_draw (P := P) (w := w) (base := base) hb D__law_draw 
  have C__law_feed := c_law_feed (P := P) (w := w) (base := base) hb D__law_feed 
  have C__law_next := c_law_next (P := P) (w := w) (base := base) hb D__law_next C__law_draw
  have C__law_great := c_law_great (P := P) (w := w) (base := base) hb D__law_great C__law_next
  have C__law_long := c_law_long (P := P) (w := w) (base := base) hb D__law_long C__law_great C__law_next
  have C__law_name := c_law_name (P := P) (w := w) (base := base) hb D__law_name C__law_next
  have C__law_names := c_law_names (P := P) (w := w) (base := base) hb D__law_names C__law_next C__law_name
  have C__law_blocks := c_law_blocks (P := P) (w := w) (base := base) hb D__law_blocks C__law_next C__law_long
  have C__law_bores := c_law_bores (P := P) (w := w) (base := base) hb D__law_bores C__law_next C__law_blocks C__law_long C__law_feed
  have C__law_likes := c_law_likes (P := P) (w := w) (base := base) hb D__law_likes C__law_next
  have C__law_marks := c_law_marks (P := P) (w := w) (base := base) hb D__law_marks C__law_next C__law_names
  have C__law_field := c_law_field (P := P) (w := w) (base := base) hb D__law_field C__law_likes C__law_bores C__law_marks C__law_feed C__law_names C__law_next
  have C__law_whole := c_law_whole (P := P) (w := w) (base := base) hb D__law_whole 
  have C__law_bore := c_law_bore (P := P) (w := w) (base := base) hb D__law_bore C_whole C__law_whole C_depths C_block_ends C_layers_of
  exact f_law hb F C_by_place C__law_bore C__law_field
end Bores
open PySem PySem.W PySem.Calls PyProof.Rows
set_option maxHeartbeats 0 in
theorem PySem.Challenge.cw_bores_k05_layers_and_depths_holds : PySem.Challenge.rw_bores_k05_layers_and_depths.Holds := by
  w_on; o_law
  refine HandSHeadRun.head_any (r := Bores.rowL) (q := view Bores.rowL.prog [22]) (H := Bores.hookL) (ob := Bores.obL) (M := 4000) (loose := ["layers_of", "block_ends", "depths", "whole", "place_of", "by_place", "_law_draw", "_law_feed", "_law_next", "_law_great", "_law_long", "_law_name", "_law_names", "_law_blocks", "_law_bores", "_law_likes", "_law_marks", "_law_field", "_law_whole", "_law_bore"]) (d := HandSHeadRun.topDef Bores.rowL.prog 22) (kwd := []) Bores.obL_eq
    (by kernel_rfl) (fun s => by kernel_rfl) Bores.runL (by kernel_rfl) (by kernel_rfl) (by kernel_rfl) (by rfl) (by first | assumption | decide +kernel) (by decide +kernel) ⟨rfl, rfl, rfl, rfl, rfl, by decide +kernel⟩ ?hw ?hc
  case hw => w_witness2
  case hc =>
    refine L2.walk_ofE (l := PySem.Challenge.rw_bores_k05_layers_and_depths) (n := 63) (k := 8) (x := "script") (CX := L2.CX0) rfl (by decide) (by kernel_rfl) ⟨rfl, by decide, by decide⟩ ?F (fun _ _ _ _ z => z)
    intro w mg fa h Y G hmg0
    obtain ⟨K, KX, c⟩ := Y
    have hmg : mg ("law" : PySem.Str) = some (.ref fa) := by
      have e : (HandSHeadRun.topDef Bores.rowL.prog 22).name = ("law" : PySem.Str) := by kernel_rfl
      exact e ▸ hmg0
    obtain ⟨fd, sp, b1, b2, b3⟩ := Bores.factsL (P := (PySem.Challenge.rw_bores_k05_layers_and_depths).prog) (w := w) KX G hmg c
    exact ⟨K, fd, sp, KX, b1, b2, b3⟩
