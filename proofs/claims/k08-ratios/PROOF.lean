import PyProof.Rows.All
import Wide.All
import OpenK.AllK
import Wide.FinOn
import HandS.ForMost
import HandS.Wide
import HandS.IsInst
import HandS.Deep
import HandS.HeadEnd
import HandS.HeadHook2
import HandS.Head2
import PySem.Challenge.RW_bores_k08_ratios
set_option Elab.async false
set_option linter.all false
set_option maxRecDepth 100000
set_option maxHeartbeats 4000000
/-! The data layer: readings over pure data. G: the frozen ghost heap; owned things by their addresses. -/
namespace Dl
open PySem PySem.Spec PyProof.Rows L2

/-! ### data over a growing heap -/
theorem same_t {K : PySem.W.Frag} {G G' : Hp} {a : Addr} {xs : List V} (e : Same G G') (h : SqT K G a xs) : SqT K G' a xs := by
  rcases h with (h | ⟨o, h⟩) | h
  · exact .inl (.inl (e _ _ h))
  · exact .inl (.inr ⟨o, e _ _ h⟩)
  · exact .inr h
mutual
theorem dp_mono {K : PySem.W.Frag} {G G' : Hp} (e : Same G G') : ∀ (d : PyData) (v : V), Dp K G v d → Dp K G' v d
  | .none, _, h => by cases h; exact .non
  | .bool b, _, h => by cases h; exact .bl b
  | .int i, _, h => by cases h; exact .int i
  | .str x, _, h => by cases h; exact .str x
  | .list ds, _, h => by
    cases h with
    | lst hs ha => exact .lst (Same.seq e hs) (dpa_mono e ds _ ha)
  | .tuple ds, _, h => by
    cases h with
    | tup hs ha => exact .tup (same_t e hs) (dpa_mono e ds _ ha)
  | .dict _, _, h => by cases h
theorem dpa_mono {K : PySem.W.Frag} {G G' : Hp} (e : Same G G') : ∀ (ds : List PyData) (vs : List V), DpAll K G vs ds → DpAll K G' vs ds
  | [], _, h => by cases h; exact .nil
  | d :: ds, _, h => by
    cases h with
    | cons h1 h2 => exact .cons (dp_mono e d _ h1) (dpa_mono e ds _ h2)
end
section
variable {K : PySem.W.Frag} {G : Hp}
theorem dpa_len : ∀ {ds : List PyData} {vs : List V}, DpAll K G vs ds → vs.length = ds.length
  | [], _, h => by cases h; rfl
  | d :: ds, _, h => by
    cases h with
    | cons h1 h2 => rw [List.length_cons, List.length_cons, dpa_len h2]
theorem dpa_get : ∀ {ds : List PyData} {vs : List V} {i : Nat} {d : PyData}, DpAll K G vs ds → ds[i]? = some d → ∃ v, vs[i]? = some v ∧ Dp K G v d
  | [], _, i, _, h, e => by simp at e
  | d :: ds, _, 0, _, h, e => by
    cases h with
    | cons h1 h2 => simp at e; subst e; exact ⟨_, rfl, h1⟩
  | d :: ds, _, i + 1, _, h, e => by
    cases h with
    | cons h1 h2 =>
      obtain ⟨v, q1, q2⟩ := dpa_get (i := i) h2 (by simpa using e)
      exact ⟨v, by simpa using q1, q2⟩
theorem dpa_getv : ∀ {ds : List PyData} {vs : List V} {i : Nat} {v : V}, DpAll K G vs ds → vs[i]? = some v → ∃ d, ds[i]? = some d ∧ Dp K G v d
  | [], _, i, _, h, e => by cases h; simp at e
  | d :: ds, _, 0, _, h, e => by
    cases h with
    | cons h1 h2 => simp at e; subst e; exact ⟨_, rfl, h1⟩
  | d :: ds, _, i + 1, _, h, e => by
    cases h with
    | cons h1 h2 =>
      obtain ⟨v, q1, q2⟩ := dpa_getv (i := i) h2 (by simpa using e)
      exact ⟨v, by simpa using q1, q2⟩
theorem dpa_app : ∀ {ds es : List PyData} {vs us : List V}, DpAll K G vs ds → DpAll K G us es → DpAll K G (vs ++ us) (ds ++ es)
  | [], _, _, _, h, h' => by cases h; exact h'
  | d :: ds, _, _, _, h, h' => by
    cases h with
    | cons h1 h2 => exact .cons h1 (dpa_app h2 h')
theorem dpa_set : ∀ {ds : List PyData} {vs : List V} {i : Nat} {v : V} {d : PyData}, DpAll K G vs ds → Dp K G v d → DpAll K G (vs.set i v) (ds.set i d)
  | [], _, i, _, _, h, _ => by cases h; exact .nil
  | d :: ds, _, 0, _, _, h, q => by
    cases h with
    | cons h1 h2 => exact .cons q h2
  | d :: ds, _, i + 1, _, _, h, q => by
    cases h with
    | cons h1 h2 => exact .cons h1 (dpa_set h2 q)
theorem dpa_take : ∀ {ds : List PyData} {vs : List V} (n : Nat), DpAll K G vs ds → DpAll K G (vs.take n) (ds.take n)
  | _, _, 0, h => .nil
  | [], _, n + 1, h => by cases h; exact .nil
  | d :: ds, _, n + 1, h => by
    cases h with
    | cons h1 h2 => exact .cons h1 (dpa_take n h2)
theorem dpa_drop : ∀ {ds : List PyData} {vs : List V} (n : Nat), DpAll K G vs ds → DpAll K G (vs.drop n) (ds.drop n)
  | _, _, 0, h => h
  | [], _, n + 1, h => by cases h; exact .nil
  | d :: ds, _, n + 1, h => by
    cases h with
    | cons h1 h2 => exact dpa_drop n h2
theorem dpa_rev : ∀ {ds : List PyData} {vs : List V}, DpAll K G vs ds → DpAll K G vs.reverse ds.reverse
  | [], _, h => by cases h; exact .nil
  | d :: ds, _, h => by
    cases h with
    | cons h1 h2 =>
      rw [List.reverse_cons, List.reverse_cons]
      exact dpa_app (dpa_rev h2) (.cons h1 .nil)
theorem dpa_ints : ∀ (ns : List Int), DpAll K G (ns.map V.int) (ns.map PyData.int)
  | [] => .nil
  | n :: ns => .cons (.int n) (dpa_ints ns)
theorem dpa_ints_inv : ∀ {ns : List Int} {vs : List V}, DpAll K G vs (ns.map PyData.int) → vs = ns.map V.int
  | [], _, h => by cases h; rfl
  | n :: ns, _, h => by
    cases h with
    | cons h1 h2 =>
      cases h1
      rw [List.map_cons, dpa_ints_inv h2]
theorem dpa_bls_inv : ∀ {ns : List Bool} {vs : List V}, DpAll K G vs (ns.map PyData.bool) → vs = ns.map V.bl
  | [], _, h => by cases h; rfl
  | n :: ns, _, h => by
    cases h with
    | cons h1 h2 =>
      cases h1
      rw [List.map_cons, dpa_bls_inv h2]
theorem dpa_strs_inv : ∀ {ns : List Str} {vs : List V}, DpAll K G vs (ns.map PyData.str) → vs = ns.map V.str
  | [], _, h => by cases h; rfl
  | n :: ns, _, h => by
    cases h with
    | cons h1 h2 =>
      cases h1
      rw [List.map_cons, dpa_strs_inv h2]
theorem dpa_strs : ∀ (ns : List Str), DpAll K G (ns.map V.str) (ns.map PyData.str)
  | [] => .nil
  | n :: ns => .cons (.str n) (dpa_strs ns)
end

/-! ### owned things -/
/-- an owned thing of any kind -/
structure ResG where
  P : PySem.W.Frag → Hp → Hp → V → List Addr → Prop
  grow : ∀ K G G' H v A, P K G H v A → Same G G' → P K G' H v A
  loc : ∀ K G H H' v A, P K G H v A → (∀ a ∈ A, H' a = H a) → P K G H' v A
  here : ∀ K G H v A, P K G H v A → ∀ a ∈ A, H a ≠ none
inductive Res where
  | lst (ds : List PyData)
  | lstP (P : List PyData → Prop)
  | gen (R : ResG)
def OwnL (K : PySem.W.Frag) (G H : Hp) (v : V) (A : List Addr) (ds : List PyData) : Prop := ∃ p vs, v = .ref p ∧ A = [p] ∧ H p = some (.lst vs) ∧ DpAll K G vs ds
def Res.P (K : PySem.W.Frag) (G H : Hp) (v : V) (A : List Addr) : Res → Prop
  | .lst ds => OwnL K G H v A ds
  | .lstP P => ∃ ds, P ds ∧ OwnL K G H v A ds
  | .gen R => R.P K G H v A
section
variable {K : PySem.W.Frag} {G G' H H' : Hp} {v : V} {A : List Addr}
theorem ownL_mono {ds : List PyData} (h : OwnL K G H v A ds) (e : Same G G') (k : ∀ a ∈ A, H' a = H a) : OwnL K G' H' v A ds := by
  obtain ⟨p, vs, rfl, rfl, h1, h2⟩ := h
  exact ⟨p, vs, rfl, rfl, (k p (by simp)).trans h1, dpa_mono e _ _ h2⟩
theorem Res.mono {R : Res} (h : R.P K G H v A) (e : Same G G') (k : ∀ a ∈ A, H' a = H a) : R.P K G' H' v A := by
  cases R with
  | lst ds => exact ownL_mono h e k
  | lstP P =>
    obtain ⟨ds, p, q⟩ := h
    exact ⟨ds, p, ownL_mono q e k⟩
  | gen R => exact R.loc _ _ _ _ _ _ (R.grow _ _ _ _ _ _ h e) k
theorem ownL_here {ds : List PyData} (h : OwnL K G H v A ds) : ∀ a ∈ A, H a ≠ none := by
  obtain ⟨p, vs, rfl, rfl, h1, h2⟩ := h
  intro a ha
  obtain rfl : a = p := by simpa using ha
  rw [h1]
  exact fun z => nomatch z
theorem Res.here {R : Res} (h : R.P K G H v A) : ∀ a ∈ A, H a ≠ none := by
  cases R with
  | lst ds => exact ownL_here h
  | lstP P =>
    obtain ⟨ds, p, q⟩ := h
    exact ownL_here q
  | gen R => exact R.here _ _ _ _ _ h
end

/-! ### slots -/
/-- a frozen thing of any kind -/
structure FrG where
  P : PySem.W.Frag → Hp → V → Prop
  grow : ∀ K G G' v, P K G v → Same G G' → P K G' v
/-- what a slot holds: nothing known; data; an owned thing (w: its value where it came in from outside, none where it was made here) -/
inductive S where
  | no
  | d (x : PyData)
  | f (F : FrG)
  | o (w : Option V) (R : Res)
abbrev Ctx := List S
/-- the def's entry: the heap, the ghost, what it may change -/
structure Base where
  H0 : Hp
  G0 : Hp
  io : List Addr
def WOk (B : Base) (w : Option V) (v : V) (A : List Addr) : Prop := match w with
  | none => ∀ a ∈ A, B.H0 a = none
  | some u => v = u
inductive Reps (K : PySem.W.Frag) (B : Base) (G H : Hp) : Ctx → List (Option V) → List Addr → Prop
  | nil : Reps K B G H [] [] []
  | no {x : Option V} {c : Ctx} {s : List (Option V)} {A : List Addr} : Reps K B G H c s A → Reps K B G H (.no :: c) (x :: s) A
  | d {v : V} {x : PyData} {c : Ctx} {s : List (Option V)} {A : List Addr} : Dp K G v x → Reps K B G H c s A → Reps K B G H (.d x :: c) (some v :: s) A
  | f {v : V} {F : FrG} {c : Ctx} {s : List (Option V)} {A : List Addr} : F.P K G v → Reps K B G H c s A → Reps K B G H (.f F :: c) (some v :: s) A
  | o {w : Option V} {v : V} {R : Res} {c : Ctx} {s : List (Option V)} {A A' : List Addr} : R.P K G H v A → WOk B w v A → Reps K B G H c s A' → Reps K B G H (.o w R :: c) (some v :: s) (A ++ A')
structure Wd (B : Base) (G H : Hp) (A : List Addr) : Prop where
  sub : Same G H
  nd : A.Nodup
  out : ∀ a ∈ A, G a = none
  old : Same B.G0 G
  stay : ∀ a o, B.H0 a = some o → a ∉ B.io → H a = some o
  dom : ∀ a, H a = none → B.H0 a = none
  newG : ∀ a, B.H0 a ≠ none → G a = B.G0 a
  lim : ∀ a ∈ A, a ∈ B.io ∨ B.H0 a = none
structure Stt (K : PySem.W.Frag) (B : Base) (c : Ctx) (s : List (Option V)) (G H : Hp) : Prop where
  ex : ∃ A, Reps K B G H c s A ∧ Wd B G H A

section
variable {K : PySem.W.Frag} {B : Base} {G G' H H' : Hp} {c : Ctx} {s : List (Option V)} {A : List Addr}
theorem Reps.mono (h : Reps K B G H c s A) (e : Same G G') (k : ∀ a ∈ A, H' a = H a) : Reps K B G' H' c s A := by
  induction h with
  | nil => exact .nil
  | no _ ih => exact .no (ih k)
  | d h _ ih => exact .d (dp_mono e _ _ h) (ih k)
  | f h _ ih => exact .f (FrG.grow _ _ _ _ _ h e) (ih k)
  | o h w _ ih => exact .o (Res.mono h e fun a ha => k a (List.mem_append_left _ ha)) w (ih fun a ha => k a (List.mem_append_right _ ha))
theorem Reps.here (h : Reps K B G H c s A) : ∀ a ∈ A, H a ≠ none := by
  induction h with
  | nil => intro a ha; simp at ha
  | no _ ih => exact ih
  | d h _ ih => exact ih
  | f h _ ih => exact ih
  | o h w _ ih =>
    intro a ha
    rcases List.mem_append.mp ha with z | z
    · exact Res.here h a z
    · exact ih a z
theorem Reps.len (h : Reps K B G H c s A) : s.length = c.length := by
  induction h with
  | nil => rfl
  | no _ ih => simp [ih]
  | d _ _ ih => simp [ih]
  | f _ _ ih => simp [ih]
  | o _ _ _ ih => simp [ih]
theorem Reps.get_d (h : Reps K B G H c s A) : ∀ {i : Nat} {x : PyData}, c[i]? = some (.d x) → ∃ v, s[i]? = some (some v) ∧ Dp K G v x := by
  induction h with
  | nil => intro i x e; simp at e
  | no _ ih =>
    intro i x e
    cases i with
    | zero => simp at e
    | succ i => simpa using ih (by simpa using e)
  | d h _ ih =>
    intro i x e
    cases i with
    | zero => simp at e; subst e; exact ⟨_, rfl, h⟩
    | succ i => simpa using ih (by simpa using e)
  | f h _ ih =>
    intro i x e
    cases i with
    | zero => simp at e
    | succ i => simpa using ih (by simpa using e)
  | o h w _ ih =>
    intro i x e
    cases i with
    | zero => simp at e
    | succ i => simpa using ih (by simpa using e)
/-- slot j forgotten, or data laid there -/
theorem Reps.set_no (h : Reps K B G H c s A) : ∀ (j : Nat) (x : Option V), ∃ A', Reps K B G H (c.set j .no) (s.set j x) A' ∧ A'.Sublist A := by
  induction h with
  | nil => intro j x; exact ⟨[], by simpa using .nil, List.Sublist.refl _⟩
  | no h ih =>
    intro j x
    cases j with
    | zero => exact ⟨_, .no h, List.Sublist.refl _⟩
    | succ j =>
      obtain ⟨A', r, q⟩ := ih j x
      exact ⟨A', .no r, q⟩
  | d hd h ih =>
    intro j x
    cases j with
    | zero => exact ⟨_, .no h, List.Sublist.refl _⟩
    | succ j =>
      obtain ⟨A', r, q⟩ := ih j x
      exact ⟨A', .d hd r, q⟩
  | f hd h ih =>
    intro j x
    cases j with
    | zero => exact ⟨_, .no h, List.Sublist.refl _⟩
    | succ j =>
      obtain ⟨A', r, q⟩ := ih j x
      exact ⟨A', .f hd r, q⟩
  | o ho w h ih =>
    intro j x
    cases j with
    | zero => exact ⟨_, .no h, List.sublist_append_right _ _⟩
    | succ j =>
      obtain ⟨A', r, q⟩ := ih j x
      exact ⟨_, .o ho w r, List.Sublist.append (List.Sublist.refl _) q⟩
theorem Reps.set_d {v : V} {x : PyData} (hx : Dp K G v x) (h : Reps K B G H c s A) : ∀ (j : Nat), ∃ A', Reps K B G H (c.set j (.d x)) (s.set j (some v)) A' ∧ A'.Sublist A := by
  induction h with
  | nil => intro j; exact ⟨[], by simpa using .nil, List.Sublist.refl _⟩
  | no h ih =>
    intro j
    cases j with
    | zero => exact ⟨_, .d hx h, List.Sublist.refl _⟩
    | succ j =>
      obtain ⟨A', r, q⟩ := ih j
      exact ⟨A', .no r, q⟩
  | d hd h ih =>
    intro j
    cases j with
    | zero => exact ⟨_, .d hx h, List.Sublist.refl _⟩
    | succ j =>
      obtain ⟨A', r, q⟩ := ih j
      exact ⟨A', .d hd r, q⟩
  | f hd h ih =>
    intro j
    cases j with
    | zero => exact ⟨_, .d hx h, List.Sublist.refl _⟩
    | succ j =>
      obtain ⟨A', r, q⟩ := ih j
      exact ⟨A', .f hd r, q⟩
  | o ho w h ih =>
    intro j
    cases j with
    | zero => exact ⟨_, .d hx h, List.sublist_append_right _ _⟩
    | succ j =>
      obtain ⟨A', r, q⟩ := ih j
      exact ⟨_, .o ho w r, List.Sublist.append (List.Sublist.refl _) q⟩
/-- an owned thing laid into slot j -/
theorem Reps.set_o {v : V} {w : Option V} {R : Res} {A1 : List Addr} (hR : R.P K G H v A1) (hw : WOk B w v A1) (h : Reps K B G H c s A) : ∀ (j : Nat), (A1 ++ A).Nodup →
    ∃ A', Reps K B G H (c.set j (.o w R)) (s.set j (some v)) A' ∧ A'.Nodup ∧ ∀ a ∈ A', a ∈ A1 ++ A := by
  induction h with
  | nil => intro j nd; exact ⟨[], by simpa using .nil, List.nodup_nil, fun a ha => by simp at ha⟩
  | no h ih =>
    intro j nd
    cases j with
    | zero => exact ⟨_, .o hR hw h, nd, fun a ha => ha⟩
    | succ j =>
      obtain ⟨A', r, q⟩ := ih j nd
      exact ⟨A', .no r, q⟩
  | d hd h ih =>
    intro j nd
    cases j with
    | zero => exact ⟨_, .o hR hw h, nd, fun a ha => ha⟩
    | succ j =>
      obtain ⟨A', r, q⟩ := ih j nd
      exact ⟨A', .d hd r, q⟩
  | f hd h ih =>
    intro j nd
    cases j with
    | zero => exact ⟨_, .o hR hw h, nd, fun a ha => ha⟩
    | succ j =>
      obtain ⟨A', r, q⟩ := ih j nd
      exact ⟨A', .f hd r, q⟩
  | @o w2 v2 R2 c2 s2 Ah At ho hw2 h ih =>
    intro j nd
    have n1 : (A1 ++ At).Nodup := nd.sublist (List.Sublist.append (List.Sublist.refl _) (List.sublist_append_right _ _))
    cases j with
    | zero => exact ⟨_, .o hR hw h, n1, fun a ha => by
        rcases List.mem_append.mp ha with z | z
        · exact List.mem_append_left _ z
        · exact List.mem_append_right _ (List.mem_append_right _ z)⟩
    | succ j =>
      obtain ⟨A', r, n2, q⟩ := ih j n1
      refine ⟨Ah ++ A', .o ho hw2 r, ?_, fun a ha => ?_⟩
      · have n3 : (Ah ++ At).Nodup := nd.sublist (List.sublist_append_right _ _)
        refine List.nodup_append.mpr ⟨(List.nodup_append.mp n3).1, n2, fun a ha b hb e => ?_⟩
        subst e
        rcases List.mem_append.mp (q a hb) with z | z
        · exact (List.nodup_append.mp nd).2.2 a z a (List.mem_append_left _ ha) rfl
        · exact (List.nodup_append.mp n3).2.2 a ha a z rfl
      · rcases List.mem_append.mp ha with z | z
        · exact List.mem_append_right _ (List.mem_append_left _ z)
        · rcases List.mem_append.mp (q a z) with z | z
          · exact List.mem_append_left _ z
          · exact List.mem_append_right _ (List.mem_append_right _ z)
/-- slot j looked at and changed -/
theorem Reps.focus (h : Reps K B G H c s A) : ∀ {j : Nat} {w : Option V} {R : Res}, A.Nodup → c[j]? = some (.o w R) →
    ∃ v A1, s[j]? = some (some v) ∧ R.P K G H v A1 ∧ WOk B w v A1 ∧ A1.Nodup ∧ (∀ a ∈ A1, a ∈ A) ∧
      ∀ {G' H' : Hp} {R' : Res} {w' : Option V} {A1' : List Addr}, Same G G' → (∀ a ∈ A, a ∉ A1 → H' a = H a) → R'.P K G' H' v A1' → WOk B w' v A1' → A1'.Nodup → (∀ a ∈ A1', a ∈ A1 ∨ a ∉ A) →
        ∃ A', Reps K B G' H' (c.set j (.o w' R')) s A' ∧ A'.Nodup ∧ ∀ a ∈ A', a ∈ A1' ∨ (a ∈ A ∧ a ∉ A1) := by
  induction h with
  | nil => intro j w R nd e; simp at e
  | no h ih =>
    intro j w R nd e
    cases j with
    | zero => simp at e
    | succ j =>
      obtain ⟨v, A1, h1, h2, h3, h4, h5, k⟩ := ih nd (by simpa using e)
      refine ⟨v, A1, by simpa using h1, h2, h3, h4, h5, fun {G' H' R' w' A1'} e1 e2 e3 e4 e5 e6 => ?_⟩
      obtain ⟨A', r, q⟩ := k e1 e2 e3 e4 e5 e6
      exact ⟨A', .no r, q⟩
  | d hd h ih =>
    intro j w R nd e
    cases j with
    | zero => simp at e
    | succ j =>
      obtain ⟨v, A1, h1, h2, h3, h4, h5, k⟩ := ih nd (by simpa using e)
      refine ⟨v, A1, by simpa using h1, h2, h3, h4, h5, fun {G' H' R' w' A1'} e1 e2 e3 e4 e5 e6 => ?_⟩
      obtain ⟨A', r, q⟩ := k e1 e2 e3 e4 e5 e6
      exact ⟨A', .d (dp_mono e1 _ _ hd) r, q⟩
  | f hd h ih =>
    intro j w R nd e
    cases j with
    | zero => simp at e
    | succ j =>
      obtain ⟨v, A1, h1, h2, h3, h4, h5, k⟩ := ih nd (by simpa using e)
      refine ⟨v, A1, by simpa using h1, h2, h3, h4, h5, fun {G' H' R' w' A1'} e1 e2 e3 e4 e5 e6 => ?_⟩
      obtain ⟨A', r, q⟩ := k e1 e2 e3 e4 e5 e6
      exact ⟨A', .f (FrG.grow _ _ _ _ _ hd e1) r, q⟩
  | @o w2 v2 R2 c2 s2 Ah At ho hw2 h ih =>
    intro j w R nd e
    obtain ⟨n1, n2, n3⟩ := List.nodup_append.mp nd
    cases j with
    | zero =>
      have e' : S.o w2 R2 = S.o w R := by simpa using e
      cases e'
      refine ⟨v2, Ah, rfl, ho, hw2, n1, fun a ha => List.mem_append_left _ ha, fun {G' H' R' w' A1'} e1 e2 e3 e4 e5 e6 => ?_⟩
      have nin : ∀ a ∈ At, a ∉ Ah := fun a ha z => n3 a z a ha rfl
      refine ⟨A1' ++ At, .o e3 e4 (h.mono e1 fun a ha => e2 a (List.mem_append_right _ ha) (nin a ha)), ?_, fun a ha => ?_⟩
      · refine List.nodup_append.mpr ⟨e5, n2, fun a ha b hb e => ?_⟩
        subst e
        rcases e6 a ha with z | z
        · exact nin a hb z
        · exact z (List.mem_append_right _ hb)
      · rcases List.mem_append.mp ha with z | z
        · exact .inl z
        · exact .inr ⟨List.mem_append_right _ z, nin a z⟩
    | succ j =>
      obtain ⟨v, A1, h1, h2, h3, h4, h5, k⟩ := ih n2 (by simpa using e)
      refine ⟨v, A1, by simpa using h1, h2, h3, h4, fun a ha => List.mem_append_right _ (h5 a ha), fun {G' H' R' w' A1'} e1 e2 e3 e4 e5 e6 => ?_⟩
      have nA1 : ∀ a ∈ Ah, a ∉ A1 := fun a ha z => n3 a ha a (h5 a z) rfl
      obtain ⟨A', r, m1, m2⟩ := k e1 (fun a ha hn => e2 a (List.mem_append_right _ ha) hn) e3 e4 e5 (fun a ha => by
        rcases e6 a ha with z | z
        · exact .inl z
        · exact .inr fun y => z (List.mem_append_right _ y))
      refine ⟨Ah ++ A', .o (Res.mono ho e1 fun a ha => e2 a (List.mem_append_left _ ha) (nA1 a ha)) hw2 r, ?_, fun a ha => ?_⟩
      · refine List.nodup_append.mpr ⟨n1, m1, fun a ha b hb e => ?_⟩
        subst e
        rcases m2 a hb with z | ⟨z, _⟩
        · rcases e6 a z with y | y
          · exact nA1 a ha y
          · exact y (List.mem_append_left _ ha)
        · exact n3 a ha a z rfl
      · rcases List.mem_append.mp ha with z | z
        · exact .inr ⟨List.mem_append_left _ z, nA1 a z⟩
        · rcases m2 a z with y | ⟨y1, y2⟩
          · exact .inl y
          · exact .inr ⟨List.mem_append_right _ y1, y2⟩
theorem Wd.sub_of (h : Wd B G H A) {A' : List Addr} (q : A'.Sublist A) : Wd B G H A' :=
  ⟨h.sub, h.nd.sublist q, fun a ha => h.out a (q.subset ha), h.old, h.stay, h.dom, h.newG, fun a ha => h.lim a (q.subset ha)⟩
end

/-! ### steps of the state -/
section
variable {K : PySem.W.Frag} {B : Base} {G G' H H' : Hp} {c : Ctx} {s : List (Option V)}
theorem Stt.sub (h : Stt K B c s G H) : Same G H := let ⟨_, _, w⟩ := h.ex; w.sub
theorem Stt.get_d (h : Stt K B c s G H) {i : Nat} {x : PyData} (e : c[i]? = some (.d x)) : ∃ v, s[i]? = some (some v) ∧ Dp K G v x :=
  let ⟨_, r, _⟩ := h.ex; r.get_d e
theorem Stt.set_d (h : Stt K B c s G H) (j : Nat) {v : V} {x : PyData} (hx : Dp K G v x) : Stt K B (c.set j (.d x)) (s.set j (some v)) G H := by
  obtain ⟨A, r, w⟩ := h.ex
  obtain ⟨A', r', q⟩ := r.set_d hx j
  exact ⟨A', r', w.sub_of q⟩
theorem Stt.set_no (h : Stt K B c s G H) (j : Nat) (x : Option V) : Stt K B (c.set j .no) (s.set j x) G H := by
  obtain ⟨A, r, w⟩ := h.ex
  obtain ⟨A', r', q⟩ := r.set_no j x
  exact ⟨A', r', w.sub_of q⟩
/-- data pushed on top, and popped -/
theorem Stt.push_d (h : Stt K B c s G H) {v : V} {x : PyData} (hx : Dp K G v x) : Stt K B (.d x :: c) (some v :: s) G H := by
  obtain ⟨A, r, w⟩ := h.ex
  exact ⟨A, .d hx r, w⟩
theorem Stt.pop {x : S} {v : Option V} (h : Stt K B (x :: c) (v :: s) G H) : Stt K B c s G H := by
  obtain ⟨A, r, w⟩ := h.ex
  cases r with
  | no r => exact ⟨A, r, w⟩
  | d _ r => exact ⟨A, r, w⟩
  | f _ r => exact ⟨A, r, w⟩
  | o _ _ r => exact ⟨_, r, w.sub_of (List.sublist_append_right _ _)⟩
/-- the owned thing on top goes to slot j -/
theorem Stt.set_o {wo : Option V} {R : Res} {v : V} (h : Stt K B (.o wo R :: c) (some v :: s) G H) (j : Nat) : Stt K B (c.set j (.o wo R)) (s.set j (some v)) G H := by
  obtain ⟨A, r, w⟩ := h.ex
  cases r with
  | o h1 h2 r =>
    obtain ⟨A', r', n, q⟩ := r.set_o h1 h2 j w.nd
    exact ⟨A', r', w.sub, n, fun a ha => w.out a (q a ha), w.old, w.stay, w.dom, w.newG, fun a ha => w.lim a (q a ha)⟩
/-- a new frozen object -/
theorem Stt.laid (h : Stt K B c s G H) {p : Addr} {o : HO} (hp : H p = none) : Stt K B c s (upd G p o) (upd H p o) ∧ Same G (upd G p o) := by
  obtain ⟨A, r, w⟩ := h.ex
  have gp : G p = none := w.sub.free hp
  have e : Same G (upd G p o) := fun b u q => by rw [upd_ne (ne_of_none q gp)]; exact q
  have np : ∀ a ∈ A, a ≠ p := fun a ha z => r.here a ha (by rw [z]; exact hp)
  have h0 : B.H0 p = none := w.dom p hp
  have n0 : ∀ a, B.H0 a ≠ none → a ≠ p := fun a ha z => ha (by rw [z]; exact h0)
  refine ⟨⟨A, r.mono e fun a ha => upd_ne (np a ha), fun b u q => ?_, w.nd, fun a ha => by rw [upd_ne (np a ha)]; exact w.out a ha, w.old.trans e, fun a u q hi => ?_, fun a q => ?_, fun a q => by rw [upd_ne (n0 a q)]; exact w.newG a q, w.lim⟩, e⟩
  · by_cases hb : b = p
    · subst hb; rw [upd_same] at q ⊢; exact q
    · rw [upd_ne hb] at q ⊢; exact w.sub b u q
  · rw [upd_ne (n0 a (by rw [q]; exact fun z => nomatch z))]
    exact w.stay a u q hi
  · by_cases hb : a = p
    · subst hb; exact h0
    · rw [upd_ne hb] at q; exact w.dom a q
/-- a new owned list -/
theorem Stt.laidL (h : Stt K B c s G H) {p : Addr} {vs : List V} {ds : List PyData} (hp : H p = none) (hd : DpAll K G vs ds) : Stt K B (.o none (.lst ds) :: c) (some (.ref p) :: s) G (upd H p (.lst vs)) := by
  obtain ⟨A, r, w⟩ := h.ex
  have np : ∀ a ∈ A, a ≠ p := fun a ha z => r.here a ha (by rw [z]; exact hp)
  have h0 : B.H0 p = none := w.dom p hp
  have n0 : ∀ a, B.H0 a ≠ none → a ≠ p := fun a ha z => ha (by rw [z]; exact h0)
  have gp : G p = none := w.sub.free hp
  refine ⟨[p] ++ A, .o (R := .lst ds) ⟨p, vs, rfl, rfl, upd_same, hd⟩ (fun a ha => ?_) (r.mono (Same.refl _) fun a ha => upd_ne (np a ha)), fun b u q => ?_, ?_, fun a ha => ?_, w.old, fun a u q hi => ?_, fun a q => ?_, w.newG, fun a ha => ?_⟩
  · obtain rfl : a = p := by simpa using ha
    exact h0
  · rw [upd_ne (ne_of_none q gp)]; exact w.sub b u q
  · exact List.nodup_append.mpr ⟨by simp, w.nd, fun a ha b hb e => np b hb (by rw [← e]; simpa using ha)⟩
  · rcases List.mem_append.mp ha with z | z
    · obtain rfl : a = p := by simpa using z
      exact gp
    · exact w.out a z
  · rw [upd_ne (n0 a (by rw [q]; exact fun z => nomatch z))]
    exact w.stay a u q hi
  · by_cases hb : a = p
    · subst hb; exact h0
    · rw [upd_ne hb] at q; exact w.dom a q
  · rcases List.mem_append.mp ha with z | z
    · obtain rfl : a = p := by simpa using z
      exact .inr h0
    · exact w.lim a z
/-- an owned list made here is frozen -/
theorem Stt.frz {ds : List PyData} {v : V} (h : Stt K B (.o none (.lst ds) :: c) (some v :: s) G H) : ∃ G', Stt K B c s G' H ∧ Same G G' ∧ Dp K G' v (.list ds) := by
  obtain ⟨A, r, w⟩ := h.ex
  cases r with
  | @o _ _ _ _ _ Ah At h1 h2 r =>
    obtain ⟨p, vs, rfl, rfl, hp, hd⟩ := h1
    have gp : G p = none := w.out p (by simp)
    have h0 : B.H0 p = none := h2 p (by simp)
    have n0 : ∀ a, B.H0 a ≠ none → a ≠ p := fun a ha z => ha (by rw [z]; exact h0)
    have e : Same G (upd G p (.lst vs)) := fun b u q => by rw [upd_ne (ne_of_none q gp)]; exact q
    obtain ⟨n1, n2, n3⟩ := List.nodup_append.mp w.nd
    have np : ∀ a ∈ At, a ≠ p := fun a ha z => n3 p (by simp) a ha z.symm
    refine ⟨upd G p (.lst vs), ⟨At, r.mono e fun a ha => rfl, fun b u q => ?_, n2, fun a ha => by rw [upd_ne (np a ha)]; exact w.out a (List.mem_append_right _ ha), w.old.trans e, w.stay, w.dom, fun a q => by rw [upd_ne (n0 a q)]; exact w.newG a q, fun a ha => w.lim a (List.mem_append_right _ ha)⟩, e, .lst (.inl (.inl upd_same)) (dpa_mono e _ _ hd)⟩
    by_cases hb : b = p
    · subst hb; rw [upd_same] at q; rw [← q]; exact hp
    · rw [upd_ne hb] at q; exact w.sub b u q
/-- what an owned thing may be frozen to -/
def Res.fz : Res → (PyData → Prop) → Prop
  | .lst ds, Q => Q (.list ds)
  | .lstP P, Q => ∀ ds, P ds → Q (.list ds)
  | .gen _, _ => False
theorem Stt.frzR {R : Res} {v : V} {Q : PyData → Prop} (h : Stt K B (.o none R :: c) (some v :: s) G H) (q : R.fz Q) : ∃ G' d, Stt K B c s G' H ∧ Same G G' ∧ Dp K G' v d ∧ Q d := by
  cases R with
  | lst ds =>
    obtain ⟨G', a, b, d⟩ := h.frz
    exact ⟨G', _, a, b, d, q⟩
  | lstP P =>
    obtain ⟨A, r, w⟩ := h.ex
    cases r with
    | o h1 h2 r =>
      obtain ⟨ds, p, h1⟩ := h1
      obtain ⟨G', a, b, d⟩ := Stt.frz (ds := ds) ⟨_, .o (R := .lst ds) h1 h2 r, w⟩
      exact ⟨G', _, a, b, d, q ds p⟩
  | gen _ => exact q.elim
/-- the owned list at slot j: read, written -/
theorem Stt.own (h : Stt K B c s G H) {j : Nat} {wo : Option V} {ds : List PyData} (e : c[j]? = some (.o wo (.lst ds))) :
    ∃ p vs, s[j]? = some (some (.ref p)) ∧ H p = some (.lst vs) ∧ DpAll K G vs ds ∧ (∀ u, wo = some u → u = .ref p) ∧
      ∀ vs' ds', DpAll K G vs' ds' → Stt K B (c.set j (.o wo (.lst ds'))) s G (upd H p (.lst vs')) := by
  obtain ⟨A, r, w⟩ := h.ex
  obtain ⟨v, A1, h1, h2, h3, h4, h5, k⟩ := r.focus w.nd e
  obtain ⟨p, vs, rfl, rfl, hp, hd⟩ := h2
  refine ⟨p, vs, h1, hp, hd, fun u hu => ?_, fun vs' ds' hd' => ?_⟩
  · subst hu
    exact (show V.ref p = u from h3).symm
  · have gp : G p = none := w.out p (h5 p (by simp))
    obtain ⟨A', r', n, q⟩ := k (G' := G) (H' := upd H p (.lst vs')) (R' := .lst ds') (w' := wo) (A1' := [p]) (Same.refl _) (fun a ha hn => upd_ne fun z => hn (by simp [z])) ⟨p, vs', rfl, rfl, upd_same, hd'⟩ h3 (by simp) (fun a ha => .inl ha)
    have q' : ∀ a ∈ A', a ∈ A := fun a ha => by
      rcases q a ha with z | z
      · exact h5 a z
      · exact z.1
    refine ⟨A', r', fun b u q => ?_, n, fun a ha => w.out a (q' a ha), w.old, fun a u q hi => ?_, fun a q => ?_, w.newG, fun a ha => w.lim a (q' a ha)⟩
    · rw [upd_ne (ne_of_none q gp)]; exact w.sub b u q
    · have z := w.stay a u q hi
      rw [upd_ne]
      · exact z
      · rintro rfl
        rcases w.lim a (h5 a (by simp)) with y | y
        · exact hi y
        · have q2 : B.H0 a = some u := by assumption
          rw [y] at q2; cases q2
    · by_cases hb : a = p
      · subst hb; rw [upd_same] at q; cases q
      · rw [upd_ne hb] at q; exact w.dom a q
/-- a list of which a fact is known: its items told; and forgotten again -/
theorem Stt.open_ (h : Stt K B c s G H) {j : Nat} {wo : Option V} {P : List PyData → Prop} (e : c[j]? = some (.o wo (.lstP P))) : ∃ ds, P ds ∧ Stt K B (c.set j (.o wo (.lst ds))) s G H := by
  obtain ⟨A, r, w⟩ := h.ex
  obtain ⟨v, A1, h1, h2, h3, h4, h5, k⟩ := r.focus w.nd e
  obtain ⟨ds, hP, h2⟩ := h2
  obtain ⟨A', r', n, q⟩ := k (G' := G) (H' := H) (R' := .lst ds) (w' := wo) (A1' := A1) (Same.refl _) (fun _ _ _ => rfl) h2 h3 h4 fun a ha => .inl ha
  have q' : ∀ a ∈ A', a ∈ A := fun a ha => by
    rcases q a ha with z | z
    · exact h5 a z
    · exact z.1
  exact ⟨ds, hP, ⟨A', r', w.sub, n, fun a ha => w.out a (q' a ha), w.old, w.stay, w.dom, w.newG, fun a ha => w.lim a (q' a ha)⟩⟩
theorem Stt.shut (h : Stt K B c s G H) {j : Nat} {wo : Option V} {ds : List PyData} {P : List PyData → Prop} (e : c[j]? = some (.o wo (.lst ds))) (hP : P ds) : Stt K B (c.set j (.o wo (.lstP P))) s G H := by
  obtain ⟨A, r, w⟩ := h.ex
  obtain ⟨v, A1, h1, h2, h3, h4, h5, k⟩ := r.focus w.nd e
  obtain ⟨A', r', n, q⟩ := k (G' := G) (H' := H) (R' := .lstP P) (w' := wo) (A1' := A1) (Same.refl _) (fun _ _ _ => rfl) ⟨ds, hP, h2⟩ h3 h4 fun a ha => .inl ha
  have q' : ∀ a ∈ A', a ∈ A := fun a ha => by
    rcases q a ha with z | z
    · exact h5 a z
    · exact z.1
  exact ⟨A', r', w.sub, n, fun a ha => w.out a (q' a ha), w.old, w.stay, w.dom, w.newG, fun a ha => w.lim a (q' a ha)⟩
end
end Dl

/-! Readings over data: expressions, tests, statements. -/
namespace Dl
open PySem PySem.Spec PyProof.Rows L2

abbrev TD := Ctx → (PyData → Ctx → Prop) → Prop
abbrev TB := Ctx → (Bool → Ctx → Prop) → Prop
abbrev TL := Ctx → (List PyData → Ctx → Prop) → Prop
abbrev TR := Ctx → (Res → Ctx → Prop) → Prop

def DEv (K : PySem.W.Frag) (te : TE) (t : TD) : Prop := ∀ (B : Base) (c : Ctx) (s : L2.St) (G H : Hp) (Q : PyData → Ctx → Prop) (R : VK), Stt K B c s G H → t c Q →
  (∀ v x c' G' H', Stt K B c' s G' H' → Same G G' → Dp K G' v x → Q x c' → R v H') → te s H R
def DTv (K : PySem.W.Frag) (te : TT) (t : TB) : Prop := ∀ (B : Base) (c : Ctx) (s : L2.St) (G H : Hp) (Q : Bool → Ctx → Prop) (R : Bool → Hp → Prop), Stt K B c s G H → t c Q →
  (∀ b c' G' H', Stt K B c' s G' H' → Same G G' → Q b c' → R b H') → te s H R
def DAv (K : PySem.W.Frag) (te : TA) (t : TL) : Prop := ∀ (B : Base) (c : Ctx) (s : L2.St) (G H : Hp) (Q : List PyData → Ctx → Prop) (R : List V → Hp → Prop), Stt K B c s G H → t c Q →
  (∀ vs xs c' G' H', Stt K B c' s G' H' → Same G G' → DpAll K G' vs xs → Q xs c' → R vs H') → te s H R
def DOv (K : PySem.W.Frag) (te : TE) (t : TR) : Prop := ∀ (B : Base) (c : Ctx) (s : L2.St) (G H : Hp) (Q : Res → Ctx → Prop) (R : VK), Stt K B c s G H → t c Q →
  (∀ v x c' G' H', Stt K B (.o none x :: c') (some v :: s) G' H' → Same G G' → Q x c' → R v H') → te s H R
structure DE (X : Cx) (e : Expr) (t : TD) : Prop where
  ex : ∃ te, PE X e te ∧ DEv X.K te t
structure DT (X : Cx) (e : Expr) (t : TB) : Prop where
  ex : ∃ te, PT X e te ∧ DTv X.K te t
structure DW (X : Cx) (e : Expr) (t : TB) : Prop where
  ex : ∃ te, PW X e te ∧ DTv X.K te t
structure DA (X : Cx) (es : List Expr) (t : TL) : Prop where
  ex : ∃ te, PA X es te ∧ DAv X.K te t
/-- a new owned thing -/
structure DO (X : Cx) (e : Expr) (t : TR) : Prop where
  ex : ∃ te, PE X e te ∧ DOv X.K te t

/-! ### what data is: ways of asking that a walk goes through from the left -/
def asI (x : PyData) (Q : Int → Prop) : Prop := match x with
  | .int i => Q i
  | _ => False
def asB (x : PyData) (Q : Bool → Prop) : Prop := match x with
  | .bool i => Q i
  | _ => False
def asS (x : PyData) (Q : Str → Prop) : Prop := match x with
  | .str i => Q i
  | _ => False
def asL (x : PyData) (Q : List PyData → Prop) : Prop := match x with
  | .list i => Q i
  | _ => False
def asT (x : PyData) (Q : List PyData → Prop) : Prop := match x with
  | .tuple i => Q i
  | _ => False
theorem asI_i {i : Int} {Q : Int → Prop} : asI (.int i) Q = Q i := rfl
theorem asB_b {i : Bool} {Q : Bool → Prop} : asB (.bool i) Q = Q i := rfl
theorem asS_s {i : Str} {Q : Str → Prop} : asS (.str i) Q = Q i := rfl
theorem asL_l {i : List PyData} {Q : List PyData → Prop} : asL (.list i) Q = Q i := rfl
theorem asT_t {i : List PyData} {Q : List PyData → Prop} : asT (.tuple i) Q = Q i := rfl
theorem asI_of {x : PyData} {Q : Int → Prop} (h : asI x Q) : ∃ i, x = .int i ∧ Q i := by
  cases x <;> first | exact ⟨_, rfl, h⟩ | exact False.elim h
theorem asB_of {x : PyData} {Q : Bool → Prop} (h : asB x Q) : ∃ i, x = .bool i ∧ Q i := by
  cases x <;> first | exact ⟨_, rfl, h⟩ | exact False.elim h
theorem asS_of {x : PyData} {Q : Str → Prop} (h : asS x Q) : ∃ i, x = .str i ∧ Q i := by
  cases x <;> first | exact ⟨_, rfl, h⟩ | exact False.elim h
theorem asL_of {x : PyData} {Q : List PyData → Prop} (h : asL x Q) : ∃ i, x = .list i ∧ Q i := by
  cases x <;> first | exact ⟨_, rfl, h⟩ | exact False.elim h
theorem asT_of {x : PyData} {Q : List PyData → Prop} (h : asT x Q) : ∃ i, x = .tuple i ∧ Q i := by
  cases x <;> first | exact ⟨_, rfl, h⟩ | exact False.elim h
/-- slot i holds data -/
def slD : Ctx → Nat → (PyData → Prop) → Prop
  | .d x :: _, 0, Q => Q x
  | _ :: c, i + 1, Q => slD c i Q
  | _, _, _ => False
theorem slD_0 {x : PyData} {c : Ctx} {Q : PyData → Prop} : slD (.d x :: c) 0 Q = Q x := rfl
theorem slD_s {x : S} {c : Ctx} {i : Nat} {Q : PyData → Prop} : slD (x :: c) (i + 1) Q = slD c i Q := by cases x <;> rfl
theorem slD_of : ∀ {c : Ctx} {i : Nat} {Q : PyData → Prop}, slD c i Q → ∃ x, c[i]? = some (.d x) ∧ Q x
  | [], 0, _, h => h.elim
  | [], _ + 1, _, h => h.elim
  | .d x :: c, 0, _, h => ⟨x, rfl, h⟩
  | .no :: c, 0, _, h => h.elim
  | .f _ :: c, 0, _, h => h.elim
  | .o _ _ :: c, 0, _, h => h.elim
  | y :: c, i + 1, _, h => by
    rw [slD_s] at h
    obtain ⟨x, e, q⟩ := slD_of h
    exact ⟨x, by simpa using e, q⟩
/-- slot i holds an owned thing -/
def slO : Ctx → Nat → (Option V → Res → Prop) → Prop
  | .o w R :: _, 0, Q => Q w R
  | _ :: c, i + 1, Q => slO c i Q
  | _, _, _ => False
theorem slO_0 {w : Option V} {R : Res} {c : Ctx} {Q : Option V → Res → Prop} : slO (.o w R :: c) 0 Q = Q w R := rfl
theorem slO_s {x : S} {c : Ctx} {i : Nat} {Q : Option V → Res → Prop} : slO (x :: c) (i + 1) Q = slO c i Q := by cases x <;> rfl
theorem slO_of : ∀ {c : Ctx} {i : Nat} {Q : Option V → Res → Prop}, slO c i Q → ∃ w R, c[i]? = some (.o w R) ∧ Q w R
  | [], 0, _, h => h.elim
  | [], _ + 1, _, h => h.elim
  | .o w R :: c, 0, _, h => ⟨w, R, rfl, h⟩
  | .no :: c, 0, _, h => h.elim
  | .f _ :: c, 0, _, h => h.elim
  | .d _ :: c, 0, _, h => h.elim
  | y :: c, i + 1, _, h => by
    rw [slO_s] at h
    obtain ⟨w, R, e, q⟩ := slO_of h
    exact ⟨w, R, by simpa using e, q⟩
/-- an owned thing is a list of known items -/
def asR (R : Res) (Q : List PyData → Prop) : Prop := match R with
  | .lst ds => Q ds
  | _ => False
theorem asR_l {ds : List PyData} {Q : List PyData → Prop} : asR (.lst ds) Q = Q ds := rfl
theorem asR_of {R : Res} {Q : List PyData → Prop} (h : asR R Q) : ∃ ds, R = .lst ds ∧ Q ds := by
  cases R <;> first | exact ⟨_, rfl, h⟩ | exact False.elim h
/-- an item by its place -/
def atD (ds : List PyData) (i : Int) (Q : PyData → Prop) : Prop := ∃ d, atI ds i = some d ∧ Q d
def ixP (n : Nat) (i : Int) (Q : Nat → Prop) : Prop := ∃ k, ixN n i = some k ∧ Q k

/-! ### names, constants -/
def uVar (i : Nat) : TD := fun c Q => slD c i fun x => Q x c
def uC (x : PyData) : TD := fun c Q => Q x c
section
variable {X : Cx} {pos : Pos}
theorem dv (i : Nat) {x : Str} (hN : X.N[i]? = some x := by rfl) (hv : Vis X.env.scope x := by first | exact Or.inl rfl | exact Or.inr (Or.inl rfl) | exact Or.inr (Or.inr rfl)) (hd : (x == ("__debug__" : Str)) = false := by decide)
    (hcd : (x == ("__classdict__" : Str)) = false := by decide) : DE X (.Name x pos) (uVar i) := by
  refine ⟨_, pe_var hN hv hd hcd, fun B c s G H Q R st h k => ?_⟩
  obtain ⟨x, e, q⟩ := slD_of h
  obtain ⟨v, e1, e2⟩ := st.get_d e
  exact ⟨v, e1, k v x c G H st (Same.refl _) e2 q⟩
theorem d_int {i j} : DE X (.Constant (.int i) j pos) (uC (.int i)) := ⟨_, pe_int, fun _ c _ G H _ _ st h k => k _ _ c G H st (Same.refl _) (.int i) h⟩
theorem d_bl {b j} : DE X (.Constant (.bool b) j pos) (uC (.bool b)) := ⟨_, pe_bl, fun _ c _ G H _ _ st h k => k _ _ c G H st (Same.refl _) (.bl b) h⟩
theorem d_non {j} : DE X (.Constant .none j pos) (uC .none) := ⟨_, pe_non, fun _ c _ G H _ _ st h k => k _ _ c G H st (Same.refl _) .non h⟩
theorem d_str {x j} : DE X (.Constant (.str x) j pos) (uC (.str x)) := ⟨_, pe_str, fun _ c _ G H _ _ st h k => k _ _ c G H st (Same.refl _) (.str x) h⟩
/-- a module's text or number -/
theorem d_glob {x : Str} {u : Value} {d : PyData} {v : V} (hg : Gl X x) (hm : X.mg x = some u) (r : RelV v u) (hd : ∀ G, Dp X.K G v d) (hdb : (x == ("__debug__" : Str)) = false := by decide) : DE X (.Name x pos) (uC d) :=
  ⟨_, pe_glob hg hm r hdb, fun _ c _ G H _ _ st h k => k _ _ c G H st (Same.refl _) (hd G) h⟩
/-- an owned expression, frozen -/
def uFz (t : TR) : TD := fun c Q => t c fun R c1 => R.fz fun x => Q x c1
theorem d_fz {e : Expr} {t : TR} (h : DO X e t) : DE X e (uFz t) := by
  obtain ⟨te, he, hv⟩ := h.ex
  refine ⟨te, he, fun B c s G H Q R st q k => hv B c s G H _ R st q fun v x c' G' H' st' e q' => ?_⟩
  obtain ⟨G2, d, a1, a2, a3, a4⟩ := st'.frzR q'
  exact k v d c' G2 H' a1 (e.trans a2) a3 a4

/-! ### operators -/
/-- what a two-place rule asks of data -/
def OpD (K : PySem.W.Frag) (r : R2) (f : PyData → PyData → (PyData → Prop) → Prop) : Prop := ∀ (B : Base) (c : Ctx) (s : L2.St) (G H : Hp) (x y : V) (a b : PyData) (Q : PyData → Prop) (R : VK), Stt K B c s G H → Dp K G x a → Dp K G y b → f a b Q →
  (∀ v d G' H', Stt K B c s G' H' → Same G G' → Dp K G' v d → Q d → R v H') → r x y H R
def u2 (f : PyData → PyData → (PyData → Prop) → Prop) (ta tb : TD) : TD := fun c Q => ta c fun x c1 => tb c1 fun y c2 => f x y fun z => Q z c2
variable {a b : Expr} {ta tb : TD}
theorem two {tea teb : TE} (ha : DEv X.K tea ta) (hb : DEv X.K teb tb) {r : R2} {f : PyData → PyData → (PyData → Prop) → Prop} (hr : OpD X.K r f) : DEv X.K (tOp r tea teb) (u2 f ta tb) := by
  intro B c s G H Q R st q k
  refine ha B c s G H _ _ st q fun v x c1 G1 H1 st1 e1 d1 q1 => ?_
  refine hb B c1 s G1 H1 _ _ st1 q1 fun w y c2 G2 H2 st2 e2 d2 q2 => ?_
  exact hr B c2 s G2 H2 v w x y _ R st2 (dp_mono e2 _ _ d1) d2 q2 fun z d G3 H3 st3 e3 d3 q3 => k z d c2 G3 H3 st3 ((e1.trans e2).trans e3) d3 q3
theorem d_op {op : Operator} {r : R2} {f : PyData → PyData → (PyData → Prop) → Prop} (ho : OpR X (binaryOp op) r) (hr : OpD X.K r f) (ha : DE X a ta) (hb : DE X b tb) : DE X (.BinOp a op b pos) (u2 f ta tb) := by
  obtain ⟨tea, pa, va⟩ := ha.ex
  obtain ⟨teb, pb, vb⟩ := hb.ex
  exact ⟨_, pe_op ho pa pb, two va vb hr⟩
theorem d_cmp {op : CmpOp} {r : R2} {f : PyData → PyData → (PyData → Prop) → Prop} (ho : OpR X (compareOp op) r) (hr : OpD X.K r f) (ha : DE X a ta) (hb : DE X b tb) (hm : behindInMarks op b = false) : DE X (.Compare a [op] [b] pos) (u2 f ta tb) := by
  obtain ⟨tea, pa, va⟩ := ha.ex
  obtain ⟨teb, pb, vb⟩ := hb.ex
  exact ⟨_, pe_cmpR ho pa pb hm, two va vb hr⟩
/-- two ints in, under C -/
def fI (C : Int → Int → Prop) (g : Int → Int → PyData) : PyData → PyData → (PyData → Prop) → Prop := fun x y Q => asI x fun i => asI y fun j => C i j ∧ Q (g i j)
def fI0 (g : Int → Int → PyData) : PyData → PyData → (PyData → Prop) → Prop := fun x y Q => asI x fun i => asI y fun j => Q (g i j)
def vD : PyData → V
  | .bool b => .bl b
  | .int i => .int i
  | .str x => .str x
  | _ => .non
theorem dp_int {K : PySem.W.Frag} {G : Hp} {v : V} {i : Int} (h : Dp K G v (.int i)) : v = .int i := by cases h; rfl
theorem dp_str {K : PySem.W.Frag} {G : Hp} {v : V} {i : Str} (h : Dp K G v (.str i)) : v = .str i := by cases h; rfl
theorem dp_bl {K : PySem.W.Frag} {G : Hp} {v : V} {i : Bool} (h : Dp K G v (.bool i)) : v = .bl i := by cases h; rfl
theorem dp_non {K : PySem.W.Frag} {G : Hp} {v : V} (h : Dp K G v .none) : v = .non := by cases h; rfl
theorem dp_lst {K : PySem.W.Frag} {G : Hp} {v : V} {ds : List PyData} (h : Dp K G v (.list ds)) : ∃ a vs, v = .ref a ∧ SqL K G a vs ∧ DpAll K G vs ds := by cases h; exact ⟨_, _, rfl, by assumption, by assumption⟩
theorem dp_tup {K : PySem.W.Frag} {G : Hp} {v : V} {ds : List PyData} (h : Dp K G v (.tuple ds)) : ∃ a vs, v = .ref a ∧ SqT K G a vs ∧ DpAll K G vs ds := by cases h; exact ⟨_, _, rfl, by assumption, by assumption⟩
theorem op_i {K : PySem.W.Frag} {C : Int → Int → Prop} {g : Int → Int → Int} : OpD K (rI C fun i j => .int (g i j)) (fI C fun i j => .int (g i j)) := by
  intro B c s G H x y a b Q R st dx dy h k
  unfold fI at h
  obtain ⟨i, rfl, h⟩ := asI_of h
  have h : asI b fun j => C i j ∧ Q (.int (g i j)) := h
  obtain ⟨j, rfl, hc, q⟩ := asI_of h
  exact ⟨i, j, dp_int dx, dp_int dy, hc, k _ _ G H st (Same.refl _) (.int _) q⟩
theorem op_i0 {K : PySem.W.Frag} {g : Int → Int → Int} : OpD K (rI0 fun i j => .int (g i j)) (fI0 fun i j => .int (g i j)) := by
  intro B c s G H x y a b Q R st dx dy h k
  unfold fI0 at h
  obtain ⟨i, rfl, h⟩ := asI_of h
  have h : asI b fun j => Q (.int (g i j)) := h
  obtain ⟨j, rfl, q⟩ := asI_of h
  exact ⟨i, j, dp_int dx, dp_int dy, k _ _ G H st (Same.refl _) (.int _) q⟩
theorem op_b0 {K : PySem.W.Frag} {g : Int → Int → Bool} : OpD K (rI0 fun i j => .bl (g i j)) (fI0 fun i j => .bool (g i j)) := by
  intro B c s G H x y a b Q R st dx dy h k
  unfold fI0 at h
  obtain ⟨i, rfl, h⟩ := asI_of h
  have h : asI b fun j => Q (.bool (g i j)) := h
  obtain ⟨j, rfl, q⟩ := asI_of h
  exact ⟨i, j, dp_int dx, dp_int dy, k _ _ G H st (Same.refl _) (.bl _) q⟩
/-- + of ints, of texts -/
def fAdd : PyData → PyData → (PyData → Prop) → Prop := fun x y Q => match x with
  | .int i => asI y fun j => Q (.int (i + j))
  | .str i => asS y fun j => i.length + j.length ≤ sizeLine ∧ Q (.str (i ++ j))
  | _ => False
theorem fAdd_i {i j : Int} {Q : PyData → Prop} : fAdd (.int i) (.int j) Q = Q (.int (i + j)) := rfl
theorem fAdd_s {i j : Str} {Q : PyData → Prop} : fAdd (.str i) (.str j) Q = (i.length + j.length ≤ sizeLine ∧ Q (.str (i ++ j))) := rfl
theorem OpR.or2 {f : Value → Value → Sem Value} {r r' : R2} (h : OpR X f r) (h' : OpR X f r') : OpR X f (fun x y H Q => r x y H Q ∨ r' x y H Q) := fun pins s σ H x y v u Q I r1 r2 hh => hh.elim (h pins s σ H x y v u Q I r1 r2) (h' pins s σ H x y v u Q I r1 r2)
theorem d_add (ha : DE X a ta) (hb : DE X b tb) : DE X (.BinOp a .Add b pos) (u2 fAdd ta tb) := by
  refine d_op (OpR.or2 op_add op_add_str) (fun B c s G H x y a b Q R st dx dy h k => ?_) ha hb
  cases a with
  | int i =>
    obtain ⟨j, rfl, q⟩ := asI_of h
    exact .inl ⟨i, j, dp_int dx, dp_int dy, k _ _ G H st (Same.refl _) (.int _) q⟩
  | str i =>
    obtain ⟨j, rfl, hl, q⟩ := asS_of h
    exact .inr ⟨i, j, dp_str dx, dp_str dy, hl, k _ _ G H st (Same.refl _) (.str _) q⟩
  | none => exact h.elim
  | bool _ => exact h.elim
  | list _ => exact h.elim
  | tuple _ => exact h.elim
  | dict _ => exact h.elim
theorem d_sub (ha : DE X a ta) (hb : DE X b tb) : DE X (.BinOp a .Sub b pos) (u2 (fI0 fun i j => .int (i - j)) ta tb) := d_op op_sub op_i0 ha hb
/-- one factor of at most 64 bits, or both of together less than a million -/
def CMulA (i j : Int) : Prop := CMul i j ∨ CMulW i j
theorem op_mulA : OpR X (binaryOp .Mult) (rI CMulA fun i j => .int (i * j)) := opI fun _ _ _ _ _ _ _ hc q => mul_int q (hc.elim (fun z => z.ok) fun z => z.ok)
theorem d_mul (ha : DE X a ta) (hb : DE X b tb) : DE X (.BinOp a .Mult b pos) (u2 (fI CMulA fun i j => .int (i * j)) ta tb) := d_op op_mulA op_i ha hb
def CDivA (_ j : Int) : Prop := j ≠ 0 ∧ j.natAbs.log2 < 9000
theorem op_fdivA : OpR X (binaryOp .FloorDiv) (rI CDivA fun i j => .int (i.fdiv j)) := opI fun _ _ _ _ _ _ _ hc q => floordiv_int hc.1 q (.inl (PyProof.noPylong_of_log2 hc.2))
theorem d_fdiv (ha : DE X a ta) (hb : DE X b tb) : DE X (.BinOp a .FloorDiv b pos) (u2 (fI CDivA fun i j => .int (i.fdiv j)) ta tb) := d_op op_fdivA op_i ha hb
theorem d_mod (ha : DE X a ta) (hb : DE X b tb) : DE X (.BinOp a .Mod b pos) (u2 (fI (fun _ j => j ≠ 0) fun i j => .int (i.fmod j)) ta tb) := d_op op_modN op_i ha hb
theorem d_pow (ha : DE X a ta) (hb : DE X b tb) : DE X (.BinOp a .Pow b pos) (u2 (fI CPow fun i j => .int (i ^ j.toNat)) ta tb) := d_op op_pow op_i ha hb
theorem d_lt (ha : DE X a ta) (hb : DE X b tb) : DE X (.Compare a [.Lt] [b] pos) (u2 (fI0 fun i j => .bool (decide (i < j))) ta tb) := d_cmp op_lt op_b0 ha hb (nomark _)
theorem d_le (ha : DE X a ta) (hb : DE X b tb) : DE X (.Compare a [.LtE] [b] pos) (u2 (fI0 fun i j => .bool (decide (i ≤ j))) ta tb) := d_cmp op_le op_b0 ha hb (nomark _)
theorem d_gt (ha : DE X a ta) (hb : DE X b tb) : DE X (.Compare a [.Gt] [b] pos) (u2 (fI0 fun i j => .bool (decide (j < i))) ta tb) := d_cmp op_gt op_b0 ha hb (nomark _)
theorem d_ge (ha : DE X a ta) (hb : DE X b tb) : DE X (.Compare a [.GtE] [b] pos) (u2 (fI0 fun i j => .bool (decide (j ≤ i))) ta tb) := d_cmp op_ge op_b0 ha hb (nomark _)
/-- == and != of data at any depth -/
def fEq (neg : Bool) : PyData → PyData → (PyData → Prop) → Prop := fun x y Q => SeqAt.shaped x = true ∧ SeqAt.shaped y = true ∧ Q (.bool (if neg then !PyData.eqv x y else PyData.eqv x y))
theorem d_eq (hu : X.A.units + 64 < cLine) (ha : DE X a ta) (hb : DE X b tb) : DE X (.Compare a [.Eq] [b] pos) (u2 (fEq false) ta tb) := by
  refine d_cmp (op_eqD hu) (fun B c s G H x y a b Q R st dx dy h k => ?_) ha hb (nomark _)
  obtain ⟨s1, s2, q⟩ := h
  exact ⟨a, b, dp_mono st.sub _ _ dx, dp_mono st.sub _ _ dy, s1, s2, k _ _ G H st (Same.refl _) (.bl _) q⟩
theorem d_ne (hu : X.A.units + 64 < cLine) (ha : DE X a ta) (hb : DE X b tb) : DE X (.Compare a [.NotEq] [b] pos) (u2 (fEq true) ta tb) := by
  refine d_cmp (op_neD hu) (fun B c s G H x y a b Q R st dx dy h k => ?_) ha hb (nomark _)
  obtain ⟨s1, s2, q⟩ := h
  exact ⟨a, b, dp_mono st.sub _ _ dx, dp_mono st.sub _ _ dy, s1, s2, k _ _ G H st (Same.refl _) (.bl _) q⟩
/-- is None, is not None -/
def isNo : PyData → Bool
  | .none => true
  | _ => false
theorem isNo_dp {K : PySem.W.Frag} {G : Hp} {v : V} {x : PyData} (h : Dp K G v x) : decide (v = V.non) = isNo x := by cases h <;> rfl
theorem d_isN {pos' : Pos} (ha : DE X a ta) : DE X (.Compare a [.Is] [.Constant .none 0 pos'] pos) (fun c Q => ta c fun x c1 => Q (.bool (isNo x)) c1) := by
  obtain ⟨tea, pa, va⟩ := ha.ex
  refine ⟨_, pe_cmp (pc_isN pa), fun B c s G H Q R st q k => va B c s G H _ _ st q fun v x c1 G1 H1 st1 e1 d1 q1 => ?_⟩
  rw [isNo_dp d1]
  exact k _ _ c1 G1 H1 st1 e1 (.bl _) q1
theorem d_notN {pos' : Pos} (ha : DE X a ta) : DE X (.Compare a [.IsNot] [.Constant .none 0 pos'] pos) (fun c Q => ta c fun x c1 => Q (.bool (!isNo x)) c1) := by
  obtain ⟨tea, pa, va⟩ := ha.ex
  refine ⟨_, pe_cmp (pc_notN pa), fun B c s G H Q R st q k => va B c s G H _ _ st q fun v x c1 G1 H1 st1 e1 d1 q1 => ?_⟩
  rw [isNo_dp d1]
  exact k _ _ c1 G1 H1 st1 e1 (.bl _) q1
theorem d_neg (ha : DE X a ta) : DE X (.UnaryOp .USub a pos) (fun c Q => ta c fun x c1 => asI x fun i => Q (.int (-i)) c1) := by
  obtain ⟨tea, pa, va⟩ := ha.ex
  refine ⟨_, pe_un un_neg pa, fun B c s G H Q R st q k => va B c s G H _ _ st q fun v x c1 G1 H1 st1 e1 d1 q1 => ?_⟩
  obtain ⟨i, rfl, q⟩ := asI_of q1
  exact ⟨i, dp_int d1, k _ _ c1 G1 H1 st1 e1 (.int _) q⟩

/-! ### tests -/
/-- an expression that is a truth -/
def wB (t : TD) : TB := fun c Q => t c fun x c1 => asB x fun b => Q b c1
variable {tA tB' : TB} {rest : List Expr}
theorem tv {e : Expr} {t : TD} (h : DE X e t) (he : ∀ whole, isTrue e X.env whole = (do let v ← whole; standAt e.pos; holding [v] (truthy v)) := by intro _; rfl) : DT X e (wB t) := by
  obtain ⟨te, pe, ve⟩ := h.ex
  refine ⟨_, pt_val pe he, fun B c s G H Q R st q k => ve B c s G H _ _ st q fun v x c1 G1 H1 st1 e1 d1 q1 => ?_⟩
  obtain ⟨b, rfl, q⟩ := asB_of q1
  exact ⟨b, dp_bl d1, k b c1 G1 H1 st1 e1 q⟩
/-- a comparison as a test -/
theorem tc {op : CmpOp} {r : R2} {f : PyData → PyData → (PyData → Prop) → Prop} (ho : OpR X (compareOp op) r) (hr : OpD X.K r f) (ha : DE X a ta) (hb : DE X b tb) (hm : behindInMarks op b = false) : DT X (.Compare a [op] [b] pos) (wB (u2 f ta tb)) := by
  obtain ⟨tea, pa, va⟩ := ha.ex
  obtain ⟨teb, pb, vb⟩ := hb.ex
  refine ⟨_, pt_cmpR ho pa pb hm, fun B c s G H Q R st q k => two va vb hr B c s G H _ _ st q fun v x c1 G1 H1 st1 e1 d1 q1 => ?_⟩
  obtain ⟨b, rfl, q⟩ := asB_of q1
  exact ⟨b, dp_bl d1, k b c1 G1 H1 st1 e1 q⟩
theorem t_lt (ha : DE X a ta) (hb : DE X b tb) : DT X (.Compare a [.Lt] [b] pos) (wB (u2 (fI0 fun i j => .bool (decide (i < j))) ta tb)) := tc op_lt op_b0 ha hb (nomark _)
theorem t_le (ha : DE X a ta) (hb : DE X b tb) : DT X (.Compare a [.LtE] [b] pos) (wB (u2 (fI0 fun i j => .bool (decide (i ≤ j))) ta tb)) := tc op_le op_b0 ha hb (nomark _)
theorem t_gt (ha : DE X a ta) (hb : DE X b tb) : DT X (.Compare a [.Gt] [b] pos) (wB (u2 (fI0 fun i j => .bool (decide (j < i))) ta tb)) := tc op_gt op_b0 ha hb (nomark _)
theorem t_ge (ha : DE X a ta) (hb : DE X b tb) : DT X (.Compare a [.GtE] [b] pos) (wB (u2 (fI0 fun i j => .bool (decide (j ≤ i))) ta tb)) := tc op_ge op_b0 ha hb (nomark _)
theorem opd_eq {K : PySem.W.Frag} : OpD K (rEqD K) (fEq false) := fun B c s G H x y a b Q R st dx dy ⟨s1, s2, q⟩ k => ⟨a, b, dp_mono st.sub _ _ dx, dp_mono st.sub _ _ dy, s1, s2, k _ _ G H st (Same.refl _) (.bl _) q⟩
theorem opd_ne {K : PySem.W.Frag} : OpD K (rNeD K) (fEq true) := fun B c s G H x y a b Q R st dx dy ⟨s1, s2, q⟩ k => ⟨a, b, dp_mono st.sub _ _ dx, dp_mono st.sub _ _ dy, s1, s2, k _ _ G H st (Same.refl _) (.bl _) q⟩
theorem t_eq (hu : X.A.units + 64 < cLine) (ha : DE X a ta) (hb : DE X b tb) : DT X (.Compare a [.Eq] [b] pos) (wB (u2 (fEq false) ta tb)) := tc (op_eqD hu) opd_eq ha hb (nomark _)
theorem t_ne (hu : X.A.units + 64 < cLine) (ha : DE X a ta) (hb : DE X b tb) : DT X (.Compare a [.NotEq] [b] pos) (wB (u2 (fEq true) ta tb)) := tc (op_neD hu) opd_ne ha hb (nomark _)
def wNot (t : TB) : TB := fun c Q => t c fun b c1 => Q (!b) c1
def wAnd (t u : TB) : TB := fun c Q => t c fun b c1 => if b = true then u c1 Q else Q false c1
def wOr (t u : TB) : TB := fun c Q => t c fun b c1 => if b = true then Q true c1 else u c1 Q
theorem t_not (ha : DT X a tA) : DT X (.UnaryOp .Not a pos) (wNot tA) := by
  obtain ⟨te, pe, ve⟩ := ha.ex
  exact ⟨_, pt_not pe, fun B c s G H Q R st q k => ve B c s G H _ _ st q fun b c1 G1 H1 st1 e1 q1 => k _ c1 G1 H1 st1 e1 q1⟩
theorem DW.dt {e : Expr} {t : TB} (h : DW X e t) : DT X e t := let ⟨te, p, v⟩ := h.ex; ⟨te, p.pt, v⟩
theorem w_and1 (ha : DT X a tA) : DW X (.BoolOp .And [a] pos) tA := let ⟨te, p, v⟩ := ha.ex; ⟨te, pw_and1 p, v⟩
theorem w_or1 (ha : DT X a tA) : DW X (.BoolOp .Or [a] pos) tA := let ⟨te, p, v⟩ := ha.ex; ⟨te, pw_or1 p, v⟩
theorem wand_v {t1 t2 : TT} (v1 : DTv X.K t1 tA) (v2 : DTv X.K t2 tB') : DTv X.K (L2.tAnd t1 t2) (wAnd tA tB') := fun B c s G H Q R st q k => v1 B c s G H _ _ st q fun b c1 G1 H1 st1 e1 q1 => by
  cases b with
  | true =>
    rw [if_pos rfl] at q1 ⊢
    exact v2 B c1 s G1 H1 _ _ st1 q1 fun b2 c2 G2 H2 st2 e2 q2 => k b2 c2 G2 H2 st2 (e1.trans e2) q2
  | false =>
    rw [if_neg Bool.false_ne_true] at q1 ⊢
    exact k _ c1 G1 H1 st1 e1 q1
theorem wor_v {t1 t2 : TT} (v1 : DTv X.K t1 tA) (v2 : DTv X.K t2 tB') : DTv X.K (L2.tOr t1 t2) (wOr tA tB') := fun B c s G H Q R st q k => v1 B c s G H _ _ st q fun b c1 G1 H1 st1 e1 q1 => by
  cases b with
  | false =>
    rw [if_neg Bool.false_ne_true] at q1 ⊢
    exact v2 B c1 s G1 H1 _ _ st1 q1 fun b2 c2 G2 H2 st2 e2 q2 => k b2 c2 G2 H2 st2 (e1.trans e2) q2
  | true =>
    rw [if_pos rfl] at q1 ⊢
    exact k _ c1 G1 H1 st1 e1 q1
theorem w_and (ha : DT X a tA) (hb : DW X (.BoolOp .And (b :: rest) pos) tB') : DW X (.BoolOp .And (a :: b :: rest) pos) (wAnd tA tB') :=
  let ⟨_, p1, v1⟩ := ha.ex; let ⟨_, p2, v2⟩ := hb.ex; ⟨_, pw_and p1 p2, wand_v v1 v2⟩
theorem w_or (ha : DT X a tA) (hb : DW X (.BoolOp .Or (b :: rest) pos) tB') : DW X (.BoolOp .Or (a :: b :: rest) pos) (wOr tA tB') :=
  let ⟨_, p1, v1⟩ := ha.ex; let ⟨_, p2, v2⟩ := hb.ex; ⟨_, pw_or p1 p2, wor_v v1 v2⟩
/-- and, or, not as values -/
def uAnd (ta tb : TD) : TD := fun c Q => ta c fun x c1 => asB x fun b => if b = true then tb c1 Q else Q (.bool false) c1
def uOr (ta tb : TD) : TD := fun c Q => ta c fun x c1 => asB x fun b => if b = true then Q (.bool true) c1 else tb c1 Q
def uNot (ta : TD) : TD := fun c Q => ta c fun x c1 => asB x fun b => Q (.bool (!b)) c1
theorem d_one {op} {t : TD} (h : DE X a t) : DE X (.BoolOp op [a] pos) t := let ⟨te, p, v⟩ := h.ex; ⟨te, pe_one p, v⟩
theorem d_and (ha : DE X a ta) (hb : DE X (.BoolOp .And (b :: rest) pos) tb) : DE X (.BoolOp .And (a :: b :: rest) pos) (uAnd ta tb) := by
  obtain ⟨tea, pa, va⟩ := ha.ex
  obtain ⟨teb, pb, vb⟩ := hb.ex
  refine ⟨_, pe_and pa pb, fun B c s G H Q R st q k => va B c s G H _ _ st q fun v x c1 G1 H1 st1 e1 d1 q1 => ?_⟩
  obtain ⟨b, rfl, q⟩ := asB_of q1
  refine ⟨b, dp_bl d1, ?_⟩
  cases b with
  | true =>
    rw [if_pos rfl] at q ⊢
    exact vb B c1 s G1 H1 _ _ st1 q fun v2 x2 c2 G2 H2 st2 e2 d2 q2 => k v2 x2 c2 G2 H2 st2 (e1.trans e2) d2 q2
  | false =>
    rw [if_neg Bool.false_ne_true] at q ⊢
    exact k _ _ c1 G1 H1 st1 e1 (.bl _) q
theorem d_or (ha : DE X a ta) (hb : DE X (.BoolOp .Or (b :: rest) pos) tb) : DE X (.BoolOp .Or (a :: b :: rest) pos) (uOr ta tb) := by
  obtain ⟨tea, pa, va⟩ := ha.ex
  obtain ⟨teb, pb, vb⟩ := hb.ex
  refine ⟨_, pe_or pa pb, fun B c s G H Q R st q k => va B c s G H _ _ st q fun v x c1 G1 H1 st1 e1 d1 q1 => ?_⟩
  obtain ⟨b, rfl, q⟩ := asB_of q1
  refine ⟨b, dp_bl d1, ?_⟩
  cases b with
  | false =>
    rw [if_neg Bool.false_ne_true] at q ⊢
    exact vb B c1 s G1 H1 _ _ st1 q fun v2 x2 c2 G2 H2 st2 e2 d2 q2 => k v2 x2 c2 G2 H2 st2 (e1.trans e2) d2 q2
  | true =>
    rw [if_pos rfl] at q ⊢
    exact k _ _ c1 G1 H1 st1 e1 (.bl _) q
theorem d_not (ha : DE X a ta) : DE X (.UnaryOp .Not a pos) (uNot ta) := by
  obtain ⟨tea, pa, va⟩ := ha.ex
  refine ⟨_, pe_not pa, fun B c s G H Q R st q k => va B c s G H _ _ st q fun v x c1 G1 H1 st1 e1 d1 q1 => ?_⟩
  obtain ⟨b, rfl, q⟩ := asB_of q1
  exact ⟨b, dp_bl d1, k _ _ c1 G1 H1 st1 e1 (.bl _) q⟩
def uIf (t : TB) (ta tb : TD) : TD := fun c Q => t c fun b c1 => if b = true then ta c1 Q else tb c1 Q
theorem d_if {e : Expr} (hc : DT X e tA) (ha : DE X a ta) (hb : DE X b tb) : DE X (.IfExp e a b pos) (uIf tA ta tb) := by
  obtain ⟨tec, pc, vc⟩ := hc.ex
  obtain ⟨tea, pa, va⟩ := ha.ex
  obtain ⟨teb, pb, vb⟩ := hb.ex
  refine ⟨_, pe_ifExp pc pa pb, fun B c s G H Q R st q k => vc B c s G H _ _ st q fun b c1 G1 H1 st1 e1 q1 => ?_⟩
  cases b with
  | true =>
    rw [if_pos rfl] at q1 ⊢
    exact va B c1 s G1 H1 _ _ st1 q1 fun v2 x2 c2 G2 H2 st2 e2 d2 q2 => k v2 x2 c2 G2 H2 st2 (e1.trans e2) d2 q2
  | false =>
    rw [if_neg Bool.false_ne_true] at q1 ⊢
    exact vb B c1 s G1 H1 _ _ st1 q1 fun v2 x2 c2 G2 H2 st2 e2 d2 q2 => k v2 x2 c2 G2 H2 st2 (e1.trans e2) d2 q2

/-! ### argument lists, displays, items -/
def aNil : TL := fun c Q => Q [] c
def aCons (ta : TD) (tr : TL) : TL := fun c Q => ta c fun x c1 => tr c1 fun xs c2 => Q (x :: xs) c2
theorem a_nil : DA X [] aNil := ⟨_, pa_nil, fun B c s G H Q R st q k => k [] [] c G H st (Same.refl _) .nil q⟩
theorem a_cons {es : List Expr} {tr : TL} (ha : DE X a ta) (hr : DA X es tr) (hs : starEach (a :: es) X.env = (false, eval a X.env) :: starEach es X.env := by rfl) : DA X (a :: es) (aCons ta tr) := by
  obtain ⟨tea, pa, va⟩ := ha.ex
  obtain ⟨ter, pr, vr⟩ := hr.ex
  refine ⟨_, pa_cons pa pr hs, fun B c s G H Q R st q k => va B c s G H _ _ st q fun v x c1 G1 H1 st1 e1 d1 q1 => ?_⟩
  exact vr B c1 s G1 H1 _ _ st1 q1 fun vs xs c2 G2 H2 st2 e2 d2 q2 => k _ _ c2 G2 H2 st2 (e1.trans e2) (.cons (dp_mono e2 _ _ d1) d2) q2
variable {es : List Expr} {tl : TL}
def uTup (t : TL) : TD := fun c Q => t c fun xs c1 => xs.length ≤ sizeLine ∧ Q (.tuple xs) c1
theorem d_tup {x1} (h : DA X es tl) : DE X (.Tuple es x1 pos) (uTup tl) := by
  obtain ⟨te, p, v⟩ := h.ex
  refine ⟨_, pe_tup p, fun B c s G H Q R st q k => v B c s G H _ _ st q fun vs xs c1 G1 H1 st1 e1 d1 q1 => ?_⟩
  refine ⟨by rw [dpa_len d1]; exact q1.1, fun p hp => ?_⟩
  obtain ⟨st2, e2⟩ := st1.laid (o := .tup vs) hp
  exact k _ _ c1 _ _ st2 (e1.trans e2) (.tup (.inl (.inl upd_same)) (dpa_mono e2 _ _ d1)) q1.2
def oLst (t : TL) : TR := fun c Q => t c fun xs c1 => xs.length ≤ sizeLine ∧ Q (.lst xs) c1
theorem o_lst (h : DA X es tl) : DO X (.List es pos) (oLst tl) := by
  obtain ⟨te, p, v⟩ := h.ex
  refine ⟨_, pe_lst p, fun B c s G H Q R st q k => v B c s G H _ _ st q fun vs xs c1 G1 H1 st1 e1 d1 q1 => ?_⟩
  refine ⟨by rw [dpa_len d1]; exact q1.1, fun p hp => ?_⟩
  exact k _ _ c1 _ _ (st1.laidL hp d1) e1 q1.2
/-- xs[i] of data: lists, tuples, texts -/
def ixD (x : PyData) (i : Int) (Q : PyData → Prop) : Prop := match x with
  | .list ds => atD ds i Q
  | .tuple ds => atD ds i Q
  | .str z => ∃ n, z.length ≤ sizeLine ∧ atI z.cps.toList i = some n ∧ Q (.str ⟨#[n]⟩)
  | _ => False
theorem ixD_l {ds : List PyData} {i : Int} {Q : PyData → Prop} : ixD (.list ds) i Q = atD ds i Q := rfl
theorem ixD_t {ds : List PyData} {i : Int} {Q : PyData → Prop} : ixD (.tuple ds) i Q = atD ds i Q := rfl
theorem ixD_s {z : Str} {i : Int} {Q : PyData → Prop} : ixD (.str z) i Q = ∃ n, z.length ≤ sizeLine ∧ atI z.cps.toList i = some n ∧ Q (.str ⟨#[n]⟩) := rfl
def fIx : PyData → PyData → (PyData → Prop) → Prop := fun x y Q => asI y fun i => ixD x i Q
theorem atI_dp {K : PySem.W.Frag} {G : Hp} {vs : List V} {ds : List PyData} {i : Int} {d : PyData} (h : DpAll K G vs ds) (e : atI ds i = some d) : ∃ v, atI vs i = some v ∧ Dp K G v d := by
  unfold atI at e ⊢
  rw [dpa_len h]
  cases q : ixN ds.length i with
  | none => rw [q] at e; cases e
  | some j =>
    rw [q] at e
    exact dpa_get h e
theorem d_ix (hs : PlainIx b) (ha : DE X a ta) (hb : DE X b tb) : DE X (.Subscript a b pos) (u2 fIx ta tb) := by
  obtain ⟨tea, pa, va⟩ := ha.ex
  obtain ⟨teb, pb, vb⟩ := hb.ex
  refine ⟨_, pe_ix ix_seq pa pb hs, two va vb fun B c s G H x y a b Q R st dx dy h k => ?_⟩
  unfold fIx at h
  obtain ⟨i, rfl, h⟩ := asI_of h
  cases a with
  | list ds =>
    obtain ⟨d, e, q⟩ := h
    obtain ⟨p, vs, rfl, h1, h2⟩ := dp_lst dx
    obtain ⟨v, e2, d2⟩ := atI_dp h2 e
    exact .inl ⟨p, vs, i, v, rfl, dp_int dy, Same.seq st.sub h1, e2, k v d G H st (Same.refl _) d2 q⟩
  | tuple ds =>
    obtain ⟨d, e, q⟩ := h
    obtain ⟨p, vs, rfl, h1, h2⟩ := dp_tup dx
    obtain ⟨v, e2, d2⟩ := atI_dp h2 e
    exact .inr (.inl ⟨p, vs, i, v, rfl, dp_int dy, same_t st.sub h1, e2, k v d G H st (Same.refl _) d2 q⟩)
  | str z =>
    obtain ⟨n, hl, e, q⟩ := h
    exact .inr (.inr ⟨z, i, n, dp_str dx, dp_int dy, hl, e, k _ _ G H st (Same.refl _) (.str _) q⟩)
  | none => exact h.elim
  | bool _ => exact h.elim
  | int _ => exact h.elim
  | dict _ => exact h.elim
/-- xs[i], xs an owned list in slot j -/
def uIxO (j : Nat) (tb : TD) : TD := fun c Q => slO c j fun _ _ => tb c fun y c1 => slO c1 j fun _ R => asR R fun ds => asI y fun i => atD ds i fun d => Q d c1
theorem Stt.own_at {K : PySem.W.Frag} {B : Base} {c : Ctx} {s : L2.St} {G H : Hp} (st : Stt K B c s G H) {j : Nat} {w : Option V} {R : Res} (e : c[j]? = some (.o w R)) : ∃ v, s[j]? = some (some v) := by
  obtain ⟨A, r, w'⟩ := st.ex
  obtain ⟨v, _, h, _⟩ := r.focus w'.nd e
  exact ⟨v, h⟩
theorem d_ixO (j : Nat) {x : Str} {pos' : Pos} (hs : PlainIx b) (hb : DE X b tb) (hN : X.N[j]? = some x := by rfl) (hv : Vis X.env.scope x := by first | exact Or.inl rfl | exact Or.inr (Or.inl rfl) | exact Or.inr (Or.inr rfl)) (hd : (x == ("__debug__" : Str)) = false := by decide)
    (hcd : (x == ("__classdict__" : Str)) = false := by decide) : DE X (.Subscript (.Name x pos') b pos) (uIxO j tb) := by
  obtain ⟨teb, pb, vb⟩ := hb.ex
  refine ⟨_, pe_ix ix_seq (pe_var hN hv hd hcd) pb hs, fun B c s G H Q R st q k => ?_⟩
  obtain ⟨w0, R0, e0, q⟩ := slO_of q
  obtain ⟨w, e⟩ := st.own_at e0
  refine ⟨w, e, vb B c s G H _ _ st q fun u y c1 G1 H1 st1 e1 d1 q1 => ?_⟩
  obtain ⟨wo, R1, h1, q2⟩ := slO_of q1
  obtain ⟨ds, rfl, q3⟩ := asR_of q2
  obtain ⟨i, rfl, q4⟩ := asI_of q3
  obtain ⟨d, h2, h3⟩ := q4
  obtain ⟨p, vs, g1, g2, g3, _⟩ := st1.own h1
  rw [e] at g1
  cases g1
  obtain ⟨v2, e2, d2⟩ := atI_dp g3 h2
  exact .inl ⟨p, vs, i, v2, rfl, dp_int d1, SqL.of g2, e2, k v2 d c1 G1 H1 st1 e1 d2 h3⟩
/-- the name of an owned thing, its value -/
def uOwn (j : Nat) (f : Res → (PyData → Prop) → Prop) : TD := fun c Q => slO c j fun _ R => f R fun d => Q d c
/-- a built-in called with data, its answer data; its answer a new owned thing -/
def CallD (K : PySem.W.Frag) (r : List V → Hp → VK → Prop) (f : List PyData → (PyData → Prop) → Prop) : Prop := ∀ (B : Base) (c : Ctx) (s : L2.St) (G H : Hp) (vs : List V) (xs : List PyData) (Q : PyData → Prop) (R : VK), Stt K B c s G H → DpAll K G vs xs → f xs Q →
  (∀ v d G' H', Stt K B c s G' H' → Same G G' → Dp K G' v d → Q d → R v H') → r vs H R
def CallO (K : PySem.W.Frag) (r : List V → Hp → VK → Prop) (f : List PyData → (Res → Prop) → Prop) : Prop := ∀ (B : Base) (c : Ctx) (s : L2.St) (G H : Hp) (vs : List V) (xs : List PyData) (Q : Res → Prop) (R : VK), Stt K B c s G H → DpAll K G vs xs → f xs Q →
  (∀ v d G' H', Stt K B (.o none d :: c) (some v :: s) G' H' → Same G G' → Q d → R v H') → r vs H R
def uCB (f : List PyData → (PyData → Prop) → Prop) (t : TL) : TD := fun c Q => t c fun xs c1 => f xs fun z => Q z c1
def oCB (f : List PyData → (Res → Prop) → Prop) (t : TL) : TR := fun c Q => t c fun xs c1 => f xs fun z => Q z c1
variable {id T : String} {r : List V → Hp → VK → Prop} {f : List PyData → (PyData → Prop) → Prop} {fo : List PyData → (Res → Prop) → Prop} {x : Str} {p : Pos}
theorem d_callB (hc : CallR X (.builtin id) r) (hr : CallD X.K r f) (hm : X.mg x = none) (hv : bootBuiltins x = some (.builtin id)) (ha : DA X (a :: es) tl) (hg : Gl X x := by rfl) (hn : x ≠ "__name__" := by decide) (hdb : (x == ("__debug__" : Str)) = false := by decide)
    (he : starEach (a :: es) X.env = (false, eval a X.env) :: starEach es X.env := by rfl) (hpl : (backTo pos (starEach es X.env)).any (·.1) = false := by rfl) : DE X (.Call (.Name x p) (a :: es) [] pos) (uCB f tl) := by
  obtain ⟨tea, pa, va⟩ := ha.ex
  refine ⟨_, pe_callB hc hg hm hv pa hn hdb he hpl, fun B c s G H Q R st q k => va B c s G H _ _ st q fun vs xs c1 G1 H1 st1 e1 d1 q1 => ?_⟩
  exact hr B c1 s G1 H1 vs xs _ R st1 d1 q1 fun v d G2 H2 st2 e2 d2 q2 => k v d c1 G2 H2 st2 (e1.trans e2) d2 q2
theorem d_callTy (hc : CallR X (.type T) r) (hr : CallD X.K r f) (hm : X.mg x = none) (hv : bootBuiltins x = some (.type T)) (ha : DA X (a :: es) tl) (hg : Gl X x := by rfl) (hn : x ≠ "__name__" := by decide) (hdb : (x == ("__debug__" : Str)) = false := by decide)
    (he : starEach (a :: es) X.env = (false, eval a X.env) :: starEach es X.env := by rfl) (hpl : (backTo pos (starEach es X.env)).any (·.1) = false := by rfl) : DE X (.Call (.Name x p) (a :: es) [] pos) (uCB f tl) := by
  obtain ⟨tea, pa, va⟩ := ha.ex
  refine ⟨_, pe_callTy hc hg hm hv pa hn hdb he hpl, fun B c s G H Q R st q k => va B c s G H _ _ st q fun vs xs c1 G1 H1 st1 e1 d1 q1 => ?_⟩
  exact hr B c1 s G1 H1 vs xs _ R st1 d1 q1 fun v d G2 H2 st2 e2 d2 q2 => k v d c1 G2 H2 st2 (e1.trans e2) d2 q2
theorem o_callB (hc : CallR X (.builtin id) r) (hr : CallO X.K r fo) (hm : X.mg x = none) (hv : bootBuiltins x = some (.builtin id)) (ha : DA X (a :: es) tl) (hg : Gl X x := by rfl) (hn : x ≠ "__name__" := by decide) (hdb : (x == ("__debug__" : Str)) = false := by decide)
    (he : starEach (a :: es) X.env = (false, eval a X.env) :: starEach es X.env := by rfl) (hpl : (backTo pos (starEach es X.env)).any (·.1) = false := by rfl) : DO X (.Call (.Name x p) (a :: es) [] pos) (oCB fo tl) := by
  obtain ⟨tea, pa, va⟩ := ha.ex
  refine ⟨_, pe_callB hc hg hm hv pa hn hdb he hpl, fun B c s G H Q R st q k => va B c s G H _ _ st q fun vs xs c1 G1 H1 st1 e1 d1 q1 => ?_⟩
  exact hr B c1 s G1 H1 vs xs _ R st1 d1 q1 fun v d G2 H2 st2 e2 q2 => k v d c1 G2 H2 st2 (e1.trans e2) q2
theorem o_callTy (hc : CallR X (.type T) r) (hr : CallO X.K r fo) (hm : X.mg x = none) (hv : bootBuiltins x = some (.type T)) (ha : DA X (a :: es) tl) (hg : Gl X x := by rfl) (hn : x ≠ "__name__" := by decide) (hdb : (x == ("__debug__" : Str)) = false := by decide)
    (he : starEach (a :: es) X.env = (false, eval a X.env) :: starEach es X.env := by rfl) (hpl : (backTo pos (starEach es X.env)).any (·.1) = false := by rfl) : DO X (.Call (.Name x p) (a :: es) [] pos) (oCB fo tl) := by
  obtain ⟨tea, pa, va⟩ := ha.ex
  refine ⟨_, pe_callTy hc hg hm hv pa hn hdb he hpl, fun B c s G H Q R st q k => va B c s G H _ _ st q fun vs xs c1 G1 H1 st1 e1 d1 q1 => ?_⟩
  exact hr B c1 s G1 H1 vs xs _ R st1 d1 q1 fun v d G2 H2 st2 e2 q2 => k v d c1 G2 H2 st2 (e1.trans e2) q2
theorem dpa_1 {K : PySem.W.Frag} {G : Hp} {vs : List V} {x : PyData} (h : DpAll K G vs [x]) : ∃ v, vs = [v] ∧ Dp K G v x := by
  cases h with
  | cons h1 h2 => cases h2; exact ⟨_, rfl, h1⟩
theorem dpa_2 {K : PySem.W.Frag} {G : Hp} {vs : List V} {x y : PyData} (h : DpAll K G vs [x, y]) : ∃ v w, vs = [v, w] ∧ Dp K G v x ∧ Dp K G w y := by
  cases h with
  | cons h1 h2 =>
    obtain ⟨w, rfl, h3⟩ := dpa_1 h2
    exact ⟨_, w, rfl, h1, h3⟩
/-- len(e) of data -/
def fLen1 (x : PyData) (Q : PyData → Prop) : Prop := match x with
  | .list ds => Q (.int ds.length)
  | .tuple ds => Q (.int ds.length)
  | .str z => z.length ≤ sizeLine ∧ Q (.int z.length)
  | _ => False
def arg1 (xs : List PyData) (Q : PyData → Prop) : Prop := match xs with
  | [x] => Q x
  | _ => False
def arg2 (xs : List PyData) (Q : PyData → PyData → Prop) : Prop := match xs with
  | [x, y] => Q x y
  | _ => False
theorem arg1_1 {x : PyData} {Q : PyData → Prop} : arg1 [x] Q = Q x := rfl
theorem arg2_2 {x y : PyData} {Q : PyData → PyData → Prop} : arg2 [x, y] Q = Q x y := rfl
theorem arg1_of {xs : List PyData} {Q : PyData → Prop} (h : arg1 xs Q) : ∃ x, xs = [x] ∧ Q x := by
  match xs, h with
  | [x], h => exact ⟨x, rfl, h⟩
  | [], h => exact False.elim h
  | _ :: _ :: _, h => exact False.elim h
theorem arg2_of {xs : List PyData} {Q : PyData → PyData → Prop} (h : arg2 xs Q) : ∃ x y, xs = [x, y] ∧ Q x y := by
  match xs, h with
  | [x, y], h => exact ⟨x, y, rfl, h⟩
  | [], h => exact False.elim h
  | [_], h => exact False.elim h
  | _ :: _ :: _ :: _, h => exact False.elim h
theorem fLen1_l {ds : List PyData} {Q : PyData → Prop} : fLen1 (.list ds) Q = Q (.int ds.length) := rfl
theorem fLen1_t {ds : List PyData} {Q : PyData → Prop} : fLen1 (.tuple ds) Q = Q (.int ds.length) := rfl
theorem fLen1_s {z : Str} {Q : PyData → Prop} : fLen1 (.str z) Q = (z.length ≤ sizeLine ∧ Q (.int z.length)) := rfl
def fLen (xs : List PyData) (Q : PyData → Prop) : Prop := arg1 xs fun x => fLen1 x Q
theorem d_len (hm : X.mg "len" = none) (ha : DA X (a :: []) tl) (hg : Gl X "len" := by rfl) (he : starEach (a :: []) X.env = (false, eval a X.env) :: starEach [] X.env := by rfl) (hpl : (backTo pos (starEach [] X.env)).any (·.1) = false := by rfl) : DE X (.Call (.Name "len" p) (a :: []) [] pos) (uCB fLen tl) := by
  refine d_callB (CallR.or call_len_seq call_len_str) (fun B c s G H vs xs Q R st da h k => ?_) hm boot_len ha hg (by decide) (by decide) he hpl
  unfold fLen at h
  obtain ⟨x, rfl, h⟩ := arg1_of h
  obtain ⟨v, rfl, d1⟩ := dpa_1 da
  cases x with
  | list ds =>
    obtain ⟨p, vs, rfl, h1, h2⟩ := dp_lst d1
    refine .inl ⟨p, vs, rfl, .inl (Same.seq st.sub h1), ?_⟩
    rw [dpa_len h2]
    exact k _ _ G H st (Same.refl _) (.int _) h
  | tuple ds =>
    obtain ⟨p, vs, rfl, h1, h2⟩ := dp_tup d1
    refine .inl ⟨p, vs, rfl, .inr (same_t st.sub h1), ?_⟩
    rw [dpa_len h2]
    exact k _ _ G H st (Same.refl _) (.int _) h
  | str z =>
    cases d1
    exact .inr ⟨z, rfl, h.1, k _ _ G H st (Same.refl _) (.int _) h.2⟩
  | none => exact h.elim
  | bool _ => exact h.elim
  | int _ => exact h.elim
  | dict _ => exact h.elim
def fLenO : Res → (PyData → Prop) → Prop
  | .lst ds, Q => Q (.int ds.length)
  | .lstP P, Q => ∀ ds, P ds → Q (.int ds.length)
  | _, _ => False
theorem d_lenO (j : Nat) {x : Str} {p pos' : Pos} (hm : X.mg "len" = none) (hg : Gl X "len" := by rfl) (hN : X.N[j]? = some x := by rfl) (hv : Vis X.env.scope x := by first | exact Or.inl rfl | exact Or.inr (Or.inl rfl) | exact Or.inr (Or.inr rfl)) (hd : (x == ("__debug__" : Str)) = false := by decide)
    (hcd : (x == ("__classdict__" : Str)) = false := by decide) : DE X (.Call (.Name "len" p) [.Name x pos'] [] pos) (uOwn j fLenO) := by
  refine ⟨_, pe_callB call_len_seq hg hm boot_len (pa_cons (pe_var hN hv hd hcd) pa_nil), fun B c s G H Q R st q k => ?_⟩
  obtain ⟨w, R0, e0, q⟩ := slO_of q
  cases R0 with
  | lst ds =>
    obtain ⟨p, vs, g1, g2, g3, _⟩ := st.own e0
    refine ⟨_, g1, p, vs, rfl, .inl (SqL.of g2), ?_⟩
    rw [dpa_len g3]
    exact k _ _ c G H st (Same.refl _) (.int _) q
  | lstP P =>
    obtain ⟨ds, hP, st2⟩ := st.open_ e0
    obtain ⟨p, vs, g1, g2, g3, _⟩ := st2.own (j := j) (wo := w) (ds := ds) (by rw [List.getElem?_set_self (List.getElem?_eq_some_iff.mp e0).1])
    refine ⟨_, g1, p, vs, rfl, .inl (SqL.of g2), ?_⟩
    rw [dpa_len g3]
    exact k _ _ c G H st (Same.refl _) (.int _) (q ds hP)
  | gen _ => exact q.elim
def fAbs (xs : List PyData) (Q : PyData → Prop) : Prop := arg1 xs fun x => asI x fun i => Q (.int (if i < 0 then -i else i))
theorem d_abs (hm : X.mg "abs" = none) (ha : DA X (a :: []) tl) (hg : Gl X "abs" := by rfl) (he : starEach (a :: []) X.env = (false, eval a X.env) :: starEach [] X.env := by rfl) (hpl : (backTo pos (starEach [] X.env)).any (·.1) = false := by rfl) : DE X (.Call (.Name "abs" p) (a :: []) [] pos) (uCB fAbs tl) := by
  refine d_callB call_abs (fun B c s G H vs xs Q R st da h k => ?_) hm (by decide +kernel) ha hg (by decide) (by decide) he hpl
  unfold fAbs at h
  obtain ⟨x, rfl, h⟩ := arg1_of h
  obtain ⟨i, rfl, q⟩ := asI_of h
  obtain ⟨v, rfl, d1⟩ := dpa_1 da
  cases d1
  exact ⟨i, rfl, k _ _ G H st (Same.refl _) (.int _) q⟩

/-! ### isinstance of data -/
def tyD : PyData → Value
  | .none => .type "NoneType"
  | .bool _ => .type "bool"
  | .int _ => .type "int"
  | .str _ => .type "str"
  | .list _ => .type "list"
  | .tuple _ => .type "tuple"
  | .dict _ => .type "dict"
theorem tyX_of {K : PySem.W.Frag} {G H : Hp} (e : Same G H) : ∀ {v : V} {x : PyData}, Dp K G v x → TyX K H v (tyD x) := by
  intro v x h
  cases h with
  | non => exact .base .non
  | bl b => exact .base (.bl b)
  | int i => exact .base (.int i)
  | str z => exact .base (.str z)
  | lst hs _ =>
    rcases hs with (h | ⟨o, h⟩) | ⟨o, its, n, h1, h2, _⟩
    · exact .base (.lst (e _ _ h))
    · exact .base (.frz (e _ _ h))
    · exact .kList h1 h2
  | tup hs _ =>
    rcases hs with (h | ⟨o, h⟩) | ⟨o, its, n, h1, h2, _⟩
    · exact .base (.tup (e _ _ h))
    · exact .fTuple (e _ _ h)
    · exact .kTuple h1 h2
/-- whether data is of a built-in class -/
def isIntD : PyData → Bool
  | .int _ => true
  | .bool _ => true
  | _ => false
def isBoolD : PyData → Bool
  | .bool _ => true
  | _ => false
def isStrD : PyData → Bool
  | .str _ => true
  | _ => false
def isListD : PyData → Bool
  | .list _ => true
  | _ => false
def isTupD : PyData → Bool
  | .tuple _ => true
  | _ => false
section
variable {b : Bool} {i : Int} {z : Str} {ds : List PyData}
theorem isI_n : isIntD .none = false := rfl
theorem isI_b : isIntD (.bool b) = true := rfl
theorem isI_i : isIntD (.int i) = true := rfl
theorem isI_s : isIntD (.str z) = false := rfl
theorem isI_l : isIntD (.list ds) = false := rfl
theorem isI_t : isIntD (.tuple ds) = false := rfl
theorem isB_n : isBoolD .none = false := rfl
theorem isB_b : isBoolD (.bool b) = true := rfl
theorem isB_i : isBoolD (.int i) = false := rfl
theorem isB_s : isBoolD (.str z) = false := rfl
theorem isB_l : isBoolD (.list ds) = false := rfl
theorem isB_t : isBoolD (.tuple ds) = false := rfl
theorem isS_n : isStrD .none = false := rfl
theorem isS_b : isStrD (.bool b) = false := rfl
theorem isS_i : isStrD (.int i) = false := rfl
theorem isS_s : isStrD (.str z) = true := rfl
theorem isS_l : isStrD (.list ds) = false := rfl
theorem isS_t : isStrD (.tuple ds) = false := rfl
theorem isL_n : isListD .none = false := rfl
theorem isL_b : isListD (.bool b) = false := rfl
theorem isL_i : isListD (.int i) = false := rfl
theorem isL_s : isListD (.str z) = false := rfl
theorem isL_l : isListD (.list ds) = true := rfl
theorem isL_t : isListD (.tuple ds) = false := rfl
theorem isT_n : isTupD .none = false := rfl
theorem isT_b : isTupD (.bool b) = false := rfl
theorem isT_i : isTupD (.int i) = false := rfl
theorem isT_s : isTupD (.str z) = false := rfl
theorem isT_l : isTupD (.list ds) = false := rfl
theorem isT_t : isTupD (.tuple ds) = true := rfl
theorem isN_n : isNo .none = true := rfl
theorem isN_b : isNo (.bool b) = false := rfl
theorem isN_i : isNo (.int i) = false := rfl
theorem isN_s : isNo (.str z) = false := rfl
theorem isN_l : isNo (.list ds) = false := rfl
theorem isN_t : isNo (.tuple ds) = false := rfl
end
theorem d_isi {p2 : Pos} {T : Str} {n : String} (hm : X.mg "isinstance" = none) (hT : X.mg T = none) (hv : bootBuiltins T = some (.type n)) (ha : DE X a ta) {fi : PyData → Bool} (hk : ∀ x : PyData, (∀ kv, x ≠ .dict kv) → PySem.W.kitOne X.K (tyD x) (.type n) = some (fi x)) (hg : Gl X "isinstance" := by rfl) (hg2 : Gl X T := by rfl)
    (h1 : T ≠ "__name__" := by decide) (h2 : (T == ("__debug__" : Str)) = false := by decide) (he : starEach (a :: [.Name T p2]) X.env = (false, eval a X.env) :: starEach [.Name T p2] X.env := by rfl) (hpl : (backTo pos (starEach [.Name T p2] X.env)).any (·.1) = false := by rfl) :
    DE X (.Call (.Name "isinstance" p) [a, .Name T p2] [] pos) (fun c Q => ta c fun x c1 => Q (.bool (fi x)) c1) := by
  obtain ⟨tea, pa, va⟩ := ha.ex
  refine ⟨_, pe_callB call_isi hg hm (by decide +kernel) (pa_cons pa (pa_cons (pe_bltn (v := .ty n) hg2 hT hv rfl h1 h2) pa_nil) he) (by decide) (by decide) he hpl, fun B c s G H Q R st q k => va B c s G H _ _ st q fun v x c1 G1 H1 st1 e1 d1 q1 => ?_⟩
  refine ⟨v, .ty n, tyD x, .type n, fi x, rfl, .ty n, tyX_of st1.sub d1, hk x (fun kv z => by subst z; cases d1), k _ _ c1 G1 H1 st1 e1 (.bl _) q1⟩
end
end Dl

/-! Statements and defs over data. -/
namespace Dl
open PySem PySem.Spec PyProof.Rows L2

/-- what is wanted behind a statement -/
structure De where
  nx : Ctx → Prop
  rt : S → Ctx → Prop
  bk : Ctx → Prop := fun _ => False
  ct : Ctx → Prop := fun _ => False
abbrev TSd := De → Ctx → Prop
structure Conn (K : PySem.W.Frag) (B : Base) (G : Hp) (D : Ends) (E : De) : Prop where
  nx : ∀ c s G' H', Stt K B c s G' H' → Same G G' → E.nx c → D.nx s H'
  rt : ∀ r c v s G' H', Stt K B (r :: c) (some v :: s) G' H' → Same G G' → E.rt r c → D.rt v H'
  bk : ∀ c s G' H', Stt K B c s G' H' → Same G G' → E.bk c → D.bk s H'
  ct : ∀ c s G' H', Stt K B c s G' H' → Same G G' → E.ct c → D.ct s H'
theorem Conn.mono {K : PySem.W.Frag} {B : Base} {G G1 : Hp} {D : Ends} {E : De} (h : Conn K B G D E) (e : Same G G1) : Conn K B G1 D E :=
  ⟨fun c s G' H' st e' q => h.nx c s G' H' st (e.trans e') q, fun r c v s G' H' st e' q => h.rt r c v s G' H' st (e.trans e') q, fun c s G' H' st e' q => h.bk c s G' H' st (e.trans e') q, fun c s G' H' st e' q => h.ct c s G' H' st (e.trans e') q⟩
def DSv (K : PySem.W.Frag) (ts : TS) (t : TSd) : Prop := ∀ (B : Base) (c : Ctx) (s : L2.St) (G H : Hp) (D : Ends) (E : De), Stt K B c s G H → Conn K B G D E → t E c → ts D s H
structure DS (X : Cx) (st : Stmt) (t : TSd) : Prop where
  ex : ∃ ts, PS X st ts ∧ DSv X.K ts t
structure DSs (X : Cx) (st : List Stmt) (t : TSd) : Prop where
  ex : ∃ ts, PSs X st ts ∧ DSv X.K ts t

section
variable {X : Cx} {st : Stmt} {rest : List Stmt} {t u : TSd} {e : Expr} {te : TD} {to : TR} {tb : TB} {pos : Pos}
def zNext : TSd := fun E c => E.nx c
def zSeq (t u : TSd) : TSd := fun E c => t { E with nx := u E } c
theorem q_nil : DSs X [] zNext := ⟨_, pss_nil, fun B c s G H D E st k q => k.nx c s G H st (Same.refl _) q⟩
theorem q_one (h : DS X st t) : DSs X [st] t := let ⟨ts, p, v⟩ := h.ex; ⟨ts, pss_one p, v⟩
theorem q_cons (h : DS X st t) (h2 : DSs X rest u) : DSs X (st :: rest) (zSeq t u) := by
  obtain ⟨ts, p, v⟩ := h.ex
  obtain ⟨us, p2, v2⟩ := h2.ex
  refine ⟨_, pss_cons p p2, fun B c s G H D E st k q => v B c s G H { D with nx := us D } { E with nx := u E } st ⟨fun c1 s1 G1 H1 st1 e1 q1 => ?_, k.rt, k.bk, k.ct⟩ q⟩
  exact v2 B c1 s1 G1 H1 D E st1 (k.mono e1) q1
/-- a statement whose ways come together behind it -/
def zCut (t u : TSd) : TSd := fun E c => ∃ M : Ctx → Prop, t { E with nx := M } c ∧ ∀ c', M c' → u E c'
theorem q_cut (h : DS X st t) (h2 : DSs X rest u) : DSs X (st :: rest) (zCut t u) := by
  obtain ⟨ts, p, v⟩ := h.ex
  obtain ⟨us, p2, v2⟩ := h2.ex
  refine ⟨_, pss_cons p p2, fun B c s G H D E st k q => ?_⟩
  obtain ⟨M, q1, q2⟩ := q
  refine v B c s G H { D with nx := us D } { E with nx := M } st ⟨fun c1 s1 G1 H1 st1 e1 m => ?_, k.rt, k.bk, k.ct⟩ q1
  exact v2 B c1 s1 G1 H1 D E st1 (k.mono e1) (q2 c1 m)
theorem s_pass : DS X (.Pass pos) zNext := ⟨_, ps_pass, fun B c s G H D E st k q => k.nx c s G H st (Same.refl _) q⟩
theorem s_break : DS X (.Break pos) (fun E c => E.bk c) := ⟨_, ps_break, fun B c s G H D E st k q => k.bk c s G H st (Same.refl _) q⟩
theorem s_continue : DS X (.Continue pos) (fun E c => E.ct c) := ⟨_, ps_continue, fun B c s G H D E st k q => k.ct c s G H st (Same.refl _) q⟩
theorem s_never : DS X st (fun _ _ => False) := ⟨_, ps_never, fun B c s G H D E st k q => q⟩
theorem q_never : DSs X rest (fun _ _ => False) := ⟨_, pss_never, fun B c s G H D E st k q => q⟩
/-- x = e -/
def zSet (j : Nat) (te : TD) : TSd := fun E c => te c fun x c1 => E.nx (c1.set j (.d x))
theorem s_set {j : Nat} {x : Str} {pos' : Pos} (hN : X.N.Nodup) (he : DE X e te) (hi : X.N[j]? = some x := by rfl) (hx : Loc X.env.scope x := by first | exact Or.inl rfl | exact Or.inr rfl) (hs : swapsWith e (some (.Name x pos')) pos.line X.env = pure false := by rfl) (hf : X.fn x = true ∨ X.env.scope.names.lookup x = some .local := by first | exact .inl rfl | exact .inr rfl | assumption) :
    DS X (.Assign [.Name x pos'] e pos) (zSet j te) := by
  obtain ⟨tp, p, v⟩ := he.ex
  refine ⟨_, ps_set hN hi hx p hs hf, fun B c s G H D E st k q => v B c s G H _ _ st q fun w y c1 G1 H1 st1 e1 d1 q1 => ?_⟩
  exact k.nx _ _ G1 H1 (st1.set_d j d1) e1 q1
/-- x = a new owned thing -/
def zSetO (j : Nat) (te : TR) : TSd := fun E c => te c fun R c1 => E.nx (c1.set j (.o none R))
theorem s_setO {j : Nat} {x : Str} {pos' : Pos} (hN : X.N.Nodup) (he : DO X e to) (hi : X.N[j]? = some x := by rfl) (hx : Loc X.env.scope x := by first | exact Or.inl rfl | exact Or.inr rfl) (hs : swapsWith e (some (.Name x pos')) pos.line X.env = pure false := by rfl) (hf : X.fn x = true ∨ X.env.scope.names.lookup x = some .local := by first | exact .inl rfl | exact .inr rfl | assumption) :
    DS X (.Assign [.Name x pos'] e pos) (zSetO j to) := by
  obtain ⟨tp, p, v⟩ := he.ex
  refine ⟨_, ps_set hN hi hx p hs hf, fun B c s G H D E st k q => v B c s G H _ _ st q fun w y c1 G1 H1 st1 e1 q1 => ?_⟩
  exact k.nx _ _ G1 H1 (st1.set_o j) e1 q1
def zDrop (te : TD) : TSd := fun E c => te c fun _ c1 => E.nx c1
theorem s_expr (he : DE X e te) (hs : swapsWith e none pos.line X.env = pure false := by rfl) : DS X (.Expr e pos) (zDrop te) := by
  obtain ⟨tp, p, v⟩ := he.ex
  refine ⟨_, ps_expr p hs, fun B c s G H D E st k q => v B c s G H _ _ st q fun w y c1 G1 H1 st1 e1 d1 q1 => ?_⟩
  exact k.nx _ _ G1 H1 st1 e1 q1
def zRet (te : TD) : TSd := fun E c => te c fun x c1 => E.rt (.d x) c1
theorem s_ret (he : DE X e te) : DS X (.Return (some e) pos) (zRet te) := by
  obtain ⟨tp, p, v⟩ := he.ex
  refine ⟨_, ps_ret p, fun B c s G H D E st k q => v B c s G H _ _ st q fun w y c1 G1 H1 st1 e1 d1 q1 => ?_⟩
  exact k.rt _ _ _ _ G1 H1 (st1.push_d d1) e1 q1
def zRetO (te : TR) : TSd := fun E c => te c fun R c1 => E.rt (.o none R) c1
theorem s_retO (he : DO X e to) : DS X (.Return (some e) pos) (zRetO to) := by
  obtain ⟨tp, p, v⟩ := he.ex
  refine ⟨_, ps_ret p, fun B c s G H D E st k q => v B c s G H _ _ st q fun w y c1 G1 H1 st1 e1 q1 => ?_⟩
  exact k.rt _ _ _ _ G1 H1 st1 e1 q1
/-- .. of which a fact is kept alone -/
def zRetP (te : TR) (P : List PyData → Prop) : TSd := fun E c => te c fun R c1 => asR R fun ds => P ds ∧ E.rt (.o none (.lstP P)) c1
theorem s_retP (P : List PyData → Prop) (he : DO X e to) : DS X (.Return (some e) pos) (zRetP to P) := by
  obtain ⟨tp, p, v⟩ := he.ex
  refine ⟨_, ps_ret p, fun B c s G H D E st k q => v B c s G H _ _ st q fun w y c1 G1 H1 st1 e1 q1 => ?_⟩
  obtain ⟨ds, rfl, hP, q2⟩ := asR_of q1
  have st2 := st1.shut (j := 0) rfl hP
  exact k.rt _ _ _ _ G1 H1 st2 e1 q2
def zRetN : TSd := fun E c => E.rt (.d .none) c
theorem s_retN : DS X (.Return none pos) zRetN := ⟨_, ps_retN, fun B c s G H D E st k q => k.rt _ _ _ _ G H (st.push_d .non) (Same.refl _) q⟩
/-- return of the owned thing in slot j -/
theorem Stt.take_o {K : PySem.W.Frag} {B : Base} {c : Ctx} {s : L2.St} {G H : Hp} (st : Stt K B c s G H) {j : Nat} {R : Res} (e : c[j]? = some (.o none R)) : ∃ v, s[j]? = some (some v) ∧ Stt K B (.o none R :: c.set j .no) (some v :: s) G H := by
  obtain ⟨A, r, w⟩ := st.ex
  have key : ∀ {c : Ctx} {s : L2.St} {A : List Addr}, Reps K B G H c s A → ∀ {j : Nat}, A.Nodup → c[j]? = some (.o none R) → ∃ v A1 A2, s[j]? = some (some v) ∧ R.P K G H v A1 ∧ WOk B none v A1 ∧ Reps K B G H (c.set j .no) s A2 ∧ (A1 ++ A2).Nodup ∧ ∀ a ∈ A1 ++ A2, a ∈ A := by
    intro c s A r
    induction r with
    | nil => intro j nd e; simp at e
    | no r ih =>
      intro j nd e
      cases j with
      | zero => simp at e
      | succ j =>
        obtain ⟨v, A1, A2, h1, h2, h3, h4, h5, h6⟩ := ih nd (by simpa using e)
        exact ⟨v, A1, A2, by simpa using h1, h2, h3, .no h4, h5, h6⟩
    | d hd r ih =>
      intro j nd e
      cases j with
      | zero => simp at e
      | succ j =>
        obtain ⟨v, A1, A2, h1, h2, h3, h4, h5, h6⟩ := ih nd (by simpa using e)
        exact ⟨v, A1, A2, by simpa using h1, h2, h3, .d hd h4, h5, h6⟩
    | f hd r ih =>
      intro j nd e
      cases j with
      | zero => simp at e
      | succ j =>
        obtain ⟨v, A1, A2, h1, h2, h3, h4, h5, h6⟩ := ih nd (by simpa using e)
        exact ⟨v, A1, A2, by simpa using h1, h2, h3, .f hd h4, h5, h6⟩
    | @o w2 v2 R2 c2 s2 Ah At ho hw2 r ih =>
      intro j nd e
      obtain ⟨n1, n2, n3⟩ := List.nodup_append.mp nd
      cases j with
      | zero =>
        have e' : S.o w2 R2 = S.o none R := by simpa using e
        cases e'
        exact ⟨v2, Ah, At, rfl, ho, hw2, .no r, nd, fun a ha => ha⟩
      | succ j =>
        obtain ⟨v, A1, A2, h1, h2, h3, h4, h5, h6⟩ := ih n2 (by simpa using e)
        refine ⟨v, A1, Ah ++ A2, by simpa using h1, h2, h3, .o ho hw2 h4, ?_, fun a ha => ?_⟩
        · obtain ⟨m1, m2, m3⟩ := List.nodup_append.mp h5
          refine List.nodup_append.mpr ⟨m1, List.nodup_append.mpr ⟨n1, m2, fun a ha b hb z => n3 a ha b (h6 b (List.mem_append_right _ hb)) z⟩, fun a ha b hb z => ?_⟩
          rcases List.mem_append.mp hb with y | y
          · exact n3 b y a (h6 a (List.mem_append_left _ ha)) z.symm
          · exact m3 a ha b y z
        · rcases List.mem_append.mp ha with y | y
          · exact List.mem_append_right _ (h6 a (List.mem_append_left _ y))
          · rcases List.mem_append.mp y with y | y
            · exact List.mem_append_left _ y
            · exact List.mem_append_right _ (h6 a (List.mem_append_right _ y))
  obtain ⟨v, A1, A2, h1, h2, h3, h4, h5, h6⟩ := key r w.nd e
  exact ⟨v, h1, ⟨A1 ++ A2, .o h2 h3 h4, w.sub, h5, fun a ha => w.out a (h6 a ha), w.old, w.stay, w.dom, w.newG, fun a ha => w.lim a (h6 a ha)⟩⟩
/-- the name of an owned thing made here, given away -/
def oVar (j : Nat) : TR := fun c Q => slO c j fun w R => w = none ∧ Q R (c.set j .no)
theorem o_var (j : Nat) {x : Str} (hN : X.N[j]? = some x := by rfl) (hv : Vis X.env.scope x := by first | exact Or.inl rfl | exact Or.inr (Or.inl rfl) | exact Or.inr (Or.inr rfl)) (hd : (x == ("__debug__" : Str)) = false := by decide)
    (hcd : (x == ("__classdict__" : Str)) = false := by decide) : DO X (.Name x pos) (oVar j) := by
  refine ⟨_, pe_var hN hv hd hcd, fun B c s G H Q R st h k => ?_⟩
  obtain ⟨w0, R0, e, hw, q⟩ := slO_of h
  subst hw
  obtain ⟨v, e1, st2⟩ := st.take_o e
  exact ⟨v, e1, k v R0 _ G H st2 (Same.refl _) q⟩
def zIf (tc : TB) (t u : TSd) : TSd := fun E c => tc c fun b c1 => if b = true then t E c1 else u E c1
theorem s_if {a b : List Stmt} (hc : DT X e tb) (ha : DSs X a t) (hb : DSs X b u) : DS X (.If e a b pos) (zIf tb t u) := by
  obtain ⟨tp, p, v⟩ := hc.ex
  obtain ⟨t1, p1, v1⟩ := ha.ex
  obtain ⟨t2, p2, v2⟩ := hb.ex
  refine ⟨_, ps_if p p1 p2, fun B c s G H D E st k q => v B c s G H _ _ st q fun b c1 G1 H1 st1 e1 q1 => ?_⟩
  cases b with
  | true =>
    rw [if_pos rfl] at q1 ⊢
    exact v1 B c1 s G1 H1 D E st1 (k.mono e1) q1
  | false =>
    rw [if_neg Bool.false_ne_true] at q1 ⊢
    exact v2 B c1 s G1 H1 D E st1 (k.mono e1) q1
/-- a, b = x, y -/
def zPar (i j : Nat) (ta : TL) : TSd := fun E c => ta c fun xs c1 => arg2 xs fun x y => E.nx ((c1.set i (.d x)).set j (.d y))
theorem s_par {i j : Nat} {x y : Str} {a b : Expr} {ta : TL} {px py pt : Pos} {kt k2 pt2} (hc : X.calm = true) (hN : X.N.Nodup) (ha : DA X [a, b] ta)
    (hw : swappedStores [.Tuple [.Name x px, .Name y py] kt pt] (.Tuple [a, b] k2 pt2) X.env = pure (some [x, y])) (hi : X.N[i]? = some x := by rfl) (hj : X.N[j]? = some y := by rfl) (hij : i ≠ j := by decide)
    (hx : X.env.scope.names.lookup x = some .local := by rfl) (hy : X.env.scope.names.lookup y = some .local := by rfl)
    (hs : swapsWithSole [.Tuple [.Name x px, .Name y py] kt pt] (.Tuple [a, b] k2 pt2) pos.line X.env = pure false := by rfl) : DS X (.Assign [.Tuple [.Name x px, .Name y py] kt pt] (.Tuple [a, b] k2 pt2) pos) (zPar i j ta) := by
  obtain ⟨tp, p, v⟩ := ha.ex
  refine ⟨_, ps_par hc hN hi hj hij hx hy p hw hs, fun B c s G H D E st k q => v B c s G H _ _ st q fun vs xs c1 G1 H1 st1 e1 d1 q1 => ?_⟩
  obtain ⟨x1, y1, rfl, q1⟩ := arg2_of q1
  obtain ⟨v1, v2, rfl, d2, d3⟩ := dpa_2 d1
  exact ⟨v1, v2, rfl, k.nx _ _ G1 H1 ((st1.set_d i d2).set_d j d3) e1 q1⟩

/-! ### targets of data -/
abbrev TGd := PyData → Ctx → (Ctx → Prop) → Prop
def DGv (K : PySem.W.Frag) (tg : TG) (t : TGd) : Prop := ∀ (B : Base) (c : Ctx) (s : L2.St) (G H : Hp) (v : V) (x : PyData) (Q : Ctx → Prop) (R : L2.St → Hp → Prop), Stt K B c s G H → Dp K G v x → t x c Q → (∀ c' s', Stt K B c' s' G H → Q c' → R s' H) → tg v s H R
structure DG (X : Cx) (e : Expr) (t : TGd) : Prop where
  ex : ∃ tg, PG X e tg ∧ DGv X.K tg t
def gN (j : Nat) : TGd := fun x c Q => Q (c.set j (.d x))
theorem g_name (j : Nat) {x : Str} (hN : X.N.Nodup) (hi : X.N[j]? = some x := by rfl) (hx : Loc X.env.scope x := by first | exact Or.inl rfl | exact Or.inr rfl) (hf : X.fn x = true ∨ X.env.scope.names.lookup x = some .local := by first | exact .inl rfl | exact .inr rfl | assumption) : DG X (.Name x pos) (gN j) :=
  ⟨_, pg_name hN hi hx hf, fun B c s G H v x Q R st d q k => k _ _ (st.set_d j d) q⟩
abbrev TGsd := List PyData → Ctx → (Ctx → Prop) → Prop
def DGsv (K : PySem.W.Frag) (tg : TGs) (t : TGsd) : Prop := ∀ (B : Base) (c : Ctx) (s : L2.St) (G H : Hp) (vs : List V) (xs : List PyData) (Q : Ctx → Prop) (R : L2.St → Hp → Prop), Stt K B c s G H → DpAll K G vs xs → t xs c Q → (∀ c' s', Stt K B c' s' G H → Q c' → R s' H) → tg vs s H R
structure DGs (X : Cx) (es : List Expr) (t : TGsd) : Prop where
  ex : ∃ tg, PGs X es tg ∧ DGsv X.K tg t
def gsNil : TGsd := fun xs c Q => xs = [] ∧ Q c
def asC (xs : List PyData) (Q : PyData → List PyData → Prop) : Prop := match xs with
  | x :: r => Q x r
  | [] => False
theorem asC_c {x : PyData} {r : List PyData} {Q : PyData → List PyData → Prop} : asC (x :: r) Q = Q x r := rfl
theorem asC_of {xs : List PyData} {Q : PyData → List PyData → Prop} (h : asC xs Q) : ∃ x r, xs = x :: r ∧ Q x r := by
  cases xs with
  | nil => exact False.elim h
  | cons x r => exact ⟨x, r, rfl, h⟩
def gsCons (t : TGd) (u : TGsd) : TGsd := fun xs c Q => asC xs fun x r => t x c fun c1 => u r c1 Q
theorem gs_nil : DGs X [] gsNil := ⟨_, pgs_nil, fun B c s G H vs xs Q R st d q k => by
  obtain ⟨rfl, q⟩ := q
  cases d
  exact ⟨rfl, k _ _ st q⟩⟩
theorem gs_cons {es : List Expr} {t : TGd} {u : TGsd} (h : DG X e t) (h2 : DGs X es u) (hs : (assignEach (e :: es) X.env).map (·.2) = assign e X.env :: (assignEach es X.env).map (·.2) := by rfl) : DGs X (e :: es) (gsCons t u) := by
  obtain ⟨tg, p, v⟩ := h.ex
  obtain ⟨tg2, p2, v2⟩ := h2.ex
  refine ⟨_, pgs_cons p p2 hs, fun B c s G H vs xs Q R st d q k => ?_⟩
  obtain ⟨x, r, rfl, q⟩ := asC_of q
  cases d with
  | cons d1 d2 => exact ⟨_, _, rfl, v B c s G H _ x _ _ st d1 q fun c1 s1 st1 q1 => v2 B c1 s1 G H _ r Q R st1 d2 q1 k⟩
def gT (n : Nat) (t : TGsd) : TGd := fun x c Q => asT x fun xs => xs.length = n ∧ t xs c Q
theorem g_tup {es : List Expr} {k : Nat} {t : TGsd} {n : Nat} (hc : X.calm = true) (h : DGs X es t) (hn : (assignEach es X.env).length = n := by rfl) (hst : (assignEach es X.env).findIdx? (·.1) = none := by rfl) : DG X (.Tuple es k pos) (gT n t) := by
  obtain ⟨tg, p, v⟩ := h.ex
  refine ⟨_, pg_tup hc p hn hst, fun B c s G H w x Q R st d q k => ?_⟩
  obtain ⟨xs, rfl, hl, q⟩ := asT_of q
  obtain ⟨a, vs, rfl, h1, h2⟩ := dp_tup d
  exact ⟨a, vs, rfl, same_t st.sub h1, by rw [dpa_len h2]; exact hl, v B c s G H vs xs Q R st h2 q k⟩
/-- a, b = e -/
def zAsg (te : TD) (t : TGd) : TSd := fun E c => te c fun x c1 => t x c1 E.nx
theorem s_asg {tg : Expr} {t : TGd} (he : DE X e te) (hg : DG X tg t) (hs : swapsWithSole [tg] e pos.line X.env = pure false := by rfl) (hw : swappedStores [tg] e X.env = pure none := by rfl)
    (h1 : (assignEach [tg] X.env).map (·.2) = [assign tg X.env] := by rfl) : DS X (.Assign [tg] e pos) (zAsg te t) := by
  obtain ⟨tp, p, v⟩ := he.ex
  obtain ⟨tq, p2, v2⟩ := hg.ex
  refine ⟨_, ps_asg p p2 hs hw h1, fun B c s G H D E st k q => v B c s G H _ _ st q fun w y c1 G1 H1 st1 e1 d1 q1 => ?_⟩
  exact v2 B c1 s G1 H1 w y _ _ st1 d1 q1 fun c2 s2 st2 q2 => k.nx c2 s2 G1 H1 st2 e1 q2
/-- xs[i] = e, xs an owned list in slot j -/
def zPut (j : Nat) (te ti : TD) : TSd := fun E c => te c fun x c1 => slO c1 j fun _ _ => ti c1 fun y c2 => slO c2 j fun w R => asR R fun ds => asI y fun i => ixP ds.length i fun n => E.nx (c2.set j (.o w (.lst (ds.set n x))))
theorem s_put (j : Nat) {x : Str} {i : Expr} {ti : TD} {pos' pos'' : Pos} (he : DE X e te) (hi : DE X i ti) (hN : X.N[j]? = some x := by rfl) (hv : Vis X.env.scope x := by first | exact Or.inl rfl | exact Or.inr (Or.inl rfl) | exact Or.inr (Or.inr rfl)) (hd : (x == ("__debug__" : Str)) = false := by decide)
    (hcd : (x == ("__classdict__" : Str)) = false := by decide)
    (ha : ∀ v, assign (.Subscript (.Name x pos') i pos'') X.env v = (do
      let ov ← holding [v] (eval (.Name x pos') X.env)
      let iv ← holding [v, ov] (eval i X.env)
      standAt pos''
      holding [v, ov, iv] (setItem ov iv v)
      release [v, ov, iv] []) := by intro _; rfl)
    (hs : swapsWithSole [.Subscript (.Name x pos') i pos''] e pos.line X.env = pure false := by rfl) (hw : swappedStores [.Subscript (.Name x pos') i pos''] e X.env = pure none := by rfl)
    (h1 : (assignEach [.Subscript (.Name x pos') i pos''] X.env).map (·.2) = [assign (.Subscript (.Name x pos') i pos'') X.env] := by rfl) : DS X (.Assign [.Subscript (.Name x pos') i pos''] e pos) (zPut j te ti) := by
  obtain ⟨tp, p, v⟩ := he.ex
  obtain ⟨tq, p2, v2⟩ := hi.ex
  refine ⟨_, ps_asg p (pg_sub (pe_var hN hv hd hcd) p2 set_list ha) hs hw h1, fun B c s G H D E st k q => v B c s G H _ _ st q fun w y c1 G1 H1 st1 e1 d1 q1 => ?_⟩
  obtain ⟨w0, R0, g0, q1⟩ := slO_of q1
  obtain ⟨u, hu⟩ := st1.own_at g0
  refine ⟨u, hu, v2 B c1 s G1 H1 _ _ st1 q1 fun iv z c2 G2 H2 st2 e2 d2 q2 => ?_⟩
  obtain ⟨w1, R1, g1, q2⟩ := slO_of q2
  obtain ⟨ds, rfl, q2⟩ := asR_of q2
  obtain ⟨i, rfl, q2⟩ := asI_of q2
  obtain ⟨n, g2, q3⟩ := q2
  obtain ⟨a, vs, g3, g4, g5, _, g6⟩ := st2.own g1
  rw [hu] at g3
  cases g3
  refine ⟨a, vs, i, n, rfl, dp_int d2, g4, by rw [dpa_len g5]; exact g2, ?_⟩
  exact k.nx _ _ G2 _ (g6 _ _ (dpa_set g5 (dp_mono e2 _ _ d1))) (e1.trans e2) q3

/-! ### loops -/
/-- what an iterable yields: the data ys -/
def ItOk (K : PySem.W.Frag) (B : Base) (G : Hp) (J : It) (ys : List PyData) : Prop := ∀ (c : Ctx) (s : L2.St) (G' H' : Hp), Stt K B c s G' H' → Same G G' → ∀ i : Nat,
  (ys.length ≤ i → J.stop i H') ∧ (i < ys.length → J.go i H' ∧ ∀ x H2, J.yld i H' x H2 → ∃ G2 y, ys[i]? = some y ∧ Stt K B c s G2 H2 ∧ Same G' G2 ∧ Dp K G2 x y)
def DIv (K : PySem.W.Frag) (wi : TI) (t : TL) : Prop := ∀ (B : Base) (c : Ctx) (s : L2.St) (G H : Hp) (Q : List PyData → Ctx → Prop) (R : It → Hp → Prop), Stt K B c s G H → t c Q →
  (∀ J ys c' G' H', Stt K B c' s G' H' → Same G G' → ItOk K B G' J ys → Q ys c' → R J H') → wi s H R
structure DI (X : Cx) (tg iter : Expr) (t : TL) : Prop where
  ex : ∃ wi, PI X tg iter wi ∧ DIv X.K wi t
variable {tg : Expr} {ti : TL}
def signs (z : Str) : List PyData := z.cps.toList.map fun (n : Nat) => .str ⟨#[n]⟩
def asQ (x : PyData) (Q : List PyData → Prop) : Prop := match x with
  | .list ds => Q ds
  | .tuple ds => Q ds
  | .str z => Q (signs z)
  | _ => False
theorem asQ_l {ds : List PyData} {Q : List PyData → Prop} : asQ (.list ds) Q = Q ds := rfl
theorem asQ_t {ds : List PyData} {Q : List PyData → Prop} : asQ (.tuple ds) Q = Q ds := rfl
theorem asQ_s {z : Str} {Q : List PyData → Prop} : asQ (.str z) Q = Q (signs z) := rfl
def iSeq (te : TD) : TL := fun c Q => te c fun x c1 => asQ x fun ds => Q ds c1
/-- lists, tuples, texts -/
theorem i_seq (he : DE X e te) : DI X tg e (iSeq te) := by
  obtain ⟨tp, p, v⟩ := he.ex
  refine ⟨_, PI.mk fun pins st s H R I (h : tp s H fun x H1 => (∃ a, x = .ref a ∧ (∃ xs, SqL X.K H1 a xs) ∧ R (Itl X.K a) H1) ∨ (∃ a, x = .ref a ∧ (∃ xs, SqT X.K H1 a xs) ∧ R (Itt X.K a) H1) ∨ ∃ z, x = .str z ∧ R (Its z) H1) => ?_, fun B c s G H Q R st q k => v B c s G H _ _ st q fun w y c1 G1 H1 st1 e1 d1 q1 => ?_⟩
  · refine thn (p.run pins st s H _ I h) fun u s1 ⟨x, H1, I1, r1, q1⟩ => ?_
    rcases q1 with ⟨a, rfl, ⟨xs, hq⟩, q⟩ | ⟨a, rfl, ⟨xs, hq⟩, q⟩ | ⟨z, rfl, q⟩
    · cases r1
      obtain ⟨its, rv, pl, hz⟩ := I1.list hq
      refine wpAny_pyIter_list pl.isList ?_
      refine ⟨s1.heap.objs.size, [s1.heap.objs.size], _, _, H1, rfl, I1.kept (t' := s1.toks) fun b o e => Heap.get?_push_of_some _ e, turn_list a _, ⟨_, Heap.get?_push_size _ rfl, rfl, rfl⟩, fun b hb => ?_, q⟩
      obtain rfl : b = s1.heap.objs.size := by simpa using hb
      exact I1.fpOk (Nat.le_refl _) (I1.hok.fresh (Nat.le_refl _))
    · cases r1
      obtain ⟨its, rv, pl, hz⟩ := I1.tuple hq
      refine wpAny_pyIter_tuple (show s1.heap.IsTuple a its.toArray from pl) ?_
      refine ⟨s1.heap.objs.size, [s1.heap.objs.size], _, _, H1, rfl, I1.kept (t' := s1.toks) fun b o e => Heap.get?_push_of_some _ e, turn_tuple a _, ⟨_, Heap.get?_push_size _ rfl, rfl, rfl⟩, fun b hb => ?_, q⟩
      obtain rfl : b = s1.heap.objs.size := by simpa using hb
      exact I1.fpOk (Nat.le_refl _) (I1.hok.fresh (Nat.le_refl _))
    · obtain ⟨t, rfl⟩ := r1
      cases ha : z.cps.all (· < 128)
      · exact wpAny_pyIter_wide ha (pi_one (tk := s1.toks) I1 _ (turn_str _ z t "str_iterator" (.inr rfl)) ⟨_, Heap.get?_push_size _ rfl, rfl, rfl⟩ q)
      · exact wpAny_pyIter_ascii ha (pi_one (tk := s1.toks) I1 _ (turn_str _ z t "str_ascii_iterator" (.inl rfl)) ⟨_, Heap.get?_push_size _ rfl, rfl, rfl⟩ q)
  · cases y with
    | list ds =>
      obtain ⟨a, vs, rfl, h1, h2⟩ := dp_lst d1
      refine .inl ⟨a, rfl, ⟨vs, Same.seq st1.sub h1⟩, k (Itl X.K a) ds c1 G1 H1 st1 e1 (fun c' s' G' H' st' e' i => ⟨fun hi => ⟨vs, Same.seq st'.sub (Same.seq e' h1), by rw [dpa_len h2]; exact hi⟩, fun hi => ?_⟩) q1⟩
      have hq : SqL X.K H' a vs := Same.seq st'.sub (Same.seq e' h1)
      obtain ⟨x, hx, dx⟩ := dpa_get h2 (List.getElem?_eq_getElem hi)
      refine ⟨⟨vs, x, hq, hx⟩, fun z H2 hy => ?_⟩
      obtain ⟨rfl, hz⟩ := hy
      have := hz vs hq
      rw [hx] at this
      cases this
      exact ⟨G', _, List.getElem?_eq_getElem hi, st', Same.refl _, dp_mono e' _ _ dx⟩
    | tuple ds =>
      obtain ⟨a, vs, rfl, h1, h2⟩ := dp_tup d1
      refine .inr (.inl ⟨a, rfl, ⟨vs, same_t st1.sub h1⟩, k (Itt X.K a) ds c1 G1 H1 st1 e1 (fun c' s' G' H' st' e' i => ⟨fun hi => ⟨vs, same_t st'.sub (same_t e' h1), by rw [dpa_len h2]; exact hi⟩, fun hi => ?_⟩) q1⟩)
      have hq : SqT X.K H' a vs := same_t st'.sub (same_t e' h1)
      obtain ⟨x, hx, dx⟩ := dpa_get h2 (List.getElem?_eq_getElem hi)
      refine ⟨⟨vs, x, hq, hx⟩, fun z H2 hy => ?_⟩
      obtain ⟨rfl, hz⟩ := hy
      have := hz vs hq
      rw [hx] at this
      cases this
      exact ⟨G', _, List.getElem?_eq_getElem hi, st', Same.refl _, dp_mono e' _ _ dx⟩
    | str z =>
      cases d1
      refine .inr (.inr ⟨z, rfl, k (Its z) (signs z) c1 G1 H1 st1 e1 (fun c' s' G' H' st' e' i => ?_) q1⟩)
      have hl : (signs z).length = z.cps.size := by simp [signs]
      rw [hl]
      refine ⟨fun hi => hi, fun hi => ⟨hi, fun x H2 hy => ?_⟩⟩
      obtain ⟨rfl, n, hn, rfl⟩ := hy
      refine ⟨G', _, ?_, st', Same.refl _, .str _⟩
      have hn' : z.cps.toList[i]? = some n := by rw [Array.getElem?_toList]; exact hn
      rw [signs, List.getElem?_map, hn']
      rfl
    | none => exact q1.elim
    | bool _ => exact q1.elim
    | int _ => exact q1.elim
    | dict _ => exact q1.elim
/-- lo, lo + 1, .. -/
def rngD (lo : Int) (n : Nat) : List PyData := (List.range n).map fun (k : Nat) => .int (lo + (k : Int))
theorem rngD_len (lo : Int) (n : Nat) : (rngD lo n).length = n := by simp [rngD]
theorem it_rng {K : PySem.W.Frag} {B : Base} {G : Hp} (lo : Int) (n : Nat) : ItOk K B G (Itr lo n) (rngD lo n) := fun c s G' H' st e i => by
  rw [rngD_len]
  refine ⟨fun hi => hi, fun hi => ⟨hi, fun x H2 hy => ?_⟩⟩
  obtain ⟨rfl, rfl⟩ := hy
  refine ⟨G', _, ?_, st, Same.refl _, .int (lo + i)⟩
  simp [rngD, hi]
variable {a b : Expr} {ta tb2 : TD} {p : Pos}
def iR1 (ta : TD) : TL := fun c Q => ta c fun x c1 => asI x fun j => -(2 ^ 62) ≤ j ∧ j < 2 ^ 62 ∧ Q (rngD 0 j.toNat) c1
theorem i_range1 (hm : X.mg "range" = none) (ha : DE X a ta) (hg : Gl X "range" := by rfl) (he : starEach (a :: []) X.env = (false, eval a X.env) :: starEach [] X.env := by rfl) (hs : starEach [a] X.env = [(false, eval a X.env)] := by rfl) : DI X tg (.Call (.Name "range" p) [a] [] pos) (iR1 ta) := by
  obtain ⟨tp, pp, v⟩ := ha.ex
  refine ⟨_, pi_range1 hg hm (pa_cons pp pa_nil he) hs, fun B c s G H Q R st q k => v B c s G H _ _ st q fun w y c1 G1 H1 st1 e1 d1 q1 => ?_⟩
  obtain ⟨j, rfl, h1, h2, q2⟩ := asI_of q1
  cases d1
  exact ⟨j, rfl, h1, h2, k _ _ c1 G1 H1 st1 e1 (it_rng 0 j.toNat) q2⟩
def iR2 (ta tb : TD) : TL := fun c Q => ta c fun x c1 => tb c1 fun y c2 => asI x fun i => asI y fun j => -(2 ^ 62) ≤ i ∧ i < 2 ^ 62 ∧ -(2 ^ 62) ≤ j ∧ j < 2 ^ 62 ∧ Q (rngD i (j - i).toNat) c2
theorem i_range2 (hm : X.mg "range" = none) (ha : DE X a ta) (hb : DE X b tb2) (hg : Gl X "range" := by rfl) (he : starEach (a :: [b]) X.env = (false, eval a X.env) :: starEach [b] X.env := by rfl) (he2 : starEach (b :: []) X.env = (false, eval b X.env) :: starEach [] X.env := by rfl) (hs : starEach [a, b] X.env = [(false, eval a X.env), (false, eval b X.env)] := by rfl) (hs2 : starEach [b] X.env = [(false, eval b X.env)] := by rfl) :
    DI X tg (.Call (.Name "range" p) [a, b] [] pos) (iR2 ta tb2) := by
  obtain ⟨tp, pp, v⟩ := ha.ex
  obtain ⟨tq, pq, v2⟩ := hb.ex
  refine ⟨_, pi_range2 hg hm (pa_cons pp (pa_cons pq pa_nil he2) he) hs hs2, fun B c s G H Q R st q k => v B c s G H _ _ st q fun w y c1 G1 H1 st1 e1 d1 q1 => v2 B c1 s G1 H1 _ _ st1 q1 fun w2 y2 c2 G2 H2 st2 e2 d2 q2 => ?_⟩
  obtain ⟨i, rfl, q2⟩ := asI_of q2
  obtain ⟨j, rfl, h1, h2, h3, h4, q3⟩ := asI_of (x := y2) q2
  cases d1
  cases d2
  exact ⟨i, j, rfl, ⟨h1, h2, h3, h4⟩, k _ _ c2 G2 H2 st2 (e1.trans e2) (it_rng i (j - i).toNat) q3⟩
/-- for target in iter: body -/
def zLoop (tg : TGd) (tb : TSd) (E : De) (ys : List PyData) (c1 : Ctx) : Prop := ∃ I : Nat → Ctx → Prop, I 0 c1 ∧
  (∀ i y c, ys[i]? = some y → I i c → tg y c fun c2 => tb { E with nx := I (i + 1), ct := I (i + 1), bk := E.nx } c2) ∧ ∀ c, I ys.length c → E.nx c
def zFor (ti : TL) (tg : TGd) (tb : TSd) : TSd := fun E c => ti c fun ys c1 => zLoop tg tb E ys c1
theorem s_for {iter : Expr} {body : List Stmt} {t : TGd} {tb : TSd} (hp : PassesOwn (model X.prog X.w) X.A X.env X.xe) (hc : X.calm = true) (hi : DI X tg iter ti) (hg : DG X tg t) (hb : DSs X body tb)
    (hs : ∀ x, foldedSetIterable iter X.env x = pure x := by intro _; rfl) : DS X (.For tg iter body [] pos) (zFor ti t tb) := by
  obtain ⟨wi, pi, vi⟩ := hi.ex
  obtain ⟨g, pg, vg⟩ := hg.ex
  obtain ⟨ts, pb, vb⟩ := hb.ex
  refine ⟨_, ps_for hp hc pi pg pb hs, fun B c s G H D E st k q => vi B c s G H _ _ st q fun J ys c1 G1 H1 st1 e1 ok q1 => ?_⟩
  obtain ⟨I, i0, turn, fin⟩ := q1
  refine ⟨fun i m s' H' => m = ys.length - i ∧ i ≤ ys.length ∧ ∃ c' G', Stt X.K B c' s' G' H' ∧ Same G1 G' ∧ I i c', ⟨ys.length, rfl, Nat.zero_le _, c1, G1, st1, Same.refl _, i0⟩, ?_⟩
  rintro i m s' H' ⟨rfl, hi, c', G', st', e', hI⟩
  by_cases hlt : i < ys.length
  · refine .inr ⟨((ok c' s' G' H' st' e' i).2 hlt).1, fun s2 H2 => ∃ c2 G2, Stt X.K B c2 s2 G2 H2 ∧ Same G1 G2 ∧ I (i + 1) c2, fun s2 H2 ⟨c2, G2, st2, e2, hI2⟩ => ⟨ys.length - (i + 1), by omega, rfl, hlt, c2, G2, st2, e2, hI2⟩, fun x H2 hy => ?_⟩
    obtain ⟨G2, y, hy1, st2, e2, dy⟩ := ((ok c' s' G' H' st' e' i).2 hlt).2 x H2 hy
    refine vg B c' s' G2 H2 x y _ _ st2 dy (turn i y c' hy1 hI) fun c3 s3 st3 q3 => ?_
    have e13 : Same G1 G2 := e'.trans e2
    exact vb B c3 s3 G2 H2 _ { E with nx := I (i + 1), ct := I (i + 1), bk := E.nx } st3 ⟨fun c4 s4 G4 H4 st4 e4 q4 => ⟨c4, G4, st4, e13.trans e4, q4⟩, fun r c4 v s4 G4 H4 st4 e4 q4 => k.rt r c4 v s4 G4 H4 st4 ((e1.trans e13).trans e4) q4, fun c4 s4 G4 H4 st4 e4 q4 => k.nx c4 s4 G4 H4 st4 ((e1.trans e13).trans e4) q4, fun c4 s4 G4 H4 st4 e4 q4 => ⟨c4, G4, st4, e13.trans e4, q4⟩⟩ q3
  · have e : i = ys.length := by omega
    subst e
    exact .inl ⟨(ok c' s' G' H' st' e' _).1 (Nat.le_refl _), k.nx c' s' G' H' st' (e1.trans e') (fin c' hI)⟩
/-- while -/
def zWhile (tc : TB) (tb : TSd) : TSd := fun E c => ∃ I : Nat → Ctx → Prop, (∃ m, I m c) ∧ ∀ m c, I m c → tc c fun b c1 => if b = true then tb { E with nx := fun c' => ∃ m', m' < m ∧ I m' c', ct := fun c' => ∃ m', m' < m ∧ I m' c', bk := E.nx } c1 else E.nx c1
theorem s_while {body : List Stmt} {tc : TB} {tb : TSd} (hp : PassesOwn (model X.prog X.w) X.A X.env X.xe) (hc : DT X e tc) (hb : DSs X body tb) : DS X (.While e body [] pos) (zWhile tc tb) := by
  obtain ⟨tt, pc, vc⟩ := hc.ex
  obtain ⟨ts, pb, vb⟩ := hb.ex
  refine ⟨_, ps_while hp pc pb, fun B c s G H D E st k q => ?_⟩
  obtain ⟨I, ⟨m0, i0⟩, turn⟩ := q
  refine ⟨fun m s' H' => ∃ c' G', Stt X.K B c' s' G' H' ∧ Same G G' ∧ I m c', ⟨m0, c, G, st, Same.refl _, i0⟩, ?_⟩
  rintro m s' H' ⟨c', G', st', e', hI⟩
  refine vc B c' s' G' H' _ _ st' (turn m c' hI) fun b c1 G1 H1 st1 e1 q1 => ?_
  cases b with
  | true =>
    rw [if_pos rfl] at q1 ⊢
    refine ⟨fun s2 H2 => ∃ m', m' < m ∧ ∃ c2 G2, Stt X.K B c2 s2 G2 H2 ∧ Same G G2 ∧ I m' c2, fun s2 H2 h => h, ?_⟩
    have e01 := e'.trans e1
    exact vb B c1 s' G1 H1 _ { E with nx := fun c' => ∃ m', m' < m ∧ I m' c', ct := fun c' => ∃ m', m' < m ∧ I m' c', bk := E.nx } st1 ⟨fun c4 s4 G4 H4 st4 e4 ⟨m', h1, h2⟩ => ⟨m', h1, c4, G4, st4, e01.trans e4, h2⟩, fun r c4 v s4 G4 H4 st4 e4 q4 => k.rt r c4 v s4 G4 H4 st4 (e01.trans e4) q4, fun c4 s4 G4 H4 st4 e4 q4 => k.nx c4 s4 G4 H4 st4 (e01.trans e4) q4, fun c4 s4 G4 H4 st4 e4 ⟨m', h1, h2⟩ => ⟨m', h1, c4, G4, st4, e01.trans e4, h2⟩⟩ q1
  | false =>
    rw [if_neg Bool.false_ne_true] at q1 ⊢
    exact k.nx c1 s' G1 H1 st1 (e'.trans e1) q1
end

/-! ### defs -/
abbrev TF := Ctx → (S → Ctx → Prop) → Prop
def SpD (K : PySem.W.Frag) (T : TF) : Sp := fun vs H Q _ => ∃ (G : Hp) (io : List Addr) (a : Ctx) (Q1 : S → Ctx → Prop), Stt K ⟨H, G, io⟩ a (vs.map some) G H ∧ T a Q1 ∧
  ∀ r c v s G' H', Stt K ⟨H, G, io⟩ (r :: c) (some v :: s) G' H' → Q1 r c → Q v H'
theorem reps_more {K : PySem.W.Frag} {B : Base} {G H : Hp} {c : Ctx} {s : L2.St} {A : List Addr} (h : Reps K B G H c s A) (n : Nat) : Reps K B G H (c ++ List.replicate n .no) (s ++ List.replicate n none) A := by
  induction h with
  | nil =>
    induction n with
    | zero => exact .nil
    | succ n ih => exact .no ih
  | no _ ih => exact .no ih
  | d hd _ ih => exact .d hd ih
  | f hd _ ih => exact .f hd ih
  | o ho hw _ ih => exact .o ho hw ih
/-- THE RULE for a def over data -/
theorem fn_d {P : Program} {w : World} {K : PySem.W.Frag} {mg : Str → Option Value} {base : Heap} {x qual : Str} {st : Stmt} {f : Addr} {fd : FuncData} {N ps : List Str} {k : Nat} {T : TF} {t : TSd} (F : Fun K x qual st f fd) (sc : FnScope N ps (defScope st))
    (hT : ∀ a Q, T a Q → a.length = ps.length ∧ t { nx := fun c => Q (.d .none) c, rt := Q } (a ++ List.replicate (N.length - ps.length) .no))
    (body : ∀ (cdv : Value) (A : Around) (outer : List Env) (s : Shared) (H : Hp) (E : XK), Room k (A.deeper (envOfC qual (defScope st) s.heap.objs.size f cdv)) →
      DSs (cxOf CX0 P w K mg base N qual (defScope st) f cdv A outer s H E).nox (defBody st) t) : FnOk P w K mg base CX0 (k + 1) f fd ps (SpD K T) := by
  have hl : ∀ vs H Q E, SpD K T vs H Q E → vs.length = ps.length := fun vs H Q E h => by
    obtain ⟨G, io, a, Q1, ⟨A, r, _⟩, h2, _⟩ := h
    have := r.len
    rw [List.length_map] at this
    rw [this]
    exact (hT a Q1 h2).1
  refine F.ok sc hl (fun cdv A outer s H vs Q E hr h => ?_)
  obtain ⟨ts, p, v⟩ := (body cdv A outer s H E hr).ex
  refine ⟨ts, p, ?_⟩
  have lv := hl _ _ _ _ h
  obtain ⟨G, io, a, Q1, ⟨A1, r, wd⟩, h2, h3⟩ := h
  have st0 : Stt K ⟨H, G, io⟩ (a ++ List.replicate (N.length - ps.length) .no) (L2.start N vs) G H := by
    refine ⟨A1, ?_, wd⟩
    unfold L2.start
    rw [lv]
    exact reps_more r _
  exact v ⟨H, G, io⟩ _ _ G H _ { nx := fun c => Q1 (.d .none) c, rt := Q1 } st0 ⟨fun c s' G' H' st' _ q => h3 (.d .none) c .non s' G' H' (st'.push_d .non) q, fun r c v s' G' H' st' _ q => h3 r c v s' G' H' st' q, fun _ _ _ _ _ _ q => q.elim, fun _ _ _ _ _ _ q => q.elim⟩ (hT a Q1 h2).2

/-- .. whose first argument is a lent list of which a fact is known: its items told at the entry -/
theorem fn_dP {P : Program} {w : World} {K : PySem.W.Frag} {mg : Str → Option Value} {base : Heap} {x qual : Str} {st : Stmt} {f : Addr} {fd : FuncData} {N ps : List Str} {k : Nat} {T : TF} {t : TSd} (F : Fun K x qual st f fd) (sc : FnScope N ps (defScope st))
    (hT : ∀ a Q, T a Q → a.length = ps.length ∧ ∃ wo Pl, a[0]? = some (.o wo (.lstP Pl)) ∧ ∀ ds, Pl ds → t { nx := fun c => slO c 0 fun w R => w = wo ∧ asR R fun ds' => Pl ds' ∧ Q (.d .none) (c.set 0 (.o wo (.lstP Pl))), rt := fun r c => slO c 0 fun w R => w = wo ∧ asR R fun ds' => Pl ds' ∧ Q r (c.set 0 (.o wo (.lstP Pl))) } (a.set 0 (.o wo (.lst ds)) ++ List.replicate (N.length - ps.length) .no))
    (body : ∀ (cdv : Value) (A : Around) (outer : List Env) (s : Shared) (H : Hp) (E : XK), Room k (A.deeper (envOfC qual (defScope st) s.heap.objs.size f cdv)) →
      DSs (cxOf CX0 P w K mg base N qual (defScope st) f cdv A outer s H E).nox (defBody st) t) : FnOk P w K mg base CX0 (k + 1) f fd ps (SpD K T) := by
  have hl : ∀ vs H Q E, SpD K T vs H Q E → vs.length = ps.length := fun vs H Q E h => by
    obtain ⟨G, io, a, Q1, ⟨A, r, _⟩, h2, _⟩ := h
    have := r.len
    rw [List.length_map] at this
    rw [this]
    exact (hT a Q1 h2).1
  refine F.ok sc hl (fun cdv A outer s H vs Q E hr h => ?_)
  obtain ⟨ts, p, v⟩ := (body cdv A outer s H E hr).ex
  refine ⟨ts, p, ?_⟩
  have lv := hl _ _ _ _ h
  obtain ⟨G, io, a, Q1, st1, h2, h3⟩ := h
  obtain ⟨_, wo, Pl, g1, g2⟩ := hT a Q1 h2
  obtain ⟨ds, hP, st2⟩ := st1.open_ g1
  obtain ⟨A1, r, wd⟩ := st2.ex
  have st0 : Stt K ⟨H, G, io⟩ (a.set 0 (.o wo (.lst ds)) ++ List.replicate (N.length - ps.length) .no) (L2.start N vs) G H := by
    refine ⟨A1, ?_, wd⟩
    unfold L2.start
    rw [lv]
    exact reps_more r _
  refine v ⟨H, G, io⟩ _ _ G H _ { nx := fun c => slO c 0 fun w R => w = wo ∧ asR R fun ds' => Pl ds' ∧ Q1 (.d .none) (c.set 0 (.o wo (.lstP Pl))), rt := fun r c => slO c 0 fun w R => w = wo ∧ asR R fun ds' => Pl ds' ∧ Q1 r (c.set 0 (.o wo (.lstP Pl))) } st0 ⟨fun c s' G' H' st' _ q => ?_, fun rr c v s' G' H' st' _ q => ?_, fun _ _ _ _ _ _ q => q.elim, fun _ _ _ _ _ _ q => q.elim⟩ (g2 ds hP)
  · obtain ⟨w1, R1, q1, hw, q⟩ := slO_of q
    subst hw
    obtain ⟨ds', rfl, q2, q3⟩ := asR_of q
    exact h3 (.d .none) _ .non s' G' H' ((st'.shut q1 q2).push_d .non) q3
  · obtain ⟨w1, R1, q1, hw, q⟩ := slO_of q
    subst hw
    obtain ⟨ds', rfl, q2, q3⟩ := asR_of q
    exact h3 rr _ v s' G' H' (st'.shut (j := 1) (by simpa using q1) q2) q3

/-- what a caller has, behind a call to which the addresses io were lent -/
theorem wd_after {B : Base} {G H G' H' : Hp} {io A A' A2 : List Addr} (w0 : Wd B G H A) (hA : ∀ a ∈ A, H a ≠ none) (hio : ∀ a ∈ io, a ∈ A) (w : Wd ⟨H, G, io⟩ G' H' A') (n : A2.Nodup) (hi : ∀ a ∈ A2, a ∈ A' ∨ (a ∈ A ∧ a ∉ io)) : Wd B G' H' A2 where
  sub := w.sub
  nd := n
  out := fun a ha => by
    rcases hi a ha with z | ⟨z, _⟩
    · exact w.out a z
    · rw [w.newG a (hA a z)]; exact w0.out a z
  old := w0.old.trans w.old
  stay := fun a o q hn => by
    have q1 := w0.stay a o q hn
    refine w.stay a o q1 fun z => ?_
    rcases w0.lim a (hio a z) with y | y
    · exact hn y
    · rw [y] at q; cases q
  dom := fun a q => w0.dom a (w.dom a q)
  newG := fun a q => by
    rw [w.newG a (fun z => q (w0.dom a z))]
    exact w0.newG a q
  lim := fun a ha => by
    rcases hi a ha with z | ⟨z, _⟩
    · rcases w.lim a z with y | y
      · exact w0.lim a (hio a y)
      · exact .inr (w0.dom a y)
    · exact w0.lim a z
theorem keep_after {G H G' H' : Hp} {io A A' : List Addr} (hA : ∀ a ∈ A, H a ≠ none) (w : Wd ⟨H, G, io⟩ G' H' A') : ∀ a ∈ A, a ∉ io → H' a = H a := fun a ha hn => by
  cases q : H a with
  | none => exact absurd q (hA a ha)
  | some o => exact w.stay a o q hn
theorem after0 {K : PySem.W.Frag} {B : Base} {c c' : Ctx} {s s' : L2.St} {G H G' H' : Hp} (st : Stt K B c s G H) (st' : Stt K ⟨H, G, []⟩ c' s' G' H') : Stt K B c s G' H' ∧ Same G G' := by
  obtain ⟨A, r, w0⟩ := st.ex
  obtain ⟨A', r', w⟩ := st'.ex
  exact ⟨⟨A, r.mono w.old fun a ha => keep_after r.here w a ha (by simp), wd_after w0 r.here (by simp) w w0.nd fun a ha => .inr ⟨ha, by simp⟩⟩, w.old⟩
theorem after0o {K : PySem.W.Frag} {B : Base} {c c' : Ctx} {s s' : L2.St} {G H G' H' : Hp} {R : Res} {v : V} (st : Stt K B c s G H) (st' : Stt K ⟨H, G, []⟩ (.o none R :: c') (some v :: s') G' H') : Stt K B (.o none R :: c) (some v :: s) G' H' ∧ Same G G' := by
  obtain ⟨A, r, w0⟩ := st.ex
  obtain ⟨A', r', w⟩ := st'.ex
  cases r' with
  | @o _ _ _ _ _ Ar At h1 h2 r' =>
    obtain ⟨n1, n2, n3⟩ := List.nodup_append.mp w.nd
    have h2' : ∀ a ∈ Ar, H a = none := h2
    refine ⟨⟨Ar ++ A, .o h1 (fun a ha => w0.dom a (h2' a ha)) (r.mono w.old fun a ha => keep_after r.here w a ha (by simp)), wd_after w0 r.here (by simp) w ?_ fun a ha => ?_⟩, w.old⟩
    · refine List.nodup_append.mpr ⟨n1, w0.nd, fun a ha b hb z => ?_⟩
      subst z
      exact r.here a hb (h2' a ha)
    · rcases List.mem_append.mp ha with z | z
      · exact .inl (List.mem_append_left _ z)
      · exact .inr ⟨z, by simp⟩
/-- a call to which the owned thing in slot j is lent, as the first argument -/
theorem lend1 {K : PySem.W.Frag} {B : Base} {c : Ctx} {s : L2.St} {G H : Hp} {j : Nat} {w : Option V} {R : Res} (st : Stt K B c s G H) (e : c[j]? = some (.o w R)) :
    ∃ v A1, s[j]? = some (some v) ∧ (∀ {vs : List V} {xs : List PyData}, DpAll K G vs xs → Stt K ⟨H, G, A1⟩ (.o (some v) R :: xs.map S.d) ((v :: vs).map some) G H) ∧
      (∀ {r : S} {c' : Ctx} {vr : V} {s' : L2.St} {G' H' : Hp} {R' : Res}, Stt K ⟨H, G, A1⟩ (r :: c') (some vr :: s') G' H' → c'[0]? = some (.o (some v) R') →
        Same G G' ∧ (∀ x, r = .d x → Dp K G' vr x ∧ Stt K B (c.set j (.o w R')) s G' H') ∧ ∀ R2, r = .o none R2 → Stt K B (.o none R2 :: c.set j (.o w R')) (some vr :: s) G' H') := by
  obtain ⟨A, r, w0⟩ := st.ex
  obtain ⟨v, A1, h1, h2, h3, h4, h5, k⟩ := r.focus w0.nd e
  refine ⟨v, A1, h1, fun {vs xs} d => ?_, fun {r' c' vr s' G' H' R'} st' e' => ?_⟩
  · refine ⟨A1 ++ [], .o h2 rfl ?_, ?_⟩
    · clear k
      induction xs generalizing vs with
      | nil => cases d; exact .nil
      | cons x xs ih =>
        cases d with
        | cons d1 d2 => exact .d d1 (ih d2)
    · rw [List.append_nil]
      exact ⟨w0.sub, h4, fun a ha => w0.out a (h5 a ha), Same.refl _, fun a o q _ => q, fun a q => q, fun a q => rfl, fun a ha => .inl ha⟩
  · obtain ⟨A', r2, wd⟩ := st'.ex
    have keepA := keep_after r.here wd
    -- the lent thing, behind the call
    obtain ⟨v', A1', g1, g2, g3, g4, g5, _⟩ := r2.focus (j := 1) wd.nd (by simpa using e')
    obtain rfl : v' = v := g3
    have hl : ∀ a ∈ A1', a ∈ A1 ∨ a ∉ A := fun a ha => by
      rcases wd.lim a (g5 a ha) with z | z
      · exact .inl z
      · exact .inr fun y => r.here a y z
    have wo : WOk B w v' A1' := by
      cases w with
      | none =>
        intro a ha
        rcases wd.lim a (g5 a ha) with z | z
        · exact h3 a z
        · exact w0.dom a z
      | some u => exact h3
    obtain ⟨A2, r3, n3, q3⟩ := k wd.old (fun a ha hn => keepA a ha hn) g2 wo g4 hl
    refine ⟨wd.old, fun x hx => ?_, fun R2 hx => ?_⟩
    · subst hx
      cases r2 with
      | d hd r2 =>
        refine ⟨hd, A2, r3, wd_after w0 r.here h5 wd n3 fun a ha => ?_⟩
        rcases q3 a ha with z | z
        · exact .inl (g5 a z)
        · exact .inr z
    · subst hx
      cases r2 with
      | @o _ _ _ _ _ Ar At p1 p2 r2 =>
        have p2' : ∀ a ∈ Ar, H a = none := p2
        obtain ⟨n1, n2, n4⟩ := List.nodup_append.mp wd.nd
        -- its footprint lies in At
        obtain ⟨v2, A1b, b1, b2, b3, b4, b5, _⟩ := r2.focus (j := 0) n2 e'
        obtain rfl : v2 = v' := b3
        have hl2 : ∀ a ∈ A1b, a ∈ A1 ∨ a ∉ A := fun a ha => by
          rcases wd.lim a (List.mem_append_right _ (b5 a ha)) with z | z
          · exact .inl z
          · exact .inr fun y => r.here a y z
        have wo2 : WOk B w v2 A1b := by
          cases w with
          | none =>
            intro a ha
            rcases wd.lim a (List.mem_append_right _ (b5 a ha)) with z | z
            · exact h3 a z
            · exact w0.dom a z
          | some u => exact h3
        obtain ⟨A3, r4, n5, q4⟩ := k wd.old (fun a ha hn => keepA a ha hn) b2 wo2 b4 hl2
        refine ⟨Ar ++ A3, .o p1 (fun a ha => w0.dom a (p2' a ha)) r4, wd_after w0 r.here h5 wd ?_ fun a ha => ?_⟩
        · refine List.nodup_append.mpr ⟨n1, n5, fun a ha b hb z => ?_⟩
          subst z
          rcases q4 a hb with y | ⟨y, _⟩
          · exact n4 a ha a (b5 a y) rfl
          · exact r.here a y (p2' a ha)
        · rcases List.mem_append.mp ha with z | z
          · exact .inl (List.mem_append_left _ z)
          · rcases q4 a z with y | y
            · exact .inl (List.mem_append_right _ (b5 a y))
            · exact .inr y
theorem reps_data {K : PySem.W.Frag} {B : Base} {G H : Hp} : ∀ {vs : List V} {xs : List PyData}, DpAll K G vs xs → Reps K B G H (xs.map S.d) (vs.map some) []
  | _, [], h => by cases h; exact .nil
  | _, x :: xs, h => by
    cases h with
    | cons h1 h2 => exact .d h1 (reps_data h2)
theorem stt_data {K : PySem.W.Frag} {G H : Hp} {vs : List V} {xs : List PyData} (e : Same G H) (h : DpAll K G vs xs) : Stt K ⟨H, G, []⟩ (xs.map S.d) (vs.map some) G H :=
  ⟨[], reps_data h, e, List.nodup_nil, by simp, Same.refl _, fun a o q _ => q, fun a q => q, fun a q => rfl, by simp⟩

/-- what is done with a call's answer: data wanted; a new owned thing wanted; the same where a thing was lent -/
def kD (Q : PyData → Prop) : S → Ctx → Prop := fun r _ => match r with
  | .d x => Q x
  | .o none R => R.fz Q
  | _ => False
def kO (Q : Res → Prop) : S → Ctx → Prop := fun r _ => match r with
  | .o none R => Q R
  | _ => False
def kL (v : V) (Q : PyData → Res → Prop) : S → Ctx → Prop := fun r c => ∃ R', c[0]? = some (.o (some v) R') ∧ kD (fun x => Q x R') r c
def kLO (v : V) (Q : Res → Res → Prop) : S → Ctx → Prop := fun r c => ∃ R', c[0]? = some (.o (some v) R') ∧ kO (fun x => Q x R') r c
theorem kD_d {Q : PyData → Prop} {x : PyData} {c : Ctx} : kD Q (.d x) c = Q x := rfl
theorem kD_o {Q : PyData → Prop} {R : Res} {c : Ctx} : kD Q (.o none R) c = R.fz Q := rfl
theorem kO_o {Q : Res → Prop} {R : Res} {c : Ctx} : kO Q (.o none R) c = Q R := rfl
theorem fz_l {ds : List PyData} {Q : PyData → Prop} : (Res.lst ds).fz Q = Q (.list ds) := rfl
theorem fz_P {P : List PyData → Prop} {Q : PyData → Prop} : (Res.lstP P).fz Q = ∀ ds, P ds → Q (.list ds) := rfl
/-- what a def hands back, its own names let go; the same, the lent thing being R -/
def ret (Q : S → Ctx → Prop) (r : S) : Prop := ∀ c, Q r c
def retL (v : V) (R : Res) (Q : S → Ctx → Prop) (r : S) : Prop := ∀ c : Ctx, c[0]? = some (.o (some v) R) → Q r c
theorem ret_d {Q : PyData → Prop} {x : PyData} : ret (kD Q) (.d x) = Q x := propext ⟨fun h => h [], fun h _ => h⟩
theorem ret_o {Q : PyData → Prop} {R : Res} : ret (kD Q) (.o none R) = R.fz Q := propext ⟨fun h => h [], fun h _ => h⟩
theorem ret_O {Q : Res → Prop} {R : Res} : ret (kO Q) (.o none R) = Q R := propext ⟨fun h => h [], fun h _ => h⟩
theorem retL_d {v : V} {Q : PyData → Res → Prop} {x : PyData} {R : Res} : retL v R (kL v Q) (.d x) = Q x R :=
  propext ⟨fun h => by
    obtain ⟨R', e, q⟩ := h [.o (some v) R] rfl
    cases e
    exact q, fun q c e => ⟨R, e, q⟩⟩
theorem retL_o {v : V} {Q : PyData → Res → Prop} {R2 R : Res} : retL v R (kL v Q) (.o none R2) = R2.fz fun x => Q x R :=
  propext ⟨fun h => by
    obtain ⟨R', e, q⟩ := h [.o (some v) R] rfl
    cases e
    exact q, fun q c e => ⟨R, e, q⟩⟩
theorem retL_O {v : V} {Q : Res → Res → Prop} {R2 R : Res} : retL v R (kLO v Q) (.o none R2) = Q R2 R :=
  propext ⟨fun h => by
    obtain ⟨R', e, q⟩ := h [.o (some v) R] rfl
    cases e
    exact q, fun q c e => ⟨R, e, q⟩⟩
section
variable {X : Cx} {e : Expr} {es : List Expr} {tl : TL} {x : Str} {p pos : Pos} {k : Nat} {f : Addr} {fd : FuncData} {ps : List Str} {T : TF}
/-- a call with data alone: its answer data (an owned answer is frozen) -/
def uCall (T : TF) (t : TL) : TD := fun c Q => t c fun xs c1 => T (xs.map S.d) (kD fun x => Q x c1)
theorem d_call {ds : List Value} (F : FnOk X.prog X.w X.K X.mg X.base CX0 k f fd ps (SpD X.K T)) (hr : Room k X.A) (hm : X.mg x = some (.ref f)) (hk : PySem.W.keepIn X.K (.ref f) = true) (hb : Binds X.K fd ps []) (ha : DA X (e :: es) tl) (hg : Gl X x := by rfl)
    (hdb : (x == ("__debug__" : Str)) = false := by decide) (he : starEach (e :: es) X.env = (false, eval e X.env) :: starEach es X.env := by rfl) (hpl : (backTo pos (starEach es X.env)).any (·.1) = false := by rfl) : DE X (.Call (.Name x p) (e :: es) [] pos) (uCall T tl) := by
  obtain ⟨ta, pa, va⟩ := ha.ex
  refine ⟨_, pe_call F hr hg hm hk hb .nil pass0 pa hdb he hpl, fun B c s G H Q R st q k => va B c s G H _ _ st q fun vs xs c1 G1 H1 st1 e1 d1 q1 => ?_⟩
  rw [List.append_nil]
  refine ⟨G1, [], xs.map S.d, _, stt_data st1.sub d1, q1, fun r c' v s' G' H' st' q2 => ?_⟩
  cases r with
  | d y =>
    obtain ⟨st2, e2⟩ := after0 st1 st'
    obtain ⟨A', r', _⟩ := st'.ex
    cases r' with
    | d hd _ => exact k v y c1 G' H' st2 (e1.trans e2) hd q2
  | o w R2 =>
    cases w with
    | none =>
      obtain ⟨st2, e2⟩ := after0o st1 st'
      obtain ⟨G2, d, a1, a2, a3, a4⟩ := st2.frzR q2
      exact k v d c1 G2 H' a1 ((e1.trans e2).trans a2) a3 a4
    | some _ => exact q2.elim
  | no => exact q2.elim
  | f _ => exact q2.elim
/-- .. its answer a new owned thing -/
def oCall (T : TF) (t : TL) : TR := fun c Q => t c fun xs c1 => T (xs.map S.d) (kO fun R => Q R c1)
theorem o_call (F : FnOk X.prog X.w X.K X.mg X.base CX0 k f fd ps (SpD X.K T)) (hr : Room k X.A) (hm : X.mg x = some (.ref f)) (hk : PySem.W.keepIn X.K (.ref f) = true) (hb : Binds X.K fd ps []) (ha : DA X (e :: es) tl) (hg : Gl X x := by rfl)
    (hdb : (x == ("__debug__" : Str)) = false := by decide) (he : starEach (e :: es) X.env = (false, eval e X.env) :: starEach es X.env := by rfl) (hpl : (backTo pos (starEach es X.env)).any (·.1) = false := by rfl) : DO X (.Call (.Name x p) (e :: es) [] pos) (oCall T tl) := by
  obtain ⟨ta, pa, va⟩ := ha.ex
  refine ⟨_, pe_call F hr hg hm hk hb .nil pass0 pa hdb he hpl, fun B c s G H Q R st q k => va B c s G H _ _ st q fun vs xs c1 G1 H1 st1 e1 d1 q1 => ?_⟩
  rw [List.append_nil]
  refine ⟨G1, [], xs.map S.d, _, stt_data st1.sub d1, q1, fun r c' v s' G' H' st' q2 => ?_⟩
  cases r with
  | o w R2 =>
    cases w with
    | none =>
      obtain ⟨st2, e2⟩ := after0o st1 st'
      exact k v R2 c1 G' H' st2 (e1.trans e2) q2
    | some _ => exact q2.elim
  | d _ => exact q2.elim
  | no => exact q2.elim
  | f _ => exact q2.elim
/-- a call to which slot j is lent as the first argument -/
def uLend (T : TF) (j : Nat) (t : TL) : TD := fun c Q => slO c j fun _ _ => t c fun xs c1 => slO c1 j fun w R => ∀ v, T (.o (some v) R :: xs.map S.d) (kL v fun x R' => Q x (c1.set j (.o w R')))
theorem d_lend (j : Nat) {y : Str} {py : Pos} (F : FnOk X.prog X.w X.K X.mg X.base CX0 k f fd ps (SpD X.K T)) (hr : Room k X.A) (hm : X.mg x = some (.ref f)) (hk : PySem.W.keepIn X.K (.ref f) = true) (hb : Binds X.K fd ps []) (ha : DA X es tl) (hN : X.N[j]? = some y := by rfl) (hv : Vis X.env.scope y := by first | exact Or.inl rfl | exact Or.inr (Or.inl rfl) | exact Or.inr (Or.inr rfl)) (hd : (y == ("__debug__" : Str)) = false := by decide)
    (hcd : (y == ("__classdict__" : Str)) = false := by decide) (hg : Gl X x := by rfl)
    (hdb : (x == ("__debug__" : Str)) = false := by decide) (he : starEach (.Name y py :: es) X.env = (false, eval (.Name y py) X.env) :: starEach es X.env := by rfl) (hpl : (backTo pos (starEach es X.env)).any (·.1) = false := by rfl) : DE X (.Call (.Name x p) (.Name y py :: es) [] pos) (uLend T j tl) := by
  obtain ⟨ta, pa, va⟩ := ha.ex
  refine ⟨_, pe_call F hr hg hm hk hb .nil pass0 (pa_cons (pe_var hN hv hd hcd) pa he) hdb he hpl, fun B c s G H Q R st q k => ?_⟩
  obtain ⟨w0, R0, g0, q⟩ := slO_of q
  obtain ⟨v0, hv0⟩ := st.own_at g0
  refine ⟨v0, hv0, va B c s G H _ _ st q fun vs xs c1 G1 H1 st1 e1 d1 q1 => ?_⟩
  obtain ⟨w, R1, g1, q1⟩ := slO_of q1
  obtain ⟨v, A1, hv1, ent, aft⟩ := lend1 st1 g1
  rw [hv0] at hv1
  cases hv1
  rw [List.append_nil]
  refine ⟨G1, A1, _, _, ent d1, q1 v0, fun r c' vr s' G' H' st' q2 => ?_⟩
  obtain ⟨R', g2, q2⟩ := q2
  obtain ⟨e2, h1, h2⟩ := aft st' g2
  cases r with
  | d y =>
    obtain ⟨hd, st2⟩ := h1 y rfl
    exact k vr y _ G' H' st2 (e1.trans e2) hd q2
  | o w R2 =>
    cases w with
    | none =>
      obtain ⟨G2, d, a1, a2, a3, a4⟩ := (h2 R2 rfl).frzR q2
      exact k vr d _ G2 H' a1 ((e1.trans e2).trans a2) a3 a4
    | some _ => exact q2.elim
  | no => exact q2.elim
  | f _ => exact q2.elim
def oLend (T : TF) (j : Nat) (t : TL) : TR := fun c Q => slO c j fun _ _ => t c fun xs c1 => slO c1 j fun w R => ∀ v, T (.o (some v) R :: xs.map S.d) (kLO v fun R2 R' => Q R2 (c1.set j (.o w R')))
theorem o_lend (j : Nat) {y : Str} {py : Pos} (F : FnOk X.prog X.w X.K X.mg X.base CX0 k f fd ps (SpD X.K T)) (hr : Room k X.A) (hm : X.mg x = some (.ref f)) (hk : PySem.W.keepIn X.K (.ref f) = true) (hb : Binds X.K fd ps []) (ha : DA X es tl) (hN : X.N[j]? = some y := by rfl) (hv : Vis X.env.scope y := by first | exact Or.inl rfl | exact Or.inr (Or.inl rfl) | exact Or.inr (Or.inr rfl)) (hd : (y == ("__debug__" : Str)) = false := by decide)
    (hcd : (y == ("__classdict__" : Str)) = false := by decide) (hg : Gl X x := by rfl)
    (hdb : (x == ("__debug__" : Str)) = false := by decide) (he : starEach (.Name y py :: es) X.env = (false, eval (.Name y py) X.env) :: starEach es X.env := by rfl) (hpl : (backTo pos (starEach es X.env)).any (·.1) = false := by rfl) : DO X (.Call (.Name x p) (.Name y py :: es) [] pos) (oLend T j tl) := by
  obtain ⟨ta, pa, va⟩ := ha.ex
  refine ⟨_, pe_call F hr hg hm hk hb .nil pass0 (pa_cons (pe_var hN hv hd hcd) pa he) hdb he hpl, fun B c s G H Q R st q k => ?_⟩
  obtain ⟨w0, R0, g0, q⟩ := slO_of q
  obtain ⟨v0, hv0⟩ := st.own_at g0
  refine ⟨v0, hv0, va B c s G H _ _ st q fun vs xs c1 G1 H1 st1 e1 d1 q1 => ?_⟩
  obtain ⟨w, R1, g1, q1⟩ := slO_of q1
  obtain ⟨v, A1, hv1, ent, aft⟩ := lend1 st1 g1
  rw [hv0] at hv1
  cases hv1
  rw [List.append_nil]
  refine ⟨G1, A1, _, _, ent d1, q1 v0, fun r c' vr s' G' H' st' q2 => ?_⟩
  obtain ⟨R', g2, q2⟩ := q2
  obtain ⟨e2, h1, h2⟩ := aft st' g2
  cases r with
  | o w R2 =>
    cases w with
    | none => exact k vr R2 _ G' H' (h2 R2 rfl) (e1.trans e2) q2
    | some _ => exact q2.elim
  | d _ => exact q2.elim
  | no => exact q2.elim
  | f _ => exact q2.elim
end

/-! ### defs by name -/
/-- a def of the text that keeps its promise over data -/
structure Cal (P : Program) (w : World) (K : PySem.W.Frag) (mg : Str → Option Value) (base : Heap) (x : Str) (k : Nat) (ps : List Str) (T : TF) : Prop where
  ex : ∃ f fd, FnOk P w K mg base CX0 k f fd ps (SpD K T) ∧ mg x = some (.ref f) ∧ PySem.W.keepIn K (.ref f) = true ∧ Binds K fd ps []
theorem Cal.of {P : Program} {w : World} {K : PySem.W.Frag} {mg : Str → Option Value} {base : Heap} {x : Str} {k : Nat} {ps : List Str} {T : TF} {f : Addr} {fd : FuncData}
    (h1 : FnOk P w K mg base CX0 k f fd ps (SpD K T)) (h2 : mg x = some (.ref f)) (h3 : PySem.W.keepIn K (.ref f) = true) (h4 : Binds K fd ps []) : Cal P w K mg base x k ps T := ⟨f, fd, h1, h2, h3, h4⟩
/-- what the top has left of a def -/
structure Df (K : PySem.W.Frag) (mg : Str → Option Value) (x : Str) (st : Stmt) (ps : List Str) : Prop where
  ex : ∃ f fd, Fun K x x st f fd ∧ mg x = some (.ref f) ∧ Binds K fd ps []
section
variable {X : Cx} {e : Expr} {es : List Expr} {tl : TL} {x : Str} {p pos : Pos} {k : Nat} {ps : List Str} {T : TF}
theorem d_callC (C : Cal X.prog X.w X.K X.mg X.base x k ps T) (hr : Room k X.A) (ha : DA X (e :: es) tl) (hg : Gl X x := by rfl)
    (hdb : (x == ("__debug__" : Str)) = false := by decide) (he : starEach (e :: es) X.env = (false, eval e X.env) :: starEach es X.env := by rfl) (hpl : (backTo pos (starEach es X.env)).any (·.1) = false := by rfl) : DE X (.Call (.Name x p) (e :: es) [] pos) (uCall T tl) :=
  let ⟨_, _, h1, h2, h3, h4⟩ := C.ex; d_call (ds := []) h1 hr h2 h3 h4 ha hg hdb he hpl
theorem o_callC (C : Cal X.prog X.w X.K X.mg X.base x k ps T) (hr : Room k X.A) (ha : DA X (e :: es) tl) (hg : Gl X x := by rfl)
    (hdb : (x == ("__debug__" : Str)) = false := by decide) (he : starEach (e :: es) X.env = (false, eval e X.env) :: starEach es X.env := by rfl) (hpl : (backTo pos (starEach es X.env)).any (·.1) = false := by rfl) : DO X (.Call (.Name x p) (e :: es) [] pos) (oCall T tl) :=
  let ⟨_, _, h1, h2, h3, h4⟩ := C.ex; o_call h1 hr h2 h3 h4 ha hg hdb he hpl
theorem d_lendC (j : Nat) {y : Str} {py : Pos} (C : Cal X.prog X.w X.K X.mg X.base x k ps T) (hr : Room k X.A) (ha : DA X es tl) (hN : X.N[j]? = some y := by rfl) (hv : Vis X.env.scope y := by first | exact Or.inl rfl | exact Or.inr (Or.inl rfl) | exact Or.inr (Or.inr rfl)) (hd : (y == ("__debug__" : Str)) = false := by decide)
    (hcd : (y == ("__classdict__" : Str)) = false := by decide) (hg : Gl X x := by rfl)
    (hdb : (x == ("__debug__" : Str)) = false := by decide) (he : starEach (.Name y py :: es) X.env = (false, eval (.Name y py) X.env) :: starEach es X.env := by rfl) (hpl : (backTo pos (starEach es X.env)).any (·.1) = false := by rfl) : DE X (.Call (.Name x p) (.Name y py :: es) [] pos) (uLend T j tl) :=
  let ⟨_, _, h1, h2, h3, h4⟩ := C.ex; d_lend j h1 hr h2 h3 h4 ha hN hv hd hcd hg hdb he hpl
theorem o_lendC (j : Nat) {y : Str} {py : Pos} (C : Cal X.prog X.w X.K X.mg X.base x k ps T) (hr : Room k X.A) (ha : DA X es tl) (hN : X.N[j]? = some y := by rfl) (hv : Vis X.env.scope y := by first | exact Or.inl rfl | exact Or.inr (Or.inl rfl) | exact Or.inr (Or.inr rfl)) (hd : (y == ("__debug__" : Str)) = false := by decide)
    (hcd : (y == ("__classdict__" : Str)) = false := by decide) (hg : Gl X x := by rfl)
    (hdb : (x == ("__debug__" : Str)) = false := by decide) (he : starEach (.Name y py :: es) X.env = (false, eval (.Name y py) X.env) :: starEach es X.env := by rfl) (hpl : (backTo pos (starEach es X.env)).any (·.1) = false := by rfl) : DO X (.Call (.Name x p) (.Name y py :: es) [] pos) (oLend T j tl) :=
  let ⟨_, _, h1, h2, h3, h4⟩ := C.ex; o_lend j h1 hr h2 h3 h4 ha hN hv hd hcd hg hdb he hpl
end
/-! ### isinstance: the built-in classes -/
theorem kt_int {K : PySem.W.Frag} : ∀ x : PyData, (∀ kv, x ≠ .dict kv) → PySem.W.kitOne K (tyD x) (.type "int") = some (isIntD x)
  | .none, _ => kit_ty (r := false) (by decide +kernel)
  | .bool _, _ => kit_ty (r := true) (by decide +kernel)
  | .int _, _ => kit_ty (r := true) (by decide +kernel)
  | .str _, _ => kit_ty (r := false) (by decide +kernel)
  | .list _, _ => kit_ty (r := false) (by decide +kernel)
  | .tuple _, _ => kit_ty (r := false) (by decide +kernel)
  | .dict kv, h => absurd rfl (h kv)
theorem kt_bool {K : PySem.W.Frag} : ∀ x : PyData, (∀ kv, x ≠ .dict kv) → PySem.W.kitOne K (tyD x) (.type "bool") = some (isBoolD x)
  | .none, _ => kit_ty (r := false) (by decide +kernel)
  | .bool _, _ => kit_ty (r := true) (by decide +kernel)
  | .int _, _ => kit_ty (r := false) (by decide +kernel)
  | .str _, _ => kit_ty (r := false) (by decide +kernel)
  | .list _, _ => kit_ty (r := false) (by decide +kernel)
  | .tuple _, _ => kit_ty (r := false) (by decide +kernel)
  | .dict kv, h => absurd rfl (h kv)
theorem kt_str {K : PySem.W.Frag} : ∀ x : PyData, (∀ kv, x ≠ .dict kv) → PySem.W.kitOne K (tyD x) (.type "str") = some (isStrD x)
  | .none, _ => kit_ty (r := false) (by decide +kernel)
  | .bool _, _ => kit_ty (r := false) (by decide +kernel)
  | .int _, _ => kit_ty (r := false) (by decide +kernel)
  | .str _, _ => kit_ty (r := true) (by decide +kernel)
  | .list _, _ => kit_ty (r := false) (by decide +kernel)
  | .tuple _, _ => kit_ty (r := false) (by decide +kernel)
  | .dict kv, h => absurd rfl (h kv)
theorem kt_list {K : PySem.W.Frag} : ∀ x : PyData, (∀ kv, x ≠ .dict kv) → PySem.W.kitOne K (tyD x) (.type "list") = some (isListD x)
  | .none, _ => kit_ty (r := false) (by decide +kernel)
  | .bool _, _ => kit_ty (r := false) (by decide +kernel)
  | .int _, _ => kit_ty (r := false) (by decide +kernel)
  | .str _, _ => kit_ty (r := false) (by decide +kernel)
  | .list _, _ => kit_ty (r := true) (by decide +kernel)
  | .tuple _, _ => kit_ty (r := false) (by decide +kernel)
  | .dict kv, h => absurd rfl (h kv)
theorem kt_tuple {K : PySem.W.Frag} : ∀ x : PyData, (∀ kv, x ≠ .dict kv) → PySem.W.kitOne K (tyD x) (.type "tuple") = some (isTupD x)
  | .none, _ => kit_ty (r := false) (by decide +kernel)
  | .bool _, _ => kit_ty (r := false) (by decide +kernel)
  | .int _, _ => kit_ty (r := false) (by decide +kernel)
  | .str _, _ => kit_ty (r := false) (by decide +kernel)
  | .list _, _ => kit_ty (r := false) (by decide +kernel)
  | .tuple _, _ => kit_ty (r := true) (by decide +kernel)
  | .dict kv, h => absurd rfl (h kv)
theorem bb_int : bootBuiltins "int" = some (.type "int") := by decide +kernel
theorem bb_bool : bootBuiltins "bool" = some (.type "bool") := by decide +kernel
theorem bb_str : bootBuiltins "str" = some (.type "str") := by decide +kernel
theorem bb_list : bootBuiltins "list" = some (.type "list") := by decide +kernel
theorem bb_tuple : bootBuiltins "tuple" = some (.type "tuple") := by decide +kernel
theorem hu65 {A : Around} {k : Nat} (hr : Room k A) : A.units + 65 < cLine := by have := hr.un; omega
/-! ### loops by what they compute -/
theorem rngD_get {lo : Int} {n i : Nat} {y : PyData} (h : (rngD lo n)[i]? = some y) : i < n ∧ y = .int (lo + i) := by
  unfold rngD at h
  rw [List.getElem?_map] at h
  by_cases hi : i < n
  · rw [List.getElem?_range hi] at h
    exact ⟨hi, (Option.some.inj h).symm⟩
  · rw [List.getElem?_eq_none (by simpa using hi)] at h
    cases h
/-- a state of one's own, folded over the items -/
theorem loop_fold {α : Type} {tg : TGd} {tb : TSd} {E : De} {ys : List PyData} {c : Ctx} (st : α → Ctx) (step : α → PyData → α) (a0 : α) (h0 : c = st a0)
    (turn : ∀ a y, y ∈ ys → tg y (st a) fun c2 => tb { E with nx := fun c => c = st (step a y), ct := fun c => c = st (step a y), bk := E.nx } c2) (fin : E.nx (st (ys.foldl step a0))) : zLoop tg tb E ys c := by
  refine ⟨fun i c => c = st ((ys.take i).foldl step a0), h0, fun i y c hy hc => ?_, fun c hc => ?_⟩
  · subst hc
    have e : ys.take (i + 1) = ys.take i ++ [y] := by rw [List.take_add_one, hy]; rfl
    simp only [e, List.foldl_append, List.foldl_cons, List.foldl_nil]
    exact turn _ y (List.mem_of_getElem? hy)
  · have hc' : c = st ((ys.take ys.length).foldl step a0) := hc
    rw [List.take_length] at hc'
    subst hc'
    exact fin
/-- a cut by a word of one's own; the walk sees a letter in its place -/
theorem cut_by {t u : TSd} {E : De} {c : Ctx} (M : Ctx → Prop) (h1 : ∀ N : Ctx → Prop, (∀ c, M c → N c) → t { E with nx := N } c) (h2 : ∀ c, M c → u E c) : zCut t u E c := ⟨M, h1 M fun _ h => h, h2⟩
theorem loop_by {tg : TGd} {tb : TSd} {E : De} {ys : List PyData} {c : Ctx} (I : Nat → Ctx → Prop) (h0 : I 0 c)
    (turn : ∀ i y c (N : Ctx → Prop), ys[i]? = some y → I i c → (∀ c, I (i + 1) c → N c) → tg y c fun c2 => tb { E with nx := N, ct := N, bk := E.nx } c2) (fin : ∀ c, I ys.length c → E.nx c) : zLoop tg tb E ys c :=
  ⟨I, h0, fun i y c hy hI => turn i y c _ hy hI fun _ h => h, fin⟩
theorem while_of {tc : TB} {tb : TSd} {E : De} {c : Ctx} (I : Nat → Ctx → Prop) (m0 : Nat) (h0 : I m0 c)
    (turn : ∀ m c (N : Ctx → Prop), I m c → (∀ m' c', m' < m → I m' c' → N c') → tc c fun b c1 => if b = true then tb { E with nx := N, ct := N, bk := E.nx } c1 else E.nx c1) : zWhile tc tb E c :=
  ⟨I, ⟨m0, h0⟩, fun m c hI => turn m c _ hI fun m' c' h1 h2 => ⟨m', h1, h2⟩⟩
/-- an invariant over the items so far -/
theorem loop_inv {tg : TGd} {tb : TSd} {E : De} {ys : List PyData} {c : Ctx} (I : Nat → Ctx → Prop) (h0 : I 0 c)
    (turn : ∀ i y c, ys[i]? = some y → I i c → tg y c fun c2 => tb { E with nx := I (i + 1), ct := I (i + 1), bk := E.nx } c2) (fin : ∀ c, I ys.length c → E.nx c) : zLoop tg tb E ys c := ⟨I, h0, turn, fin⟩
/-- a state that does not change -/
theorem loop_same {tg : TGd} {tb : TSd} {E : De} {ys : List PyData} {c : Ctx} (I : Ctx → Prop) (h0 : I c)
    (turn : ∀ y c, y ∈ ys → I c → tg y c fun c2 => tb { E with nx := I, ct := I, bk := E.nx } c2) (fin : ∀ c, I c → E.nx c) : zLoop tg tb E ys c := ⟨fun _ => I, h0, fun _ y c hy hc => turn y c (List.mem_of_getElem? hy) hc, fin⟩
instance : Inhabited V := ⟨.non⟩

/-! ### == of data -/
/-- data that can be compared, at most n deep -/
def Sh (n : Nat) (d : PyData) : Prop := d.canLay0 = true ∧ d.depth ≤ n
theorem shaped_of {n : Nat} {d : PyData} (h : Sh n d) (hn : n ≤ 64 := by decide) : SeqAt.shaped d = true := by
  unfold SeqAt.shaped
  rw [h.1, decide_eq_true (Nat.le_trans h.2 hn)]
  rfl
theorem shaped_iff {d : PyData} : SeqAt.shaped d = true ↔ Sh 64 d := ⟨fun h => ⟨SeqAt.canLay_of_shaped h, SeqAt.depth_of_shaped h⟩, fun h => shaped_of h⟩
theorem sh_non {n : Nat} : Sh n .none ↔ True := iff_true_intro ⟨rfl, Nat.zero_le _⟩
theorem sh_int {n : Nat} {i : Int} : Sh n (.int i) ↔ True := iff_true_intro ⟨rfl, Nat.zero_le _⟩
theorem sh_bool {n : Nat} {i : Bool} : Sh n (.bool i) ↔ True := iff_true_intro ⟨rfl, Nat.zero_le _⟩
theorem sh_str {n : Nat} {x : Str} : Sh n (.str x) ↔ PyData.strOk x = true := ⟨fun h => h.1, fun h => ⟨h, Nat.zero_le _⟩⟩
theorem sh_all {n : Nat} : ∀ {ds : List PyData}, (PyData.canLayAll0 ds = true ∧ PyData.depthAll ds ≤ n) ↔ ∀ d ∈ ds, Sh n d
  | [] => by simp [PyData.canLayAll0, PyData.depthAll]
  | d :: ds => by
    have ih := @sh_all n ds
    unfold PyData.canLayAll0 PyData.depthAll
    rw [Bool.and_eq_true, Nat.max_le]
    constructor
    · rintro ⟨⟨a, b⟩, c, e⟩ x hx
      rcases List.mem_cons.mp hx with rfl | hx
      · exact ⟨a, c⟩
      · exact ih.mp ⟨b, e⟩ x hx
    · intro h
      have h1 := h d List.mem_cons_self
      have h2 := ih.mpr fun x hx => h x (List.mem_cons_of_mem _ hx)
      exact ⟨⟨h1.1, h2.1⟩, h1.2, h2.2⟩
theorem sh_list {n : Nat} {ds : List PyData} : Sh (n + 1) (.list ds) ↔ ∀ d ∈ ds, Sh n d := by
  rw [← sh_all]
  unfold Sh PyData.canLay0 PyData.depth
  rw [Nat.add_le_add_iff_right]
theorem sh_tuple {n : Nat} {ds : List PyData} : Sh (n + 1) (.tuple ds) ↔ ∀ d ∈ ds, Sh n d := by
  rw [← sh_all]
  unfold Sh PyData.canLay0 PyData.depth
  rw [Nat.add_le_add_iff_right]
theorem Sh.mono {n m : Nat} {d : PyData} (h : Sh n d) (hm : n ≤ m) : Sh m d := ⟨h.1, Nat.le_trans h.2 hm⟩
theorem eqv_int {i j : Int} : PyData.eqv (.int i) (.int j) = (i == j) := by simp [PyData.eqv]
theorem eqv_str {i j : Str} : PyData.eqv (.str i) (.str j) = (i == j) := by simp [PyData.eqv]
theorem eqv_bool {i j : Bool} : PyData.eqv (.bool i) (.bool j) = (i == j) := by simp [PyData.eqv]
theorem eqv_list {i j : List PyData} : PyData.eqv (.list i) (.list j) = PyData.eqvAll i j := by simp [PyData.eqv]
theorem eqv_tuple {i j : List PyData} : PyData.eqv (.tuple i) (.tuple j) = PyData.eqvAll i j := by simp [PyData.eqv]
theorem eqvAll_cons {x y : PyData} {i j : List PyData} : PyData.eqvAll (x :: i) (y :: j) = (PyData.eqv x y && PyData.eqvAll i j) := by simp [PyData.eqvAll]
theorem eqvAll_nil : PyData.eqvAll [] [] = true := by simp [PyData.eqvAll]
theorem sz_0 : (0 ≤ sizeLine) ↔ True := iff_true_intro (by decide)
theorem sz_1 : (1 ≤ sizeLine) ↔ True := iff_true_intro (by decide)
theorem sz_2 : (2 ≤ sizeLine) ↔ True := iff_true_intro (by decide)
theorem sz_3 : (3 ≤ sizeLine) ↔ True := iff_true_intro (by decide)
theorem sz_4 : (4 ≤ sizeLine) ↔ True := iff_true_intro (by decide)
theorem sz_5 : (5 ≤ sizeLine) ↔ True := iff_true_intro (by decide)
theorem sz_6 : (6 ≤ sizeLine) ↔ True := iff_true_intro (by decide)
theorem sz_7 : (7 ≤ sizeLine) ↔ True := iff_true_intro (by decide)
theorem sz_8 : (8 ≤ sizeLine) ↔ True := iff_true_intro (by decide)
theorem sz_le {n : Nat} (h : n ≤ 16777216) : n ≤ sizeLine := h

/-! ### numbers -/
theorem mulA_l {i j : Int} (h1 : -(2 ^ 64) < i) (h2 : i < 2 ^ 64) : CMulA i j := .inl (.inl ⟨h1, h2⟩)
theorem mulA_r {i j : Int} (h1 : -(2 ^ 64) < j) (h2 : j < 2 ^ 64) : CMulA i j := .inl (.inr ⟨h1, h2⟩)
/-- a number of at most n bits -/
def Bd (n : Nat) (x : Int) : Prop := x.natAbs < 2 ^ n
instance {n : Nat} {x : Int} : Decidable (Bd n x) := inferInstanceAs (Decidable (x.natAbs < 2 ^ n))
theorem ca_0 : ((0 : Nat) : Int) = 0 := rfl
theorem ca_1 : ((1 : Nat) : Int) = 1 := rfl
theorem ca_2 : ((2 : Nat) : Int) = 2 := rfl
theorem ca_3 : ((3 : Nat) : Int) = 3 := rfl
theorem ca_4 : ((4 : Nat) : Int) = 4 := rfl
theorem ca_5 : ((5 : Nat) : Int) = 5 := rfl
theorem ca_6 : ((6 : Nat) : Int) = 6 := rfl
theorem powA {i j : Int} (h : (decide (0 ≤ j) && decide (j ≤ 1000000) && decide (i.natAbs < 2 ^ 64)) = true) : CPow i j := by
  rw [Bool.and_eq_true, Bool.and_eq_true] at h
  exact ⟨of_decide_eq_true h.1.1, of_decide_eq_true h.1.2, of_decide_eq_true h.2⟩
theorem Bd.mono {n m : Nat} {x : Int} (h : Bd n x) (hm : n ≤ m) : Bd m x := Nat.lt_of_lt_of_le h (Nat.pow_le_pow_right (by decide) hm)
theorem mulA_b {i j : Int} {n m : Nat} (hi : Bd n i) (hj : Bd m j) (h : n + m + 2 ≤ 1000000) : CMulA i j := .inr (wide_mul (a := n + 1) (b := m + 1) (hi.mono (Nat.le_succ n)) (hj.mono (Nat.le_succ m)) (Nat.succ_pos _) (Nat.succ_pos _) (by omega))
theorem bd_mul {i j : Int} {n m : Nat} (hi : Bd n i) (hj : Bd m j) : Bd (n + m) (i * j) := wide_lt hi hj
theorem bd_add {i j : Int} {n : Nat} (hi : Bd n i) (hj : Bd n j) : Bd (n + 1) (i + j) := by
  unfold Bd at *
  rw [Nat.pow_succ]
  omega
theorem bd_sub {i j : Int} {n : Nat} (hi : Bd n i) (hj : Bd n j) : Bd (n + 1) (i - j) := by
  unfold Bd at *
  rw [Nat.pow_succ]
  omega
theorem bd_neg {i : Int} {n : Nat} (hi : Bd n i) : Bd n (-i) := by
  unfold Bd at *
  omega
theorem divA_b {i j : Int} {n : Nat} (h0 : j ≠ 0) (hj : Bd n j) (h : n < 9000) : CDivA i j := by
  have h1 : j.natAbs < 2 ^ (n + 1) := hj.mono (Nat.le_succ n)
  exact ⟨h0, Nat.lt_of_lt_of_le (PySem.Flt.log2_lt_of (Nat.succ_pos _) h1) (by omega)⟩
theorem bd_of {x : Int} {n : Nat} (h1 : -(2 ^ n) < x) (h2 : x < 2 ^ n) : Bd n x := by
  unfold Bd
  have e : ((2 ^ n : Nat) : Int) = (2 : Int) ^ n := by simp
  rw [← e] at h1 h2
  omega
theorem fmod_pos {i j : Int} (h : 0 < j) : 0 ≤ i.fmod j ∧ i.fmod j < j := ⟨Int.fmod_nonneg_of_pos i h, Int.fmod_lt_of_pos i h⟩
theorem atI_of {α : Type} {xs : List α} {i : Int} (h0 : 0 ≤ i) (h1 : i < xs.length) : atI xs i = xs[i.toNat]? := by
  obtain ⟨n, rfl⟩ := Int.eq_ofNat_of_zero_le h0
  have hn : n < xs.length := by omega
  rw [show atI xs (n : Int) = some xs[n] from atI_nat (List.getElem?_eq_getElem hn)]
  simp [hn]

section
variable {α : Type} {x y z u : α} {xs : List α}
theorem atI_0 : atI (x :: xs) 0 = some x := atI_nat (j := 0) rfl
theorem atI_1 : atI (x :: y :: xs) 1 = some y := atI_nat (j := 1) rfl
theorem atI_2 : atI (x :: y :: z :: xs) 2 = some z := atI_nat (j := 2) rfl
theorem atI_3 : atI (x :: y :: z :: u :: xs) 3 = some u := atI_nat (j := 3) rfl
theorem atI_b1 : atI [x] (-1) = some x := atI_last [] x
theorem atI_b2 : atI [x, y] (-1) = some y := atI_last [x] y
theorem atI_b3 : atI [x, y, z] (-1) = some z := atI_last [x, y] z
end
section
variable {x y z u : PyData} {xs : List PyData} {Q : PyData → Prop} {P : Nat → Prop}
theorem atD_0 : atD (x :: xs) 0 Q = Q x := propext ⟨fun ⟨d, e, q⟩ => by rw [atI_0] at e; cases e; exact q, fun q => ⟨x, atI_0, q⟩⟩
theorem atD_1 : atD (x :: y :: xs) 1 Q = Q y := propext ⟨fun ⟨d, e, q⟩ => by rw [atI_1] at e; cases e; exact q, fun q => ⟨y, atI_1, q⟩⟩
theorem atD_2 : atD (x :: y :: z :: xs) 2 Q = Q z := propext ⟨fun ⟨d, e, q⟩ => by rw [atI_2] at e; cases e; exact q, fun q => ⟨z, atI_2, q⟩⟩
theorem atD_3 : atD (x :: y :: z :: u :: xs) 3 Q = Q u := propext ⟨fun ⟨d, e, q⟩ => by rw [atI_3] at e; cases e; exact q, fun q => ⟨u, atI_3, q⟩⟩
theorem atD_b1 : atD [x] (-1) Q = Q x := propext ⟨fun ⟨d, e, q⟩ => by rw [atI_b1] at e; cases e; exact q, fun q => ⟨x, atI_b1, q⟩⟩
theorem atD_b2 : atD [x, y] (-1) Q = Q y := propext ⟨fun ⟨d, e, q⟩ => by rw [atI_b2] at e; cases e; exact q, fun q => ⟨y, atI_b2, q⟩⟩
theorem atD_b3 : atD [x, y, z] (-1) Q = Q z := propext ⟨fun ⟨d, e, q⟩ => by rw [atI_b3] at e; cases e; exact q, fun q => ⟨z, atI_b3, q⟩⟩
theorem ixP_30 : ixP 3 0 P = P 0 := propext ⟨fun ⟨k, e, q⟩ => by cases e; exact q, fun q => ⟨0, rfl, q⟩⟩
theorem ixP_31 : ixP 3 1 P = P 1 := propext ⟨fun ⟨k, e, q⟩ => by cases e; exact q, fun q => ⟨1, rfl, q⟩⟩
theorem ixP_32 : ixP 3 2 P = P 2 := propext ⟨fun ⟨k, e, q⟩ => by cases e; exact q, fun q => ⟨2, rfl, q⟩⟩
end
theorem ixN_30 : ixN 3 0 = some 0 := rfl
theorem ixN_31 : ixN 3 1 = some 1 := rfl
theorem ixN_32 : ixN 3 2 = some 2 := rfl
theorem ixN_20 : ixN 2 0 = some 0 := rfl
theorem ixN_21 : ixN 2 1 = some 1 := rfl
theorem atI_ints {ns : List Int} {i : Int} (h0 : 0 ≤ i) (h1 : i < ns.length) : ∃ n ∈ ns, atI (ns.map PyData.int) i = some (.int n) := by
  rw [atI_of h0 (by simpa using h1), List.getElem?_map, List.getElem?_eq_getElem (show i.toNat < ns.length by omega)]
  exact ⟨_, List.getElem_mem _, rfl⟩

/-! ### the law's feed: [cell, count, script] -/
def FeedP (ds : List PyData) : Prop := ∃ (c k : Int) (ns : List Int), ds = [.int c, .int k, .list (ns.map PyData.int)]

/-! ### what the top has left -/
theorem fun_ofD {K : PySem.W.Frag} {x q : Str} {st : Stmt} {f : Addr} {fd : FuncData} (F : FunD K x q (defArgs st) (defBody st) (defScope st) [] [] f fd) : Fun K x q st f fd := by
  obtain ⟨oc, od, dV, kV, doc, pm, an, cdv, ct, osl, e, lk, hc, hd, _⟩ := F.ex
  have hN : dV = .none := by
    rcases hd with ⟨_, z⟩ | ⟨z, _⟩
    · exact z
    · exact absurd rfl z
  subst hN
  exact ⟨⟨oc, od, kV, doc, pm, an, cdv, ct, osl, e, lk, hc⟩, F.kp⟩
theorem df_of {K : PySem.W.Frag} {h : Heap} {mg : Str → Option Value} {fa : List He.Fa} {fn : List He.DefD} {x : Str} {st : Stmt} {ps : List Str} (X : K.In h) (G : h.Ns mainGlobals mg) (c : He.SaysD fa fn K) (i j : Nat)
    (hd : fn[i]? = some ⟨(x, none), x, x, defArgs st, defBody st, defScope st, [], []⟩) (hf : fa[j]? = some (.glo x))
    (hb : ∀ (kV doc pm : Value) (an : Option Addr) (cdv ct : Value) (us : List Value), us.length = ps.length → bindArgs (PySem.W.fnOf x x (defArgs st) (defBody st) (defScope st) .none kV doc pm an cdv ct) ⟨us, []⟩ = pure (ps.zip us)) : Df K mg x st ps := by
  obtain ⟨fd, F⟩ := c.def_ i hd
  have F2 := fun_ofD F
  exact ⟨_, fd, F2, He.glo_ok X G (c.fact j hf), F2.binds hb⟩
/-- the law: a script's list in, True out -/
def TLaw (T : TF) : Prop := ∀ (ns : List Int) (Q : S → Ctx → Prop), ns.length ≤ 63 → ret Q (.d (.bool true)) → T [.d (.list (ns.map PyData.int))] Q
theorem law_end {P : Program} {w : World} {K : PySem.W.Frag} {mg : Str → Option Value} {k : Nat} {T : TF} {fa : Addr} {st : Stmt} (hT : TLaw T) (D : Df K mg "law" st ["script"]) (hfa : mg "law" = some (.ref fa))
    (hb : ∀ (kV doc pm : Value) (an : Option Addr) (cdv ct : Value) (u : Value), bindArgs (PySem.W.fnOf "law" "law" (defArgs st) (defBody st) (defScope st) .none kV doc pm an cdv ct) ⟨[u], []⟩ = pure [(("script" : Str), u)])
    (C : ∀ base : Heap, K.In base → base.Ns mainGlobals mg → ∀ f fd, Fun K "law" "law" st f fd → FnOk P w K mg base CX0 k f fd ["script"] (SpD K T)) :
    ∃ (fd : FuncData) (sp : Sp), (∀ (s : Shared) (u : Value), BindsTo s fd ⟨[u], []⟩ [("script", u)]) ∧
      (∀ (H : Hp) (a : Addr) (ns : List Int), ns.length ≤ 63 → Only H → SqL K H a (ns.map V.int) → sp [.ref a] H (fun v _ => v = .bl true) fun _ _ _ => False) ∧
      ∀ base : Heap, K.In base → base.Ns mainGlobals mg → FnOk P w K mg base CX0 k fa fd ["script"] sp := by
  obtain ⟨f, fd, F, hm, _⟩ := D.ex
  rw [hfa] at hm
  cases hm
  refine ⟨fd, SpD K T, ?_, ?_, fun base h1 h2 => C base h1 h2 _ fd F⟩
  · obtain ⟨oc, od, kV, doc, pm, an, cdv, ct, osl, rfl, _, _⟩ := F.ex
    exact fun s u => .of_eq (hb kV doc pm an cdv ct u)
  · intro H a ns hl _ hS
    refine ⟨H, [], [.d (.list (ns.map PyData.int))], fun r _ => r = .d (.bool true), stt_data (vs := [.ref a]) (xs := [.list (ns.map PyData.int)]) (Same.refl H) (.cons (.lst hS (dpa_ints ns)) .nil), hT ns _ hl fun _ => rfl, ?_⟩
    intro r c v s G' H' st' hr
    subst hr
    obtain ⟨A, r', _⟩ := st'.ex
    cases r' with
    | d hd _ => exact dp_bl hd
end Dl

namespace Bores
open PySem PySem.Spec PyProof.Rows L2 Dl
def topS (i : Nat) : Stmt := PySem.Challenge.pw_bores_k08_ratios.main.body.getD i (.Pass ⟨0, 0, 0, 0⟩)
local macro_rules | `(tactic| walk_at "wp") => `(tactic| simp (maxSteps := 1000000) only [↓reduceIte, ↓asI_i, ↓asB_b, ↓asS_s, ↓asL_l, ↓asT_t, ↓slD_0, ↓slD_s, ↓slO_0, ↓slO_s, ↓asR_l, ↓fAdd_i, ↓fAdd_s, ↓ixD_l, ↓ixD_t, ↓ixD_s, ↓arg1_1, ↓arg2_2, ↓fLen1_l, ↓fLen1_t, ↓fLen1_s, ↓asC_c, ↓asQ_l, ↓asQ_t, ↓asQ_s, ↓kD_d, ↓kD_o, ↓kO_o, ↓fz_l, ↓fz_P, ↓ret_d, ↓ret_o, ↓ret_O, ↓retL_d, ↓retL_o, ↓retL_O, ↓atD_0, ↓atD_1, ↓atD_2, ↓atD_3, ↓atD_b1, ↓atD_b2, ↓atD_b3, ↓ixP_30, ↓ixP_31, ↓ixP_32, ↓if_true, ↓if_false, zNext, zSeq, zSet, zSetO, zDrop, zRet, zRetO, zRetP, zRetN, zIf, zPar, zAsg, zPut, gN, gsNil, gsCons, gT, uVar, uC, uFz, u2, fI, fI0, fEq, uIxO, uOwn, uCB, oCB, fLen, fLenO, fAbs, wB, wNot, wAnd, wOr, uAnd, uOr, uNot, uIf, aNil, aCons, uTup, oLst, fIx, oVar, iSeq, iR1, iR2, uCall, oCall, uLend, oLend, shaped_iff, sh_non, sh_int, sh_bool, sh_str, eqv_int, eqv_str, eqv_bool, ixN_30, ixN_31, ixN_32, ixN_20, ixN_21, atI_0, atI_1, atI_2, atI_3, atI_b1, atI_b2, atI_b3, List.length_map, Int.reduceEq, forall_const, implies_true, and_assoc, sz_0, sz_1, sz_2, sz_3, sz_4, sz_5, sz_6, sz_7, sz_8, Bool.not_eq_true', beq_eq_false_iff_ne, beq_iff_eq, ne_eq, Bool.and_eq_true, Bool.or_eq_true, decide_eq_false_iff_not, not_false_eq_true, not_true_eq_false, Bool.not_true, Bool.not_false, isI_n, isI_b, isI_i, isI_s, isI_l, isI_t, isB_n, isB_b, isB_i, isB_s, isB_l, isB_t, isS_n, isS_b, isS_i, isS_s, isS_l, isS_t, isL_n, isL_b, isL_i, isL_s, isL_l, isL_t, isT_n, isT_b, isT_i, isT_s, isT_l, isT_t, isN_n, isN_b, isN_i, isN_s, isN_l, isN_t, ca_0, ca_1, ca_2, ca_3, ca_4, ca_5, ca_6, Int.reduceToNat, Int.reducePow, Int.reduceMul, Int.reduceLT, Int.reduceLE, Int.reduceNeg, zFor,
  List.replicate, List.length_cons, List.length_nil, List.nil_append, List.cons_append, List.append_nil, List.map_cons, List.map_nil, List.set_cons_zero, List.set_cons_succ, List.getElem?_cons_zero, List.getElem?_cons_succ, Option.some.injEq, S.d.injEq, S.o.injEq, Res.lst.injEq, Res.lstP.injEq, PyData.int.injEq, PyData.str.injEq, PyData.bool.injEq, PyData.list.injEq, PyData.tuple.injEq, List.cons.injEq, reduceCtorEq,
  exists_eq_left', exists_eq_left, exists_eq_right, exists_eq_right', true_and, and_true, false_and, and_false, exists_false, false_or, or_false, exists_and_left, exists_and_right, exists_eq', exists_eq, exists_const, Bool.false_eq_true, ite_true, ite_false, decide_eq_true_eq, Nat.sub_self, Nat.zero_add, Nat.add_sub_cancel, Nat.reduceSub, Nat.reduceAdd])
structure Bi (K : PySem.W.Frag) (mg : Str → Option Value) : Prop where
  abs : mg "abs" = none
  bool : mg "bool" = none
  int : mg "int" = none
  isinstance : mg "isinstance" = none
  len : mg "len" = none
  range : mg "range" = none
  tuple : mg "tuple" = none
/-- the greatest common divisor, as the loop has it -/
def T_common : TF := fun a Q => ∃ i j : Int, a = [.d (.int i), .d (.int j)] ∧ ret Q (.d (.int (Int.gcd i j)))
theorem TE_common {i j : Int} {Q : S → Dl.Ctx → Prop} : T_common [.d (.int i), .d (.int j)] Q = ret Q (.d (.int (Int.gcd i j))) := propext ⟨fun ⟨_, _, e, q⟩ => by cases e; exact q, fun q => ⟨_, _, rfl, q⟩⟩
theorem gcd_step (i j : Int) : Int.gcd j (i.fmod j) = Int.gcd i j := by
  rw [Int.fmod_def, Int.gcd_comm i j]
  exact Int.gcd_sub_mul_left_right j i (i.fdiv j)
theorem fmod_lt (i j : Int) (h : j ≠ 0) : (i.fmod j).natAbs < j.natAbs := by
  rw [Int.fmod_eq_emod]
  have h1 := Int.emod_nonneg i h
  have h2 := Int.emod_lt i h
  split
  · omega
  · rename_i q
    have q1 : ¬ (0 ≤ j) := fun z => q (.inl z)
    have q2 : i % j ≠ 0 := fun z => q (.inr (Int.dvd_of_emod_eq_zero z))
    omega
theorem sc_common : FnScope ["one", "other"] ["one", "other"] (defScope (topS 1)) := ⟨rfl, rfl, rfl, by decide +kernel, rfl, by decide +kernel, by decide +kernel⟩
local macro_rules | `(tactic| walk_at "wpt") => `(tactic| simp (maxSteps := 1000000) only [↓reduceIte, ↓asI_i, ↓asB_b, ↓asS_s, ↓asL_l, ↓asT_t, ↓slD_0, ↓slD_s, ↓slO_0, ↓slO_s, ↓asR_l, ↓fAdd_i, ↓fAdd_s, ↓ixD_l, ↓ixD_t, ↓ixD_s, ↓arg1_1, ↓arg2_2, ↓fLen1_l, ↓fLen1_t, ↓fLen1_s, ↓asC_c, ↓asQ_l, ↓asQ_t, ↓asQ_s, ↓kD_d, ↓kD_o, ↓kO_o, ↓fz_l, ↓fz_P, ↓ret_d, ↓ret_o, ↓ret_O, ↓retL_d, ↓retL_o, ↓retL_O, ↓atD_0, ↓atD_1, ↓atD_2, ↓atD_3, ↓atD_b1, ↓atD_b2, ↓atD_b3, ↓ixP_30, ↓ixP_31, ↓ixP_32, ↓if_true, ↓if_false, zNext, zSeq, zSet, zSetO, zDrop, zRet, zRetO, zRetP, zRetN, zIf, zPar, zAsg, zPut, gN, gsNil, gsCons, gT, uVar, uC, uFz, u2, fI, fI0, fEq, uIxO, uOwn, uCB, oCB, fLen, fLenO, fAbs, wB, wNot, wAnd, wOr, uAnd, uOr, uNot, uIf, aNil, aCons, uTup, oLst, fIx, oVar, iSeq, iR1, iR2, uCall, oCall, uLend, oLend, shaped_iff, sh_non, sh_int, sh_bool, sh_str, eqv_int, eqv_str, eqv_bool, ixN_30, ixN_31, ixN_32, ixN_20, ixN_21, atI_0, atI_1, atI_2, atI_3, atI_b1, atI_b2, atI_b3, List.length_map, Int.reduceEq, forall_const, implies_true, and_assoc, sz_0, sz_1, sz_2, sz_3, sz_4, sz_5, sz_6, sz_7, sz_8, Bool.not_eq_true', beq_eq_false_iff_ne, beq_iff_eq, ne_eq, Bool.and_eq_true, Bool.or_eq_true, decide_eq_false_iff_not, not_false_eq_true, not_true_eq_false, Bool.not_true, Bool.not_false, isI_n, isI_b, isI_i, isI_s, isI_l, isI_t, isB_n, isB_b, isB_i, isB_s, isB_l, isB_t, isS_n, isS_b, isS_i, isS_s, isS_l, isS_t, isL_n, isL_b, isL_i, isL_s, isL_l, isL_t, isT_n, isT_b, isT_i, isT_s, isT_l, isT_t, isN_n, isN_b, isN_i, isN_s, isN_l, isN_t, ca_0, ca_1, ca_2, ca_3, ca_4, ca_5, ca_6, Int.reduceToNat, Int.reducePow, Int.reduceMul, Int.reduceLT, Int.reduceLE, Int.reduceNeg, zFor,   List.replicate, List.length_cons, List.length_nil, List.nil_append, List.cons_append, List.append_nil, List.map_cons, List.map_nil, List.set_cons_zero, List.set_cons_succ, List.getElem?_cons_zero, List.getElem?_cons_succ, Option.some.injEq, S.d.injEq, S.o.injEq, Res.lst.injEq, Res.lstP.injEq, PyData.int.injEq, PyData.str.injEq, PyData.bool.injEq, PyData.list.injEq, PyData.tuple.injEq, List.cons.injEq, reduceCtorEq,   exists_eq_left', exists_eq_left, exists_eq_right, exists_eq_right', true_and, and_true, false_and, and_false, exists_false, false_or, or_false, exists_and_left, exists_and_right, exists_eq', exists_eq, exists_const, Bool.false_eq_true, ite_true, ite_false, decide_eq_true_eq, Nat.sub_self, Nat.zero_add, Nat.add_sub_cancel, Nat.reduceSub, Nat.reduceAdd])
theorem c_common {P : Program} {w : World} {K : PySem.W.Frag} {mg : Str → Option Value} {base : Heap} (hb : Bi K mg) (D : Df K mg "common" (topS 1) ["one", "other"])  : Cal P w K mg base "common" 1 ["one", "other"] T_common := by
  obtain ⟨f, fd, F, hm, hB⟩ := D
  refine ⟨f, fd, fn_d (k := 0) F sc_common ?hT (fun cdv A outer s H E hr => (q_cons (s_while PassesOwn.never (t_ne hr.units (dv 1) d_int)
 (q_one (s_par (i := 0) (j := 1) rfl sc_common.nd (a_cons (dv 1) (a_cons (d_mod (dv 0) (dv 1)) a_nil)) (by rfl))))
 (q_one (s_ret (d_abs hb.abs (a_cons (dv 0) a_nil)))))), hm, F.kp, hB⟩
  case hT =>
    intro a Q h
    obtain ⟨i, j, rfl, q⟩ := h
    refine ⟨rfl, ?_⟩
    walk_at "wpt"
    refine while_of (fun m c => ∃ i' j' : Int, c = [.d (.int i'), .d (.int j')] ∧ m = j'.natAbs ∧ Int.gcd i' j' = Int.gcd i j) _ ⟨i, j, rfl, rfl, rfl⟩ ?_
    rintro m c N ⟨i', j', rfl, rfl, hg⟩ hN
    walk_at "wpt"
    split
    · rename_i h
      exact ⟨h, hN _ _ (fmod_lt i' j' h) ⟨_, _, rfl, rfl, (gcd_step i' j').trans hg⟩⟩
    · rename_i h
      have h : j' = 0 := Classical.not_not.mp h
      subst h
      rw [Int.gcd_zero_right] at hg
      have e : (if i' < 0 then -i' else i') = (Int.gcd i j : Int) := by
        rw [← hg]
        split <;> omega
      rw [e]
      exact q _

/-- a ratio in lowest terms -/
def ratN (i j : Int) : Int × Int := (i.fdiv (if j < 0 then -(Int.gcd i j : Int) else Int.gcd i j), j.fdiv (if j < 0 then -(Int.gcd i j : Int) else Int.gcd i j))
def T_ratio : TF := fun a Q => ∃ i j : Int, a = [.d (.int i), .d (.int j)] ∧ j ≠ 0 ∧ Bd 8000 j ∧ ret Q (.d (.tuple [.int (ratN i j).1, .int (ratN i j).2]))
theorem TE_ratio {i j : Int} {Q : S → Dl.Ctx → Prop} : T_ratio [.d (.int i), .d (.int j)] Q = (j ≠ 0 ∧ Bd 8000 j ∧ ret Q (.d (.tuple [.int (ratN i j).1, .int (ratN i j).2]))) := propext ⟨fun ⟨_, _, e, q⟩ => by cases e; exact q, fun q => ⟨_, _, rfl, q⟩⟩
theorem gcd_bd {i j : Int} {n : Nat} (h0 : j ≠ 0) (h : Bd n j) : Bd n (Int.gcd i j : Int) ∧ (Int.gcd i j : Int) ≠ 0 := by
  have h1 : Int.gcd i j ≤ j.natAbs := Nat.le_of_dvd (by omega) (Int.gcd_dvd_natAbs_right i j)
  have h2 : Int.gcd i j ≠ 0 := fun z => h0 (Int.eq_zero_of_gcd_eq_zero_right z)
  unfold Bd at *
  omega
/-- what a ratio is asked to be -/
structure RatOk (p q i j : Int) : Prop where
  pos : 1 ≤ q
  low : Int.gcd p q = 1
  same : p * j = i * q
theorem ratN_ok {i j : Int} (h0 : j ≠ 0) : RatOk (ratN i j).1 (ratN i j).2 i j := by
  have hg : Int.gcd i j ≠ 0 := fun z => h0 (Int.eq_zero_of_gcd_eq_zero_right z)
  obtain ⟨p, hp⟩ := Int.gcd_dvd_left i j
  obtain ⟨q, hq⟩ := Int.gcd_dvd_right i j
  have hgi : (Int.gcd i j : Int) ≠ 0 := by omega
  have hpq : Int.gcd p q = 1 := by
    have e : Int.gcd i j = Int.gcd i j * Int.gcd p q := by
      have e2 : Int.gcd ((Int.gcd i j : Int) * p) ((Int.gcd i j : Int) * q) = Int.gcd i j * Int.gcd p q := by
        rw [Int.gcd_mul_left]
        simp
      rw [← hp, ← hq] at e2
      exact e2
    exact Nat.eq_of_mul_eq_mul_left (Nat.pos_of_ne_zero hg) (by rw [Nat.mul_one]; exact e.symm)
  have hq0 : q ≠ 0 := fun z => h0 (by rw [hq, z, Int.mul_zero])
  unfold ratN
  by_cases hj : j < 0
  · simp only [if_pos hj]
    have e1 : i.fdiv (-(Int.gcd i j : Int)) = -p := by
      conv => lhs; arg 1; rw [hp]
      rw [show (Int.gcd i j : Int) * p = -(Int.gcd i j : Int) * (-p) by rw [Int.neg_mul_neg]]
      exact Int.mul_fdiv_cancel_left _ (by omega)
    have e2 : j.fdiv (-(Int.gcd i j : Int)) = -q := by
      conv => lhs; arg 1; rw [hq]
      rw [show (Int.gcd i j : Int) * q = -(Int.gcd i j : Int) * (-q) by rw [Int.neg_mul_neg]]
      exact Int.mul_fdiv_cancel_left _ (by omega)
    rw [e1, e2]
    refine ⟨?_, by rw [Int.gcd_neg, Int.neg_gcd]; exact hpq, ?_⟩
    · have : q < 0 := by
        rcases Int.lt_or_gt_of_ne hq0 with z | z
        · exact z
        · exfalso
          have := Int.mul_pos (show (0 : Int) < Int.gcd i j by omega) z
          rw [← hq] at this
          omega
      omega
    · conv => lhs; rw [hq]
      conv => rhs; rw [hp]
      rw [Int.neg_mul, Int.mul_neg, ← Int.mul_assoc, Int.mul_comm p, Int.mul_assoc]
  · simp only [if_neg hj]
    have e1 : i.fdiv (Int.gcd i j : Int) = p := by
      conv => lhs; arg 1; rw [hp]
      exact Int.mul_fdiv_cancel_left _ hgi
    have e2 : j.fdiv (Int.gcd i j : Int) = q := by
      conv => lhs; arg 1; rw [hq]
      exact Int.mul_fdiv_cancel_left _ hgi
    rw [e1, e2]
    refine ⟨?_, hpq, ?_⟩
    · have : 0 < q := by
        rcases Int.lt_or_gt_of_ne hq0 with z | z
        · exfalso
          have := Int.mul_neg_of_pos_of_neg (show (0 : Int) < Int.gcd i j by omega) z
          rw [← hq] at this
          omega
        · exact z
      omega
    · conv => lhs; rw [hq]
      conv => rhs; rw [hp]
      rw [← Int.mul_assoc, Int.mul_comm p]
theorem ratN_bd {i j : Int} {n m : Nat} (h0 : j ≠ 0) (hi : Bd n i) (hj : Bd m j) : Bd n (ratN i j).1 ∧ Bd m (ratN i j).2 := by
  have ok := ratN_ok (i := i) h0
  have hg : Int.gcd i j ≠ 0 := fun z => h0 (Int.eq_zero_of_gcd_eq_zero_right z)
  have key : ∀ x : Int, ((Int.gcd i j : Int)) ∣ x → (x.fdiv (if j < 0 then -(Int.gcd i j : Int) else Int.gcd i j)).natAbs ≤ x.natAbs := by
    intro x hx
    obtain ⟨y, rfl⟩ := hx
    have ey : ((Int.gcd i j : Int) * y).natAbs = Int.gcd i j * y.natAbs := by rw [Int.natAbs_mul]; simp
    have le : y.natAbs ≤ Int.gcd i j * y.natAbs := Nat.le_mul_of_pos_left _ (Nat.pos_of_ne_zero hg)
    split
    · rw [show (Int.gcd i j : Int) * y = -(Int.gcd i j : Int) * (-y) by rw [Int.neg_mul_neg], Int.mul_fdiv_cancel_left _ (by omega), Int.neg_mul_neg, ey]
      rw [Int.natAbs_neg]
      exact le
    · rw [Int.mul_fdiv_cancel_left _ (by omega), ey]
      exact le
  exact ⟨Nat.lt_of_le_of_lt (key i (Int.gcd_dvd_left _ _)) hi, Nat.lt_of_le_of_lt (key j (Int.gcd_dvd_right _ _)) hj⟩
theorem sc_ratio : FnScope ["top", "bottom", "by"] ["top", "bottom"] (defScope (topS 2)) := ⟨rfl, rfl, rfl, by decide +kernel, rfl, by decide +kernel, by decide +kernel⟩
local macro_rules | `(tactic| walk_at "wpt") => `(tactic| simp (maxSteps := 1000000) only [↓TE_common, ↓reduceIte, ↓asI_i, ↓asB_b, ↓asS_s, ↓asL_l, ↓asT_t, ↓slD_0, ↓slD_s, ↓slO_0, ↓slO_s, ↓asR_l, ↓fAdd_i, ↓fAdd_s, ↓ixD_l, ↓ixD_t, ↓ixD_s, ↓arg1_1, ↓arg2_2, ↓fLen1_l, ↓fLen1_t, ↓fLen1_s, ↓asC_c, ↓asQ_l, ↓asQ_t, ↓asQ_s, ↓kD_d, ↓kD_o, ↓kO_o, ↓fz_l, ↓fz_P, ↓ret_d, ↓ret_o, ↓ret_O, ↓retL_d, ↓retL_o, ↓retL_O, ↓atD_0, ↓atD_1, ↓atD_2, ↓atD_3, ↓atD_b1, ↓atD_b2, ↓atD_b3, ↓ixP_30, ↓ixP_31, ↓ixP_32, ↓if_true, ↓if_false, zNext, zSeq, zSet, zSetO, zDrop, zRet, zRetO, zRetP, zRetN, zIf, zPar, zAsg, zPut, gN, gsNil, gsCons, gT, uVar, uC, uFz, u2, fI, fI0, fEq, uIxO, uOwn, uCB, oCB, fLen, fLenO, fAbs, wB, wNot, wAnd, wOr, uAnd, uOr, uNot, uIf, aNil, aCons, uTup, oLst, fIx, oVar, iSeq, iR1, iR2, uCall, oCall, uLend, oLend, shaped_iff, sh_non, sh_int, sh_bool, sh_str, eqv_int, eqv_str, eqv_bool, ixN_30, ixN_31, ixN_32, ixN_20, ixN_21, atI_0, atI_1, atI_2, atI_3, atI_b1, atI_b2, atI_b3, List.length_map, Int.reduceEq, forall_const, implies_true, and_assoc, sz_0, sz_1, sz_2, sz_3, sz_4, sz_5, sz_6, sz_7, sz_8, Bool.not_eq_true', beq_eq_false_iff_ne, beq_iff_eq, ne_eq, Bool.and_eq_true, Bool.or_eq_true, decide_eq_false_iff_not, not_false_eq_true, not_true_eq_false, Bool.not_true, Bool.not_false, isI_n, isI_b, isI_i, isI_s, isI_l, isI_t, isB_n, isB_b, isB_i, isB_s, isB_l, isB_t, isS_n, isS_b, isS_i, isS_s, isS_l, isS_t, isL_n, isL_b, isL_i, isL_s, isL_l, isL_t, isT_n, isT_b, isT_i, isT_s, isT_l, isT_t, isN_n, isN_b, isN_i, isN_s, isN_l, isN_t, ca_0, ca_1, ca_2, ca_3, ca_4, ca_5, ca_6, Int.reduceToNat, Int.reducePow, Int.reduceMul, Int.reduceLT, Int.reduceLE, Int.reduceNeg, zFor,   List.replicate, List.length_cons, List.length_nil, List.nil_append, List.cons_append, List.append_nil, List.map_cons, List.map_nil, List.set_cons_zero, List.set_cons_succ, List.getElem?_cons_zero, List.getElem?_cons_succ, Option.some.injEq, S.d.injEq, S.o.injEq, Res.lst.injEq, Res.lstP.injEq, PyData.int.injEq, PyData.str.injEq, PyData.bool.injEq, PyData.list.injEq, PyData.tuple.injEq, List.cons.injEq, reduceCtorEq,   exists_eq_left', exists_eq_left, exists_eq_right, exists_eq_right', true_and, and_true, false_and, and_false, exists_false, false_or, or_false, exists_and_left, exists_and_right, exists_eq', exists_eq, exists_const, Bool.false_eq_true, ite_true, ite_false, decide_eq_true_eq, Nat.sub_self, Nat.zero_add, Nat.add_sub_cancel, Nat.reduceSub, Nat.reduceAdd])
theorem c_ratio {P : Program} {w : World} {K : PySem.W.Frag} {mg : Str → Option Value} {base : Heap} (hb : Bi K mg) (D : Df K mg "ratio" (topS 2) ["top", "bottom"]) (C_common : Cal P w K mg base "common" 1 ["one", "other"] T_common) : Cal P w K mg base "ratio" 2 ["top", "bottom"] T_ratio := by
  obtain ⟨f, fd, F, hm, hB⟩ := D
  refine ⟨f, fd, fn_d (k := 1) F sc_ratio ?hT (fun cdv A outer s H E hr => (q_cons (s_set (j := 2) sc_ratio.nd (d_callC C_common (hr.mono (by decide)) (a_cons (dv 0) (a_cons (dv 1) a_nil))))
 (q_cut (s_if (t_lt (dv 1) d_int)
 (q_one (s_set (j := 2) sc_ratio.nd (d_neg (dv 2)))) q_nil)
 (q_one (s_ret (d_tup (a_cons (d_fdiv (dv 0) (dv 2)) (a_cons (d_fdiv (dv 1) (dv 2)) a_nil)))))))), hm, F.kp, hB⟩
  case hT =>
    intro a Q h
    obtain ⟨i, j, rfl, h0, hj, q⟩ := h
    refine ⟨rfl, ?_⟩
    obtain ⟨g1, g2⟩ := gcd_bd (i := i) h0 hj
    walk_at "wpt"
    refine cut_by (fun c => c = [.d (.int i), .d (.int j), .d (.int (if j < 0 then -(Int.gcd i j : Int) else Int.gcd i j))]) ?_ ?_
    · intro N hN
      walk_at "wpt"
      split <;> (refine hN _ ?_; simp [*])
    · rintro c rfl
      walk_at "wpt"
      have hs : ∀ x : Int, CDivA x (if j < 0 then -(Int.gcd i j : Int) else Int.gcd i j) := fun x => by
        split
        · exact divA_b (by omega) (bd_neg g1) (by decide)
        · exact divA_b g2 g1 (by decide)
      exact ⟨hs _, hs _, q _⟩

def T_plus : TF := fun a Q => ∃ p q r s : Int, a = [.d (.tuple [.int p, .int q]), .d (.tuple [.int r, .int s])] ∧ q ≠ 0 ∧ s ≠ 0 ∧ Bd 3000 p ∧ Bd 3000 q ∧ Bd 3000 r ∧ Bd 3000 s ∧
  ret Q (.d (.tuple [.int (ratN (p * s + r * q) (q * s)).1, .int (ratN (p * s + r * q) (q * s)).2]))
theorem TE_plus {p q r s : Int} {Q : S → Dl.Ctx → Prop} : T_plus [.d (.tuple [.int p, .int q]), .d (.tuple [.int r, .int s])] Q = (q ≠ 0 ∧ s ≠ 0 ∧ Bd 3000 p ∧ Bd 3000 q ∧ Bd 3000 r ∧ Bd 3000 s ∧ ret Q (.d (.tuple [.int (ratN (p * s + r * q) (q * s)).1, .int (ratN (p * s + r * q) (q * s)).2]))) := propext ⟨fun ⟨_, _, _, _, e, q⟩ => by cases e; exact q, fun q => ⟨_, _, _, _, rfl, q⟩⟩
theorem mul_ne {q s : Int} (h1 : q ≠ 0) (h2 : s ≠ 0) : q * s ≠ 0 := fun z => (Int.mul_eq_zero.mp z).elim h1 h2
theorem sc_plus : FnScope ["one", "other"] ["one", "other"] (defScope (topS 3)) := ⟨rfl, rfl, rfl, by decide +kernel, rfl, by decide +kernel, by decide +kernel⟩
local macro_rules | `(tactic| walk_at "wpt") => `(tactic| simp (maxSteps := 1000000) only [↓TE_ratio, ↓reduceIte, ↓asI_i, ↓asB_b, ↓asS_s, ↓asL_l, ↓asT_t, ↓slD_0, ↓slD_s, ↓slO_0, ↓slO_s, ↓asR_l, ↓fAdd_i, ↓fAdd_s, ↓ixD_l, ↓ixD_t, ↓ixD_s, ↓arg1_1, ↓arg2_2, ↓fLen1_l, ↓fLen1_t, ↓fLen1_s, ↓asC_c, ↓asQ_l, ↓asQ_t, ↓asQ_s, ↓kD_d, ↓kD_o, ↓kO_o, ↓fz_l, ↓fz_P, ↓ret_d, ↓ret_o, ↓ret_O, ↓retL_d, ↓retL_o, ↓retL_O, ↓atD_0, ↓atD_1, ↓atD_2, ↓atD_3, ↓atD_b1, ↓atD_b2, ↓atD_b3, ↓ixP_30, ↓ixP_31, ↓ixP_32, ↓if_true, ↓if_false, zNext, zSeq, zSet, zSetO, zDrop, zRet, zRetO, zRetP, zRetN, zIf, zPar, zAsg, zPut, gN, gsNil, gsCons, gT, uVar, uC, uFz, u2, fI, fI0, fEq, uIxO, uOwn, uCB, oCB, fLen, fLenO, fAbs, wB, wNot, wAnd, wOr, uAnd, uOr, uNot, uIf, aNil, aCons, uTup, oLst, fIx, oVar, iSeq, iR1, iR2, uCall, oCall, uLend, oLend, shaped_iff, sh_non, sh_int, sh_bool, sh_str, eqv_int, eqv_str, eqv_bool, ixN_30, ixN_31, ixN_32, ixN_20, ixN_21, atI_0, atI_1, atI_2, atI_3, atI_b1, atI_b2, atI_b3, List.length_map, Int.reduceEq, forall_const, implies_true, and_assoc, sz_0, sz_1, sz_2, sz_3, sz_4, sz_5, sz_6, sz_7, sz_8, Bool.not_eq_true', beq_eq_false_iff_ne, beq_iff_eq, ne_eq, Bool.and_eq_true, Bool.or_eq_true, decide_eq_false_iff_not, not_false_eq_true, not_true_eq_false, Bool.not_true, Bool.not_false, isI_n, isI_b, isI_i, isI_s, isI_l, isI_t, isB_n, isB_b, isB_i, isB_s, isB_l, isB_t, isS_n, isS_b, isS_i, isS_s, isS_l, isS_t, isL_n, isL_b, isL_i, isL_s, isL_l, isL_t, isT_n, isT_b, isT_i, isT_s, isT_l, isT_t, isN_n, isN_b, isN_i, isN_s, isN_l, isN_t, ca_0, ca_1, ca_2, ca_3, ca_4, ca_5, ca_6, Int.reduceToNat, Int.reducePow, Int.reduceMul, Int.reduceLT, Int.reduceLE, Int.reduceNeg, zFor,   List.replicate, List.length_cons, List.length_nil, List.nil_append, List.cons_append, List.append_nil, List.map_cons, List.map_nil, List.set_cons_zero, List.set_cons_succ, List.getElem?_cons_zero, List.getElem?_cons_succ, Option.some.injEq, S.d.injEq, S.o.injEq, Res.lst.injEq, Res.lstP.injEq, PyData.int.injEq, PyData.str.injEq, PyData.bool.injEq, PyData.list.injEq, PyData.tuple.injEq, List.cons.injEq, reduceCtorEq,   exists_eq_left', exists_eq_left, exists_eq_right, exists_eq_right', true_and, and_true, false_and, and_false, exists_false, false_or, or_false, exists_and_left, exists_and_right, exists_eq', exists_eq, exists_const, Bool.false_eq_true, ite_true, ite_false, decide_eq_true_eq, Nat.sub_self, Nat.zero_add, Nat.add_sub_cancel, Nat.reduceSub, Nat.reduceAdd])
theorem c_plus {P : Program} {w : World} {K : PySem.W.Frag} {mg : Str → Option Value} {base : Heap} (hb : Bi K mg) (D : Df K mg "plus" (topS 3) ["one", "other"]) (C_ratio : Cal P w K mg base "ratio" 2 ["top", "bottom"] T_ratio) : Cal P w K mg base "plus" 3 ["one", "other"] T_plus := by
  obtain ⟨f, fd, F, hm, hB⟩ := D
  refine ⟨f, fd, fn_d (k := 2) F sc_plus ?hT (fun cdv A outer s H E hr => (q_one (s_ret (d_callC C_ratio (hr.mono (by decide)) (a_cons (d_add (d_mul (d_ix (fun _ _ => rfl) (dv 0) d_int) (d_ix (fun _ _ => rfl) (dv 1) d_int)) (d_mul (d_ix (fun _ _ => rfl) (dv 1) d_int) (d_ix (fun _ _ => rfl) (dv 0) d_int))) (a_cons (d_mul (d_ix (fun _ _ => rfl) (dv 0) d_int) (d_ix (fun _ _ => rfl) (dv 1) d_int)) a_nil)))))), hm, F.kp, hB⟩
  case hT =>
    intro a Q h
    obtain ⟨p, q, r, s, rfl, hq, hs, bp, bq, br, bs, k⟩ := h
    refine ⟨rfl, ?_⟩
    walk_at "wpt"
    exact ⟨mulA_b bp bs (by decide), mulA_b br bq (by decide), mulA_b bq bs (by decide), mul_ne hq hs, (bd_mul bq bs).mono (by decide), k _⟩

def T_minus : TF := fun a Q => ∃ p q r s : Int, a = [.d (.tuple [.int p, .int q]), .d (.tuple [.int r, .int s])] ∧ q ≠ 0 ∧ s ≠ 0 ∧ Bd 3000 p ∧ Bd 3000 q ∧ Bd 3000 r ∧ Bd 3000 s ∧
  ret Q (.d (.tuple [.int (ratN (p * s - r * q) (q * s)).1, .int (ratN (p * s - r * q) (q * s)).2]))
theorem TE_minus {p q r s : Int} {Q : S → Dl.Ctx → Prop} : T_minus [.d (.tuple [.int p, .int q]), .d (.tuple [.int r, .int s])] Q = (q ≠ 0 ∧ s ≠ 0 ∧ Bd 3000 p ∧ Bd 3000 q ∧ Bd 3000 r ∧ Bd 3000 s ∧ ret Q (.d (.tuple [.int (ratN (p * s - r * q) (q * s)).1, .int (ratN (p * s - r * q) (q * s)).2]))) := propext ⟨fun ⟨_, _, _, _, e, q⟩ => by cases e; exact q, fun q => ⟨_, _, _, _, rfl, q⟩⟩
theorem sc_minus : FnScope ["one", "other"] ["one", "other"] (defScope (topS 4)) := ⟨rfl, rfl, rfl, by decide +kernel, rfl, by decide +kernel, by decide +kernel⟩
local macro_rules | `(tactic| walk_at "wpt") => `(tactic| simp (maxSteps := 1000000) only [↓TE_ratio, ↓reduceIte, ↓asI_i, ↓asB_b, ↓asS_s, ↓asL_l, ↓asT_t, ↓slD_0, ↓slD_s, ↓slO_0, ↓slO_s, ↓asR_l, ↓fAdd_i, ↓fAdd_s, ↓ixD_l, ↓ixD_t, ↓ixD_s, ↓arg1_1, ↓arg2_2, ↓fLen1_l, ↓fLen1_t, ↓fLen1_s, ↓asC_c, ↓asQ_l, ↓asQ_t, ↓asQ_s, ↓kD_d, ↓kD_o, ↓kO_o, ↓fz_l, ↓fz_P, ↓ret_d, ↓ret_o, ↓ret_O, ↓retL_d, ↓retL_o, ↓retL_O, ↓atD_0, ↓atD_1, ↓atD_2, ↓atD_3, ↓atD_b1, ↓atD_b2, ↓atD_b3, ↓ixP_30, ↓ixP_31, ↓ixP_32, ↓if_true, ↓if_false, zNext, zSeq, zSet, zSetO, zDrop, zRet, zRetO, zRetP, zRetN, zIf, zPar, zAsg, zPut, gN, gsNil, gsCons, gT, uVar, uC, uFz, u2, fI, fI0, fEq, uIxO, uOwn, uCB, oCB, fLen, fLenO, fAbs, wB, wNot, wAnd, wOr, uAnd, uOr, uNot, uIf, aNil, aCons, uTup, oLst, fIx, oVar, iSeq, iR1, iR2, uCall, oCall, uLend, oLend, shaped_iff, sh_non, sh_int, sh_bool, sh_str, eqv_int, eqv_str, eqv_bool, ixN_30, ixN_31, ixN_32, ixN_20, ixN_21, atI_0, atI_1, atI_2, atI_3, atI_b1, atI_b2, atI_b3, List.length_map, Int.reduceEq, forall_const, implies_true, and_assoc, sz_0, sz_1, sz_2, sz_3, sz_4, sz_5, sz_6, sz_7, sz_8, Bool.not_eq_true', beq_eq_false_iff_ne, beq_iff_eq, ne_eq, Bool.and_eq_true, Bool.or_eq_true, decide_eq_false_iff_not, not_false_eq_true, not_true_eq_false, Bool.not_true, Bool.not_false, isI_n, isI_b, isI_i, isI_s, isI_l, isI_t, isB_n, isB_b, isB_i, isB_s, isB_l, isB_t, isS_n, isS_b, isS_i, isS_s, isS_l, isS_t, isL_n, isL_b, isL_i, isL_s, isL_l, isL_t, isT_n, isT_b, isT_i, isT_s, isT_l, isT_t, isN_n, isN_b, isN_i, isN_s, isN_l, isN_t, ca_0, ca_1, ca_2, ca_3, ca_4, ca_5, ca_6, Int.reduceToNat, Int.reducePow, Int.reduceMul, Int.reduceLT, Int.reduceLE, Int.reduceNeg, zFor,   List.replicate, List.length_cons, List.length_nil, List.nil_append, List.cons_append, List.append_nil, List.map_cons, List.map_nil, List.set_cons_zero, List.set_cons_succ, List.getElem?_cons_zero, List.getElem?_cons_succ, Option.some.injEq, S.d.injEq, S.o.injEq, Res.lst.injEq, Res.lstP.injEq, PyData.int.injEq, PyData.str.injEq, PyData.bool.injEq, PyData.list.injEq, PyData.tuple.injEq, List.cons.injEq, reduceCtorEq,   exists_eq_left', exists_eq_left, exists_eq_right, exists_eq_right', true_and, and_true, false_and, and_false, exists_false, false_or, or_false, exists_and_left, exists_and_right, exists_eq', exists_eq, exists_const, Bool.false_eq_true, ite_true, ite_false, decide_eq_true_eq, Nat.sub_self, Nat.zero_add, Nat.add_sub_cancel, Nat.reduceSub, Nat.reduceAdd])
theorem c_minus {P : Program} {w : World} {K : PySem.W.Frag} {mg : Str → Option Value} {base : Heap} (hb : Bi K mg) (D : Df K mg "minus" (topS 4) ["one", "other"]) (C_ratio : Cal P w K mg base "ratio" 2 ["top", "bottom"] T_ratio) : Cal P w K mg base "minus" 3 ["one", "other"] T_minus := by
  obtain ⟨f, fd, F, hm, hB⟩ := D
  refine ⟨f, fd, fn_d (k := 2) F sc_minus ?hT (fun cdv A outer s H E hr => (q_one (s_ret (d_callC C_ratio (hr.mono (by decide)) (a_cons (d_sub (d_mul (d_ix (fun _ _ => rfl) (dv 0) d_int) (d_ix (fun _ _ => rfl) (dv 1) d_int)) (d_mul (d_ix (fun _ _ => rfl) (dv 1) d_int) (d_ix (fun _ _ => rfl) (dv 0) d_int))) (a_cons (d_mul (d_ix (fun _ _ => rfl) (dv 0) d_int) (d_ix (fun _ _ => rfl) (dv 1) d_int)) a_nil)))))), hm, F.kp, hB⟩
  case hT =>
    intro a Q h
    obtain ⟨p, q, r, s, rfl, hq, hs, bp, bq, br, bs, k⟩ := h
    refine ⟨rfl, ?_⟩
    walk_at "wpt"
    exact ⟨mulA_b bp bs (by decide), mulA_b br bq (by decide), mulA_b bq bs (by decide), mul_ne hq hs, (bd_mul bq bs).mono (by decide), k _⟩

def T_less : TF := fun a Q => ∃ p q r s : Int, a = [.d (.tuple [.int p, .int q]), .d (.tuple [.int r, .int s])] ∧ Bd 3000 p ∧ Bd 3000 q ∧ Bd 3000 r ∧ Bd 3000 s ∧
  ret Q (.d (.bool (decide (p * s < r * q))))
theorem TE_less {p q r s : Int} {Q : S → Dl.Ctx → Prop} : T_less [.d (.tuple [.int p, .int q]), .d (.tuple [.int r, .int s])] Q = (Bd 3000 p ∧ Bd 3000 q ∧ Bd 3000 r ∧ Bd 3000 s ∧ ret Q (.d (.bool (decide (p * s < r * q))))) := propext ⟨fun ⟨_, _, _, _, e, q⟩ => by cases e; exact q, fun q => ⟨_, _, _, _, rfl, q⟩⟩
theorem sc_less : FnScope ["one", "other"] ["one", "other"] (defScope (topS 5)) := ⟨rfl, rfl, rfl, by decide +kernel, rfl, by decide +kernel, by decide +kernel⟩
local macro_rules | `(tactic| walk_at "wpt") => `(tactic| simp (maxSteps := 1000000) only [↓reduceIte, ↓asI_i, ↓asB_b, ↓asS_s, ↓asL_l, ↓asT_t, ↓slD_0, ↓slD_s, ↓slO_0, ↓slO_s, ↓asR_l, ↓fAdd_i, ↓fAdd_s, ↓ixD_l, ↓ixD_t, ↓ixD_s, ↓arg1_1, ↓arg2_2, ↓fLen1_l, ↓fLen1_t, ↓fLen1_s, ↓asC_c, ↓asQ_l, ↓asQ_t, ↓asQ_s, ↓kD_d, ↓kD_o, ↓kO_o, ↓fz_l, ↓fz_P, ↓ret_d, ↓ret_o, ↓ret_O, ↓retL_d, ↓retL_o, ↓retL_O, ↓atD_0, ↓atD_1, ↓atD_2, ↓atD_3, ↓atD_b1, ↓atD_b2, ↓atD_b3, ↓ixP_30, ↓ixP_31, ↓ixP_32, ↓if_true, ↓if_false, zNext, zSeq, zSet, zSetO, zDrop, zRet, zRetO, zRetP, zRetN, zIf, zPar, zAsg, zPut, gN, gsNil, gsCons, gT, uVar, uC, uFz, u2, fI, fI0, fEq, uIxO, uOwn, uCB, oCB, fLen, fLenO, fAbs, wB, wNot, wAnd, wOr, uAnd, uOr, uNot, uIf, aNil, aCons, uTup, oLst, fIx, oVar, iSeq, iR1, iR2, uCall, oCall, uLend, oLend, shaped_iff, sh_non, sh_int, sh_bool, sh_str, eqv_int, eqv_str, eqv_bool, ixN_30, ixN_31, ixN_32, ixN_20, ixN_21, atI_0, atI_1, atI_2, atI_3, atI_b1, atI_b2, atI_b3, List.length_map, Int.reduceEq, forall_const, implies_true, and_assoc, sz_0, sz_1, sz_2, sz_3, sz_4, sz_5, sz_6, sz_7, sz_8, Bool.not_eq_true', beq_eq_false_iff_ne, beq_iff_eq, ne_eq, Bool.and_eq_true, Bool.or_eq_true, decide_eq_false_iff_not, not_false_eq_true, not_true_eq_false, Bool.not_true, Bool.not_false, isI_n, isI_b, isI_i, isI_s, isI_l, isI_t, isB_n, isB_b, isB_i, isB_s, isB_l, isB_t, isS_n, isS_b, isS_i, isS_s, isS_l, isS_t, isL_n, isL_b, isL_i, isL_s, isL_l, isL_t, isT_n, isT_b, isT_i, isT_s, isT_l, isT_t, isN_n, isN_b, isN_i, isN_s, isN_l, isN_t, ca_0, ca_1, ca_2, ca_3, ca_4, ca_5, ca_6, Int.reduceToNat, Int.reducePow, Int.reduceMul, Int.reduceLT, Int.reduceLE, Int.reduceNeg, zFor,   List.replicate, List.length_cons, List.length_nil, List.nil_append, List.cons_append, List.append_nil, List.map_cons, List.map_nil, List.set_cons_zero, List.set_cons_succ, List.getElem?_cons_zero, List.getElem?_cons_succ, Option.some.injEq, S.d.injEq, S.o.injEq, Res.lst.injEq, Res.lstP.injEq, PyData.int.injEq, PyData.str.injEq, PyData.bool.injEq, PyData.list.injEq, PyData.tuple.injEq, List.cons.injEq, reduceCtorEq,   exists_eq_left', exists_eq_left, exists_eq_right, exists_eq_right', true_and, and_true, false_and, and_false, exists_false, false_or, or_false, exists_and_left, exists_and_right, exists_eq', exists_eq, exists_const, Bool.false_eq_true, ite_true, ite_false, decide_eq_true_eq, Nat.sub_self, Nat.zero_add, Nat.add_sub_cancel, Nat.reduceSub, Nat.reduceAdd])
theorem c_less {P : Program} {w : World} {K : PySem.W.Frag} {mg : Str → Option Value} {base : Heap} (hb : Bi K mg) (D : Df K mg "less" (topS 5) ["one", "other"])  : Cal P w K mg base "less" 1 ["one", "other"] T_less := by
  obtain ⟨f, fd, F, hm, hB⟩ := D
  refine ⟨f, fd, fn_d (k := 0) F sc_less ?hT (fun cdv A outer s H E hr => (q_one (s_ret (d_lt (d_mul (d_ix (fun _ _ => rfl) (dv 0) d_int) (d_ix (fun _ _ => rfl) (dv 1) d_int)) (d_mul (d_ix (fun _ _ => rfl) (dv 1) d_int) (d_ix (fun _ _ => rfl) (dv 0) d_int)))))), hm, F.kp, hB⟩
  case hT =>
    intro a Q h
    obtain ⟨p, q, r, s, rfl, bp, bq, br, bs, k⟩ := h
    refine ⟨rfl, ?_⟩
    walk_at "wpt"
    exact ⟨mulA_b bp bs (by decide), mulA_b br bq (by decide), k _⟩

def T_law_draw : TF := fun a Q => ∃ (ns : List Int) (k many : Int), a = [.d (.list (ns.map PyData.int)), .d (.int k), .d (.int many)] ∧ 0 < many ∧ ∀ r, 0 ≤ r → r < many → ret Q (.d (.int r))
theorem TE_law_draw {ns : List Int} {k many : Int} {Q : S → Dl.Ctx → Prop} : T_law_draw [.d (.list (ns.map PyData.int)), .d (.int k), .d (.int many)] Q = (0 < many ∧ ∀ r, 0 ≤ r → r < many → ret Q (.d (.int r))) :=
  propext ⟨fun ⟨_, _, _, e, q⟩ => by
    simp only [List.cons.injEq, S.d.injEq, PyData.int.injEq, and_true] at e
    obtain ⟨_, rfl, rfl⟩ := e
    exact q, fun q => ⟨_, _, _, rfl, q⟩⟩
theorem sc_law_draw : FnScope ["script", "k", "many", "cell", "seed"] ["script", "k", "many"] (defScope (topS 7)) := ⟨rfl, rfl, rfl, by decide +kernel, rfl, by decide +kernel, by decide +kernel⟩
local macro_rules | `(tactic| walk_at "wpt") => `(tactic| simp (maxSteps := 1000000) only [↓reduceIte, ↓asI_i, ↓asB_b, ↓asS_s, ↓asL_l, ↓asT_t, ↓slD_0, ↓slD_s, ↓slO_0, ↓slO_s, ↓asR_l, ↓fAdd_i, ↓fAdd_s, ↓ixD_l, ↓ixD_t, ↓ixD_s, ↓arg1_1, ↓arg2_2, ↓fLen1_l, ↓fLen1_t, ↓fLen1_s, ↓asC_c, ↓asQ_l, ↓asQ_t, ↓asQ_s, ↓kD_d, ↓kD_o, ↓kO_o, ↓fz_l, ↓fz_P, ↓ret_d, ↓ret_o, ↓ret_O, ↓retL_d, ↓retL_o, ↓retL_O, ↓atD_0, ↓atD_1, ↓atD_2, ↓atD_3, ↓atD_b1, ↓atD_b2, ↓atD_b3, ↓ixP_30, ↓ixP_31, ↓ixP_32, ↓if_true, ↓if_false, zNext, zSeq, zSet, zSetO, zDrop, zRet, zRetO, zRetP, zRetN, zIf, zPar, zAsg, zPut, gN, gsNil, gsCons, gT, uVar, uC, uFz, u2, fI, fI0, fEq, uIxO, uOwn, uCB, oCB, fLen, fLenO, fAbs, wB, wNot, wAnd, wOr, uAnd, uOr, uNot, uIf, aNil, aCons, uTup, oLst, fIx, oVar, iSeq, iR1, iR2, uCall, oCall, uLend, oLend, shaped_iff, sh_non, sh_int, sh_bool, sh_str, eqv_int, eqv_str, eqv_bool, ixN_30, ixN_31, ixN_32, ixN_20, ixN_21, atI_0, atI_1, atI_2, atI_3, atI_b1, atI_b2, atI_b3, List.length_map, Int.reduceEq, forall_const, implies_true, and_assoc, sz_0, sz_1, sz_2, sz_3, sz_4, sz_5, sz_6, sz_7, sz_8, Bool.not_eq_true', beq_eq_false_iff_ne, beq_iff_eq, ne_eq, Bool.and_eq_true, Bool.or_eq_true, decide_eq_false_iff_not, not_false_eq_true, not_true_eq_false, Bool.not_true, Bool.not_false, isI_n, isI_b, isI_i, isI_s, isI_l, isI_t, isB_n, isB_b, isB_i, isB_s, isB_l, isB_t, isS_n, isS_b, isS_i, isS_s, isS_l, isS_t, isL_n, isL_b, isL_i, isL_s, isL_l, isL_t, isT_n, isT_b, isT_i, isT_s, isT_l, isT_t, isN_n, isN_b, isN_i, isN_s, isN_l, isN_t, ca_0, ca_1, ca_2, ca_3, ca_4, ca_5, ca_6, Int.reduceToNat, Int.reducePow, Int.reduceMul, Int.reduceLT, Int.reduceLE, Int.reduceNeg, zFor,   List.replicate, List.length_cons, List.length_nil, List.nil_append, List.cons_append, List.append_nil, List.map_cons, List.map_nil, List.set_cons_zero, List.set_cons_succ, List.getElem?_cons_zero, List.getElem?_cons_succ, Option.some.injEq, S.d.injEq, S.o.injEq, Res.lst.injEq, Res.lstP.injEq, PyData.int.injEq, PyData.str.injEq, PyData.bool.injEq, PyData.list.injEq, PyData.tuple.injEq, List.cons.injEq, reduceCtorEq,   exists_eq_left', exists_eq_left, exists_eq_right, exists_eq_right', true_and, and_true, false_and, and_false, exists_false, false_or, or_false, exists_and_left, exists_and_right, exists_eq', exists_eq, exists_const, Bool.false_eq_true, ite_true, ite_false, decide_eq_true_eq, Nat.sub_self, Nat.zero_add, Nat.add_sub_cancel, Nat.reduceSub, Nat.reduceAdd])
theorem c_law_draw {P : Program} {w : World} {K : PySem.W.Frag} {mg : Str → Option Value} {base : Heap} (hb : Bi K mg) (D : Df K mg "_law_draw" (topS 7) ["script", "k", "many"])  : Cal P w K mg base "_law_draw" 1 ["script", "k", "many"] T_law_draw := by
  obtain ⟨f, fd, F, hm, hB⟩ := D
  refine ⟨f, fd, fn_d (k := 0) F sc_law_draw ?hT (fun cdv A outer s H E hr => (q_cons (s_set (j := 3) sc_law_draw.nd d_int)
 (q_cons (s_if (t_gt (d_len hb.len (a_cons (dv 0) a_nil)) d_int)
 (q_one (s_set (j := 3) sc_law_draw.nd (d_ix (fun _ _ => rfl) (dv 0) (d_mod (dv 1) (d_len hb.len (a_cons (dv 0) a_nil)))))) q_nil)
 (q_cons (s_set (j := 4) sc_law_draw.nd (d_mod (d_mul (d_add (d_add (d_mod (dv 3) d_int) (d_mul d_int (dv 1))) d_int) d_int) d_int))
 (q_one (s_ret (d_mod (d_mod (d_mul (d_mod (d_add (d_mul (dv 4) d_int) (dv 1)) d_int) d_int) d_int) (dv 2)))))))), hm, F.kp, hB⟩
  case hT =>
    intro a Q h
    obtain ⟨ns, k, many, rfl, hm, q⟩ := h
    refine ⟨rfl, ?_⟩
    walk_at "wpt"
    have hm0 : ¬ many = 0 := by omega
    have fin : ∀ (x : Int) (c : Dl.Ctx), Q (.d (.int (x.fmod many))) c := fun x c => q _ (fmod_pos hm).1 (fmod_pos hm).2 c
    split
    · rename_i hl
      obtain ⟨n, _, hn⟩ := atI_ints (ns := ns) (i := k.fmod ns.length) (fmod_pos hl).1 (fmod_pos hl).2
      refine ⟨by omega, _, hn, ?_⟩
      walk_at "wpt"
      exact ⟨mulA_l (by decide) (by decide), mulA_r (by decide) (by decide), mulA_r (by decide) (by decide), mulA_r (by decide) (by decide), hm0, fin _ _⟩
    · exact ⟨mulA_l (by decide) (by decide), mulA_r (by decide) (by decide), mulA_r (by decide) (by decide), mulA_r (by decide) (by decide), hm0, fin _ _⟩

def T_law_feed : TF := fun a Q => ∃ (ns : List Int) (k : Int), a = [.d (.list (ns.map PyData.int)), .d (.int k)] ∧ 0 ≤ k ∧ ret Q (.o none (.lstP FeedP))
theorem TE_law_feed {ns : List Int} {k : Int} {Q : S → Dl.Ctx → Prop} : T_law_feed [.d (.list (ns.map PyData.int)), .d (.int k)] Q = (0 ≤ k ∧ ret Q (.o none (.lstP FeedP))) :=
  propext ⟨fun ⟨_, _, e, q⟩ => by
    simp only [List.cons.injEq, S.d.injEq, PyData.int.injEq, and_true] at e
    obtain ⟨_, rfl⟩ := e
    exact q, fun q => ⟨_, _, rfl, q⟩⟩
theorem sc_law_feed : FnScope ["script", "k", "cell"] ["script", "k"] (defScope (topS 8)) := ⟨rfl, rfl, rfl, by decide +kernel, rfl, by decide +kernel, by decide +kernel⟩
local macro_rules | `(tactic| walk_at "wpt") => `(tactic| simp (maxSteps := 1000000) only [↓reduceIte, ↓asI_i, ↓asB_b, ↓asS_s, ↓asL_l, ↓asT_t, ↓slD_0, ↓slD_s, ↓slO_0, ↓slO_s, ↓asR_l, ↓fAdd_i, ↓fAdd_s, ↓ixD_l, ↓ixD_t, ↓ixD_s, ↓arg1_1, ↓arg2_2, ↓fLen1_l, ↓fLen1_t, ↓fLen1_s, ↓asC_c, ↓asQ_l, ↓asQ_t, ↓asQ_s, ↓kD_d, ↓kD_o, ↓kO_o, ↓fz_l, ↓fz_P, ↓ret_d, ↓ret_o, ↓ret_O, ↓retL_d, ↓retL_o, ↓retL_O, ↓atD_0, ↓atD_1, ↓atD_2, ↓atD_3, ↓atD_b1, ↓atD_b2, ↓atD_b3, ↓ixP_30, ↓ixP_31, ↓ixP_32, ↓if_true, ↓if_false, zNext, zSeq, zSet, zSetO, zDrop, zRet, zRetO, zRetP, zRetN, zIf, zPar, zAsg, zPut, gN, gsNil, gsCons, gT, uVar, uC, uFz, u2, fI, fI0, fEq, uIxO, uOwn, uCB, oCB, fLen, fLenO, fAbs, wB, wNot, wAnd, wOr, uAnd, uOr, uNot, uIf, aNil, aCons, uTup, oLst, fIx, oVar, iSeq, iR1, iR2, uCall, oCall, uLend, oLend, shaped_iff, sh_non, sh_int, sh_bool, sh_str, eqv_int, eqv_str, eqv_bool, ixN_30, ixN_31, ixN_32, ixN_20, ixN_21, atI_0, atI_1, atI_2, atI_3, atI_b1, atI_b2, atI_b3, List.length_map, Int.reduceEq, forall_const, implies_true, and_assoc, sz_0, sz_1, sz_2, sz_3, sz_4, sz_5, sz_6, sz_7, sz_8, Bool.not_eq_true', beq_eq_false_iff_ne, beq_iff_eq, ne_eq, Bool.and_eq_true, Bool.or_eq_true, decide_eq_false_iff_not, not_false_eq_true, not_true_eq_false, Bool.not_true, Bool.not_false, isI_n, isI_b, isI_i, isI_s, isI_l, isI_t, isB_n, isB_b, isB_i, isB_s, isB_l, isB_t, isS_n, isS_b, isS_i, isS_s, isS_l, isS_t, isL_n, isL_b, isL_i, isL_s, isL_l, isL_t, isT_n, isT_b, isT_i, isT_s, isT_l, isT_t, isN_n, isN_b, isN_i, isN_s, isN_l, isN_t, ca_0, ca_1, ca_2, ca_3, ca_4, ca_5, ca_6, Int.reduceToNat, Int.reducePow, Int.reduceMul, Int.reduceLT, Int.reduceLE, Int.reduceNeg, zFor,   List.replicate, List.length_cons, List.length_nil, List.nil_append, List.cons_append, List.append_nil, List.map_cons, List.map_nil, List.set_cons_zero, List.set_cons_succ, List.getElem?_cons_zero, List.getElem?_cons_succ, Option.some.injEq, S.d.injEq, S.o.injEq, Res.lst.injEq, Res.lstP.injEq, PyData.int.injEq, PyData.str.injEq, PyData.bool.injEq, PyData.list.injEq, PyData.tuple.injEq, List.cons.injEq, reduceCtorEq,   exists_eq_left', exists_eq_left, exists_eq_right, exists_eq_right', true_and, and_true, false_and, and_false, exists_false, false_or, or_false, exists_and_left, exists_and_right, exists_eq', exists_eq, exists_const, Bool.false_eq_true, ite_true, ite_false, decide_eq_true_eq, Nat.sub_self, Nat.zero_add, Nat.add_sub_cancel, Nat.reduceSub, Nat.reduceAdd])
theorem c_law_feed {P : Program} {w : World} {K : PySem.W.Frag} {mg : Str → Option Value} {base : Heap} (hb : Bi K mg) (D : Df K mg "_law_feed" (topS 8) ["script", "k"])  : Cal P w K mg base "_law_feed" 1 ["script", "k"] T_law_feed := by
  obtain ⟨f, fd, F, hm, hB⟩ := D
  refine ⟨f, fd, fn_d (k := 0) F sc_law_feed ?hT (fun cdv A outer s H E hr => (q_cons (s_set (j := 2) sc_law_feed.nd d_int)
 (q_cons (s_if (t_lt (dv 1) (d_len hb.len (a_cons (dv 0) a_nil)))
 (q_one (s_set (j := 2) sc_law_feed.nd (d_ix (fun _ _ => rfl) (dv 0) (dv 1)))) q_nil)
 (q_one (s_retP (FeedP) (o_lst (a_cons (dv 2) (a_cons (d_mul d_int (dv 1)) (a_cons (dv 0) a_nil))))))))), hm, F.kp, hB⟩
  case hT =>
    intro a Q h
    obtain ⟨ns, k, rfl, hk, q⟩ := h
    refine ⟨rfl, ?_⟩
    walk_at "wpt"
    split
    · rename_i hl
      obtain ⟨n, _, hn⟩ := atI_ints (ns := ns) (i := k) hk hl
      refine ⟨_, hn, ?_⟩
      walk_at "wpt"
      exact ⟨mulA_l (by decide) (by decide), ⟨_, _, ns, rfl⟩, q _⟩
    · exact ⟨mulA_l (by decide) (by decide), ⟨_, _, ns, rfl⟩, q _⟩

def T_law_next : TF := fun a Q => ∃ (v : V) (many : Int), a = [.o (some v) (.lstP FeedP), .d (.int many)] ∧ 0 < many ∧ Bd 250 many ∧ ∀ r, 0 ≤ r → r < many → retL v (.lstP FeedP) Q (.d (.int r))
theorem TE_law_next {v : V} {many : Int} {Q : S → Dl.Ctx → Prop} : T_law_next [.o (some v) (.lstP FeedP), .d (.int many)] Q = (0 < many ∧ Bd 250 many ∧ ∀ r, 0 ≤ r → r < many → retL v (.lstP FeedP) Q (.d (.int r))) := propext ⟨fun ⟨_, _, e, q⟩ => by cases e; exact q, fun q => ⟨_, _, rfl, q⟩⟩
theorem sc_law_next : FnScope ["feed", "many", "digit"] ["feed", "many"] (defScope (topS 9)) := ⟨rfl, rfl, rfl, by decide +kernel, rfl, by decide +kernel, by decide +kernel⟩
local macro_rules | `(tactic| walk_at "wpt") => `(tactic| simp (maxSteps := 1000000) only [↓TE_law_draw, ↓reduceIte, ↓asI_i, ↓asB_b, ↓asS_s, ↓asL_l, ↓asT_t, ↓slD_0, ↓slD_s, ↓slO_0, ↓slO_s, ↓asR_l, ↓fAdd_i, ↓fAdd_s, ↓ixD_l, ↓ixD_t, ↓ixD_s, ↓arg1_1, ↓arg2_2, ↓fLen1_l, ↓fLen1_t, ↓fLen1_s, ↓asC_c, ↓asQ_l, ↓asQ_t, ↓asQ_s, ↓kD_d, ↓kD_o, ↓kO_o, ↓fz_l, ↓fz_P, ↓ret_d, ↓ret_o, ↓ret_O, ↓retL_d, ↓retL_o, ↓retL_O, ↓atD_0, ↓atD_1, ↓atD_2, ↓atD_3, ↓atD_b1, ↓atD_b2, ↓atD_b3, ↓ixP_30, ↓ixP_31, ↓ixP_32, ↓if_true, ↓if_false, zNext, zSeq, zSet, zSetO, zDrop, zRet, zRetO, zRetP, zRetN, zIf, zPar, zAsg, zPut, gN, gsNil, gsCons, gT, uVar, uC, uFz, u2, fI, fI0, fEq, uIxO, uOwn, uCB, oCB, fLen, fLenO, fAbs, wB, wNot, wAnd, wOr, uAnd, uOr, uNot, uIf, aNil, aCons, uTup, oLst, fIx, oVar, iSeq, iR1, iR2, uCall, oCall, uLend, oLend, shaped_iff, sh_non, sh_int, sh_bool, sh_str, eqv_int, eqv_str, eqv_bool, ixN_30, ixN_31, ixN_32, ixN_20, ixN_21, atI_0, atI_1, atI_2, atI_3, atI_b1, atI_b2, atI_b3, List.length_map, Int.reduceEq, forall_const, implies_true, and_assoc, sz_0, sz_1, sz_2, sz_3, sz_4, sz_5, sz_6, sz_7, sz_8, Bool.not_eq_true', beq_eq_false_iff_ne, beq_iff_eq, ne_eq, Bool.and_eq_true, Bool.or_eq_true, decide_eq_false_iff_not, not_false_eq_true, not_true_eq_false, Bool.not_true, Bool.not_false, isI_n, isI_b, isI_i, isI_s, isI_l, isI_t, isB_n, isB_b, isB_i, isB_s, isB_l, isB_t, isS_n, isS_b, isS_i, isS_s, isS_l, isS_t, isL_n, isL_b, isL_i, isL_s, isL_l, isL_t, isT_n, isT_b, isT_i, isT_s, isT_l, isT_t, isN_n, isN_b, isN_i, isN_s, isN_l, isN_t, ca_0, ca_1, ca_2, ca_3, ca_4, ca_5, ca_6, Int.reduceToNat, Int.reducePow, Int.reduceMul, Int.reduceLT, Int.reduceLE, Int.reduceNeg, zFor,   List.replicate, List.length_cons, List.length_nil, List.nil_append, List.cons_append, List.append_nil, List.map_cons, List.map_nil, List.set_cons_zero, List.set_cons_succ, List.getElem?_cons_zero, List.getElem?_cons_succ, Option.some.injEq, S.d.injEq, S.o.injEq, Res.lst.injEq, Res.lstP.injEq, PyData.int.injEq, PyData.str.injEq, PyData.bool.injEq, PyData.list.injEq, PyData.tuple.injEq, List.cons.injEq, reduceCtorEq,   exists_eq_left', exists_eq_left, exists_eq_right, exists_eq_right', true_and, and_true, false_and, and_false, exists_false, false_or, or_false, exists_and_left, exists_and_right, exists_eq', exists_eq, exists_const, Bool.false_eq_true, ite_true, ite_false, decide_eq_true_eq, Nat.sub_self, Nat.zero_add, Nat.add_sub_cancel, Nat.reduceSub, Nat.reduceAdd])
theorem c_law_next {P : Program} {w : World} {K : PySem.W.Frag} {mg : Str → Option Value} {base : Heap} (hb : Bi K mg) (D : Df K mg "_law_next" (topS 9) ["feed", "many"]) (C__law_draw : Cal P w K mg base "_law_draw" 1 ["script", "k", "many"] T_law_draw) : Cal P w K mg base "_law_next" 2 ["feed", "many"] T_law_next := by
  obtain ⟨f, fd, F, hm, hB⟩ := D
  refine ⟨f, fd, fn_dP (k := 1) F sc_law_next ?hT (fun cdv A outer s H E hr => (q_cons (s_put 0 (d_add (d_ixO 0 (fun _ _ => rfl) d_int) d_int) d_int)
 (q_cons (s_if (DW.dt (w_or (t_eq hr.units (d_len hb.len (a_cons (d_ixO 0 (fun _ _ => rfl) d_int) a_nil)) d_int) (w_or1 (t_eq hr.units (d_mod (d_ix (fun _ _ => rfl) (d_ixO 0 (fun _ _ => rfl) d_int) d_int) d_int) d_int))))
 (q_one (s_ret (d_callC C__law_draw (hr.mono (by decide)) (a_cons (d_ixO 0 (fun _ _ => rfl) d_int) (a_cons (d_ixO 0 (fun _ _ => rfl) d_int) (a_cons (dv 1) a_nil)))))) q_nil)
 (q_cons (s_set (j := 2) sc_law_next.nd (d_mod (d_ixO 0 (fun _ _ => rfl) d_int) (dv 1)))
 (q_cons (s_put 0 (d_fdiv (d_ixO 0 (fun _ _ => rfl) d_int) (dv 1)) d_int)
 (q_one (s_ret (dv 2)))))))), hm, F.kp, hB⟩
  case hT =>
    intro a Q h
    obtain ⟨v, many, rfl, hm, hb9, q⟩ := h
    refine ⟨rfl, some v, FeedP, rfl, ?_⟩
    rintro ds ⟨c, k, ns, rfl⟩
    walk_at "wpt"
    have hm0 : ¬ many = 0 := by omega
    have fin : ∀ r, 0 ≤ r → r < many → ∀ l, Q (.d (.int r)) (.o (some v) (.lstP FeedP) :: l) := fun r h1 h2 l => q r h1 h2 _ rfl
    split
    · exact ⟨hm, fun r h1 h2 => ⟨⟨_, _, ns, rfl⟩, fin r h1 h2 _⟩⟩
    · rename_i hl
      obtain ⟨n, _, hn⟩ := atI_ints (ns := ns) (i := 0) (by omega) (by omega)
      refine ⟨_, hn, ?_⟩
      walk_at "wpt"
      split
      · exact ⟨hm, fun r h1 h2 => ⟨⟨_, _, ns, rfl⟩, fin r h1 h2 _⟩⟩
      · exact ⟨hm0, divA_b hm0 hb9 (by decide), ⟨_, _, ns, rfl⟩, fin _ (fmod_pos hm).1 (fmod_pos hm).2 _⟩

def T_law_number : TF := fun a Q => ∃ (v : V), a = [.o (some v) (.lstP FeedP)] ∧ ∀ r, Bd 100 r → retL v (.lstP FeedP) Q (.d (.int r))
theorem TE_law_number {v : V} {Q : S → Dl.Ctx → Prop} : T_law_number [.o (some v) (.lstP FeedP)] Q = ∀ r, Bd 100 r → retL v (.lstP FeedP) Q (.d (.int r)) := propext ⟨fun ⟨_, e, q⟩ => by cases e; exact q, fun q => ⟨_, rfl, q⟩⟩
theorem pick2 {x y : PyData} {r : Int} {Q : PyData → Prop} (h0 : 0 ≤ r) (h2 : r < 2) (hx : Q x) (hy : Q y) : atD [x, y] r Q := by
  have e : r = 0 ∨ r = 1 := by omega
  rcases e with rfl | rfl
  · exact ⟨_, atI_0, hx⟩
  · exact ⟨_, atI_1, hy⟩
theorem sc_law_number : FnScope ["feed", "number"] ["feed"] (defScope (topS 10)) := ⟨rfl, rfl, rfl, by decide +kernel, rfl, by decide +kernel, by decide +kernel⟩
local macro_rules | `(tactic| walk_at "wpt") => `(tactic| simp (maxSteps := 1000000) only [↓TE_law_next, ↓reduceIte, ↓asI_i, ↓asB_b, ↓asS_s, ↓asL_l, ↓asT_t, ↓slD_0, ↓slD_s, ↓slO_0, ↓slO_s, ↓asR_l, ↓fAdd_i, ↓fAdd_s, ↓ixD_l, ↓ixD_t, ↓ixD_s, ↓arg1_1, ↓arg2_2, ↓fLen1_l, ↓fLen1_t, ↓fLen1_s, ↓asC_c, ↓asQ_l, ↓asQ_t, ↓asQ_s, ↓kD_d, ↓kD_o, ↓kO_o, ↓fz_l, ↓fz_P, ↓ret_d, ↓ret_o, ↓ret_O, ↓retL_d, ↓retL_o, ↓retL_O, ↓atD_0, ↓atD_1, ↓atD_2, ↓atD_3, ↓atD_b1, ↓atD_b2, ↓atD_b3, ↓ixP_30, ↓ixP_31, ↓ixP_32, ↓if_true, ↓if_false, zNext, zSeq, zSet, zSetO, zDrop, zRet, zRetO, zRetP, zRetN, zIf, zPar, zAsg, zPut, gN, gsNil, gsCons, gT, uVar, uC, uFz, u2, fI, fI0, fEq, uIxO, uOwn, uCB, oCB, fLen, fLenO, fAbs, wB, wNot, wAnd, wOr, uAnd, uOr, uNot, uIf, aNil, aCons, uTup, oLst, fIx, oVar, iSeq, iR1, iR2, uCall, oCall, uLend, oLend, shaped_iff, sh_non, sh_int, sh_bool, sh_str, eqv_int, eqv_str, eqv_bool, ixN_30, ixN_31, ixN_32, ixN_20, ixN_21, atI_0, atI_1, atI_2, atI_3, atI_b1, atI_b2, atI_b3, List.length_map, Int.reduceEq, forall_const, implies_true, and_assoc, sz_0, sz_1, sz_2, sz_3, sz_4, sz_5, sz_6, sz_7, sz_8, Bool.not_eq_true', beq_eq_false_iff_ne, beq_iff_eq, ne_eq, Bool.and_eq_true, Bool.or_eq_true, decide_eq_false_iff_not, not_false_eq_true, not_true_eq_false, Bool.not_true, Bool.not_false, isI_n, isI_b, isI_i, isI_s, isI_l, isI_t, isB_n, isB_b, isB_i, isB_s, isB_l, isB_t, isS_n, isS_b, isS_i, isS_s, isS_l, isS_t, isL_n, isL_b, isL_i, isL_s, isL_l, isL_t, isT_n, isT_b, isT_i, isT_s, isT_l, isT_t, isN_n, isN_b, isN_i, isN_s, isN_l, isN_t, ca_0, ca_1, ca_2, ca_3, ca_4, ca_5, ca_6, Int.reduceToNat, Int.reducePow, Int.reduceMul, Int.reduceLT, Int.reduceLE, Int.reduceNeg, zFor,   List.replicate, List.length_cons, List.length_nil, List.nil_append, List.cons_append, List.append_nil, List.map_cons, List.map_nil, List.set_cons_zero, List.set_cons_succ, List.getElem?_cons_zero, List.getElem?_cons_succ, Option.some.injEq, S.d.injEq, S.o.injEq, Res.lst.injEq, Res.lstP.injEq, PyData.int.injEq, PyData.str.injEq, PyData.bool.injEq, PyData.list.injEq, PyData.tuple.injEq, List.cons.injEq, reduceCtorEq,   exists_eq_left', exists_eq_left, exists_eq_right, exists_eq_right', true_and, and_true, false_and, and_false, exists_false, false_or, or_false, exists_and_left, exists_and_right, exists_eq', exists_eq, exists_const, Bool.false_eq_true, ite_true, ite_false, decide_eq_true_eq, Nat.sub_self, Nat.zero_add, Nat.add_sub_cancel, Nat.reduceSub, Nat.reduceAdd])
theorem c_law_number {P : Program} {w : World} {K : PySem.W.Frag} {mg : Str → Option Value} {base : Heap} (hb : Bi K mg) (D : Df K mg "_law_number" (topS 10) ["feed"]) (C__law_next : Cal P w K mg base "_law_next" 2 ["feed", "many"] T_law_next) : Cal P w K mg base "_law_number" 3 ["feed"] T_law_number := by
  obtain ⟨f, fd, F, hm, hB⟩ := D
  refine ⟨f, fd, fn_d (k := 2) F sc_law_number ?hT (fun cdv A outer s H E hr => (q_cons (s_set (j := 1) sc_law_number.nd (d_lendC 0 C__law_next (hr.mono (by decide)) (a_cons d_int a_nil)))
 (q_cut (s_if (t_eq hr.units (d_lendC 0 C__law_next (hr.mono (by decide)) (a_cons d_int a_nil)) d_int)
 (q_cons (s_set (j := 1) sc_law_number.nd (d_mul (d_lendC 0 C__law_next (hr.mono (by decide)) (a_cons (d_pow d_int d_int) a_nil)) (d_pow d_int d_int)))
 (q_one (s_set (j := 1) sc_law_number.nd (d_mod (d_add (dv 1) (d_lendC 0 C__law_next (hr.mono (by decide)) (a_cons (d_pow d_int d_int) a_nil))) (d_pow d_int d_int))))) q_nil)
 (q_one (s_ret (d_ix (fun _ _ => rfl) (d_fz (o_lst (a_cons (dv 1) (a_cons (d_neg (dv 1)) a_nil)))) (d_lendC 0 C__law_next (hr.mono (by decide)) (a_cons d_int a_nil)))))))), hm, F.kp, hB⟩
  case hT =>
    intro a Q h
    obtain ⟨v, rfl, q⟩ := h
    refine ⟨rfl, ?_⟩
    walk_at "wpt"
    refine ⟨by decide, fun r h0 h9 => ?_⟩
    refine cut_by (fun c => ∃ n : Int, Bd 100 n ∧ c = [.o (some v) (.lstP FeedP), .d (.int n)]) ?_ ?_
    · intro N hN
      walk_at "wpt"
      refine ⟨by decide, fun k _ _ => ?_⟩
      split
      · refine ⟨powA (by decide), by decide, fun x hx0 hx => ⟨powA (by decide), mulA_b (n := 100) (m := 100) (bd_of (by omega) (Int.lt_trans hx (by decide))) (by decide) (by decide), powA (by decide), by decide, fun y hy0 hy => ⟨powA (by decide), ?_⟩⟩⟩
        exact hN _ ⟨_, bd_of (Int.lt_of_lt_of_le (by decide) (fmod_pos (by decide)).1) (Int.lt_trans (fmod_pos (by decide)).2 (by decide)), rfl⟩
      · exact hN _ ⟨_, bd_of (by omega) (by omega), rfl⟩
    · rintro c ⟨n, hn, rfl⟩
      walk_at "wpt"
      refine ⟨by decide, fun z hz0 hz => ?_⟩
      exact pick2 hz0 hz (q _ hn _ rfl) (q _ (bd_neg hn) _ rfl)

def T_law_divisor : TF := fun a Q => ∃ i j : Int, a = [.d (.int i), .d (.int j)] ∧ ret Q (.d (.int (Int.gcd i j)))
theorem TE_law_divisor {i j : Int} {Q : S → Dl.Ctx → Prop} : T_law_divisor [.d (.int i), .d (.int j)] Q = ret Q (.d (.int (Int.gcd i j))) := propext ⟨fun ⟨_, _, e, q⟩ => by cases e; exact q, fun q => ⟨_, _, rfl, q⟩⟩
theorem sc_law_divisor : FnScope ["one", "other"] ["one", "other"] (defScope (topS 11)) := ⟨rfl, rfl, rfl, by decide +kernel, rfl, by decide +kernel, by decide +kernel⟩
local macro_rules | `(tactic| walk_at "wpt") => `(tactic| simp (maxSteps := 1000000) only [↓reduceIte, ↓asI_i, ↓asB_b, ↓asS_s, ↓asL_l, ↓asT_t, ↓slD_0, ↓slD_s, ↓slO_0, ↓slO_s, ↓asR_l, ↓fAdd_i, ↓fAdd_s, ↓ixD_l, ↓ixD_t, ↓ixD_s, ↓arg1_1, ↓arg2_2, ↓fLen1_l, ↓fLen1_t, ↓fLen1_s, ↓asC_c, ↓asQ_l, ↓asQ_t, ↓asQ_s, ↓kD_d, ↓kD_o, ↓kO_o, ↓fz_l, ↓fz_P, ↓ret_d, ↓ret_o, ↓ret_O, ↓retL_d, ↓retL_o, ↓retL_O, ↓atD_0, ↓atD_1, ↓atD_2, ↓atD_3, ↓atD_b1, ↓atD_b2, ↓atD_b3, ↓ixP_30, ↓ixP_31, ↓ixP_32, ↓if_true, ↓if_false, zNext, zSeq, zSet, zSetO, zDrop, zRet, zRetO, zRetP, zRetN, zIf, zPar, zAsg, zPut, gN, gsNil, gsCons, gT, uVar, uC, uFz, u2, fI, fI0, fEq, uIxO, uOwn, uCB, oCB, fLen, fLenO, fAbs, wB, wNot, wAnd, wOr, uAnd, uOr, uNot, uIf, aNil, aCons, uTup, oLst, fIx, oVar, iSeq, iR1, iR2, uCall, oCall, uLend, oLend, shaped_iff, sh_non, sh_int, sh_bool, sh_str, eqv_int, eqv_str, eqv_bool, ixN_30, ixN_31, ixN_32, ixN_20, ixN_21, atI_0, atI_1, atI_2, atI_3, atI_b1, atI_b2, atI_b3, List.length_map, Int.reduceEq, forall_const, implies_true, and_assoc, sz_0, sz_1, sz_2, sz_3, sz_4, sz_5, sz_6, sz_7, sz_8, Bool.not_eq_true', beq_eq_false_iff_ne, beq_iff_eq, ne_eq, Bool.and_eq_true, Bool.or_eq_true, decide_eq_false_iff_not, not_false_eq_true, not_true_eq_false, Bool.not_true, Bool.not_false, isI_n, isI_b, isI_i, isI_s, isI_l, isI_t, isB_n, isB_b, isB_i, isB_s, isB_l, isB_t, isS_n, isS_b, isS_i, isS_s, isS_l, isS_t, isL_n, isL_b, isL_i, isL_s, isL_l, isL_t, isT_n, isT_b, isT_i, isT_s, isT_l, isT_t, isN_n, isN_b, isN_i, isN_s, isN_l, isN_t, ca_0, ca_1, ca_2, ca_3, ca_4, ca_5, ca_6, Int.reduceToNat, Int.reducePow, Int.reduceMul, Int.reduceLT, Int.reduceLE, Int.reduceNeg, zFor,   List.replicate, List.length_cons, List.length_nil, List.nil_append, List.cons_append, List.append_nil, List.map_cons, List.map_nil, List.set_cons_zero, List.set_cons_succ, List.getElem?_cons_zero, List.getElem?_cons_succ, Option.some.injEq, S.d.injEq, S.o.injEq, Res.lst.injEq, Res.lstP.injEq, PyData.int.injEq, PyData.str.injEq, PyData.bool.injEq, PyData.list.injEq, PyData.tuple.injEq, List.cons.injEq, reduceCtorEq,   exists_eq_left', exists_eq_left, exists_eq_right, exists_eq_right', true_and, and_true, false_and, and_false, exists_false, false_or, or_false, exists_and_left, exists_and_right, exists_eq', exists_eq, exists_const, Bool.false_eq_true, ite_true, ite_false, decide_eq_true_eq, Nat.sub_self, Nat.zero_add, Nat.add_sub_cancel, Nat.reduceSub, Nat.reduceAdd])
theorem c_law_divisor {P : Program} {w : World} {K : PySem.W.Frag} {mg : Str → Option Value} {base : Heap} (hb : Bi K mg) (D : Df K mg "_law_divisor" (topS 11) ["one", "other"])  : Cal P w K mg base "_law_divisor" 1 ["one", "other"] T_law_divisor := by
  obtain ⟨f, fd, F, hm, hB⟩ := D
  refine ⟨f, fd, fn_d (k := 0) F sc_law_divisor ?hT (fun cdv A outer s H E hr => (q_cons (s_set (j := 0) sc_law_divisor.nd (d_abs hb.abs (a_cons (dv 0) a_nil)))
 (q_cons (s_set (j := 1) sc_law_divisor.nd (d_abs hb.abs (a_cons (dv 1) a_nil)))
 (q_cons (s_while PassesOwn.never (t_gt (dv 1) d_int)
 (q_one (s_par (i := 0) (j := 1) rfl sc_law_divisor.nd (a_cons (dv 1) (a_cons (d_mod (dv 0) (dv 1)) a_nil)) (by rfl))))
 (q_one (s_ret (dv 0))))))), hm, F.kp, hB⟩
  case hT =>
    intro a Q h
    obtain ⟨i, j, rfl, q⟩ := h
    refine ⟨rfl, ?_⟩
    walk_at "wpt"
    have ha : ∀ x : Int, (if x < 0 then -x else x) = (x.natAbs : Int) := fun x => by split <;> omega
    rw [ha, ha]
    refine while_of (fun m c => ∃ i' j' : Nat, c = [.d (.int (i' : Int)), .d (.int (j' : Int))] ∧ m = j' ∧ Nat.gcd i' j' = Int.gcd i j) _ ⟨i.natAbs, j.natAbs, rfl, rfl, rfl⟩ ?_
    rintro m c N ⟨i', j', rfl, rfl, hg⟩ hN
    walk_at "wpt"
    split
    · rename_i h
      have e : (i' : Int).fmod m = ((i' % m : Nat) : Int) := by
        rw [Int.fmod_eq_emod_of_nonneg _ (by omega)]
        rfl
      rw [e]
      have hj : m ≠ 0 := by omega
      refine ⟨by omega, hN (i' % m) _ (Nat.mod_lt i' (by omega)) ⟨m, i' % m, rfl, rfl, ?_⟩⟩
      rw [← hg, Nat.gcd_comm m (i' % m), ← Nat.gcd_rec, Nat.gcd_comm]
    · rename_i h
      obtain rfl : m = 0 := by omega
      rw [Nat.gcd_zero_right] at hg
      rw [hg]
      exact q _

def T_law_is : TF := fun a Q => ∃ p q t b : Int, a = [.d (.tuple [.int p, .int q]), .d (.int t), .d (.int b)] ∧ RatOk p q t b ∧ Bd 3000 p ∧ Bd 3000 q ∧ Bd 6000 t ∧ Bd 6000 b ∧ ret Q (.d (.bool true))
theorem TE_law_is {p q t b : Int} {Q : S → Dl.Ctx → Prop} : T_law_is [.d (.tuple [.int p, .int q]), .d (.int t), .d (.int b)] Q = (RatOk p q t b ∧ Bd 3000 p ∧ Bd 3000 q ∧ Bd 6000 t ∧ Bd 6000 b ∧ ret Q (.d (.bool true))) := propext ⟨fun ⟨_, _, _, _, e, q⟩ => by cases e; exact q, fun q => ⟨_, _, _, _, rfl, q⟩⟩
theorem sc_law_is : FnScope ["found", "top", "bottom", "one"] ["found", "top", "bottom"] (defScope (topS 12)) := ⟨rfl, rfl, rfl, by decide +kernel, rfl, by decide +kernel, by decide +kernel⟩
local macro_rules | `(tactic| walk_at "wpt") => `(tactic| simp (maxSteps := 1000000) only [↓TE_law_divisor, ↓reduceIte, ↓asI_i, ↓asB_b, ↓asS_s, ↓asL_l, ↓asT_t, ↓slD_0, ↓slD_s, ↓slO_0, ↓slO_s, ↓asR_l, ↓fAdd_i, ↓fAdd_s, ↓ixD_l, ↓ixD_t, ↓ixD_s, ↓arg1_1, ↓arg2_2, ↓fLen1_l, ↓fLen1_t, ↓fLen1_s, ↓asC_c, ↓asQ_l, ↓asQ_t, ↓asQ_s, ↓kD_d, ↓kD_o, ↓kO_o, ↓fz_l, ↓fz_P, ↓ret_d, ↓ret_o, ↓ret_O, ↓retL_d, ↓retL_o, ↓retL_O, ↓atD_0, ↓atD_1, ↓atD_2, ↓atD_3, ↓atD_b1, ↓atD_b2, ↓atD_b3, ↓ixP_30, ↓ixP_31, ↓ixP_32, ↓if_true, ↓if_false, zNext, zSeq, zSet, zSetO, zDrop, zRet, zRetO, zRetP, zRetN, zIf, zPar, zAsg, zPut, gN, gsNil, gsCons, gT, uVar, uC, uFz, u2, fI, fI0, fEq, uIxO, uOwn, uCB, oCB, fLen, fLenO, fAbs, wB, wNot, wAnd, wOr, uAnd, uOr, uNot, uIf, aNil, aCons, uTup, oLst, fIx, oVar, iSeq, iR1, iR2, uCall, oCall, uLend, oLend, shaped_iff, sh_non, sh_int, sh_bool, sh_str, eqv_int, eqv_str, eqv_bool, ixN_30, ixN_31, ixN_32, ixN_20, ixN_21, atI_0, atI_1, atI_2, atI_3, atI_b1, atI_b2, atI_b3, List.length_map, Int.reduceEq, forall_const, implies_true, and_assoc, sz_0, sz_1, sz_2, sz_3, sz_4, sz_5, sz_6, sz_7, sz_8, Bool.not_eq_true', beq_eq_false_iff_ne, beq_iff_eq, ne_eq, Bool.and_eq_true, Bool.or_eq_true, decide_eq_false_iff_not, not_false_eq_true, not_true_eq_false, Bool.not_true, Bool.not_false, isI_n, isI_b, isI_i, isI_s, isI_l, isI_t, isB_n, isB_b, isB_i, isB_s, isB_l, isB_t, isS_n, isS_b, isS_i, isS_s, isS_l, isS_t, isL_n, isL_b, isL_i, isL_s, isL_l, isL_t, isT_n, isT_b, isT_i, isT_s, isT_l, isT_t, isN_n, isN_b, isN_i, isN_s, isN_l, isN_t, ca_0, ca_1, ca_2, ca_3, ca_4, ca_5, ca_6, Int.reduceToNat, Int.reducePow, Int.reduceMul, Int.reduceLT, Int.reduceLE, Int.reduceNeg, zFor,   List.replicate, List.length_cons, List.length_nil, List.nil_append, List.cons_append, List.append_nil, List.map_cons, List.map_nil, List.set_cons_zero, List.set_cons_succ, List.getElem?_cons_zero, List.getElem?_cons_succ, Option.some.injEq, S.d.injEq, S.o.injEq, Res.lst.injEq, Res.lstP.injEq, PyData.int.injEq, PyData.str.injEq, PyData.bool.injEq, PyData.list.injEq, PyData.tuple.injEq, List.cons.injEq, reduceCtorEq,   exists_eq_left', exists_eq_left, exists_eq_right, exists_eq_right', true_and, and_true, false_and, and_false, exists_false, false_or, or_false, exists_and_left, exists_and_right, exists_eq', exists_eq, exists_const, Bool.false_eq_true, ite_true, ite_false, decide_eq_true_eq, Nat.sub_self, Nat.zero_add, Nat.add_sub_cancel, Nat.reduceSub, Nat.reduceAdd])
theorem c_law_is {P : Program} {w : World} {K : PySem.W.Frag} {mg : Str → Option Value} {base : Heap} (hb : Bi K mg) (D : Df K mg "_law_is" (topS 12) ["found", "top", "bottom"]) (C__law_divisor : Cal P w K mg base "_law_divisor" 1 ["one", "other"] T_law_divisor) : Cal P w K mg base "_law_is" 2 ["found", "top", "bottom"] T_law_is := by
  obtain ⟨f, fd, F, hm, hB⟩ := D
  refine ⟨f, fd, fn_d (k := 1) F sc_law_is ?hT (fun cdv A outer s H E hr => (q_cons (s_if (DW.dt (w_or (t_not (tv (d_isi (n := "tuple") hb.isinstance hb.tuple bb_tuple (dv 0) kt_tuple))) (w_or1 (t_ne hr.units (d_len hb.len (a_cons (dv 0) a_nil)) d_int))))
 (q_one (s_ret d_bl)) q_nil)
 (q_cons (s_for PassesOwn.never rfl (i_seq (dv 0)) (g_name 3 sc_law_is.nd)
 (q_one (s_if (DW.dt (w_or (t_not (tv (d_isi (n := "int") hb.isinstance hb.int bb_int (dv 3) kt_int))) (w_or1 (tv (d_isi (n := "bool") hb.isinstance hb.bool bb_bool (dv 3) kt_bool)))))
 (q_one (s_ret d_bl)) q_nil)))
 (q_cons (s_if (DW.dt (w_or (t_lt (d_ix (fun _ _ => rfl) (dv 0) d_int) d_int) (w_or1 (t_ne hr.units (d_callC C__law_divisor (hr.mono (by decide)) (a_cons (d_ix (fun _ _ => rfl) (dv 0) d_int) (a_cons (d_ix (fun _ _ => rfl) (dv 0) d_int) a_nil))) d_int))))
 (q_one (s_ret d_bl)) q_nil)
 (q_one (s_ret (d_eq hr.units (d_mul (d_ix (fun _ _ => rfl) (dv 0) d_int) (dv 2)) (d_mul (dv 1) (d_ix (fun _ _ => rfl) (dv 0) d_int))))))))), hm, F.kp, hB⟩
  case hT =>
    intro a Q h
    obtain ⟨p, q, t, b, rfl, ok, bp, bq, bt, bb, k⟩ := h
    refine ⟨rfl, ?_⟩
    walk_at "wpt"
    refine loop_by (fun _ c => ∃ x, c = [.d (.tuple [.int p, .int q]), .d (.int t), .d (.int b), x]) ⟨_, rfl⟩ ?_ ?_
    · rintro i y c N hy ⟨x, rfl⟩ hN
      have hy := List.mem_of_getElem? hy
      simp only [List.mem_cons, List.not_mem_nil, or_false] at hy
      rcases hy with rfl | rfl <;> walk_at "wpt" <;> exact hN _ ⟨_, rfl⟩
    · rintro c ⟨x, rfl⟩
      walk_at "wpt"
      have h1 := ok.pos
      rw [if_neg (by omega), if_neg (by rw [ok.low]; decide), ok.same]
      refine ⟨mulA_b bp bb (by decide), mulA_b bt bq (by decide), ?_⟩
      rw [beq_self_eq_true]
      exact k _

def T_law_made : TF := fun a Q => ∃ (v : V), a = [.o (some v) (.lstP FeedP)] ∧ ∀ t b : Int, Bd 200 t → Bd 200 b → b ≠ 0 → retL v (.lstP FeedP) Q (.d (.tuple [.int t, .int b]))
theorem TE_law_made {v : V} {Q : S → Dl.Ctx → Prop} : T_law_made [.o (some v) (.lstP FeedP)] Q = ∀ t b : Int, Bd 200 t → Bd 200 b → b ≠ 0 → retL v (.lstP FeedP) Q (.d (.tuple [.int t, .int b])) := propext ⟨fun ⟨_, e, q⟩ => by cases e; exact q, fun q => ⟨_, rfl, q⟩⟩
theorem sc_law_made : FnScope ["feed", "bottom", "factor"] ["feed"] (defScope (topS 13)) := ⟨rfl, rfl, rfl, by decide +kernel, rfl, by decide +kernel, by decide +kernel⟩
local macro_rules | `(tactic| walk_at "wpt") => `(tactic| simp (maxSteps := 1000000) only [↓TE_law_number, ↓reduceIte, ↓asI_i, ↓asB_b, ↓asS_s, ↓asL_l, ↓asT_t, ↓slD_0, ↓slD_s, ↓slO_0, ↓slO_s, ↓asR_l, ↓fAdd_i, ↓fAdd_s, ↓ixD_l, ↓ixD_t, ↓ixD_s, ↓arg1_1, ↓arg2_2, ↓fLen1_l, ↓fLen1_t, ↓fLen1_s, ↓asC_c, ↓asQ_l, ↓asQ_t, ↓asQ_s, ↓kD_d, ↓kD_o, ↓kO_o, ↓fz_l, ↓fz_P, ↓ret_d, ↓ret_o, ↓ret_O, ↓retL_d, ↓retL_o, ↓retL_O, ↓atD_0, ↓atD_1, ↓atD_2, ↓atD_3, ↓atD_b1, ↓atD_b2, ↓atD_b3, ↓ixP_30, ↓ixP_31, ↓ixP_32, ↓if_true, ↓if_false, zNext, zSeq, zSet, zSetO, zDrop, zRet, zRetO, zRetP, zRetN, zIf, zPar, zAsg, zPut, gN, gsNil, gsCons, gT, uVar, uC, uFz, u2, fI, fI0, fEq, uIxO, uOwn, uCB, oCB, fLen, fLenO, fAbs, wB, wNot, wAnd, wOr, uAnd, uOr, uNot, uIf, aNil, aCons, uTup, oLst, fIx, oVar, iSeq, iR1, iR2, uCall, oCall, uLend, oLend, shaped_iff, sh_non, sh_int, sh_bool, sh_str, eqv_int, eqv_str, eqv_bool, ixN_30, ixN_31, ixN_32, ixN_20, ixN_21, atI_0, atI_1, atI_2, atI_3, atI_b1, atI_b2, atI_b3, List.length_map, Int.reduceEq, forall_const, implies_true, and_assoc, sz_0, sz_1, sz_2, sz_3, sz_4, sz_5, sz_6, sz_7, sz_8, Bool.not_eq_true', beq_eq_false_iff_ne, beq_iff_eq, ne_eq, Bool.and_eq_true, Bool.or_eq_true, decide_eq_false_iff_not, not_false_eq_true, not_true_eq_false, Bool.not_true, Bool.not_false, isI_n, isI_b, isI_i, isI_s, isI_l, isI_t, isB_n, isB_b, isB_i, isB_s, isB_l, isB_t, isS_n, isS_b, isS_i, isS_s, isS_l, isS_t, isL_n, isL_b, isL_i, isL_s, isL_l, isL_t, isT_n, isT_b, isT_i, isT_s, isT_l, isT_t, isN_n, isN_b, isN_i, isN_s, isN_l, isN_t, ca_0, ca_1, ca_2, ca_3, ca_4, ca_5, ca_6, Int.reduceToNat, Int.reducePow, Int.reduceMul, Int.reduceLT, Int.reduceLE, Int.reduceNeg, zFor,   List.replicate, List.length_cons, List.length_nil, List.nil_append, List.cons_append, List.append_nil, List.map_cons, List.map_nil, List.set_cons_zero, List.set_cons_succ, List.getElem?_cons_zero, List.getElem?_cons_succ, Option.some.injEq, S.d.injEq, S.o.injEq, Res.lst.injEq, Res.lstP.injEq, PyData.int.injEq, PyData.str.injEq, PyData.bool.injEq, PyData.list.injEq, PyData.tuple.injEq, List.cons.injEq, reduceCtorEq,   exists_eq_left', exists_eq_left, exists_eq_right, exists_eq_right', true_and, and_true, false_and, and_false, exists_false, false_or, or_false, exists_and_left, exists_and_right, exists_eq', exists_eq, exists_const, Bool.false_eq_true, ite_true, ite_false, decide_eq_true_eq, Nat.sub_self, Nat.zero_add, Nat.add_sub_cancel, Nat.reduceSub, Nat.reduceAdd])
theorem c_law_made {P : Program} {w : World} {K : PySem.W.Frag} {mg : Str → Option Value} {base : Heap} (hb : Bi K mg) (D : Df K mg "_law_made" (topS 13) ["feed"]) (C__law_number : Cal P w K mg base "_law_number" 3 ["feed"] T_law_number) : Cal P w K mg base "_law_made" 4 ["feed"] T_law_made := by
  obtain ⟨f, fd, F, hm, hB⟩ := D
  refine ⟨f, fd, fn_d (k := 3) F sc_law_made ?hT (fun cdv A outer s H E hr => (q_cons (s_set (j := 1) sc_law_made.nd (d_lendC 0 C__law_number (hr.mono (by decide)) a_nil))
 (q_cut (s_if (t_eq hr.units (dv 1) d_int)
 (q_one (s_set (j := 1) sc_law_made.nd d_int)) q_nil)
 (q_cons (s_set (j := 2) sc_law_made.nd (d_lendC 0 C__law_number (hr.mono (by decide)) a_nil))
 (q_cut (s_if (t_eq hr.units (dv 2) d_int)
 (q_one (s_set (j := 2) sc_law_made.nd (d_neg d_int))) q_nil)
 (q_one (s_ret (d_tup (a_cons (d_mul (d_lendC 0 C__law_number (hr.mono (by decide)) a_nil) (dv 2)) (a_cons (d_mul (dv 1) (dv 2)) a_nil)))))))))), hm, F.kp, hB⟩
  case hT =>
    intro a Q h
    obtain ⟨v, rfl, q⟩ := h
    refine ⟨rfl, ?_⟩
    walk_at "wpt"
    intro b0 hb0
    refine cut_by (fun c => ∃ b : Int, Bd 100 b ∧ b ≠ 0 ∧ c = [.o (some v) (.lstP FeedP), .d (.int b), .no]) ?_ ?_
    · intro N hN
      walk_at "wpt"
      split
      · exact hN _ ⟨1, by decide, by decide, rfl⟩
      · exact hN _ ⟨b0, hb0, by assumption, rfl⟩
    rintro c ⟨b, hb, b1, rfl⟩
    walk_at "wpt"
    intro f0 hf0
    refine cut_by (fun c => ∃ f : Int, Bd 100 f ∧ f ≠ 0 ∧ c = [.o (some v) (.lstP FeedP), .d (.int b), .d (.int f)]) ?_ ?_
    · intro N hN
      walk_at "wpt"
      split
      · exact hN _ ⟨-1, by decide, by decide, rfl⟩
      · exact hN _ ⟨f0, hf0, by assumption, rfl⟩
    rintro c ⟨f, hf, f1, rfl⟩
    walk_at "wpt"
    intro n hn
    exact ⟨mulA_b hn hf (by decide), mulA_b hb hf (by decide), q _ _ (bd_mul hn hf) (bd_mul hb hf) (mul_ne b1 f1) _ rfl⟩

def T_law : TF := fun a Q => ∃ ns : List Int, a = [.d (.list (ns.map PyData.int))] ∧ ret Q (.d (.bool true))
theorem law_ok : TLaw T_law := fun ns Q _ q => ⟨ns, rfl, q⟩
theorem sc_law : FnScope ["script", "k", "feed", "one", "other", "left", "right", "bottom", "tops", "found"] ["script"] (defScope (topS 14)) := ⟨rfl, rfl, rfl, by decide +kernel, rfl, by decide +kernel, by decide +kernel⟩
local macro_rules | `(tactic| walk_at "wpt") => `(tactic| simp (maxSteps := 1000000) only [↓TE_less, ↓TE_law_is, ↓TE_minus, ↓TE_plus, ↓TE_ratio, ↓TE_law_next, ↓TE_law_made, ↓TE_law_feed, ↓reduceIte, ↓asI_i, ↓asB_b, ↓asS_s, ↓asL_l, ↓asT_t, ↓slD_0, ↓slD_s, ↓slO_0, ↓slO_s, ↓asR_l, ↓fAdd_i, ↓fAdd_s, ↓ixD_l, ↓ixD_t, ↓ixD_s, ↓arg1_1, ↓arg2_2, ↓fLen1_l, ↓fLen1_t, ↓fLen1_s, ↓asC_c, ↓asQ_l, ↓asQ_t, ↓asQ_s, ↓kD_d, ↓kD_o, ↓kO_o, ↓fz_l, ↓fz_P, ↓ret_d, ↓ret_o, ↓ret_O, ↓retL_d, ↓retL_o, ↓retL_O, ↓atD_0, ↓atD_1, ↓atD_2, ↓atD_3, ↓atD_b1, ↓atD_b2, ↓atD_b3, ↓ixP_30, ↓ixP_31, ↓ixP_32, ↓if_true, ↓if_false, zNext, zSeq, zSet, zSetO, zDrop, zRet, zRetO, zRetP, zRetN, zIf, zPar, zAsg, zPut, gN, gsNil, gsCons, gT, uVar, uC, uFz, u2, fI, fI0, fEq, uIxO, uOwn, uCB, oCB, fLen, fLenO, fAbs, wB, wNot, wAnd, wOr, uAnd, uOr, uNot, uIf, aNil, aCons, uTup, oLst, fIx, oVar, iSeq, iR1, iR2, uCall, oCall, uLend, oLend, shaped_iff, sh_non, sh_int, sh_bool, sh_str, eqv_int, eqv_str, eqv_bool, ixN_30, ixN_31, ixN_32, ixN_20, ixN_21, atI_0, atI_1, atI_2, atI_3, atI_b1, atI_b2, atI_b3, List.length_map, Int.reduceEq, forall_const, implies_true, and_assoc, sz_0, sz_1, sz_2, sz_3, sz_4, sz_5, sz_6, sz_7, sz_8, Bool.not_eq_true', beq_eq_false_iff_ne, beq_iff_eq, ne_eq, Bool.and_eq_true, Bool.or_eq_true, decide_eq_false_iff_not, not_false_eq_true, not_true_eq_false, Bool.not_true, Bool.not_false, isI_n, isI_b, isI_i, isI_s, isI_l, isI_t, isB_n, isB_b, isB_i, isB_s, isB_l, isB_t, isS_n, isS_b, isS_i, isS_s, isS_l, isS_t, isL_n, isL_b, isL_i, isL_s, isL_l, isL_t, isT_n, isT_b, isT_i, isT_s, isT_l, isT_t, isN_n, isN_b, isN_i, isN_s, isN_l, isN_t, ca_0, ca_1, ca_2, ca_3, ca_4, ca_5, ca_6, Int.reduceToNat, Int.reducePow, Int.reduceMul, Int.reduceLT, Int.reduceLE, Int.reduceNeg, zFor,   List.replicate, List.length_cons, List.length_nil, List.nil_append, List.cons_append, List.append_nil, List.map_cons, List.map_nil, List.set_cons_zero, List.set_cons_succ, List.getElem?_cons_zero, List.getElem?_cons_succ, Option.some.injEq, S.d.injEq, S.o.injEq, Res.lst.injEq, Res.lstP.injEq, PyData.int.injEq, PyData.str.injEq, PyData.bool.injEq, PyData.list.injEq, PyData.tuple.injEq, List.cons.injEq, reduceCtorEq,   exists_eq_left', exists_eq_left, exists_eq_right, exists_eq_right', true_and, and_true, false_and, and_false, exists_false, false_or, or_false, exists_and_left, exists_and_right, exists_eq', exists_eq, exists_const, Bool.false_eq_true, ite_true, ite_false, decide_eq_true_eq, Nat.sub_self, Nat.zero_add, Nat.add_sub_cancel, Nat.reduceSub, Nat.reduceAdd])
theorem f_law {P : Program} {w : World} {K : PySem.W.Frag} {mg : Str → Option Value} {base : Heap} {f : Addr} {fd : FuncData} (hb : Bi K mg) (F : Fun K "law" "law" (topS 14) f fd) (C_less : Cal P w K mg base "less" 1 ["one", "other"] T_less) (C__law_is : Cal P w K mg base "_law_is" 2 ["found", "top", "bottom"] T_law_is) (C_minus : Cal P w K mg base "minus" 3 ["one", "other"] T_minus) (C_plus : Cal P w K mg base "plus" 3 ["one", "other"] T_plus) (C_ratio : Cal P w K mg base "ratio" 2 ["top", "bottom"] T_ratio) (C__law_next : Cal P w K mg base "_law_next" 2 ["feed", "many"] T_law_next) (C__law_made : Cal P w K mg base "_law_made" 4 ["feed"] T_law_made) (C__law_feed : Cal P w K mg base "_law_feed" 1 ["script", "k"] T_law_feed) : FnOk P w K mg base CX0 5 f fd ["script"] (SpD K T_law) := by
  refine fn_d (k := 4) F sc_law ?hT (fun cdv A outer s H E hr => (q_cons (s_for PassesOwn.never rfl (i_range1 hb.range d_int) (g_name 1 sc_law.nd)
 (q_cons (s_setO (j := 2) sc_law.nd (o_callC C__law_feed (hr.mono (by decide)) (a_cons (dv 0) (a_cons (d_add d_int (dv 1)) a_nil))))
 (q_cons (s_set (j := 3) sc_law.nd (d_lendC 2 C__law_made (hr.mono (by decide)) a_nil))
 (q_cons (s_set (j := 4) sc_law.nd (d_lendC 2 C__law_made (hr.mono (by decide)) a_nil))
 (q_cut (s_if (t_eq hr.units (d_lendC 2 C__law_next (hr.mono (by decide)) (a_cons d_int a_nil)) d_int)
 (q_one (s_set (j := 4) sc_law.nd (d_tup (a_cons (d_mul (d_ix (fun _ _ => rfl) (dv 3) d_int) d_int) (a_cons (d_mul (d_ix (fun _ _ => rfl) (dv 3) d_int) d_int) a_nil))))) q_nil)
 (q_cons (s_set (j := 5) sc_law.nd (d_callC C_ratio (hr.mono (by decide)) (a_cons (d_ix (fun _ _ => rfl) (dv 3) d_int) (a_cons (d_ix (fun _ _ => rfl) (dv 3) d_int) a_nil))))
 (q_cons (s_set (j := 6) sc_law.nd (d_callC C_ratio (hr.mono (by decide)) (a_cons (d_ix (fun _ _ => rfl) (dv 4) d_int) (a_cons (d_ix (fun _ _ => rfl) (dv 4) d_int) a_nil))))
 (q_cons (s_if (DW.dt (w_or (t_not (tv (d_callC C__law_is (hr.mono (by decide)) (a_cons (dv 5) (a_cons (d_ix (fun _ _ => rfl) (dv 3) d_int) (a_cons (d_ix (fun _ _ => rfl) (dv 3) d_int) a_nil)))))) (w_or1 (t_not (tv (d_callC C__law_is (hr.mono (by decide)) (a_cons (dv 6) (a_cons (d_ix (fun _ _ => rfl) (dv 4) d_int) (a_cons (d_ix (fun _ _ => rfl) (dv 4) d_int) a_nil)))))))))
 (q_one (s_ret d_bl)) q_nil)
 (q_cons (s_set (j := 7) sc_law.nd (d_mul (d_ix (fun _ _ => rfl) (dv 5) d_int) (d_ix (fun _ _ => rfl) (dv 6) d_int)))
 (q_cons (s_set (j := 8) sc_law.nd (d_tup (a_cons (d_mul (d_ix (fun _ _ => rfl) (dv 5) d_int) (d_ix (fun _ _ => rfl) (dv 6) d_int)) (a_cons (d_mul (d_ix (fun _ _ => rfl) (dv 6) d_int) (d_ix (fun _ _ => rfl) (dv 5) d_int)) a_nil))))
 (q_cons (s_if (t_not (tv (d_callC C__law_is (hr.mono (by decide)) (a_cons (d_callC C_plus (hr.mono (by decide)) (a_cons (dv 5) (a_cons (dv 6) a_nil))) (a_cons (d_add (d_ix (fun _ _ => rfl) (dv 8) d_int) (d_ix (fun _ _ => rfl) (dv 8) d_int)) (a_cons (dv 7) a_nil))))))
 (q_one (s_ret d_bl)) q_nil)
 (q_cons (s_if (t_not (tv (d_callC C__law_is (hr.mono (by decide)) (a_cons (d_callC C_minus (hr.mono (by decide)) (a_cons (dv 5) (a_cons (dv 6) a_nil))) (a_cons (d_sub (d_ix (fun _ _ => rfl) (dv 8) d_int) (d_ix (fun _ _ => rfl) (dv 8) d_int)) (a_cons (dv 7) a_nil))))))
 (q_one (s_ret d_bl)) q_nil)
 (q_cons (s_set (j := 9) sc_law.nd (d_callC C_less (hr.mono (by decide)) (a_cons (dv 5) (a_cons (dv 6) a_nil))))
 (q_one (s_if (DW.dt (w_or (t_not (tv (d_isi (n := "bool") hb.isinstance hb.bool bb_bool (dv 9) kt_bool))) (w_or1 (t_ne hr.units (dv 9) (d_lt (d_ix (fun _ _ => rfl) (dv 8) d_int) (d_ix (fun _ _ => rfl) (dv 8) d_int))))))
 (q_one (s_ret d_bl)) q_nil)))))))))))))))
 (q_one (s_ret d_bl))))
  case hT =>
    intro a Q h
    obtain ⟨ns, rfl, q⟩ := h
    refine ⟨rfl, ?_⟩
    walk_at "wpt"
    refine loop_by (fun _ c => ∃ x1 x2 x3 x4 x5 x6 x7 x8 x9, c = [.d (.list (ns.map PyData.int)), x1, x2, x3, x4, x5, x6, x7, x8, x9]) ⟨_, _, _, _, _, _, _, _, _, rfl⟩ ?_ ?_
    · rintro i y c N hy ⟨x1, x2, x3, x4, x5, x6, x7, x8, x9, rfl⟩ hN
      obtain ⟨hi, rfl⟩ := rngD_get hy
      walk_at "wpt"
      refine ⟨by omega, fun t b ht hb b0 t2 b2 ht2 hb2 b20 => ?_⟩
      refine cut_by (fun c => ∃ t' b' : Int, Bd 210 t' ∧ Bd 210 b' ∧ b' ≠ 0 ∧ ∃ x1 x2 x5 x6 x7 x8 x9, c = [.d (.list (ns.map PyData.int)), x1, x2, .d (.tuple [.int t, .int b]), .d (.tuple [.int t', .int b']), x5, x6, x7, x8, x9]) ?_ ?_
      · intro M hM
        walk_at "wpt"
        refine ⟨by decide, fun r _ _ => ?_⟩
        split
        · exact ⟨mulA_r (by decide) (by decide), mulA_r (by decide) (by decide), hM _ ⟨_, _, (bd_mul (m := 2) ht (by decide)).mono (by decide), (bd_mul (m := 2) hb (by decide)).mono (by decide), mul_ne b0 (by decide), _, _, _, _, _, _, _, rfl⟩⟩
        · exact hM _ ⟨_, _, ht2.mono (by decide), hb2.mono (by decide), b20, _, _, _, _, _, _, _, rfl⟩
      · rintro c ⟨t', b', ht', hb', b1, x1, x2, x5, x6, x7, x8, x9, rfl⟩
        walk_at "wpt"
        have okA := ratN_ok (i := t) b0
        have okB := ratN_ok (i := t') b1
        obtain ⟨A1, A2⟩ := ratN_bd (n := 210) (m := 210) b0 (ht.mono (by decide)) (hb.mono (by decide))
        obtain ⟨B1, B2⟩ := ratN_bd (n := 210) (m := 210) b1 ht' hb'
        generalize (ratN t b).1 = p at *
        generalize (ratN t b).2 = q1 at *
        generalize (ratN t' b').1 = r at *
        generalize (ratN t' b').2 = s at *
        have p1 := okA.pos
        have p2 := okB.pos
        have q10 : ¬ q1 = 0 := by omega
        have s0 : ¬ s = 0 := by omega
        have qs := mul_ne q10 s0
        have bqs := bd_mul A2 B2
        have badd := bd_add (bd_mul A1 B2) (bd_mul B1 A2)
        have bsub := bd_sub (bd_mul A1 B2) (bd_mul B1 A2)
        have okC := ratN_ok (i := p * s + r * q1) qs
        have okD := ratN_ok (i := p * s - r * q1) qs
        obtain ⟨C1, C2⟩ := ratN_bd qs badd bqs
        obtain ⟨D1, D2⟩ := ratN_bd qs bsub bqs
        have m1 := mulA_b A2 B2 (by decide)
        have m2 := mulA_b A1 B2 (by decide)
        have m3 := mulA_b B1 A2 (by decide)
        and_intros <;> first | assumption | exact hb.mono (by decide) | exact ht.mono (by decide) | exact hb'.mono (by decide) | exact ht'.mono (by decide) | exact A1.mono (by decide) | exact A2.mono (by decide) | exact B1.mono (by decide) | exact B2.mono (by decide) | exact C1.mono (by decide) | exact C2.mono (by decide) | exact D1.mono (by decide) | exact D2.mono (by decide) | exact badd.mono (by decide) | exact bsub.mono (by decide) | exact bqs.mono (by decide) | skip
        exact hN _ ⟨_, _, _, _, _, _, _, _, _, rfl⟩
    · rintro c ⟨x1, x2, x3, x4, x5, x6, x7, x8, x9, rfl⟩
      walk_at "wpt"
      exact q _

def fnsL : List He.DefD := [⟨("common", none), "common", "common", defArgs (topS 1), defBody (topS 1), defScope (topS 1), [], []⟩, ⟨("ratio", none), "ratio", "ratio", defArgs (topS 2), defBody (topS 2), defScope (topS 2), [], []⟩, ⟨("plus", none), "plus", "plus", defArgs (topS 3), defBody (topS 3), defScope (topS 3), [], []⟩, ⟨("minus", none), "minus", "minus", defArgs (topS 4), defBody (topS 4), defScope (topS 4), [], []⟩, ⟨("less", none), "less", "less", defArgs (topS 5), defBody (topS 5), defScope (topS 5), [], []⟩, ⟨("_law_draw", none), "_law_draw", "_law_draw", defArgs (topS 7), defBody (topS 7), defScope (topS 7), [], []⟩, ⟨("_law_feed", none), "_law_feed", "_law_feed", defArgs (topS 8), defBody (topS 8), defScope (topS 8), [], []⟩, ⟨("_law_next", none), "_law_next", "_law_next", defArgs (topS 9), defBody (topS 9), defScope (topS 9), [], []⟩, ⟨("_law_number", none), "_law_number", "_law_number", defArgs (topS 10), defBody (topS 10), defScope (topS 10), [], []⟩, ⟨("_law_divisor", none), "_law_divisor", "_law_divisor", defArgs (topS 11), defBody (topS 11), defScope (topS 11), [], []⟩, ⟨("_law_is", none), "_law_is", "_law_is", defArgs (topS 12), defBody (topS 12), defScope (topS 12), [], []⟩, ⟨("_law_made", none), "_law_made", "_law_made", defArgs (topS 13), defBody (topS 13), defScope (topS 13), [], []⟩, ⟨("law", none), "law", "law", defArgs (topS 14), defBody (topS 14), defScope (topS 14), [], []⟩]
def facL : List He.Fa := [.glo "common", .glo "ratio", .glo "plus", .glo "minus", .glo "less", .glo "_law_draw", .glo "_law_feed", .glo "_law_next", .glo "_law_number", .glo "_law_divisor", .glo "_law_is", .glo "_law_made", .glo "law", .free "abs", .free "bool", .free "int", .free "isinstance", .free "len", .free "range", .free "tuple"]
abbrev rowL : PySem.W.OpenRow := PySem.W.OpenLaw.row PySem.Challenge.rw_bores_k08_ratios
abbrev hookL : PySem.W.Hook := He.hookD 4 facL fnsL
def obL (s : PySem.W.SharedT) : He.AlD := He.obsDG 4 facL fnsL (HandSHeadRun.getT s)
theorem obL_eq (s : PySem.W.SharedT) : obL s = hookL.obs s.abs := He.obsDG_eq (HandSHeadRun.getT_eq s)
theorem runL (w : World) : HandSHeadRun.RunEq rowL (PySem.W.view rowL.prog [14]) hookL obL 4000 ["common", "ratio", "plus", "minus", "less", "_law_draw", "_law_feed", "_law_next", "_law_number", "_law_divisor", "_law_is", "_law_made"] w := by
  intro os
  kernel_rfl
theorem factsL {P : Program} {w : World} {K : PySem.W.Frag} {h : Heap} {mg : Str → Option Value} {fa : Addr} (X : K.In h) (G : h.Ns mainGlobals mg) (hfa : mg "law" = some (.ref fa)) (c : He.SaysD facL fnsL K) :
    ∃ (fd : FuncData) (sp : Sp), (∀ (s : Shared) (u : Value), BindsTo s fd ⟨[u], []⟩ [("script", u)]) ∧ (∀ (H : Hp) (a : Addr) (ns : List Int), ns.length ≤ 63 → Only H → SqL K H a (ns.map V.int) → sp [.ref a] H (fun v _ => v = .bl true) fun _ _ _ => False) ∧
      ∀ base : Heap, K.In base → base.Ns mainGlobals mg → FnOk P w K mg base CX0 5 fa fd ["script"] sp := by
  have hb : Bi K mg := ⟨He.free_ok X G (c.fact 13 (f := .free "abs") rfl), He.free_ok X G (c.fact 14 (f := .free "bool") rfl), He.free_ok X G (c.fact 15 (f := .free "int") rfl), He.free_ok X G (c.fact 16 (f := .free "isinstance") rfl), He.free_ok X G (c.fact 17 (f := .free "len") rfl), He.free_ok X G (c.fact 18 (f := .free "range") rfl), He.free_ok X G (c.fact 19 (f := .free "tuple") rfl)⟩
  have D_common : Df K mg "common" (topS 1) ["one", "other"] := df_of X G c 0 0 rfl rfl (fun _ _ _ _ _ _ us hl => match us, hl with | [_, _], _ => rfl)
  have D_ratio : Df K mg "ratio" (topS 2) ["top", "bottom"] := df_of X G c 1 1 rfl rfl (fun _ _ _ _ _ _ us hl => match us, hl with | [_, _], _ => rfl)
  have D_plus : Df K mg "plus" (topS 3) ["one", "other"] := df_of X G c 2 2 rfl rfl (fun _ _ _ _ _ _ us hl => match us, hl with | [_, _], _ => rfl)
  have D_minus : Df K mg "minus" (topS 4) ["one", "other"] := df_of X G c 3 3 rfl rfl (fun _ _ _ _ _ _ us hl => match us, hl with | [_, _], _ => rfl)
  have D_less : Df K mg "less" (topS 5) ["one", "other"] := df_of X G c 4 4 rfl rfl (fun _ _ _ _ _ _ us hl => match us, hl with | [_, _], _ => rfl)
  have D__law_draw : Df K mg "_law_draw" (topS 7) ["script", "k", "many"] := df_of X G c 5 5 rfl rfl (fun _ _ _ _ _ _ us hl => match us, hl with | [_, _, _], _ => rfl)
  have D__law_feed : Df K mg "_law_feed" (topS 8) ["script", "k"] := df_of X G c 6 6 rfl rfl (fun _ _ _ _ _ _ us hl => match us, hl with | [_, _], _ => rfl)
  have D__law_next : Df K mg "_law_next" (topS 9) ["feed", "many"] := df_of X G c 7 7 rfl rfl (fun _ _ _ _ _ _ us hl => match us, hl with | [_, _], _ => rfl)
  have D__law_number : Df K mg "_law_number" (topS 10) ["feed"] := df_of X G c 8 8 rfl rfl (fun _ _ _ _ _ _ us hl => match us, hl with | [_], _ => rfl)
  have D__law_divisor : Df K mg "_law_divisor" (topS 11) ["one", "other"] := df_of X G c 9 9 rfl rfl (fun _ _ _ _ _ _ us hl => match us, hl with | [_, _], _ => rfl)
  have D__law_is : Df K mg "_law_is" (topS 12) ["found", "top", "bottom"] := df_of X G c 10 10 rfl rfl (fun _ _ _ _ _ _ us hl => match us, hl with | [_, _, _], _ => rfl)
  have D__law_made : Df K mg "_law_made" (topS 13) ["feed"] := df_of X G c 11 11 rfl rfl (fun _ _ _ _ _ _ us hl => match us, hl with | [_], _ => rfl)
  have D_law : Df K mg "law" (topS 14) ["script"] := df_of X G c 12 12 rfl rfl (fun _ _ _ _ _ _ us hl => match us, hl with | [_], _ => rfl)
  refine law_end law_ok D_law hfa (fun _ _ _ _ _ _ _ => rfl) fun base hX hG f fd F => ?_
  have C_common := c_common (P := P) (w := w) (base := base) hb D_common 
  have C_ratio := c_ratio (P := P) (w := w) (base := base) hb D_ratio C_common
  have C_plus := c_plus (P := P) (w := w) (base := base) hb D_plus C_ratio
  have C_minus := c_minus (P := P) (w := w) (base := base) hb D_minus C_ratio
  have C_less := c_less (P := P) (w := w) (base := base) hb D_less 
  have C__law_draw := c_law_draw (P := P) (w := w) (base := base) hb D__law_draw 
  have C__law_feed := c_law_feed (P := P) (w := w) (base := base) hb D__law_feed 
  have C__law_next := c_law_next (P := P) (w := w) (base := base) hb D__law_next C__law_draw
  have C__law_number := c_law_number (P := P) (w := w) (base := base) hb D__law_number C__law_next
  have C__law_divisor := c_law_divisor (P := P) (w := w) (base := base) hb D__law_divisor 
  have C__law_is := c_law_is (P := P) (w := w) (base := base) hb D__law_is C__law_divisor
  have C__law_made := c_law_made (P := P) (w := w) (base := base) hb D__law_made C__law_number
  exact f_law hb F C_less C__law_is C_minus C_plus C_ratio C__law_next C__law_made C__law_feed
end Bores
open PySem PySem.W PySem.Calls PyProof.Rows
set_option maxHeartbeats 0 in
theorem PySem.Challenge.cw_bores_k08_ratios_holds : PySem.Challenge.rw_bores_k08_ratios.Holds := by
  w_on; o_law
  refine HandSHeadRun.head_any (r := Bores.rowL) (q := view Bores.rowL.prog [14]) (H := Bores.hookL) (ob := Bores.obL) (M := 4000) (loose := ["common", "ratio", "plus", "minus", "less", "_law_draw", "_law_feed", "_law_next", "_law_number", "_law_divisor", "_law_is", "_law_made"]) (d := HandSHeadRun.topDef Bores.rowL.prog 14) (kwd := []) Bores.obL_eq
    (by kernel_rfl) (fun s => by kernel_rfl) Bores.runL (by kernel_rfl) (by kernel_rfl) (by kernel_rfl) (by rfl) (by first | assumption | decide +kernel) (by decide +kernel) ⟨rfl, rfl, rfl, rfl, rfl, by decide +kernel⟩ ?hw ?hc
  case hw => w_witness2
  case hc =>
    refine L2.walk_ofE (l := PySem.Challenge.rw_bores_k08_ratios) (n := 63) (k := 5) (x := "script") (CX := L2.CX0) rfl (by decide) (by kernel_rfl) ⟨rfl, by decide, by decide⟩ ?F (fun _ _ _ _ z => z)
    intro w mg fa h Y G hmg0
    obtain ⟨K, KX, c⟩ := Y
    have hmg : mg ("law" : PySem.Str) = some (.ref fa) := by
      have e : (HandSHeadRun.topDef Bores.rowL.prog 14).name = ("law" : PySem.Str) := by kernel_rfl
      exact e ▸ hmg0
    obtain ⟨fd, sp, b1, b2, b3⟩ := Bores.factsL (P := (PySem.Challenge.rw_bores_k08_ratios).prog) (w := w) KX G hmg c
    exact ⟨K, fd, sp, KX, b1, b2, b3⟩
